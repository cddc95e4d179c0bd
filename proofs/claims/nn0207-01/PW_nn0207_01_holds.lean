import PyProof.Rows.All
import Wide.All
import OpenK.AllK
import Wide.FinOn
import PySem.Challenge.RW_nn0207_01
set_option Elab.async false
set_option maxRecDepth 100000
set_option rowWalk.seconds 1700
namespace Mine
local macro_rules | `(tactic| walk_at $s:str) => `(tactic| k_extra $s)
local macro_rules | `(tactic| k_qdec) => `(tactic| decide +kernel)
local macro_rules | `(tactic| k_in) => `(tactic| k_extra "k_in")
local macro_rules | `(tactic| k_mem) => `(tactic| k_extra "k_mem")
local macro_rules | `(tactic| k_ne) => `(tactic| k_extra "k_ne")
local macro_rules | `(tactic| k_upd) => `(tactic| k_extra "k_upd")
local macro_rules | `(tactic| ktr_room) => `(tactic| k_extra "ktr_room")
local macro_rules | `(tactic| ktr_units) => `(tactic| k_extra "ktr_units")
local macro_rules | `(tactic| mul_fits) => `(tactic| k_extra "mul_fits")
section
open PySem PySem.W PyProof.Rows PySem.Calls PySem.Spec
theorem Ksid : True := by
  k_with_none
  k_with "sid" => ((case kB => k_asm); (case kF => k_asm); (case kX => k_asm); (case kN => k_asm); (case kT => k_asm); (case kK => first | exact rfl | assumption); (case kd => ktr_room); (case ku => ktr_units))
  k_with "sidT" => ((case kB => k_asm); (case kXB => k_asm); (case kTB => k_asm); (case kG => first | with_reducible assumption | exact GroundOf.refl (by assumption)); (case kF => k_asm); (case kX => k_asm); (case kN => k_asm); (case kT => k_asm); (case kK => first | exact rfl | assumption); (case kd => ktr_room); (case ku => ktr_units))
  trivial
end
section
open PySem PySem.W PyProof.Rows
set_option maxHeartbeats 4000000
noncomputable def pb : List Stmt := PySem.Challenge.pw_nn0207_01.main.body
noncomputable def nthS : List Stmt → Nat → Stmt
  | [], _ => .Pass default
  | s :: _, 0 => s
  | _ :: r, n + 1 => nthS r n
noncomputable def partS : Stmt → Bool × Arguments × List Stmt × Scope
  | .ClassDef _ _ _ b _ _ _ _ _ _ _ => (true, default, b, default)
  | .FunctionDef _ a b _ _ _ sc _ _ _ => (true, a, b, sc)
  | .Assign .. => (false, default, [], default)
  | _ => (true, default, [], default)
noncomputable def clsS (s : Stmt) : List Stmt := (partS s).2.2.1
noncomputable def funS (s : Stmt) : Arguments × List Stmt × Scope := (partS s).2
noncomputable abbrev nI (n : Nat) : Value := .int (.ofNat n) (nat_lit 0)
noncomputable def cdO (n q : Str) (t u l na a e : Nat) (b : Bool) : Obj := .mk (.type "code") .none (.fields (List.toArray [.str n t, .str q (Nat.add t (nat_lit 1)), .str (.ofString "/claim/cut.py") (Nat.add t (nat_lit 2)), nI l, nI na, nI (nat_lit 0), nI (nat_lit 0), nI (nat_lit 3), .ref a, .bool true, nI (nat_lit 181), .ref (Nat.add a (nat_lit 1)), .none, bif b then .ref (Nat.add a (nat_lit 2)) else .none, bif b then .ref (Nat.add a (nat_lit 3)) else .none, .ref e, nI u, nI l, .str (.ofString "/claim/cut.py") (Nat.add u (nat_lit 1))])) #[]
noncomputable def fnO (m : Str) (mt : Nat) (n q : Str) (p : Arguments) (b : List Stmt) (s : Scope) (dv : Value) (c : Nat) : Obj := .mk (.type "function") .none (.func (.mk n q p (.stmts b) s 3 [] dv .none .none (.str m mt) .none (.ref c) .none 0)) #[]
noncomputable def fnA (n q : Str) (p : Arguments) (b : List Stmt) (s : Scope) (c : Nat) : Obj := fnO (.ofString "__main__") 164 n q p b s .none c
noncomputable def fnB (n q : Str) (p : Arguments) (b : List Stmt) (s : Scope) (dv : Value) (c : Nat) : Obj := fnO (.ofString "paperhold.errors") 194 n q p b s dv c
noncomputable def fnD (n q : Str) (p : Arguments) (b : List Stmt) (s : Scope) (c : Nat) : Obj := fnO (.ofString "paperhold.decimals") 236 n q p b s .none c
noncomputable def fnM (n q : Str) (p : Arguments) (b : List Stmt) (s : Scope) (c : Nat) : Obj := fnO (.ofString "paperhold.matrix") 427 n q p b s .none c
noncomputable def fnL (n q : Str) (p : Arguments) (b : List Stmt) (s : Scope) (c : Nat) : Obj := fnO (.ofString "law_nn0207_01") 614 n q p b s .none c
noncomputable def KF : Params → Frag := (fun (p21 : Arguments) (b21 : List Stmt) (s21 : Scope) (p36 : Arguments) (b36 : List Stmt) (s36 : Scope) (p43 : Arguments) (b43 : List Stmt) (s43 : Scope) (p63 : Arguments) (b63 : List Stmt) (s63 : Scope) (p70 : Arguments) (b70 : List Stmt) (s70 : Scope) (p77 : Arguments) (b77 : List Stmt) (s77 : Scope) (p84 : Arguments) (b84 : List Stmt) (s84 : Scope) (p91 : Arguments) (b91 : List Stmt) (s91 : Scope) (p98 : Arguments) (b98 : List Stmt) (s98 : Scope) (p105 : Arguments) (b105 : List Stmt) (s105 : Scope) (p112 : Arguments) (b112 : List Stmt) (s112 : Scope) (p119 : Arguments) (b119 : List Stmt) (s119 : Scope) (p126 : Arguments) (b126 : List Stmt) (s126 : Scope) (p133 : Arguments) (b133 : List Stmt) (s133 : Scope) (p140 : Arguments) (b140 : List Stmt) (s140 : Scope) (p154 : Arguments) (b154 : List Stmt) (s154 : Scope) (p161 : Arguments) (b161 : List Stmt) (s161 : Scope) (p168 : Arguments) (b168 : List Stmt) (s168 : Scope) (p175 : Arguments) (b175 : List Stmt) (s175 : Scope) (p182 : Arguments) (b182 : List Stmt) (s182 : Scope) (p189 : Arguments) (b189 : List Stmt) (s189 : Scope) (p196 : Arguments) (b196 : List Stmt) (s196 : Scope) (p210 : Arguments) (b210 : List Stmt) (s210 : Scope) (p217 : Arguments) (b217 : List Stmt) (s217 : Scope) (p224 : Arguments) (b224 : List Stmt) (s224 : Scope) (p231 : Arguments) (b231 : List Stmt) (s231 : Scope) (p238 : Arguments) (b238 : List Stmt) (s238 : Scope) (p243 : Arguments) (b243 : List Stmt) (s243 : Scope) (p257 : Arguments) (b257 : List Stmt) (s257 : Scope) (p264 : Arguments) (b264 : List Stmt) (s264 : Scope) (p271 : Arguments) (b271 : List Stmt) (s271 : Scope) (p278 : Arguments) (b278 : List Stmt) (s278 : Scope) (p285 : Arguments) (b285 : List Stmt) (s285 : Scope) (p292 : Arguments) (b292 : List Stmt) (s292 : Scope) (p299 : Arguments) (b299 : List Stmt) (s299 : Scope) (p306 : Arguments) (b306 : List Stmt) (s306 : Scope) (p313 : Arguments) (b313 : List Stmt) (s313 : Scope) (p320 : Arguments) (b320 : List Stmt) (s320 : Scope) (p327 : Arguments) (b327 : List Stmt) (s327 : Scope) (p332 : Arguments) (b332 : List Stmt) (s332 : Scope) (p337 : Arguments) (b337 : List Stmt) (s337 : Scope) (p344 : Arguments) (b344 : List Stmt) (s344 : Scope) (p351 : Arguments) (b351 : List Stmt) (s351 : Scope) (p356 : Arguments) (b356 : List Stmt) (s356 : Scope) (p363 : Arguments) (b363 : List Stmt) (s363 : Scope) (p370 : Arguments) (b370 : List Stmt) (s370 : Scope) (p377 : Arguments) (b377 : List Stmt) (s377 : Scope) (p382 : Arguments) (b382 : List Stmt) (s382 : Scope) (p387 : Arguments) (b387 : List Stmt) (s387 : Scope) (p394 : Arguments) (b394 : List Stmt) (s394 : Scope) (p401 : Arguments) (b401 : List Stmt) (s401 : Scope) (p408 : Arguments) (b408 : List Stmt) (s408 : Scope) (p413 : Arguments) (b413 : List Stmt) (s413 : Scope) (p418 : Arguments) (b418 : List Stmt) (s418 : Scope) (p423 : Arguments) (b423 : List Stmt) (s423 : Scope)
    (_ : funS (nthS pb 0) = (p21, b21, s21))
    (_ : funS (nthS (clsS (nthS pb 2)) 0) = (p36, b36, s36))
    (_ : funS (nthS (clsS (nthS pb 2)) 1) = (p43, b43, s43))
    (_ : funS (nthS (clsS (nthS pb 4)) 0) = (p63, b63, s63))
    (_ : funS (nthS (clsS (nthS pb 4)) 1) = (p70, b70, s70))
    (_ : funS (nthS (clsS (nthS pb 4)) 2) = (p77, b77, s77))
    (_ : funS (nthS (clsS (nthS pb 4)) 3) = (p84, b84, s84))
    (_ : funS (nthS (clsS (nthS pb 4)) 4) = (p91, b91, s91))
    (_ : funS (nthS (clsS (nthS pb 4)) 5) = (p98, b98, s98))
    (_ : funS (nthS (clsS (nthS pb 4)) 6) = (p105, b105, s105))
    (_ : funS (nthS (clsS (nthS pb 4)) 7) = (p112, b112, s112))
    (_ : funS (nthS (clsS (nthS pb 4)) 8) = (p119, b119, s119))
    (_ : funS (nthS (clsS (nthS pb 4)) 9) = (p126, b126, s126))
    (_ : funS (nthS (clsS (nthS pb 4)) 10) = (p133, b133, s133))
    (_ : funS (nthS (clsS (nthS pb 4)) 11) = (p140, b140, s140))
    (_ : funS (nthS pb 5) = (p154, b154, s154))
    (_ : funS (nthS pb 6) = (p161, b161, s161))
    (_ : funS (nthS pb 7) = (p168, b168, s168))
    (_ : funS (nthS pb 8) = (p175, b175, s175))
    (_ : funS (nthS pb 9) = (p182, b182, s182))
    (_ : funS (nthS pb 10) = (p189, b189, s189))
    (_ : funS (nthS pb 11) = (p196, b196, s196))
    (_ : funS (nthS (clsS (nthS pb 13)) 0) = (p210, b210, s210))
    (_ : funS (nthS (clsS (nthS pb 13)) 1) = (p217, b217, s217))
    (_ : funS (nthS (clsS (nthS pb 13)) 2) = (p224, b224, s224))
    (_ : funS (nthS (clsS (nthS pb 13)) 3) = (p231, b231, s231))
    (_ : funS (nthS (clsS (nthS pb 13)) 4) = (p238, b238, s238))
    (_ : funS (nthS (clsS (nthS pb 13)) 5) = (p243, b243, s243))
    (_ : funS (nthS pb 14) = (p257, b257, s257))
    (_ : funS (nthS pb 15) = (p264, b264, s264))
    (_ : funS (nthS pb 16) = (p271, b271, s271))
    (_ : funS (nthS pb 17) = (p278, b278, s278))
    (_ : funS (nthS pb 18) = (p285, b285, s285))
    (_ : funS (nthS pb 19) = (p292, b292, s292))
    (_ : funS (nthS pb 20) = (p299, b299, s299))
    (_ : funS (nthS pb 21) = (p306, b306, s306))
    (_ : funS (nthS pb 22) = (p313, b313, s313))
    (_ : funS (nthS pb 23) = (p320, b320, s320))
    (_ : funS (nthS pb 24) = (p327, b327, s327))
    (_ : funS (nthS pb 25) = (p332, b332, s332))
    (_ : funS (nthS pb 27) = (p337, b337, s337))
    (_ : funS (nthS pb 28) = (p344, b344, s344))
    (_ : funS (nthS pb 29) = (p351, b351, s351))
    (_ : funS (nthS pb 30) = (p356, b356, s356))
    (_ : funS (nthS pb 31) = (p363, b363, s363))
    (_ : funS (nthS pb 32) = (p370, b370, s370))
    (_ : funS (nthS pb 33) = (p377, b377, s377))
    (_ : funS (nthS pb 34) = (p382, b382, s382))
    (_ : funS (nthS pb 35) = (p387, b387, s387))
    (_ : funS (nthS pb 36) = (p394, b394, s394))
    (_ : funS (nthS pb 37) = (p401, b401, s401))
    (_ : funS (nthS pb 38) = (p408, b408, s408))
    (_ : funS (nthS pb 39) = (p413, b413, s413))
    (_ : funS (nthS pb 40) = (p418, b418, s418))
    (_ : funS (nthS pb 41) = (p423, b423, s423)) => (fun P =>
    (nat_lit 2, (.mk .none .none (.dict (List.toArray [(.mk (PyData.keyHash P (.ofString "type.__subclasses__.Exception.0")) (.str (.ofString "type.__subclasses__.Exception.0") 232) (.int 46 0)), (.mk (PyData.keyHash P (.ofString "type.__subclasses__.Exception.n")) (.str (.ofString "type.__subclasses__.Exception.n") 233) (.int 1 0))]) 2) #[])) ::
    (nat_lit 3, (.mk (.type "dict") .none (.dict (List.toArray ((.mk (PyData.keyHash P (.ofString "__name__")) (.str (.ofString "__name__") 165) (.str (.ofString "law_nn0207_01") 614)) :: (.mk (PyData.keyHash P (.ofString "__doc__")) (.str (.ofString "__doc__") 166) .none) :: (.mk (PyData.keyHash P (.ofString "__package__")) (.str (.ofString "__package__") 167) .none) :: (.mk (PyData.keyHash P (.ofString "__loader__")) (.str (.ofString "__loader__") 168) (.builtin "__main__.__loader__#opaque")) :: (.mk (PyData.keyHash P (.ofString "__spec__")) (.str (.ofString "__spec__") 169) .none) :: (.mk (PyData.keyHash P (.ofString "__annotations__")) (.str (.ofString "__annotations__") 170) (.ref 6)) :: (.mk (PyData.keyHash P (.ofString "__builtins__")) (.str (.ofString "__builtins__") 171) (.ref 4)) :: (.mk (PyData.keyHash P (.ofString "__file__")) (.str (.ofString "__file__") 173) (.str (.ofString "/claim/cut.py") 172)) :: (.mk (PyData.keyHash P (.ofString "__cached__")) (.str (.ofString "__cached__") 174) .none) :: (.mk (PyData.keyHash P (.ofString "_wall")) (.str (.ofString "_wall") 193) (.ref 21)) :: (.mk (PyData.keyHash P (.ofString "PaperError")) (.str (.ofString "PaperError") 235) (.ref 46)) :: (.mk (PyData.keyHash P (.ofString "Decimal")) (.str (.ofString "Decimal") 357) (.ref 143)) :: (.mk (PyData.keyHash P (.ofString "sign_of")) (.str (.ofString "sign_of") 364) (.ref 154)) :: (.mk (PyData.keyHash P (.ofString "rounded_quotient")) (.str (.ofString "rounded_quotient") 373) (.ref 161)) :: (.mk (PyData.keyHash P (.ofString "decimal_of")) (.str (.ofString "decimal_of") 380) (.ref 168)) :: (.mk (PyData.keyHash P (.ofString "at_one_scale")) (.str (.ofString "at_one_scale") 391) (.ref 175)) :: (.mk (PyData.keyHash P (.ofString "over")) (.str (.ofString "over") 403) (.ref 182)) :: (.mk (PyData.keyHash P (.ofString "common_divisor")) (.str (.ofString "common_divisor") 413) (.ref 189)) :: (.mk (PyData.keyHash P (.ofString "exact_over")) (.str (.ofString "exact_over") 426) (.ref 196)) :: (.mk (PyData.keyHash P (.ofString "Matrix")) (.str (.ofString "Matrix") 516) (.ref 246)) :: (.mk (PyData.keyHash P (.ofString "identity")) (.str (.ofString "identity") 522) (.ref 257)) :: (.mk (PyData.keyHash P (.ofString "translation")) (.str (.ofString "translation") 530) (.ref 264)) :: (.mk (PyData.keyHash P (.ofString "scaling")) (.str (.ofString "scaling") 538) (.ref 271)) :: (.mk (PyData.keyHash P (.ofString "quarter_turn")) (.str (.ofString "quarter_turn") 547) (.ref 278)) :: (.mk (PyData.keyHash P (.ofString "skewing")) (.str (.ofString "skewing") 555) (.ref 285)) :: (.mk (PyData.keyHash P (.ofString "from_array")) (.str (.ofString "from_array") 562) (.ref 292)) :: (.mk (PyData.keyHash P (.ofString "determinant")) (.str (.ofString "determinant") 569) (.ref 299)) :: (.mk (PyData.keyHash P (.ofString "is_invertible")) (.str (.ofString "is_invertible") 576) (.ref 306)) :: (.mk (PyData.keyHash P (.ofString "is_straight")) (.str (.ofString "is_straight") 583) (.ref 313)) :: (.mk (PyData.keyHash P (.ofString "adjugate_applied")) (.str (.ofString "adjugate_applied") 594) (.ref 320)) :: (.mk (PyData.keyHash P (.ofString "inverse_applied")) (.str (.ofString "inverse_applied") 607) (.ref 327)) :: (.mk (PyData.keyHash P (.ofString "exact_inverse")) (.str (.ofString "exact_inverse") 613) (.ref 332)) :: (.mk (PyData.keyHash P (.ofString "_law_pen")) (.str (.ofString "_law_pen") 621) (.ref 337)) :: (.mk (PyData.keyHash P (.ofString "_law_draw")) (.str (.ofString "_law_draw") 634) (.ref 344)) :: (.mk (PyData.keyHash P (.ofString "_law_number")) (.str (.ofString "_law_number") 643) (.ref 351)) :: (.mk (PyData.keyHash P (.ofString "_law_six")) (.str (.ofString "_law_six") 649) (.ref 356)) :: (.mk (PyData.keyHash P (.ofString "_law_told")) (.str (.ofString "_law_told") 658) (.ref 363)) :: (.mk (PyData.keyHash P (.ofString "_law_matrix")) (.str (.ofString "_law_matrix") 665) (.ref 370)) :: (.mk (PyData.keyHash P (.ofString "_law_rows")) (.str (.ofString "_law_rows") 673) (.ref 377)) :: (.mk (PyData.keyHash P (.ofString "_law_product")) (.str (.ofString "_law_product") 679) (.ref 382)) :: (.mk (PyData.keyHash P (.ofString "_law_six_told")) (.str (.ofString "_law_six_told") 685) (.ref 387)) :: (.mk (PyData.keyHash P (.ofString "_law_nearest")) (.str (.ofString "_law_nearest") 695) (.ref 394)) :: (.mk (PyData.keyHash P (.ofString "_law_ends")) (.str (.ofString "_law_ends") 707) (.ref 401)) :: (.mk (PyData.keyHash P (.ofString "_law_is_refused")) (.str (.ofString "_law_is_refused") 717) (.ref 408)) :: (.mk (PyData.keyHash P (.ofString "_law_inverse_told")) (.str (.ofString "_law_inverse_told") 723) (.ref 413)) :: (.mk (PyData.keyHash P (.ofString "_law_turns_told")) (.str (.ofString "_law_turns_told") 729) (.ref 418)) :: (.mk (PyData.keyHash P (.ofString "law")) (.str (.ofString "law") 735) (.ref 423)) :: [])) 47) #[])) ::
    (nat_lit 20, cdO (.ofString "_wall") (.ofString "_wall") (nat_lit 187) (nat_lit 191) (nat_lit 1) (nat_lit 1) (nat_lit 15) (nat_lit 19) true) ::
    (nat_lit 21, fnA (.ofString "_wall") (.ofString "_wall") p21 b21 s21 (nat_lit 20)) ::
    (nat_lit 22, (.mk (.type "tuple") .none (.seq (List.toArray [(.type "Exception")]) 0) #[])) ::
    (nat_lit 29, (.mk (.type "tuple") .none (.seq (List.toArray [(.int (Neg.neg 1) 209)]) 0) #[])) ::
    (nat_lit 35, cdO (.ofString "__init__") (.ofString "PaperError.__init__") (nat_lit 210) (nat_lit 216) (nat_lit 7) (nat_lit 3) (nat_lit 30) (nat_lit 34) true) ::
    (nat_lit 36, fnB (.ofString "__init__") (.ofString "PaperError.__init__") p36 b36 s36 (.ref 29) (nat_lit 35)) ::
    (nat_lit 42, cdO (.ofString "told") (.ofString "PaperError.told") (nat_lit 219) (nat_lit 223) (nat_lit 12) (nat_lit 1) (nat_lit 37) (nat_lit 41) true) ::
    (nat_lit 43, fnB (.ofString "told") (.ofString "PaperError.told") p43 b43 s43 .none (nat_lit 42)) ::
    (nat_lit 44, (.mk (.type "tuple") .none (.seq (List.toArray [(.str (.ofString "at") 226), (.str (.ofString "what") 227)]) 0) #[])) ::
    (nat_lit 45, (.mk (.type "dict") .none (.dict (List.toArray [(.mk (PyData.keyHash P (.ofString "__module__")) (.str (.ofString "__module__") 203) (.str (.ofString "paperhold.errors") 194)), (.mk (PyData.keyHash P (.ofString "__firstlineno__")) (.str (.ofString "__firstlineno__") 207) (.int 5 206)), (.mk (PyData.keyHash P (.ofString "__init__")) (.str (.ofString "__init__") 218) (.ref 36)), (.mk (PyData.keyHash P (.ofString "told")) (.str (.ofString "told") 225) (.ref 43)), (.mk (PyData.keyHash P (.ofString "__static_attributes__")) (.str (.ofString "__static_attributes__") 228) (.ref 44)), (.mk (PyData.keyHash P (.ofString "__weakref__")) (.str (.ofString "__weakref__") 230) (.ref 47)), (.mk (PyData.keyHash P (.ofString "__doc__")) (.str (.ofString "__doc__") 231) .none)]) 3) #[])) ::
    (nat_lit 46, (.mk (.type "type") .none (.cls (.mk (.ofString "PaperError") [(.type "Exception")] [(.ref 46), (.type "Exception"), (.type "BaseException"), (.type "object")] 45 (.ofString "PaperError") true [] [] false .none false)) (List.toArray [(.some (.ref 22)), .none, (.some (.str (.ofString "PaperError") 196)), (.some (.str (.ofString "PaperError") 204)), (.some (.builtin "Exception.__new__")), (.some (.bool true))]))) ::
    (nat_lit 47, (.mk (.type "getset_descriptor") .none (.fields (List.toArray [(.str (.ofString "__weakref__") 229), (.ref 46), (.builtin "ExceptionGroup.__weakref__"), .none])) #[])) ::
    (nat_lit 62, cdO (.ofString "__init__") (.ofString "Decimal.__init__") (nat_lit 250) (nat_lit 256) (nat_lit 17) (nat_lit 3) (nat_lit 57) (nat_lit 61) true) ::
    (nat_lit 63, fnD (.ofString "__init__") (.ofString "Decimal.__init__") p63 b63 s63 (nat_lit 62)) ::
    (nat_lit 69, cdO (.ofString "plus") (.ofString "Decimal.plus") (nat_lit 259) (nat_lit 267) (nat_lit 24) (nat_lit 2) (nat_lit 64) (nat_lit 68) true) ::
    (nat_lit 70, fnD (.ofString "plus") (.ofString "Decimal.plus") p70 b70 s70 (nat_lit 69)) ::
    (nat_lit 76, cdO (.ofString "minus") (.ofString "Decimal.minus") (nat_lit 270) (nat_lit 278) (nat_lit 28) (nat_lit 2) (nat_lit 71) (nat_lit 75) true) ::
    (nat_lit 77, fnD (.ofString "minus") (.ofString "Decimal.minus") p77 b77 s77 (nat_lit 76)) ::
    (nat_lit 83, cdO (.ofString "times") (.ofString "Decimal.times") (nat_lit 281) (nat_lit 287) (nat_lit 32) (nat_lit 2) (nat_lit 78) (nat_lit 82) true) ::
    (nat_lit 84, fnD (.ofString "times") (.ofString "Decimal.times") p84 b84 s84 (nat_lit 83)) ::
    (nat_lit 90, cdO (.ofString "negated") (.ofString "Decimal.negated") (nat_lit 290) (nat_lit 294) (nat_lit 36) (nat_lit 1) (nat_lit 85) (nat_lit 89) true) ::
    (nat_lit 91, fnD (.ofString "negated") (.ofString "Decimal.negated") p91 b91 s91 (nat_lit 90)) ::
    (nat_lit 97, cdO (.ofString "compared") (.ofString "Decimal.compared") (nat_lit 297) (nat_lit 302) (nat_lit 39) (nat_lit 2) (nat_lit 92) (nat_lit 96) true) ::
    (nat_lit 98, fnD (.ofString "compared") (.ofString "Decimal.compared") p98 b98 s98 (nat_lit 97)) ::
    (nat_lit 104, cdO (.ofString "is_whole") (.ofString "Decimal.is_whole") (nat_lit 305) (nat_lit 309) (nat_lit 42) (nat_lit 1) (nat_lit 99) (nat_lit 103) true) ::
    (nat_lit 105, fnD (.ofString "is_whole") (.ofString "Decimal.is_whole") p105 b105 s105 (nat_lit 104)) ::
    (nat_lit 111, cdO (.ofString "floor") (.ofString "Decimal.floor") (nat_lit 312) (nat_lit 316) (nat_lit 45) (nat_lit 1) (nat_lit 106) (nat_lit 110) true) ::
    (nat_lit 112, fnD (.ofString "floor") (.ofString "Decimal.floor") p112 b112 s112 (nat_lit 111)) ::
    (nat_lit 118, cdO (.ofString "rounded") (.ofString "Decimal.rounded") (nat_lit 319) (nat_lit 324) (nat_lit 48) (nat_lit 2) (nat_lit 113) (nat_lit 117) true) ::
    (nat_lit 119, fnD (.ofString "rounded") (.ofString "Decimal.rounded") p119 b119 s119 (nat_lit 118)) ::
    (nat_lit 125, cdO (.ofString "told") (.ofString "Decimal.told") (nat_lit 327) (nat_lit 331) (nat_lit 53) (nat_lit 1) (nat_lit 120) (nat_lit 124) true) ::
    (nat_lit 126, fnD (.ofString "told") (.ofString "Decimal.told") p126 b126 s126 (nat_lit 125)) ::
    (nat_lit 132, cdO (.ofString "text") (.ofString "Decimal.text") (nat_lit 334) (nat_lit 338) (nat_lit 56) (nat_lit 1) (nat_lit 127) (nat_lit 131) true) ::
    (nat_lit 133, fnD (.ofString "text") (.ofString "Decimal.text") p133 b133 s133 (nat_lit 132)) ::
    (nat_lit 139, cdO (.ofString "least_text") (.ofString "Decimal.least_text") (nat_lit 341) (nat_lit 345) (nat_lit 59) (nat_lit 1) (nat_lit 134) (nat_lit 138) true) ::
    (nat_lit 140, fnD (.ofString "least_text") (.ofString "Decimal.least_text") p140 b140 s140 (nat_lit 139)) ::
    (nat_lit 141, (.mk (.type "tuple") .none (.seq (List.toArray [(.str (.ofString "places") 348), (.str (.ofString "top") 349)]) 0) #[])) ::
    (nat_lit 142, (.mk (.type "dict") .none (.dict (List.toArray [(.mk (PyData.keyHash P (.ofString "__module__")) (.str (.ofString "__module__") 245) (.str (.ofString "paperhold.decimals") 236)), (.mk (PyData.keyHash P (.ofString "__firstlineno__")) (.str (.ofString "__firstlineno__") 249) (.int 15 248)), (.mk (PyData.keyHash P (.ofString "__init__")) (.str (.ofString "__init__") 258) (.ref 63)), (.mk (PyData.keyHash P (.ofString "plus")) (.str (.ofString "plus") 269) (.ref 70)), (.mk (PyData.keyHash P (.ofString "minus")) (.str (.ofString "minus") 280) (.ref 77)), (.mk (PyData.keyHash P (.ofString "times")) (.str (.ofString "times") 289) (.ref 84)), (.mk (PyData.keyHash P (.ofString "negated")) (.str (.ofString "negated") 296) (.ref 91)), (.mk (PyData.keyHash P (.ofString "compared")) (.str (.ofString "compared") 304) (.ref 98)), (.mk (PyData.keyHash P (.ofString "is_whole")) (.str (.ofString "is_whole") 311) (.ref 105)), (.mk (PyData.keyHash P (.ofString "floor")) (.str (.ofString "floor") 318) (.ref 112)), (.mk (PyData.keyHash P (.ofString "rounded")) (.str (.ofString "rounded") 326) (.ref 119)), (.mk (PyData.keyHash P (.ofString "told")) (.str (.ofString "told") 333) (.ref 126)), (.mk (PyData.keyHash P (.ofString "text")) (.str (.ofString "text") 340) (.ref 133)), (.mk (PyData.keyHash P (.ofString "least_text")) (.str (.ofString "least_text") 347) (.ref 140)), (.mk (PyData.keyHash P (.ofString "__static_attributes__")) (.str (.ofString "__static_attributes__") 350) (.ref 141)), (.mk (PyData.keyHash P (.ofString "__dict__")) (.str (.ofString "__dict__") 352) (.ref 144)), (.mk (PyData.keyHash P (.ofString "__weakref__")) (.str (.ofString "__weakref__") 354) (.ref 145)), (.mk (PyData.keyHash P (.ofString "__doc__")) (.str (.ofString "__doc__") 355) .none)]) 4) #[])) ::
    (nat_lit 143, (.mk (.type "type") .none (.cls (.mk (.ofString "Decimal") [(.type "object")] [(.ref 143), (.type "object")] 142 (.ofString "Decimal") true [] [] false .none false)) (List.toArray [.none, .none, (.some (.str (.ofString "Decimal") 238)), (.some (.str (.ofString "Decimal") 246)), (.some (.builtin "object.__new__")), (.some (.bool true))]))) ::
    (nat_lit 144, (.mk (.type "getset_descriptor") .none (.fields (List.toArray [(.str (.ofString "__dict__") 351), (.ref 143), (.builtin "function.__dict__"), (.builtin "function.__dict__#set")])) #[])) ::
    (nat_lit 145, (.mk (.type "getset_descriptor") .none (.fields (List.toArray [(.str (.ofString "__weakref__") 353), (.ref 143), (.builtin "ExceptionGroup.__weakref__"), .none])) #[])) ::
    (nat_lit 153, cdO (.ofString "sign_of") (.ofString "sign_of") (nat_lit 358) (nat_lit 362) (nat_lit 61) (nat_lit 1) (nat_lit 148) (nat_lit 152) true) ::
    (nat_lit 154, fnD (.ofString "sign_of") (.ofString "sign_of") p154 b154 s154 (nat_lit 153)) ::
    (nat_lit 160, cdO (.ofString "rounded_quotient") (.ofString "rounded_quotient") (nat_lit 365) (nat_lit 371) (nat_lit 65) (nat_lit 2) (nat_lit 155) (nat_lit 159) true) ::
    (nat_lit 161, fnD (.ofString "rounded_quotient") (.ofString "rounded_quotient") p161 b161 s161 (nat_lit 160)) ::
    (nat_lit 167, cdO (.ofString "decimal_of") (.ofString "decimal_of") (nat_lit 374) (nat_lit 378) (nat_lit 68) (nat_lit 1) (nat_lit 162) (nat_lit 166) true) ::
    (nat_lit 168, fnD (.ofString "decimal_of") (.ofString "decimal_of") p168 b168 s168 (nat_lit 167)) ::
    (nat_lit 174, cdO (.ofString "at_one_scale") (.ofString "at_one_scale") (nat_lit 381) (nat_lit 389) (nat_lit 74) (nat_lit 2) (nat_lit 169) (nat_lit 173) true) ::
    (nat_lit 175, fnD (.ofString "at_one_scale") (.ofString "at_one_scale") p175 b175 s175 (nat_lit 174)) ::
    (nat_lit 181, cdO (.ofString "over") (.ofString "over") (nat_lit 392) (nat_lit 401) (nat_lit 79) (nat_lit 3) (nat_lit 176) (nat_lit 180) true) ::
    (nat_lit 182, fnD (.ofString "over") (.ofString "over") p182 b182 s182 (nat_lit 181)) ::
    (nat_lit 188, cdO (.ofString "common_divisor") (.ofString "common_divisor") (nat_lit 404) (nat_lit 411) (nat_lit 84) (nat_lit 2) (nat_lit 183) (nat_lit 187) true) ::
    (nat_lit 189, fnD (.ofString "common_divisor") (.ofString "common_divisor") p189 b189 s189 (nat_lit 188)) ::
    (nat_lit 195, cdO (.ofString "exact_over") (.ofString "exact_over") (nat_lit 414) (nat_lit 424) (nat_lit 90) (nat_lit 2) (nat_lit 190) (nat_lit 194) true) ::
    (nat_lit 196, fnD (.ofString "exact_over") (.ofString "exact_over") p196 b196 s196 (nat_lit 195)) ::
    (nat_lit 209, cdO (.ofString "__init__") (.ofString "Matrix.__init__") (nat_lit 441) (nat_lit 451) (nat_lit 104) (nat_lit 7) (nat_lit 204) (nat_lit 208) true) ::
    (nat_lit 210, fnM (.ofString "__init__") (.ofString "Matrix.__init__") p210 b210 s210 (nat_lit 209)) ::
    (nat_lit 216, cdO (.ofString "times") (.ofString "Matrix.times") (nat_lit 454) (nat_lit 465) (nat_lit 112) (nat_lit 2) (nat_lit 211) (nat_lit 215) true) ::
    (nat_lit 217, fnM (.ofString "times") (.ofString "Matrix.times") p217 b217 s217 (nat_lit 216)) ::
    (nat_lit 223, cdO (.ofString "applied") (.ofString "Matrix.applied") (nat_lit 468) (nat_lit 476) (nat_lit 120) (nat_lit 3) (nat_lit 218) (nat_lit 222) true) ::
    (nat_lit 224, fnM (.ofString "applied") (.ofString "Matrix.applied") p224 b224 s224 (nat_lit 223)) ::
    (nat_lit 230, cdO (.ofString "shifted") (.ofString "Matrix.shifted") (nat_lit 479) (nat_lit 487) (nat_lit 125) (nat_lit 3) (nat_lit 225) (nat_lit 229) true) ::
    (nat_lit 231, fnM (.ofString "shifted") (.ofString "Matrix.shifted") p231 b231 s231 (nat_lit 230)) ::
    (nat_lit 237, cdO (.ofString "parts") (.ofString "Matrix.parts") (nat_lit 490) (nat_lit 494) (nat_lit 130) (nat_lit 1) (nat_lit 232) (nat_lit 236) true) ::
    (nat_lit 238, fnM (.ofString "parts") (.ofString "Matrix.parts") p238 b238 s238 (nat_lit 237)) ::
    (nat_lit 242, cdO (.ofString "told") (.ofString "Matrix.told") (nat_lit 497) (nat_lit 500) (nat_lit 133) (nat_lit 1) (nat_lit 239) (nat_lit 241) false) ::
    (nat_lit 243, fnM (.ofString "told") (.ofString "Matrix.told") p243 b243 s243 (nat_lit 242)) ::
    (nat_lit 244, (.mk (.type "tuple") .none (.seq (List.toArray [(.str (.ofString "a") 503), (.str (.ofString "b") 504), (.str (.ofString "c") 505), (.str (.ofString "d") 506), (.str (.ofString "e") 507), (.str (.ofString "f") 508)]) 0) #[])) ::
    (nat_lit 245, (.mk (.type "dict") .none (.dict (List.toArray [(.mk (PyData.keyHash P (.ofString "__module__")) (.str (.ofString "__module__") 436) (.str (.ofString "paperhold.matrix") 427)), (.mk (PyData.keyHash P (.ofString "__firstlineno__")) (.str (.ofString "__firstlineno__") 440) (.int 102 439)), (.mk (PyData.keyHash P (.ofString "__init__")) (.str (.ofString "__init__") 453) (.ref 210)), (.mk (PyData.keyHash P (.ofString "times")) (.str (.ofString "times") 467) (.ref 217)), (.mk (PyData.keyHash P (.ofString "applied")) (.str (.ofString "applied") 478) (.ref 224)), (.mk (PyData.keyHash P (.ofString "shifted")) (.str (.ofString "shifted") 489) (.ref 231)), (.mk (PyData.keyHash P (.ofString "parts")) (.str (.ofString "parts") 496) (.ref 238)), (.mk (PyData.keyHash P (.ofString "told")) (.str (.ofString "told") 502) (.ref 243)), (.mk (PyData.keyHash P (.ofString "__static_attributes__")) (.str (.ofString "__static_attributes__") 509) (.ref 244)), (.mk (PyData.keyHash P (.ofString "__dict__")) (.str (.ofString "__dict__") 511) (.ref 247)), (.mk (PyData.keyHash P (.ofString "__weakref__")) (.str (.ofString "__weakref__") 513) (.ref 248)), (.mk (PyData.keyHash P (.ofString "__doc__")) (.str (.ofString "__doc__") 514) .none)]) 4) #[])) ::
    (nat_lit 246, (.mk (.type "type") .none (.cls (.mk (.ofString "Matrix") [(.type "object")] [(.ref 246), (.type "object")] 245 (.ofString "Matrix") true [] [] false .none false)) (List.toArray [.none, .none, (.some (.str (.ofString "Matrix") 429)), (.some (.str (.ofString "Matrix") 437)), (.some (.builtin "object.__new__")), (.some (.bool true))]))) ::
    (nat_lit 247, (.mk (.type "getset_descriptor") .none (.fields (List.toArray [(.str (.ofString "__dict__") 510), (.ref 246), (.builtin "function.__dict__"), (.builtin "function.__dict__#set")])) #[])) ::
    (nat_lit 248, (.mk (.type "getset_descriptor") .none (.fields (List.toArray [(.str (.ofString "__weakref__") 512), (.ref 246), (.builtin "ExceptionGroup.__weakref__"), .none])) #[])) ::
    (nat_lit 256, cdO (.ofString "identity") (.ofString "identity") (nat_lit 517) (nat_lit 520) (nat_lit 135) (nat_lit 0) (nat_lit 251) (nat_lit 255) true) ::
    (nat_lit 257, fnM (.ofString "identity") (.ofString "identity") p257 b257 s257 (nat_lit 256)) ::
    (nat_lit 263, cdO (.ofString "translation") (.ofString "translation") (nat_lit 523) (nat_lit 528) (nat_lit 137) (nat_lit 2) (nat_lit 258) (nat_lit 262) true) ::
    (nat_lit 264, fnM (.ofString "translation") (.ofString "translation") p264 b264 s264 (nat_lit 263)) ::
    (nat_lit 270, cdO (.ofString "scaling") (.ofString "scaling") (nat_lit 531) (nat_lit 536) (nat_lit 139) (nat_lit 2) (nat_lit 265) (nat_lit 269) true) ::
    (nat_lit 271, fnM (.ofString "scaling") (.ofString "scaling") p271 b271 s271 (nat_lit 270)) ::
    (nat_lit 277, cdO (.ofString "quarter_turn") (.ofString "quarter_turn") (nat_lit 539) (nat_lit 545) (nat_lit 141) (nat_lit 1) (nat_lit 272) (nat_lit 276) true) ::
    (nat_lit 278, fnM (.ofString "quarter_turn") (.ofString "quarter_turn") p278 b278 s278 (nat_lit 277)) ::
    (nat_lit 284, cdO (.ofString "skewing") (.ofString "skewing") (nat_lit 548) (nat_lit 553) (nat_lit 145) (nat_lit 2) (nat_lit 279) (nat_lit 283) true) ::
    (nat_lit 285, fnM (.ofString "skewing") (.ofString "skewing") p285 b285 s285 (nat_lit 284)) ::
    (nat_lit 291, cdO (.ofString "from_array") (.ofString "from_array") (nat_lit 556) (nat_lit 560) (nat_lit 147) (nat_lit 1) (nat_lit 286) (nat_lit 290) true) ::
    (nat_lit 292, fnM (.ofString "from_array") (.ofString "from_array") p292 b292 s292 (nat_lit 291)) ::
    (nat_lit 298, cdO (.ofString "determinant") (.ofString "determinant") (nat_lit 563) (nat_lit 567) (nat_lit 151) (nat_lit 1) (nat_lit 293) (nat_lit 297) true) ::
    (nat_lit 299, fnM (.ofString "determinant") (.ofString "determinant") p299 b299 s299 (nat_lit 298)) ::
    (nat_lit 305, cdO (.ofString "is_invertible") (.ofString "is_invertible") (nat_lit 570) (nat_lit 574) (nat_lit 153) (nat_lit 1) (nat_lit 300) (nat_lit 304) true) ::
    (nat_lit 306, fnM (.ofString "is_invertible") (.ofString "is_invertible") p306 b306 s306 (nat_lit 305)) ::
    (nat_lit 312, cdO (.ofString "is_straight") (.ofString "is_straight") (nat_lit 577) (nat_lit 581) (nat_lit 155) (nat_lit 1) (nat_lit 307) (nat_lit 311) true) ::
    (nat_lit 313, fnM (.ofString "is_straight") (.ofString "is_straight") p313 b313 s313 (nat_lit 312)) ::
    (nat_lit 319, cdO (.ofString "adjugate_applied") (.ofString "adjugate_applied") (nat_lit 584) (nat_lit 592) (nat_lit 157) (nat_lit 3) (nat_lit 314) (nat_lit 318) true) ::
    (nat_lit 320, fnM (.ofString "adjugate_applied") (.ofString "adjugate_applied") p320 b320 s320 (nat_lit 319)) ::
    (nat_lit 326, cdO (.ofString "inverse_applied") (.ofString "inverse_applied") (nat_lit 595) (nat_lit 605) (nat_lit 161) (nat_lit 4) (nat_lit 321) (nat_lit 325) true) ::
    (nat_lit 327, fnM (.ofString "inverse_applied") (.ofString "inverse_applied") p327 b327 s327 (nat_lit 326)) ::
    (nat_lit 331, cdO (.ofString "exact_inverse") (.ofString "exact_inverse") (nat_lit 608) (nat_lit 611) (nat_lit 165) (nat_lit 1) (nat_lit 328) (nat_lit 330) false) ::
    (nat_lit 332, fnM (.ofString "exact_inverse") (.ofString "exact_inverse") p332 b332 s332 (nat_lit 331)) ::
    (nat_lit 336, cdO (.ofString "_law_pen") (.ofString "_law_pen") (nat_lit 616) (nat_lit 619) (nat_lit 173) (nat_lit 1) (nat_lit 333) (nat_lit 335) false) ::
    (nat_lit 337, fnL (.ofString "_law_pen") (.ofString "_law_pen") p337 b337 s337 (nat_lit 336)) ::
    (nat_lit 343, cdO (.ofString "_law_draw") (.ofString "_law_draw") (nat_lit 622) (nat_lit 632) (nat_lit 175) (nat_lit 2) (nat_lit 338) (nat_lit 342) true) ::
    (nat_lit 344, fnL (.ofString "_law_draw") (.ofString "_law_draw") p344 b344 s344 (nat_lit 343)) ::
    (nat_lit 350, cdO (.ofString "_law_number") (.ofString "_law_number") (nat_lit 635) (nat_lit 641) (nat_lit 192) (nat_lit 1) (nat_lit 345) (nat_lit 349) true) ::
    (nat_lit 351, fnL (.ofString "_law_number") (.ofString "_law_number") p351 b351 s351 (nat_lit 350)) ::
    (nat_lit 355, cdO (.ofString "_law_six") (.ofString "_law_six") (nat_lit 644) (nat_lit 647) (nat_lit 200) (nat_lit 1) (nat_lit 352) (nat_lit 354) false) ::
    (nat_lit 356, fnL (.ofString "_law_six") (.ofString "_law_six") p356 b356 s356 (nat_lit 355)) ::
    (nat_lit 362, cdO (.ofString "_law_told") (.ofString "_law_told") (nat_lit 650) (nat_lit 656) (nat_lit 213) (nat_lit 2) (nat_lit 357) (nat_lit 361) true) ::
    (nat_lit 363, fnL (.ofString "_law_told") (.ofString "_law_told") p363 b363 s363 (nat_lit 362)) ::
    (nat_lit 369, cdO (.ofString "_law_matrix") (.ofString "_law_matrix") (nat_lit 659) (nat_lit 663) (nat_lit 219) (nat_lit 1) (nat_lit 364) (nat_lit 368) true) ::
    (nat_lit 370, fnL (.ofString "_law_matrix") (.ofString "_law_matrix") p370 b370 s370 (nat_lit 369)) ::
    (nat_lit 376, cdO (.ofString "_law_rows") (.ofString "_law_rows") (nat_lit 666) (nat_lit 671) (nat_lit 221) (nat_lit 2) (nat_lit 371) (nat_lit 375) true) ::
    (nat_lit 377, fnL (.ofString "_law_rows") (.ofString "_law_rows") p377 b377 s377 (nat_lit 376)) ::
    (nat_lit 381, cdO (.ofString "_law_product") (.ofString "_law_product") (nat_lit 674) (nat_lit 677) (nat_lit 223) (nat_lit 2) (nat_lit 378) (nat_lit 380) false) ::
    (nat_lit 382, fnL (.ofString "_law_product") (.ofString "_law_product") p382 b382 s382 (nat_lit 381)) ::
    (nat_lit 386, cdO (.ofString "_law_six_told") (.ofString "_law_six_told") (nat_lit 680) (nat_lit 683) (nat_lit 225) (nat_lit 2) (nat_lit 383) (nat_lit 385) false) ::
    (nat_lit 387, fnL (.ofString "_law_six_told") (.ofString "_law_six_told") p387 b387 s387 (nat_lit 386)) ::
    (nat_lit 393, cdO (.ofString "_law_nearest") (.ofString "_law_nearest") (nat_lit 686) (nat_lit 693) (nat_lit 227) (nat_lit 3) (nat_lit 388) (nat_lit 392) true) ::
    (nat_lit 394, fnL (.ofString "_law_nearest") (.ofString "_law_nearest") p394 b394 s394 (nat_lit 393)) ::
    (nat_lit 400, cdO (.ofString "_law_ends") (.ofString "_law_ends") (nat_lit 696) (nat_lit 705) (nat_lit 230) (nat_lit 2) (nat_lit 395) (nat_lit 399) true) ::
    (nat_lit 401, fnL (.ofString "_law_ends") (.ofString "_law_ends") p401 b401 s401 (nat_lit 400)) ::
    (nat_lit 407, cdO (.ofString "_law_is_refused") (.ofString "_law_is_refused") (nat_lit 708) (nat_lit 715) (nat_lit 240) (nat_lit 3) (nat_lit 402) (nat_lit 406) true) ::
    (nat_lit 408, fnL (.ofString "_law_is_refused") (.ofString "_law_is_refused") p408 b408 s408 (nat_lit 407)) ::
    (nat_lit 412, cdO (.ofString "_law_inverse_told") (.ofString "_law_inverse_told") (nat_lit 718) (nat_lit 721) (nat_lit 252) (nat_lit 5) (nat_lit 409) (nat_lit 411) false) ::
    (nat_lit 413, fnL (.ofString "_law_inverse_told") (.ofString "_law_inverse_told") p413 b413 s413 (nat_lit 412)) ::
    (nat_lit 417, cdO (.ofString "_law_turns_told") (.ofString "_law_turns_told") (nat_lit 724) (nat_lit 727) (nat_lit 274) (nat_lit 2) (nat_lit 414) (nat_lit 416) false) ::
    (nat_lit 418, fnL (.ofString "_law_turns_told") (.ofString "_law_turns_told") p418 b418 s418 (nat_lit 417)) ::
    (nat_lit 422, cdO (.ofString "law") (.ofString "law") (nat_lit 730) (nat_lit 733) (nat_lit 294) (nat_lit 1) (nat_lit 419) (nat_lit 421) false) ::
    (nat_lit 423, fnL (.ofString "law") (.ofString "law") p423 b423 s423 (nat_lit 422)) :: [] : Params → Frag)) _ _ _ _ _ _ _ _ _ _ _ _ _ _ _ _ _ _ _ _ _ _ _ _ _ _ _ _ _ _ _ _ _ _ _ _ _ _ _ _ _ _ _ _ _ _ _ _ _ _ _ _ _ _ _ _ _ _ _ _ _ _ _ _ _ _ _ _ _ _ _ _ _ _ _ _ _ _ _ _ _ _ _ _ _ _ _ _ _ _ _ _ _ _ _ _ _ _ _ _ _ _ _ _ _ _ _ _ _ _ _ _ _ _ _ _ _ _ _ _ _ _ _ _ _ _ _ _ _ _ _ _ _ _ _ _ _ _ _ _ _ _ _ _ _ _ _ _ _ _ _ _ _ _ _ _ _ _ _ _ _ _ _ _ _ rfl rfl rfl rfl rfl rfl rfl rfl rfl rfl rfl rfl rfl rfl rfl rfl rfl rfl rfl rfl rfl rfl rfl rfl rfl rfl rfl rfl rfl rfl rfl rfl rfl rfl rfl rfl rfl rfl rfl rfl rfl rfl rfl rfl rfl rfl rfl rfl rfl rfl rfl rfl rfl rfl rfl
noncomputable def keepS (s : Stmt) : Bool := (partS s).1
noncomputable def vw : Program := { PySem.Challenge.pw_nn0207_01 with main := { PySem.Challenge.pw_nn0207_01.main with body := pb.filter keepS } }
noncomputable abbrev loos : List Str := [Str.ofString "PaperError"]
noncomputable def asF : List Addr := (List.range 424).filter (Nat.testBit 33540335024254419272422016341425712598937230426818731138159652792108976508751072896282440793967295066152671913346098413859504140)


end
section
theorem le6 {a b c d e f n : Nat} (h1 : a ≤ n) (h2 : b ≤ n) (h3 : c ≤ n) (h4 : d ≤ n) (h5 : e ≤ n) (h6 : f ≤ n) : max a (max b (max c (max d (max e f)))) ≤ n :=
  Nat.max_le.mpr ⟨h1, Nat.max_le.mpr ⟨h2, Nat.max_le.mpr ⟨h3, Nat.max_le.mpr ⟨h4, Nat.max_le.mpr ⟨h5, h6⟩⟩⟩⟩⟩
theorem le6s {a n : Nat} (h : a ≤ n) : max a (max a (max a (max a (max a a)))) ≤ n := le6 h h h h h h
theorem lea (a b : Nat) : a ≤ a + b + 1 := Nat.le_trans (Nat.le_add_right a b) (Nat.le_succ _)
theorem leb (a b : Nat) : b ≤ a + b + 1 := Nat.le_trans (Nat.le_add_left b a) (Nat.le_succ _)
theorem le1 (a : Nat) : 1 ≤ a + 1 := Nat.succ_le_succ (Nat.zero_le _)
theorem toNat_split {P k : Int} (h0 : 0 ≤ k) (h : k ≤ P) : P.toNat = (P - k).toNat + k.toNat := by
  rw [← Int.toNat_add (Int.sub_nonneg_of_le h) h0, Int.sub_add_cancel]
theorem toNat_gap {p q : Int} (h0 : 0 ≤ p) (h : p < q) : q.toNat = (q - p - 1).toNat + 1 + p.toNat := by
  rw [toNat_split h0 (Int.le_of_lt h)]
  have : q - p = (q - p - 1) + 1 := (Int.sub_add_cancel _ _).symm
  rw [this, Int.toNat_add (Int.le_sub_one_of_lt (Int.sub_pos_of_lt h)) (by decide)]
  rw [Int.add_sub_cancel]
  rfl
theorem four {r : Int} (h0 : 0 ≤ r) (h1 : r < 4) : r = 0 ∨ r = 1 ∨ r = 2 ∨ r = 3 := by
  obtain ⟨k, rfl⟩ := Int.eq_ofNat_of_zero_le h0
  exact (by decide : ∀ k : Nat, k < 4 → ((k : Int) = 0 ∨ (k : Int) = 1 ∨ (k : Int) = 2 ∨ (k : Int) = 3)) k (Int.ofNat_lt.mp h1)
theorem fm4 (n : Int) : n.fmod 4 = 0 ∨ n.fmod 4 = 1 ∨ n.fmod 4 = 2 ∨ n.fmod 4 = 3 := four (Int.fmod_nonneg_of_pos n (by decide)) (Int.fmod_lt_of_pos n (by decide))
theorem nab_pos {b : Int} (h : b ≠ 0) : 0 < b.natAbs := Int.natAbs_pos.mpr h
theorem nabi_pos {b : Int} (h : b ≠ 0) : (0 : Int) < b.natAbs := Int.natCast_pos.mpr (nab_pos h)
theorem nab2_pos {b : Int} (h : b ≠ 0) : (0 : Int) < 2 * b.natAbs := Int.mul_pos (by decide) (nabi_pos h)
theorem nab2_ne {b : Int} (h : b ≠ 0) : (2 * b.natAbs : Int) ≠ 0 := Int.ne_of_gt (nab2_pos h)
theorem toNat_lt {a b : Int} (h0 : 0 < b) (h : a < b) : a.toNat < b.toNat := (Int.toNat_lt_toNat h0).mpr h
theorem nab_of {v : Int} {b c : Nat} (h0 : 0 ≤ v) (h : v ≤ (b : Int)) (k : b < c) : v.natAbs < c := by
  obtain ⟨n, rfl⟩ := Int.eq_ofNat_of_zero_le h0
  exact Nat.lt_of_le_of_lt (Int.ofNat_le.mp h) k
theorem nab_lt {v c : Int} {n : Nat} (h0 : 0 ≤ v) (h : v < c) (hc : c = (n : Int)) : v.natAbs < n := by
  obtain ⟨k, rfl⟩ := Int.eq_ofNat_of_zero_le h0
  exact Int.ofNat_lt.mp (hc ▸ h)
theorem toNat_le {p : Int} {c : Nat} (h : p ≤ (c : Int)) : p.toNat ≤ c := Int.toNat_le.mpr h
theorem dbl_lt {x b : Nat} (h : x < 10 ^ b) : 2 * x < 10 ^ b * 10 := by
  rw [Nat.mul_comm 2 x]
  exact Nat.lt_of_lt_of_le (Nat.mul_lt_mul_of_pos_right h (by decide)) (Nat.mul_le_mul_left _ (by decide))
theorem add_lt {x y b : Nat} (h : x < 10 ^ b) (k : y < 10 ^ b) : x + y < 10 ^ b * 10 :=
  Nat.lt_of_lt_of_le (Nat.add_lt_add h k) (by rw [← Nat.mul_two]; exact Nat.mul_le_mul_left _ (by decide))
theorem le_of6 {a b n k : Nat} (h : a ≤ b) (k' : b ≤ n) (e : n ≤ k) : a ≤ k := Nat.le_trans (Nat.le_trans h k') e

end
section
open PySem PyProof.Rows
theorem ten_ne (n : Nat) : ((10:Rat))^n ≠ 0 := by
  induction n with
  | zero => simp
  | succ n ih => rw [Rat.pow_succ]; intro h; rcases Rat.mul_eq_zero.mp h with h | h
                 · exact ih h
                 · exact absurd h (by decide)
theorem ten_add (n m : Nat) : ((10:Rat))^(n+m) = 10^n * 10^m := by
  induction m with
  | zero => simp
  | succ m ih => rw [← Nat.add_assoc, Rat.pow_succ, Rat.pow_succ, ih]; grind
theorem ten_cast (n : Nat) : (((10:Int)^n : Int) : Rat) = (10:Rat)^n := by
  induction n with
  | zero => simp
  | succ n ih => rw [Rat.pow_succ, Int.pow_succ, Rat.intCast_mul, ih]; rfl

structure Nrm (t p : Int) (q : Rat) : Prop where
  p0 : 0 ≤ p
  nz : p = 0 ∨ t.fmod 10 ≠ 0
  val : (t : Rat) = q * (10:Rat)^p.toNat

theorem acc_val {T P : Int} : ∀ (n : Nat) (k : Int), P = k + n →
    (∀ j, k < j → j ≤ P → (accDown (fun _ x => x.fdiv 10) P T j).fmod 10 = 0) →
    accDown (fun (_ : Int) (x : Int) => x.fdiv 10) P T k * 10 ^ n = T
  | 0, k, hn, _ => by
    obtain rfl : P = k := hn.trans (Int.add_zero k)
    rw [accDown_start]; simp
  | n+1, k, hn, hs => by
    have e : P = k + 1 + n := by rw [hn, Int.natCast_succ, Int.add_comm (n : Int) 1, ← Int.add_assoc]
    have kP : k + 1 ≤ P := e ▸ Int.le_add_of_nonneg_right (Int.natCast_nonneg n)
    have h1 := acc_val n (k+1) e (fun j h1 h2 => hs j (Int.lt_trans (Int.lt_succ k) h1) h2)
    have h2 := hs (k+1) (Int.lt_succ k) kP
    have h3 := accDown_succ (g := fun (_ : Int) (x : Int) => x.fdiv 10) (k₀ := P) (k := k+1) (x₀ := T) kP
    rw [Int.add_sub_cancel k 1] at h3
    rw [h3]
    generalize accDown (fun (_ : Int) (x : Int) => x.fdiv 10) P T (k+1) = y at h1 h2
    rw [← h1, Int.pow_succ]
    have : y.fdiv 10 * 10 = y := by
      have h5 := Int.mul_fdiv_add_fmod y 10
      rw [h2, Int.add_zero] at h5
      rw [Int.mul_comm]; exact h5
    rw [← Int.mul_assoc, Int.mul_assoc _ _ 10, Int.mul_comm _ 10, ← Int.mul_assoc, this]

theorem acc_told {T P k : Int} (hP : 0 ≤ P) (hk : k ≤ P) (hlo : min P 0 ≤ k)
    (hstep : ∀ j, k < j → j ≤ P → (if 0 < j then if ((accDown (fun (_ : Int) (x : Int) => x.fdiv 10) P T j).fmod 10 == 0) = true then true else false else false) = true)
    (hstop : (if 0 < k then if ((accDown (fun (_ : Int) (x : Int) => x.fdiv 10) P T k).fmod 10 == 0) = true then true else false else false) = false) :
    Nrm (accDown (fun (_ : Int) (x : Int) => x.fdiv 10) P T k) k ((T : Rat) / 10 ^ P.toNat) ∧ (accDown (fun (_ : Int) (x : Int) => x.fdiv 10) P T k).natAbs ≤ T.natAbs := by
  have hk0 : 0 ≤ k := by rw [Int.min_eq_right hP] at hlo; exact hlo
  have hs : ∀ j, k < j → j ≤ P → (accDown (fun (_ : Int) (x : Int) => x.fdiv 10) P T j).fmod 10 = 0 := by
    intro j h1 h2
    have h := hstep j h1 h2
    rw [if_pos (Int.lt_of_le_of_lt hk0 h1)] at h
    by_cases hc : ((accDown (fun (_ : Int) (x : Int) => x.fdiv 10) P T j).fmod 10 == 0) = true
    · simpa using hc
    · rw [if_neg hc] at h; cases h
  have hv := acc_val (P - k).toNat k (by rw [Int.toNat_of_nonneg (Int.sub_nonneg_of_le hk), Int.add_comm, Int.sub_add_cancel]) hs
  generalize accDown (fun (_ : Int) (x : Int) => x.fdiv 10) P T k = y at hv hstop
  refine ⟨⟨hk0, ?_, ?_⟩, ?_⟩
  · by_cases h0 : k = 0
    · exact .inl h0
    · right
      rw [if_pos (Int.lt_iff_le_and_ne.mpr ⟨hk0, Ne.symm h0⟩)] at hstop
      intro hc
      rw [hc] at hstop
      simp at hstop
  · rw [← hv, Rat.intCast_mul, ten_cast]
    have e : P.toNat = (P - k).toNat + k.toNat := toNat_split hk0 hk
    rw [e, ten_add]
    have h1 := ten_ne (P - k).toNat
    have h2 := ten_ne k.toNat
    grind
  · rw [← hv, Int.natAbs_mul]
    exact Nat.le_mul_of_pos_right _ (by have : (10:Int)^(P-k).toNat ≠ 0 := by exact Int.pow_ne_zero (by decide)
                                        exact nab_pos this)

theorem Nrm.uniq {t p t' p' : Int} {q : Rat} (h : Nrm t p q) (h' : Nrm t' p' q) : t = t' ∧ p = p' := by
  obtain ⟨a1, a2, a3⟩ := h
  obtain ⟨b1, b2, b3⟩ := h'
  have key : t * 10 ^ p'.toNat = t' * 10 ^ p.toNat := by
    have : ((t * 10 ^ p'.toNat : Int) : Rat) = ((t' * 10 ^ p.toNat : Int) : Rat) := by
      rw [Rat.intCast_mul, Rat.intCast_mul, ten_cast, ten_cast, a3, b3]; grind
    exact Rat.intCast_inj.mp this
  have aux : ∀ {t p t' p' : Int}, 0 ≤ p → p < p' → t * 10 ^ p'.toNat = t' * 10 ^ p.toNat → t'.fmod 10 = 0 := by
    intro t p t' p' h0 hlt hk
    have e : p'.toNat = (p' - p - 1).toNat + 1 + p.toNat := toNat_gap h0 hlt
    rw [e, Int.pow_add, Int.pow_succ, ← Int.mul_assoc] at hk
    have := Int.eq_of_mul_eq_mul_right (Int.pow_ne_zero (by decide)) hk
    rw [← this, ← Int.mul_assoc]
    simp
  rcases Int.lt_trichotomy p p' with hl | he | hg
  · exact absurd (aux a1 hl key) (b2.resolve_left fun e => Int.not_lt.mpr a1 (e ▸ hl))
  · subst he
    exact ⟨Int.eq_of_mul_eq_mul_right (Int.pow_ne_zero (by decide)) key, rfl⟩
  · exact absurd (aux b1 hg key.symm) (a2.resolve_left fun e => Int.not_lt.mpr b1 (e ▸ hg))

end
section
open PySem PyProof.Rows
theorem gcd_step {v u : Int} (hv : 0 ≤ v) (hu : 0 < u) : Int.gcd u (v.fmod u) = Int.gcd v u := by
  rw [Int.fmod_eq_emod_of_nonneg v (Int.le_of_lt hu)]
  obtain ⟨n, rfl⟩ := Int.eq_ofNat_of_zero_le hv
  obtain ⟨k, rfl⟩ := Int.eq_ofNat_of_zero_le (Int.le_of_lt hu)
  rw [← Int.natCast_emod]
  simp only [Int.gcd, Int.natAbs_natCast]
  rw [Nat.gcd_comm n k, Nat.gcd_rec k n, Nat.gcd_comm]

/-- an exact decimal -/
noncomputable def Ends (q : Rat) : Prop := ∃ (t : Int) (k : Nat), q * 10 ^ k = (t : Rat)

theorem cop10 {m : Nat} (h2 : ¬ 2 ∣ m) (h5 : ¬ 5 ∣ m) : Nat.Coprime m 10 := by
  have h : Nat.gcd m 10 ∣ 10 := Nat.gcd_dvd_right ..
  have h' : Nat.gcd m 10 ∣ m := Nat.gcd_dvd_left ..
  have hle := Nat.le_of_dvd (by decide) h
  unfold Nat.Coprime
  generalize Nat.gcd m 10 = g at h h' hle
  rcases (by decide : ∀ g, g < 11 → g ∣ 10 → g = 1 ∨ g = 2 ∨ g = 5 ∨ g = 10) g (Nat.lt_succ_of_le hle) h with rfl | rfl | rfl | rfl
  · rfl
  · exact absurd h' h2
  · exact absurd h' h5
  · exact absurd (Nat.dvd_trans (by decide) h') h2
theorem one_of_dvd {m : Nat} (h2 : ¬ 2 ∣ m) (h5 : ¬ 5 ∣ m) : ∀ k, m ∣ 10 ^ k → m = 1
  | 0, h => Nat.eq_one_of_dvd_one h
  | k + 1, h => one_of_dvd h2 h5 k ((cop10 h2 h5).dvd_of_dvd_mul_right (by rw [Nat.pow_succ] at h; exact h))
theorem strip : ∀ n : Nat, 0 < n → ∃ a b m, n = 2 ^ a * 5 ^ b * m ∧ ¬ 2 ∣ m ∧ ¬ 5 ∣ m ∧ 0 < m := by
  intro n
  induction n using Nat.strongRecOn with
  | ind n ih =>
    intro hn
    by_cases h2 : 2 ∣ n
    · obtain ⟨c, rfl⟩ := h2
      obtain ⟨a, b, m, e, r⟩ := ih c (by omega) (by omega)
      refine ⟨a + 1, b, m, ?_, r⟩
      rw [Nat.pow_succ, Nat.mul_comm (2 ^ a) 2, Nat.mul_assoc 2, Nat.mul_assoc 2, ← e]
    · by_cases h5 : 5 ∣ n
      · obtain ⟨c, rfl⟩ := h5
        obtain ⟨a, b, m, e, r⟩ := ih c (by omega) (by omega)
        refine ⟨a, b + 1, m, ?_, r⟩
        rw [Nat.pow_succ, Nat.mul_comm (5 ^ b) 5, ← Nat.mul_assoc (2 ^ a), Nat.mul_comm (2 ^ a) 5, Nat.mul_assoc 5, Nat.mul_assoc 5, ← e]
      · exact ⟨0, 0, n, by simp, h2, h5, hn⟩
theorem two_five_dvd (a b : Nat) : 2 ^ a * 5 ^ b ∣ 10 ^ max a b ∧ 2 ^ max a b ≤ 2 ^ a * 5 ^ b := by
  constructor
  · rw [show 10 = 2 * 5 from rfl, Nat.mul_pow]
    exact Nat.mul_dvd_mul (Nat.pow_dvd_pow 2 (Nat.le_max_left ..)) (Nat.pow_dvd_pow 5 (Nat.le_max_right ..))
  · rcases Nat.le_total a b with h | h
    · rw [Nat.max_eq_right h]
      exact Nat.le_trans (Nat.pow_le_pow_left (by decide) b) (Nat.le_mul_of_pos_left _ (Nat.pow_pos (by decide)))
    · rw [Nat.max_eq_left h]
      exact Nat.le_mul_of_pos_right _ (Nat.pow_pos (by decide))
/-- where it ends at all, it ends soon -/
theorem ends_soon {n k : Nat} (hn : 0 < n) (h : n ∣ 10 ^ k) : ∃ j, n ∣ 10 ^ j ∧ 2 ^ j ≤ n := by
  obtain ⟨a, b, m, e, h2, h5, hm⟩ := strip n hn
  have : m = 1 := one_of_dvd h2 h5 k (Nat.dvd_trans ⟨2 ^ a * 5 ^ b, by rw [e, Nat.mul_comm]⟩ h)
  subst this
  rw [Nat.mul_one] at e
  exact ⟨max a b, by rw [e]; exact (two_five_dvd a b).1, by rw [e]; exact (two_five_dvd a b).2⟩

/-- what is left of the denominator -/
noncomputable def restOf (a b : Int) : Nat := b.natAbs / Int.gcd a b
theorem gcd_pos {a b : Int} (hb : b ≠ 0) : 0 < Int.gcd a b := by
  rw [Int.gcd]
  exact Nat.gcd_pos_of_pos_right _ (nab_pos hb)
theorem rest_pos {a b : Int} (hb : b ≠ 0) : 0 < restOf a b := by
  unfold restOf
  exact Nat.div_pos (Nat.le_of_dvd (nab_pos hb) (Nat.gcd_dvd_right ..)) (gcd_pos hb)
theorem rest_le {a b : Int} : restOf a b ≤ b.natAbs := Nat.div_le_self ..
theorem rest_dvd {a b : Int} (hb : b ≠ 0) {k : Nat} : restOf a b ∣ 10 ^ k ↔ b ∣ a * 10 ^ k := by
  have hg := gcd_pos (a := a) hb
  have e1 : b.natAbs = restOf a b * Int.gcd a b := (Nat.div_mul_cancel (Nat.gcd_dvd_right ..)).symm
  have e2 : a.natAbs = a.natAbs / Int.gcd a b * Int.gcd a b := (Nat.div_mul_cancel (Nat.gcd_dvd_left ..)).symm
  have hc : Nat.Coprime (restOf a b) (a.natAbs / Int.gcd a b) := (Nat.coprime_div_gcd_div_gcd (m := a.natAbs) (n := b.natAbs) hg).symm
  rw [← Int.natAbs_dvd_natAbs, Int.natAbs_mul, Int.natAbs_pow, show Int.natAbs 10 = 10 from rfl]
  generalize restOf a b = r at *
  generalize a.natAbs / Int.gcd a b = c at *
  rw [e1, e2, Nat.mul_right_comm]
  constructor
  · intro h
    exact Nat.mul_dvd_mul (Nat.dvd_trans h (Nat.dvd_mul_left ..)) (Nat.dvd_refl _)
  · intro h
    exact hc.dvd_of_dvd_mul_left (Nat.dvd_of_mul_dvd_mul_right hg h)
theorem cast_ne {b : Int} (hb : b ≠ 0) : (b : Rat) ≠ 0 := by
  intro h
  exact hb (Rat.intCast_inj.mp (h.trans rfl))
theorem ends_iff {a b : Int} (hb : b ≠ 0) : Ends ((a : Rat) / b) ↔ ∃ k, restOf a b ∣ 10 ^ k := by
  have hb' := cast_ne hb
  constructor
  · rintro ⟨t, k, h⟩
    refine ⟨k, (rest_dvd hb).mpr ⟨t, ?_⟩⟩
    apply Rat.intCast_inj.mp
    rw [Rat.intCast_mul, Rat.intCast_mul, ten_cast, ← h]
    grind
  · rintro ⟨k, h⟩
    obtain ⟨t, ht⟩ := (rest_dvd hb).mp h
    refine ⟨t, k, ?_⟩
    have : ((a * 10 ^ k : Int) : Rat) = ((b * t : Int) : Rat) := by rw [ht]
    rw [Rat.intCast_mul, Rat.intCast_mul, ten_cast] at this
    grind
theorem fmod_zero_iff {r : Nat} (hr : 0 < r) {k : Nat} : ((10 : Int) ^ k).fmod r = 0 ↔ r ∣ 10 ^ k := by
  rw [Int.fmod_eq_emod_of_nonneg _ (by omega)]
  constructor
  · intro h
    have := Int.dvd_of_emod_eq_zero h
    exact_mod_cast this
  · intro h
    exact Int.emod_eq_zero_of_dvd (by exact_mod_cast h)
theorem not_ends {a b : Int} (hb : b ≠ 0) {p : Nat} (h1 : ∀ j, j < p → ¬ restOf a b ∣ 10 ^ j) (h2 : restOf a b < 2 ^ p) : ¬ Ends ((a : Rat) / b) := by
  rw [ends_iff hb]
  rintro ⟨k, hk⟩
  obtain ⟨j, h3, h4⟩ := ends_soon (rest_pos hb) hk
  refine h1 j ?_ h3
  exact (Nat.pow_lt_pow_iff_right (by decide : 1 < 2)).mp (Nat.lt_of_le_of_lt h4 h2)
theorem exact_q {a b : Int} (hb : b ≠ 0) {p : Nat} (h : restOf a b ∣ 10 ^ p) : (((a * 10 ^ p).fdiv b : Int) : Rat) = (a : Rat) / b * 10 ^ p := by
  obtain ⟨t, ht⟩ := (rest_dvd hb).mp h
  have hb' := cast_ne hb
  rw [ht, Int.mul_fdiv_cancel_left _ hb]
  have : ((a * 10 ^ p : Int) : Rat) = ((b * t : Int) : Rat) := by rw [ht]
  rw [Rat.intCast_mul, Rat.intCast_mul, ten_cast] at this
  grind

end
section
open PySem PySem.W PyProof.Rows PySem.Calls PySem.Spec
noncomputable abbrev Led := List (Addr × Obj)
noncomputable abbrev Tp (mean : ExcName → Option Value) (mg mb : Str → Option Value) (h : Heap) : Prop :=
  Top vw (looseW vw loos) mean mg mb h

/-- a call of f in any frame: the goal is reached if 'ret' holds of what the caller wants of an answer and a ledger -/
noncomputable abbrev Ct (w : World) (mean : ExcName → Option Value) (mg mb : Str → Option Value) (dn : Nat) (f : Value) (args : List Value) (pre : Led → Prop) (ret : (Value → Led → Prop) → Led → Prop) : Prop :=
  ∀ (dp un : Nat) (gd : Option (List Code)) (cn : Str) (cs : Scope) (a : Addr) (ccd : Value) (cl : List (Str × Addr)) (outer : List Env) (A₀ : Around) (base h₀ : Heap) (L : Addr) (m : Str → Option Value) (news : Led) (s : Shared) (Q E : Value → Shared → Prop),
    Below A₀ base outer h₀ → Fr h₀ L s.heap m → (KF w.params).In h₀ → News h₀ L s.heap news → Tp mean mg mb h₀ → cs.kind = .function → pre news →
    dp + dn < recursionLimit → un + 8 * dn < cLine →
    ret (fun v news' => ∀ (h' : Heap) (tk' : Nat), Fr h₀ L h' m → News h₀ L h' news' → Q v { s with heap := h', toks := tk' }) news →
    wpAny (model PySem.Challenge.rw_nn0207_01.row.prog w) (ktrTop dp un gd cn cs L a ccd cl outer) (call f args) Q E s

theorem Ct.use {w : World} {mean : ExcName → Option Value} {mg mb : Str → Option Value} {dn : Nat} {f : Value} {args : List Value} {pre : Led → Prop} {ret : (Value → Led → Prop) → Led → Prop} (C : Ct w mean mg mb dn f args pre ret)
    {dp un : Nat} {gd : Option (List Code)} {cn : Str} {cs : Scope} {a : Addr} {ccd : Value} {cl : List (Str × Addr)} {outer : List Env} {A₀ : Around} {base h₀ : Heap} {L : Addr} {m : Str → Option Value} {news : Led} {s : Shared} {Q E : Value → Shared → Prop}
    (B : Below A₀ base outer h₀) (F : Fr h₀ L s.heap m) (X : (KF w.params).In h₀) (N : News h₀ L s.heap news) (T : Tp mean mg mb h₀) (hk : cs.kind = .function) (hp : pre news)
    (hd : dp + dn < recursionLimit) (hu : un + 8 * dn < cLine)
    (h : ret (fun v news' => ∀ (h' : Heap) (tk' : Nat), Fr h₀ L h' m → News h₀ L h' news' → Q v { s with heap := h', toks := tk' }) news) :
    wpAny (model PySem.Challenge.rw_nn0207_01.row.prog w) (ktrTop dp un gd cn cs L a ccd cl outer) (call f args) Q E s :=
  C dp un gd cn cs a ccd cl outer A₀ base h₀ L m news s Q E B F X N T hk hp hd hu h

theorem units_under_make (A : Around) (C : Addr) (vals : List Value) : (A.under (.builtin "type.__call__" ⟨.ref C :: vals, []⟩)).units = A.units + 1 := rfl
section
variable {prog : Program} {w : World} {A₀ A : Around} {base h₀ : Heap} {K : Frag} {p : Program} {loose : List Str} {mean : ExcName → Option Value} {mg mb : Str → Option Value} {L : Addr} {m : Str → Option Value} {news : List (Addr × Obj)} {s : Shared}
theorem code_defN {env : Env} {outer : List Env} {R : Result → Shared → Prop} {name qual : Str} {params : Arguments} {body : List Stmt} {scope : Scope} {dV kV doc pm cdv ct oc : Value} {an od : Option Addr} {osl : Array (Option Value)} {f : Addr} {vals : List Value} (names : List Str)
    (B : Below A₀ base outer h₀) (F : Fr h₀ L s.heap m) (X₀ : K.In h₀) (N : News h₀ L s.heap news) (T : Top p loose mean mg mb h₀) (hA : A.frames = some (env :: outer)) (hf : env.frame = some L) (hke : env.scope.kind = .function)
    (ho : K.lookup f = some ⟨oc, od, .func (fnOf name qual params body scope dV kV doc pm an cdv ct), osl⟩) (hcd : codeIn K cdv qual = true) (hroom : A.depth < recursionLimit)
    (hbind : BindsTo s (fnOf name qual params body scope dV kV doc pm an cdv ct) ⟨vals, []⟩ (names.zip vals)) (hloc : ∀ y ∈ names.zip vals, scope.names.lookup y.1 = some .local)
    (h : ∀ g L' h₁, Fr h₀ L g m → Fr g L' h₁ (fun y => (names.zip vals).reverse.lookup y) → News g L' h₁ news → Below A base (env :: outer) g → K.In g → Top p loose mean mg mb g →
      wpAny (model prog w) (A.deeper (envOf qual scope L' f cdv)) (execs body (envOf qual scope L' f cdv))
        (fun fl s' => LeaveK h₀ L m g R (match fl with | .ret v => v | _ => .none) s')
        (fun e s' => wpAny (model prog w) (A.deeper (envOf qual scope L' f cdv)) (leaving (envOf qual scope L' f cdv) e) (fun _ s'' => R (.error e) s'') (fun e' s'' => R (.error e') s'') s')
        { s with heap := h₁, toks := s.toks + (names.zip vals).length })
    (hco : scope.isCoroutine = false) (hgen : scope.isGenerator = false) (hk : scope.kind = .function)
    (hcell : ∀ x ∈ scope.names, x.2 ≠ .cell) : codeAny (model prog w) A (.call (.ref f) ⟨vals, []⟩) R s :=
  code_def B F X₀ N T hA hf hke ho hcd hroom hbind hloc h hco hgen hk hcell
end
/-- one look at a scope for a name -/
structure NmOk (cs : Scope) (x : Str) (k : NameKind) : Prop where
  fk : cs.kind = .function
  fl : cs.names.lookup x = some k
  fd : (x == ("__debug__" : Str)) = false
noncomputable def noStar : PySem.Expr → Bool
  | .Starred .. => false
  | _ => true
section
variable {M : Model} {A : Around} {E : Value → Shared → Prop} {s : Shared} {h₀ : Heap} {L a : Addr} {m : Str → Option Value} {cn : Str} {cs : Scope} {ccd : Value} {cl : List (Str × Addr)} {env : Env}
  {x : Str} {xp pos : Pos} {v f : Value} {Q : Value → Shared → Prop} {R : List Value → Shared → Prop} {K : Frag} {p : Program} {loose : List Str} {mg mb : Str → Option Value} {e : PySem.Expr} {rest : List PySem.Expr}
theorem nmL (F : Fr h₀ L s.heap m) (hv : m x = some v) (hc : NmOk cs x .local) (h : Q v s) : wpAny M A (eval (.Name x pos) (envX cn cs L a ccd cl)) Q E s :=
  nameX_L F hv h hc.fk hc.fl hc.fd
theorem nmK (F : Fr h₀ L s.heap m) (X : K.In h₀) (T : TopRead p loose mg mb h₀) (e : nsIn K mainGlobals x = some (some v)) (hc : NmOk cs x .globalImplicit) (h : Q v s) : wpAny M A (eval (.Name x pos) (envX cn cs L a ccd cl)) Q E s :=
  nameX_K F X T e h hc.fk hc.fl hc.fd
theorem wp_letA {α : Type} {t : Sem α} {Q : α → Shared → Prop} (h : let A' := A; wpAny M A' t Q E s) : wpAny M A t Q E s := h
theorem stL {Q : Unit → Shared → Prop} {news : List (Addr × Obj)} (F : Fr h₀ L s.heap m) (N : News h₀ L s.heap news) (hc : NmOk cs x .local)
    (h : let m' : Str → Option Value := fun y => if y = x then some v else m y; ∀ h' tk, Fr h₀ L h' m' → News h₀ L h' news → Q () { s with heap := h', toks := tk }) : wpAny M A (storeName (envX cn cs L a ccd cl) x v) Q E s :=
  storeX_L F N (fun h' F' N' => h h' _ F' N') hc.fk hc.fl
theorem star_c (h : noStar e = true) : starEach (e :: rest) env = (false, eval e env) :: starEach rest env := by
  cases e <;> first | rfl | cases h
theorem plain_any : ∀ {rest : List PySem.Expr}, rest.all noStar = true → (backTo pos (starEach rest env)).any (·.1) = false
  | [], _ => rfl
  | e :: r, h => by
    have h' := Bool.and_eq_true_iff.mp h
    rw [star_c h'.1]
    exact (Bool.false_or _).trans (plain_any h'.2)
/-- arguments: a local name, a whole number -/
theorem aL (F : Fr h₀ L s.heap m) (hv : m x = some v) (hc : NmOk cs x .local) (h : wpAny M A (spliced (backTo pos (starEach rest (envX cn cs L a ccd cl)))) (fun vs s₂ => R (v :: vs) s₂) E s) :
    wpAny M A (spliced (backTo pos (starEach (.Name x xp :: rest) (envX cn cs L a ccd cl)))) R E s := args_cons (nmL F hv hc h)
theorem aL0 (F : Fr h₀ L s.heap m) (hv : m x = some v) (hc : NmOk cs x .local) (h : R [v] s) :
    wpAny M A (spliced (backTo pos (starEach [.Name x xp] (envX cn cs L a ccd cl)))) R E s := args_cons (nmL F hv hc (args_nil h))
theorem aI {i : Int} {k} (h : wpAny M A (spliced (backTo pos (starEach rest env))) (fun vs s₂ => R (.int i s.toks :: vs) s₂) E { s with toks := s.toks + 1 }) :
    wpAny M A (spliced (backTo pos (starEach (.Constant (.int i) k xp :: rest) env))) R E s := args_cons (wpAny_Constant_int h)
theorem aI0 {i : Int} {k} (h : R [.int i s.toks] { s with toks := s.toks + 1 }) :
    wpAny M A (spliced (backTo pos (starEach [.Constant (.int i) k xp] env))) R E s := args_cons (wpAny_Constant_int (args_nil h))
theorem aE (hc : noStar e = true) (h : wpAny M A (eval e env) (fun v s₁ => R [v] s₁) E s) :
    wpAny M A (spliced (backTo pos (starEach [e] env))) R E s := args_cons (wpAny_mono h (fun _ _ h => args_nil h) (fun _ _ h => h)) (star_c hc)
theorem aC (hc : noStar e = true) (h : wpAny M A (eval e env) (fun v s₁ => wpAny M A (spliced (backTo pos (starEach rest env))) (fun vs s₂ => R (v :: vs) s₂) E s₁) E s) :
    wpAny M A (spliced (backTo pos (starEach (e :: rest) env))) R E s := args_cons h (star_c hc)
/-- a call of a def or class of the module -/
theorem gcall (F : Fr h₀ L s.heap m) (X : K.In h₀) (T : TopRead p loose mg mb h₀) (hf : nsIn K mainGlobals x = some (some f)) (hc : NmOk cs x .globalImplicit) (hk : keepIn K f = true) (hs : (e :: rest).all noStar = true)
    (h : wpAny M A (spliced (backTo pos (starEach (e :: rest) (envX cn cs L a ccd cl)))) (fun vs s₁ => K.In s₁.heap ∧ wpAny M A (call f vs) Q E s₁) E s) :
    wpAny M A (eval (.Call (.Name x xp) (e :: rest) [] pos) (envX cn cs L a ccd cl)) Q E s :=
  have hs' := Bool.and_eq_true_iff.mp hs
  Call_ (nmK F X T hf hc (callWith_K X hk h (star_c hs'.1) (plain_any hs'.2)))
theorem gcall0 (F : Fr h₀ L s.heap m) (X : K.In h₀) (T : TopRead p loose mg mb h₀) (hf : nsIn K mainGlobals x = some (some f)) (hc : NmOk cs x .globalImplicit) (hk : keepIn K f = true)
    (h : wpAny M A (call f []) Q E s) : wpAny M A (eval (.Call (.Name x xp) [] [] pos) (envX cn cs L a ccd cl)) Q E s :=
  Call_ (nmK F X T hf hc (callWith_K0 (X.keeps F.keep) hk h))
end
section
variable {prog : Program} {w : World} {A : Around} {E : Value → Shared → Prop} {s : Shared} {h₀ : Heap} {L a o dx C : Addr} {m : Str → Option Value} {cn : Str} {cs : Scope} {ccd : Value} {cl : List (Str × Addr)}
  {x name : Str} {xp ap pos : Pos} {v : Value} {f : Addr} {Q : Value → Shared → Prop} {K : Frag} {e : PySem.Expr} {rest : List PySem.Expr} {news : List (Addr × Obj)} {es : List DictEntry} {n : Nat} {attr : Option Value}
noncomputable def few (es : List PySem.Expr) : Bool := es.all noStar && decide (es.length < 30)
theorem few_form {es : List PySem.Expr} {pos : Pos} {env : Env} (h : few es = true) : methodCallForm (es.length + 0) (backTo pos (starEach es env)) [] = true := by
  have g := Bool.and_eq_true_iff.mp h
  have g2 : es.length < 30 := of_decide_eq_true g.2
  have g1 := plain_any (pos := pos) (env := env) g.1
  unfold methodCallForm
  have : (backTo pos (starEach es env)).all (!·.1) = true := by
    rw [List.all_eq_not_any_not]
    simp only [Bool.not_not, g1, Bool.not_false]
  rw [this]
  simp [g2]
theorem meth_he {x name : Str} {p1 p2 p3 : Pos} {env : Env} {es : List PySem.Expr} (hs : few es = true) (hp : (p2.endLine == p3.line) = true) : eval (.Call (.Attribute (.Name x p1) name p2) es [] p3) env = (do
      let ov ← eval (.Name x p1) env
      standAt p2.atName
      let (f, first) ← holding [ov] (getMethod ov name (do return (← importBound (.Name x p1) env).getD true))
      callWith p3 f first (backTo p3 (starEach es env)) []) := by
  show (do
    let ov ← eval (.Name x p1) env
    standAt p2.atName
    methodCall (.Name x p1) name p2 p3 env ov (es.length + 0) (backTo p3 (starEach es env)) []) = _
  unfold methodCall methodCallPos
  rw [few_form hs, hp]
  rfl
noncomputable def getOk (K : Frag) (C : Addr) (name : Str) : Bool := plainGet K C name && (hasDictIn K C && (match findIn K (.ref C) name with | some at' => noGet K at' | none => false))
noncomputable def methOk (K : Frag) (C : Addr) (name : Str) (f : Addr) : Bool := plainGet K C name && (isFn K (.ref f) && keepIn K (.ref f))
/-- an attribute of an object that a local name holds -/
theorem attr_n (F : Fr h₀ L s.heap m) (X : K.In h₀) (hv : m x = some (.ref o)) (hc : NmOk cs x .local) (N : News h₀ L s.heap news) (h1 : (o, instObj C dx) ∈ news) (h2 : (dx, dictOf es n) ∈ news)
    (hg : getOk K C name = true) (hl : getL name es = some (some v)) (hh : handedIn v = true) (h : Q v { s with toks := s.toks + 1 }) :
    wpAny (model prog w) A (eval (.Attribute (.Name x xp) name pos) (envX cn cs L a ccd cl)) Q E s := by
  have g1 := Bool.and_eq_true_iff.mp hg
  have g2 := Bool.and_eq_true_iff.mp g1.2
  cases hq : findIn K (.ref C) name with
  | none => rw [hq] at g2; cases g2.2
  | some at' =>
    rw [hq] at g2
    exact Attribute_Name_ (nmL F hv hc (get_own F X (InstAt.of_news N h1 h2) g1.1 g2.1 hq g2.2 hl hh h))
theorem meth_n (F : Fr h₀ L s.heap m) (X : K.In h₀) (hv : m x = some (.ref o)) (hc : NmOk cs x .local) (N : News h₀ L s.heap news) (h1 : (o, instObj C dx) ∈ news) (h2 : (dx, dictOf es n) ∈ news)
    (hf : findIn K (.ref C) name = some (some (.ref f))) (hm : methOk K C name f = true) (hl : getL name es = some none) (hs : few (e :: rest) = true) (hp : (ap.endLine == pos.line) = true)
    (h : wpAny (model prog w) A (spliced (backTo pos (starEach (e :: rest) (envX cn cs L a ccd cl)))) (fun vs s₁ => K.In s₁.heap ∧ wpAny (model prog w) A (call (.ref f) (.ref o :: vs)) Q E s₁) E s) :
    wpAny (model prog w) A (eval (.Call (.Attribute (.Name x xp) name ap) (e :: rest) [] pos) (envX cn cs L a ccd cl)) Q E s := by
  have g1 := Bool.and_eq_true_iff.mp hm
  have g3 := Bool.and_eq_true_iff.mp g1.2
  have hs' := Bool.and_eq_true_iff.mp (Bool.and_eq_true_iff.mp hs).1
  exact MethodCall_ (nmL F hv hc (method_inst F X (InstAt.of_news N h1 h2) g1.1 hf g3.1 hl (callWith_K (first := [.ref o]) X g3.2 h (star_c hs'.1) (plain_any hs'.2)))) (meth_he hs hp)
theorem meth_n0 (F : Fr h₀ L s.heap m) (X : K.In h₀) (hv : m x = some (.ref o)) (hc : NmOk cs x .local) (N : News h₀ L s.heap news) (h1 : (o, instObj C dx) ∈ news) (h2 : (dx, dictOf es n) ∈ news)
    (hf : findIn K (.ref C) name = some (some (.ref f))) (hm : methOk K C name f = true) (hl : getL name es = some none) (hp : (ap.endLine == pos.line) = true)
    (h : wpAny (model prog w) A (call (.ref f) [.ref o]) Q E s) :
    wpAny (model prog w) A (eval (.Call (.Attribute (.Name x xp) name ap) [] [] pos) (envX cn cs L a ccd cl)) Q E s := by
  have g1 := Bool.and_eq_true_iff.mp hm
  have g3 := Bool.and_eq_true_iff.mp g1.2
  exact MethodCall_ (nmL F hv hc (method_inst F X (InstAt.of_news N h1 h2) g1.1 hf g3.1 hl (callWith_K0 (first := [.ref o]) (X.keeps F.keep) g3.2 h))) (meth_he rfl hp)
end
/-- l lies in the ledger -/
@[irreducible] noncomputable def Sub (l news : Led) : Prop := ∀ e ∈ l, e ∈ news
section
variable {l news x y : Led} {e : Addr × Obj}
theorem Sub.mem (h : Sub l news) : ∀ e ∈ l, e ∈ news := by unfold Sub at h; exact h
theorem Sub.of (h : ∀ e ∈ l, e ∈ news) : Sub l news := by unfold Sub; exact h
theorem Sub.refl : Sub l l := .of fun _ h => h
theorem Sub.here : Sub l (l ++ x) := .of fun _ h => List.mem_append_left _ h
theorem Sub.app (h : Sub l x) : Sub l (y ++ x) := .of fun e he => List.mem_append_right _ (h.mem e he)
theorem Sub.cons (h : Sub l x) : Sub l (e :: x) := .of fun e he => List.mem_cons_of_mem _ (h.mem e he)
theorem Sub.trans (h : Sub l x) (h' : Sub x y) : Sub l y := .of fun e he => h'.mem e (h.mem e he)
theorem Sub.join (h : Sub x news) (h' : Sub y news) : Sub (x ++ y) news := .of fun e he => (List.mem_append.mp he).elim (h.mem e) (h'.mem e)
theorem Sub.add (h : e ∈ news) (h' : Sub y news) : Sub (e :: y) news := .of fun x hx => (List.mem_cons.mp hx).elim (fun q => q ▸ h) (h'.mem x)
theorem Sub.nil : Sub [] news := .of fun _ h => nomatch h
/-- what is new lies behind what stood -/
@[irreducible] noncomputable def Fresh (news ext : Led) : Prop := ∀ p ∈ ext, ∀ q ∈ news, @LT.lt Nat _ q.1 p.1
theorem Fresh.lt (h : Fresh news x) : ∀ p ∈ x, ∀ q ∈ news, @LT.lt Nat _ q.1 p.1 := by unfold Fresh at h; exact h
theorem Fresh.of (h : ∀ p ∈ x, ∀ q ∈ news, @LT.lt Nat _ q.1 p.1) : Fresh news x := by unfold Fresh; exact h
theorem Fresh.nil : Fresh news [] := .of fun _ h => nomatch h
theorem Fresh.off {d : Addr} {o : Obj} (h : Fresh news x) (m : (d, o) ∈ news) : ∀ p ∈ x, p.1 ≠ d := fun p hp => Nat.ne_of_gt (h.lt p hp _ m)
theorem Fresh.sub (h : Fresh news x) (k : Sub y x) : Fresh news y := .of fun p hp q hq => h.lt p (k.mem p hp) q hq
theorem Fresh.less (h : Fresh news x) (k : Sub l news) : Fresh l x := .of fun p hp q hq => h.lt p hp q (k.mem q hq)
theorem Fresh.join (h : Fresh news x) (k : Fresh news y) : Fresh news (x ++ y) := .of fun p hp q hq => (List.mem_append.mp hp).elim (fun z => h.lt p z q hq) fun z => k.lt p z q hq
theorem Fresh.one {a : Addr} {o : Obj} (l1 : ∀ p ∈ news, p.1 < a) : Fresh news [(a, o)] := .of fun p hp q hq => by
  rcases List.mem_cons.mp hp with rfl | hp
  · exact l1 q hq
  · cases hp
theorem fresh_two {a b : Addr} {o o' : Obj} (l1 : ∀ p ∈ news, p.1 < a) (l2 : a < b) : Fresh news [(b, o), (a, o')] := .of fun p hp q hq => by
  rcases List.mem_cons.mp hp with rfl | hp
  · exact Nat.lt_trans (l1 q hq) l2
  · rcases List.mem_cons.mp hp with rfl | hp
    · exact l1 q hq
    · cases hp
theorem upd_app {d : Addr} {o o' : Obj} (U : Upd d o o' x y) : ∀ {l : Led}, (∀ p ∈ l, p.1 ≠ d) → Upd d o o' (l ++ x) (l ++ y)
  | [], _ => U
  | _ :: _, h => .tail (h _ (.head _)) (upd_app U fun q hq => h q (.tail _ hq))
theorem News.sub {h₀ h : Heap} {L : Addr} (N : News h₀ L h news) (S : Sub l news) : News h₀ L h l := fun p hp => N p (S.mem p hp)
end

set_option genInjectivity false in
set_option genSizeOfSpec false in
structure DecL where
  (x d : Addr) (t p : Int) (a b c e : Tok)

noncomputable abbrev decObj (w : World) (D : DecL) : Obj := dictOf [⟨PyData.keyHash w.params (Str.ofString "top"), .str (Str.ofString "top") D.a, .int D.t D.c⟩, ⟨PyData.keyHash w.params (Str.ofString "places"), .str (Str.ofString "places") D.b, .int D.p D.e⟩] 2
@[irreducible] noncomputable def decL (w : World) (D : DecL) : Led := [(D.x, instObj 143 D.d), (D.d, decObj w D)]
theorem decL_def {w : World} {D : DecL} : decL w D = [(D.x, instObj 143 D.d), (D.d, decObj w D)] := by unfold decL; rfl
theorem dec_x {w : World} {D : DecL} {news : Led} (h : Sub (decL w D) news) : (D.x, instObj 143 D.d) ∈ news := h.mem _ (by unfold decL; exact .head _)
theorem dec_d {w : World} {D : DecL} {news : Led} (h : Sub (decL w D) news) : (D.d, decObj w D) ∈ news := h.mem _ (by unfold decL; exact .tail _ (.head _))

section
variable {w : World} {A : Around} {E : Value → Shared → Prop} {s : Shared} {h₀ : Heap} {L a : Addr} {m : Str → Option Value} {cn : Str} {cs : Scope} {ccd : Value} {cl : List (Str × Addr)}
  {x name : Str} {xp ap pos : Pos} {f : Addr} {Q : Value → Shared → Prop} {e : PySem.Expr} {rest : List PySem.Expr} {news : Led} {D : DecL}
theorem dec_none (h : (!(Str.ofString "top" == name) && !(Str.ofString "places" == name)) = true) : getL name [⟨PyData.keyHash w.params (Str.ofString "top"), .str (Str.ofString "top") D.a, .int D.t D.c⟩, ⟨PyData.keyHash w.params (Str.ofString "places"), .str (Str.ofString "places") D.b, .int D.p D.e⟩] = some none := by
  have h' := Bool.and_eq_true_iff.mp h
  have a1 : (Str.ofString "top" == name) = false := by simpa using h'.1
  have a2 : (Str.ofString "places" == name) = false := by simpa using h'.2
  unfold getL
  rw [List.find?_cons_of_neg (by show ¬ (Str.ofString "top" == name) = true; rw [a1]; decide), List.find?_cons_of_neg (by show ¬ (Str.ofString "places" == name) = true; rw [a2]; decide)]
  rfl
theorem dec_top (F : Fr h₀ L s.heap m) (X : (KF w.params).In h₀) (hv : m x = some (.ref D.x)) (hc : NmOk cs x .local) (N : News h₀ L s.heap news) (S : Sub (decL w D) news) (h : Q (.int D.t D.c) { s with toks := s.toks + 1 }) :
    wpAny (model PySem.Challenge.rw_nn0207_01.row.prog w) A (eval (.Attribute (.Name x xp) (Str.ofString "top") pos) (envX cn cs L a ccd cl)) Q E s :=
  attr_n F X hv hc N (dec_x S) (dec_d S) (by kernel_rfl) rfl rfl h
theorem dec_places (F : Fr h₀ L s.heap m) (X : (KF w.params).In h₀) (hv : m x = some (.ref D.x)) (hc : NmOk cs x .local) (N : News h₀ L s.heap news) (S : Sub (decL w D) news) (h : Q (.int D.p D.e) { s with toks := s.toks + 1 }) :
    wpAny (model PySem.Challenge.rw_nn0207_01.row.prog w) A (eval (.Attribute (.Name x xp) (Str.ofString "places") pos) (envX cn cs L a ccd cl)) Q E s :=
  attr_n F X hv hc N (dec_x S) (dec_d S) (by kernel_rfl) rfl rfl h
theorem dec_meth (F : Fr h₀ L s.heap m) (X : (KF w.params).In h₀) (hv : m x = some (.ref D.x)) (hc : NmOk cs x .local) (N : News h₀ L s.heap news) (S : Sub (decL w D) news)
    (hf : findIn (KF w.params) (.ref 143) name = some (some (.ref f))) (hm : methOk (KF w.params) 143 name f = true) (hl : (!(Str.ofString "top" == name) && !(Str.ofString "places" == name)) = true) (hs : few (e :: rest) = true) (hp : (ap.endLine == pos.line) = true)
    (h : wpAny (model PySem.Challenge.rw_nn0207_01.row.prog w) A (spliced (backTo pos (starEach (e :: rest) (envX cn cs L a ccd cl)))) (fun vs s₁ => (KF w.params).In s₁.heap ∧ wpAny (model PySem.Challenge.rw_nn0207_01.row.prog w) A (call (.ref f) (.ref D.x :: vs)) Q E s₁) E s) :
    wpAny (model PySem.Challenge.rw_nn0207_01.row.prog w) A (eval (.Call (.Attribute (.Name x xp) name ap) (e :: rest) [] pos) (envX cn cs L a ccd cl)) Q E s :=
  meth_n F X hv hc N (dec_x S) (dec_d S) hf hm (dec_none hl) hs hp h
theorem dec_meth0 (F : Fr h₀ L s.heap m) (X : (KF w.params).In h₀) (hv : m x = some (.ref D.x)) (hc : NmOk cs x .local) (N : News h₀ L s.heap news) (S : Sub (decL w D) news)
    (hf : findIn (KF w.params) (.ref 143) name = some (some (.ref f))) (hm : methOk (KF w.params) 143 name f = true) (hl : (!(Str.ofString "top" == name) && !(Str.ofString "places" == name)) = true) (hp : (ap.endLine == pos.line) = true)
    (h : wpAny (model PySem.Challenge.rw_nn0207_01.row.prog w) A (call (.ref f) [.ref D.x]) Q E s) :
    wpAny (model PySem.Challenge.rw_nn0207_01.row.prog w) A (eval (.Call (.Attribute (.Name x xp) name ap) [] [] pos) (envX cn cs L a ccd cl)) Q E s :=
  meth_n0 F X hv hc N (dec_x S) (dec_d S) hf hm (dec_none hl) hp h
end

/-- a bound of an int by digits -/
@[irreducible] noncomputable def Bd (t : Int) (b : Nat) : Prop := t.natAbs < 10 ^ b
theorem Bd.lt {t : Int} {b : Nat} (h : Bd t b) : t.natAbs < 10 ^ b := by unfold Bd at h; exact h
theorem Bd.of {t : Int} {b : Nat} (h : t.natAbs < 10 ^ b) : Bd t b := by unfold Bd; exact h
theorem Bd.to {t : Int} {b c : Nat} (h : Bd t b) (k : b ≤ c) : Bd t c := .of (Nat.lt_of_lt_of_le h.lt (Nat.pow_le_pow_right (by decide) k))
theorem Bd.neg {t : Int} {b : Nat} (h : Bd t b) : Bd (-t) b := .of (by rw [Int.natAbs_neg]; exact h.lt)
theorem Bd.mul {t u : Int} {b c : Nat} (h : Bd t b) (k : Bd u c) : Bd (t * u) (b + c) := .of (by
  rw [Int.natAbs_mul, Nat.pow_add]
  exact Nat.mul_lt_mul_of_lt_of_le h.lt (Nat.le_of_lt k.lt) (Nat.pow_pos (by decide)))
theorem Bd.add {t u : Int} {b : Nat} (h : Bd t b) (k : Bd u b) : Bd (t + u) (b + 1) := .of (Nat.lt_of_le_of_lt (Int.natAbs_add_le t u) (by rw [Nat.pow_succ]; exact add_lt h.lt k.lt))
theorem Bd.sub {t u : Int} {b : Nat} (h : Bd t b) (k : Bd u b) : Bd (t - u) (b + 1) := Int.sub_eq_add_neg ▸ h.add k.neg

structure DecOK (D : DecL) (q : Rat) (b : Nat) : Prop where
  nrm : Nrm D.t D.p q
  bt : Bd D.t b
  bp : D.p ≤ b
theorem DecOK.p0 {D : DecL} {q : Rat} {b : Nat} (h : DecOK D q b) : 0 ≤ D.p := h.nrm.p0
theorem DecOK.to {D : DecL} {q q' : Rat} {b b' : Nat} (h : DecOK D q b) (hq : q = q') (hb : b ≤ b') : DecOK D q' b' :=
  ⟨hq ▸ h.nrm, h.bt.to hb, Int.le_trans h.bp (Int.ofNat_le.mpr hb)⟩

/-- a number of the program: a Decimal that stands in the ledger, or an int -/
inductive Num (w : World) (news : Led) : Value → Rat → Nat → Prop where
  | dec {D : DecL} {q : Rat} {b : Nat} (h : Sub (decL w D) news) (ok : DecOK D q b) : Num w news (.ref D.x) q b
  | int {k : Int} {u : Tok} {q : Rat} {b : Nat} (h : Bd k b) (hq : (k : Rat) = q) : Num w news (.int k u) q b
theorem Num.app {w : World} {x y : Led} {v : Value} {q : Rat} {b : Nat} (h : Num w x v q b) : Num w (y ++ x) v q b := by
  cases h with
  | dec h ok => exact .dec h.app ok
  | int h hq => exact .int h hq
theorem Num.cons {w : World} {x : Led} {e : Addr × Obj} {v : Value} {q : Rat} {b : Nat} (h : Num w x v q b) : Num w (e :: x) v q b := by
  cases h with
  | dec h ok => exact .dec h.cons ok
  | int h hq => exact .int h hq
theorem natAbs_ten (n : Nat) : ((10 : Int) ^ n).natAbs = 10 ^ n := by
  rw [Int.natAbs_pow]; rfl
theorem ten_lt {n : Nat} : Bd ((10 : Int) ^ n) (n + 1) := .of <| by
  rw [natAbs_ten, Nat.pow_succ]
  have := Nat.pow_pos (n := n) (show 0 < 10 by decide)
  omega
theorem bits_le {a : Int} {x : Nat} (h : a.natAbs < 10 ^ x) : Builtin.Int.intBits a ≤ 4 * x := by
  unfold Builtin.Int.intBits
  split
  · exact Nat.zero_le _
  · rename_i h0
    have h1 : a.natAbs ≠ 0 := by simpa using h0
    have : a.natAbs.log2 < 4 * x := by
      rw [Nat.log2_lt h1, Nat.pow_mul]
      exact Nat.lt_of_lt_of_le h (Nat.pow_le_pow_left (by decide) _)
    omega
theorem mul_ok {a b : Int} {x y : Nat} (ha : Bd a x) (hb : Bd b y) (h : x + y ≤ 100000) : IntMulOk a b := by
  have h1 := bits_le ha.lt
  have h2 := bits_le hb.lt
  unfold IntMulOk
  rw [show Builtin.Int.intTooBig (Builtin.Int.intBits a + Builtin.Int.intBits b) = false from ?_]
  · simp
  · unfold Builtin.Int.intTooBig
    have hl : (400000 : Int) ≤ bitsLine := by decide
    simp
    omega

theorem room_k {d x n D R : Nat} (j : Nat) (h : d + D < R) (e : x = d + j) (k : j + n ≤ D) : x + n < R := by
  subst e
  rw [Nat.add_assoc]
  exact Nat.lt_of_le_of_lt (Nat.add_le_add_left k d) h
theorem room_j {d x D R : Nat} (j : Nat) (h : d + D < R) (e : x = d + j) (k : j ≤ D) : x < R := by
  subst e
  exact Nat.lt_of_le_of_lt (Nat.add_le_add_left k d) h
noncomputable def sgn (n : Int) : Int := if n = 0 then 0 else if n > 0 then 1 else -1

theorem KB1setup1 : True := by
  k_with "ktr_units" => ((have hcL9 := cLine_is; (try simp only [units_under_make, units_in1, units_deeper, Around.mark_units, units_caller]); (try dsimp only [ktrTop]); omega))
  k_with "ktr_room" => (((try simp only [depth_under_make, depth_under_kw, depth_in1, depth_deeper, depth_caller]); (try dsimp only [ktrTop]); omega))
  k_with "ktr_room" => (first | (refine' room_k 0 ?kmhw1 ?kmew1 ?kmkw1; (case kmhw1 => with_reducible assumption); (case kmew1 => exact rfl); (case kmkw1 => exact Nat.le_of_ble_eq_true rfl)) | (refine' room_k 1 ?kmhw1 ?kmew1 ?kmkw1; (case kmhw1 => with_reducible assumption); (case kmew1 => exact rfl); (case kmkw1 => exact Nat.le_of_ble_eq_true rfl)) | (refine' room_k 2 ?kmhw1 ?kmew1 ?kmkw1; (case kmhw1 => with_reducible assumption); (case kmew1 => exact rfl); (case kmkw1 => exact Nat.le_of_ble_eq_true rfl)) | (refine' room_k 3 ?kmhw1 ?kmew1 ?kmkw1; (case kmhw1 => with_reducible assumption); (case kmew1 => exact rfl); (case kmkw1 => exact Nat.le_of_ble_eq_true rfl)) | (refine' room_j 0 ?kmhw1 ?kmew1 ?kmkw1; (case kmhw1 => with_reducible assumption); (case kmew1 => exact rfl); (case kmkw1 => exact Nat.le_of_ble_eq_true rfl)) | (refine' room_j 1 ?kmhw1 ?kmew1 ?kmkw1; (case kmhw1 => with_reducible assumption); (case kmew1 => exact rfl); (case kmkw1 => exact Nat.le_of_ble_eq_true rfl)) | (refine' room_j 2 ?kmhw1 ?kmew1 ?kmkw1; (case kmhw1 => with_reducible assumption); (case kmew1 => exact rfl); (case kmkw1 => exact Nat.le_of_ble_eq_true rfl)) | exact Nat.le_of_ble_eq_true rfl)
  k_with "ktr_units" => (first | (refine' room_k 0 ?kmhw2 ?kmew2 ?kmkw2; (case kmhw2 => with_reducible assumption); (case kmew2 => exact rfl); (case kmkw2 => exact Nat.le_of_ble_eq_true rfl)) | (refine' room_k 3 ?kmhw2 ?kmew2 ?kmkw2; (case kmhw2 => with_reducible assumption); (case kmew2 => exact rfl); (case kmkw2 => exact Nat.le_of_ble_eq_true rfl)) | (refine' room_k 1 ?kmhw2 ?kmew2 ?kmkw2; (case kmhw2 => with_reducible assumption); (case kmew2 => exact rfl); (case kmkw2 => exact Nat.le_of_ble_eq_true rfl)) | (refine' room_k 4 ?kmhw2 ?kmew2 ?kmkw2; (case kmhw2 => with_reducible assumption); (case kmew2 => exact rfl); (case kmkw2 => exact Nat.le_of_ble_eq_true rfl)) | (refine' room_k 6 ?kmhw2 ?kmew2 ?kmkw2; (case kmhw2 => with_reducible assumption); (case kmew2 => exact rfl); (case kmkw2 => exact Nat.le_of_ble_eq_true rfl)) | (refine' room_k 7 ?kmhw2 ?kmew2 ?kmkw2; (case kmhw2 => with_reducible assumption); (case kmew2 => exact rfl); (case kmkw2 => exact Nat.le_of_ble_eq_true rfl)) | (refine' room_j 0 ?kmhw2 ?kmew2 ?kmkw2; (case kmhw2 => with_reducible assumption); (case kmew2 => exact rfl); (case kmkw2 => exact Nat.le_of_ble_eq_true rfl)) | (refine' room_j 3 ?kmhw2 ?kmew2 ?kmkw2; (case kmhw2 => with_reducible assumption); (case kmew2 => exact rfl); (case kmkw2 => exact Nat.le_of_ble_eq_true rfl)) | (refine' room_j 1 ?kmhw2 ?kmew2 ?kmkw2; (case kmhw2 => with_reducible assumption); (case kmew2 => exact rfl); (case kmkw2 => exact Nat.le_of_ble_eq_true rfl)) | (refine' room_j 4 ?kmhw2 ?kmew2 ?kmkw2; (case kmhw2 => with_reducible assumption); (case kmew2 => exact rfl); (case kmkw2 => exact Nat.le_of_ble_eq_true rfl)) | exact Nat.le_of_ble_eq_true rfl)
  k_with "my cls" => ((k_dflt (refine' call_cls ?k1w3 ?k2w3 ?k3w3 ?k4w3 ?k5w3 ?k6w3 ?_; (case k1w3 => k_asm); (case k2w3 => k_asm); (case k3w3 => k_asm); (case k4w3 => k_is); (case k5w3 => k_is); (case k6w3 => k_is); k_whole; intro x' d' h' F' N' l1 l2; (try k_lt l1); (try k_lt2 l2); (try k_sweep))))
  k_with "my enter" => ((refine wpAny_call ?_; k_dflt ktr_enter))
  k_with "my sub" => (first | with_reducible assumption | exact Sub.refl | exact Sub.here | (with_reducible refine' Sub.app ?kmhw4; (case kmhw4 => k_extra "my sub")) | (with_reducible refine' Sub.cons ?kmhw4; (case kmhw4 => k_extra "my sub")))
  k_with "my subt" => (first | (with_reducible refine' Sub.trans ?kmhw5 ?kmkw5; (case kmhw5 => with_reducible assumption); (case kmkw5 => (with_reducible refine' Sub.join ?kmaw5 ?kmbw5; (case kmaw5 => k_extra "my sub"); (case kmbw5 => k_extra "my sub")))) | k_extra "my sub")
  k_with "my kmem" => (first | with_reducible assumption | exact List.mem_cons_self | (refine' List.mem_cons_of_mem _ ?kmhw6; (case kmhw6 => k_extra "my kmem")))
  k_with "my kmem" => ((refine' List.mem_append_right _ ?kmhw7; (case kmhw7 => k_extra "my kmem")))
  k_with "my off" => ((refine' Fresh.off ?kmxw8 ?kmyw8; (case kmxw8 => with_reducible assumption); (case kmyw8 => k_mem)))
  k_with "k_upd" => ((refine' upd_app ?kmxw9 ?kmyw9; (case kmyw9 => k_extra "my off"); (case kmxw9 => k_upd)))
  k_with "my kmem" => (first | (with_reducible refine' dec_x ?kmhw10; (case kmhw10 => k_extra "my sub")) | (with_reducible refine' dec_d ?kmhw10; (case kmhw10 => k_extra "my sub")))
  k_with "my num" => (first | (with_reducible refine' Num.dec ?kmhw11 ?kmow11; (case kmow11 => with_reducible assumption); (case kmhw11 => k_extra "my sub")) | with_reducible assumption | (with_reducible refine' Num.app ?kmhw11; (case kmhw11 => k_extra "my num")) | (with_reducible refine' Num.cons ?kmhw11; (case kmhw11 => k_extra "my num")))
  k_with "my lt" => (first | with_reducible assumption | (refine' DecOK.bt ?kmxw12; (case kmxw12 => with_reducible assumption)) | exact ten_lt)
  k_with "mul_fits" => ((refine' mul_ok ?kmxw13 ?kmyw13 ?kmzw13; (case kmxw13 => k_extra "my lt"); (case kmyw13 => k_extra "my lt"); (case kmzw13 => first | omega | decide)))
  k_with "binaryOp Pow int int" => ((k_here; (with_reducible refine pow_int_small ?kb1w14 ?kb2w14 ?kb3w14 ?_); (case kb1w14 => omega); (case kb2w14 => omega); (case kb3w14 => decide)))
  k_with "my keep" => (first | exact Sub.refl | exact Sub.nil | (with_reducible refine' Sub.add ?kmaw15 ?kmbw15; (case kmaw15 => first | exact List.mem_cons_self | k_mem); (case kmbw15 => k_extra "my keep")) | (with_reducible refine' Sub.join ?kmaw15 ?kmbw15; (case kmaw15 => k_extra "my sub"); (case kmbw15 => k_extra "my keep")) | k_extra "my sub")
  k_with "exec While" => ((k_here; k_extra "my while"))
  k_with "exec While Compare" => ((k_here; k_extra "my while"))
  k_with "exec While Compare cons nil" => ((k_here; k_extra "my while"))
  k_with "my conj" => (first | with_reducible assumption | (with_reducible refine' Nat.ne_of_lt ?kmhw16; (case kmhw16 => with_reducible assumption)) | (with_reducible refine' Nat.ne_of_gt ?kmhw16; (case kmhw16 => with_reducible assumption)) | (with_reducible refine' Ne.symm (And.left ?kmhw16); (case kmhw16 => with_reducible assumption)) | (with_reducible refine' Ne.symm (And.left (And.right ?kmhw16)); (case kmhw16 => with_reducible assumption)) | (with_reducible refine' Ne.symm (And.left (And.right (And.right ?kmhw16))); (case kmhw16 => with_reducible assumption)) | (with_reducible refine' Ne.symm (And.left (And.right (And.right (And.right ?kmhw16)))); (case kmhw16 => with_reducible assumption)) | (with_reducible refine' Ne.symm (And.left (And.right (And.right (And.right (And.right ?kmhw16))))); (case kmhw16 => with_reducible assumption)) | (with_reducible refine' Ne.symm (And.left (And.right (And.right (And.right (And.right (And.right ?kmhw16)))))); (case kmhw16 => with_reducible assumption)) | (with_reducible refine' Ne.symm (And.left (And.right (And.right (And.right (And.right (And.right (And.right ?kmhw16))))))); (case kmhw16 => with_reducible assumption)) | (with_reducible refine' Ne.symm (And.left (And.right (And.right (And.right (And.right (And.right (And.right (And.right ?kmhw16)))))))); (case kmhw16 => with_reducible assumption)) | (with_reducible refine' (And.left ?kmhw16); (case kmhw16 => with_reducible assumption)) | (with_reducible refine' (And.left (And.right ?kmhw16)); (case kmhw16 => with_reducible assumption)) | (with_reducible refine' (And.left (And.right (And.right ?kmhw16))); (case kmhw16 => with_reducible assumption)) | (with_reducible refine' (And.left (And.right (And.right (And.right ?kmhw16)))); (case kmhw16 => with_reducible assumption)) | (with_reducible refine' (And.left (And.right (And.right (And.right (And.right ?kmhw16))))); (case kmhw16 => with_reducible assumption)) | (with_reducible refine' (And.left (And.right (And.right (And.right (And.right (And.right ?kmhw16)))))); (case kmhw16 => with_reducible assumption)) | (with_reducible refine' (And.left (And.right (And.right (And.right (And.right (And.right (And.right ?kmhw16))))))); (case kmhw16 => with_reducible assumption)) | (with_reducible refine' (And.left (And.right (And.right (And.right (And.right (And.right (And.right (And.right ?kmhw16)))))))); (case kmhw16 => with_reducible assumption)))
  k_with "k_ne" => ((refine neN ?_; (try dsimp only); first | k_extra "my conj" | omega))
  k_with "k_mem" => (k_extra "my kmem")
  k_with "eval Name" => ((k_here; (first | (with_reducible show wpAny _ _ (eval _ (envOf _ _ _ _ _)) _ _ _) | (with_reducible show wpAny _ _ (eval _ (envX _ _ _ _ _ _)) _ _ _)); first | (k_dflt (refine' nmL ?Fw17 ?vw17 ?aw17 ?_; (case aw17 => (refine' NmOk.mk ?na1w17 ?na2w17 ?na3w17; (case na1w17 => rfl); (case na2w17 => rfl); (case na3w17 => decide))); (case Fw17 => with_reducible assumption); (case vw17 => apply @rfl _ (some _)); k_whole)) | (k_dflt (refine' nmK ?Fw17 ?Xw17 ?Tw17 ?ew17 ?aw17 ?_; (case aw17 => (refine' NmOk.mk ?na1w17 ?na2w17 ?na3w17; (case na1w17 => rfl); (case na2w17 => rfl); (case na3w17 => decide))); (case Xw17 => with_reducible assumption); (case ew17 => k_is); (case Fw17 => with_reducible assumption); (case Tw17 => k_asm); k_whole))))
  k_with "spliced" => ((k_here; (first | (with_reducible show wpAny _ _ (spliced (backTo _ (starEach _ (envOf _ _ _ _ _)))) _ _ _) | (with_reducible show wpAny _ _ (spliced (backTo _ (starEach _ (envX _ _ _ _ _ _)))) _ _ _)); first | ((with_reducible show wpAny _ _ (spliced (backTo _ (starEach [Expr.Name _ _] _))) _ _ _); k_dflt (refine' aL0 ?Fw18 ?vw18 ?aw18 ?_; (case aw18 => (refine' NmOk.mk ?na1w18 ?na2w18 ?na3w18; (case na1w18 => rfl); (case na2w18 => rfl); (case na3w18 => decide))); (case Fw18 => with_reducible assumption); (case vw18 => apply @rfl _ (some _)); k_whole; (try dsimp only [List.cons_append, List.nil_append]))) | ((with_reducible show wpAny _ _ (spliced (backTo _ (starEach (Expr.Name _ _ :: _) _))) _ _ _); k_dflt (refine' aL ?Fw18 ?vw18 ?aw18 ?_; (case aw18 => (refine' NmOk.mk ?na1w18 ?na2w18 ?na3w18; (case na1w18 => rfl); (case na2w18 => rfl); (case na3w18 => decide))); (case Fw18 => with_reducible assumption); (case vw18 => apply @rfl _ (some _)); k_whole)) | ((with_reducible show wpAny _ _ (spliced (backTo _ (starEach [Expr.Constant (Constant.int _) _ _] _))) _ _ _); refine' aI0 ?_; k_whole; (try dsimp only [List.cons_append, List.nil_append])) | ((with_reducible show wpAny _ _ (spliced (backTo _ (starEach (Expr.Constant (Constant.int _) _ _ :: _) _))) _ _ _); refine' aI ?_; k_whole) | ((with_reducible show wpAny _ _ (spliced (backTo _ (starEach (_ :: _) _))) _ _ _); k_dflt (refine' aC ?aw18 ?_; (case aw18 => exact @rfl _ true); k_whole))))
  k_with "eval Call" => ((k_here; (first | (with_reducible show wpAny _ _ (eval _ (envOf _ _ _ _ _)) _ _ _) | (with_reducible show wpAny _ _ (eval _ (envX _ _ _ _ _ _)) _ _ _)); first | ((with_reducible show wpAny _ _ (eval (Expr.Call (Expr.Name _ _) (_ :: _) [] _) _) _ _ _); k_dflt (refine' gcall ?Fw19 ?Xw19 ?Tw19 ?ew19 ?aw19 ?kw19 ?hsw19 ?_; (case aw19 => (refine' NmOk.mk ?na1w19 ?na2w19 ?na3w19; (case na1w19 => rfl); (case na2w19 => rfl); (case na3w19 => decide))); (case Xw19 => with_reducible assumption); (case ew19 => k_is); (case Fw19 => with_reducible assumption); (case Tw19 => k_asm); (case kw19 => k_is); (case hsw19 => exact @rfl _ true); k_whole)) | ((with_reducible show wpAny _ _ (eval (Expr.Call (Expr.Name _ _) [] [] _) _) _ _ _); k_dflt (refine' gcall0 ?Fw19 ?Xw19 ?Tw19 ?ew19 ?aw19 ?kw19 ?_; (case aw19 => (refine' NmOk.mk ?na1w19 ?na2w19 ?na3w19; (case na1w19 => rfl); (case na2w19 => rfl); (case na3w19 => decide))); (case Xw19 => with_reducible assumption); (case ew19 => k_is); (case Fw19 => with_reducible assumption); (case Tw19 => k_asm); (case kw19 => k_is); k_whole))))
  k_with "eval Attribute Name" => ((k_here; (first | (with_reducible show wpAny _ _ (eval _ (envOf _ _ _ _ _)) _ _ _) | (with_reducible show wpAny _ _ (eval _ (envX _ _ _ _ _ _)) _ _ _)); first | ((with_reducible show wpAny _ _ (eval (Expr.Attribute (Expr.Name _ _) (Str.ofString "top") _) _) _ _ _); k_dflt (refine' dec_top ?Fw20 ?Xw20 ?vw20 ?aw20 ?Nw20 ?Sw20 ?_; (case aw20 => (refine' NmOk.mk ?na1w20 ?na2w20 ?na3w20; (case na1w20 => rfl); (case na2w20 => rfl); (case na3w20 => decide))); (case Fw20 => with_reducible assumption); (case vw20 => apply @rfl _ (some (Value.ref (DecL.x _)))); (case Xw20 => with_reducible assumption); (case Nw20 => with_reducible assumption); (case Sw20 => k_extra "my sub"); k_whole)) | ((with_reducible show wpAny _ _ (eval (Expr.Attribute (Expr.Name _ _) (Str.ofString "places") _) _) _ _ _); k_dflt (refine' dec_places ?Fw20 ?Xw20 ?vw20 ?aw20 ?Nw20 ?Sw20 ?_; (case aw20 => (refine' NmOk.mk ?na1w20 ?na2w20 ?na3w20; (case na1w20 => rfl); (case na2w20 => rfl); (case na3w20 => decide))); (case Fw20 => with_reducible assumption); (case vw20 => apply @rfl _ (some (Value.ref (DecL.x _)))); (case Xw20 => with_reducible assumption); (case Nw20 => with_reducible assumption); (case Sw20 => k_extra "my sub"); k_whole))))
  k_with "eval Call Attribute" => ((k_here; (first | (with_reducible show wpAny _ _ (eval _ (envOf _ _ _ _ _)) _ _ _) | (with_reducible show wpAny _ _ (eval _ (envX _ _ _ _ _ _)) _ _ _)); first | ((with_reducible show wpAny _ _ (eval (Expr.Call (Expr.Attribute (Expr.Name _ _) _ _) (_ :: _) [] _) _) _ _ _); k_dflt (refine' dec_meth ?Fw21 ?Xw21 ?vw21 ?aw21 ?Nw21 ?Sw21 ?fw21 ?hmw21 ?hlw21 ?hsw21 ?hpw21 ?_; (case aw21 => (refine' NmOk.mk ?na1w21 ?na2w21 ?na3w21; (case na1w21 => rfl); (case na2w21 => rfl); (case na3w21 => decide))); (case Fw21 => with_reducible assumption); (case vw21 => apply @rfl _ (some (Value.ref (DecL.x _)))); (case Xw21 => with_reducible assumption); (case Nw21 => with_reducible assumption); (case Sw21 => k_extra "my sub"); (case fw21 => k_is); (case hmw21 => kernel_rfl); (case hlw21 => exact @rfl _ true); (case hsw21 => exact @rfl _ true); (case hpw21 => exact @rfl _ true); k_whole)) | ((with_reducible show wpAny _ _ (eval (Expr.Call (Expr.Attribute (Expr.Name _ _) _ _) [] [] _) _) _ _ _); k_dflt (refine' dec_meth0 ?Fw21 ?Xw21 ?vw21 ?aw21 ?Nw21 ?Sw21 ?fw21 ?hmw21 ?hlw21 ?hpw21 ?_; (case aw21 => (refine' NmOk.mk ?na1w21 ?na2w21 ?na3w21; (case na1w21 => rfl); (case na2w21 => rfl); (case na3w21 => decide))); (case Fw21 => with_reducible assumption); (case vw21 => apply @rfl _ (some (Value.ref (DecL.x _)))); (case Xw21 => with_reducible assumption); (case Nw21 => with_reducible assumption); (case Sw21 => k_extra "my sub"); (case fw21 => k_is); (case hmw21 => kernel_rfl); (case hlw21 => exact @rfl _ true); (case hpw21 => exact @rfl _ true); k_whole))))
  k_with "storeName" => ((k_here; (first | (with_reducible show wpAny _ _ (storeName (envOf _ _ _ _ _) _ _) _ _ _) | (with_reducible show wpAny _ _ (storeName (envX _ _ _ _ _ _) _ _) _ _ _)); k_dflt (refine' stL ?Fw22 ?Nw22 ?aw22 ?_; (case aw22 => (refine' NmOk.mk ?na1w22 ?na2w22 ?na3w22; (case na1w22 => rfl); (case na2w22 => rfl); (case na3w22 => decide))); (case Fw22 => with_reducible assumption); (case Nw22 => with_reducible assumption); k_whole; intro m9 h' tk9 F' N'; (try k_sweep))))
  trivial
section
variable {w : World} {mean : ExcName → Option Value} {mg mb : Str → Option Value}

set_option maxHeartbeats 4000000 in
theorem c_sign_of (n : Int) (tn : Tok) : Ct w mean mg mb 1 (.ref 154) [.int n tn] (fun _ => True) (fun Q news => ∀ t, Q (.int (sgn n) t) news) := by
  unfold Ct; k_fill; intro dp un gd cn cs a ccd cl outer A₀ base h₀ L m news s Q E B F X N T hk hpre hd hu hret
  refine wpAny_call ?_
  k_dflt (refine' code_defN [Str.ofString "number"] ?k1 ?k2 ?k3 ?k4 ?k5 ?kA ?kF ?kK ?k6 ?k7 ?k8 ?k9 ?kB ?_ ?c2 ?c3 ?c4 ?c5; (case kA => exact rfl); (case kF => exact rfl); (case kK => assumption); (case k1 => k_asm); (case k2 => k_asm); (case k3 => k_asm); (case k4 => k_asm); (case k5 => k_asm); (case k6 => k_is); (case k7 => k_is); (case k8 => ktr_room); (case k9 => exact BindsTo.of_eq rfl); (case c5 => decide); (case kB => exact locs rfl); (case c2 => exact rfl); (case c3 => exact rfl); (case c4 => exact rfl); k_whole; intro g' L' h' FG' F' N' B' X' T'; (try dsimp only); (try k_fold); (refine wp_letA ?_); intro A2)
  k_steps
  all_goals (
    (with_reducible rename Fr h₀ L _ m => kF)
    (with_reducible rename News h₀ L _ news => kN)
    rw [show sgn n = _ from by unfold sgn; first | rw [if_pos (by assumption)] | rw [if_neg (by assumption), if_pos (by assumption)] | rw [if_neg (by assumption), if_neg (by assumption)]] at hret
    exact hret _ _ _ kF kN)

set_option maxHeartbeats 4000000 in
theorem c_Decimal {q : Rat} (t p : Int) (k1 k2 : Tok) (b : Nat) (hp : 0 ≤ p) (ht : Bd t b) (hb : p ≤ b) (hq : (t : Rat) = q * 10 ^ p.toNat) :
    Ct w mean mg mb 1 (.ref 143) [.int t k1, .int p k2] (fun _ => True)
     (fun Q news => ∀ D, DecOK D q b → Fresh news (decL w D) → Q (.ref D.x) (decL w D ++ news)) := by
  unfold Ct; k_fill; intro dp un gd cn cs a ccd cl outer A₀ base h₀ L m news s Q E B F X N T hk hpre hd hu hret
  k_extra "my cls"
  k_dflt (refine' code_defN [Str.ofString "self", Str.ofString "top", Str.ofString "places"] ?k1 ?k2 ?k3 ?k4 ?k5 ?kA ?kF ?kK ?k6 ?k7 ?k8 ?k9 ?kB ?_ ?c2 ?c3 ?c4 ?c5; (case kA => exact rfl); (case kF => exact rfl); (case kK => assumption); (case k1 => k_asm); (case k2 => k_asm); (case k3 => k_asm); (case k4 => k_asm); (case k5 => k_asm); (case k6 => k_is); (case k7 => k_is); (case k8 => ktr_room); (case k9 => exact BindsTo.of_eq rfl); (case c5 => decide); (case kB => exact locs rfl); (case c2 => exact rfl); (case c3 => exact rfl); (case c4 => exact rfl); k_whole; intro g' L' h' FG' F' N' B' X' T'; (try dsimp only); (try k_fold); (refine wp_letA ?_); intro A2)
  k_steps
  rename_i q1 q2 q3 q4 _ _ _ _ _ kF kN _ _
  obtain ⟨r1, r2⟩ := acc_told hp q1 q2 q3 q4
  have hq' : (t : Rat) / 10 ^ p.toNat = q := by rw [hq, Rat.mul_div_cancel (ten_ne _)]
  rw [hq'] at r1
  refine hret ⟨_, _, _, _, _, _, _, _⟩ ⟨r1, .of (Nat.lt_of_le_of_lt r2 ht.lt), Int.le_trans q1 hb⟩ ?_ _ _ kF (by unfold decL; exact kN)
  unfold decL
  exact fresh_two (by assumption) (by assumption)
end

end
section
open PySem PySem.W PyProof.Rows PySem.Calls PySem.Spec

section
variable {w : World} {mean : ExcName → Option Value} {mg mb : Str → Option Value}

theorem KB2setup1 : True := by
  k_with "call ref" => ((k_here; (with_reducible show wpAny _ _ (call (Value.ref 154) _) _ _ _); k_dflt (refine' (c_sign_of _ _) _ _ _ _ _ _ _ _ _ _ _ _ _ _ _ _ _ _ ?kB ?kF ?kX ?kN ?kT ?kK ?kpw23 ?kd ?ku ?_; k_extra "sid"; (case kpw23 => exact trivial); k_whole; intro t9 h9 tk9 F9 N9; (try k_sweep))))
  trivial
theorem call_abs_nat {prog : Program} {A : Around} {E : Value → Shared → Prop} {s : Shared} {a : Int} {t : Tok} {Q : Value → Shared → Prop} (h : ∀ u tk, Q (.int (a.natAbs : Int) u) { s with toks := tk }) :
    wpAny (model prog w) A (call (.builtin "abs") [.int a t]) Q E s :=
  call_abs_int (fun u tk => by
    rw [show (if a < 0 then -a else a) = (a.natAbs : Int) from by split <;> lia]
    exact h u tk)

theorem KB2setup2 : True := by
  k_with "call builtin:abs" => (((with_reducible refine call_abs_nat ?_); intro _ _))
  k_with "binaryOp FloorDiv int int" => ((k_here; (with_reducible refine floordiv_int ?hbw24 ?_ (Or.inl (PyProof.noPylong_of_log2 ?hlw24))); (case hbw24 => first | assumption | omega); (case hlw24 => first | assumption | decide +kernel)))
  trivial
noncomputable def rq (top below : Int) : Int := (2 * (top.natAbs : Int) + below.natAbs).fdiv (2 * below.natAbs) * sgn top * sgn below

theorem log_ok {n : Nat} (h : n < 10 ^ 2000) : (2 * (n : Int)).natAbs.log2 < 9000 := by
  by_cases h0 : n = 0
  · subst h0; decide
  · rw [show (2 * (n : Int)).natAbs = 2 * n by lia, Nat.log2_lt (by lia)]
    exact Nat.lt_of_lt_of_le (Nat.mul_lt_mul_of_pos_left h (by decide)) (by decide +kernel)
theorem sgn_fits (a b : Int) : IntMulOk a (sgn b) := .of_right (by unfold sgn; split; decide; split <;> decide)

theorem KB2setup3 : True := by
  k_with "mul_fits" => (exact sgn_fits _ _)
  trivial
set_option maxHeartbeats 4000000 in
theorem c_rounded_quotient (t b : Int) (k1 k2 : Tok) (hb : b ≠ 0) (hlt : Bd b 2000) : Ct w mean mg mb 2 (.ref 161) [.int t k1, .int b k2] (fun _ => True) (fun Q news => ∀ k, Q (.int (rq t b) k) news) := by
  unfold Ct; k_fill; intro dp un gd cn cs a ccd cl outer A₀ base h₀ L m news s Q E B F X N T hk hpre hd hu hret
  have hl := log_ok hlt.lt
  clear hlt
  refine wpAny_call ?_
  k_dflt (refine' code_defN [Str.ofString "top", Str.ofString "below"] ?k1 ?k2 ?k3 ?k4 ?k5 ?kA ?kF ?kK ?k6 ?k7 ?k8 ?k9 ?kB ?_ ?c2 ?c3 ?c4 ?c5; (case kA => exact rfl); (case kF => exact rfl); (case kK => assumption); (case k1 => k_asm); (case k2 => k_asm); (case k3 => k_asm); (case k4 => k_asm); (case k5 => k_asm); (case k6 => k_is); (case k7 => k_is); (case k8 => ktr_room); (case k9 => exact BindsTo.of_eq rfl); (case c5 => decide); (case kB => exact locs rfl); (case c2 => exact rfl); (case c3 => exact rfl); (case c4 => exact rfl); k_whole; intro g' L' h' FG' F' N' B' X' T'; (try dsimp only); (try k_fold); (refine wp_letA ?_); intro A2)
  k_steps
  all_goals ((with_reducible rename Fr h₀ L _ m => kF); (with_reducible rename News h₀ L _ _ => kN); (try dsimp only at kF kN); exact hret _ _ _ kF kN)

theorem int_hq {k : Int} : (k : Rat) = (k : Rat) * 10 ^ (Int.toNat 0) := by simp

theorem KB2setup4 : True := by
  k_with "call ref" => ((k_here; (with_reducible show wpAny _ _ (call (Value.ref 143) _) _ _ _); k_dflt (refine' (c_Decimal _ _ _ _ _ ?hzw25 ?htw25 ?hbw25 ?hqw25) _ _ _ _ _ _ _ _ _ _ _ _ _ _ _ _ _ _ ?kB ?kF ?kX ?kN ?kT ?kK ?kpw25 ?kd ?ku ?_; k_extra "sid"; (case kpw25 => exact trivial); (case hqw25 => first | exact int_hq | k_extra "my hq"); (case htw25 => first | with_reducible assumption | k_extra "my ht"); (case hbw25 => first | with_reducible assumption | k_extra "my hb" | omega); (case hzw25 => first | with_reducible assumption | omega); k_whole; intro D9 ok9 f9 h9 tk9 F9 N9; (try k_sweep))))
  trivial
set_option maxHeartbeats 4000000 in
theorem c_decimal_of_dec (D : DecL) : Ct w mean mg mb 1 (.ref 168) [.ref D.x] (fun news => Sub (decL w D) news) (fun Q news => Q (.ref D.x) news) := by
  unfold Ct; k_fill; intro dp un gd cn cs a ccd cl outer A₀ base h₀ L m news s Q E B F X N T hk hpre hd hu hret
  refine wpAny_call ?_
  k_dflt (refine' code_defN [Str.ofString "value"] ?k1 ?k2 ?k3 ?k4 ?k5 ?kA ?kF ?kK ?k6 ?k7 ?k8 ?k9 ?kB ?_ ?c2 ?c3 ?c4 ?c5; (case kA => exact rfl); (case kF => exact rfl); (case kK => assumption); (case k1 => k_asm); (case k2 => k_asm); (case k3 => k_asm); (case k4 => k_asm); (case k5 => k_asm); (case k6 => k_is); (case k7 => k_is); (case k8 => ktr_room); (case k9 => exact BindsTo.of_eq rfl); (case c5 => decide); (case kB => exact locs rfl); (case c2 => exact rfl); (case c3 => exact rfl); (case c4 => exact rfl); k_whole; intro g' L' h' FG' F' N' B' X' T'; (try dsimp only); (try k_fold); (refine wp_letA ?_); intro A2)
  k_steps
  all_goals ((with_reducible rename Fr h₀ L _ m => kF); (with_reducible rename News h₀ L _ _ => kN); (try dsimp only at kF kN); exact hret _ _ kF kN)
set_option maxHeartbeats 4000000 in
theorem c_decimal_of_int (k : Int) (u : Tok) (b : Nat) (hb : Bd k b) : Ct w mean mg mb 2 (.ref 168) [.int k u] (fun _ => True) (fun Q news => ∀ D, DecOK D (k : Rat) b → Fresh news (decL w D) → Q (.ref D.x) (decL w D ++ news)) := by
  unfold Ct; k_fill; intro dp un gd cn cs a ccd cl outer A₀ base h₀ L m news s Q E B F X N T hk hpre hd hu hret
  refine wpAny_call ?_
  k_dflt (refine' code_defN [Str.ofString "value"] ?k1 ?k2 ?k3 ?k4 ?k5 ?kA ?kF ?kK ?k6 ?k7 ?k8 ?k9 ?kB ?_ ?c2 ?c3 ?c4 ?c5; (case kA => exact rfl); (case kF => exact rfl); (case kK => assumption); (case k1 => k_asm); (case k2 => k_asm); (case k3 => k_asm); (case k4 => k_asm); (case k5 => k_asm); (case k6 => k_is); (case k7 => k_is); (case k8 => ktr_room); (case k9 => exact BindsTo.of_eq rfl); (case c5 => decide); (case kB => exact locs rfl); (case c2 => exact rfl); (case c3 => exact rfl); (case c4 => exact rfl); k_whole; intro g' L' h' FG' F' N' B' X' T'; (try dsimp only); (try k_fold); (refine wp_letA ?_); intro A2)
  k_steps
  all_goals ((with_reducible rename Fr h₀ L _ m => kF); (with_reducible rename News h₀ L _ _ => kN); (try dsimp only at kF kN); exact hret _ (by with_reducible assumption) (by with_reducible assumption) _ _ kF kN)
theorem c_decimal_of {n0 : Led} {v : Value} {q : Rat} {b : Nat} : Ct w mean mg mb 2 (.ref 168) [v] (fun news => Num w n0 v q b ∧ Sub n0 news) (fun Q news => ∀ ext D, DecOK D q b → Sub (decL w D) (ext ++ n0) → Sub (decL w D) (ext ++ news) → Fresh news ext → Q (.ref D.x) (ext ++ news)) := by
  unfold Ct; k_fill; intro dp un gd cn cs a ccd cl outer A₀ base h₀ L m news s Q E B F X N T hk hpre hd hu hret
  obtain ⟨hn, hs⟩ := hpre
  cases hn with
  | dec h ok => exact c_decimal_of_dec _ dp un gd cn cs a ccd cl outer A₀ base h₀ L m news s Q E B F X N T hk (h.trans hs) (by omega) (by omega) (hret [] _ ok h (h.trans hs) .nil)
  | int h hq => exact c_decimal_of_int _ _ _ h dp un gd cn cs a ccd cl outer A₀ base h₀ L m news s Q E B F X N T hk trivial hd hu (fun D ok f => hret (decL w D) D (hq ▸ ok) Sub.here Sub.here f)
end

end
section
open PySem PySem.W PyProof.Rows PySem.Calls PySem.Spec

section
variable {w : World} {mean : ExcName → Option Value} {mg mb : Str → Option Value}


theorem KB3setup1 : True := by
  k_with "call ref" => ((k_here; (with_reducible show wpAny _ _ (call (Value.ref 143) _) _ _ _); k_dflt (refine' (c_Decimal _ _ _ _ _ ?hzw26 ?htw26 ?hbw26 ?hqw26) _ _ _ _ _ _ _ _ _ _ _ _ _ _ _ _ _ _ ?kB ?kF ?kX ?kN ?kT ?kK ?kpw26 ?kd ?ku ?_; k_extra "sid"; (case kpw26 => exact trivial); (case hqw26 => first | exact int_hq | k_extra "my hq"); (case htw26 => first | with_reducible assumption | k_extra "my ht"); (case hbw26 => first | with_reducible assumption | k_extra "my hb" | omega); (case hzw26 => first | with_reducible assumption | k_extra "my hz" | omega); k_whole; intro D9 ok9 f9 h9 tk9 F9 N9; (try k_sweep))))
  k_with "call ref" => ((k_here; (with_reducible show wpAny _ _ (call (Value.ref 168) _) _ _ _); k_dflt (refine' (c_decimal_of) _ _ _ _ _ _ _ _ _ _ _ _ _ _ _ _ _ _ ?kB ?kF ?kX ?kN ?kT ?kK ?kpw27 ?kd ?ku ?_; k_extra "sid"; (case kpw27 => refine' ⟨?kpaw27, ?kpbw27⟩; (case kpaw27 => k_extra "my num"); (case kpbw27 => k_extra "my sub")); k_whole; intro e9 D9 ok9 s9 s8 f9 h9 tk9 F9 N9; have p9 := ok9.nrm.p0; have q9 := ok9.bp; (try k_sweep))))
  trivial
structure AtScale (a b P : Int) (q1 q2 : Rat) (c : Nat) : Prop where
  ha : (a : Rat) = q1 * 10 ^ P.toNat
  hb : (b : Rat) = q2 * 10 ^ P.toNat
  p0 : 0 ≤ P
  bP : P ≤ c
  ba : Bd a c
  bb : Bd b c
theorem bd_ten {n c : Nat} (h : n ≤ c) {t : Int} {b : Nat} (ht : Bd t b) : Bd (t * 10 ^ n) (b + c) := .of <| by
  rw [Int.natAbs_mul, natAbs_ten, Nat.pow_add]
  exact Nat.lt_of_lt_of_le (Nat.mul_lt_mul_of_pos_right ht.lt (Nat.pow_pos (by decide))) (Nat.mul_le_mul_left _ (Nat.pow_le_pow_right (by decide) h))
theorem scale_one {D : DecL} {q : Rat} {b c : Nat} {P : Int} (h : DecOK D q b) (hP : D.p ≤ P) (hc : P - D.p ≤ c) :
    ((D.t * 10 ^ (P - D.p).toNat : Int) : Rat) = q * 10 ^ P.toNat ∧ Bd (D.t * 10 ^ (P - D.p).toNat) (b + c) := by
  obtain ⟨⟨p0, _, hv⟩, bt, bp⟩ := h
  refine ⟨?_, bd_ten (toNat_le hc) bt⟩
  · rw [Rat.intCast_mul, ten_cast, hv, show P.toNat = D.p.toNat + (P - D.p).toNat from (toNat_split p0 hP).trans (Nat.add_comm _ _), ten_add]
    grind
theorem atScale {D1 D2 : DecL} {q1 q2 : Rat} {b1 b2 : Nat} (h1 : DecOK D1 q1 b1) (h2 : DecOK D2 q2 b2) {P : Int} (hP : P = D1.p ∨ P = D2.p) (l1 : D1.p ≤ P) (l2 : D2.p ≤ P) :
    AtScale (D1.t * 10 ^ (P - D1.p).toNat) (D2.t * 10 ^ (P - D2.p).toNat) P q1 q2 (b1 + b2) := by
  have := h1.bp
  have := h2.bp
  have := h1.nrm.p0
  have := h2.nrm.p0
  obtain ⟨a1, a2⟩ := scale_one (c := b2) h1 l1 (by lia)
  obtain ⟨c1, c2⟩ := scale_one (c := b1) h2 l2 (by lia)
  exact ⟨a1, c1, by lia, by lia, a2, Nat.add_comm b1 b2 ▸ c2⟩

theorem atScale2 {D1 D2 : DecL} {q1 q2 : Rat} {b1 b2 : Nat} (h1 : DecOK D1 q1 b1) (h2 : DecOK D2 q2 b2) :
    AtScale (D1.t * 10 ^ ((if D2.p > D1.p then D2.p else D1.p) - D1.p).toNat) (D2.t * 10 ^ ((if D2.p > D1.p then D2.p else D1.p) - D2.p).toNat) (if D2.p > D1.p then D2.p else D1.p) q1 q2 (b1 + b2) :=
  atScale h1 h2 (by split <;> simp) (by split <;> lia) (by split <;> lia)
section
variable {a b P : Int} {q1 q2 : Rat} {c : Nat}
theorem AtScale.add (h : AtScale a b P q1 q2 c) : ((a + b : Int) : Rat) = (q1 + q2) * 10 ^ P.toNat := by
  rw [Rat.intCast_add, h.ha, h.hb]; grind
theorem AtScale.sub (h : AtScale a b P q1 q2 c) : ((a - b : Int) : Rat) = (q1 - q2) * 10 ^ P.toNat := by
  rw [Rat.intCast_sub, h.ha, h.hb]; grind
theorem AtScale.add_lt (h : AtScale a b P q1 q2 c) : Bd (a + b) (c + 1) := h.ba.add h.bb
theorem AtScale.sub_lt (h : AtScale a b P q1 q2 c) : Bd (a - b) (c + 1) := h.ba.sub h.bb
theorem AtScale.leP (h : AtScale a b P q1 q2 c) : P ≤ ((c + 1 : Nat) : Int) := by
  have := h.bP
  lia
end

noncomputable abbrev tupOf (vs : List Value) : Obj := { cls := .type "tuple", data := .seq vs.toArray }

set_option maxHeartbeats 4000000 in
theorem c_at_one_scale {v1 v2 : Value} {q1 q2 : Rat} {b1 b2 : Nat} (hb : b1 + b2 ≤ 2000) : Ct w mean mg mb 3 (.ref 175) [v1, v2] (fun news => Num w news v1 q1 b1 ∧ Num w news v2 q2 b2)
    (fun Q news => ∀ T a b P k1 k2 k3, AtScale a b P q1 q2 (b1 + b2) → Q (.ref T) ((T, tupOf [.int a k1, .int b k2, .int P k3]) :: news)) := by
  unfold Ct; k_fill; intro dp un gd cn cs a ccd cl outer A₀ base h₀ L m news s Q E B F X N T hk hpre hd hu hret
  obtain ⟨n1, n2⟩ := hpre
  refine wpAny_call ?_
  k_dflt (refine' code_defN [Str.ofString "one", Str.ofString "other"] ?k1 ?k2 ?k3 ?k4 ?k5 ?kA ?kF ?kK ?k6 ?k7 ?k8 ?k9 ?kB ?_ ?c2 ?c3 ?c4 ?c5; (case kA => exact rfl); (case kF => exact rfl); (case kK => assumption); (case k1 => k_asm); (case k2 => k_asm); (case k3 => k_asm); (case k4 => k_asm); (case k5 => k_asm); (case k6 => k_is); (case k7 => k_is); (case k8 => ktr_room); (case k9 => exact BindsTo.of_eq rfl); (case c5 => decide); (case kB => exact locs rfl); (case c2 => exact rfl); (case c3 => exact rfl); (case c4 => exact rfl); k_whole; intro g' L' h' FG' F' N' B' X' T'; (try dsimp only); (try k_fold); (refine wp_letA ?_); intro A2)
  k_steps
  rename DecOK _ q1 b1 => ok1
  rename DecOK _ q2 b2 => ok2
  all_goals ((with_reducible rename Fr h₀ L _ m => kF); (with_reducible rename News h₀ L _ _ => kN); (try dsimp only at kF kN); exact hret _ _ _ _ _ _ _ (atScale2 ok1 ok2) _ _ kF (News.sub kN (by k_extra "my keep")))

theorem KB3setup2 : True := by
  k_with "call ref" => ((k_here; (with_reducible show wpAny _ _ (call (Value.ref 175) _) _ _ _); k_dflt (refine' (c_at_one_scale ?hbbw28) _ _ _ _ _ _ _ _ _ _ _ _ _ _ _ _ _ _ ?kB ?kF ?kX ?kN ?kT ?kK ?kpw28 ?kd ?ku ?_; k_extra "sid"; (case kpw28 => refine' ⟨?kpaw28, ?kpbw28⟩; (case kpaw28 => k_extra "my num"); (case kpbw28 => k_extra "my num")); (case hbbw28 => first | decide | omega); k_whole; intro T9 a9 b9 P9 k91 k92 k93 sc9 h9 tk9 F9 N9; (try k_sweep))))
  k_with "my hq" => (first | (refine' AtScale.add ?kmxw29; (case kmxw29 => with_reducible assumption)) | (refine' AtScale.sub ?kmxw29; (case kmxw29 => with_reducible assumption)))
  k_with "my ht" => (first | (refine' AtScale.add_lt ?kmxw30; (case kmxw30 => with_reducible assumption)) | (refine' AtScale.sub_lt ?kmxw30; (case kmxw30 => with_reducible assumption)))
  k_with "my hb" => ((refine' AtScale.leP ?kmxw31; (case kmxw31 => with_reducible assumption)))
  k_with "my hz" => ((refine' AtScale.p0 ?kmxw32; (case kmxw32 => with_reducible assumption)))
  trivial
set_option maxHeartbeats 4000000 in
theorem c_plus {D : DecL} {v : Value} {q1 q2 : Rat} {b1 b2 : Nat} (hb : b1 + b2 ≤ 1990) : Ct w mean mg mb 4 (.ref 70) [.ref D.x, v] (fun news => Num w news (.ref D.x) q1 b1 ∧ Num w news v q2 b2)
    (fun Q news => ∀ D, DecOK D (q1 + q2) (b1 + b2 + 1) → Q (.ref D.x) (decL w D ++ news)) := by
  unfold Ct; k_fill; intro dp un gd cn cs a ccd cl outer A₀ base h₀ L m news s Q E B F X N T hk hpre hd hu hret
  obtain ⟨n1, n2⟩ := hpre
  refine wpAny_call ?_
  k_dflt (refine' code_defN [Str.ofString "self", Str.ofString "other"] ?k1 ?k2 ?k3 ?k4 ?k5 ?kA ?kF ?kK ?k6 ?k7 ?k8 ?k9 ?kB ?_ ?c2 ?c3 ?c4 ?c5; (case kA => exact rfl); (case kF => exact rfl); (case kK => assumption); (case k1 => k_asm); (case k2 => k_asm); (case k3 => k_asm); (case k4 => k_asm); (case k5 => k_asm); (case k6 => k_is); (case k7 => k_is); (case k8 => ktr_room); (case k9 => exact BindsTo.of_eq rfl); (case c5 => decide); (case kB => exact locs rfl); (case c2 => exact rfl); (case c3 => exact rfl); (case c4 => exact rfl); k_whole; intro g' L' h' FG' F' N' B' X' T'; (try dsimp only); (try k_fold); (refine wp_letA ?_); intro A2)
  k_steps
  all_goals ((with_reducible rename Fr h₀ L _ m => kF); (with_reducible rename News h₀ L _ _ => kN); (try dsimp only at kF kN); exact hret _ (by with_reducible assumption) _ _ kF (News.sub kN (by k_extra "my keep")))

set_option maxHeartbeats 4000000 in
theorem c_minus {D : DecL} {v : Value} {q1 q2 : Rat} {b1 b2 : Nat} (hb : b1 + b2 ≤ 1990) : Ct w mean mg mb 4 (.ref 77) [.ref D.x, v] (fun news => Num w news (.ref D.x) q1 b1 ∧ Num w news v q2 b2)
    (fun Q news => ∀ D, DecOK D (q1 - q2) (b1 + b2 + 1) → Q (.ref D.x) (decL w D ++ news)) := by
  unfold Ct; k_fill; intro dp un gd cn cs a ccd cl outer A₀ base h₀ L m news s Q E B F X N T hk hpre hd hu hret
  obtain ⟨n1, n2⟩ := hpre
  refine wpAny_call ?_
  k_dflt (refine' code_defN [Str.ofString "self", Str.ofString "other"] ?k1 ?k2 ?k3 ?k4 ?k5 ?kA ?kF ?kK ?k6 ?k7 ?k8 ?k9 ?kB ?_ ?c2 ?c3 ?c4 ?c5; (case kA => exact rfl); (case kF => exact rfl); (case kK => assumption); (case k1 => k_asm); (case k2 => k_asm); (case k3 => k_asm); (case k4 => k_asm); (case k5 => k_asm); (case k6 => k_is); (case k7 => k_is); (case k8 => ktr_room); (case k9 => exact BindsTo.of_eq rfl); (case c5 => decide); (case kB => exact locs rfl); (case c2 => exact rfl); (case c3 => exact rfl); (case c4 => exact rfl); k_whole; intro g' L' h' FG' F' N' B' X' T'; (try dsimp only); (try k_fold); (refine wp_letA ?_); intro A2)
  k_steps
  all_goals ((with_reducible rename Fr h₀ L _ m => kF); (with_reducible rename News h₀ L _ _ => kN); (try dsimp only at kF kN); exact hret _ (by with_reducible assumption) _ _ kF (News.sub kN (by k_extra "my keep")))
end

end
section
open PySem PySem.W PyProof.Rows PySem.Calls PySem.Spec

section
variable {w : World} {mean : ExcName → Option Value} {mg mb : Str → Option Value}



theorem KB4setup1 : True := by
  k_with "my lt" => (first | with_reducible assumption | (refine' AtScale.ba ?kmxw33; (case kmxw33 => with_reducible assumption)) | (refine' AtScale.bb ?kmxw33; (case kmxw33 => with_reducible assumption)) | (refine' DecOK.bt ?kmxw33; (case kmxw33 => with_reducible assumption)) | exact ten_lt)
  k_with "call ref" => (((with_reducible show wpAny _ _ (call (Value.ref 46) _) _ _ _); exfalso; first | contradiction | omega))
  k_with "call ref" => ((k_here; (with_reducible show wpAny _ _ (call (Value.ref 161) _) _ _ _); k_dflt (refine' (c_rounded_quotient _ _ _ _ ?hb0w34 ?hblw34) _ _ _ _ _ _ _ _ _ _ _ _ _ _ _ _ _ _ ?kB ?kF ?kX ?kN ?kT ?kK ?kpw34 ?kd ?ku ?_; k_extra "sid"; (case kpw34 => exact trivial); (case hb0w34 => first | with_reducible assumption | omega); (case hblw34 => first | with_reducible assumption | k_extra "my hbl"); k_whole; intro t9 h9 tk9 F9 N9; (try k_sweep))))
  trivial
section
variable {D1 D2 : DecL} {q1 q2 : Rat} {b1 b2 : Nat}
theorem DecOK.mul_hq (h1 : DecOK D1 q1 b1) (h2 : DecOK D2 q2 b2) : ((D1.t * D2.t : Int) : Rat) = (q1 * q2) * 10 ^ (D1.p + D2.p).toNat := by
  have := h1.nrm.p0
  have := h2.nrm.p0
  rw [Rat.intCast_mul, h1.nrm.val, h2.nrm.val, Int.toNat_add h1.nrm.p0 h2.nrm.p0, ten_add]
  grind
theorem DecOK.mul_lt (h1 : DecOK D1 q1 b1) (h2 : DecOK D2 q2 b2) : Bd (D1.t * D2.t) (b1 + b2) := h1.bt.mul h2.bt
theorem DecOK.mul_p (h1 : DecOK D1 q1 b1) (h2 : DecOK D2 q2 b2) : D1.p + D2.p ≤ ((b1 + b2 : Nat) : Int) := by
  have := h1.bp
  have := h2.bp
  lia
theorem DecOK.mul_0 (h1 : DecOK D1 q1 b1) (h2 : DecOK D2 q2 b2) : 0 ≤ D1.p + D2.p := by
  have := h1.nrm.p0
  have := h2.nrm.p0
  lia
theorem DecOK.neg_hq (h1 : DecOK D1 q1 b1) : ((-D1.t : Int) : Rat) = (-q1) * 10 ^ D1.p.toNat := by
  rw [Rat.intCast_neg, h1.nrm.val]; grind
theorem DecOK.neg_lt (h1 : DecOK D1 q1 b1) : Bd (-D1.t) b1 := h1.bt.neg
end

theorem KB4setup2 : True := by
  k_with "my hq" => (first | (refine' DecOK.mul_hq ?kmxw35 ?kmyw35; (case kmxw35 => with_reducible assumption); (case kmyw35 => with_reducible assumption)) | (refine' DecOK.neg_hq ?kmxw35; (case kmxw35 => with_reducible assumption)))
  k_with "my ht" => (first | (refine' DecOK.mul_lt ?kmxw36 ?kmyw36; (case kmxw36 => with_reducible assumption); (case kmyw36 => with_reducible assumption)) | (refine' DecOK.neg_lt ?kmxw36; (case kmxw36 => with_reducible assumption)))
  k_with "my hb" => (first | (refine' DecOK.mul_p ?kmxw37 ?kmyw37; (case kmxw37 => with_reducible assumption); (case kmyw37 => with_reducible assumption)) | (refine' DecOK.bp ?kmxw37; (case kmxw37 => with_reducible assumption)))
  k_with "my hz" => (first | (refine' DecOK.mul_0 ?kmxw38 ?kmyw38; (case kmxw38 => with_reducible assumption); (case kmyw38 => with_reducible assumption)) | (refine' DecOK.p0 ?kmxw38; (case kmxw38 => with_reducible assumption)))
  trivial
set_option maxHeartbeats 4000000 in
theorem c_times {D : DecL} {v : Value} {q1 q2 : Rat} {b1 b2 : Nat} (hb : b1 + b2 ≤ 1990) (ok : DecOK D q1 b1) : Ct w mean mg mb 4 (.ref 84) [.ref D.x, v] (fun news => Sub (decL w D) news ∧ Num w news v q2 b2)
    (fun Q news => ∀ D, DecOK D (q1 * q2) (b1 + b2) → Q (.ref D.x) (decL w D ++ news)) := by
  unfold Ct; k_fill; intro dp un gd cn cs a ccd cl outer A₀ base h₀ L m news s Q E B F X N T hk hpre hd hu hret
  obtain ⟨n1, n2⟩ := hpre
  refine wpAny_call ?_
  k_dflt (refine' code_defN [Str.ofString "self", Str.ofString "other"] ?k1 ?k2 ?k3 ?k4 ?k5 ?kA ?kF ?kK ?k6 ?k7 ?k8 ?k9 ?kB ?_ ?c2 ?c3 ?c4 ?c5; (case kA => exact rfl); (case kF => exact rfl); (case kK => assumption); (case k1 => k_asm); (case k2 => k_asm); (case k3 => k_asm); (case k4 => k_asm); (case k5 => k_asm); (case k6 => k_is); (case k7 => k_is); (case k8 => ktr_room); (case k9 => exact BindsTo.of_eq rfl); (case c5 => decide); (case kB => exact locs rfl); (case c2 => exact rfl); (case c3 => exact rfl); (case c4 => exact rfl); k_whole; intro g' L' h' FG' F' N' B' X' T'; (try dsimp only); (try k_fold); (refine wp_letA ?_); intro A2)
  k_steps
  all_goals ((with_reducible rename Fr h₀ L _ m => kF); (with_reducible rename News h₀ L _ _ => kN); (try dsimp only at kF kN); exact hret _ (by with_reducible assumption) _ _ kF (News.sub kN (by k_extra "my keep")))

set_option maxHeartbeats 4000000 in
theorem c_negated {D : DecL} {q1 : Rat} {b1 : Nat} (ok : DecOK D q1 b1) : Ct w mean mg mb 2 (.ref 91) [.ref D.x] (fun news => Sub (decL w D) news)
    (fun Q news => ∀ D, DecOK D (-q1) b1 → Q (.ref D.x) (decL w D ++ news)) := by
  unfold Ct; k_fill; intro dp un gd cn cs a ccd cl outer A₀ base h₀ L m news s Q E B F X N T hk hpre hd hu hret
  refine wpAny_call ?_
  k_dflt (refine' code_defN [Str.ofString "self"] ?k1 ?k2 ?k3 ?k4 ?k5 ?kA ?kF ?kK ?k6 ?k7 ?k8 ?k9 ?kB ?_ ?c2 ?c3 ?c4 ?c5; (case kA => exact rfl); (case kF => exact rfl); (case kK => assumption); (case k1 => k_asm); (case k2 => k_asm); (case k3 => k_asm); (case k4 => k_asm); (case k5 => k_asm); (case k6 => k_is); (case k7 => k_is); (case k8 => ktr_room); (case k9 => exact BindsTo.of_eq rfl); (case c5 => decide); (case kB => exact locs rfl); (case c2 => exact rfl); (case c3 => exact rfl); (case c4 => exact rfl); k_whole; intro g' L' h' FG' F' N' B' X' T'; (try dsimp only); (try k_fold); (refine wp_letA ?_); intro A2)
  k_steps
  all_goals ((with_reducible rename Fr h₀ L _ m => kF); (with_reducible rename News h₀ L _ _ => kN); (try dsimp only at kF kN); exact hret _ (by with_reducible assumption) _ _ kF (News.sub kN (by k_extra "my keep")))

/-- the ledger tells that v reads as d -/
@[irreducible] noncomputable def Says (news : Led) (v : Value) (d : PyData) : Prop := ∀ (h₀ h : Heap) (L : Addr), News h₀ L h news → ∃ as, Reads h v d as
section
variable {news x y : Led} {v : Value} {d : PyData}
theorem Says.reads (S : Says news v d) {h₀ h : Heap} {L : Addr} (N : News h₀ L h news) : ∃ as, Reads h v d as := by unfold Says at S; exact S _ _ _ N
theorem Says.of (S : ∀ (h₀ h : Heap) (L : Addr), News h₀ L h news → ∃ as, Reads h v d as) : Says news v d := by unfold Says; exact S
theorem Says.sub (S : Says x v d) (k : Sub x y) : Says y v d := .of fun _ _ _ N => S.reads (News.sub N k)
theorem Says.app (S : Says x v d) : Says (y ++ x) v d := S.sub (.app .refl)
theorem Says.here (S : Says x v d) : Says (x ++ y) v d := S.sub .here
theorem Says.cons {e : Addr × Obj} (S : Says x v d) : Says (e :: x) v d := S.sub (.cons .refl)
theorem Says.int {i : Int} {t : Tok} : Says news (.int i t) (.int i) := .of fun _ _ _ _ => ⟨_, .int _ _⟩
noncomputable def SaysAll (news : Led) (vs : List Value) (ds : List PyData) : Prop := ∀ (h₀ h : Heap) (L : Addr), News h₀ L h news → ∃ as, ReadsAll h vs ds as
theorem SaysAll.nil : SaysAll news [] [] := fun _ _ _ _ => ⟨_, .nil⟩
theorem SaysAll.cons {vs : List Value} {ds : List PyData} (S : Says news v d) (R : SaysAll news vs ds) : SaysAll news (v :: vs) (d :: ds) := fun h₀ h L N => by
  obtain ⟨as, h1⟩ := S.reads N
  obtain ⟨bs, h2⟩ := R h₀ h L N
  exact ⟨_, .cons h1 h2⟩
theorem Says.tuple {a : Addr} {vs : List Value} {n : Nat} {ds : List PyData} (h : (a, ({ cls := .type "tuple", data := .seq vs.toArray n } : Obj)) ∈ news) (R : SaysAll news vs ds) : Says news (.ref a) (.tuple ds) := .of fun h₀ h' L N => by
  obtain ⟨bs, h2⟩ := R h₀ h' L N
  exact ⟨_, reads_tuple_at (News.get N h) rfl rfl h2⟩
theorem Says.list {a : Addr} {vs : List Value} {n : Nat} {ds : List PyData} (h : (a, listOf vs.toArray n) ∈ news) (R : SaysAll news vs ds) : Says news (.ref a) (.list ds) := .of fun h₀ h' L N => by
  obtain ⟨bs, h2⟩ := R h₀ h' L N
  exact ⟨_, reads_list_at (News.get N h) rfl rfl h2⟩
end
open Classical in
/-- a number as it is told -/
noncomputable def dq (q : Rat) : PyData := if h : ∃ tp : Int × Int, Nrm tp.1 tp.2 q then .tuple [.int (choose h).1, .int (choose h).2] else .none
theorem Nrm.dq {t p : Int} {q : Rat} (h : Nrm t p q) : Mine.dq q = .tuple [.int t, .int p] := by
  have h' : ∃ tp : Int × Int, Nrm tp.1 tp.2 q := ⟨(t, p), h⟩
  obtain ⟨h1, h2⟩ := (Classical.choose_spec h').uniq h
  unfold Mine.dq
  rw [dif_pos h', h1, h2]
theorem tl_ret {t p : Int} {x : Addr} {k1 k2 : Tok} {P : Value → Led → Prop} {news : Led} {q : Rat} (hn : Nrm t p q) (hret : ∀ ext v, Says ext v (dq q) → Fresh news ext → P v (ext ++ news)) (l1 : ∀ p ∈ news, p.1 < x) : P (.ref x) ((x, tupOf [.int t k1, .int p k2]) :: news) := by
  refine hret [(x, tupOf [.int t k1, .int p k2])] (.ref x) ?_ (.one l1)
  rw [hn.dq]
  exact .tuple (n := 0) (.head _) (.cons .int (.cons .int .nil))

set_option maxHeartbeats 4000000 in
theorem c_told {D : DecL} {q : Rat} {b : Nat} (ok : DecOK D q b) : Ct w mean mg mb 1 (.ref 126) [.ref D.x] (fun news => Sub (decL w D) news)
    (fun Q news => ∀ ext v, Says ext v (dq q) → Fresh news ext → Q v (ext ++ news)) := by
  unfold Ct; k_fill; intro dp un gd cn cs a ccd cl outer A₀ base h₀ L m news s Q E B F X N T hk hpre hd hu hret
  refine wpAny_call ?_
  k_dflt (refine' code_defN [Str.ofString "self"] ?k1 ?k2 ?k3 ?k4 ?k5 ?kA ?kF ?kK ?k6 ?k7 ?k8 ?k9 ?kB ?_ ?c2 ?c3 ?c4 ?c5; (case kA => exact rfl); (case kF => exact rfl); (case kK => assumption); (case k1 => k_asm); (case k2 => k_asm); (case k3 => k_asm); (case k4 => k_asm); (case k5 => k_asm); (case k6 => k_is); (case k7 => k_is); (case k8 => ktr_room); (case k9 => exact BindsTo.of_eq rfl); (case c5 => decide); (case kB => exact locs rfl); (case c2 => exact rfl); (case c3 => exact rfl); (case c4 => exact rfl); k_whole; intro g' L' h' FG' F' N' B' X' T'; (try dsimp only); (try k_fold); (refine wp_letA ?_); intro A2)
  k_steps
  (with_reducible rename Fr h₀ L _ m => kF)
  (with_reducible rename News h₀ L _ _ => kN)
  exact tl_ret (P := fun v news' => ∀ (h' : Heap) (tk' : Nat), Fr h₀ L h' m → News h₀ L h' news' → Q v { s with heap := h', toks := tk' }) ok.nrm hret (by assumption) _ _ kF (News.sub kN (by k_extra "my keep"))

theorem AtScale.ne {a b P : Int} {q1 q2 : Rat} {c : Nat} (h : AtScale a b P q1 q2 c) (h0 : q2 ≠ 0) : b ≠ 0 := by
  intro hb
  have := h.hb
  rw [hb] at this
  rcases Rat.mul_eq_zero.mp this.symm with h | h
  · exact h0 h
  · exact ten_ne _ h
theorem sgn_abs (a : Int) : (sgn a).natAbs ≤ 1 := by unfold sgn; split; decide; split <;> decide
theorem rq_lt {t b : Int} {c : Nat} (ht : Bd t c) (hb : b ≠ 0) : Bd (rq t b) (c + 1) := by
  refine .of ?_
  have h1 := sgn_abs t
  have h2 := sgn_abs b
  have h3 := ht.lt
  unfold rq
  rw [Int.natAbs_mul, Int.natAbs_mul]
  have h4 : ((2 * (t.natAbs : Int) + b.natAbs).fdiv (2 * b.natAbs)).natAbs ≤ t.natAbs + 1 := by
    rw [Int.fdiv_eq_ediv_of_nonneg _ (by lia)]
    have : (2 * (t.natAbs : Int) + b.natAbs) / (2 * b.natAbs) ≤ t.natAbs + 1 := by
      apply Int.le_of_lt_add_one
      apply Int.ediv_lt_of_lt_mul (by lia)
      have : (1 : Int) ≤ b.natAbs := by lia
      have : (t.natAbs : Int) * 1 ≤ t.natAbs * b.natAbs := Int.mul_le_mul_of_nonneg_left this (by lia)
      rw [show ((t.natAbs : Int) + 1 + 1) * (2 * b.natAbs) = 2 * (t.natAbs * b.natAbs) + 4 * b.natAbs by grind]
      lia
    have : 0 ≤ (2 * (t.natAbs : Int) + b.natAbs) / (2 * b.natAbs) := Int.ediv_nonneg (by lia) (by lia)
    lia
  have h5 : ((2 * (t.natAbs : Int) + b.natAbs).fdiv (2 * b.natAbs)).natAbs * (sgn t).natAbs * (sgn b).natAbs ≤ ((2 * (t.natAbs : Int) + b.natAbs).fdiv (2 * b.natAbs)).natAbs * 1 * 1 :=
    Nat.mul_le_mul (Nat.mul_le_mul_left _ h1) h2
  rw [Nat.pow_succ]
  have := Nat.pow_pos (n := c) (show 0 < 10 by decide)
  lia
theorem sgn_mul (a b : Int) : sgn (a * b) = sgn a * sgn b := by
  unfold sgn
  rcases Int.lt_trichotomy a 0 with ha | ha | ha <;> rcases Int.lt_trichotomy b 0 with hb | hb | hb
  · have := Int.mul_pos_of_neg_of_neg ha hb
    simp [show a ≠ 0 by lia, show b ≠ 0 by lia, show ¬ 0 < a by lia, show ¬ 0 < b by lia, this]
  · subst hb; simp
  · have := Int.mul_neg_of_neg_of_pos ha hb
    simp [show a ≠ 0 by lia, show b ≠ 0 by lia, show ¬ 0 < a by lia, hb, show ¬ 0 < a * b by lia]
  · subst ha; simp
  · subst ha; simp
  · subst ha; simp
  · have := Int.mul_neg_of_pos_of_neg ha hb
    simp [show a ≠ 0 by lia, show b ≠ 0 by lia, ha, show ¬ 0 < b by lia, show ¬ 0 < a * b by lia]
  · subst hb; simp
  · have := Int.mul_pos ha hb
    simp [show a ≠ 0 by lia, show b ≠ 0 by lia, ha, hb, this]
theorem fdiv_cross {x y x' y' : Int} (hy : 0 < y) (hy' : 0 < y') (h : x * y' = x' * y) : x.fdiv y = x'.fdiv y' := by
  rw [← Int.mul_fdiv_mul_of_pos_left x y hy', h, Int.mul_comm x' y, Int.mul_comm y y', Int.mul_comm y x']
  exact Int.mul_fdiv_mul_of_pos_left x' y' hy
theorem rq_eq {t b t' b' : Int} (h : t * b' = t' * b) (hb : b ≠ 0) (hb' : b' ≠ 0) : rq t b = rq t' b' := by
  unfold rq
  have h1 : t.natAbs * b'.natAbs = t'.natAbs * b.natAbs := by rw [← Int.natAbs_mul, ← Int.natAbs_mul, h]
  have h1' : (t.natAbs : Int) * b'.natAbs = t'.natAbs * b.natAbs := by exact_mod_cast h1
  rw [fdiv_cross (x' := 2 * (t'.natAbs : Int) + b'.natAbs) (y' := 2 * b'.natAbs) (by lia) (by lia) (by grind), Int.mul_assoc, Int.mul_assoc, ← sgn_mul, ← sgn_mul]
  congr 1
  have h2 : sgn (t * b) * sgn (b' * b') = sgn (t' * b') * sgn (b * b) := by
    rw [← sgn_mul, ← sgn_mul]
    congr 1
    grind
  have h3 : ∀ x : Int, x ≠ 0 → sgn (x * x) = 1 := by
    intro x hx
    have : 0 < x * x := by
      rcases Int.lt_or_gt_of_ne hx with h | h
      · exact Int.mul_pos_of_neg_of_neg h h
      · exact Int.mul_pos h h
    unfold sgn
    rw [if_neg (by lia), if_pos this]
  rw [h3 _ hb, h3 _ hb'] at h2
  simpa using h2
theorem AtScale.cross {a b P : Int} {q1 q2 : Rat} {c : Nat} (h : AtScale a b P q1 q2 c) {T S : Int} (hTS : q1 * (S : Rat) = q2 * (T : Rat)) : a * S = T * b := by
  apply Rat.intCast_inj.mp
  rw [Rat.intCast_mul, Rat.intCast_mul, h.ha, h.hb]
  grind

theorem over_hq {a b P : Int} {q1 q2 : Rat} {c : Nat} {p : Int} {T S : Int} (h : AtScale a b P q1 q2 c) (hTS : q1 * (S : Rat) = q2 * (T : Rat)) (hS : S ≠ 0) (h0 : q2 ≠ 0) :
    ((rq (a * 10 ^ p.toNat) b : Int) : Rat) = ((rq (T * 10 ^ p.toNat) S : Int) : Rat) / 10 ^ p.toNat * 10 ^ p.toNat := by
  rw [Rat.div_mul_cancel (ten_ne _), rq_eq (t' := T * 10 ^ p.toNat) (b' := S) _ (h.ne h0) hS]
  have := h.cross hTS
  grind

theorem KB4setup3 : True := by
  k_with "call ref" => ((k_here; (with_reducible show wpAny _ _ (call (Value.ref 175) _) _ _ _); k_dflt (refine' (c_at_one_scale ?hbbw39) _ _ _ _ _ _ _ _ _ _ _ _ _ _ _ _ _ _ ?kB ?kF ?kX ?kN ?kT ?kK ?kpw39 ?kd ?ku ?_; k_extra "sid"; (case kpw39 => refine' ⟨?kpaw39, ?kpbw39⟩; (case kpaw39 => k_extra "my num"); (case kpbw39 => k_extra "my num")); (case hbbw39 => first | decide | omega); k_whole; intro T9 a9 b9 P9 k91 k92 k93 sc9 h9 tk9 F9 N9; have nz9 := AtScale.ne sc9 (by with_reducible assumption); (try k_sweep))))
  k_with "my hq" => ((refine' over_hq ?kmxw40 ?kmyw40 ?kmzw40 ?kmww40; (case kmxw40 => with_reducible assumption); (case kmyw40 => with_reducible assumption); (case kmzw40 => with_reducible assumption); (case kmww40 => with_reducible assumption)))
  k_with "my ht" => ((refine' rq_lt (bd_ten ?kmaw41 ?kmxw41) ?kmyw41; (case kmxw41 => first | (refine' AtScale.ba ?kmxw41; (case kmxw41 => with_reducible assumption))); (case kmyw41 => with_reducible assumption); (case kmaw41 => exact Int.toNat_le.mpr (by omega : _ ≤ ((10 : Nat) : Int)))))
  k_with "my hbl" => ((refine' Bd.to (b := _) ?kmxw42 ?kmyw42; (case kmxw42 => (refine' AtScale.bb ?kmxw42; (case kmxw42 => with_reducible assumption))); (case kmyw42 => omega)))
  k_with "my hb" => (omega)
  trivial
set_option maxHeartbeats 4000000 in
theorem c_over {D1 D2 : DecL} {q1 q2 : Rat} {b1 b2 : Nat} {p : Int} {kp : Tok} (tt ss : Int) (hTS : q1 * (ss : Rat) = q2 * (tt : Rat)) (hS : ss ≠ 0) (hb : b1 + b2 ≤ 1900) (h0 : q2 ≠ 0) (hp0 : 0 ≤ p) (hp : p ≤ 10) : Ct w mean mg mb 4 (.ref 182) [.ref D1.x, .ref D2.x, .int p kp] (fun news => Num w news (.ref D1.x) q1 b1 ∧ Num w news (.ref D2.x) q2 b2)
    (fun Q news => ∀ D, DecOK D (((rq (tt * 10 ^ p.toNat) ss : Int) : Rat) / 10 ^ p.toNat) (b1 + b2 + 12) → Q (.ref D.x) (decL w D ++ news)) := by
  unfold Ct; k_fill; intro dp un gd cn cs a ccd cl outer A₀ base h₀ L m news s Q E B F X N T hk hpre hd hu hret
  obtain ⟨n1, n2⟩ := hpre
  refine wpAny_call ?_
  k_dflt (refine' code_defN [Str.ofString "one", Str.ofString "other", Str.ofString "places"] ?k1 ?k2 ?k3 ?k4 ?k5 ?kA ?kF ?kK ?k6 ?k7 ?k8 ?k9 ?kB ?_ ?c2 ?c3 ?c4 ?c5; (case kA => exact rfl); (case kF => exact rfl); (case kK => assumption); (case k1 => k_asm); (case k2 => k_asm); (case k3 => k_asm); (case k4 => k_asm); (case k5 => k_asm); (case k6 => k_is); (case k7 => k_is); (case k8 => ktr_room); (case k9 => exact BindsTo.of_eq rfl); (case c5 => decide); (case kB => exact locs rfl); (case c2 => exact rfl); (case c3 => exact rfl); (case c4 => exact rfl); k_whole; intro g' L' h' FG' F' N' B' X' T'; (try dsimp only); (try k_fold); (refine wp_letA ?_); intro A2)
  k_steps
  all_goals ((with_reducible rename Fr h₀ L _ m => kF); (with_reducible rename News h₀ L _ _ => kN); (try dsimp only at kF kN); exact hret _ (DecOK.to (by with_reducible assumption) rfl (by omega)) _ _ kF (News.sub kN (by k_extra "my keep")))
end

end
section
open PySem PySem.W PyProof.Rows PySem.Calls PySem.Spec

section
variable {w : World} {mean : ExcName → Option Value} {mg mb : Str → Option Value}



theorem KB5setup1 : True := by
  k_with "call ref" => ((k_here; (with_reducible show wpAny _ _ (call (Value.ref 175) _) _ _ _); k_dflt (refine' (c_at_one_scale ?hbbw43) _ _ _ _ _ _ _ _ _ _ _ _ _ _ _ _ _ _ ?kB ?kF ?kX ?kN ?kT ?kK ?kpw43 ?kd ?ku ?_; k_extra "sid"; (case kpw43 => refine' ⟨?kpaw43, ?kpbw43⟩; (case kpaw43 => k_extra "my num"); (case kpbw43 => k_extra "my num")); (case hbbw43 => first | decide | omega); k_whole; intro T9 a9 b9 P9 k91 k92 k93 sc9 h9 tk9 F9 N9; (try k_sweep))))
  k_with "my hz" => ((refine' AtScale.p0 ?kmxw44; (case kmxw44 => with_reducible assumption)))
  trivial
theorem Fr.as {g h : Heap} {L : Addr} {m m' : Str → Option Value} (F : Fr g L h m) (e : ∀ y, m y = m' y) : Fr g L h m' := by
  rw [show m' = m from funext fun y => (e y).symm]; exact F

section
variable {prog : Program} {A : Around} {E : Value → Shared → Prop} {env : Env} {test : PySem.Expr} {body : List Stmt} {Q : Flow → Shared → Prop} {pos : Pos}
noncomputable abbrev WhTurn (prog : Program) (w : World) (A : Around) (E : Value → Shared → Prop) (env : Env) (test : PySem.Expr) (body : List Stmt) (Q : Flow → Shared → Prop) (R : Shared → Prop) (s : Shared) : Prop :=
  wpAny (model prog w) A (isTrue test env (eval test env)) (fun b s₂ => if b = true then wpAny (model prog w) A (execs body env) (fun f s => match f with | .next => R s | .cont => R s | .brk => Q .next s | .ret v => Q (.ret v) s) E s₂ else Q .next s₂) E s
theorem while_my (J : Nat → Shared → Prop) (hE : PassesOwn (model prog w) A env E)
    (step : ∀ (n : Nat) (s : Shared) (R : Shared → Prop), (∀ n' s', n' < n → J n' s' → R s') → J n s → WhTurn prog w A E env test body Q R s)
    {n : Nat} {s : Shared} (h0 : J n s) : wpAny (model prog w) A (exec (.While test body [] pos) env) Q E s := by
  refine whl_start 1 ?_
  have key : ∀ N n s, n < N → J n s → WhlRest prog w A E env test body [] Q 1 s := by
    intro N
    induction N with
    | zero => intro n s h; exact absurd h (Nat.not_lt_zero _)
    | succ N ih =>
      intro n s hn hJ
      refine whl_turn hE ?_
      refine wpAny_mono (step n s (fun s' => WhlRest prog w A E env test body [] Q 1 s') (fun n' s' hlt hJ' => ih n' s' (by lia) hJ') hJ) (fun b s₂ hb => ?_) fun _ _ x => x
      cases b with
      | false => exact WhlIf.no rfl (wpAny_execs_nil hb)
      | true =>
        refine WhlIf.yes rfl (wpAny_mono (if_pos rfl ▸ hb) (fun f s₃ hf => ?_) fun _ _ x => x)
        cases f <;> exact hf
  exact key (n + 1) n s (Nat.lt_succ_self _) h0
variable {g : Heap} {L : Addr} {m : Str → Option Value} {news : Led} {s : Shared}
/-- a while that turns one int of the frame -/
theorem while_one (x : Str) (P : Int → Prop) (μ : Int → Nat) {v : Int} {t : Tok} (F : Fr g L s.heap m) (N : News g L s.heap news) (hx : m x = some (.int v t)) (hv : P v) (hE : PassesOwn (model prog w) A env E)
    (step : ∀ v t h tk R, P v → Fr g L h (fun y => if y = x then some (.int v t) else m y) → News g L h news →
      (∀ v' t' h' tk', P v' → μ v' < μ v → Fr g L h' (fun y => if y = x then some (.int v' t') else m y) → News g L h' news → R { s with heap := h', toks := tk' }) →
      WhTurn prog w A E env test body Q R { s with heap := h, toks := tk }) :
    wpAny (model prog w) A (exec (.While test body [] pos) env) Q E s := by
  refine while_my (fun n s' => ∃ v t h tk, s' = { s with heap := h, toks := tk } ∧ P v ∧ μ v = n ∧ Fr g L h (fun y => if y = x then some (.int v t) else m y) ∧ News g L h news) hE ?_
    (n := μ v) ⟨v, t, s.heap, s.toks, rfl, hv, rfl, Fr.as F (fun y => ?_), N⟩
  · rintro n s' R IH ⟨v, t, h, tk, rfl, hP, rfl, F, N⟩
    exact step v t h tk R hP F N fun v' t' h' tk' hP' hlt F' N' => IH _ _ hlt ⟨v', t', h', tk', rfl, hP', rfl, F', N'⟩
  · by_cases h : y = x
    · subst h; simp [hx]
    · simp [h]
/-- a while that turns two ints of the frame -/
theorem while_two (x z : Str) (P : Int → Int → Prop) (μ : Int → Int → Nat) {v u : Int} {t k : Tok} (F : Fr g L s.heap m) (N : News g L s.heap news) (hx : m x = some (.int v t)) (hz : m z = some (.int u k)) (hv : P v u) (hE : PassesOwn (model prog w) A env E)
    (step : ∀ v u t k h tk R, P v u → Fr g L h (fun y => if y = x then some (.int v t) else if y = z then some (.int u k) else m y) → News g L h news →
      (∀ v' u' t' k' h' tk', P v' u' → μ v' u' < μ v u → Fr g L h' (fun y => if y = x then some (.int v' t') else if y = z then some (.int u' k') else m y) → News g L h' news → R { s with heap := h', toks := tk' }) →
      WhTurn prog w A E env test body Q R { s with heap := h, toks := tk }) :
    wpAny (model prog w) A (exec (.While test body [] pos) env) Q E s := by
  refine while_my (fun n s' => ∃ v u t k h tk, s' = { s with heap := h, toks := tk } ∧ P v u ∧ μ v u = n ∧ Fr g L h (fun y => if y = x then some (.int v t) else if y = z then some (.int u k) else m y) ∧ News g L h news) hE ?_
    (n := μ v u) ⟨v, u, t, k, s.heap, s.toks, rfl, hv, rfl, Fr.as F (fun y => ?_), N⟩
  · rintro n s' R IH ⟨v, u, t, k, h, tk, rfl, hP, rfl, F, N⟩
    exact step v u t k h tk R hP F N fun v' u' t' k' h' tk' hP' hlt F' N' => IH _ _ hlt ⟨v', u', t', k', h', tk', rfl, hP', rfl, F', N'⟩
  · by_cases h : y = x
    · subst h; simp [hx]
    · by_cases h2 : y = z
      · subst h2; simp [h, hz]
      · simp [h, h2]
end

theorem KB5setup2 : True := by
  k_with "my two" => ((intro y; (try dsimp +zetaDelta only); (repeat' split) <;> first | rfl | (simp_all; done)))
  trivial
set_option maxHeartbeats 4000000 in
theorem c_common_divisor {a' b' : Int} {k1 k2 : Tok} : Ct w mean mg mb 1 (.ref 189) [.int a' k1, .int b' k2] (fun _ => True)
    (fun Q news => ∀ k, Q (.int (Int.gcd a' b') k) news) := by
  unfold Ct; k_fill; intro dp un gd cn cs a ccd cl outer A₀ base h₀ L m news s Q E B F X N T hk hpre hd hu hret
  refine wpAny_call ?_
  k_dflt (refine' code_defN [Str.ofString "one", Str.ofString "other"] ?k1 ?k2 ?k3 ?k4 ?k5 ?kA ?kF ?kK ?k6 ?k7 ?k8 ?k9 ?kB ?_ ?c2 ?c3 ?c4 ?c5; (case kA => exact rfl); (case kF => exact rfl); (case kK => assumption); (case k1 => k_asm); (case k2 => k_asm); (case k3 => k_asm); (case k4 => k_asm); (case k5 => k_asm); (case k6 => k_is); (case k7 => k_is); (case k8 => ktr_room); (case k9 => exact BindsTo.of_eq rfl); (case c5 => decide); (case kB => exact locs rfl); (case c2 => exact rfl); (case c3 => exact rfl); (case c4 => exact rfl); k_whole; intro g' L' h' FG' F' N' B' X' T'; (try dsimp only); (try k_fold); (refine wp_letA ?_); intro A2)
  k_with "my while" => (
    (with_reducible rename Fr _ _ _ _ => kF)
    (with_reducible rename News _ _ _ _ => kN)
    refine' while_two (Str.ofString "first") (Str.ofString "second") (fun v u => 0 ≤ v ∧ 0 ≤ u ∧ Int.gcd v u = Int.gcd a' b') (fun _ u => u.toNat) kF kN ?hx ?hz ?hv ?hE ?_
    (case hx => rfl)
    (case hz => rfl)
    (case hv => (refine ⟨Int.natCast_nonneg _, Int.natCast_nonneg _, ?_⟩; simp [Int.gcd]))
    (case hE => first | passes_own | with_unfolding_all passes_own)
    clear kF kN
    intro v u t k h tk R hP F8 N8 hR
    obtain ⟨p1, p2, p3⟩ := hP)
  k_steps
  · show R _
    have hu0 : 0 < u := by omega
    (with_reducible rename Fr g' L' _ _ => kF)
    (with_reducible rename News g' L' _ _ => kN)
    exact hR _ _ _ _ _ _ ⟨p2, Int.fmod_nonneg_of_pos _ hu0, (gcd_step p1 hu0).trans p3⟩ (toNat_lt hu0 (Int.fmod_lt_of_pos v hu0)) (Fr.as kF (by k_extra "my two")) (News.sub kN (by k_extra "my keep"))
  · obtain rfl : u = 0 := by omega
    obtain rfl : v = (Int.gcd a' b' : Int) := by rw [← p3, Int.gcd_zero_right]; omega
    (with_reducible rename Fr h₀ L _ m => kF)
    (with_reducible rename News h₀ L _ _ => kN)
    exact hret _ _ _ kF kN
end

end
section
open PySem PySem.W PyProof.Rows PySem.Calls PySem.Spec

section
variable {w : World} {mean : ExcName → Option Value} {mg mb : Str → Option Value}


theorem KB6setup1 : True := by
  k_with "call ref" => ((k_here; (with_reducible show wpAny _ _ (call (Value.ref 175) _) _ _ _); k_dflt (refine' (c_at_one_scale ?hbbw45) _ _ _ _ _ _ _ _ _ _ _ _ _ _ _ _ _ _ ?kB ?kF ?kX ?kN ?kT ?kK ?kpw45 ?kd ?ku ?_; k_extra "sid"; (case kpw45 => refine' ⟨?kpaw45, ?kpbw45⟩; (case kpaw45 => k_extra "my num"); (case kpbw45 => k_extra "my num")); (case hbbw45 => first | decide | omega); k_whole; intro T9 a9 b9 P9 k91 k92 k93 sc9 h9 tk9 F9 N9; have nz9 := AtScale.ne sc9 (by with_reducible assumption); (try k_sweep))))
  k_with "call ref" => ((k_here; (with_reducible show wpAny _ _ (call (Value.ref 189) _) _ _ _); k_dflt (refine' (c_common_divisor) _ _ _ _ _ _ _ _ _ _ _ _ _ _ _ _ _ _ ?kB ?kF ?kX ?kN ?kT ?kK ?kpw46 ?kd ?ku ?_; k_extra "sid"; (case kpw46 => exact trivial); k_whole; intro t9 h9 tk9 F9 N9; (try k_sweep))))
  trivial
theorem log_bd {x : Int} {c : Nat} (h : Bd x c) (hc : c ≤ 2000) : x.natAbs.log2 < 9000 := by
  by_cases h0 : x.natAbs = 0
  · rw [h0]; decide
  · rw [Nat.log2_lt h0]
    exact Nat.lt_of_lt_of_le (h.to hc).lt (by decide +kernel)
theorem floordiv_rest {prog : Program} {A : Around} {E : Value → Shared → Prop} {s : Shared} {a b P : Int} {q1 q2 : Rat} {c : Nat} {t u : Tok} {Q : Value → Shared → Prop} (sc : AtScale a b P q1 q2 c) (hb : b ≠ 0) (hc : c ≤ 2000)
    (h : Q (.int (restOf a b : Int) s.toks) { s with toks := s.toks + 1 }) : wpAny (model prog w) A (binaryOp .FloorDiv (.int (b.natAbs : Int) t) (.int (Int.gcd a b : Int) u)) Q E s := by
  have hg := gcd_pos (a := a) hb
  refine floordiv_int (by lia) ?_ (Or.inl (PyProof.noPylong_of_log2 ?_))
  · rw [Int.fdiv_eq_ediv_of_nonneg _ (by lia)]
    exact h
  · have hle : Int.gcd a b ≤ b.natAbs := Nat.le_of_dvd (by lia) (Nat.gcd_dvd_right ..)
    have := sc.bb.lt
    exact log_bd (c := c) (.of (by lia)) hc

theorem KB6setup2 : True := by
  k_with "binaryOp FloorDiv int int" => ((k_here; refine' floordiv_rest ?kmxw47 ?kmyw47 ?kmzw47 ?_; (case kmxw47 => with_reducible assumption); (case kmyw47 => with_reducible assumption); (case kmzw47 => omega)))
  k_with "binaryOp FloorDiv int int" => ((k_here; (with_reducible refine floordiv_int ?hbw48 ?_ (Or.inl (PyProof.noPylong_of_log2 ?hlw48))); (case hbw48 => with_reducible assumption); (case hlw48 => refine' log_bd ?kmxw48 ?kmyw48; (case kmxw48 => k_extra "my lt"); (case kmyw48 => omega))))
  trivial
noncomputable abbrev AtScale.rest {a b P : Int} {q1 q2 : Rat} {c : Nat} (_ : AtScale a b P q1 q2 c) : Nat := restOf a b
theorem AtScale.quot {a b P : Int} {q1 q2 : Rat} {c : Nat} (h : AtScale a b P q1 q2 c) (h0 : q2 ≠ 0) : (a : Rat) / b = q1 / q2 := by
  rw [h.ha, h.hb]
  have := ten_ne P.toNat
  grind
theorem two_lt {p c n m : Nat} (h : 2 ^ p ≤ n) (h' : n ≤ m) (h'' : m < 10 ^ c) : p < 4 * c := by
  have h1 : (10 : Nat) ^ c ≤ 2 ^ (4 * c) := by rw [Nat.pow_mul]; exact Nat.pow_le_pow_left (by decide) _
  exact (Nat.pow_lt_pow_iff_right (by decide : 1 < 2)).mp (Nat.lt_of_le_of_lt (Nat.le_trans h h') (Nat.lt_of_lt_of_le h'' h1))
/-- the loop's word -/
structure XoP (r c : Nat) (p : Int) : Prop where
  p0 : 0 ≤ p
  no : ∀ j, j < p.toNat → ¬ r ∣ 10 ^ j
  le : 2 ^ p.toNat ≤ r
  lt : p ≤ 4 * c

section
variable {a b P : Int} {q1 q2 : Rat} {c : Nat} {v : Int}
theorem xo_none (sc : AtScale a b P q1 q2 c) (h0 : q2 ≠ 0) (hx : XoP (restOf a b) c v) (hf : ¬ ((10 : Int) ^ v.toNat).fmod (restOf a b) = 0) (hl : (restOf a b : Int) < 2 ^ (v + 1).toNat) : ¬ Ends (q1 / q2) := by
  have nz := sc.ne h0
  rw [← sc.quot h0]
  refine not_ends nz (p := (v + 1).toNat) (fun j hj => ?_) (by exact_mod_cast hl)
  have := hx.p0
  by_cases h : j < v.toNat
  · exact hx.no j h
  · obtain rfl : j = v.toNat := by lia
    rw [← fmod_zero_iff (rest_pos nz)]
    exact hf
theorem xo_next (sc : AtScale a b P q1 q2 c) (h0 : q2 ≠ 0) (hx : XoP (restOf a b) c v) (hf : ¬ ((10 : Int) ^ v.toNat).fmod (restOf a b) = 0) (hl : ¬ (restOf a b : Int) < 2 ^ (v + 1).toNat) :
    XoP (restOf a b) c (v + 1) ∧ restOf a b - (v + 1).toNat < restOf a b - v.toNat := by
  have nz := sc.ne h0
  have hl' : 2 ^ (v + 1).toNat ≤ restOf a b := by
    have : ((2 ^ (v + 1).toNat : Nat) : Int) ≤ (restOf a b : Int) := by rw [Int.natCast_pow]; exact Int.not_lt.mp hl
    exact_mod_cast this
  have hv := hx.p0
  have h4 := two_lt hl' rest_le sc.bb.lt
  have h5 : v.toNat < 2 ^ v.toNat := Nat.lt_two_pow_self
  have h6 := hx.le
  refine ⟨⟨by lia, fun j hj => ?_, hl', by lia⟩, by lia⟩
  by_cases h : j < v.toNat
  · exact hx.no j h
  · obtain rfl : j = v.toNat := by lia
    rw [← fmod_zero_iff (rest_pos nz)]
    exact hf
theorem xo_hq (sc : AtScale a b P q1 q2 c) (h0 : q2 ≠ 0) (hf : ((10 : Int) ^ v.toNat).fmod (restOf a b) = 0) : (((a * 10 ^ v.toNat).fdiv b : Int) : Rat) = (q1 / q2) * 10 ^ v.toNat := by
  have nz := sc.ne h0
  rw [← sc.quot h0]
  exact exact_q nz ((fmod_zero_iff (rest_pos nz)).mp hf)
theorem xo_ends (sc : AtScale a b P q1 q2 c) (h0 : q2 ≠ 0) (hf : ((10 : Int) ^ v.toNat).fmod (restOf a b) = 0) : Ends (q1 / q2) := ⟨_, _, (xo_hq sc h0 hf).symm⟩
theorem xo_bd (sc : AtScale a b P q1 q2 c) (h0 : q2 ≠ 0) (hx : XoP (restOf a b) c v) (hf : ((10 : Int) ^ v.toNat).fmod (restOf a b) = 0) : Bd ((a * 10 ^ v.toNat).fdiv b) (5 * c) := by
  have nz := sc.ne h0
  have hd := (rest_dvd nz).mp ((fmod_zero_iff (rest_pos nz)).mp hf)
  obtain ⟨t, ht⟩ := hd
  rw [ht, Int.mul_fdiv_cancel_left _ nz]
  have hp := hx.lt
  have h1 := (bd_ten (n := v.toNat) (c := 4 * c) (by lia) sc.ba).lt
  rw [ht, Int.natAbs_mul] at h1
  refine .of (Nat.lt_of_le_of_lt (Nat.le_mul_of_pos_left _ (by lia)) (Nat.lt_of_lt_of_le h1 ?_))
  exact Nat.pow_le_pow_right (by decide) (by lia)
theorem xo_p (hx : XoP (restOf a b) c v) : v ≤ ((5 * c : Nat) : Int) := by
  have := hx.lt
  lia
theorem xo_0 (hx : XoP (restOf a b) c v) : 0 ≤ v := hx.p0
end

theorem KB6setup3 : True := by
  k_with "my hq" => ((refine' xo_hq ?kmxw49 ?kmyw49 ?kmzw49; (case kmxw49 => with_reducible assumption); (case kmyw49 => with_reducible assumption); (case kmzw49 => assumption)))
  k_with "my ht" => ((refine' xo_bd ?kmxw50 ?kmyw50 ?kmzw50 ?kmww50; (case kmxw50 => with_reducible assumption); (case kmyw50 => with_reducible assumption); (case kmzw50 => assumption); (case kmww50 => assumption)))
  k_with "my hb" => ((refine' xo_p ?kmxw51; (case kmxw51 => assumption)))
  k_with "my hz" => ((refine' xo_0 ?kmxw52; (case kmxw52 => assumption)))
  k_with "binaryOp Mod int int" => ((k_here; (with_reducible refine mod_int' ?kmxw53 ?_); (case kmxw53 => first | with_reducible assumption | omega)))
  trivial
set_option maxHeartbeats 4000000 in
theorem c_exact_over {D1 D2 : DecL} {q1 q2 : Rat} {b1 b2 : Nat} (hb : b1 + b2 ≤ 300) (h0 : q2 ≠ 0) : Ct w mean mg mb 4 (.ref 196) [.ref D1.x, .ref D2.x] (fun news => Num w news (.ref D1.x) q1 b1 ∧ Num w news (.ref D2.x) q2 b2)
    (fun Q news => (¬ Ends (q1 / q2) → Q .none news) ∧ ∀ D, Ends (q1 / q2) → DecOK D (q1 / q2) (5 * (b1 + b2)) → Fresh news (decL w D) → Q (.ref D.x) (decL w D ++ news)) := by
  unfold Ct; k_fill; intro dp un gd cn cs a ccd cl outer A₀ base h₀ L m news s Q E B F X N T hk hpre hd hu hret
  obtain ⟨n1, n2⟩ := hpre
  obtain ⟨hretN, hretD⟩ := hret
  k_with "my while" => (
    (with_reducible rename Fr _ _ _ _ => kF)
    (with_reducible rename News _ _ _ _ => kN)
    (with_reducible rename AtScale _ _ _ _ _ _ => sc)
    have nz := AtScale.ne sc h0
    have rp : 0 < sc.rest := rest_pos nz
    dsimp only [AtScale.rest] at rp
    have rl : sc.rest ≤ _ := rest_le
    have bl := sc.bb.lt
    refine' while_one (Str.ofString "places") (XoP sc.rest (b1 + b2)) (fun p => sc.rest - p.toNat) kF kN ?hx ?hv ?hE ?_
    (case hx => rfl)
    (case hv => (refine ⟨Int.le_refl _, fun j hj => absurd hj (Nat.not_lt_zero _), rp, ?_⟩; omega))
    (case hE => first | passes_own | with_unfolding_all passes_own)
    clear kF kN
    intro v t k tk R hP F8 N8 hR
    dsimp only [AtScale.rest] at hP
    have p1 := hP.p0
    have p4 := hP.lt)
  refine wpAny_call ?_
  k_dflt (refine' code_defN [Str.ofString "one", Str.ofString "other"] ?k1 ?k2 ?k3 ?k4 ?k5 ?kA ?kF ?kK ?k6 ?k7 ?k8 ?k9 ?kB ?_ ?c2 ?c3 ?c4 ?c5; (case kA => exact rfl); (case kF => exact rfl); (case kK => assumption); (case k1 => k_asm); (case k2 => k_asm); (case k3 => k_asm); (case k4 => k_asm); (case k5 => k_asm); (case k6 => k_is); (case k7 => k_is); (case k8 => ktr_room); (case k9 => exact BindsTo.of_eq rfl); (case c5 => decide); (case kB => exact locs rfl); (case c2 => exact rfl); (case c3 => exact rfl); (case c4 => exact rfl); k_whole; intro g' L' h' FG' F' N' B' X' T'; (try dsimp only); (try k_fold); (refine wp_letA ?_); intro A2)
  k_steps
  · (with_reducible rename Fr h₀ L _ m => kF)
    (with_reducible rename News h₀ L _ _ => kN)
    exact hretN (xo_none (by assumption) h0 hP (by assumption) (by assumption)) _ _ kF (News.sub kN (by k_extra "my keep"))
  · show R _
    (with_reducible rename Fr g' L' _ _ => kF)
    (with_reducible rename News g' L' _ _ => kN)
    have hn := xo_next (by assumption) h0 hP (by assumption) (by assumption)
    exact hR _ _ _ _ hn.1 hn.2 (Fr.as kF (by k_extra "my two")) (News.sub kN (by k_extra "my keep"))
  · (with_reducible rename Fr h₀ L _ m => kF)
    (with_reducible rename News h₀ L _ _ => kN)
    exact hretD _ (xo_ends (by assumption) h0 (by assumption)) (by with_reducible assumption) (Fresh.less (by with_reducible assumption) (by k_extra "my sub")) _ _ kF (News.sub kN (by k_extra "my keep"))
end

end
section
open PySem PySem.W PyProof.Rows PySem.Calls PySem.Spec

section
variable {w : World} {mean : ExcName → Option Value} {mg mb : Str → Option Value}


set_option genInjectivity false in
set_option genSizeOfSpec false in
structure MatL where
  (x dx : Addr) (a b c d e f : DecL) (k1 k2 k3 k4 k5 k6 : Tok)
noncomputable abbrev matObj (w : World) (M : MatL) : Obj := dictOf [⟨PyData.keyHash w.params (Str.ofString "a"), .str (Str.ofString "a") M.k1, .ref M.a.x⟩,
  ⟨PyData.keyHash w.params (Str.ofString "b"), .str (Str.ofString "b") M.k2, .ref M.b.x⟩, ⟨PyData.keyHash w.params (Str.ofString "c"), .str (Str.ofString "c") M.k3, .ref M.c.x⟩,
  ⟨PyData.keyHash w.params (Str.ofString "d"), .str (Str.ofString "d") M.k4, .ref M.d.x⟩, ⟨PyData.keyHash w.params (Str.ofString "e"), .str (Str.ofString "e") M.k5, .ref M.e.x⟩,
  ⟨PyData.keyHash w.params (Str.ofString "f"), .str (Str.ofString "f") M.k6, .ref M.f.x⟩] 6
@[irreducible] noncomputable def matL (w : World) (M : MatL) : Led := (M.x, instObj 246 M.dx) :: (M.dx, matObj w M) :: (decL w M.a ++ (decL w M.b ++ (decL w M.c ++ (decL w M.d ++ (decL w M.e ++ decL w M.f)))))
section
variable {M : MatL} {news : Led}
theorem matL_def : matL w M = (M.x, instObj 246 M.dx) :: (M.dx, matObj w M) :: (decL w M.a ++ (decL w M.b ++ (decL w M.c ++ (decL w M.d ++ (decL w M.e ++ decL w M.f))))) := by unfold matL; rfl
theorem mat_x (h : Sub (matL w M) news) : (M.x, instObj 246 M.dx) ∈ news := h.mem _ (by rw [matL_def]; exact .head _)
theorem mat_d (h : Sub (matL w M) news) : (M.dx, matObj w M) ∈ news := h.mem _ (by rw [matL_def]; exact .tail _ (.head _))
theorem mat_a (h : Sub (matL w M) news) : Sub (decL w M.a) news := Sub.trans (by rw [matL_def]; exact .cons (.cons .here)) h
theorem mat_b (h : Sub (matL w M) news) : Sub (decL w M.b) news := Sub.trans (by rw [matL_def]; exact .cons (.cons (.app .here))) h
theorem mat_c (h : Sub (matL w M) news) : Sub (decL w M.c) news := Sub.trans (by rw [matL_def]; exact .cons (.cons (.app (.app .here)))) h
theorem mat_d' (h : Sub (matL w M) news) : Sub (decL w M.d) news := Sub.trans (by rw [matL_def]; exact .cons (.cons (.app (.app (.app .here))))) h
theorem mat_e (h : Sub (matL w M) news) : Sub (decL w M.e) news := Sub.trans (by rw [matL_def]; exact .cons (.cons (.app (.app (.app (.app .here)))))) h
theorem mat_f (h : Sub (matL w M) news) : Sub (decL w M.f) news := Sub.trans (by rw [matL_def]; exact .cons (.cons (.app (.app (.app (.app (.app .refl))))))) h
end
section
variable {w : World} {A : Around} {E : Value → Shared → Prop} {s : Shared} {h₀ : Heap} {L a : Addr} {m : Str → Option Value} {cn : Str} {cs : Scope} {ccd : Value} {cl : List (Str × Addr)}
  {x name : Str} {xp ap pos : Pos} {f : Addr} {Q : Value → Shared → Prop} {e : PySem.Expr} {rest : List PySem.Expr} {news : Led} {M : MatL}
theorem mat_none (h : (!(Str.ofString "a" == name) && (!(Str.ofString "b" == name) && (!(Str.ofString "c" == name) && (!(Str.ofString "d" == name) && (!(Str.ofString "e" == name) && !(Str.ofString "f" == name)))))) = true) : getL name [⟨PyData.keyHash w.params (Str.ofString "a"), .str (Str.ofString "a") M.k1, .ref M.a.x⟩, ⟨PyData.keyHash w.params (Str.ofString "b"), .str (Str.ofString "b") M.k2, .ref M.b.x⟩, ⟨PyData.keyHash w.params (Str.ofString "c"), .str (Str.ofString "c") M.k3, .ref M.c.x⟩, ⟨PyData.keyHash w.params (Str.ofString "d"), .str (Str.ofString "d") M.k4, .ref M.d.x⟩, ⟨PyData.keyHash w.params (Str.ofString "e"), .str (Str.ofString "e") M.k5, .ref M.e.x⟩, ⟨PyData.keyHash w.params (Str.ofString "f"), .str (Str.ofString "f") M.k6, .ref M.f.x⟩] = some none := by
  have h1 := Bool.and_eq_true_iff.mp h
  have h2 := Bool.and_eq_true_iff.mp h1.2
  have h3 := Bool.and_eq_true_iff.mp h2.2
  have h4 := Bool.and_eq_true_iff.mp h3.2
  have h5 := Bool.and_eq_true_iff.mp h4.2
  have nt : ∀ {b : Bool}, (!b) = true → b = false := fun h => by simpa using h
  unfold getL
  rw [List.find?_cons_of_neg (by show ¬ (Str.ofString "a" == name) = true; rw [nt h1.1]; decide)]
  rw [List.find?_cons_of_neg (by show ¬ (Str.ofString "b" == name) = true; rw [nt h2.1]; decide)]
  rw [List.find?_cons_of_neg (by show ¬ (Str.ofString "c" == name) = true; rw [nt h3.1]; decide)]
  rw [List.find?_cons_of_neg (by show ¬ (Str.ofString "d" == name) = true; rw [nt h4.1]; decide)]
  rw [List.find?_cons_of_neg (by show ¬ (Str.ofString "e" == name) = true; rw [nt h5.1]; decide)]
  rw [List.find?_cons_of_neg (by show ¬ (Str.ofString "f" == name) = true; rw [nt h5.2]; decide)]
  rfl
theorem mat_at_a (F : Fr h₀ L s.heap m) (X : (KF w.params).In h₀) (hv : m x = some (.ref M.x)) (hc : NmOk cs x .local) (N : News h₀ L s.heap news) (S : Sub (matL w M) news) (h : Q (.ref M.a.x) { s with toks := s.toks + 1 }) :
    wpAny (model PySem.Challenge.rw_nn0207_01.row.prog w) A (eval (.Attribute (.Name x xp) (Str.ofString "a") pos) (envX cn cs L a ccd cl)) Q E s :=
  attr_n F X hv hc N (mat_x S) (mat_d S) (by kernel_rfl) rfl rfl h
theorem mat_at_b (F : Fr h₀ L s.heap m) (X : (KF w.params).In h₀) (hv : m x = some (.ref M.x)) (hc : NmOk cs x .local) (N : News h₀ L s.heap news) (S : Sub (matL w M) news) (h : Q (.ref M.b.x) { s with toks := s.toks + 1 }) :
    wpAny (model PySem.Challenge.rw_nn0207_01.row.prog w) A (eval (.Attribute (.Name x xp) (Str.ofString "b") pos) (envX cn cs L a ccd cl)) Q E s :=
  attr_n F X hv hc N (mat_x S) (mat_d S) (by kernel_rfl) rfl rfl h
theorem mat_at_c (F : Fr h₀ L s.heap m) (X : (KF w.params).In h₀) (hv : m x = some (.ref M.x)) (hc : NmOk cs x .local) (N : News h₀ L s.heap news) (S : Sub (matL w M) news) (h : Q (.ref M.c.x) { s with toks := s.toks + 1 }) :
    wpAny (model PySem.Challenge.rw_nn0207_01.row.prog w) A (eval (.Attribute (.Name x xp) (Str.ofString "c") pos) (envX cn cs L a ccd cl)) Q E s :=
  attr_n F X hv hc N (mat_x S) (mat_d S) (by kernel_rfl) rfl rfl h
theorem mat_at_d (F : Fr h₀ L s.heap m) (X : (KF w.params).In h₀) (hv : m x = some (.ref M.x)) (hc : NmOk cs x .local) (N : News h₀ L s.heap news) (S : Sub (matL w M) news) (h : Q (.ref M.d.x) { s with toks := s.toks + 1 }) :
    wpAny (model PySem.Challenge.rw_nn0207_01.row.prog w) A (eval (.Attribute (.Name x xp) (Str.ofString "d") pos) (envX cn cs L a ccd cl)) Q E s :=
  attr_n F X hv hc N (mat_x S) (mat_d S) (by kernel_rfl) rfl rfl h
theorem mat_at_e (F : Fr h₀ L s.heap m) (X : (KF w.params).In h₀) (hv : m x = some (.ref M.x)) (hc : NmOk cs x .local) (N : News h₀ L s.heap news) (S : Sub (matL w M) news) (h : Q (.ref M.e.x) { s with toks := s.toks + 1 }) :
    wpAny (model PySem.Challenge.rw_nn0207_01.row.prog w) A (eval (.Attribute (.Name x xp) (Str.ofString "e") pos) (envX cn cs L a ccd cl)) Q E s :=
  attr_n F X hv hc N (mat_x S) (mat_d S) (by kernel_rfl) rfl rfl h
theorem mat_at_f (F : Fr h₀ L s.heap m) (X : (KF w.params).In h₀) (hv : m x = some (.ref M.x)) (hc : NmOk cs x .local) (N : News h₀ L s.heap news) (S : Sub (matL w M) news) (h : Q (.ref M.f.x) { s with toks := s.toks + 1 }) :
    wpAny (model PySem.Challenge.rw_nn0207_01.row.prog w) A (eval (.Attribute (.Name x xp) (Str.ofString "f") pos) (envX cn cs L a ccd cl)) Q E s :=
  attr_n F X hv hc N (mat_x S) (mat_d S) (by kernel_rfl) rfl rfl h
theorem mat_meth (F : Fr h₀ L s.heap m) (X : (KF w.params).In h₀) (hv : m x = some (.ref M.x)) (hc : NmOk cs x .local) (N : News h₀ L s.heap news) (S : Sub (matL w M) news)
    (hf : findIn (KF w.params) (.ref 246) name = some (some (.ref f))) (hm : methOk (KF w.params) 246 name f = true) (hl : (!(Str.ofString "a" == name) && (!(Str.ofString "b" == name) && (!(Str.ofString "c" == name) && (!(Str.ofString "d" == name) && (!(Str.ofString "e" == name) && !(Str.ofString "f" == name)))))) = true) (hs : few (e :: rest) = true) (hp : (ap.endLine == pos.line) = true)
    (h : wpAny (model PySem.Challenge.rw_nn0207_01.row.prog w) A (spliced (backTo pos (starEach (e :: rest) (envX cn cs L a ccd cl)))) (fun vs s₁ => (KF w.params).In s₁.heap ∧ wpAny (model PySem.Challenge.rw_nn0207_01.row.prog w) A (call (.ref f) (.ref M.x :: vs)) Q E s₁) E s) :
    wpAny (model PySem.Challenge.rw_nn0207_01.row.prog w) A (eval (.Call (.Attribute (.Name x xp) name ap) (e :: rest) [] pos) (envX cn cs L a ccd cl)) Q E s :=
  meth_n F X hv hc N (mat_x S) (mat_d S) hf hm (mat_none hl) hs hp h
theorem mat_meth0 (F : Fr h₀ L s.heap m) (X : (KF w.params).In h₀) (hv : m x = some (.ref M.x)) (hc : NmOk cs x .local) (N : News h₀ L s.heap news) (S : Sub (matL w M) news)
    (hf : findIn (KF w.params) (.ref 246) name = some (some (.ref f))) (hm : methOk (KF w.params) 246 name f = true) (hl : (!(Str.ofString "a" == name) && (!(Str.ofString "b" == name) && (!(Str.ofString "c" == name) && (!(Str.ofString "d" == name) && (!(Str.ofString "e" == name) && !(Str.ofString "f" == name)))))) = true) (hp : (ap.endLine == pos.line) = true)
    (h : wpAny (model PySem.Challenge.rw_nn0207_01.row.prog w) A (call (.ref f) [.ref M.x]) Q E s) :
    wpAny (model PySem.Challenge.rw_nn0207_01.row.prog w) A (eval (.Call (.Attribute (.Name x xp) name ap) [] [] pos) (envX cn cs L a ccd cl)) Q E s :=
  meth_n0 F X hv hc N (mat_x S) (mat_d S) hf hm (mat_none hl) hp h
end
set_option genInjectivity false in
set_option genSizeOfSpec false in
/-- six numbers -/
structure Six where
  (a b c d e f : Rat)
structure MatOK (M : MatL) (q : Six) (b : Nat) : Prop where
  oa : DecOK M.a q.a b
  ob : DecOK M.b q.b b
  oc : DecOK M.c q.c b
  od : DecOK M.d q.d b
  oe : DecOK M.e q.e b
  of : DecOK M.f q.f b

theorem mat_made {h₀ h' : Heap} {L : Addr} {m : Str → Option Value} {s : Shared} {tk : Nat} {Q : Value → Shared → Prop} {news led n0 e1 e2 e3 e4 e5 e6 : Led} {x dx : Addr} {a b c d e f : DecL} {k1 k2 k3 k4 k5 k6 : Tok} {q : Six} {n : Nat}
    (hret : ∀ M ext, MatOK M q n → Fresh news ext → Sub (matL w M) (ext ++ n0) → ∀ (h' : Heap) (tk' : Nat), Fr h₀ L h' m → News h₀ L h' (matL w M ++ news) → Q (.ref M.x) { s with heap := h', toks := tk' }) (kF : Fr h₀ L h' m) (kN : News h₀ L h' led)
    (oa : DecOK a q.a n) (ob : DecOK b q.b n) (oc : DecOK c q.c n) (od : DecOK d q.d n) (oe : DecOK e q.e n) (of : DecOK f q.f n)
    (h1 : (x, instObj 246 dx) ∈ led) (h2 : (dx, dictOf [⟨PyData.keyHash w.params (Str.ofString "a"), .str (Str.ofString "a") k1, .ref a.x⟩,
      ⟨PyData.keyHash w.params (Str.ofString "b"), .str (Str.ofString "b") k2, .ref b.x⟩, ⟨PyData.keyHash w.params (Str.ofString "c"), .str (Str.ofString "c") k3, .ref c.x⟩,
      ⟨PyData.keyHash w.params (Str.ofString "d"), .str (Str.ofString "d") k4, .ref d.x⟩, ⟨PyData.keyHash w.params (Str.ofString "e"), .str (Str.ofString "e") k5, .ref e.x⟩,
      ⟨PyData.keyHash w.params (Str.ofString "f"), .str (Str.ofString "f") k6, .ref f.x⟩] 6) ∈ led)
    (sa : Sub (decL w a) (e1 ++ n0)) (sb : Sub (decL w b) (e2 ++ n0)) (sc : Sub (decL w c) (e3 ++ n0)) (sd : Sub (decL w d) (e4 ++ n0)) (se : Sub (decL w e) (e5 ++ n0)) (sf : Sub (decL w f) (e6 ++ n0))
    (fa : Fresh news e1) (fb : Fresh news e2) (fc : Fresh news e3) (fd : Fresh news e4) (fe : Fresh news e5) (ff : Fresh news e6) (l1 : ∀ p ∈ news, p.1 < dx) (l2 : dx < x)
    (ua : Sub e1 led) (ub : Sub e2 led) (uc : Sub e3 led) (ud : Sub e4 led) (ue : Sub e5 led) (uf : Sub e6 led) (u0 : Sub n0 led) (sn : Sub news led) :
    Q (.ref x) { s with heap := h', toks := tk } := by
  have ta := sa.trans (ua.join u0)
  have tb := sb.trans (ub.join u0)
  have tc := sc.trans (uc.join u0)
  have td := sd.trans (ud.join u0)
  have te := se.trans (ue.join u0)
  have tf := sf.trans (uf.join u0)
  have key : ∀ M : MatL, matL w M = [(M.x, instObj 246 M.dx), (M.dx, matObj w M)] ++ (decL w M.a ++ (decL w M.b ++ (decL w M.c ++ (decL w M.d ++ (decL w M.e ++ decL w M.f))))) := fun M => matL_def
  refine hret ⟨x, dx, a, b, c, d, e, f, k1, k2, k3, k4, k5, k6⟩ ([(x, instObj 246 dx), (dx, matObj w ⟨x, dx, a, b, c, d, e, f, k1, k2, k3, k4, k5, k6⟩)] ++ (e1 ++ (e2 ++ (e3 ++ (e4 ++ (e5 ++ e6)))))) ⟨oa, ob, oc, od, oe, of⟩
    ((fresh_two l1 l2).join (fa.join (fb.join (fc.join (fd.join (fe.join ff)))))) ?_ h' tk kF (News.sub kN (.join (by rw [matL_def]; exact .add h1 (.add h2 (.join ta (.join tb (.join tc (.join td (.join te tf))))))) sn))
  rw [key]
  simp only [List.append_assoc]
  refine .join .here (.app (.join (sa.trans (.join .here (.app (.app (.app (.app (.app (.app .refl)))))))) (.join (sb.trans (.join (.app .here) (.app (.app (.app (.app (.app (.app .refl)))))))) (.join (sc.trans (.join (.app (.app .here)) (.app (.app (.app (.app (.app (.app .refl))))))))
    (.join (sd.trans (.join (.app (.app (.app .here))) (.app (.app (.app (.app (.app (.app .refl)))))))) (.join (se.trans (.join (.app (.app (.app (.app .here)))) (.app (.app (.app (.app (.app (.app .refl)))))))) (sf.trans (.join (.app (.app (.app (.app (.app .here))))) (.app (.app (.app (.app (.app (.app .refl))))))))))))))

theorem KB7setup1 : True := by
  k_with "call ref" => ((k_here; (with_reducible show wpAny _ _ (call (Value.ref 168) _) _ _ _); k_dflt (refine' (c_decimal_of) _ _ _ _ _ _ _ _ _ _ _ _ _ _ _ _ _ _ ?kB ?kF ?kX ?kN ?kT ?kK ?kpw54 ?kd ?ku ?_; k_extra "sid"; (case kpw54 => refine' ⟨?kpaw54, ?kpbw54⟩; (case kpaw54 => k_extra "my num"); (case kpbw54 => k_extra "my sub")); k_whole; intro e9 D9 ok9 s9 s8 f9 h9 tk9 F9 N9; clear s8; (try k_sweep))))
  trivial
set_option maxHeartbeats 4000000 in
theorem c_Matrix {n0 : Led} {v1 v2 v3 v4 v5 v6 : Value} {q : Six} {b : Nat} :
    Ct w mean mg mb 4 (.ref 246) [v1, v2, v3, v4, v5, v6] (fun news => ((Num w n0 v1 q.a b ∧ Num w n0 v2 q.b b ∧ Num w n0 v3 q.c b) ∧ Num w n0 v4 q.d b ∧ Num w n0 v5 q.e b ∧ Num w n0 v6 q.f b) ∧ Sub n0 news)
     (fun Q news => ∀ M ext, MatOK M q b → Fresh news ext → Sub (matL w M) (ext ++ n0) → Q (.ref M.x) (matL w M ++ news)) := by
  unfold Ct; k_fill; intro dp un gd cn cs a ccd cl outer A₀ base h₀ L m news s Q E B F X N T hk hpre hd hu hret
  obtain ⟨⟨⟨n1, n2, n3⟩, n4, n5, n6⟩, hn0⟩ := hpre
  k_extra "my cls"
  k_dflt (refine' code_defN [Str.ofString "self", Str.ofString "a", Str.ofString "b", Str.ofString "c", Str.ofString "d", Str.ofString "e", Str.ofString "f"] ?k1 ?k2 ?k3 ?k4 ?k5 ?kA ?kF ?kK ?k6 ?k7 ?k8 ?k9 ?kB ?_ ?c2 ?c3 ?c4 ?c5; (case kA => exact rfl); (case kF => exact rfl); (case kK => assumption); (case k1 => k_asm); (case k2 => k_asm); (case k3 => k_asm); (case k4 => k_asm); (case k5 => k_asm); (case k6 => k_is); (case k7 => k_is); (case k8 => ktr_room); (case k9 => exact BindsTo.of_eq rfl); (case c5 => decide); (case kB => exact locs rfl); (case c2 => exact rfl); (case c3 => exact rfl); (case c4 => exact rfl); k_whole; intro g' L' h' FG' F' N' B' X' T'; (try dsimp only); (try k_fold); (refine wp_letA ?_); intro A2)
  k_steps
  (with_reducible rename Fr h₀ L _ m => kF)
  (with_reducible rename News h₀ L _ _ => kN)
  refine' mat_made hret kF kN ?o1 ?o2 ?o3 ?o4 ?o5 ?o6 ?m1 ?m2 ?s1 ?s2 ?s3 ?s4 ?s5 ?s6 ?f1 ?f2 ?f3 ?f4 ?f5 ?f6 ?l1 ?l2 ?u1 ?u2 ?u3 ?u4 ?u5 ?u6 ?u0 ?sn
  (case o1 => with_reducible assumption)
  (case o2 => with_reducible assumption)
  (case o3 => with_reducible assumption)
  (case o4 => with_reducible assumption)
  (case o5 => with_reducible assumption)
  (case o6 => with_reducible assumption)
  (case m1 => k_mem)
  (case m2 => k_mem)
  (case s1 => with_reducible assumption)
  (case s2 => with_reducible assumption)
  (case s3 => with_reducible assumption)
  (case s4 => with_reducible assumption)
  (case s5 => with_reducible assumption)
  (case s6 => with_reducible assumption)
  (case f1 => refine' Fresh.less ?kx ?ky; (case kx => with_reducible assumption); (case ky => k_extra "my sub"))
  (case f2 => refine' Fresh.less ?kx ?ky; (case kx => with_reducible assumption); (case ky => k_extra "my sub"))
  (case f3 => refine' Fresh.less ?kx ?ky; (case kx => with_reducible assumption); (case ky => k_extra "my sub"))
  (case f4 => refine' Fresh.less ?kx ?ky; (case kx => with_reducible assumption); (case ky => k_extra "my sub"))
  (case f5 => refine' Fresh.less ?kx ?ky; (case kx => with_reducible assumption); (case ky => k_extra "my sub"))
  (case f6 => refine' Fresh.less ?kx ?ky; (case kx => with_reducible assumption); (case ky => k_extra "my sub"))
  (case l1 => assumption)
  (case l2 => assumption)
  (case u1 => k_extra "my sub")
  (case u2 => k_extra "my sub")
  (case u3 => k_extra "my sub")
  (case u4 => k_extra "my sub")
  (case u5 => k_extra "my sub")
  (case u6 => k_extra "my sub")
  (case u0 => refine' Sub.trans hn0 ?ky; (case ky => k_extra "my sub"))
  (case sn => k_extra "my sub")

theorem Num.to {news : Led} {v : Value} {q : Rat} {b c : Nat} (h : Num w news v q b) (k : b ≤ c) : Num w news v q c := by
  cases h with
  | dec h ok => exact .dec h (ok.to rfl k)
  | int h hq => exact .int (h.to k) hq
theorem MatOK.to {M : MatL} {q q' : Six} {b b' : Nat} (h : MatOK M q b) (hq : q = q') (hb : b ≤ b') : MatOK M q' b' := by
  subst hq
  exact ⟨h.oa.to rfl hb, h.ob.to rfl hb, h.oc.to rfl hb, h.od.to rfl hb, h.oe.to rfl hb, h.of.to rfl hb⟩
noncomputable abbrev max6 (a b c d e f : Nat) : Nat := max a (max b (max c (max d (max e f))))
theorem mxr {a b c : Nat} (h : c ≤ b) : c ≤ max a b := Nat.le_trans h (Nat.le_max_right ..)
theorem c_Matrix6f {n0 : Led} {v1 v2 v3 v4 v5 v6 : Value} {q1 q2 q3 q4 q5 q6 : Rat} {b1 b2 b3 b4 b5 b6 : Nat} :
    Ct w mean mg mb 4 (.ref 246) [v1, v2, v3, v4, v5, v6] (fun news => ((Num w n0 v1 q1 b1 ∧ Num w n0 v2 q2 b2 ∧ Num w n0 v3 q3 b3) ∧ Num w n0 v4 q4 b4 ∧ Num w n0 v5 q5 b5 ∧ Num w n0 v6 q6 b6) ∧ Sub n0 news)
     (fun Q news => ∀ M ext, MatOK M ⟨q1, q2, q3, q4, q5, q6⟩ (max6 b1 b2 b3 b4 b5 b6) → Fresh news ext → Sub (matL w M) (ext ++ n0) → Q (.ref M.x) (matL w M ++ news)) := by
  intro dp un gd cn cs a ccd cl outer A₀ base h₀ L m news s Q E B F X N T hk hpre hd hu hret
  obtain ⟨⟨⟨n1, n2, n3⟩, n4, n5, n6⟩, hn0⟩ := hpre
  exact c_Matrix (n0 := n0) (q := ⟨q1, q2, q3, q4, q5, q6⟩) (b := max6 b1 b2 b3 b4 b5 b6) dp un gd cn cs a ccd cl outer A₀ base h₀ L m news s Q E B F X N T hk ⟨⟨⟨n1.to (Nat.le_max_left ..), n2.to (mxr (Nat.le_max_left ..)), n3.to (mxr (mxr (Nat.le_max_left ..)))⟩, n4.to (mxr (mxr (mxr (Nat.le_max_left ..)))), n5.to (mxr (mxr (mxr (mxr (Nat.le_max_left ..))))), n6.to (mxr (mxr (mxr (mxr (Nat.le_max_right ..)))))⟩, hn0⟩ hd hu hret
theorem c_Matrix6 {v1 v2 v3 v4 v5 v6 : Value} {q1 q2 q3 q4 q5 q6 : Rat} {b1 b2 b3 b4 b5 b6 : Nat} :
    Ct w mean mg mb 4 (.ref 246) [v1, v2, v3, v4, v5, v6] (fun news => (Num w news v1 q1 b1 ∧ Num w news v2 q2 b2 ∧ Num w news v3 q3 b3) ∧ Num w news v4 q4 b4 ∧ Num w news v5 q5 b5 ∧ Num w news v6 q6 b6)
     (fun Q news => ∀ M, MatOK M ⟨q1, q2, q3, q4, q5, q6⟩ (max6 b1 b2 b3 b4 b5 b6) → Q (.ref M.x) (matL w M ++ news)) := by
  intro dp un gd cn cs a ccd cl outer A₀ base h₀ L m news s Q E B F X N T hk hpre hd hu hret
  exact c_Matrix6f (n0 := news) dp un gd cn cs a ccd cl outer A₀ base h₀ L m news s Q E B F X N T hk ⟨hpre, .refl⟩ hd hu (fun M ext o _ _ => hret M o)
end

end
section
open PySem PySem.W PyProof.Rows PySem.Calls PySem.Spec

section
variable {w : World} {mean : ExcName → Option Value} {mg mb : Str → Option Value}



theorem KB8setup1 : True := by
  k_with "call ref" => ((k_here; (with_reducible show wpAny _ _ (call (Value.ref 168) _) _ _ _); k_dflt (refine' (c_decimal_of) _ _ _ _ _ _ _ _ _ _ _ _ _ _ _ _ _ _ ?kB ?kF ?kX ?kN ?kT ?kK ?kpw55 ?kd ?ku ?_; k_extra "sid"; (case kpw55 => refine' ⟨?kpaw55, ?kpbw55⟩; (case kpaw55 => k_extra "my num"); (case kpbw55 => k_extra "my sub")); k_whole; intro e9 D9 ok9 s9 s8 f9 h9 tk9 F9 N9; have p9 := ok9.nrm.p0; have q9 := ok9.bp; (try k_sweep))))
  k_with "my le" => (first | exact Nat.le_refl _ | exact Nat.le_of_ble_eq_true rfl | exact lea _ _ | exact leb _ _ | exact le1 _ | omega)
  k_with "my kmem" => (first | (with_reducible refine' mat_x ?kmhw56; (case kmhw56 => k_extra "my sub")) | (with_reducible refine' mat_d ?kmhw56; (case kmhw56 => k_extra "my sub")))
  k_with "call ref" => ((k_here; (with_reducible show wpAny _ _ (call (Value.ref 70) _) _ _ _); k_dflt (refine' (c_plus ?hbbw57) _ _ _ _ _ _ _ _ _ _ _ _ _ _ _ _ _ _ ?kB ?kF ?kX ?kN ?kT ?kK ?kpw57 ?kd ?ku ?_; k_extra "sid"; (case kpw57 => refine' ⟨?kpaw57, ?kpbw57⟩; (case kpaw57 => k_extra "my num"); (case kpbw57 => k_extra "my num")); (case hbbw57 => first | decide | omega); k_whole; intro D9 ok9 h9 tk9 F9 N9; (try k_sweep))))
  k_with "call ref" => ((k_here; (with_reducible show wpAny _ _ (call (Value.ref 77) _) _ _ _); k_dflt (refine' (c_minus ?hbbw58) _ _ _ _ _ _ _ _ _ _ _ _ _ _ _ _ _ _ ?kB ?kF ?kX ?kN ?kT ?kK ?kpw58 ?kd ?ku ?_; k_extra "sid"; (case kpw58 => refine' ⟨?kpaw58, ?kpbw58⟩; (case kpaw58 => k_extra "my num"); (case kpbw58 => k_extra "my num")); (case hbbw58 => first | decide | omega); k_whole; intro D9 ok9 h9 tk9 F9 N9; (try k_sweep))))
  k_with "call ref" => ((k_here; (with_reducible show wpAny _ _ (call (Value.ref 84) _) _ _ _); k_dflt (refine' (c_times ?hbbw59 ?hokw59) _ _ _ _ _ _ _ _ _ _ _ _ _ _ _ _ _ _ ?kB ?kF ?kX ?kN ?kT ?kK ?kpw59 ?kd ?ku ?_; k_extra "sid"; (case hokw59 => with_reducible assumption); (case kpw59 => refine' ⟨?kpaw59, ?kpbw59⟩; (case kpaw59 => k_extra "my sub"); (case kpbw59 => k_extra "my num")); (case hbbw59 => first | decide | omega); k_whole; intro D9 ok9 h9 tk9 F9 N9; (try k_sweep))))
  k_with "call ref" => ((k_here; (with_reducible show wpAny _ _ (call (Value.ref 91) _) _ _ _); k_dflt (refine' (c_negated ?hokw60) _ _ _ _ _ _ _ _ _ _ _ _ _ _ _ _ _ _ ?kB ?kF ?kX ?kN ?kT ?kK ?kpw60 ?kd ?ku ?_; k_extra "sid"; (case hokw60 => with_reducible assumption); (case kpw60 => k_extra "my sub"); k_whole; intro D9 ok9 h9 tk9 F9 N9; (try k_sweep))))
  k_with "call ref" => ((k_here; (with_reducible show wpAny _ _ (call (Value.ref 126) _) _ _ _); k_dflt (refine' (c_told ?hokw61) _ _ _ _ _ _ _ _ _ _ _ _ _ _ _ _ _ _ ?kB ?kF ?kX ?kN ?kT ?kK ?kpw61 ?kd ?ku ?_; k_extra "sid"; (case hokw61 => with_reducible assumption); (case kpw61 => k_extra "my sub"); k_whole; intro e9 v9 y9 f9 h9 tk9 F9 N9; (try k_sweep))))
  k_with "call ref" => ((k_here; (with_reducible show wpAny _ _ (call (Value.ref 246) _) _ _ _); k_dflt (refine' (c_Matrix6) _ _ _ _ _ _ _ _ _ _ _ _ _ _ _ _ _ _ ?kB ?kF ?kX ?kN ?kT ?kK ?kpw62 ?kd ?ku ?_; k_extra "sid"; (case kpw62 => refine' ⟨⟨?kpaw62, ?kpbw62, ?kpcw62⟩, ?kpdw62, ?kpew62, ?kpfw62⟩; (case kpaw62 => k_extra "my num"); (case kpbw62 => k_extra "my num"); (case kpcw62 => k_extra "my num"); (case kpdw62 => k_extra "my num"); (case kpew62 => k_extra "my num"); (case kpfw62 => k_extra "my num")); k_whole; intro M9 ok9 h9 tk9 F9 N9; (try k_sweep))))
  k_with "my mok" => ((refine' MatOK.to ?kmaw63 ?kmbw63 ?kmcw63; (case kmaw63 => with_reducible assumption); (case kmbw63 => rfl); (case kmcw63 => first | (with_reducible refine' le6s ?m1w63; (case m1w63 => k_extra "my le")) | (with_reducible refine' le6 ?m1w63 ?m2w63 ?m3w63 ?m4w63 ?m5w63 ?m6w63; (case m1w63 => k_extra "my le"); (case m2w63 => k_extra "my le"); (case m3w63 => k_extra "my le"); (case m4w63 => k_extra "my le"); (case m5w63 => k_extra "my le"); (case m6w63 => k_extra "my le")) | omega)))
  k_with "my says" => (first | with_reducible assumption | (with_reducible refine' Says.here ?kmhw64; (case kmhw64 => with_reducible assumption)) | (with_reducible refine' Says.app ?kmhw64; (case kmhw64 => k_extra "my says")) | (with_reducible refine' Says.cons ?kmhw64; (case kmhw64 => k_extra "my says")))
  k_with "my saysall" => (first | exact SaysAll.nil | (refine' SaysAll.cons ?kmaw65 ?kmbw65; (case kmaw65 => k_extra "my says"); (case kmbw65 => k_extra "my saysall")))
  k_with "eval Attribute Name" => ((k_here; (first | (with_reducible show wpAny _ _ (eval _ (envOf _ _ _ _ _)) _ _ _) | (with_reducible show wpAny _ _ (eval _ (envX _ _ _ _ _ _)) _ _ _)); first | ((with_reducible show wpAny _ _ (eval (Expr.Attribute (Expr.Name _ _) (Str.ofString "a") _) _) _ _ _); k_dflt (refine' mat_at_a ?Fw66 ?Xw66 ?vw66 ?aw66 ?Nw66 ?Sw66 ?_; (case aw66 => (refine' NmOk.mk ?na1w66 ?na2w66 ?na3w66; (case na1w66 => rfl); (case na2w66 => rfl); (case na3w66 => decide))); (case Fw66 => with_reducible assumption); (case vw66 => apply @rfl _ (some (Value.ref (MatL.x _)))); (case Xw66 => with_reducible assumption); (case Nw66 => with_reducible assumption); (case Sw66 => k_extra "my sub"); k_whole)) | ((with_reducible show wpAny _ _ (eval (Expr.Attribute (Expr.Name _ _) (Str.ofString "b") _) _) _ _ _); k_dflt (refine' mat_at_b ?Fw66 ?Xw66 ?vw66 ?aw66 ?Nw66 ?Sw66 ?_; (case aw66 => (refine' NmOk.mk ?na1w66 ?na2w66 ?na3w66; (case na1w66 => rfl); (case na2w66 => rfl); (case na3w66 => decide))); (case Fw66 => with_reducible assumption); (case vw66 => apply @rfl _ (some (Value.ref (MatL.x _)))); (case Xw66 => with_reducible assumption); (case Nw66 => with_reducible assumption); (case Sw66 => k_extra "my sub"); k_whole)) | ((with_reducible show wpAny _ _ (eval (Expr.Attribute (Expr.Name _ _) (Str.ofString "c") _) _) _ _ _); k_dflt (refine' mat_at_c ?Fw66 ?Xw66 ?vw66 ?aw66 ?Nw66 ?Sw66 ?_; (case aw66 => (refine' NmOk.mk ?na1w66 ?na2w66 ?na3w66; (case na1w66 => rfl); (case na2w66 => rfl); (case na3w66 => decide))); (case Fw66 => with_reducible assumption); (case vw66 => apply @rfl _ (some (Value.ref (MatL.x _)))); (case Xw66 => with_reducible assumption); (case Nw66 => with_reducible assumption); (case Sw66 => k_extra "my sub"); k_whole)) | ((with_reducible show wpAny _ _ (eval (Expr.Attribute (Expr.Name _ _) (Str.ofString "d") _) _) _ _ _); k_dflt (refine' mat_at_d ?Fw66 ?Xw66 ?vw66 ?aw66 ?Nw66 ?Sw66 ?_; (case aw66 => (refine' NmOk.mk ?na1w66 ?na2w66 ?na3w66; (case na1w66 => rfl); (case na2w66 => rfl); (case na3w66 => decide))); (case Fw66 => with_reducible assumption); (case vw66 => apply @rfl _ (some (Value.ref (MatL.x _)))); (case Xw66 => with_reducible assumption); (case Nw66 => with_reducible assumption); (case Sw66 => k_extra "my sub"); k_whole)) | ((with_reducible show wpAny _ _ (eval (Expr.Attribute (Expr.Name _ _) (Str.ofString "e") _) _) _ _ _); k_dflt (refine' mat_at_e ?Fw66 ?Xw66 ?vw66 ?aw66 ?Nw66 ?Sw66 ?_; (case aw66 => (refine' NmOk.mk ?na1w66 ?na2w66 ?na3w66; (case na1w66 => rfl); (case na2w66 => rfl); (case na3w66 => decide))); (case Fw66 => with_reducible assumption); (case vw66 => apply @rfl _ (some (Value.ref (MatL.x _)))); (case Xw66 => with_reducible assumption); (case Nw66 => with_reducible assumption); (case Sw66 => k_extra "my sub"); k_whole)) | ((with_reducible show wpAny _ _ (eval (Expr.Attribute (Expr.Name _ _) (Str.ofString "f") _) _) _ _ _); k_dflt (refine' mat_at_f ?Fw66 ?Xw66 ?vw66 ?aw66 ?Nw66 ?Sw66 ?_; (case aw66 => (refine' NmOk.mk ?na1w66 ?na2w66 ?na3w66; (case na1w66 => rfl); (case na2w66 => rfl); (case na3w66 => decide))); (case Fw66 => with_reducible assumption); (case vw66 => apply @rfl _ (some (Value.ref (MatL.x _)))); (case Xw66 => with_reducible assumption); (case Nw66 => with_reducible assumption); (case Sw66 => k_extra "my sub"); k_whole))))
  k_with "eval Call Attribute" => ((k_here; (first | (with_reducible show wpAny _ _ (eval _ (envOf _ _ _ _ _)) _ _ _) | (with_reducible show wpAny _ _ (eval _ (envX _ _ _ _ _ _)) _ _ _)); first | ((with_reducible show wpAny _ _ (eval (Expr.Call (Expr.Attribute (Expr.Name _ _) _ _) (_ :: _) [] _) _) _ _ _); k_dflt (refine' mat_meth ?Fw67 ?Xw67 ?vw67 ?aw67 ?Nw67 ?Sw67 ?fw67 ?hmw67 ?hlw67 ?hsw67 ?hpw67 ?_; (case aw67 => (refine' NmOk.mk ?na1w67 ?na2w67 ?na3w67; (case na1w67 => rfl); (case na2w67 => rfl); (case na3w67 => decide))); (case Fw67 => with_reducible assumption); (case vw67 => apply @rfl _ (some (Value.ref (MatL.x _)))); (case Xw67 => with_reducible assumption); (case Nw67 => with_reducible assumption); (case Sw67 => k_extra "my sub"); (case fw67 => k_is); (case hmw67 => kernel_rfl); (case hlw67 => exact @rfl _ true); (case hsw67 => exact @rfl _ true); (case hpw67 => exact @rfl _ true); k_whole)) | ((with_reducible show wpAny _ _ (eval (Expr.Call (Expr.Attribute (Expr.Name _ _) _ _) [] [] _) _) _ _ _); k_dflt (refine' mat_meth0 ?Fw67 ?Xw67 ?vw67 ?aw67 ?Nw67 ?Sw67 ?fw67 ?hmw67 ?hlw67 ?hpw67 ?_; (case aw67 => (refine' NmOk.mk ?na1w67 ?na2w67 ?na3w67; (case na1w67 => rfl); (case na2w67 => rfl); (case na3w67 => decide))); (case Fw67 => with_reducible assumption); (case vw67 => apply @rfl _ (some (Value.ref (MatL.x _)))); (case Xw67 => with_reducible assumption); (case Nw67 => with_reducible assumption); (case Sw67 => k_extra "my sub"); (case fw67 => k_is); (case hmw67 => kernel_rfl); (case hlw67 => exact @rfl _ true); (case hpw67 => exact @rfl _ true); k_whole))))
  trivial
set_option maxHeartbeats 4000000 in
theorem c_applied {M : MatL} {v1 v2 : Value} {q : Six} {x y : Rat} {bm bx bz : Nat} (hb : 3 * bm + bx + bz ≤ 1900) (ok : MatOK M q bm) : Ct w mean mg mb 5 (.ref 224) [.ref M.x, v1, v2] (fun news => Sub (matL w M) news ∧ Num w news v1 x bx ∧ Num w news v2 y bz)
    (fun Q news => ∀ T D1 D2, DecOK D1 (q.a * x + q.c * y + q.e) (bm + bx + (bm + bz) + 1 + bm + 1) → DecOK D2 (q.b * x + q.d * y + q.f) (bm + bx + (bm + bz) + 1 + bm + 1) → Q (.ref T) ((T, tupOf [.ref D1.x, .ref D2.x]) :: (decL w D1 ++ (decL w D2 ++ news)))) := by
  unfold Ct; k_fill; intro dp un gd cn cs a ccd cl outer A₀ base h₀ L m news s Q E B F X N T hk hpre hd hu hret
  obtain ⟨hm, n1, n2⟩ := hpre
  have hma := mat_a hm; have hmb := mat_b hm; have hmc := mat_c hm; have hmd := mat_d' hm; have hme := mat_e hm; have hmf := mat_f hm; obtain ⟨oka, okb, okc, okd, oke, okf⟩ := ok
  refine wpAny_call ?_
  k_dflt (refine' code_defN [Str.ofString "self", Str.ofString "x", Str.ofString "y"] ?k1 ?k2 ?k3 ?k4 ?k5 ?kA ?kF ?kK ?k6 ?k7 ?k8 ?k9 ?kB ?_ ?c2 ?c3 ?c4 ?c5; (case kA => exact rfl); (case kF => exact rfl); (case kK => assumption); (case k1 => k_asm); (case k2 => k_asm); (case k3 => k_asm); (case k4 => k_asm); (case k5 => k_asm); (case k6 => k_is); (case k7 => k_is); (case k8 => ktr_room); (case k9 => exact BindsTo.of_eq rfl); (case c5 => decide); (case kB => exact locs rfl); (case c2 => exact rfl); (case c3 => exact rfl); (case c4 => exact rfl); k_whole; intro g' L' h' FG' F' N' B' X' T'; (try dsimp only); (try k_fold); (refine wp_letA ?_); intro A2)
  k_steps
  all_goals ((with_reducible rename Fr h₀ L _ m => kF); (with_reducible rename News h₀ L _ _ => kN); (try dsimp only at kF kN); exact hret _ _ _ (by with_reducible assumption) (by with_reducible assumption) _ _ kF (News.sub kN (by k_extra "my keep")))

theorem KB8setup2 : True := by
  k_with "call ref" => ((k_here; (with_reducible show wpAny _ _ (call (Value.ref 224) _) _ _ _); k_dflt (refine' (c_applied ?hbbw68 ?hokw68) _ _ _ _ _ _ _ _ _ _ _ _ _ _ _ _ _ _ ?kB ?kF ?kX ?kN ?kT ?kK ?kpw68 ?kd ?ku ?_; k_extra "sid"; (case hokw68 => with_reducible assumption); (case kpw68 => refine' ⟨?kpaw68, ?kpbw68, ?kpcw68⟩; (case kpaw68 => k_extra "my sub"); (case kpbw68 => k_extra "my num"); (case kpcw68 => k_extra "my num")); (case hbbw68 => first | decide | omega); k_whole; intro T9 D9 D8 ok9 ok8 h9 tk9 F9 N9; (try k_sweep))))
  trivial
noncomputable def Six.mul (p q : Six) : Six := ⟨p.a * q.a + p.b * q.c, p.a * q.b + p.b * q.d, p.c * q.a + p.d * q.c, p.c * q.b + p.d * q.d, q.a * p.e + q.c * p.f + q.e, q.b * p.e + q.d * p.f + q.f⟩
set_option maxHeartbeats 4000000 in
theorem c_mtimes {M M' : MatL} {q q' : Six} {b1 b2 : Nat} (hb : 2 * b1 + 3 * b2 ≤ 1800) (ok : MatOK M q b1) (ok2 : MatOK M' q' b2) : Ct w mean mg mb 6 (.ref 217) [.ref M.x, .ref M'.x] (fun news => Sub (matL w M) news ∧ Sub (matL w M') news)
    (fun Q news => ∀ M, MatOK M (q.mul q') (2 * b1 + 3 * b2 + 2) → Q (.ref M.x) (matL w M ++ news)) := by
  unfold Ct; k_fill; intro dp un gd cn cs a ccd cl outer A₀ base h₀ L m news s Q E B F X N T hk hpre hd hu hret
  obtain ⟨hm, hn⟩ := hpre
  have okk := ok2
  have hma := mat_a hm; have hmb := mat_b hm; have hmc := mat_c hm; have hmd := mat_d' hm; have hme := mat_e hm; have hmf := mat_f hm; obtain ⟨oka, okb, okc, okd, oke, okf⟩ := ok
  have hna := mat_a hn; have hnb := mat_b hn; have hnc := mat_c hn; have hnd := mat_d' hn; have hne := mat_e hn; have hnf := mat_f hn; obtain ⟨ok2a, ok2b, ok2c, ok2d, ok2e, ok2f⟩ := ok2
  refine wpAny_call ?_
  k_dflt (refine' code_defN [Str.ofString "self", Str.ofString "other"] ?k1 ?k2 ?k3 ?k4 ?k5 ?kA ?kF ?kK ?k6 ?k7 ?k8 ?k9 ?kB ?_ ?c2 ?c3 ?c4 ?c5; (case kA => exact rfl); (case kF => exact rfl); (case kK => assumption); (case k1 => k_asm); (case k2 => k_asm); (case k3 => k_asm); (case k4 => k_asm); (case k5 => k_asm); (case k6 => k_is); (case k7 => k_is); (case k8 => ktr_room); (case k9 => exact BindsTo.of_eq rfl); (case c5 => decide); (case kB => exact locs rfl); (case c2 => exact rfl); (case c3 => exact rfl); (case c4 => exact rfl); k_whole; intro g' L' h' FG' F' N' B' X' T'; (try dsimp only); (try k_fold); (refine wp_letA ?_); intro A2)
  k_steps
  all_goals ((with_reducible rename Fr h₀ L _ m => kF); (with_reducible rename News h₀ L _ _ => kN); (try dsimp only at kF kN); exact hret _ (by k_extra "my mok") _ _ kF (News.sub kN (by k_extra "my keep")))

set_option maxHeartbeats 4000000 in
theorem c_shifted {M : MatL} {v1 v2 : Value} {q : Six} {x y : Rat} {bm bx bz : Nat} (hb : 2 * bm + bx + bz ≤ 1900) (ok : MatOK M q bm) : Ct w mean mg mb 5 (.ref 231) [.ref M.x, v1, v2] (fun news => Sub (matL w M) news ∧ Num w news v1 x bx ∧ Num w news v2 y bz)
    (fun Q news => ∀ T D1 D2, DecOK D1 (q.a * x + q.c * y) (bm + bx + (bm + bz) + 1) → DecOK D2 (q.b * x + q.d * y) (bm + bx + (bm + bz) + 1) → Q (.ref T) ((T, tupOf [.ref D1.x, .ref D2.x]) :: (decL w D1 ++ (decL w D2 ++ news)))) := by
  unfold Ct; k_fill; intro dp un gd cn cs a ccd cl outer A₀ base h₀ L m news s Q E B F X N T hk hpre hd hu hret
  obtain ⟨hm, n1, n2⟩ := hpre
  have hma := mat_a hm; have hmb := mat_b hm; have hmc := mat_c hm; have hmd := mat_d' hm; have hme := mat_e hm; have hmf := mat_f hm; obtain ⟨oka, okb, okc, okd, oke, okf⟩ := ok
  refine wpAny_call ?_
  k_dflt (refine' code_defN [Str.ofString "self", Str.ofString "x", Str.ofString "y"] ?k1 ?k2 ?k3 ?k4 ?k5 ?kA ?kF ?kK ?k6 ?k7 ?k8 ?k9 ?kB ?_ ?c2 ?c3 ?c4 ?c5; (case kA => exact rfl); (case kF => exact rfl); (case kK => assumption); (case k1 => k_asm); (case k2 => k_asm); (case k3 => k_asm); (case k4 => k_asm); (case k5 => k_asm); (case k6 => k_is); (case k7 => k_is); (case k8 => ktr_room); (case k9 => exact BindsTo.of_eq rfl); (case c5 => decide); (case kB => exact locs rfl); (case c2 => exact rfl); (case c3 => exact rfl); (case c4 => exact rfl); k_whole; intro g' L' h' FG' F' N' B' X' T'; (try dsimp only); (try k_fold); (refine wp_letA ?_); intro A2)
  k_steps
  all_goals ((with_reducible rename Fr h₀ L _ m => kF); (with_reducible rename News h₀ L _ _ => kN); (try dsimp only at kF kN); exact hret _ _ _ (by with_reducible assumption) (by with_reducible assumption) _ _ kF (News.sub kN (by k_extra "my keep")))

set_option maxHeartbeats 4000000 in
theorem c_determinant {M : MatL} {q : Six} {b : Nat} (hb : b ≤ 400) (ok : MatOK M q b) : Ct w mean mg mb 5 (.ref 299) [.ref M.x] (fun news => Sub (matL w M) news)
    (fun Q news => ∀ D, DecOK D (q.a * q.d - q.b * q.c) (b + b + (b + b) + 1) → Q (.ref D.x) (decL w D ++ news)) := by
  unfold Ct; k_fill; intro dp un gd cn cs a ccd cl outer A₀ base h₀ L m news s Q E B F X N T hk hpre hd hu hret
  have hm := hpre
  have hma := mat_a hm; have hmb := mat_b hm; have hmc := mat_c hm; have hmd := mat_d' hm; have hme := mat_e hm; have hmf := mat_f hm; obtain ⟨oka, okb, okc, okd, oke, okf⟩ := ok
  refine wpAny_call ?_
  k_dflt (refine' code_defN [Str.ofString "m"] ?k1 ?k2 ?k3 ?k4 ?k5 ?kA ?kF ?kK ?k6 ?k7 ?k8 ?k9 ?kB ?_ ?c2 ?c3 ?c4 ?c5; (case kA => exact rfl); (case kF => exact rfl); (case kK => assumption); (case k1 => k_asm); (case k2 => k_asm); (case k3 => k_asm); (case k4 => k_asm); (case k5 => k_asm); (case k6 => k_is); (case k7 => k_is); (case k8 => ktr_room); (case k9 => exact BindsTo.of_eq rfl); (case c5 => decide); (case kB => exact locs rfl); (case c2 => exact rfl); (case c3 => exact rfl); (case c4 => exact rfl); k_whole; intro g' L' h' FG' F' N' B' X' T'; (try dsimp only); (try k_fold); (refine wp_letA ?_); intro A2)
  k_steps
  all_goals ((with_reducible rename Fr h₀ L _ m => kF); (with_reducible rename News h₀ L _ _ => kN); (try dsimp only at kF kN); exact hret _ (by with_reducible assumption) _ _ kF (News.sub kN (by k_extra "my keep")))

theorem KB8setup3 : True := by
  k_with "call ref" => ((k_here; (with_reducible show wpAny _ _ (call (Value.ref 299) _) _ _ _); k_dflt (refine' (c_determinant ?hbbw69 ?hokw69) _ _ _ _ _ _ _ _ _ _ _ _ _ _ _ _ _ _ ?kB ?kF ?kX ?kN ?kT ?kK ?kpw69 ?kd ?ku ?_; k_extra "sid"; (case hokw69 => with_reducible assumption); (case kpw69 => k_extra "my sub"); (case hbbw69 => first | decide | omega); k_whole; intro D9 ok9 h9 tk9 F9 N9; (try k_sweep))))
  trivial
theorem DecOK.top_zero {D : DecL} {q : Rat} {b : Nat} (h : DecOK D q b) : D.t = 0 ↔ q = 0 := by
  have h1 := h.nrm.val
  constructor
  · intro h2
    rw [h2] at h1
    rcases Rat.mul_eq_zero.mp h1.symm with h | h
    · exact h
    · exact absurd h (ten_ne _)
  · intro h2
    rw [h2, Rat.zero_mul] at h1
    exact Rat.intCast_inj.mp (h1.trans rfl)
noncomputable def isInv (q : Six) : Bool := decide (q.a * q.d - q.b * q.c ≠ 0)
noncomputable def isStr (q : Six) : Bool := decide ((q.b = 0 ∧ q.c = 0) ∨ (q.a = 0 ∧ q.d = 0))
theorem isInv_of {q : Six} {D : DecL} {b : Nat} (h : DecOK D (q.a * q.d - q.b * q.c) b) : isInv q = (D.t != 0) := by
  unfold isInv
  rw [Bool.eq_iff_iff, decide_eq_true_iff, bne_iff_ne, ne_eq, ne_eq, h.top_zero]
theorem isStr_of {q : Six} {M : MatL} {b : Nat} (oa : DecOK M.a q.a b) (ob : DecOK M.b q.b b) (oc : DecOK M.c q.c b) (od : DecOK M.d q.d b) : isStr q = decide ((M.b.t = 0 ∧ M.c.t = 0) ∨ (M.a.t = 0 ∧ M.d.t = 0)) := by
  unfold isStr
  rw [Bool.eq_iff_iff, decide_eq_true_iff, decide_eq_true_iff, oa.top_zero, ob.top_zero, oc.top_zero, od.top_zero]

set_option maxHeartbeats 4000000 in
theorem c_is_invertible {M : MatL} {q : Six} {b : Nat} (hb : b ≤ 400) (ok : MatOK M q b) : Ct w mean mg mb 6 (.ref 306) [.ref M.x] (fun news => Sub (matL w M) news)
    (fun Q news => Q (.bool (isInv q)) news) := by
  unfold Ct; k_fill; intro dp un gd cn cs a ccd cl outer A₀ base h₀ L m news s Q E B F X N T hk hpre hd hu hret
  refine wpAny_call ?_
  k_dflt (refine' code_defN [Str.ofString "m"] ?k1 ?k2 ?k3 ?k4 ?k5 ?kA ?kF ?kK ?k6 ?k7 ?k8 ?k9 ?kB ?_ ?c2 ?c3 ?c4 ?c5; (case kA => exact rfl); (case kF => exact rfl); (case kK => assumption); (case k1 => k_asm); (case k2 => k_asm); (case k3 => k_asm); (case k4 => k_asm); (case k5 => k_asm); (case k6 => k_is); (case k7 => k_is); (case k8 => ktr_room); (case k9 => exact BindsTo.of_eq rfl); (case c5 => decide); (case kB => exact locs rfl); (case c2 => exact rfl); (case c3 => exact rfl); (case c4 => exact rfl); k_whole; intro g' L' h' FG' F' N' B' X' T'; (try dsimp only); (try k_fold); (refine wp_letA ?_); intro A2)
  k_steps
  rename DecOK _ (q.a * q.d - q.b * q.c) _ => o9
  rw [isInv_of o9] at hret
  all_goals ((with_reducible rename Fr h₀ L _ m => kF); (with_reducible rename News h₀ L _ _ => kN); (try dsimp only at kF kN); exact hret _ _ kF (News.sub kN (by k_extra "my keep")))
set_option maxHeartbeats 4000000 in
theorem c_is_straight {M : MatL} {q : Six} {b : Nat} (ok : MatOK M q b) : Ct w mean mg mb 2 (.ref 313) [.ref M.x] (fun news => Sub (matL w M) news)
    (fun Q news => Q (.bool (isStr q)) news) := by
  unfold Ct; k_fill; intro dp un gd cn cs a ccd cl outer A₀ base h₀ L m news s Q E B F X N T hk hpre hd hu hret
  have hm := hpre
  have hma := mat_a hm; have hmb := mat_b hm; have hmc := mat_c hm; have hmd := mat_d' hm; have hme := mat_e hm; have hmf := mat_f hm; obtain ⟨oka, okb, okc, okd, oke, okf⟩ := ok
  rw [isStr_of oka okb okc okd] at hret
  refine wpAny_call ?_
  k_dflt (refine' code_defN [Str.ofString "m"] ?k1 ?k2 ?k3 ?k4 ?k5 ?kA ?kF ?kK ?k6 ?k7 ?k8 ?k9 ?kB ?_ ?c2 ?c3 ?c4 ?c5; (case kA => exact rfl); (case kF => exact rfl); (case kK => assumption); (case k1 => k_asm); (case k2 => k_asm); (case k3 => k_asm); (case k4 => k_asm); (case k5 => k_asm); (case k6 => k_is); (case k7 => k_is); (case k8 => ktr_room); (case k9 => exact BindsTo.of_eq rfl); (case c5 => decide); (case kB => exact locs rfl); (case c2 => exact rfl); (case c3 => exact rfl); (case c4 => exact rfl); k_whole; intro g' L' h' FG' F' N' B' X' T'; (try dsimp only); (try k_fold); (refine wp_letA ?_); intro A2)
  k_steps
  all_goals (
    (with_reducible rename Fr h₀ L _ m => kF)
    (with_reducible rename News h₀ L _ _ => kN)
    refine' Eq.mp (congrArg (fun b => Q (Value.bool b) _) ?e) (hret _ _ kF (News.sub kN ?k)); (case e => first | (simp [*]; done) | (simp [*]; rfl) | (simp_all; done)); (case k => k_extra "my keep"))
end

end
section
open PySem PySem.W PyProof.Rows PySem.Calls PySem.Spec

section
variable {w : World} {mean : ExcName → Option Value} {mg mb : Str → Option Value}




theorem KB9setup1 : True := by
  k_with "call ref" => ((k_here; (with_reducible show wpAny _ _ (call (Value.ref 231) _) _ _ _); k_dflt (refine' (c_shifted ?hbbw70 ?hokw70) _ _ _ _ _ _ _ _ _ _ _ _ _ _ _ _ _ _ ?kB ?kF ?kX ?kN ?kT ?kK ?kpw70 ?kd ?ku ?_; k_extra "sid"; (case hokw70 => with_reducible assumption); (case kpw70 => refine' ⟨?kpaw70, ?kpbw70, ?kpcw70⟩; (case kpaw70 => k_extra "my sub"); (case kpbw70 => k_extra "my num"); (case kpcw70 => k_extra "my num")); (case hbbw70 => first | decide | omega); k_whole; intro T9 D9 D8 ok9 ok8 h9 tk9 F9 N9; (try k_sweep))))
  k_with "call ref" => ((k_here; (with_reducible show wpAny _ _ (call (Value.ref 217) _) _ _ _); k_dflt (refine' (c_mtimes ?hbbw71 ?hokw71 ?hok2w71) _ _ _ _ _ _ _ _ _ _ _ _ _ _ _ _ _ _ ?kB ?kF ?kX ?kN ?kT ?kK ?kpw71 ?kd ?ku ?_; k_extra "sid"; (case hokw71 => with_reducible assumption); (case hok2w71 => with_reducible assumption); (case kpw71 => refine' ⟨?kpaw71, ?kpbw71⟩; (case kpaw71 => k_extra "my sub"); (case kpbw71 => k_extra "my sub")); (case hbbw71 => first | decide | omega); k_whole; intro M9 ok9 h9 tk9 F9 N9; (try k_sweep))))
  k_with "call ref" => ((k_here; (with_reducible show wpAny _ _ (call (Value.ref 306) _) _ _ _); k_dflt (refine' (c_is_invertible ?hbbw72 ?hokw72) _ _ _ _ _ _ _ _ _ _ _ _ _ _ _ _ _ _ ?kB ?kF ?kX ?kN ?kT ?kK ?kpw72 ?kd ?ku ?_; k_extra "sid"; (case hokw72 => with_reducible assumption); (case kpw72 => k_extra "my sub"); (case hbbw72 => first | decide | omega); k_whole; intro  h9 tk9 F9 N9; (try k_sweep))))
  k_with "call ref" => ((k_here; (with_reducible show wpAny _ _ (call (Value.ref 313) _) _ _ _); k_dflt (refine' (c_is_straight ?hokw73) _ _ _ _ _ _ _ _ _ _ _ _ _ _ _ _ _ _ ?kB ?kF ?kX ?kN ?kT ?kK ?kpw73 ?kd ?ku ?_; k_extra "sid"; (case hokw73 => with_reducible assumption); (case kpw73 => k_extra "my sub"); k_whole; intro  h9 tk9 F9 N9; (try k_sweep))))
  trivial
set_option maxHeartbeats 4000000 in
theorem c_parts {M : MatL} : Ct w mean mg mb 2 (.ref 238) [.ref M.x] (fun news => Sub (matL w M) news)
    (fun Q news => ∀ l n, Q (.ref l) ((l, listOf #[.ref M.a.x, .ref M.b.x, .ref M.c.x, .ref M.d.x, .ref M.e.x, .ref M.f.x] n) :: news)) := by
  unfold Ct; k_fill; intro dp un gd cn cs a ccd cl outer A₀ base h₀ L m news s Q E B F X N T hk hpre hd hu hret
  have hm := hpre
  refine wpAny_call ?_
  k_dflt (refine' code_defN [Str.ofString "self"] ?k1 ?k2 ?k3 ?k4 ?k5 ?kA ?kF ?kK ?k6 ?k7 ?k8 ?k9 ?kB ?_ ?c2 ?c3 ?c4 ?c5; (case kA => exact rfl); (case kF => exact rfl); (case kK => assumption); (case k1 => k_asm); (case k2 => k_asm); (case k3 => k_asm); (case k4 => k_asm); (case k5 => k_asm); (case k6 => k_is); (case k7 => k_is); (case k8 => ktr_room); (case k9 => exact BindsTo.of_eq rfl); (case c5 => decide); (case kB => exact locs rfl); (case c2 => exact rfl); (case c3 => exact rfl); (case c4 => exact rfl); k_whole; intro g' L' h' FG' F' N' B' X' T'; (try dsimp only); (try k_fold); (refine wp_letA ?_); intro A2)
  k_steps
  all_goals ((with_reducible rename Fr h₀ L _ m => kF); (with_reducible rename News h₀ L _ _ => kN); (try dsimp only at kF kN); exact hret _ _ _ _ kF (News.sub kN (by k_extra "my keep")))

theorem KB9setup2 : True := by
  k_with "call ref" => ((k_here; (with_reducible show wpAny _ _ (call (Value.ref 238) _) _ _ _); k_dflt (refine' (c_parts) _ _ _ _ _ _ _ _ _ _ _ _ _ _ _ _ _ _ ?kB ?kF ?kX ?kN ?kT ?kK ?kpw74 ?kd ?ku ?_; k_extra "sid"; (case kpw74 => k_extra "my sub"); k_whole; intro l9 n9 h9 tk9 F9 N9; (try k_sweep))))
  trivial
section
variable {h₀ h' : Heap} {L I C D : Addr} {m : Str → Option Value} {s₁ : Shared} {oI oC oD : Obj} {S : Led → Prop} {rest : Value → Led → Prop} {y : Value} {tk : Nat} {ext news : Led}
theorem off3_app : ∀ {ext : Led}, (∀ p ∈ ext, p.1 ≠ I ∧ p.1 ≠ C ∧ p.1 ≠ D) → LCg.Off3 I C D news → LCg.Off3 I C D (ext ++ news)
  | [], _, k => k
  | _ :: _, h, k => ⟨h _ (.head _), off3_app (fun p hp => h p (.tail _ hp)) k⟩
theorem compEnd_ext (F : Fr h₀ L h' m) (N : News h₀ L h' (ext ++ (I, oI) :: (C, oC) :: (D, oD) :: news)) (f : Fresh ((I, oI) :: (C, oC) :: (D, oD) :: news) ext) (off : LCg.Off3 I C D news) (hS : S (ext ++ news)) (r : rest y (ext ++ news)) :
    LCg.CompEnd h₀ L m s₁ I oI C oC D oD S rest y { s₁ with heap := h', toks := tk } := by
  refine LCg.CompEnd.intro F N (ext ++ news) (fun p hp => ?_) (off3_app (fun p hp => ⟨Nat.ne_of_gt (f.lt p hp _ (.head _)), Nat.ne_of_gt (f.lt p hp _ (.tail _ (.head _))), Nat.ne_of_gt (f.lt p hp _ (.tail _ (.tail _ (.head _))))⟩) off) hS r
  simp only [List.mem_cons, List.mem_append] at hp ⊢
  rcases hp with h | h | h | h | h
  · exact .inr (.inl h)
  · exact .inr (.inr (.inl h))
  · exact .inr (.inr (.inr (.inl h)))
  · exact .inl h
  · exact .inr (.inr (.inr (.inr h)))
theorem compEnd_0 (F : Fr h₀ L h' m) (N : News h₀ L h' ((I, oI) :: (C, oC) :: (D, oD) :: news)) (off : LCg.Off3 I C D news) (hS : S news) (r : rest y news) :
    LCg.CompEnd h₀ L m s₁ I oI C oC D oD S rest y { s₁ with heap := h', toks := tk } := LCg.CompEnd.intro F N news (fun _ hp => hp) off hS r
end

theorem KB9setup3 : True := by
  k_with "CompEnd" => ((k_dflt (refine' compEnd_0 ?Fw75 ?Nw75 ?offw75 ?srcw75 ?_; (case Fw75 => k_asm); (case Nw75 => k_asm); (case offw75 => assumption); (case srcw75 => lcg_src))))
  k_with "CompEnd" => ((k_dflt (refine' compEnd_ext ?Fw76 ?Nw76 ?fw76 ?offw76 ?srcw76 ?_; (case Fw76 => k_asm); (case Nw76 => k_asm); (case fw76 => with_reducible assumption); (case offw76 => assumption); (case srcw76 => lcg_src))))
  trivial
/-- six numbers as they are told -/
noncomputable abbrev dsix (q : Six) : PyData := .tuple [dq q.a, dq q.b, dq q.c, dq q.d, dq q.e, dq q.f]
set_option maxHeartbeats 4000000 in
theorem c_mtold {M : MatL} {q : Six} {b : Nat} (ok : MatOK M q b) : Ct w mean mg mb 3 (.ref 243) [.ref M.x] (fun news => Sub (matL w M) news)
    (fun Q news => ∀ ext v, Says ext v (dsix q) → Q v (ext ++ news)) := by
  unfold Ct; k_fill; intro dp un gd cn cs a ccd cl outer A₀ base h₀ L m news s Q E B F X N T hk hpre hd hu hret
  have hm := hpre
  have hma := mat_a hm; have hmb := mat_b hm; have hmc := mat_c hm; have hmd := mat_d' hm; have hme := mat_e hm; have hmf := mat_f hm; obtain ⟨oka, okb, okc, okd, oke, okf⟩ := ok
  refine wpAny_call ?_
  k_dflt (refine' code_defN [Str.ofString "self"] ?k1 ?k2 ?k3 ?k4 ?k5 ?kA ?kF ?kK ?k6 ?k7 ?k8 ?k9 ?kB ?_ ?c2 ?c3 ?c4 ?c5; (case kA => exact rfl); (case kF => exact rfl); (case kK => assumption); (case k1 => k_asm); (case k2 => k_asm); (case k3 => k_asm); (case k4 => k_asm); (case k5 => k_asm); (case k6 => k_is); (case k7 => k_is); (case k8 => ktr_room); (case k9 => exact BindsTo.of_eq rfl); (case c5 => decide); (case kB => exact locs rfl); (case c2 => exact rfl); (case c3 => exact rfl); (case c4 => exact rfl); k_whole; intro g' L' h' FG' F' N' B' X' T'; (try dsimp only); (try k_fold); (refine wp_letA ?_); intro A2)
  k_steps
  all_goals ((with_reducible rename Fr h₀ L _ m => kF); (with_reducible rename News h₀ L _ _ => kN); (try dsimp only at kF kN); exact hret _ _ (.tuple (.head _) (by k_extra "my saysall")) _ _ kF (News.sub kN (.join .refl (by k_extra "my keep"))))
end

end
section
open PySem PySem.W PyProof.Rows PySem.Calls PySem.Spec

section
variable {w : World} {mean : ExcName → Option Value} {mg mb : Str → Option Value}



theorem KB10setup1 : True := by
  k_with "my num" => (exact Num.int (b := 1) (Bd.of (by decide)) rfl)
  k_with "call ref" => ((k_here; (with_reducible show wpAny _ _ (call (Value.ref 243) _) _ _ _); k_dflt (refine' (c_mtold ?hokw77) _ _ _ _ _ _ _ _ _ _ _ _ _ _ _ _ _ _ ?kB ?kF ?kX ?kN ?kT ?kK ?kpw77 ?kd ?ku ?_; k_extra "sid"; (case hokw77 => with_reducible assumption); (case kpw77 => k_extra "my sub"); k_whole; intro e9 v9 y9 h9 tk9 F9 N9; (try k_sweep))))
  k_with "call ref" => ((k_here; (with_reducible show wpAny _ _ (call (Value.ref 182) _) _ _ _); k_dflt (refine' (c_over _ _ ?hTSw78 ?hSw78 ?hbbw78 ?h0w78 ?hp0w78 ?hpw78) _ _ _ _ _ _ _ _ _ _ _ _ _ _ _ _ _ _ ?kB ?kF ?kX ?kN ?kT ?kK ?kpw78 ?kd ?ku ?_; k_extra "sid"; (case kpw78 => refine' ⟨?kpaw78, ?kpbw78⟩; (case kpaw78 => k_extra "my num"); (case kpbw78 => k_extra "my num")); (case hTSw78 => with_reducible assumption); (case hSw78 => with_reducible assumption); (case h0w78 => with_reducible assumption); (case hp0w78 => with_reducible assumption); (case hpw78 => with_reducible assumption); (case hbbw78 => first | decide | omega); k_whole; intro D9 ok9 h9 tk9 F9 N9; (try k_sweep))))
  trivial
local macro_rules | `(tactic| walk_at "my fresh") => `(tactic| first | exact Fresh.nil | with_reducible assumption | (with_reducible refine' Fresh.join ?kma ?kmb; (case kma => walk_at "my fresh"); (case kmb => walk_at "my fresh")) | (with_reducible refine' Fresh.less ?kmx ?kmy; (case kmx => with_reducible assumption); (case kmy => k_extra "my sub")))


set_option maxHeartbeats 4000000 in
theorem c_identity : Ct w mean mg mb 5 (.ref 257) [] (fun _ => True)
    (fun Q news => ∀ M, MatOK M ⟨1, 0, 0, 1, 0, 0⟩ 1 → Q (.ref M.x) (matL w M ++ news)) := by
  unfold Ct; k_fill; intro dp un gd cn cs a ccd cl outer A₀ base h₀ L m news s Q E B F X N T hk hpre hd hu hret
  refine wpAny_call ?_
  k_dflt (refine' code_defN [] ?k1 ?k2 ?k3 ?k4 ?k5 ?kA ?kF ?kK ?k6 ?k7 ?k8 ?k9 ?kB ?_ ?c2 ?c3 ?c4 ?c5; (case kA => exact rfl); (case kF => exact rfl); (case kK => assumption); (case k1 => k_asm); (case k2 => k_asm); (case k3 => k_asm); (case k4 => k_asm); (case k5 => k_asm); (case k6 => k_is); (case k7 => k_is); (case k8 => ktr_room); (case k9 => exact BindsTo.of_eq rfl); (case c5 => decide); (case kB => exact locs rfl); (case c2 => exact rfl); (case c3 => exact rfl); (case c4 => exact rfl); k_whole; intro g' L' h' FG' F' N' B' X' T'; (try dsimp only); (try k_fold); (refine wp_letA ?_); intro A2)
  k_steps
  all_goals ((with_reducible rename Fr h₀ L _ m => kF); (with_reducible rename News h₀ L _ _ => kN); (try dsimp only at kF kN); exact hret _ (by k_extra "my mok") _ _ kF (News.sub kN (by k_extra "my keep")))
set_option maxHeartbeats 4000000 in
theorem c_translation {v1 v2 : Value} {x y : Rat} {b1 b2 : Nat} : Ct w mean mg mb 5 (.ref 264) [v1, v2] (fun news => Num w news v1 x b1 ∧ Num w news v2 y b2)
    (fun Q news => ∀ M, MatOK M ⟨1, 0, 0, 1, x, y⟩ (b1 + b2 + 1) → Q (.ref M.x) (matL w M ++ news)) := by
  unfold Ct; k_fill; intro dp un gd cn cs a ccd cl outer A₀ base h₀ L m news s Q E B F X N T hk hpre hd hu hret
  obtain ⟨n1, n2⟩ := hpre
  refine wpAny_call ?_
  k_dflt (refine' code_defN [Str.ofString "x", Str.ofString "y"] ?k1 ?k2 ?k3 ?k4 ?k5 ?kA ?kF ?kK ?k6 ?k7 ?k8 ?k9 ?kB ?_ ?c2 ?c3 ?c4 ?c5; (case kA => exact rfl); (case kF => exact rfl); (case kK => assumption); (case k1 => k_asm); (case k2 => k_asm); (case k3 => k_asm); (case k4 => k_asm); (case k5 => k_asm); (case k6 => k_is); (case k7 => k_is); (case k8 => ktr_room); (case k9 => exact BindsTo.of_eq rfl); (case c5 => decide); (case kB => exact locs rfl); (case c2 => exact rfl); (case c3 => exact rfl); (case c4 => exact rfl); k_whole; intro g' L' h' FG' F' N' B' X' T'; (try dsimp only); (try k_fold); (refine wp_letA ?_); intro A2)
  k_steps
  all_goals ((with_reducible rename Fr h₀ L _ m => kF); (with_reducible rename News h₀ L _ _ => kN); (try dsimp only at kF kN); exact hret _ (by k_extra "my mok") _ _ kF (News.sub kN (by k_extra "my keep")))
set_option maxHeartbeats 4000000 in
theorem c_scaling {v1 v2 : Value} {x y : Rat} {b1 b2 : Nat} : Ct w mean mg mb 5 (.ref 271) [v1, v2] (fun news => Num w news v1 x b1 ∧ Num w news v2 y b2)
    (fun Q news => ∀ M, MatOK M ⟨x, 0, 0, y, 0, 0⟩ (b1 + b2 + 1) → Q (.ref M.x) (matL w M ++ news)) := by
  unfold Ct; k_fill; intro dp un gd cn cs a ccd cl outer A₀ base h₀ L m news s Q E B F X N T hk hpre hd hu hret
  obtain ⟨n1, n2⟩ := hpre
  refine wpAny_call ?_
  k_dflt (refine' code_defN [Str.ofString "x", Str.ofString "y"] ?k1 ?k2 ?k3 ?k4 ?k5 ?kA ?kF ?kK ?k6 ?k7 ?k8 ?k9 ?kB ?_ ?c2 ?c3 ?c4 ?c5; (case kA => exact rfl); (case kF => exact rfl); (case kK => assumption); (case k1 => k_asm); (case k2 => k_asm); (case k3 => k_asm); (case k4 => k_asm); (case k5 => k_asm); (case k6 => k_is); (case k7 => k_is); (case k8 => ktr_room); (case k9 => exact BindsTo.of_eq rfl); (case c5 => decide); (case kB => exact locs rfl); (case c2 => exact rfl); (case c3 => exact rfl); (case c4 => exact rfl); k_whole; intro g' L' h' FG' F' N' B' X' T'; (try dsimp only); (try k_fold); (refine wp_letA ?_); intro A2)
  k_steps
  all_goals ((with_reducible rename Fr h₀ L _ m => kF); (with_reducible rename News h₀ L _ _ => kN); (try dsimp only at kF kN); exact hret _ (by k_extra "my mok") _ _ kF (News.sub kN (by k_extra "my keep")))
set_option maxHeartbeats 4000000 in
theorem c_skewing {v1 v2 : Value} {x y : Rat} {b1 b2 : Nat} : Ct w mean mg mb 5 (.ref 285) [v1, v2] (fun news => Num w news v1 x b1 ∧ Num w news v2 y b2)
    (fun Q news => ∀ M, MatOK M ⟨1, y, x, 1, 0, 0⟩ (b1 + b2 + 1) → Q (.ref M.x) (matL w M ++ news)) := by
  unfold Ct; k_fill; intro dp un gd cn cs a ccd cl outer A₀ base h₀ L m news s Q E B F X N T hk hpre hd hu hret
  obtain ⟨n1, n2⟩ := hpre
  refine wpAny_call ?_
  k_dflt (refine' code_defN [Str.ofString "across", Str.ofString "upward"] ?k1 ?k2 ?k3 ?k4 ?k5 ?kA ?kF ?kK ?k6 ?k7 ?k8 ?k9 ?kB ?_ ?c2 ?c3 ?c4 ?c5; (case kA => exact rfl); (case kF => exact rfl); (case kK => assumption); (case k1 => k_asm); (case k2 => k_asm); (case k3 => k_asm); (case k4 => k_asm); (case k5 => k_asm); (case k6 => k_is); (case k7 => k_is); (case k8 => ktr_room); (case k9 => exact BindsTo.of_eq rfl); (case c5 => decide); (case kB => exact locs rfl); (case c2 => exact rfl); (case c3 => exact rfl); (case c4 => exact rfl); k_whole; intro g' L' h' FG' F' N' B' X' T'; (try dsimp only); (try k_fold); (refine wp_letA ?_); intro A2)
  k_steps
  all_goals ((with_reducible rename Fr h₀ L _ m => kF); (with_reducible rename News h₀ L _ _ => kN); (try dsimp only at kF kN); exact hret _ (by k_extra "my mok") _ _ kF (News.sub kN (by k_extra "my keep")))

set_option maxHeartbeats 4000000 in
theorem c_adjugate {M : MatL} {v1 v2 : Value} {q : Six} {x y : Rat} {bm bx bz : Nat} (hb : 4 * bm + bx + bz ≤ 1900) (ok : MatOK M q bm) : Ct w mean mg mb 5 (.ref 320) [.ref M.x, v1, v2] (fun news => Sub (matL w M) news ∧ Num w news v1 x bx ∧ Num w news v2 y bz)
    (fun Q news => ∀ T D1 D2, DecOK D1 (q.d * (x - q.e) - q.c * (y - q.f)) (4 * bm + bx + bz + 3) → DecOK D2 (q.a * (y - q.f) - q.b * (x - q.e)) (4 * bm + bx + bz + 3) → Q (.ref T) ((T, tupOf [.ref D1.x, .ref D2.x]) :: (decL w D1 ++ (decL w D2 ++ news)))) := by
  unfold Ct; k_fill; intro dp un gd cn cs a ccd cl outer A₀ base h₀ L m news s Q E B F X N T hk hpre hd hu hret
  obtain ⟨hm, n1, n2⟩ := hpre
  have hma := mat_a hm; have hmb := mat_b hm; have hmc := mat_c hm; have hmd := mat_d' hm; have hme := mat_e hm; have hmf := mat_f hm; obtain ⟨oka, okb, okc, okd, oke, okf⟩ := ok
  refine wpAny_call ?_
  k_dflt (refine' code_defN [Str.ofString "m", Str.ofString "x", Str.ofString "y"] ?k1 ?k2 ?k3 ?k4 ?k5 ?kA ?kF ?kK ?k6 ?k7 ?k8 ?k9 ?kB ?_ ?c2 ?c3 ?c4 ?c5; (case kA => exact rfl); (case kF => exact rfl); (case kK => assumption); (case k1 => k_asm); (case k2 => k_asm); (case k3 => k_asm); (case k4 => k_asm); (case k5 => k_asm); (case k6 => k_is); (case k7 => k_is); (case k8 => ktr_room); (case k9 => exact BindsTo.of_eq rfl); (case c5 => decide); (case kB => exact locs rfl); (case c2 => exact rfl); (case c3 => exact rfl); (case c4 => exact rfl); k_whole; intro g' L' h' FG' F' N' B' X' T'; (try dsimp only); (try k_fold); (refine wp_letA ?_); intro A2)
  k_steps
  all_goals ((with_reducible rename Fr h₀ L _ m => kF); (with_reducible rename News h₀ L _ _ => kN); (try dsimp only at kF kN); exact hret _ _ _ (by refine' DecOK.to ?ka rfl ?kb; (case ka => with_reducible assumption); (case kb => omega)) (by refine' DecOK.to ?ka rfl ?kb; (case ka => with_reducible assumption); (case kb => omega)) _ _ kF (News.sub kN (by k_extra "my keep")))
end

end
local macro_rules | `(tactic| walk_at "my fresh") => `(tactic| first | exact Fresh.nil | with_reducible assumption | (with_reducible refine' Fresh.join ?kma ?kmb; (case kma => walk_at "my fresh"); (case kmb => walk_at "my fresh")) | (with_reducible refine' Fresh.less ?kmx ?kmy; (case kmx => with_reducible assumption); (case kmy => k_extra "my sub")))
section
open PySem PySem.W PyProof.Rows PySem.Calls PySem.Spec

section
variable {w : World} {mean : ExcName → Option Value} {mg mb : Str → Option Value}

set_option maxHeartbeats 4000000 in
theorem c_law_told {q : Rat} (t p : Int) (k1 k2 : Tok) (hp : 0 ≤ p) (hq : (t : Rat) = q * 10 ^ p.toNat) :
    Ct w mean mg mb 1 (.ref 363) [.int t k1, .int p k2] (fun _ => True)
     (fun Q news => ∀ ext v, Says ext v (dq q) → Fresh news ext → Q v (ext ++ news)) := by
  unfold Ct; k_fill; intro dp un gd cn cs a ccd cl outer A₀ base h₀ L m news s Q E B F X N T hk hpre hd hu hret
  refine wpAny_call ?_
  k_dflt (refine' code_defN [Str.ofString "worth", Str.ofString "scale"] ?k1 ?k2 ?k3 ?k4 ?k5 ?kA ?kF ?kK ?k6 ?k7 ?k8 ?k9 ?kB ?_ ?c2 ?c3 ?c4 ?c5; (case kA => exact rfl); (case kF => exact rfl); (case kK => assumption); (case k1 => k_asm); (case k2 => k_asm); (case k3 => k_asm); (case k4 => k_asm); (case k5 => k_asm); (case k6 => k_is); (case k7 => k_is); (case k8 => ktr_room); (case k9 => exact BindsTo.of_eq rfl); (case c5 => decide); (case kB => exact locs rfl); (case c2 => exact rfl); (case c3 => exact rfl); (case c4 => exact rfl); k_whole; intro g' L' h' FG' F' N' B' X' T'; (try dsimp only); (try k_fold); (refine wp_letA ?_); intro A2)
  k_steps
  obtain ⟨r1, r2⟩ := acc_told hp (by assumption) (by assumption) (by assumption) (by assumption)
  have hq' : (t : Rat) / 10 ^ p.toNat = q := by rw [hq, Rat.mul_div_cancel (ten_ne _)]
  rw [hq'] at r1
  (with_reducible rename Fr h₀ L _ m => kF)
  (with_reducible rename News h₀ L _ _ => kN)
  exact tl_ret (P := fun v news' => ∀ (h' : Heap) (tk' : Nat), Fr h₀ L h' m → News h₀ L h' news' → Q v { s with heap := h', toks := tk' }) r1 hret (by assumption) _ _ kF (News.sub kN (by k_extra "my keep"))

set_option genInjectivity false in
set_option genSizeOfSpec false in
/-- three by three ints -/
structure RowsL where
  (x r1 r2 r3 : Addr) (n n1 n2 n3 : Nat) (a11 a12 a13 a21 a22 a23 a31 a32 a33 : Int) (k11 k12 k13 k21 k22 k23 k31 k32 k33 : Tok)
@[irreducible] noncomputable def rowsL (R : RowsL) : Led := [(R.x, listOf #[.ref R.r1, .ref R.r2, .ref R.r3] R.n), (R.r1, listOf #[.int R.a11 R.k11, .int R.a12 R.k12, .int R.a13 R.k13] R.n1),
  (R.r2, listOf #[.int R.a21 R.k21, .int R.a22 R.k22, .int R.a23 R.k23] R.n2), (R.r3, listOf #[.int R.a31 R.k31, .int R.a32 R.k32, .int R.a33 R.k33] R.n3)]
section
variable {R : RowsL} {news : Led}
theorem rows_x (h : Sub (rowsL R) news) : (R.x, listOf #[.ref R.r1, .ref R.r2, .ref R.r3] R.n) ∈ news := h.mem _ (by unfold rowsL; exact .head _)
theorem rows_1 (h : Sub (rowsL R) news) : (R.r1, listOf #[.int R.a11 R.k11, .int R.a12 R.k12, .int R.a13 R.k13] R.n1) ∈ news := h.mem _ (by unfold rowsL; exact .tail _ (.head _))
theorem rows_2 (h : Sub (rowsL R) news) : (R.r2, listOf #[.int R.a21 R.k21, .int R.a22 R.k22, .int R.a23 R.k23] R.n2) ∈ news := h.mem _ (by unfold rowsL; exact .tail _ (.tail _ (.head _)))
theorem rows_3 (h : Sub (rowsL R) news) : (R.r3, listOf #[.int R.a31 R.k31, .int R.a32 R.k32, .int R.a33 R.k33] R.n3) ∈ news := h.mem _ (by unfold rowsL; exact .tail _ (.tail _ (.tail _ (.head _))))
end
set_option genInjectivity false in
set_option genSizeOfSpec false in
/-- what the numbers are -/
structure M3 where
  (a11 a12 a13 a21 a22 a23 a31 a32 a33 : Int)
structure RowsOK (R : RowsL) (z : M3) : Prop where
  e : (⟨R.a11, R.a12, R.a13, R.a21, R.a22, R.a23, R.a31, R.a32, R.a33⟩ : M3) = z
theorem allLt_mem {d : Addr} {l : Led} (h : AllLt d l) : ∀ p ∈ l, @LT.lt Nat _ p.1 d := by
  induction l with
  | nil => intro p hp; cases hp
  | cons x r ih =>
    obtain ⟨h1, h2⟩ : @LT.lt Nat _ x.1 d ∧ AllLt d r := h
    intro p hp
    cases hp with
    | head => exact h1
    | tail _ hp => exact ih h2 p hp
theorem rows_made {h₀ h' : Heap} {L : Addr} {m : Str → Option Value} {s : Shared} {tk : Nat} {Q : Value → Shared → Prop} {news led : Led} {x r1 r2 r3 : Addr} {n n1 n2 n3 : Nat} {a11 a12 a13 a21 a22 a23 a31 a32 a33 : Int} {k11 k12 k13 k21 k22 k23 k31 k32 k33 : Tok} {z : M3}
    (hret : ∀ R, RowsOK R z → Fresh news (rowsL R) → ∀ (h' : Heap) (tk' : Nat), Fr h₀ L h' m → News h₀ L h' (rowsL R ++ news) → Q (.ref R.x) { s with heap := h', toks := tk' }) (kF : Fr h₀ L h' m) (kN : News h₀ L h' led)
    (h1 : (x, listOf #[.ref r1, .ref r2, .ref r3] n) ∈ led) (h2 : (r1, listOf #[.int a11 k11, .int a12 k12, .int a13 k13] n1) ∈ led) (h3 : (r2, listOf #[.int a21 k21, .int a22 k22, .int a23 k23] n2) ∈ led) (h4 : (r3, listOf #[.int a31 k31, .int a32 k32, .int a33 k33] n3) ∈ led)
    (hz : (⟨a11, a12, a13, a21, a22, a23, a31, a32, a33⟩ : M3) = z) (l1 : AllLt x news) (l2 : AllLt r1 news) (l3 : AllLt r2 news) (l4 : AllLt r3 news) (sn : Sub news led) :
    Q (.ref x) { s with heap := h', toks := tk } := by
  refine hret ⟨x, r1, r2, r3, n, n1, n2, n3, a11, a12, a13, a21, a22, a23, a31, a32, a33, k11, k12, k13, k21, k22, k23, k31, k32, k33⟩ ⟨hz⟩ ?_ h' tk kF (News.sub kN (.join (by unfold rowsL; exact .add h1 (.add h2 (.add h3 (.add h4 .nil)))) sn))
  unfold rowsL
  refine .of fun p hp q hq => ?_
  simp only [List.mem_cons, List.not_mem_nil, or_false] at hp
  rcases hp with rfl | rfl | rfl | rfl
  · exact allLt_mem l1 q hq
  · exact allLt_mem l2 q hq
  · exact allLt_mem l3 q hq
  · exact allLt_mem l4 q hq

theorem getk {vs : List Value} {k : Int} {v : Value} (i : Nat) (hk : k.toNat = i) (h : vs[i]? = some v) : vs[k.toNat]? = some v := by rw [hk]; exact h
theorem my_item {prog : Program} {A : Around} {E : Value → Shared → Prop} {s : Shared} {h₀ : Heap} {L : Addr} {news : Led} {value slice : PySem.Expr} {l : Addr} {vs : List Value} {n : Nat} {k : Int} {u : Tok} {v : Value} {Q : Value → Shared → Prop}
    (N : News h₀ L s.heap news) (hm : (l, listOf vs.toArray n) ∈ news) (h0 : 0 ≤ k) (hhi : k < 2 ^ 63) (hx : vs[k.toNat]? = some v) (h : Q v s)
    (hs : subscripted slice false (.ref l) (.int k u) = operate [.ref l, .int k u] (getItem (.ref l) (.int k u))) :
    wpAny (model prog w) A (subscriptTail value slice (.ref l) (.int k u)) Q E s := item_litK (N.isList hm) h0 hhi hx h hs

theorem KB12setup1 : True := by
  k_with "my item" => ((k_here; (with_reducible show wpAny _ _ (subscriptTail _ _ (Value.ref _) (Value.int _ _)) _ _ _); k_dflt (refine' my_item ?Nw79 ?mw79 ?k2w79 ?k3w79 ?k4w79 ?_ ?k6w79; (case Nw79 => k_asm); (case mw79 => first | with_reducible assumption | k_mem); (case k2w79 => decide); (case k3w79 => decide); (case k4w79 => first | (refine' getk 0 ?gaw79 ?gbw79; (case gaw79 => decide); (case gbw79 => rfl)) | (refine' getk 1 ?gaw79 ?gbw79; (case gaw79 => decide); (case gbw79 => rfl)) | (refine' getk 2 ?gaw79 ?gbw79; (case gaw79 => decide); (case gbw79 => rfl)) | (refine' getk 3 ?gaw79 ?gbw79; (case gaw79 => decide); (case gbw79 => rfl)) | (refine' getk 4 ?gaw79 ?gbw79; (case gaw79 => decide); (case gbw79 => rfl)) | (refine' getk 5 ?gaw79 ?gbw79; (case gaw79 => decide); (case gbw79 => rfl))); (case k6w79 => with_unfolding_all rfl); k_whole)))
  k_with "subscriptTail" => (k_extra "my item")
  k_with "subscriptTail Name" => (k_extra "my item")
  k_with "subscriptTail Subscript" => (k_extra "my item")
  k_with "subscriptTail Name Name ref int" => (k_extra "my item")
  k_with "subscriptTail Name Constant ref int" => (k_extra "my item")
  k_with "subscriptTail Subscript Name Name Name ref int" => (k_extra "my item")
  k_with "subscriptTail Subscript Name Constant Name ref int" => (k_extra "my item")
  k_with "subscriptTail Subscript Name Name Constant ref int" => (k_extra "my item")
  k_with "subscriptTail Subscript Name Constant Constant ref int" => (k_extra "my item")
  trivial
set_option maxHeartbeats 4000000 in
theorem c_law_rows {l : Addr} {n : Nat} {a1 b1 c1 d1 e1 f1 : Int} {k1 k2 k3 k4 k5 k6 k7 : Tok} :
    Ct w mean mg mb 2 (.ref 377) [.ref l, .int 2 k7] (fun news => (l, listOf #[.int a1 k1, .int b1 k2, .int c1 k3, .int d1 k4, .int e1 k5, .int f1 k6] n) ∈ news)
    (fun Q news => ∀ R, RowsOK R ⟨a1, b1, 0, c1, d1, 0, e1, f1, 100⟩ → Fresh news (rowsL R) → Q (.ref R.x) (rowsL R ++ news)) := by
  unfold Ct; k_fill; intro dp un gd cn cs a ccd cl outer A₀ base h₀ L m news s Q E B F X N T hk hpre hd hu hret
  refine wpAny_call ?_
  k_dflt (refine' code_defN [Str.ofString "six", Str.ofString "scale"] ?k1 ?k2 ?k3 ?k4 ?k5 ?kA ?kF ?kK ?k6 ?k7 ?k8 ?k9 ?kB ?_ ?c2 ?c3 ?c4 ?c5; (case kA => exact rfl); (case kF => exact rfl); (case kK => assumption); (case k1 => k_asm); (case k2 => k_asm); (case k3 => k_asm); (case k4 => k_asm); (case k5 => k_asm); (case k6 => k_is); (case k7 => k_is); (case k8 => ktr_room); (case k9 => exact BindsTo.of_eq rfl); (case c5 => decide); (case kB => exact locs rfl); (case c2 => exact rfl); (case c3 => exact rfl); (case c4 => exact rfl); k_whole; intro g' L' h' FG' F' N' B' X' T'; (try dsimp only); (try k_fold); (refine wp_letA ?_); intro A2)
  k_steps
  (with_reducible rename Fr h₀ L _ m => kF)
  (with_reducible rename News h₀ L _ _ => kN)
  refine' rows_made hret kF kN ?m1 ?m2 ?m3 ?m4 ?hz ?l1 ?l2 ?l3 ?l4 ?sn
  (case m1 => k_mem)
  (case m2 => k_mem)
  (case m3 => k_mem)
  (case m4 => k_mem)
  (case hz => rfl)
  (case l1 => first | tbn_find | exact allLt_of (by assumption))
  (case l2 => first | tbn_find | exact allLt_of (by assumption))
  (case l3 => first | tbn_find | exact allLt_of (by assumption))
  (case l4 => first | tbn_find | exact allLt_of (by assumption))
  (case sn => k_extra "my sub")
end

end
section
open PySem PySem.W PyProof.Rows PySem.Calls PySem.Spec

section
variable {w : World} {mean : ExcName → Option Value} {mg mb : Str → Option Value}






theorem KB11setup1 : True := by
  k_with "call ref" => ((k_here; (with_reducible show wpAny _ _ (call (Value.ref 257) _) _ _ _); k_dflt (refine' (c_identity) _ _ _ _ _ _ _ _ _ _ _ _ _ _ _ _ _ _ ?kB ?kF ?kX ?kN ?kT ?kK ?kpw80 ?kd ?ku ?_; k_extra "sid"; (case kpw80 => exact trivial); k_whole; intro M9 ok9 h9 tk9 F9 N9; (try k_sweep))))
  k_with "call ref" => ((k_here; (with_reducible show wpAny _ _ (call (Value.ref 264) _) _ _ _); k_dflt (refine' (c_translation) _ _ _ _ _ _ _ _ _ _ _ _ _ _ _ _ _ _ ?kB ?kF ?kX ?kN ?kT ?kK ?kpw81 ?kd ?ku ?_; k_extra "sid"; (case kpw81 => refine' ⟨?kpaw81, ?kpbw81⟩; (case kpaw81 => k_extra "my num"); (case kpbw81 => k_extra "my num")); k_whole; intro M9 ok9 h9 tk9 F9 N9; (try k_sweep))))
  k_with "call ref" => ((k_here; (with_reducible show wpAny _ _ (call (Value.ref 271) _) _ _ _); k_dflt (refine' (c_scaling) _ _ _ _ _ _ _ _ _ _ _ _ _ _ _ _ _ _ ?kB ?kF ?kX ?kN ?kT ?kK ?kpw82 ?kd ?ku ?_; k_extra "sid"; (case kpw82 => refine' ⟨?kpaw82, ?kpbw82⟩; (case kpaw82 => k_extra "my num"); (case kpbw82 => k_extra "my num")); k_whole; intro M9 ok9 h9 tk9 F9 N9; (try k_sweep))))
  k_with "call ref" => ((k_here; (with_reducible show wpAny _ _ (call (Value.ref 285) _) _ _ _); k_dflt (refine' (c_skewing) _ _ _ _ _ _ _ _ _ _ _ _ _ _ _ _ _ _ ?kB ?kF ?kX ?kN ?kT ?kK ?kpw83 ?kd ?ku ?_; k_extra "sid"; (case kpw83 => refine' ⟨?kpaw83, ?kpbw83⟩; (case kpaw83 => k_extra "my num"); (case kpbw83 => k_extra "my num")); k_whole; intro M9 ok9 h9 tk9 F9 N9; (try k_sweep))))
  k_with "call ref" => ((k_here; (with_reducible show wpAny _ _ (call (Value.ref 320) _) _ _ _); k_dflt (refine' (c_adjugate ?hbbw84 ?hokw84) _ _ _ _ _ _ _ _ _ _ _ _ _ _ _ _ _ _ ?kB ?kF ?kX ?kN ?kT ?kK ?kpw84 ?kd ?ku ?_; k_extra "sid"; (case hokw84 => with_reducible assumption); (case kpw84 => refine' ⟨?kpaw84, ?kpbw84, ?kpcw84⟩; (case kpaw84 => k_extra "my sub"); (case kpbw84 => k_extra "my num"); (case kpcw84 => k_extra "my num")); (case hbbw84 => first | decide | omega); k_whole; intro T9 D9 D8 ok9 ok8 h9 tk9 F9 N9; (try k_sweep))))
  trivial
noncomputable def qcos (r : Int) : Rat := if r = 0 then 1 else if r = 2 then -1 else 0
noncomputable def qsin (r : Int) : Rat := if r = 1 then 1 else if r = 3 then -1 else 0
theorem mod_known {prog : Program} {A : Around} {E : Value → Shared → Prop} {s : Shared} {n r : Int} {t u : Tok} {Q : Value → Shared → Prop} (hr : n.fmod 4 = r) (h : Q (.int r s.toks) { s with toks := s.toks + 1 }) :
    wpAny (model prog w) A (binaryOp .Mod (.int n t) (.int 4 u)) Q E s := mod_int' (by decide) (by rw [hr]; exact h)
section
theorem KB11setup2 : True := by
  k_with "binaryOp Mod int int" => ((k_here; with_reducible refine mod_known (by with_reducible assumption) ?_))
  trivial
set_option maxHeartbeats 4000000 in
theorem c_quarter {n r : Int} {tn : Tok} (hn : n.fmod 4 = r) : Ct w mean mg mb 5 (.ref 278) [.int n tn] (fun _ => True)
    (fun Q news => ∀ M, MatOK M ⟨qcos r, qsin r, -qsin r, qcos r, 0, 0⟩ 1 → Q (.ref M.x) (matL w M ++ news)) := by
  have h4 : r = 0 ∨ r = 1 ∨ r = 2 ∨ r = 3 := hn ▸ fm4 n
  rcases h4 with rfl | rfl | rfl | rfl
  all_goals (
    unfold Ct; k_fill; intro dp un gd cn cs a ccd cl outer A₀ base h₀ L m news s Q E B F X N T hk hpre hd hu hret
    refine wpAny_call ?_
    k_dflt (refine' code_defN [Str.ofString "n"] ?k1 ?k2 ?k3 ?k4 ?k5 ?kA ?kF ?kK ?k6 ?k7 ?k8 ?k9 ?kB ?_ ?c2 ?c3 ?c4 ?c5; (case kA => exact rfl); (case kF => exact rfl); (case kK => assumption); (case k1 => k_asm); (case k2 => k_asm); (case k3 => k_asm); (case k4 => k_asm); (case k5 => k_asm); (case k6 => k_is); (case k7 => k_is); (case k8 => ktr_room); (case k9 => exact BindsTo.of_eq rfl); (case c5 => decide); (case kB => exact locs rfl); (case c2 => exact rfl); (case c3 => exact rfl); (case c4 => exact rfl); k_whole; intro g' L' h' FG' F' N' B' X' T'; (try dsimp only); (try k_fold); (refine wp_letA ?_); intro A2)
    k_steps
    all_goals ((with_reducible rename Fr h₀ L _ m => kF); (with_reducible rename News h₀ L _ _ => kN); (try dsimp only at kF kN); exact hret _ (by k_extra "my mok") _ _ kF (News.sub kN (by k_extra "my keep"))))
end

set_option maxHeartbeats 4000000 in
theorem c_inverse_applied {M : MatL} {v1 v2 : Value} {q : Six} {x y : Rat} {bm bx bz : Nat} {p : Int} {kp : Tok} (t1 t2 ss : Int) (h1 : (q.d * (x - q.e) - q.c * (y - q.f)) * (ss : Rat) = (q.a * q.d - q.b * q.c) * (t1 : Rat)) (h2 : (q.a * (y - q.f) - q.b * (x - q.e)) * (ss : Rat) = (q.a * q.d - q.b * q.c) * (t2 : Rat))
    (hS : ss ≠ 0) (hs0 : q.a * q.d - q.b * q.c ≠ 0) (hp0 : 0 ≤ p) (hp : p ≤ 10) (hb : 8 * bm + bx + bz ≤ 1800) (ok : MatOK M q bm) : Ct w mean mg mb 6 (.ref 327) [.ref M.x, v1, v2, .int p kp] (fun news => Sub (matL w M) news ∧ Num w news v1 x bx ∧ Num w news v2 y bz)
    (fun Q news => ∀ T D1 D2, DecOK D1 (((rq (t1 * 10 ^ p.toNat) ss : Int) : Rat) / 10 ^ p.toNat) (8 * bm + bx + bz + 16) → DecOK D2 (((rq (t2 * 10 ^ p.toNat) ss : Int) : Rat) / 10 ^ p.toNat) (8 * bm + bx + bz + 16) → Q (.ref T) ((T, tupOf [.ref D1.x, .ref D2.x]) :: (decL w D1 ++ (decL w D2 ++ news)))) := by
  unfold Ct; k_fill; intro dp un gd cn cs a ccd cl outer A₀ base h₀ L m news s Q E B F X N T hk hpre hd hu hret
  obtain ⟨hm, n1, n2⟩ := hpre
  refine wpAny_call ?_
  k_dflt (refine' code_defN [Str.ofString "m", Str.ofString "x", Str.ofString "y", Str.ofString "places"] ?k1 ?k2 ?k3 ?k4 ?k5 ?kA ?kF ?kK ?k6 ?k7 ?k8 ?k9 ?kB ?_ ?c2 ?c3 ?c4 ?c5; (case kA => exact rfl); (case kF => exact rfl); (case kK => assumption); (case k1 => k_asm); (case k2 => k_asm); (case k3 => k_asm); (case k4 => k_asm); (case k5 => k_asm); (case k6 => k_is); (case k7 => k_is); (case k8 => ktr_room); (case k9 => exact BindsTo.of_eq rfl); (case c5 => decide); (case kB => exact locs rfl); (case c2 => exact rfl); (case c3 => exact rfl); (case c4 => exact rfl); k_whole; intro g' L' h' FG' F' N' B' X' T'; (try dsimp only); (try k_fold); (refine wp_letA ?_); intro A2)
  k_steps
  all_goals ((with_reducible rename Fr h₀ L _ m => kF); (with_reducible rename News h₀ L _ _ => kN); (try dsimp only at kF kN); exact hret _ _ _ (by refine' DecOK.to ?ka rfl ?kb; (case ka => with_reducible assumption); (case kb => omega)) (by refine' DecOK.to ?ka rfl ?kb; (case ka => with_reducible assumption); (case kb => omega)) _ _ kF (News.sub kN (by k_extra "my keep")))


theorem hundred {a : Int} : (a : Rat) = (a : Rat) / 100 * 10 ^ (Int.toNat 2) := by
  rw [show (10 : Rat) ^ (Int.toNat 2) = 100 from rfl]
  grind
theorem KB11setup3 : True := by
  k_with "my hq" => (exact hundred)
  trivial
section
theorem KB11setup4 : True := by
  k_with "call ref" => ((k_here; (with_reducible show wpAny _ _ (call (Value.ref 246) _) _ _ _); k_dflt (refine' (c_Matrix6f (n0 := decL w _ ++ (decL w _ ++ (decL w _ ++ (decL w _ ++ (decL w _ ++ (decL w _ ++ []))))))) _ _ _ _ _ _ _ _ _ _ _ _ _ _ _ _ _ _ ?kB ?kF ?kX ?kN ?kT ?kK ?kpw85 ?kd ?ku ?_; k_extra "sid"; (case kpw85 => refine' ⟨⟨⟨?kpaw85, ?kpbw85, ?kpcw85⟩, ?kpdw85, ?kpew85, ?kpfw85⟩, ?kpzw85⟩; (case kpaw85 => k_extra "my num"); (case kpbw85 => k_extra "my num"); (case kpcw85 => k_extra "my num"); (case kpdw85 => k_extra "my num"); (case kpew85 => k_extra "my num"); (case kpfw85 => k_extra "my num"); (case kpzw85 => k_extra "my keep")); k_whole; intro M9 x9 ok9 fx9 sx9 h9 tk9 F9 N9; (try k_sweep))))
  trivial
set_option maxHeartbeats 4000000 in
theorem c_law_matrix {l : Addr} {n : Nat} {a1 b1 c1 d1 e1 f1 : Int} {k1 k2 k3 k4 k5 k6 : Tok} {b : Nat} (ha : Bd a1 b) (hb : Bd b1 b) (hc : Bd c1 b) (hd' : Bd d1 b) (he : Bd e1 b) (hf : Bd f1 b) (h2 : 2 ≤ b) :
    Ct w mean mg mb 6 (.ref 370) [.ref l] (fun news => (l, listOf #[.int a1 k1, .int b1 k2, .int c1 k3, .int d1 k4, .int e1 k5, .int f1 k6] n) ∈ news)
    (fun Q news => ∀ M, MatOK M ⟨(a1 : Rat) / 100, (b1 : Rat) / 100, (c1 : Rat) / 100, (d1 : Rat) / 100, (e1 : Rat) / 100, (f1 : Rat) / 100⟩ b → Fresh news (matL w M) → Q (.ref M.x) (matL w M ++ news)) := by
  unfold Ct; k_fill; intro dp un gd cn cs a ccd cl outer A₀ base h₀ L m news s Q E B F X N T hk hpre hd hu hret
  refine wpAny_call ?_
  k_dflt (refine' code_defN [Str.ofString "six"] ?k1 ?k2 ?k3 ?k4 ?k5 ?kA ?kF ?kK ?k6 ?k7 ?k8 ?k9 ?kB ?_ ?c2 ?c3 ?c4 ?c5; (case kA => exact rfl); (case kF => exact rfl); (case kK => assumption); (case k1 => k_asm); (case k2 => k_asm); (case k3 => k_asm); (case k4 => k_asm); (case k5 => k_asm); (case k6 => k_is); (case k7 => k_is); (case k8 => ktr_room); (case k9 => exact BindsTo.of_eq rfl); (case c5 => decide); (case kB => exact locs rfl); (case c2 => exact rfl); (case c3 => exact rfl); (case c4 => exact rfl); k_whole; intro g' L' h' FG' F' N' B' X' T'; (try dsimp only); (try k_fold); (refine wp_letA ?_); intro A2)
  k_steps
  all_goals ((with_reducible rename Fr h₀ L _ m => kF); (with_reducible rename News h₀ L _ _ => kN); (try dsimp only at kF kN); exact hret _ (by refine' MatOK.to ?kma rfl ?kmc; (case kma => with_reducible assumption); (case kmc => exact le6s (Nat.le_refl _))) (by refine' Fresh.sub ?fa ?fb; (case fb => with_reducible assumption); (case fa => walk_at "my fresh")) _ _ kF (News.sub kN (by k_extra "my keep")))
end
end

end
section
open PySem PySem.W PyProof.Rows PySem.Calls PySem.Spec

section
variable {w : World} {mean : ExcName → Option Value} {mg mb : Str → Option Value}


theorem KB13setup1 : True := by
  k_with "my kmem" => (first | (with_reducible refine' rows_x ?kmhw86; (case kmhw86 => k_extra "my sub")) | (with_reducible refine' rows_1 ?kmhw86; (case kmhw86 => k_extra "my sub")) | (with_reducible refine' rows_2 ?kmhw86; (case kmhw86 => k_extra "my sub")) | (with_reducible refine' rows_3 ?kmhw86; (case kmhw86 => k_extra "my sub")))
  k_with "call ref" => ((k_here; (with_reducible show wpAny _ _ (call (Value.ref 363) _) _ _ _); k_dflt (refine' (c_law_told _ _ _ _ ?hpw87 ?hqw87) _ _ _ _ _ _ _ _ _ _ _ _ _ _ _ _ _ _ ?kB ?kF ?kX ?kN ?kT ?kK ?kpw87 ?kd ?ku ?_; k_extra "sid"; (case kpw87 => exact trivial); (case hqw87 => first | with_reducible assumption | k_extra "my hq"); (case hpw87 => first | with_reducible assumption | decide | omega); k_whole; intro e9 v9 y9 f9 h9 tk9 F9 N9; (try k_sweep))))
  k_with "call ref" => ((k_here; (with_reducible show wpAny _ _ (call (Value.ref 377) _) _ _ _); k_dflt (refine' (c_law_rows) _ _ _ _ _ _ _ _ _ _ _ _ _ _ _ _ _ _ ?kB ?kF ?kX ?kN ?kT ?kK ?kpw88 ?kd ?ku ?_; k_extra "sid"; (case kpw88 => first | with_reducible assumption | k_mem); k_whole; intro R9 ok9 f9 h9 tk9 F9 N9; (try k_sweep))))
  trivial
section
theorem dbl_bd {t : Int} {c : Nat} (h : Bd t c) : Bd (2 * (t.natAbs : Int)) (c + 1) := .of (by
  have := h.lt
  rw [Nat.pow_succ]
  lia)
theorem near_abs {t : Int} {n : Nat} : ((t * 10 ^ n).natAbs : Int) = t.natAbs * 10 ^ n := by
  rw [Int.natAbs_mul, Int.natAbs_pow, Int.natCast_mul, Int.natCast_pow]; rfl
theorem ten_pos' (n : Nat) : (0 : Int) < 10 ^ n := Int.pow_pos (by decide)
theorem sgn_ten {t : Int} {n : Nat} : sgn (t * 10 ^ n) = sgn t := by
  have h := ten_pos' n
  unfold sgn
  rcases Int.lt_trichotomy t 0 with ht | ht | ht
  · have : t * 10 ^ n < 0 := Int.mul_neg_of_neg_of_pos ht h
    (repeat' split) <;> lia
  · subst ht; rw [Int.zero_mul]
  · have : 0 < t * 10 ^ n := Int.mul_pos ht h
    (repeat' split) <;> lia
theorem near_zero {b : Int} (hb : b ≠ 0) : (2 * (0 : Int) + (b.natAbs : Int)).fdiv (2 * (b.natAbs : Int)) = 0 := by
  rw [Int.fdiv_eq_ediv_of_nonneg _ (by lia), Int.ediv_eq_zero_of_lt (by lia) (by lia)]
theorem near_pos {t b : Int} {n : Nat} (hb : b ≠ 0) (h : (decide (t < 0) == decide (b < 0)) = true) :
    (2 * (t.natAbs : Int) * 10 ^ n + (b.natAbs : Int)).fdiv (2 * (b.natAbs : Int)) = rq (t * 10 ^ n) b := by
  unfold rq
  rw [near_abs, sgn_ten, ← Int.mul_assoc]
  by_cases ht : t = 0
  · subst ht
    have := near_zero hb
    simp only [Int.natAbs_zero, Int.natCast_zero, Int.mul_zero, Int.zero_mul] at this ⊢
    rw [this]; simp
  · have : sgn t * sgn b = 1 := by
      unfold sgn
      rw [beq_iff_eq, decide_eq_decide] at h
      (repeat' split) <;> lia
    rw [Int.mul_assoc _ (sgn t), this, Int.mul_one]
theorem near_neg {t b : Int} {n : Nat} (hb : b ≠ 0) (h : (decide (t < 0) == decide (b < 0)) = false) :
    -(2 * (t.natAbs : Int) * 10 ^ n + (b.natAbs : Int)).fdiv (2 * (b.natAbs : Int)) = rq (t * 10 ^ n) b := by
  unfold rq
  rw [near_abs, sgn_ten, ← Int.mul_assoc]
  by_cases ht : t = 0
  · subst ht
    have := near_zero hb
    simp only [Int.natAbs_zero, Int.natCast_zero, Int.mul_zero, Int.zero_mul] at this ⊢
    rw [this]; simp
  · have : sgn t * sgn b = -1 := by
      unfold sgn
      rw [beq_eq_false_iff_ne, ne_eq, decide_eq_decide] at h
      (repeat' split) <;> lia
    rw [Int.mul_assoc _ (sgn t), this, Int.mul_neg, Int.mul_one]
theorem div_hq {x p : Int} : (x : Rat) = (x : Rat) / 10 ^ p.toNat * 10 ^ p.toNat := (Rat.div_mul_cancel (ten_ne _)).symm
theorem KB13setup2 : True := by
  k_with "my lt" => (first | with_reducible assumption | (refine' dbl_bd ?kmxw89; (case kmxw89 => with_reducible assumption)) | exact ten_lt)
  k_with "my hq" => (exact div_hq)
  k_with "binaryOp FloorDiv int int" => ((k_here; (with_reducible refine floordiv_int ?hbw90 ?_ (Or.inl (PyProof.noPylong_of_log2 ?hlw90))); (case hbw90 => omega); (case hlw90 => refine' log_bd ?kmxw90 ?kmyw90; (case kmxw90 => k_extra "my lt"); (case kmyw90 => omega))))
  trivial
set_option maxHeartbeats 4000000 in
theorem c_law_nearest {t b p : Int} {k1 k2 k3 : Tok} {c : Nat} (hb : b ≠ 0) (ht : Bd t c) (hbb : Bd b c) (hc : c ≤ 500) (hp : 0 ≤ p) (hp1 : p ≤ 10) :
    Ct w mean mg mb 2 (.ref 394) [.int t k1, .int b k2, .int p k3] (fun _ => True)
     (fun Q news => ∀ ext v, Says ext v (dq (((rq (t * 10 ^ p.toNat) b : Int) : Rat) / 10 ^ p.toNat)) → Fresh news ext → Q v (ext ++ news)) := by
  unfold Ct; k_fill; intro dp un gd cn cs a ccd cl outer A₀ base h₀ L m news s Q E B F X N T hk hpre hd hu hret
  refine wpAny_call ?_
  k_dflt (refine' code_defN [Str.ofString "top", Str.ofString "below", Str.ofString "places"] ?k1 ?k2 ?k3 ?k4 ?k5 ?kA ?kF ?kK ?k6 ?k7 ?k8 ?k9 ?kB ?_ ?c2 ?c3 ?c4 ?c5; (case kA => exact rfl); (case kF => exact rfl); (case kK => assumption); (case k1 => k_asm); (case k2 => k_asm); (case k3 => k_asm); (case k4 => k_asm); (case k5 => k_asm); (case k6 => k_is); (case k7 => k_is); (case k8 => ktr_room); (case k9 => exact BindsTo.of_eq rfl); (case c5 => decide); (case kB => exact locs rfl); (case c2 => exact rfl); (case c3 => exact rfl); (case c4 => exact rfl); k_whole; intro g' L' h' FG' F' N' B' X' T'; (try dsimp only); (try k_fold); (refine wp_letA ?_); intro A2)
  k_steps
  all_goals (
    (with_reducible rename Fr h₀ L _ m => kF)
    (with_reducible rename News h₀ L _ _ => kN)
    (with_reducible rename Says _ _ _ => ky)
    (with_reducible rename Fresh _ _ => kf)
    (first | rw [near_pos hb (by assumption)] at ky | rw [near_neg hb (by assumption)] at ky)
    exact hret _ _ ky kf _ _ kF kN)
end
end

end
section
open PySem PySem.W PyProof.Rows PySem.Calls PySem.Spec
open LCg (lst)
section
variable {M : Model} {A : Around} {E : Value → Shared → Prop} {s : Shared}
theorem newEnv_one {scope : Scope} {cl : List (Str × Addr)} {x : Str} {globals : Addr} {qual : Str} {func : Option Addr} {code : Value} {outer : Env} {builtins : Addr} {Q : Env → Shared → Prop} (hcf : ∀ n, cellsFrom n scope.names cl = (x, n) :: cl) (hpc : ∀ h, pushCells h scope.names = h.push { cls := .type "cell", data := .cell none })
    (hQ : Q (newEnv scope s.heap.objs.size globals ((x, s.heap.objs.size + 1) :: cl) qual func code (some outer) builtins) { s with heap := (s.heap.push { cls := .type "dict", data := .dict #[] }).push { cls := .type "cell", data := .cell none } }) :
    wpAny M A (newFunctionEnv scope globals cl [] qual func code (some outer) builtins) Q E s := by
  simp only [newFunctionEnv, Option.isSome_some, if_true]
  refine wpAny_bind (wpAny_alloc ?_)
  refine wpAny_bind (wpAny_layCells _ (fun name kind cells => by cases kind == NameKind.cell <;> simp) _ _ _ _ ?_)
  rw [hcf, hpc]
  simp only [List.forIn_nil]
  refine wpAny_bind (wpAny_pure (wpAny_pure ?_))
  rw [Heap.size_push]
  exact hQ
end

/-- entries that lie elsewhere than the block's own -/
noncomputable def Off4 (I C D X : Addr) : Led → Prop
  | [] => True
  | p :: r => ((@Ne Nat p.1 I) ∧ (@Ne Nat p.1 C) ∧ (@Ne Nat p.1 D) ∧ (@Ne Nat p.1 X)) ∧ Off4 I C D X r
theorem Off4.mem {I C D X : Addr} : ∀ {l : Led}, Off4 I C D X l → ∀ p ∈ l, p.1 ≠ I ∧ p.1 ≠ C ∧ p.1 ≠ D ∧ p.1 ≠ X
  | [], _, _, h => nomatch h
  | _ :: _, x, p, h => by
    rcases List.mem_cons.mp h with rfl | h
    · exact x.1
    · exact Off4.mem x.2 p h
theorem Off4.of {I C D X : Addr} : ∀ {l : Led}, (∀ p ∈ l, p.1 ≠ I ∧ p.1 ≠ C ∧ p.1 ≠ D ∧ p.1 ≠ X) → Off4 I C D X l
  | [], _ => trivial
  | _ :: _, h => ⟨h _ List.mem_cons_self, Off4.of fun p hp => h p (List.mem_cons_of_mem _ hp)⟩
noncomputable def CEnd (h₀ : Heap) (L : Addr) (m : Str → Option Value) (s₁ : Shared) (I C D X : Addr) (oI oC oD oX : Obj) (rest : Value → Led → Prop) (y : Value) (s₂ : Shared) : Prop :=
  ∃ h' tk news', s₂ = { s₁ with heap := h', toks := tk } ∧ Fr h₀ L h' m ∧ News h₀ L h' ((I, oI) :: (C, oC) :: (D, oD) :: (X, oX) :: news') ∧ Off4 I C D X news' ∧ rest y news'
theorem CEnd.intro {h₀ : Heap} {L I C D X : Addr} {m : Str → Option Value} {s₁ : Shared} {oI oC oD oX : Obj} {rest : Value → Led → Prop} {y : Value} {h' : Heap} {tk : Nat} {all : Led}
    (F : Fr h₀ L h' m) (N : News h₀ L h' all) (news' : Led) (sub : Sub ((I, oI) :: (C, oC) :: (D, oD) :: (X, oX) :: news') all) (off : Off4 I C D X news') (r : rest y news') :
    CEnd h₀ L m s₁ I C D X oI oC oD oX rest y { s₁ with heap := h', toks := tk } := ⟨h', tk, news', rfl, F, News.sub N sub, off, r⟩
theorem CEnd.one {h₀ : Heap} {L I C D X d : Addr} {m : Str → Option Value} {s₁ : Shared} {oI oC oD oX o : Obj} {rest : Value → Led → Prop} {y : Value} {h' : Heap} {tk : Nat} {all news : Led}
    (F : Fr h₀ L h' m) (N : News h₀ L h' ((d, o) :: all)) (off : Off4 I C D X news) (sub : Sub ((I, oI) :: (C, oC) :: (D, oD) :: (X, oX) :: news) all) (nd : (@Ne Nat d I) ∧ (@Ne Nat d C) ∧ (@Ne Nat d D) ∧ (@Ne Nat d X)) (r : rest y ((d, o) :: news)) :
    CEnd h₀ L m s₁ I C D X oI oC oD oX rest y { s₁ with heap := h', toks := tk } := by
  refine CEnd.intro F N ((d, o) :: news) (.of fun p hp => ?_) ⟨nd, off⟩ r
  have sm := sub.mem
  rcases List.mem_cons.mp hp with rfl | hp
  · exact .tail _ (sm _ (.head _))
  · rcases List.mem_cons.mp hp with rfl | hp
    · exact .tail _ (sm _ (.tail _ (.head _)))
    · rcases List.mem_cons.mp hp with rfl | hp
      · exact .tail _ (sm _ (.tail _ (.tail _ (.head _))))
      · rcases List.mem_cons.mp hp with rfl | hp
        · exact .tail _ (sm _ (.tail _ (.tail _ (.tail _ (.head _)))))
        · rcases List.mem_cons.mp hp with rfl | hp
          · exact .head _
          · exact .tail _ (sm _ (.tail _ (.tail _ (.tail _ (.tail _ hp)))))
theorem off4_app {I C D X : Addr} {news : Led} : ∀ {ext : Led}, (∀ p ∈ ext, p.1 ≠ I ∧ p.1 ≠ C ∧ p.1 ≠ D ∧ p.1 ≠ X) → Off4 I C D X news → Off4 I C D X (ext ++ news)
  | [], _, k => k
  | _ :: _, h, k => ⟨h _ (.head _), off4_app (fun p hp => h p (.tail _ hp)) k⟩
theorem CEnd.ext {h₀ : Heap} {L I C D X : Addr} {m : Str → Option Value} {s₁ : Shared} {oI oC oD oX : Obj} {rest : Value → Led → Prop} {y : Value} {h' : Heap} {tk : Nat} {ext news : Led}
    (F : Fr h₀ L h' m) (N : News h₀ L h' (ext ++ ((I, oI) :: (C, oC) :: (D, oD) :: (X, oX) :: news))) (f : Fresh ((I, oI) :: (C, oC) :: (D, oD) :: (X, oX) :: news) ext) (off : Off4 I C D X news) (r : rest y (ext ++ news)) :
    CEnd h₀ L m s₁ I C D X oI oC oD oX rest y { s₁ with heap := h', toks := tk } := by
  refine CEnd.intro F N (ext ++ news) (.of fun p hp => ?_) (off4_app (fun p hp => ⟨Nat.ne_of_gt (f.lt p hp _ (.head _)), Nat.ne_of_gt (f.lt p hp _ (.tail _ (.head _))), Nat.ne_of_gt (f.lt p hp _ (.tail _ (.tail _ (.head _)))), Nat.ne_of_gt (f.lt p hp _ (.tail _ (.tail _ (.tail _ (.head _)))))⟩) off) r
  simp only [List.mem_cons, List.mem_append] at hp ⊢
  rcases hp with h | h | h | h | h | h
  · exact .inr (.inl h)
  · exact .inr (.inr (.inl h))
  · exact .inr (.inr (.inr (.inl h)))
  · exact .inr (.inr (.inr (.inr (.inl h))))
  · exact .inl h
  · exact .inr (.inr (.inr (.inr (.inr h))))
/-- what is left of a comprehension over a range whose name is a cell -/
noncomputable def CRest (prog : Program) (w : World) (A : Around) (h₀ : Heap) (L : Addr) (m : Str → Option Value) (env : Env) (elt : PySem.Expr) (x : Str) (scope : Scope) (cl : List (Str × Addr)) (s : Shared) (Fin : List Value → Led → Prop) : Nat → Nat → List Value → Led → Prop
  | 0, _, ys, news => Fin ys news
  | k + 1, i, ys, news => ∀ I C D X oI oC oX t h tk (E' : Value → Shared → Prop), oX.data = .cell (some (.int (i : Int) t)) → Fr h₀ L h m → News h₀ L h ((I, oI) :: (C, oC) :: (D, lst ys) :: (X, oX) :: news) → Off4 I C D X news →
      ((@Ne Nat I C) ∧ (@Ne Nat I D) ∧ (@Ne Nat I X) ∧ (@Ne Nat C D) ∧ (@Ne Nat C X) ∧ (@Ne Nat D X)) →
      wpAny (model prog w) A (eval elt (compEnvC scope ((x, X) :: cl) C env)) (CEnd h₀ L m { s with heap := h, toks := tk } I C D X oI oC (lst ys) oX (fun y news' => CRest prog w A h₀ L m env elt x scope cl s Fin k (i + 1) (ys ++ [y]) news')) E' { s with heap := h, toks := tk }
section
variable {prog : Program} {w : World} {A : Around} {E : Value → Shared → Prop} {s : Shared} {h₀ : Heap} {L : Addr} {m : Str → Option Value} {env : Env} {elt iter : PySem.Expr} {x : Str} {px pos : Pos} {scope : Scope} {cl : List (Str × Addr)} {Fin : List Value → Led → Prop}
theorem CRest.zero {i : Nat} {ys : List Value} {news : Led} (h : Fin ys news) : CRest prog w A h₀ L m env elt x scope cl s Fin 0 i ys news := h
theorem CRest.succ {k i : Nat} {ys : List Value} {news : Led} (h : ∀ I C D X oI oC oX t h tk (E' : Value → Shared → Prop), oX.data = .cell (some (.int (i : Int) t)) → Fr h₀ L h m → News h₀ L h ((I, oI) :: (C, oC) :: (D, lst ys) :: (X, oX) :: news) → Off4 I C D X news →
      ((@Ne Nat I C) ∧ (@Ne Nat I D) ∧ (@Ne Nat I X) ∧ (@Ne Nat C D) ∧ (@Ne Nat C X) ∧ (@Ne Nat D X)) →
      wpAny (model prog w) A (eval elt (compEnvC scope ((x, X) :: cl) C env)) (CEnd h₀ L m { s with heap := h, toks := tk } I C D X oI oC (lst ys) oX (fun y news' => CRest prog w A h₀ L m env elt x scope cl s Fin k (i + 1) (ys ++ [y]) news')) E' { s with heap := h, toks := tk }) :
    CRest prog w A h₀ L m env elt x scope cl s Fin (k + 1) i ys news := h

theorem cturn {R : Result → Shared → Prop} {it acc : Value} {cenv : Env} {target : PySem.Expr} (ht : ∀ v, letOwnedTupleGo target it v = pure ())
    (h : wpAny (model prog w) A (pyNext it) (fun r s₁ => match r with
      | none => R (.ok .next) s₁
      | some v => wpAny (model prog w) A (assign target cenv v) (fun _ s₂ => wpAny (model prog w) A (eval elt cenv) (fun y s₃ => wpAny (model prog w) A (call (.builtin "list.append") [acc, y])
          (fun _ s₄ => codeAny (model prog w) A (.compLoop (.ListComp elt [⟨target, iter, [], 0⟩] scope pos) 0 it acc cenv) R s₄)
          (notedBy (model prog w) A cenv fun e s' => R (.error e) s') s₃) (notedBy (model prog w) A cenv fun e s' => R (.error e) s') s₂) (notedBy (model prog w) A cenv fun e s' => R (.error e) s') s₁)
      (notedBy (model prog w) A cenv fun e s' => R (.error e) s') s) :
    codeAny (model prog w) A (.compLoop (.ListComp elt [⟨target, iter, [], 0⟩] scope pos) 0 it acc cenv) R s := by
  refine codeAny_of_tree ?_
  show wpAny _ A ((compTurn (.ListComp elt [⟨target, iter, [], 0⟩] scope pos) 0 it acc cenv).onRaise (fun x => do noteFrame x cenv; theTreesLotGoes x)) _ _ s
  refine wpAny_noted ?_
  rw [compTurn_list1]
  refine wpAny_bind (wpAny_standAt (wpAny_bind (wpAny_mono h (fun r s₁ h₁ => ?_) fun _ _ h' => h')))
  cases r with
  | none => exact wpAny_pure h₁
  | some v =>
    refine wpAny_bind (wpAny_of_eq (ht v) ?_)
    refine wpAny_bind (wpAny_mono h₁ (fun _ s₂ h₂ => ?_) fun _ _ h' => h')
    exact wpAny_bind (wpAny_bind (wpAny_mono h₂ (fun y s₃ h₃ => wpAny_bind (wpAny_mono h₃ (fun _ s₄ h₄ => wpAny_pure (wpAny_pure ⟨rfl, h₄⟩)) fun _ _ h' => h')) fun _ _ h' => h'))
theorem off_but {h h' : Heap} {d : Addr} {news : Led} (N : News h₀ L h news) (hs : ∀ b o, b ≠ d → h.get? b = some o → h'.get? b = some o) (off : ∀ p ∈ news, p.1 ≠ d) : News h₀ L h' news :=
  fun p hp => ⟨hs _ _ (off p hp) (N p hp).1, (N p hp).2⟩
theorem fr_but {h h' : Heap} {d : Addr} (F : Fr h₀ L h m) (hs : ∀ b o, b ≠ d → h.get? b = some o → h'.get? b = some o) (hL : d ≠ L) (hn : h₀.get? d = none) : Fr h₀ L h' m :=
  ⟨F.ns.at' fun o e => hs L o (Ne.symm hL) e, fun b o e => hs b o (fun q => by rw [q, hn] at e; cases e) (F.keep b o e), F.above⟩
theorem same_but {h h' : Heap} {d : Addr} (hs : Heap.SameBut d h h') : ∀ b o, b ≠ d → h.get? b = some o → h'.get? b = some o := fun b o hb e => (hs.2 b hb).trans e
theorem cloop {R : Result → Shared → Prop} {I C D X : Addr} {n : Nat} (hh : A.handled = none) (hxk : (compEnvC scope ((x, X) :: cl) C env).kindOf x = some .cell) (hkind : scope.kind = .function) (hsz : n ≤ sizeLine)
    (ne : I ≠ C ∧ I ≠ D ∧ I ≠ X ∧ C ≠ D ∧ C ≠ X ∧ D ≠ X) (hL : I ≠ L ∧ C ≠ L ∧ D ≠ L ∧ X ≠ L) (hn : h₀.get? I = none ∧ h₀.get? C = none ∧ h₀.get? D = none ∧ h₀.get? X = none)
    (hR : ∀ h tk m' ys news', Fr h₀ L h m → News h₀ L h ((D, lst ys) :: news') → LCg.Off1 D news' → h.Ns C m' → (∀ p ∈ news', p.1 ≠ C) → Fin ys news' → R (.ok .next) { s with heap := h, toks := tk }) :
    ∀ (k i : Nat) (h : Heap) (tk : Nat) (ys : List Value) (mC : Str → Option Value) (v₀ : Option Value) (news : Led), i + k = n → ys.length = i → IsRangeIter h I (i : Int) (k : Int) 1 → h.Ns C mC → h.get? D = some (lst ys) → h.IsCell X v₀ →
      Fr h₀ L h m → News h₀ L h news → Off4 I C D X news → CRest prog w A h₀ L m env elt x scope cl s Fin k i ys news →
      codeAny (model prog w) A (.compLoop (.ListComp elt [⟨.Name x px, iter, [], 0⟩] scope pos) 0 (.ref I) (.ref D) (compEnvC scope ((x, X) :: cl) C env)) R { s with heap := h, toks := tk } := by
  obtain ⟨nIC, nID, nIX, nCD, nCX, nDX⟩ := ne
  obtain ⟨lI, lC, lD, lX⟩ := hL
  obtain ⟨zI, zC, zD, zX⟩ := hn
  intro k
  induction k with
  | zero =>
    intro i h tk ys mC v₀ news hik hyl hI hC hD hX F N off R'
    refine cturn (fun _ => rfl) ?_
    refine wpAny_pyNext_range_end hh hI (Int.le_refl _) fun h' he => ?_
    have hs : ∀ b o, b ≠ I → h.get? b = some o → h'.get? b = some o := fun b o hb e => he b o hb e
    have om := off.mem
    refine hR h' tk mC ys news (fr_but F hs lI zI) (fun p hp => ?_) ?_ (hC.at' fun o e => hs C o (Ne.symm nIC) e) (fun p hp => (om p hp).2.1) R'
    · rcases List.mem_cons.mp hp with rfl | hp
      · exact ⟨hs D _ (Ne.symm nID) hD, lD, zD⟩
      · exact ⟨hs _ _ (om p hp).1 (N p hp).1, (N p hp).2⟩
    · have : ∀ {l : Led}, (∀ p ∈ l, p.1 ≠ D) → LCg.Off1 D l := by
        intro l
        induction l with
        | nil => intro _; trivial
        | cons a r ih => intro z; exact ⟨z _ (.head _), ih fun p hp => z p (.tail _ hp)⟩
      exact this fun p hp => (om p hp).2.2.1
  | succ k ih =>
    intro i h tk ys mC v₀ news hik hyl hI hC hD hX F N off R'
    refine cturn (fun _ => rfl) ?_
    refine wpAny_pyNext_range_item hI (by lia) fun h1 hI1 hs1 => ?_
    have k1 := same_but hs1
    have om := off.mem
    refine wpAny_assign_Name (wpAny_storeName_cell (c := X) hkind hxk (by show List.lookup x ((x, X) :: cl) = _; simp) (v₀ := v₀) (by obtain ⟨o, e, d⟩ := hX; exact ⟨o, k1 X o (Ne.symm nIX) e, d⟩) fun h2 hX2 hs2 => ?_)
    have k2 := same_but hs2
    obtain ⟨oX, eX, dX⟩ := hX2
    obtain ⟨oC, eC, nC⟩ := LCg.ns_obj hC
    have F2 := fr_but (fr_but F k1 lI zI) k2 lX zX
    have hI2 : IsRangeIter h2 I ((i : Int) + 1) (((k + 1 : Nat) : Int) - 1) 1 := k2 I _ nIX hI1
    have N2 : News h₀ L h2 ((I, _) :: (C, oC) :: (D, lst ys) :: (X, oX) :: news) := fun p hp => by
      rcases List.mem_cons.mp hp with rfl | hp
      · exact ⟨hI2, lI, zI⟩
      · rcases List.mem_cons.mp hp with rfl | hp
        · exact ⟨k2 C _ nCX (k1 C _ (Ne.symm nIC) eC), lC, zC⟩
        · rcases List.mem_cons.mp hp with rfl | hp
          · exact ⟨k2 D _ nDX (k1 D _ (Ne.symm nID) hD), lD, zD⟩
          · rcases List.mem_cons.mp hp with rfl | hp
            · exact ⟨eX, lX, zX⟩
            · exact ⟨k2 _ _ (om p hp).2.2.2 (k1 _ _ (om p hp).1 (N p hp).1), (N p hp).2⟩
    refine wpAny_mono (R' I C D X _ oC oX _ h2 _ _ dX F2 N2 off ⟨nIC, nID, nIX, nCD, nCX, nDX⟩) (fun y s₃ h₃ => ?_) fun _ _ e => e
    obtain ⟨h4, tk4, news4, rfl, F4, N4, off4, R4⟩ := h₃
    have gI := (N4 (I, _) (.head _)).1
    have gC := (N4 (C, oC) (.tail _ (.head _))).1
    have gD := (N4 (D, lst ys) (.tail _ (.tail _ (.head _)))).1
    have gX := (N4 (X, oX) (.tail _ (.tail _ (.tail _ (.head _))))).1
    have N4' : News h₀ L h4 news4 := fun p hp => N4 p (.tail _ (.tail _ (.tail _ (.tail _ hp))))
    have om4 := off4.mem
    refine append_at (hsz := by show ys.toArray.size ≤ sizeLine; rw [List.size_toArray, hyl]; lia) gD fun h5 hs5 hD5 => ?_
    have k5 := same_but hs5
    refine ih (i + 1) h5 tk4 (ys ++ [y]) _ _ news4 (by lia) (by rw [List.length_append, List.length_singleton, hyl]) ?_ (nC.ns (k5 C _ nCD gC)) (hD5.trans (congrArg some (LCg.lst_snoc ys y))) ⟨oX, k5 X _ (Ne.symm nDX) gX, dX⟩ (fr_but F4 k5 lD zD)
      (off_but N4' k5 fun p hp => (om4 p hp).2.2.1) off4 R4
    have z := k5 I _ nID gI
    rw [show ((i + 1 : Nat) : Int) = (i : Int) + 1 by lia, show ((k : Nat) : Int) = ((k + 1 : Nat) : Int) - 1 by lia]
    exact z

noncomputable def CSrc (prog : Program) (w : World) (A : Around) (h₀ : Heap) (L : Addr) (m : Str → Option Value) (env : Env) (elt : PySem.Expr) (x : Str) (scope : Scope) (cl : List (Str × Addr)) (Q : Value → Shared → Prop) (xv : Value) (s₁ : Shared) : Prop :=
  ∃ r b t u v n news, xv = .ref r ∧ A.handled = none ∧ Fr h₀ L s₁.heap m ∧ News h₀ L s₁.heap news ∧ IsRange s₁.heap r 0 b 1 t u v ∧ Builtin.Range.small 0 b 1 = true ∧ Builtin.Range.rangeSize 0 b 1 = ((n : Nat) : Int) ∧ n ≤ sizeLine ∧
      ∀ g, CRest prog w A h₀ L m env elt x scope cl { s₁ with heap := g } (LCg.FinE h₀ L m { s₁ with heap := g } Q) n 0 [] news
theorem CSrc.intro {Q : Value → Shared → Prop} {r : Addr} {b : Int} {t u v : Tok} (n : Nat) {news : Led} {s₁ : Shared} (hh : A.handled = none) (F : Fr h₀ L s₁.heap m) (N : News h₀ L s₁.heap news) (hr : IsRange s₁.heap r 0 b 1 t u v) (h1 : Builtin.Range.small 0 b 1 = true) (h2 : Builtin.Range.rangeSize 0 b 1 = ((n : Nat) : Int)) (h3 : n ≤ sizeLine)
    (h : ∀ g, CRest prog w A h₀ L m env elt x scope cl { s₁ with heap := g } (LCg.FinE h₀ L m { s₁ with heap := g } Q) n 0 [] news) : CSrc prog w A h₀ L m env elt x scope cl Q (.ref r) s₁ := ⟨_, _, _, _, _, n, _, rfl, hh, F, N, hr, h1, h2, h3, h⟩
/-- a comprehension over a range whose name is a cell -/
theorem ListComp_C {Q : Value → Shared → Prop} (F₀ : Fr h₀ L s.heap m) (hclos : closureFor scope env = pure cl) (hcf : ∀ n, cellsFrom n scope.names cl = (x, n) :: cl) (hpc : ∀ h, pushCells h scope.names = h.push { cls := .type "cell", data := .cell none }) (hkind : scope.kind = .function)
    (hnames : ∀ y ∈ scope.names, y.2 = .local → scope.names.lookup y.1 = some .local) (hxk : (relabel scope env).names.lookup x = some .cell)
    (h : wpAny (model prog w) A (eval iter env) (CSrc prog w A h₀ L m env elt x scope cl Q) E s)
    (hs : ∀ x, foldedSetIterable iter env x = pure x) :
    wpAny (model prog w) A (eval (.ListComp elt [⟨.Name x px, iter, [], 0⟩] scope pos) env) Q E s := by
  rw [eval_ListComp]
  refine wpAny_comprehension_free (use := none) rfl hs hclos hkind hnames (wpAny_mono h (fun xv s₁ h₁ => ?_) fun _ _ e => e)
  obtain ⟨r, b, t, u, v, n, news, rfl, hh, F, N, hr, hsm, hn, hsz, R⟩ := h₁
  refine wpAny_pyIter_range hr hsm ?_
  rw [hn]
  refine wpAny_newObj_type ?_
  refine newEnv_one hcf hpc ?_
  dsimp only [newEnv]
  have sI : ∀ (h : Heap) (o : Obj), (h.push o).objs.size = h.objs.size + 1 := fun h o => Heap.size_push ..
  have up : ∀ b o, s₁.heap.get? b = some o → ((((s₁.heap.push { cls := .type "range_iterator", data := .fields #[rawInt 0, rawInt (n : Int), rawInt 1] }).push { cls := .type "list", data := .seq ([] : List Value).toArray }).push { cls := .type "dict", data := .dict #[] }).push { cls := .type "cell", data := .cell none }).get? b = some o :=
    fun b o e => Heap.get?_push_of_some _ (Heap.get?_push_of_some _ (Heap.get?_push_of_some _ (Heap.get?_push_of_some _ e)))
  have n0 : ∀ b, s₁.heap.objs.size ≤ b → h₀.get? b = none := fun b hb => by
    cases e : h₀.get? b with
    | none => rfl
    | some o => exact absurd (Heap.lt_size (F.keep _ _ e)) (Nat.not_lt.mpr hb)
  have lL : L < s₁.heap.objs.size := F.ns.lt
  simp only [sI]
  have q1 : ∀ a : Nat, a ≠ a + 1 + 1 ∧ a ≠ a + 1 ∧ a ≠ a + 1 + 1 + 1 ∧ a + 1 + 1 ≠ a + 1 ∧ a + 1 + 1 ≠ a + 1 + 1 + 1 ∧ a + 1 ≠ a + 1 + 1 + 1 := by lia
  have q2 : ∀ a l : Nat, l < a → a ≠ l ∧ a + 1 + 1 ≠ l ∧ a + 1 ≠ l ∧ a + 1 + 1 + 1 ≠ l := by lia
  have q3 : ∀ a : Nat, a ≤ a ∧ a ≤ a + 1 + 1 ∧ a ≤ a + 1 ∧ a ≤ a + 1 + 1 + 1 := by lia
  have q4 : ∀ a l : Nat, l < a → l ≠ a ∧ l ≠ a + 1 + 1 ∧ l ≠ a + 1 ∧ l ≠ a + 1 + 1 + 1 := by lia
  have loop : codeAny (model prog w) A (.compLoop (.ListComp elt [⟨.Name x px, iter, [], 0⟩] scope pos) 0 (.ref s₁.heap.objs.size) (.ref (s₁.heap.objs.size + 1)) (compEnvC scope ((x, s₁.heap.objs.size + 1 + 1 + 1) :: cl) (s₁.heap.objs.size + 1 + 1) env))
      (compPost (model prog w) A E none Q (.ref (s₁.heap.objs.size + 1)) (s₁.heap.objs.size + 1 + 1)) { s₁ with heap := ((((s₁.heap.push { cls := .type "range_iterator", data := .fields #[rawInt 0, rawInt (n : Int), rawInt 1] }).push { cls := .type "list", data := .seq ([] : List Value).toArray }).push { cls := .type "dict", data := .dict #[] }).push { cls := .type "cell", data := .cell none }), toks := s₁.toks } := by
    refine cloop (Fin := LCg.FinE h₀ L m { s₁ with heap := _ } Q) (n := n) (s := { s₁ with heap := _ }) hh hxk hkind hsz (q1 _) (q2 _ _ lL) ⟨n0 _ (q3 _).1, n0 _ (q3 _).2.1, n0 _ (q3 _).2.2.1, n0 _ (q3 _).2.2.2⟩ ?_ n 0 _ _ [] (fun _ => none) none news (by lia) rfl ?_ ?_ ?_ ?_ (F.keeps up) (N.grown up) (Off4.of fun p hp => ?_) (R _)
    · intro h tk m' ys news' F' N' o1 hC offC fin
      refine ⟨m', hC, fun h'' hs'' => ?_⟩
      refine fin _ h'' tk (fr_but F' (same_but hs'') (q2 _ _ lL).2.1 (n0 _ (q3 _).2.1)) (off_but N' (same_but hs'') fun p hp => ?_) o1
      rcases List.mem_cons.mp hp with rfl | hp
      · exact Ne.symm (q1 _).2.2.2.1
      · exact offC p hp
    · exact Heap.get?_push_of_some _ (Heap.get?_push_of_some _ (Heap.get?_push_of_some _ (Heap.get?_push_size _ rfl)))
    · have z := Heap.Ns.new ((s₁.heap.push { cls := .type "range_iterator", data := .fields #[rawInt 0, rawInt (n : Int), rawInt 1] }).push { cls := .type "list", data := .seq ([] : List Value).toArray }) (.type "dict")
      simp only [sI] at z
      exact z.keeps fun _ _ e => Heap.get?_push_of_some _ e
    · have z := Heap.get?_push_size (s₁.heap.push { cls := .type "range_iterator", data := .fields #[rawInt 0, rawInt (n : Int), rawInt 1] }) (o := { cls := .type "list", data := .seq ([] : List Value).toArray }) rfl
      rw [sI] at z
      exact Heap.get?_push_of_some _ (Heap.get?_push_of_some _ z)
    · have z := Heap.get?_push_size (((s₁.heap.push { cls := .type "range_iterator", data := .fields #[rawInt 0, rawInt (n : Int), rawInt 1] }).push { cls := .type "list", data := .seq ([] : List Value).toArray }).push { cls := .type "dict", data := .dict #[] }) (o := { cls := .type "cell", data := .cell none }) rfl
      simp only [sI] at z
      exact ⟨_, z, rfl⟩
    · exact q4 _ _ (Heap.lt_size (N p hp).1)
  refine codeAny_compStart_list loop ?_
  refine wpAny_pyIter_rangeiter (x := 0) (left := n) (step := 1) ?_ loop
  exact Heap.get?_push_of_some _ (Heap.get?_push_of_some _ (Heap.get?_push_of_some _ (Heap.get?_push_size _ rfl)))

/-! two clauses, both over ranges -/
noncomputable abbrev two (elt iter iter2 : PySem.Expr) (x z : Str) (px pz : Pos) (scope : Scope) (pos : Pos) : PySem.Expr := .ListComp elt [⟨.Name x px, iter, [], 0⟩, ⟨.Name z pz, iter2, [], 0⟩] scope pos
variable {iter2 : PySem.Expr} {z : Str} {pz : Pos}
theorem turn_in (it acc : Value) (cenv : Env) : compTurn (two elt iter iter2 x z px pz scope pos) 1 it acc cenv = (standAt iter2.pos >>= fun _ => pyNext it >>= fun r => match r with
      | none => pure (.done .next)
      | some v => letOwnedTupleGo (.Name z pz) it v >>= fun _ => assign (.Name z pz) cenv v >>= fun _ =>
        (eval elt cenv >>= fun y => call (.builtin "list.append") [acc, y] >>= fun _ => pure ()) >>= fun _ =>
          again (.compLoop (two elt iter iter2 x z px pz scope pos) 1 it acc cenv)) := by rfl
theorem turn_out (it acc : Value) (cenv : Env) : compTurn (two elt iter iter2 x z px pz scope pos) 0 it acc cenv = (standAt iter.pos >>= fun _ => pyNext it >>= fun r => match r with
      | none => pure (.done .next)
      | some v => letOwnedTupleGo (.Name x px) it v >>= fun _ => assign (.Name x px) cenv v >>= fun _ =>
        (eval iter2 cenv >>= fun y => standAt iter2.pos >>= fun _ => foldedSetIterable iter2 cenv y >>= fun y => holding [y] (pyIter y) >>= fun it' => runOwn (.compStart (two elt iter iter2 x z px pz scope pos) 1 it' acc cenv) cenv >>= fun _ => again (.compLoop (two elt iter iter2 x z px pz scope pos) 0 it acc cenv))) := by rfl
theorem start_in {R : Result → Shared → Prop} {it acc : Value} {cenv : Env}
    (h0 : codeAny (model prog w) A (.compLoop (two elt iter iter2 x z px pz scope pos) 1 it acc cenv) R s)
    (h : wpAny (model prog w) A (pyIter it) (fun it' s' => codeAny (model prog w) A (.compLoop (two elt iter iter2 x z px pz scope pos) 1 it' acc cenv) R s')
      (notedBy (model prog w) A cenv fun x s' => R (.error x) s') s) :
    codeAny (model prog w) A (.compStart (two elt iter iter2 x z px pz scope pos) 1 it acc cenv) R s := by
  refine codeAny_of_tree ?_
  show wpAny _ _ ((compStart (two elt iter iter2 x z px pz scope pos) 1 it acc cenv).onRaise (fun x => do noteFrame x cenv; standAt theWindowsPlace)) _ _ s
  refine wpAny_notedAt ?_
  unfold compStart
  show wpAny _ _ (ask >>= _) _ _ s
  refine wpAny_bind (wpAny_askSetting (wpAny_ite ?_))
  split
  · first
      | exact wpAny_bind (wpAny_pure (wpAny_pure (And.intro rfl h0)))
      | exact wpAny_pure (And.intro rfl h0)
  · refine wpAny_bind (wpAny_rule ?_)
    first
      | exact wpAny_bind (wpAny_standAt (wpAny_bind (wpAny_mono h (fun it' s' h' => wpAny_pure (And.intro rfl h')) fun _ _ x => x)))
      | (show wpAny _ _ (standAt iter2.pos >>= _) _ _ s; exact wpAny_bind (wpAny_standAt (wpAny_bind (wpAny_mono h (fun it' s' h' => wpAny_pure (And.intro rfl h')) fun _ _ x => x))))
theorem cturn_in {R : Result → Shared → Prop} {it acc : Value} {cenv : Env} (ht : ∀ v, letOwnedTupleGo (.Name z pz) it v = pure ())
    (h : wpAny (model prog w) A (pyNext it) (fun r s₁ => match r with
      | none => R (.ok .next) s₁
      | some v => wpAny (model prog w) A (assign (.Name z pz) cenv v) (fun _ s₂ => wpAny (model prog w) A (eval elt cenv) (fun y s₃ => wpAny (model prog w) A (call (.builtin "list.append") [acc, y])
          (fun _ s₄ => codeAny (model prog w) A (.compLoop (two elt iter iter2 x z px pz scope pos) 1 it acc cenv) R s₄)
          (notedBy (model prog w) A cenv fun e s' => R (.error e) s') s₃) (notedBy (model prog w) A cenv fun e s' => R (.error e) s') s₂) (notedBy (model prog w) A cenv fun e s' => R (.error e) s') s₁)
      (notedBy (model prog w) A cenv fun e s' => R (.error e) s') s) :
    codeAny (model prog w) A (.compLoop (two elt iter iter2 x z px pz scope pos) 1 it acc cenv) R s := by
  refine codeAny_of_tree ?_
  show wpAny _ A ((compTurn (two elt iter iter2 x z px pz scope pos) 1 it acc cenv).onRaise (fun x => do noteFrame x cenv; theTreesLotGoes x)) _ _ s
  refine wpAny_noted ?_
  rw [turn_in]
  refine wpAny_bind (wpAny_standAt (wpAny_bind (wpAny_mono h (fun r s₁ h₁ => ?_) fun _ _ h' => h')))
  cases r with
  | none => exact wpAny_pure h₁
  | some v =>
    refine wpAny_bind (wpAny_of_eq (ht v) ?_)
    refine wpAny_bind (wpAny_mono h₁ (fun _ s₂ h₂ => ?_) fun _ _ h' => h')
    exact wpAny_bind (wpAny_bind (wpAny_mono h₂ (fun y s₃ h₃ => wpAny_bind (wpAny_mono h₃ (fun _ s₄ h₄ => wpAny_pure (wpAny_pure ⟨rfl, h₄⟩)) fun _ _ h' => h')) fun _ _ h' => h'))
theorem cturn_out {R : Result → Shared → Prop} {it acc : Value} {cenv : Env} (ht : ∀ v, letOwnedTupleGo (.Name x px) it v = pure ()) (hs : ∀ y, foldedSetIterable iter2 cenv y = pure y)
    (h : wpAny (model prog w) A (pyNext it) (fun r s₁ => match r with
      | none => R (.ok .next) s₁
      | some v => wpAny (model prog w) A (assign (.Name x px) cenv v) (fun _ s₂ => wpAny (model prog w) A (eval iter2 cenv) (fun y s₃ => wpAny (model prog w) A (pyIter y)
          (fun it' s₄ => codeAny (model prog w) A (.compStart (two elt iter iter2 x z px pz scope pos) 1 it' acc cenv) (fun r s₅ => match r with
            | .ok _ => codeAny (model prog w) A (.compLoop (two elt iter iter2 x z px pz scope pos) 0 it acc cenv) R s₅
            | .error e => cameBackBy (model prog w) A cenv (notedBy (model prog w) A cenv fun e s' => R (.error e) s') e s₅) s₄)
          (notedBy (model prog w) A cenv fun e s' => R (.error e) s') s₃) (notedBy (model prog w) A cenv fun e s' => R (.error e) s') s₂) (notedBy (model prog w) A cenv fun e s' => R (.error e) s') s₁)
      (notedBy (model prog w) A cenv fun e s' => R (.error e) s') s) :
    codeAny (model prog w) A (.compLoop (two elt iter iter2 x z px pz scope pos) 0 it acc cenv) R s := by
  refine codeAny_of_tree ?_
  show wpAny _ A ((compTurn (two elt iter iter2 x z px pz scope pos) 0 it acc cenv).onRaise (fun x => do noteFrame x cenv; theTreesLotGoes x)) _ _ s
  refine wpAny_noted ?_
  rw [turn_out]
  refine wpAny_bind (wpAny_standAt (wpAny_bind (wpAny_mono h (fun r s₁ h₁ => ?_) fun _ _ h' => h')))
  cases r with
  | none => exact wpAny_pure h₁
  | some v =>
    refine wpAny_bind (wpAny_of_eq (ht v) ?_)
    refine wpAny_bind (wpAny_mono h₁ (fun _ s₂ h₂ => ?_) fun _ _ h' => h')
    refine wpAny_bind (wpAny_mono h₂ (fun y s₃ h₃ => ?_) fun _ _ h' => h')
    refine wpAny_bind (wpAny_standAt (wpAny_bind (wpAny_of_eq (hs y) (wpAny_bind (wpAny_holding (wpAny_mono h₃ (fun it' s₄ h₄ => ?_) fun _ _ h' => h'))))))
    refine wpAny_bind (wpAny_runOwn ?_)
    refine codeAny_mono h₄ fun r s₅ h₅ => ?_
    cases r with
    | ok f => exact wpAny_pure ⟨rfl, h₅⟩
    | error e => exact h₅

noncomputable def InRest (prog : Program) (w : World) (A : Around) (h₀ : Heap) (L : Addr) (m : Str → Option Value) (env : Env) (elt : PySem.Expr) (x z : Str) (scope : Scope) (cl : List (Str × Addr)) (s : Shared) (i : Nat) (K : List Value → Led → Prop) : Nat → Nat → List Value → Led → Prop
  | 0, _, ys, news => K ys news
  | k + 1, j, ys, news => ∀ J C D I oJ oC oI m₂ t u h tk (E' : Value → Shared → Prop), LCg.NsObj oC m₂ → m₂ x = some (.int (i : Int) t) → m₂ z = some (.int (j : Int) u) → Fr h₀ L h m → News h₀ L h ((J, oJ) :: (C, oC) :: (D, lst ys) :: (I, oI) :: news) → Off4 J C D I news →
      ((@Ne Nat J C) ∧ (@Ne Nat J D) ∧ (@Ne Nat J I) ∧ (@Ne Nat C D) ∧ (@Ne Nat C I) ∧ (@Ne Nat D I)) →
      wpAny (model prog w) A (eval elt (compEnvC scope cl C env)) (CEnd h₀ L m { s with heap := h, toks := tk } J C D I oJ oC (lst ys) oI (fun y news' => InRest prog w A h₀ L m env elt x z scope cl s i K k (j + 1) (ys ++ [y]) news')) E' { s with heap := h, toks := tk }
noncomputable def InSrc (prog : Program) (w : World) (A : Around) (h₀ : Heap) (L : Addr) (m : Str → Option Value) (env : Env) (elt : PySem.Expr) (x z : Str) (scope : Scope) (cl : List (Str × Addr)) (s : Shared) (i : Nat) (K : List Value → Led → Prop) (I C D : Addr) (oI oC : Obj) (ys : List Value) (xv : Value) (s' : Shared) : Prop :=
  ∃ r b t u v n h' tk' news', xv = .ref r ∧ s' = { s with heap := h', toks := tk' } ∧ Fr h₀ L h' m ∧ News h₀ L h' ((I, oI) :: (C, oC) :: (D, lst ys) :: news') ∧ LCg.Off3 I C D news' ∧ IsRange h' r 0 b 1 t u v ∧ Builtin.Range.small 0 b 1 = true ∧ Builtin.Range.rangeSize 0 b 1 = ((n : Nat) : Int) ∧ n ≤ 1000 ∧
    InRest prog w A h₀ L m env elt x z scope cl s i K n 0 ys news'
theorem InSrc.intro {prog : Program} {w : World} {A : Around} {h₀ : Heap} {L : Addr} {m : Str → Option Value} {env : Env} {elt : PySem.Expr} {x z : Str} {scope : Scope} {cl : List (Str × Addr)} {s : Shared} {i : Nat} {K : List Value → Led → Prop} {I C D : Addr} {oI oC : Obj} {ys : List Value} {r : Addr} {b : Int} {t u v : Tok} (n : Nat) {h' : Heap} {tk' : Nat} {news' : Led}
    (F : Fr h₀ L h' m) (N : News h₀ L h' ((I, oI) :: (C, oC) :: (D, lst ys) :: news')) (off : LCg.Off3 I C D news') (hr : IsRange h' r 0 b 1 t u v) (h1 : Builtin.Range.small 0 b 1 = true) (h2 : Builtin.Range.rangeSize 0 b 1 = ((n : Nat) : Int)) (h3 : n ≤ 1000)
    (h : InRest prog w A h₀ L m env elt x z scope cl s i K n 0 ys news') : InSrc prog w A h₀ L m env elt x z scope cl s i K I C D oI oC ys (.ref r) { s with heap := h', toks := tk' } := ⟨_, _, _, _, _, n, _, _, _, rfl, rfl, F, N, off, hr, h1, h2, h3, h⟩
noncomputable def OutRest (prog : Program) (w : World) (A : Around) (h₀ : Heap) (L : Addr) (m : Str → Option Value) (env : Env) (elt iter2 : PySem.Expr) (x z : Str) (scope : Scope) (cl : List (Str × Addr)) (s : Shared) (Fin : List Value → Led → Prop) : Nat → Nat → List Value → Led → Prop
  | 0, _, ys, news => ys.length ≤ 1000 ∧ Fin ys news
  | k + 1, i, ys, news => ys.length ≤ 1000 ∧ ∀ I C D oI oC m₂ t h tk (E' : Value → Shared → Prop), LCg.NsObj oC m₂ → m₂ x = some (.int (i : Int) t) → Fr h₀ L h m → News h₀ L h ((I, oI) :: (C, oC) :: (D, lst ys) :: news) → LCg.Off3 I C D news → ((@Ne Nat I C) ∧ (@Ne Nat I D) ∧ (@Ne Nat C D)) →
      wpAny (model prog w) A (eval iter2 (compEnvC scope cl C env)) (InSrc prog w A h₀ L m env elt x z scope cl s i (fun ys news => OutRest prog w A h₀ L m env elt iter2 x z scope cl s Fin k (i + 1) ys news) I C D oI oC ys) E' { s with heap := h, toks := tk }
section
variable {prog : Program} {w : World} {A : Around} {E : Value → Shared → Prop} {s : Shared} {h₀ : Heap} {L : Addr} {m : Str → Option Value} {env : Env} {elt iter iter2 : PySem.Expr} {x z : Str} {px pz pos : Pos} {scope : Scope} {cl : List (Str × Addr)} {Fin : List Value → Led → Prop}
theorem iloop {R : Result → Shared → Prop} {J C D I : Addr} {oI : Obj} {n i : Nat} {v1 : Value} {K : List Value → Led → Prop} (hh : A.handled = none) (hz : (compEnvC scope cl C env).kindOf z = some .local) (hxz : x ≠ z) (hkind : scope.kind = .function) (t₁ : Tok) (hv1 : v1 = .int (i : Int) t₁)
    (ne : J ≠ C ∧ J ≠ D ∧ J ≠ I ∧ C ≠ D ∧ C ≠ I ∧ D ≠ I) (hL : J ≠ L ∧ C ≠ L ∧ D ≠ L ∧ I ≠ L) (hn : h₀.get? J = none ∧ h₀.get? C = none ∧ h₀.get? D = none ∧ h₀.get? I = none)
    (hR : ∀ h tk m' ys news', Fr h₀ L h m → h.get? I = some oI → h.get? D = some (lst ys) → News h₀ L h news' → (∀ p ∈ news', p.1 ≠ I ∧ p.1 ≠ C ∧ p.1 ≠ D) → h.Ns C m' → K ys news' → R (.ok .next) { s with heap := h, toks := tk }) :
    ∀ (k j : Nat) (h : Heap) (tk : Nat) (ys : List Value) (mC : Str → Option Value) (news : Led), j + k = n → ys.length + k ≤ 2000 → IsRangeIter h J (j : Int) (k : Int) 1 → h.Ns C mC → mC x = some v1 → h.get? D = some (lst ys) → h.get? I = some oI →
      Fr h₀ L h m → News h₀ L h news → Off4 J C D I news → InRest prog w A h₀ L m env elt x z scope cl s i K k j ys news →
      codeAny (model prog w) A (.compLoop (two elt iter iter2 x z px pz scope pos) 1 (.ref J) (.ref D) (compEnvC scope cl C env)) R { s with heap := h, toks := tk } := by
  obtain ⟨nJC, nJD, nJI, nCD, nCI, nDI⟩ := ne
  obtain ⟨lJ, lC, lD, lI⟩ := hL
  obtain ⟨zJ, zC, zD, zI⟩ := hn
  intro k
  induction k with
  | zero =>
    intro j h tk ys mC news hjk hyl hJ hC hx hD hI F N off R'
    refine cturn_in (fun _ => rfl) ?_
    refine wpAny_pyNext_range_end hh hJ (Int.le_refl _) fun h' he => ?_
    have hs : ∀ b o, b ≠ J → h.get? b = some o → h'.get? b = some o := fun b o hb e => he b o hb e
    have om := off.mem
    exact hR h' tk mC ys news (fr_but F hs lJ zJ) (hs I _ (Ne.symm nJI) hI) (hs D _ (Ne.symm nJD) hD) (off_but N hs fun p hp => (om p hp).1) (fun p hp => ⟨(om p hp).2.2.2, (om p hp).2.1, (om p hp).2.2.1⟩) (hC.at' fun o e => hs C o (Ne.symm nJC) e) R'
  | succ k ih =>
    intro j h tk ys mC news hjk hyl hJ hC hx hD hI F N off R'
    refine cturn_in (fun _ => rfl) ?_
    refine wpAny_pyNext_range_item hJ (by lia) fun h1 hJ1 hs1 => ?_
    have k1 := same_but hs1
    have om := off.mem
    refine wpAny_assign_Name (wpAny_storeName_local hz (hC.at' fun o e => k1 C o (Ne.symm nJC) e) (fun h2 hn2 hs2 => ?_) (by show (scope.kind == .class || _) = false; simp [compEnvC, relabel, hkind]))
    have k2 := same_but hs2
    obtain ⟨oC, eC, nC⟩ := LCg.ns_obj hn2
    have F2 := fr_but (fr_but F k1 lJ zJ) k2 lC zC
    have hJ2 : IsRangeIter h2 J ((j : Int) + 1) (((k + 1 : Nat) : Int) - 1) 1 := k2 J _ nJC hJ1
    have N2 : News h₀ L h2 ((J, _) :: (C, oC) :: (D, lst ys) :: (I, oI) :: news) := fun p hp => by
      rcases List.mem_cons.mp hp with rfl | hp
      · exact ⟨hJ2, lJ, zJ⟩
      · rcases List.mem_cons.mp hp with rfl | hp
        · exact ⟨eC, lC, zC⟩
        · rcases List.mem_cons.mp hp with rfl | hp
          · exact ⟨k2 D _ (Ne.symm nCD) (k1 D _ (Ne.symm nJD) hD), lD, zD⟩
          · rcases List.mem_cons.mp hp with rfl | hp
            · exact ⟨k2 I _ (Ne.symm nCI) (k1 I _ (Ne.symm nJI) hI), lI, zI⟩
            · exact ⟨k2 _ _ (om p hp).2.1 (k1 _ _ (om p hp).1 (N p hp).1), (N p hp).2⟩
    have hx2 : (if x = z then some (Value.int (j : Int) tk) else mC x) = some (.int (i : Int) t₁) := by rw [if_neg hxz, hx, hv1]
    refine wpAny_mono (R' J C D I _ oC oI _ _ _ h2 _ _ nC hx2 (if_pos rfl) F2 N2 off ⟨nJC, nJD, nJI, nCD, nCI, nDI⟩) (fun y s₃ h₃ => ?_) fun _ _ e => e
    obtain ⟨h4, tk4, news4, rfl, F4, N4, off4, R4⟩ := h₃
    have gJ := (N4 (J, _) (.head _)).1
    have gC := (N4 (C, oC) (.tail _ (.head _))).1
    have gD := (N4 (D, lst ys) (.tail _ (.tail _ (.head _)))).1
    have gI := (N4 (I, oI) (.tail _ (.tail _ (.tail _ (.head _))))).1
    have N4' : News h₀ L h4 news4 := fun p hp => N4 p (.tail _ (.tail _ (.tail _ (.tail _ hp))))
    have om4 := off4.mem
    refine append_at (hsz := by show ys.toArray.size ≤ sizeLine; rw [List.size_toArray]; exact Nat.le_trans (by lia : ys.length ≤ 2000) (by decide)) gD fun h5 hs5 hD5 => ?_
    have k5 := same_but hs5
    refine ih (j + 1) h5 tk4 (ys ++ [y]) _ news4 (by lia) (by rw [List.length_append, List.length_singleton]; lia) ?_ (nC.ns (k5 C _ nCD gC)) (by rw [hv1]; exact hx2) (hD5.trans (congrArg some (LCg.lst_snoc ys y))) (k5 I _ (Ne.symm nDI) gI) (fr_but F4 k5 lD zD)
      (off_but N4' k5 fun p hp => (om4 p hp).2.2.1) off4 R4
    have q := k5 J _ nJD gJ
    rw [show ((j + 1 : Nat) : Int) = (j : Int) + 1 by lia, show ((k : Nat) : Int) = ((k + 1 : Nat) : Int) - 1 by lia]
    exact q

theorem oloop {R : Result → Shared → Prop} {I C D : Addr} {n : Nat} (hh : A.handled = none) (hx : (compEnvC scope cl C env).kindOf x = some .local) (hz : (compEnvC scope cl C env).kindOf z = some .local) (hxz : x ≠ z) (hkind : scope.kind = .function)
    (hs2 : ∀ y, foldedSetIterable iter2 (compEnvC scope cl C env) y = pure y)
    (ne : I ≠ C ∧ I ≠ D ∧ C ≠ D) (hL : I ≠ L ∧ C ≠ L ∧ D ≠ L) (hn : h₀.get? I = none ∧ h₀.get? C = none ∧ h₀.get? D = none)
    (hR : ∀ h tk m' ys news', Fr h₀ L h m → News h₀ L h ((D, lst ys) :: news') → LCg.Off1 D news' → h.Ns C m' → (∀ p ∈ news', p.1 ≠ C) → Fin ys news' → R (.ok .next) { s with heap := h, toks := tk }) :
    ∀ (k i : Nat) (h : Heap) (tk : Nat) (ys : List Value) (mC : Str → Option Value) (news : Led), i + k = n → IsRangeIter h I (i : Int) (k : Int) 1 → h.Ns C mC → h.get? D = some (lst ys) →
      Fr h₀ L h m → News h₀ L h news → LCg.Off3 I C D news → OutRest prog w A h₀ L m env elt iter2 x z scope cl s Fin k i ys news →
      codeAny (model prog w) A (.compLoop (two elt iter iter2 x z px pz scope pos) 0 (.ref I) (.ref D) (compEnvC scope cl C env)) R { s with heap := h, toks := tk } := by
  obtain ⟨nIC, nID, nCD⟩ := ne
  obtain ⟨lI, lC, lD⟩ := hL
  obtain ⟨zI, zC, zD⟩ := hn
  intro k
  induction k with
  | zero =>
    intro i h tk ys mC news hik hI hC hD F N off R'
    refine cturn_out (fun _ => rfl) hs2 ?_
    refine wpAny_pyNext_range_end hh hI (Int.le_refl _) fun h' he => ?_
    have hs : ∀ b o, b ≠ I → h.get? b = some o → h'.get? b = some o := fun b o hb e => he b o hb e
    have om := off.mem
    refine hR h' tk mC ys news (fr_but F hs lI zI) (fun p hp => ?_) off.one (hC.at' fun o e => hs C o (Ne.symm nIC) e) (fun p hp => (om p hp).2.1) R'.2
    rcases List.mem_cons.mp hp with rfl | hp
    · exact ⟨hs D _ (Ne.symm nID) hD, lD, zD⟩
    · exact ⟨hs _ _ (om p hp).1 (N p hp).1, (N p hp).2⟩
  | succ k ih =>
    intro i h tk ys mC news hik hI hC hD F N off R'
    refine cturn_out (fun _ => rfl) hs2 ?_
    refine wpAny_pyNext_range_item hI (by lia) fun h1 hI1 hs1 => ?_
    have k1 := same_but hs1
    have om := off.mem
    refine wpAny_assign_Name (wpAny_storeName_local hx (hC.at' fun o e => k1 C o (Ne.symm nIC) e) (fun h2 hn2 hs2' => ?_) (by show (scope.kind == .class || _) = false; simp [compEnvC, relabel, hkind]))
    have k2 := same_but hs2'
    obtain ⟨oC, eC, nC⟩ := LCg.ns_obj hn2
    have F2 := fr_but (fr_but F k1 lI zI) k2 lC zC
    have hI2 : IsRangeIter h2 I ((i : Int) + 1) (((k + 1 : Nat) : Int) - 1) 1 := k2 I _ nIC hI1
    have N2 : News h₀ L h2 ((I, _) :: (C, oC) :: (D, lst ys) :: news) := fun p hp => by
      rcases List.mem_cons.mp hp with rfl | hp
      · exact ⟨hI2, lI, zI⟩
      · rcases List.mem_cons.mp hp with rfl | hp
        · exact ⟨eC, lC, zC⟩
        · rcases List.mem_cons.mp hp with rfl | hp
          · exact ⟨k2 D _ (Ne.symm nCD) (k1 D _ (Ne.symm nID) hD), lD, zD⟩
          · exact ⟨k2 _ _ (om p hp).2.1 (k1 _ _ (om p hp).1 (N p hp).1), (N p hp).2⟩
    refine wpAny_mono (R'.2 I C D _ oC _ _ h2 _ _ nC (if_pos rfl) F2 N2 off ⟨nIC, nID, nCD⟩) (fun xv s₃ h₃ => ?_) fun _ _ e => e
    obtain ⟨r, b, t, u, v, n', h4, tk4, news4, rfl, rfl, F4, N4, off4, hr, hsm, hn', hsz, R4⟩ := h₃
    refine wpAny_pyIter_range hr hsm ?_
    rw [hn']
    dsimp only
    have up : ∀ b o, h4.get? b = some o → (h4.push { cls := .type "range_iterator", data := .fields #[rawInt 0, rawInt (n' : Int), rawInt 1] }).get? b = some o := fun b o e => Heap.get?_push_of_some _ e
    have F5 := F4.keeps up
    have N5 := N4.grown up
    have gI := (N5 (I, _) (.head _)).1
    have gC := (N5 (C, oC) (.tail _ (.head _))).1
    have gD := (N5 (D, lst ys) (.tail _ (.tail _ (.head _)))).1
    have N5' : News h₀ L _ news4 := fun p hp => N5 p (.tail _ (.tail _ (.tail _ hp)))
    have om4 := off4.mem
    have lt : ∀ {b o}, h4.get? b = some o → b ≠ h4.objs.size := fun e => Nat.ne_of_lt (Heap.lt_size e)
    have gJ : IsRangeIter (h4.push { cls := .type "range_iterator", data := .fields #[rawInt 0, rawInt (n' : Int), rawInt 1] }) h4.objs.size ((0 : Nat) : Int) (n' : Int) 1 := Heap.get?_push_size _ rfl
    have z4 : h₀.get? h4.objs.size = none := next_is_new F4
    have loop : codeAny (model prog w) A (.compLoop (two elt iter iter2 x z px pz scope pos) 1 (.ref h4.objs.size) (.ref D) (compEnvC scope cl C env)) (fun r s₅ => match r with
            | .ok _ => codeAny (model prog w) A (.compLoop (two elt iter iter2 x z px pz scope pos) 0 (.ref I) (.ref D) (compEnvC scope cl C env)) R s₅
            | .error e => cameBackBy (model prog w) A (compEnvC scope cl C env) (notedBy (model prog w) A (compEnvC scope cl C env) fun e s' => R (.error e) s') e s₅)
        { s with heap := (h4.push { cls := .type "range_iterator", data := .fields #[rawInt 0, rawInt (n' : Int), rawInt 1] }), toks := tk4 } := by
      refine iloop (oI := _) (n := n') (i := i) hh hz hxz hkind _ rfl ⟨Ne.symm (lt (N4 (C, oC) (.tail _ (.head _))).1), Ne.symm (lt (N4 (D, lst ys) (.tail _ (.tail _ (.head _)))).1), Ne.symm (lt (N4 (I, _) (.head _)).1), nCD, Ne.symm nIC, Ne.symm nID⟩
        ⟨Nat.ne_of_gt F4.ns.lt, lC, lD, lI⟩ ⟨z4, zC, zD, zI⟩ (fun h6 tk6 m6 ys6 news6 F6 gI6 gD6 N6 off6 hC6 R6 => ?_) n' 0 _ _ ys _ news4 (by lia) (by have := R'.1; lia) gJ (nC.ns gC) (if_pos rfl) gD gI F5 N5' (Off4.of fun p hp => ⟨lt (N4 p (.tail _ (.tail _ (.tail _ hp)))).1, (om4 p hp).2.1, (om4 p hp).2.2, (om4 p hp).1⟩) R4
      refine ih (i + 1) h6 tk6 ys6 m6 news6 (by lia) ?_ hC6 gD6 F6 N6 (LCg.Off3.of fun p hp => off6 p hp) R6
      rw [show ((i + 1 : Nat) : Int) = (i : Int) + 1 by lia, show ((k : Nat) : Int) = ((k + 1 : Nat) : Int) - 1 by lia]
      exact gI6
    refine start_in loop ?_
    exact wpAny_pyIter_rangeiter (x := ((0 : Nat) : Int)) (left := n') (step := 1) gJ loop

noncomputable def OSrc (prog : Program) (w : World) (A : Around) (h₀ : Heap) (L : Addr) (m : Str → Option Value) (env : Env) (elt iter2 : PySem.Expr) (x z : Str) (scope : Scope) (cl : List (Str × Addr)) (Q : Value → Shared → Prop) (xv : Value) (s₁ : Shared) : Prop :=
  ∃ r b t u v n news, xv = .ref r ∧ A.handled = none ∧ Fr h₀ L s₁.heap m ∧ News h₀ L s₁.heap news ∧ IsRange s₁.heap r 0 b 1 t u v ∧ Builtin.Range.small 0 b 1 = true ∧ Builtin.Range.rangeSize 0 b 1 = ((n : Nat) : Int) ∧
      ∀ g, OutRest prog w A h₀ L m env elt iter2 x z scope cl { s₁ with heap := g } (LCg.FinE h₀ L m { s₁ with heap := g } Q) n 0 [] news
theorem OSrc.intro {Q : Value → Shared → Prop} {r : Addr} {b : Int} {t u v : Tok} (n : Nat) {news : Led} {s₁ : Shared} (hh : A.handled = none) (F : Fr h₀ L s₁.heap m) (N : News h₀ L s₁.heap news) (hr : IsRange s₁.heap r 0 b 1 t u v) (h1 : Builtin.Range.small 0 b 1 = true) (h2 : Builtin.Range.rangeSize 0 b 1 = ((n : Nat) : Int))
    (h : ∀ g, OutRest prog w A h₀ L m env elt iter2 x z scope cl { s₁ with heap := g } (LCg.FinE h₀ L m { s₁ with heap := g } Q) n 0 [] news) : OSrc prog w A h₀ L m env elt iter2 x z scope cl Q (.ref r) s₁ := ⟨_, _, _, _, _, n, _, rfl, hh, F, N, hr, h1, h2, h⟩
theorem OutRest.zero {i : Nat} {ys : List Value} {news : Led} (h0 : ys.length ≤ 1000) (h : Fin ys news) : OutRest prog w A h₀ L m env elt iter2 x z scope cl s Fin 0 i ys news := ⟨h0, h⟩
theorem OutRest.succ {k i : Nat} {ys : List Value} {news : Led} (h0 : ys.length ≤ 1000) (h : ∀ I C D oI oC m₂ t h tk (E' : Value → Shared → Prop), LCg.NsObj oC m₂ → m₂ x = some (.int (i : Int) t) → Fr h₀ L h m → News h₀ L h ((I, oI) :: (C, oC) :: (D, lst ys) :: news) → LCg.Off3 I C D news → ((@Ne Nat I C) ∧ (@Ne Nat I D) ∧ (@Ne Nat C D)) →
      wpAny (model prog w) A (eval iter2 (compEnvC scope cl C env)) (InSrc prog w A h₀ L m env elt x z scope cl s i (fun ys news => OutRest prog w A h₀ L m env elt iter2 x z scope cl s Fin k (i + 1) ys news) I C D oI oC ys) E' { s with heap := h, toks := tk }) :
    OutRest prog w A h₀ L m env elt iter2 x z scope cl s Fin (k + 1) i ys news := ⟨h0, h⟩
theorem InRest.zero {i j : Nat} {K : List Value → Led → Prop} {ys : List Value} {news : Led} (h : K ys news) : InRest prog w A h₀ L m env elt x z scope cl s i K 0 j ys news := h
theorem InRest.succ {k i j : Nat} {K : List Value → Led → Prop} {ys : List Value} {news : Led} (h : ∀ J C D I oJ oC oI m₂ t u h tk (E' : Value → Shared → Prop), LCg.NsObj oC m₂ → m₂ x = some (.int (i : Int) t) → m₂ z = some (.int (j : Int) u) → Fr h₀ L h m → News h₀ L h ((J, oJ) :: (C, oC) :: (D, lst ys) :: (I, oI) :: news) → Off4 J C D I news →
      ((@Ne Nat J C) ∧ (@Ne Nat J D) ∧ (@Ne Nat J I) ∧ (@Ne Nat C D) ∧ (@Ne Nat C I) ∧ (@Ne Nat D I)) →
      wpAny (model prog w) A (eval elt (compEnvC scope cl C env)) (CEnd h₀ L m { s with heap := h, toks := tk } J C D I oJ oC (lst ys) oI (fun y news' => InRest prog w A h₀ L m env elt x z scope cl s i K k (j + 1) (ys ++ [y]) news')) E' { s with heap := h, toks := tk }) :
    InRest prog w A h₀ L m env elt x z scope cl s i K (k + 1) j ys news := h
/-- a comprehension of two clauses, both over ranges, both names local -/
theorem ListComp_2 {Q : Value → Shared → Prop} (F₀ : Fr h₀ L s.heap m) (hclos : closureFor scope env = pure cl) (hcell : ∀ y ∈ scope.names, y.2 ≠ .cell) (hkind : scope.kind = .function)
    (hnames : ∀ y ∈ scope.names, y.2 = .local → scope.names.lookup y.1 = some .local) (hx : scope.names.lookup x = some .local) (hz : scope.names.lookup z = some .local) (hxz : x ≠ z)
    (h : wpAny (model prog w) A (eval iter env) (OSrc prog w A h₀ L m env elt iter2 x z scope cl Q) E s)
    (hs : ∀ x, foldedSetIterable iter env x = pure x) (hs2 : ∀ C y, foldedSetIterable iter2 (compEnvC scope cl C env) y = pure y) :
    wpAny (model prog w) A (eval (two elt iter iter2 x z px pz scope pos) env) Q E s := by
  rw [eval_ListComp]
  refine wpAny_comprehension_free (use := none) rfl hs hclos hkind hnames (wpAny_mono h (fun xv s₁ h₁ => ?_) fun _ _ e => e)
  obtain ⟨r, b, t, u, v, n, news, rfl, hh, F, N, hr, hsm, hn, R⟩ := h₁
  refine wpAny_pyIter_range hr hsm ?_
  rw [hn]
  refine wpAny_newObj_type ?_
  refine wpAny_newFunctionEnv hcell (by intro y hy; simp at hy) (fun h₁ hns₁ hsb₁ => ?_) hkind
  have sI : ∀ (h : Heap) (o : Obj), (h.push o).objs.size = h.objs.size + 1 := fun h o => Heap.size_push ..
  simp only [sI] at hns₁ hsb₁ ⊢
  have q0 : ∀ a b : Nat, b < a → b ≠ a + 1 + 1 := by lia
  have up : ∀ b o, s₁.heap.get? b = some o → h₁.get? b = some o := fun b o e => (hsb₁.2 b (q0 _ _ (Heap.lt_size e))).trans (Heap.get?_push_of_some _ (Heap.get?_push_of_some _ (Heap.get?_push_of_some _ e)))
  have n0 : ∀ b, s₁.heap.objs.size ≤ b → h₀.get? b = none := fun b hb => by
    cases e : h₀.get? b with
    | none => rfl
    | some o => exact absurd (Heap.lt_size (F.keep _ _ e)) (Nat.not_lt.mpr hb)
  have lL : L < s₁.heap.objs.size := F.ns.lt
  have q1 : ∀ a : Nat, a ≠ a + 1 + 1 ∧ a ≠ a + 1 ∧ a + 1 + 1 ≠ a + 1 := by lia
  have q2 : ∀ a l : Nat, l < a → a ≠ l ∧ a + 1 + 1 ≠ l ∧ a + 1 ≠ l := by lia
  have q3 : ∀ a : Nat, a ≤ a ∧ a ≤ a + 1 + 1 ∧ a ≤ a + 1 := by lia
  have q4 : ∀ a l : Nat, l < a → l ≠ a ∧ l ≠ a + 1 + 1 ∧ l ≠ a + 1 := by lia
  have gI : h₁.get? s₁.heap.objs.size = some { cls := .type "range_iterator", data := .fields #[rawInt 0, rawInt (n : Int), rawInt 1] } :=
    (hsb₁.2 _ (q1 _).1).trans (Heap.get?_push_of_some _ (Heap.get?_push_of_some _ (Heap.get?_push_size _ rfl)))
  have gD : h₁.get? (s₁.heap.objs.size + 1) = some (lst []) := by
    have z := Heap.get?_push_size (s₁.heap.push { cls := .type "range_iterator", data := .fields #[rawInt 0, rawInt (n : Int), rawInt 1] }) (o := { cls := .type "list", data := .seq ([] : List Value).toArray }) rfl
    rw [sI] at z
    exact (hsb₁.2 _ (Ne.symm (q1 _).2.2)).trans (Heap.get?_push_of_some _ z)
  have loop : codeAny (model prog w) A (.compLoop (two elt iter iter2 x z px pz scope pos) 0 (.ref s₁.heap.objs.size) (.ref (s₁.heap.objs.size + 1)) (compEnvC scope cl (s₁.heap.objs.size + 1 + 1) env))
      (compPost (model prog w) A E none Q (.ref (s₁.heap.objs.size + 1)) (s₁.heap.objs.size + 1 + 1)) { s₁ with heap := h₁, toks := s₁.toks + ([] : List (Str × Value)).length } := by
    refine oloop (Fin := LCg.FinE h₀ L m { s₁ with heap := _ } Q) (n := n) (s := { s₁ with heap := _ }) hh (lookup_relabel_local hx) (lookup_relabel_local hz) hxz hkind (hs2 _) (q1 _) (q2 _ _ lL) ⟨n0 _ (q3 _).1, n0 _ (q3 _).2.1, n0 _ (q3 _).2.2⟩ ?_ n 0 _ _ [] _ news (by lia) gI hns₁ gD (F.keeps up) (N.grown up) (LCg.Off3.of fun p hp => q4 _ _ (Heap.lt_size (N p hp).1)) (R s₁.heap)
    intro h tk m' ys news' F' N' o1 hC offC fin
    refine ⟨m', hC, fun h'' hs'' => ?_⟩
    refine fin _ h'' tk (fr_but F' (same_but hs'') (q2 _ _ lL).2.1 (n0 _ (q3 _).2.1)) (off_but N' (same_but hs'') fun p hp => ?_) o1
    rcases List.mem_cons.mp hp with rfl | hp
    · exact Ne.symm (q1 _).2.2
    · exact offC p hp
  refine codeAny_compStart_list loop ?_
  exact wpAny_pyIter_rangeiter (x := 0) (left := n) (step := 1) gI loop
end
end

end
section
open PySem PySem.W PyProof.Rows PySem.Calls PySem.Spec

theorem off1_mem {d a : Addr} {o : Obj} : ∀ {l : Led}, LCg.Off1 d l → (a, o) ∈ l → @Ne Nat d a
  | [], _, h => by cases h
  | x :: r, h, hm => by
    obtain ⟨h1, h2⟩ := h
    cases hm with
    | head => exact fun e => h1 e.symm
    | tail _ hm => exact off1_mem h2 hm
theorem off1_nd {d I C D X : Addr} {oI oC oD oX : Obj} {l : Led} (h : LCg.Off1 d l) (h1 : (I, oI) ∈ l) (h2 : (C, oC) ∈ l) (h3 : (D, oD) ∈ l) (h4 : (X, oX) ∈ l) :
    (@Ne Nat d I) ∧ (@Ne Nat d C) ∧ (@Ne Nat d D) ∧ (@Ne Nat d X) := ⟨off1_mem h h1, off1_mem h h2, off1_mem h h3, off1_mem h h4⟩
section
variable {w : World} {mean : ExcName → Option Value} {mg mb : Str → Option Value}




theorem KB14setup1 : True := by
  k_with "my tidy" => (((repeat (with_reducible rename Fr _ _ _ _ => kT0; clear kT0)); (repeat (with_reducible rename News _ _ _ _ => kT0; clear kT0))))
  k_with "CSrc" => ((k_here; k_dflt (refine' CSrc.intro 3 ?h0w91 ?Fw91 ?Nw91 ?hrw91 ?h1w91 ?h2w91 ?h3w91 ?_; (case h0w91 => rfl); (case Fw91 => k_asm); (case Nw91 => k_asm); (case hrw91 => assumption); (case h1w91 => first | decide | rfl); (case h2w91 => first | rfl | decide); (case h3w91 => first | size_fits | exact Nat.le_of_ble_eq_true rfl)); intro g'))
  k_with "CRest" => ((k_dflt (first
  | (refine CRest.succ ?_; k_extra "my tidy"; intro I' C' D' X' oI' oC' oX' t' h' tk' E' hd' F' N' off' ne')
  | refine CRest.zero ?_)))
  k_with "CEnd" => ((k_dflt (refine' CEnd.intro ?Fw92 ?Nw92 _ ?subw92 ?offw92 ?_; (case Fw92 => k_asm); (case Nw92 => k_asm); (case offw92 => assumption); (case subw92 => k_extra "my keep"))))
  k_with "CEnd" => (((with_reducible show CEnd _ _ _ _ _ _ _ _ _ _ _ _ _ (Value.ref _) _); k_dflt (refine' CEnd.one ?Fw93 ?Nw93 ?offw93 ?subw93 ?ndw93 ?_; (case Fw93 => k_asm); (case Nw93 => k_asm); (case offw93 => assumption); (case subw93 => k_extra "my keep"); (case ndw93 => first | (refine' off1_nd ?knaw93 ?knbw93 ?kncw93 ?kndw93 ?knew93; (case knaw93 => with_reducible assumption); (case knbw93 => k_mem); (case kncw93 => k_mem); (case kndw93 => k_mem); (case knew93 => k_mem)) | (refine ⟨?_, ?_, ?_, ?_⟩ <;> k_ne)))))
  k_with "CompSrc" => ((k_here; k_dflt (first
  | (refine' LCg.CompSrc.range ?h0w94 ?Fw94 ?Nw94 ?hrw94 ?h1w94 ?h2w94 ?h3w94 ?_; (case h0w94 => rfl); (case Fw94 => k_asm); (case Nw94 => k_asm); (case hrw94 => assumption); (case h1w94 => first | decide | rfl); (case h2w94 => first | rfl | decide); (case h3w94 => first | size_fits | exact Nat.le_of_ble_eq_true rfl); intro g'; lcg_lit)
  | (refine' LCg.CompSrc.ledger ?h0w94 ?Fw94 ?Nw94 ?hrw94 ?h3w94 ?_; (case h0w94 => rfl); (case Fw94 => k_asm); (case Nw94 => k_asm); (case hrw94 => k_mem); (case h3w94 => first | size_fits | exact Nat.le_of_ble_eq_true rfl); intro g'; lcg_lit))))
  k_with "CompEnd" => ((k_dflt (refine' compEnd_0 ?Fw95 ?Nw95 ?offw95 ?srcw95 ?_; (case Fw95 => k_asm); (case Nw95 => k_asm); (case offw95 => assumption); (case srcw95 => lcg_src))))
  k_with "CompEnd" => ((k_dflt (refine' compEnd_ext ?Fw96 ?Nw96 ?fw96 ?offw96 ?srcw96 ?_; (case Fw96 => k_asm); (case Nw96 => k_asm); (case fw96 => with_reducible assumption); (case offw96 => assumption); (case srcw96 => lcg_src))))
  trivial
section
theorem KB14setup2 : True := by
  k_with "eval ListComp" => ((k_here; k_dflt (refine' ListComp_C ?F0w97 ?c1w97 ?c2w97 ?c3w97 ?c4w97 ?c5w97 ?c6w97 ?_ ?c7w97; (case F0w97 => k_asm); (case c1w97 => with_unfolding_all rfl); (case c2w97 => exact fun _ => rfl); (case c3w97 => exact fun _ => rfl); (case c4w97 => rfl); (case c5w97 => decide); (case c6w97 => with_unfolding_all rfl); (case c7w97 => intro _; rfl); k_whole)))
  k_with "my lt" => (with_reducible assumption)
  trivial
theorem sum3 {prog : Program} {A : Around} {E : Value → Shared → Prop} {s : Shared} {h₀ : Heap} {L l : Addr} {n : Nat} {m : Str → Option Value} {news : Led} {a b c : Int} {ka kb kc : Tok} {Q : Value → Shared → Prop} (hh : A.handled = none) (F : Fr h₀ L s.heap m) (N : News h₀ L s.heap news) (hm : (l, listOf #[.int a ka, .int b kb, .int c kc] n) ∈ news)
    (h : ∀ h' tk t', Fr h₀ L h' m → News h₀ L h' news → Q (.int (a + b + c) t') { s with heap := h', toks := tk }) :
    wpAny (model prog w) A (call (.builtin "sum") [.ref l]) Q E s := by
  refine sumK (vs := [.int a ka, .int b kb, .int c kc]) (ns := [a, b, c]) hh F N (N.isList hm) (by l_ints) ?_
  have : [a, b, c].sum = a + b + c := by simp only [List.sum_cons, List.sum_nil]; omega
  rw [this]
  exact h
theorem KB14setup3 : True := by
  k_with "call builtin:sum" => ((k_here; (with_reducible show wpAny _ _ (call (Value.builtin "sum") [Value.ref _]) _ _ _); k_dflt (refine' sum3 ?k0w98 ?k1w98 ?k2w98 ?k3w98 ?_; (case k0w98 => rfl); (case k1w98 => k_asm); (case k2w98 => k_asm); (case k3w98 => k_mem)); intro h' tk' t' F' N'))
  trivial
theorem rows_made0 {h₀ h' : Heap} {L : Addr} {m : Str → Option Value} {s : Shared} {tk : Nat} {Q : Value → Shared → Prop} {news led : Led} {x r1 r2 r3 : Addr} {n n1 n2 n3 : Nat} {a11 a12 a13 a21 a22 a23 a31 a32 a33 : Int} {k11 k12 k13 k21 k22 k23 k31 k32 k33 : Tok} {z : M3}
    (hret : ∀ R, RowsOK R z → ∀ (h' : Heap) (tk' : Nat), Fr h₀ L h' m → News h₀ L h' (rowsL R ++ news) → Q (.ref R.x) { s with heap := h', toks := tk' }) (kF : Fr h₀ L h' m) (kN : News h₀ L h' led)
    (h1 : (x, listOf #[.ref r1, .ref r2, .ref r3] n) ∈ led) (h2 : (r1, listOf #[.int a11 k11, .int a12 k12, .int a13 k13] n1) ∈ led) (h3 : (r2, listOf #[.int a21 k21, .int a22 k22, .int a23 k23] n2) ∈ led) (h4 : (r3, listOf #[.int a31 k31, .int a32 k32, .int a33 k33] n3) ∈ led)
    (hz : (⟨a11, a12, a13, a21, a22, a23, a31, a32, a33⟩ : M3) = z) (sn : Sub news led) :
    Q (.ref x) { s with heap := h', toks := tk } :=
  hret ⟨x, r1, r2, r3, n, n1, n2, n3, a11, a12, a13, a21, a22, a23, a31, a32, a33, k11, k12, k13, k21, k22, k23, k31, k32, k33⟩ ⟨hz⟩ h' tk kF (News.sub kN (.join (by unfold rowsL; exact .add h1 (.add h2 (.add h3 (.add h4 .nil)))) sn))
noncomputable def M3.mul (x y : M3) : M3 := ⟨x.a11 * y.a11 + x.a12 * y.a21 + x.a13 * y.a31, x.a11 * y.a12 + x.a12 * y.a22 + x.a13 * y.a32, x.a11 * y.a13 + x.a12 * y.a23 + x.a13 * y.a33,
  x.a21 * y.a11 + x.a22 * y.a21 + x.a23 * y.a31, x.a21 * y.a12 + x.a22 * y.a22 + x.a23 * y.a32, x.a21 * y.a13 + x.a22 * y.a23 + x.a23 * y.a33,
  x.a31 * y.a11 + x.a32 * y.a21 + x.a33 * y.a31, x.a31 * y.a12 + x.a32 * y.a22 + x.a33 * y.a32, x.a31 * y.a13 + x.a32 * y.a23 + x.a33 * y.a33⟩
noncomputable def M3.Bd (x : M3) (c : Nat) : Prop := Mine.Bd x.a11 c ∧ Mine.Bd x.a12 c ∧ Mine.Bd x.a13 c ∧ Mine.Bd x.a21 c ∧ Mine.Bd x.a22 c ∧ Mine.Bd x.a23 c ∧ Mine.Bd x.a31 c ∧ Mine.Bd x.a32 c ∧ Mine.Bd x.a33 c
noncomputable abbrev prodM : Scope := { kind := .function, names := [(Str.ofString ".0", .local), (Str.ofString "column", .cell), (Str.ofString "sum", .globalImplicit), (Str.ofString "range", .globalImplicit), (Str.ofString "one", .free), (Str.ofString "row", .free), (Str.ofString "two", .free)], isGenerator := false, isCoroutine := false }
noncomputable abbrev prodO : Scope := { kind := .function, names := [(Str.ofString ".0", .local), (Str.ofString "row", .cell), (Str.ofString "range", .globalImplicit), (Str.ofString "one", .free), (Str.ofString "two", .free)], isGenerator := false, isCoroutine := false }
section
theorem KB14setup4 : True := by
  k_with "my item" => ((k_here; (with_reducible show wpAny _ _ (subscriptTail _ _ (Value.ref _) (Value.int _ _)) _ _ _); k_dflt (refine' my_item ?Nw99 ?mw99 ?k2w99 ?k3w99 ?k4w99 ?_ ?k6w99; (case Nw99 => k_asm); (case mw99 => first | with_reducible assumption | k_mem); (case k2w99 => with_reducible assumption); (case k3w99 => with_reducible assumption); (case k4w99 => with_reducible assumption); (case k6w99 => with_unfolding_all rfl); k_whole)))
  trivial
set_option maxHeartbeats 1500000 in
theorem sum_elem {dp un : Nat} {gd : Option (List Code)} {cn cn0 : Str} {cs : Scope} {mo0 : List (Str × Const)} {a a0 : Addr} {ccd ccd0 : Value} {cl cl0 : List (Str × Addr)} {outer : List Env} {h₀ : Heap} {L L0 : Addr} {m : Str → Option Value} {news : Led} {s : Shared} {Q E : Value → Shared → Prop}
    {CM CO cc c2 cr c1 x y r s1 s2 s3 : Addr} {occ oc2 ocr oc1 : Obj} {i j : Int} {ti tj : Tok} {xs : List Value} {n n2 nr n4 n5 n6 : Nat} {a1 a2 a3 b1 b2 b3 : Int} {k1 k2 k3 u1 u2 u3 : Tok} {v1 v2 v3 : List Value} {ba bb : Nat} {p1 p2 p3 p4 p5 p6 p7 p8 p9 p10 p11 p12 p13 p14 p15 p16 p17 p18 : Pos}
    (F : Fr h₀ L0 s.heap m) (X : (KF w.params).In h₀) (N : News h₀ L0 s.heap news) (T : Tp mean mg mb h₀)
    (mc : (cc, occ) ∈ news) (m2 : (c2, oc2) ∈ news) (mr : (cr, ocr) ∈ news) (m1 : (c1, oc1) ∈ news)
    (dc : occ.data = .cell (some (.int j tj))) (d2 : oc2.data = .cell (some (.ref y))) (dr : ocr.data = .cell (some (.int i ti))) (d1 : oc1.data = .cell (some (.ref x)))
    (mx : (x, listOf xs.toArray n) ∈ news) (hi : xs[i.toNat]? = some (.ref r)) (mr' : (r, listOf #[.int a1 k1, .int a2 k2, .int a3 k3] nr) ∈ news)
    (my : (y, listOf #[.ref s1, .ref s2, .ref s3] n2) ∈ news) (q1 : (s1, listOf v1.toArray n4) ∈ news) (q2 : (s2, listOf v2.toArray n5) ∈ news) (q3 : (s3, listOf v3.toArray n6) ∈ news)
    (j1 : v1[j.toNat]? = some (.int b1 u1)) (j2 : v2[j.toNat]? = some (.int b2 u2)) (j3 : v3[j.toNat]? = some (.int b3 u3))
    (i0 : 0 ≤ i) (iz : i < 2 ^ 63) (j0 : 0 ≤ j) (jz : j < 2 ^ 63) (w1 : Bd a1 ba) (w2 : Bd a2 ba) (w3 : Bd a3 ba) (z1 : Bd b1 bb) (z2 : Bd b2 bb) (z3 : Bd b3 bb) (hbc : ba + bb ≤ 1000)
    (hret : ∀ t h' tk', Fr h₀ L0 h' m → News h₀ L0 h' news → Q (.int (a1 * b1 + a2 * b2 + a3 * b3) t) { s with heap := h', toks := tk' }) :
    wpAny (model PySem.Challenge.rw_nn0207_01.row.prog w) ((ktrTop dp un gd cn cs L a ccd cl outer).deeper (envX cn0 { kind := .function, names := [(Str.ofString "one", .cell), (Str.ofString "two", .cell), (Str.ofString "range", .globalImplicit)], isGenerator := false, isCoroutine := false, more := mo0 } L0 a0 ccd0 cl0)) (eval (.Call (.Name (Str.ofString "sum") p1) [.ListComp (.BinOp (.Subscript (.Subscript (.Name (Str.ofString "one") p2) (.Name (Str.ofString "row") p3) p4) (.Name (Str.ofString "place") p5) p6) .Mult (.Subscript (.Subscript (.Name (Str.ofString "two") p7) (.Name (Str.ofString "place") p8) p9) (.Name (Str.ofString "column") p10) p11) p12) [⟨.Name (Str.ofString "place") p13, .Call (.Name (Str.ofString "range") p14) [.Constant (.int 3) 0 p15] [] p16, [], 0⟩] { kind := .function, names := [(Str.ofString ".0", .local), (Str.ofString "place", .local), (Str.ofString "column", .free), (Str.ofString "one", .free), (Str.ofString "row", .free), (Str.ofString "two", .free)], isGenerator := false, isCoroutine := false } p17] [] p18) (compEnvC prodM [(Str.ofString "column", cc), (Str.ofString "two", c2), (Str.ofString "row", cr), (Str.ofString "one", c1)] CM (compEnvC prodO [(Str.ofString "row", cr), (Str.ofString "two", c2), (Str.ofString "one", c1)] CO (envX cn0 { kind := .function, names := [(Str.ofString "one", .cell), (Str.ofString "two", .cell), (Str.ofString "range", .globalImplicit)], isGenerator := false, isCoroutine := false, more := mo0 } L0 a0 ccd0 cl0)))) Q E s := by
  revert X
  k_fill
  intro X
  k_steps
  (with_reducible rename Fr h₀ L0 _ m => kF)
  (with_reducible rename News h₀ L0 _ _ => kN)
  exact hret _ _ _ kF (News.sub kN (by k_extra "my keep"))
end
theorem KB14setup5 : True := by
  k_with "my dummy" => (skip)
  k_with "eval Call" => ((k_here; (with_reducible show wpAny _ _ (eval (Expr.Call (Expr.Name _ _) [Expr.ListComp _ _ _ _] _ _) _) _ _ _); k_dflt (refine' sum_elem ?Fw100 ?Xw100 ?Nw100 ?Tw100 ?mcw100 ?m2w100 ?mrw100 ?m1w100 ?dcw100 ?d2w100 ?drw100 ?d1w100 ?mxw100 ?hiw100 ?mr'w100 ?myw100 ?q1w100 ?q2w100 ?q3w100 ?j1w100 ?j2w100 ?j3w100 ?i0w100 ?izw100 ?j0w100 ?jzw100 ?w1w100 ?w2w100 ?w3w100 ?z1w100 ?z2w100 ?z3w100 ?hbcw100 ?_; (case Fw100 => k_asm); (case Xw100 => k_asm); (case Nw100 => k_asm); (case Tw100 => k_asm); (case mcw100 => k_mem); (case m2w100 => k_mem); (case mrw100 => k_mem); (case m1w100 => k_mem); (case dcw100 => with_reducible assumption); (case d2w100 => with_reducible assumption); (case drw100 => with_reducible assumption); (case d1w100 => with_reducible assumption); (case mxw100 => k_mem); (case hiw100 => rfl); (case mr'w100 => k_mem); (case myw100 => k_mem); (case q1w100 => k_mem); (case q2w100 => k_mem); (case q3w100 => k_mem); (case j1w100 => rfl); (case j2w100 => rfl); (case j3w100 => rfl); (case i0w100 => decide); (case izw100 => decide); (case j0w100 => decide); (case jzw100 => decide); (case w1w100 => with_reducible assumption); (case w2w100 => with_reducible assumption); (case w3w100 => with_reducible assumption); (case z1w100 => with_reducible assumption); (case z2w100 => with_reducible assumption); (case z3w100 => with_reducible assumption); (case hbcw100 => with_reducible assumption); k_whole; intro t9 h9 tk9 F9 N9; (try k_sweep))))
  trivial
set_option maxHeartbeats 1500000 in
theorem c_law_product {R S : RowsL} {x y : M3} {b c : Nat} (ox : RowsOK R x) (oy : RowsOK S y) (hx : x.Bd b) (hy : y.Bd c) (hbc : b + c ≤ 1000) :
    Ct w mean mg mb 2 (.ref 382) [.ref R.x, .ref S.x] (fun news => Sub (rowsL R) news ∧ Sub (rowsL S) news)
     (fun Q news => ∀ R, RowsOK R (x.mul y) → Q (.ref R.x) (rowsL R ++ news)) := by
  unfold Ct; k_fill; intro dp un gd cn cs a ccd cl outer A₀ base h₀ L m news s Q E B F X N T hk hpre hd hu hret
  obtain ⟨s1, s2⟩ := hpre
  obtain ⟨rfl⟩ := ox
  obtain ⟨rfl⟩ := oy
  obtain ⟨x1, x2, x3, x4, x5, x6, x7, x8, x9⟩ := hx
  obtain ⟨y1, y2, y3, y4, y5, y6, y7, y8, y9⟩ := hy
  dsimp only at x1 x2 x3 x4 x5 x6 x7 x8 x9 y1 y2 y3 y4 y5 y6 y7 y8 y9
  refine wpAny_call ?_
  k_dflt (refine' code_defC ?k1 ?k2 ?k3 ?k4 ?k5 ?kA ?kF ?kK ?k6 ?k7 ?k8 ?k9 ?kB ?kD ?_ ?c2 ?c3 ?c4; (case kA => exact rfl); (case kF => exact rfl); (case kK => assumption); (case k1 => k_asm); (case k2 => k_asm); (case k3 => k_asm); (case k4 => k_asm); (case k5 => k_asm); (case k6 => k_is); (case k7 => k_is); (case k8 => ktr_room); (case k9 => exact BindsTo.of_eq rfl); (case kB => exact rfl); (case kD => decide +kernel); (case c2 => exact rfl); (case c3 => exact rfl); (case c4 => exact rfl); k_whole; intro g' L' h' tk' cells' FG' F' N' Y' B' X' T' l1; (try k_lt l1); k_cells Y'; (try simp only [List.cons_append, List.nil_append] at N'); (try dsimp only); (try k_fold); (refine wp_letA ?_); intro A2)
  change Fr g' L' h' (fun _ => none) at F'
  (rename _ = Data.cell (bindC _ _ _ (Str.ofString "two")) => dc1)
  change _ = Data.cell (some (Value.ref S.x)) at dc1
  (rename _ = Data.cell (bindC _ _ _ (Str.ofString "one")) => dc2)
  change _ = Data.cell (some (Value.ref R.x)) at dc2
  k_steps
  (with_reducible rename Fr h₀ L _ m => kF)
  (with_reducible rename News h₀ L _ _ => kN)
  refine' rows_made0 hret kF kN ?m1 ?m2 ?m3 ?m4 ?hz ?sn
  (case m1 => k_mem)
  (case m2 => k_mem)
  (case m3 => k_mem)
  (case m4 => k_mem)
  (case hz => rfl)
  (case sn => k_extra "my sub")
end
end

end
section
open PySem PySem.W PyProof.Rows PySem.Calls PySem.Spec

theorem KB15setup1 : True := by
  k_with "eval Call" => ((k_here; (first | (with_reducible show wpAny _ _ (eval _ (envOf _ _ _ _ _)) _ _ _) | (with_reducible show wpAny _ _ (eval _ (envX _ _ _ _ _ _)) _ _ _)); first | ((with_reducible show wpAny _ _ (eval (Expr.Call (Expr.Name _ _) (_ :: _) [] _) _) _ _ _); k_dflt (refine' gcall ?Fw101 ?Xw101 ?Tw101 ?ew101 ?aw101 ?kw101 ?hsw101 ?_; (case aw101 => (refine' NmOk.mk ?na1w101 ?na2w101 ?na3w101; (case na1w101 => rfl); (case na2w101 => rfl); (case na3w101 => decide))); (case Xw101 => with_reducible assumption); (case ew101 => k_is); (case Fw101 => with_reducible assumption); (case Tw101 => k_asm); (case kw101 => k_is); (case hsw101 => exact @rfl _ true); k_whole)) | ((with_reducible show wpAny _ _ (eval (Expr.Call (Expr.Name _ _) [] [] _) _) _ _ _); k_dflt (refine' gcall0 ?Fw101 ?Xw101 ?Tw101 ?ew101 ?aw101 ?kw101 ?_; (case aw101 => (refine' NmOk.mk ?na1w101 ?na2w101 ?na3w101; (case na1w101 => rfl); (case na2w101 => rfl); (case na3w101 => decide))); (case Xw101 => with_reducible assumption); (case ew101 => k_is); (case Fw101 => with_reducible assumption); (case Tw101 => k_asm); (case kw101 => k_is); k_whole))))
  trivial
section
variable {w : World} {mean : ExcName → Option Value} {mg mb : Str → Option Value}






theorem KB15setup2 : True := by
  k_with "my item" => ((k_here; (with_reducible show wpAny _ _ (subscriptTail _ _ (Value.ref _) (Value.int _ _)) _ _ _); k_dflt (refine' my_item ?Nw102 ?mw102 ?k2w102 ?k3w102 ?k4w102 ?_ ?k6w102; (case Nw102 => k_asm); (case mw102 => first | with_reducible assumption | k_mem); (case k2w102 => decide); (case k3w102 => decide); (case k4w102 => first | (refine' getk 0 ?gaw102 ?gbw102; (case gaw102 => decide); (case gbw102 => rfl)) | (refine' getk 1 ?gaw102 ?gbw102; (case gaw102 => decide); (case gbw102 => rfl)) | (refine' getk 2 ?gaw102 ?gbw102; (case gaw102 => decide); (case gbw102 => rfl)) | (refine' getk 3 ?gaw102 ?gbw102; (case gaw102 => decide); (case gbw102 => rfl)) | (refine' getk 4 ?gaw102 ?gbw102; (case gaw102 => decide); (case gbw102 => rfl)) | (refine' getk 5 ?gaw102 ?gbw102; (case gaw102 => decide); (case gbw102 => rfl))); (case k6w102 => with_unfolding_all rfl); k_whole)))
  k_with "CEnd" => ((k_dflt (refine' CEnd.intro ?Fw103 ?Nw103 _ ?subw103 ?offw103 ?_; (case Fw103 => k_asm); (case Nw103 => k_asm); (case offw103 => assumption); (case subw103 => k_extra "my keep"))))
  k_with "CEnd" => (((with_reducible show CEnd _ _ _ _ _ _ _ _ _ _ _ _ _ (Value.ref _) _); k_dflt (refine' CEnd.one ?Fw104 ?Nw104 ?offw104 ?subw104 ?ndw104 ?_; (case Fw104 => k_asm); (case Nw104 => k_asm); (case offw104 => assumption); (case subw104 => k_extra "my keep"); (case ndw104 => first | (refine' off1_nd ?knaw104 ?knbw104 ?kncw104 ?kndw104 ?knew104; (case knaw104 => with_reducible assumption); (case knbw104 => k_mem); (case kncw104 => k_mem); (case kndw104 => k_mem); (case knew104 => k_mem)) | (refine ⟨?_, ?_, ?_, ?_⟩ <;> k_ne)))))
  k_with "eval ListComp" => ((k_here; k_dflt (refine' ListComp_2 ?F0w105 ?c1w105 ?c2w105 ?c3w105 ?c4w105 ?c5w105 ?c6w105 ?c7w105 ?_ ?c8w105 ?c9w105; (case F0w105 => k_asm); (case c1w105 => with_unfolding_all rfl); (case c2w105 => decide); (case c3w105 => rfl); (case c4w105 => decide); (case c5w105 => with_unfolding_all rfl); (case c6w105 => with_unfolding_all rfl); (case c7w105 => decide); (case c8w105 => intro _; rfl); (case c9w105 => intro _ _; rfl); k_whole)))
  k_with "OSrc" => ((k_here; k_dflt (refine' OSrc.intro 3 ?h0w106 ?Fw106 ?Nw106 ?hrw106 ?h1w106 ?h2w106 ?_; (case h0w106 => rfl); (case Fw106 => k_asm); (case Nw106 => k_asm); (case hrw106 => assumption); (case h1w106 => first | decide | rfl); (case h2w106 => first | rfl | decide)); intro g'))
  k_with "OutRest" => ((k_dflt (first
  | (refine OutRest.succ ?kh0w107 ?_; (case kh0w107 => exact Nat.le_of_ble_eq_true rfl); k_extra "my tidy"; intro I' C' D' oI' oC' m' t' h' tk' E' hC' hx' F' N' off' ne')
  | (refine OutRest.zero ?kh0w107 ?_; (case kh0w107 => exact Nat.le_of_ble_eq_true rfl)))))
  k_with "InSrc" => ((k_here; k_dflt (refine' InSrc.intro 2 ?Fw108 ?Nw108 ?offw108 ?hrw108 ?h1w108 ?h2w108 ?h3w108 ?_; (case Fw108 => k_asm); (case Nw108 => k_asm); (case offw108 => assumption); (case hrw108 => assumption); (case h1w108 => first | decide | rfl); (case h2w108 => first | rfl | decide); (case h3w108 => first | size_fits | exact Nat.le_of_ble_eq_true rfl))))
  k_with "InRest" => ((k_dflt (first
  | (refine InRest.succ ?_; k_extra "my tidy"; intro J' C' D' I' oJ' oC' oI' m' t' u' h' tk' E' hC' hx' hz' F' N' off' ne')
  | refine InRest.zero ?_)))
  k_with "CEnd" => ((k_dflt (refine' CEnd.ext ?Fw109 ?Nw109 ?fw109 ?offw109 ?_; (case Fw109 => k_asm); (case Nw109 => k_asm); (case fw109 => with_reducible assumption); (case offw109 => assumption))))
  k_with "CompEnd" => ((k_dflt (refine' compEnd_0 ?Fw110 ?Nw110 ?offw110 ?srcw110 ?_; (case Fw110 => k_asm); (case Nw110 => k_asm); (case offw110 => assumption); (case srcw110 => lcg_src))))
  k_with "CompEnd" => ((k_dflt (refine' compEnd_ext ?Fw111 ?Nw111 ?fw111 ?offw111 ?srcw111 ?_; (case Fw111 => k_asm); (case Nw111 => k_asm); (case fw111 => with_reducible assumption); (case offw111 => assumption); (case srcw111 => lcg_src))))
  trivial
section
noncomputable abbrev M3.six (z : M3) (p : Int) : Six := ⟨(z.a11 : Rat) / 10 ^ p.toNat, (z.a12 : Rat) / 10 ^ p.toNat, (z.a21 : Rat) / 10 ^ p.toNat, (z.a22 : Rat) / 10 ^ p.toNat, (z.a31 : Rat) / 10 ^ p.toNat, (z.a32 : Rat) / 10 ^ p.toNat⟩
set_option maxHeartbeats 800000 in
theorem c_law_six_told {R : RowsL} {z : M3} (p : Int) {k : Tok} (ok : RowsOK R z) (hp : 0 ≤ p) :
    Ct w mean mg mb 2 (.ref 387) [.ref R.x, .int p k] (fun news => Sub (rowsL R) news)
     (fun Q news => ∀ ext v, Says ext v (dsix (z.six p)) → Q v (ext ++ news)) := by
  unfold Ct; k_fill; intro dp un gd cn cs a ccd cl outer A₀ base h₀ L m news s Q E B F X N T hk hpre hd hu hret
  have s1 := hpre
  obtain ⟨rfl⟩ := ok
  dsimp only [M3.six, dsix] at hret
  refine wpAny_call ?_
  k_dflt (refine' code_defC ?k1 ?k2 ?k3 ?k4 ?k5 ?kA ?kF ?kK ?k6 ?k7 ?k8 ?k9 ?kB ?kD ?_ ?c2 ?c3 ?c4; (case kA => exact rfl); (case kF => exact rfl); (case kK => assumption); (case k1 => k_asm); (case k2 => k_asm); (case k3 => k_asm); (case k4 => k_asm); (case k5 => k_asm); (case k6 => k_is); (case k7 => k_is); (case k8 => ktr_room); (case k9 => exact BindsTo.of_eq rfl); (case kB => exact rfl); (case kD => decide +kernel); (case c2 => exact rfl); (case c3 => exact rfl); (case c4 => exact rfl); k_whole; intro g' L' h' tk' cells' FG' F' N' Y' B' X' T' l1; (try k_lt l1); k_cells Y'; (try simp only [List.cons_append, List.nil_append] at N'); (try dsimp only); (try k_fold); (refine wp_letA ?_); intro A2)
  change Fr g' L' h' (fun _ => none) at F'
  (rename _ = Data.cell (bindC _ _ _ (Str.ofString "scale")) => dc1)
  change _ = Data.cell (some (Value.int p k)) at dc1
  (rename _ = Data.cell (bindC _ _ _ (Str.ofString "rows")) => dc2)
  change _ = Data.cell (some (Value.ref R.x)) at dc2
  k_steps
  all_goals ((with_reducible rename Fr h₀ L _ m => kF); (with_reducible rename News h₀ L _ _ => kN); (try dsimp only at kF kN); exact hret _ _ (.tuple (.head _) (by k_extra "my saysall")) _ _ kF (News.sub kN (.join .refl (by k_extra "my keep"))))
end
end

end
section
open PySem PySem.W PyProof.Rows PySem.Calls PySem.Spec

section
variable {w : World} {mean : ExcName → Option Value} {mg mb : Str → Option Value}

/-- a pen: the list of its ints, the next spot, the rest of a great int -/
noncomputable def PenAt (c : Addr) (k : Nat) (o : Obj) : Prop := ∃ (spot rest : Int) (t u : Tok) (n : Nat), o = listOf #[.ref c, .int spot t, .int rest u] n ∧ 0 ≤ spot ∧ spot ≤ k ∧ 0 ≤ rest
/-- a thing that the ledger keeps, whatever the pen is -/
noncomputable def Keeps (e : Addr × Obj) (g : Obj → Led) : Prop := ∀ o, e ∈ g o
theorem Keeps.at {e : Addr × Obj} {g : Obj → Led} {o : Obj} (h : Keeps e g) : e ∈ g o := h o
theorem updF_is {p : Addr} {o : Obj} {l : Led} {g : Obj → Led} (h : UpdF p o l g) : l = g o := by
  obtain ⟨pre, post, e, f, _⟩ := h.split
  rw [e, f]
theorem updF_mem {p : Addr} {o o' : Obj} {l : Led} {g : Obj → Led} (h : UpdF p o l g) : (p, o') ∈ g o' := by
  obtain ⟨pre, post, e, f, _⟩ := h.split
  rw [f]
  exact List.mem_append_right _ (.head _)
theorem upd_off {p : Addr} {o o' : Obj} : ∀ {pre post : Led}, (∀ q ∈ pre, q.1 ≠ p) → (∀ q ∈ post, q.1 ≠ p) → Upd p o o' (pre ++ (p, o) :: post) (pre ++ (p, o') :: post)
  | [], _, _, h => .head h
  | _ :: _, _, h, h' => .tail (h _ (.head _)) (upd_off (fun q hq => h q (.tail _ hq)) h')
theorem updF_upd {p : Addr} {o o1 o2 : Obj} {l : Led} {g : Obj → Led} (h : UpdF p o l g) : Upd p o1 o2 (g o1) (g o2) := by
  obtain ⟨pre, post, e, f, a, b⟩ := h.split
  rw [f, f]
  exact upd_off a b
theorem KB17setup1 : True := by
  k_with "my kmem" => (first | (refine' Keeps.at ?kmhw112; (case kmhw112 => with_reducible assumption)) | (refine' updF_mem ?kmhw112; (case kmhw112 => with_reducible assumption)))
  k_with "k_upd" => ((refine' updF_upd ?kmhw113; (case kmhw113 => with_reducible assumption)))
  k_with "compareOp NotEq ref ref" => ((k_here; (with_reducible show wpAny _ _ (compareOp CmpOp.NotEq (Value.ref _) (Value.ref _)) _ _ _); k_dflt (refine' ke_ne_ints (News.isList ?Nw114 ?m1w114) (News.isList ?N2w114 ?m2w114) ?i1w114 IntsAre.nil ?rw114 ?_; (case Nw114 => k_asm); (case m1w114 => k_mem); (case N2w114 => k_asm); (case m2w114 => exact List.mem_cons_self); (case i1w114 => with_reducible assumption); (case rw114 => ktr_units))))
  k_with "setItem ref int" => ((k_here; k_dflt (refine' ki_set ?Fw115 ?Nw115 ?aw115 ?bw115 ?ew115 ?Uw115 ?_; (case Fw115 => k_asm); (case Nw115 => k_asm); (case Uw115 => k_upd); (case aw115 => decide); (case bw115 => decide); (case ew115 => rfl)); intro h' F' N'))
  k_with "binaryOp Mod int int" => ((k_here; (with_reducible refine mod_int' ?kmxw116 ?_); (case kmxw116 => first | with_reducible assumption | omega)))
  k_with "binaryOp FloorDiv int int" => ((k_here; (with_reducible refine floordiv_int ?hbw117 ?_ (Or.inl (PyProof.noPylong_of_log2 ?hlw117))); (case hbw117 => omega); (case hlw117 => first | decide +kernel | (refine' log_bd ?kmxw117 ?kmyw117; (case kmxw117 => k_extra "my lt"); (case kmyw117 => decide)))))
  trivial
theorem allLt_ne {d p : Addr} {o : Obj} {l : Led} (h : AllLt d l) (hm : (p, o) ∈ l) : d ≠ p := Nat.ne_of_gt (allLt_mem h _ hm)
theorem upd_cons {d p : Addr} {x o o' : Obj} {l l' : Led} (h : AllLt d l) (hm : (p, o) ∈ l) (u : Upd p o o' l l') : Upd p o o' ((d, x) :: l) ((d, x) :: l') := .tail (allLt_ne h hm) u
theorem KB17setup2 : True := by
  k_with "k_upd" => ((refine' upd_cons ?kmlw118 ?kmmw118 ?kmuw118; (case kmlw118 => with_reducible assumption); (case kmmw118 => k_mem); (case kmuw118 => k_upd)))
  trivial
theorem fd_nn {x y : Int} (hx : 0 ≤ x) (hy : 0 < y) : 0 ≤ x.fdiv y := by
  rw [Int.fdiv_eq_ediv_of_nonneg _ (by lia)]
  exact Int.ediv_nonneg hx (by lia)
theorem fm_at (x : Int) {y : Int} (hy : 0 < y) : 0 ≤ x.fmod y ∧ x.fmod y < y := ⟨Int.fmod_nonneg_of_pos _ hy, Int.fmod_lt_of_pos _ hy⟩
theorem churn1 {x spot : Int} {k : Nat} (s0 : 0 ≤ spot) (s1 : spot ≤ k) (hk : k ≤ 500) : (x.fmod 2147483587 + 50023 * spot + 6007).natAbs < 2 ^ 64 := by
  have := fm_at x (y := 2147483587) (by decide)
  lia
theorem churn2 {x spot : Int} {k : Nat} (s0 : 0 ≤ spot) (s1 : spot ≤ k) (hk : k ≤ 500) : (x.fmod 2147483629 * (2 * spot + 3011) + 701 * spot * spot + 37).natAbs < 2 ^ 64 := by
  have h := fm_at x (y := 2147483629) (by decide)
  have h1 : x.fmod 2147483629 * (2 * spot + 3011) ≤ 2147483629 * 4011 := Int.mul_le_mul (by lia) (by lia) (by lia) (by decide)
  have h2 : 0 ≤ x.fmod 2147483629 * (2 * spot + 3011) := Int.mul_nonneg h.1 (by lia)
  have h3 : 701 * spot * spot ≤ (701 * 500) * 500 := Int.mul_le_mul (by lia) (by lia) (by lia) (by decide)
  have h4 : 0 ≤ 701 * spot * spot := Int.mul_nonneg (by lia) (by lia)
  lia
theorem fm_bd {x : Int} : Bd (x.fmod 2147483629) 10 := by
  have h := fm_at x (y := 2147483629) (by decide)
  exact .of (by lia)
theorem ne_nil {ns : List Int} (h : decide (ns = []) = false) : (ns.length : Int) ≠ 0 := by
  have : ns ≠ [] := by simpa using h
  have := List.length_pos_iff.mpr this
  lia
theorem at_len {ns : List Int} {x : Int} (h : decide (ns = []) = false) : x.fmod ns.length < (ns.length : Nat) := by
  have := ne_nil h
  exact (fm_at x (by lia)).2
theorem at_len0 {ns : List Int} {x : Int} (h : decide (ns = []) = false) : 0 ≤ x.fmod ns.length := by
  have := ne_nil h
  exact (fm_at x (by lia)).1
theorem my_any {prog : Program} {A : Around} {E : Value → Shared → Prop} {s : Shared} {h₀ : Heap} {L : Addr} {news : Led} {value slice : PySem.Expr} {l : Addr} {vs : List Value} {ns : List Int} {n : Nat} {x : Int} {u : Tok} {Q : Value → Shared → Prop}
    (N : News h₀ L s.heap news) (hm : (l, listOf vs.toArray n) ∈ news) (iv : IntsAre vs ns) (hne : decide (ns = []) = false) (hl : ns.length ≤ 63) (h : ∀ t, Q (.int (ns.getD (x.fmod ns.length).toNat 0) t) s)
    (hs : subscripted slice false (.ref l) (.int (x.fmod ns.length) u) = operate [.ref l, .int (x.fmod ns.length) u] (getItem (.ref l) (.int (x.fmod ns.length) u))) :
    wpAny (model prog w) A (subscriptTail value slice (.ref l) (.int (x.fmod ns.length) u)) Q E s :=
  item_anyK (N.isList hm) iv (at_len0 hne) (at_len hne) (Int.lt_trans (at_len hne) (by lia)) h hs
section
theorem KB17setup3 : True := by
  k_with "call builtin:len" => ((k_here; (with_reducible show wpAny _ _ (call (Value.builtin "len") [Value.ref _]) _ _ _); k_dflt (refine' len_ints_fit (News.isList ?Nw119 ?mw119) ?iw119 ?fw119 ?_; (case Nw119 => k_asm); (case mw119 => k_mem); (case iw119 => with_reducible assumption); (case fw119 => omega))))
  k_with "my lt" => (first | with_reducible assumption | exact fm_bd)
  k_with "binaryOp Pow int int" => ((k_here; (with_reducible refine pow_int_small ?kb1w120 ?kb2w120 ?kb3w120 ?_); (case kb1w120 => omega); (case kb2w120 => omega); (case kb3w120 => first | decide | (refine' churn1 ?kaw120 ?kbw120 ?kcw120; (case kaw120 => with_reducible assumption); (case kbw120 => with_reducible assumption); (case kcw120 => with_reducible assumption)) | (refine' churn2 ?kaw120 ?kbw120 ?kcw120; (case kaw120 => with_reducible assumption); (case kbw120 => with_reducible assumption); (case kcw120 => with_reducible assumption)))))
  k_with "binaryOp Mod int int" => ((k_here; (with_reducible refine mod_int' ?kmxw121 ?_); (case kmxw121 => first | with_reducible assumption | (refine' ne_nil ?kmhw121; (case kmhw121 => assumption)) | omega)))
  k_with "my any" => ((k_here; (with_reducible show wpAny _ _ (subscriptTail _ _ (Value.ref _) (Value.int (Int.fmod _ _) _)) _ _ _); k_dflt (refine' my_any ?Nw122 ?mw122 ?iw122 ?new122 ?lw122 ?_ ?k6w122; (case Nw122 => k_asm); (case mw122 => k_mem); (case iw122 => with_reducible assumption); (case new122 => assumption); (case lw122 => with_reducible assumption); (case k6w122 => with_unfolding_all rfl)); intro t'))
  k_with "subscriptTail Subscript" => (k_extra "my any")
  k_with "subscriptTail" => (k_extra "my any")
  trivial
set_option maxHeartbeats 1000000 in
theorem c_law_draw {p c : Addr} {o : Obj} {g : Obj → Led} {vs : List Value} {ns : List Int} {nc : Nat} {many : Int} {kt : Tok} {k : Nat} (hm : 0 < many) (hm2 : many ≤ 100000) (hk : k ≤ 500) (iv : IntsAre vs ns) (hl : ns.length ≤ 63) (po : PenAt c k o) :
    Ct w mean mg mb 10 (.ref 344) [.ref p, .int many kt] (fun news => UpdF p o news g ∧ Keeps (c, listOf vs.toArray nc) g)
     (fun Q news => ∀ o' d t, PenAt c (k + 1) o' → 0 ≤ d → d < many → Q (.int d t) (g o')) := by
  unfold Ct; k_fill; intro dp un gd cn cs a ccd cl outer A₀ base h₀ L m news s Q E B F X N T hk hpre hd hu hret
  obtain ⟨hU, hC⟩ := hpre
  obtain rfl := updF_is hU
  obtain ⟨spot, rest, t, u, n, rfl, s0, s1, r0⟩ := po
  have bm : Bd many 6 := .of (by omega)
  have bs : Bd spot 3 := .of (by omega)
  have b1 : Bd 50023 5 := .of (by decide)
  have b2 : Bd (2 * spot + 3011) 4 := .of (by omega)
  have b3 : Bd 701 3 := .of (by decide)
  have b4 : Bd (701 * spot) 6 := .of (by omega)
  have b5 : Bd 2 1 := .of (by decide)
  refine wpAny_call ?_
  k_dflt (refine' code_defN [Str.ofString "pen", Str.ofString "many"] ?k1 ?k2 ?k3 ?k4 ?k5 ?kA ?kF ?kK ?k6 ?k7 ?k8 ?k9 ?kB ?_ ?c2 ?c3 ?c4 ?c5; (case kA => exact rfl); (case kF => exact rfl); (case kK => assumption); (case k1 => k_asm); (case k2 => k_asm); (case k3 => k_asm); (case k4 => k_asm); (case k5 => k_asm); (case k6 => k_is); (case k7 => k_is); (case k8 => ktr_room); (case k9 => exact BindsTo.of_eq rfl); (case c5 => decide); (case kB => exact locs rfl); (case c2 => exact rfl); (case c3 => exact rfl); (case c4 => exact rfl); k_whole; intro g' L' h' FG' F' N' B' X' T'; (try dsimp only); (try k_fold); (refine wp_letA ?_); intro A2)
  k_steps
  all_goals (
    (with_reducible rename Fr h₀ L _ m => kF)
    (with_reducible rename News h₀ L _ _ => kN)
    refine' hret _ _ _ ?po (fm_at _ hm).1 (fm_at _ hm).2 _ _ kF (News.sub kN ?sb)
    (case sb => k_extra "my keep")
    (case po => exact ⟨_, _, _, _, _, rfl, by omega, by omega, by first | with_reducible assumption | exact fd_nn (by omega) hm⟩))
end
end

end
section
open PySem PySem.W PyProof.Rows PySem.Calls PySem.Spec

theorem KB18setup1 : True := by
  k_with "binaryOp Pow int int" => ((k_here; (with_reducible refine pow_int_small ?kb1w123 ?kb2w123 ?kb3w123 ?_); (case kb1w123 => omega); (case kb2w123 => omega); (case kb3w123 => decide)))
  trivial
section
variable {w : World} {mean : ExcName → Option Value} {mg mb : Str → Option Value}
theorem updF_at {p : Addr} {o o1 : Obj} {l : Led} {g : Obj → Led} (h : UpdF p o l g) : UpdF p o1 (g o1) g := by
  obtain ⟨pre, post, e, f, a, b⟩ := h.split
  have key : ∀ pre : Led, (∀ q ∈ pre, q.1 ≠ p) → UpdF p o1 (pre ++ (p, o1) :: post) (fun o' => pre ++ (p, o') :: post) := by
    intro pre
    induction pre with
    | nil => intro _; exact .head b
    | cons x r ih => intro h; exact .tail (h _ (.head _)) (ih fun q hq => h q (.tail _ hq))
  have e2 : g = fun o' => pre ++ (p, o') :: post := funext f
  rw [e2]
  exact key pre a
theorem updF_cons {d p : Addr} {x o : Obj} {l : Led} {g : Obj → Led} (h : AllLt d l) (hm : (p, o) ∈ l) (u : UpdF p o l g) : UpdF p o ((d, x) :: l) (fun o' => (d, x) :: g o') := .tail (allLt_ne h hm) u
theorem Keeps.cons {e x : Addr × Obj} {g : Obj → Led} (h : Keeps e g) : Keeps e (fun o' => x :: g o') := fun o => .tail _ (h o)
theorem KB18setup2 : True := by
  k_with "my kmem" => (first | (with_reducible refine' Keeps.at ?kmhw124; (case kmhw124 => with_reducible assumption)) | (with_reducible refine' updF_mem ?kmhw124; (case kmhw124 => with_reducible assumption)))
  trivial
local macro_rules | `(tactic| walk_at "my updf") => `(tactic| first | with_reducible assumption | (refine' updF_at ?kmh; (case kmh => with_reducible assumption)) | (refine' updF_cons ?kml ?kmm ?kmu; (case kmu => walk_at "my updf"); (case kml => first | with_reducible assumption | exact allLt_of (by assumption)); (case kmm => k_mem)))

theorem KB18setup3 : True := by
  k_with "my keeps" => (first | with_reducible assumption | (refine' Keeps.cons ?kmhw125; (case kmhw125 => k_extra "my keeps")))
  k_with "call ref" => ((k_here; (with_reducible show wpAny _ _ (call (Value.ref 344) _) _ _ _); k_dflt (refine' (c_law_draw ?hmw126 ?hm2w126 ?hkw126 ?ivw126 ?hlw126 ?pow126) _ _ _ _ _ _ _ _ _ _ _ _ _ _ _ _ _ _ ?kB ?kF ?kX ?kN ?kT ?kK ?kpw126 ?kd ?ku ?_; k_extra "sid"; (case pow126 => with_reducible assumption); (case ivw126 => with_reducible assumption); (case hlw126 => with_reducible assumption); (case hmw126 => decide); (case hm2w126 => decide); (case hkw126 => omega); (case kpw126 => refine' ⟨?kpaw126, ?kpbw126⟩; (case kpaw126 => walk_at "my updf"); (case kpbw126 => k_extra "my keeps")); k_whole; intro o9 d9 t9 po9 dl9 dh9 h9 tk9 F9 N9; (try k_sweep))))
  trivial
theorem my_pick {prog : Program} {A : Around} {E : Value → Shared → Prop} {s : Shared} {h₀ : Heap} {L : Addr} {news : Led} {value slice : PySem.Expr} {l : Addr} {vs : List Value} {ns : List Int} {n : Nat} {x : Int} {u : Tok} {Q : Value → Shared → Prop}
    (N : News h₀ L s.heap news) (hm : (l, listOf vs.toArray n) ∈ news) (iv : IntsAre vs ns) (h0 : 0 ≤ x) (h1 : x < ns.length) (hB : ns.length < 100 ∧ (ns.all fun y => decide (y.natAbs < 1000)) = true) (h : ∀ v t, Bd v 3 → Q (.int v t) s)
    (hs : subscripted slice false (.ref l) (.int x u) = operate [.ref l, .int x u] (getItem (.ref l) (.int x u))) :
    wpAny (model prog w) A (subscriptTail value slice (.ref l) (.int x u)) Q E s := by
  refine item_anyK (N.isList hm) iv h0 h1 (Int.lt_trans h1 (by lia)) (fun t => h _ t (.of ?_)) hs
  have hlt : x.toNat < ns.length := by lia
  have e : ns.getD x.toNat 0 = ns[x.toNat] := by simp [List.getD, hlt]
  have := List.all_eq_true.mp hB.2 _ (List.getElem_mem hlt)
  rw [e]
  exact of_decide_eq_true this
theorem num_d {d : Int} (h0 : 0 ≤ d) (h1 : d < 2) : d = 0 ∨ d = 1 := by lia
theorem num0 {d x : Int} (h0 : 0 ≤ d) (h1 : d < 2) (h : Bd x 3) : Bd ((1 - 2 * d) * 100 * x) 6 := by
  obtain rfl | rfl := num_d h0 h1
  · exact Bd.mul (b := 3) (c := 3) (.of (by decide)) h
  · exact Bd.mul (b := 3) (c := 3) (.of (by decide)) h
theorem num1 {d x : Int} (h0 : 0 ≤ d) (h1 : d < 2) (h : Bd x 3) : Bd ((1 - 2 * d) * x) 6 := by
  obtain rfl | rfl := num_d h0 h1
  · exact (Bd.mul (b := 1) (c := 3) (.of (by decide)) h).to (by decide)
  · exact (Bd.mul (b := 1) (c := 3) (.of (by decide)) h).to (by decide)
theorem num2 {d x : Int} (h0 : 0 ≤ d) (h1 : d < 2) (h2 : 0 ≤ x) (h : x < 100000) : Bd ((1 - 2 * d) * x) 6 := by
  have hx : Bd x 5 := .of (nab_lt h2 h rfl)
  obtain rfl | rfl := num_d h0 h1
  · exact Bd.mul (b := 1) (c := 5) (.of (by decide)) hx
  · exact Bd.mul (b := 1) (c := 5) (.of (by decide)) hx
theorem KB18setup4 : True := by
  k_with "my pick" => ((k_here; (with_reducible show wpAny _ _ (subscriptTail _ _ (Value.ref _) (Value.int _ _)) _ _ _); k_dflt (refine' my_pick ?Nw127 ?mw127 ?iw127 ?h0w127 ?h1w127 ?hBw127 ?_ ?k6w127; (case h0w127 => with_reducible assumption); (case Nw127 => k_asm); (case mw127 => k_mem); (case iw127 => l_ints); (case h1w127 => (simp only [List.length_cons, List.length_nil]; omega)); (case hBw127 => decide); (case k6w127 => with_unfolding_all rfl)); intro v' t' b'))
  k_with "subscriptTail List" => (k_extra "my pick")
  k_with "my lt" => (first | with_reducible assumption | ((refine' Bd.of (c := 6) ?kmhw128); (case kmhw128 => omega)))
  trivial
section
set_option maxHeartbeats 400000 in
theorem c_law_number {p c : Addr} {o : Obj} {g : Obj → Led} {vs : List Value} {ns : List Int} {nc : Nat} {k : Nat} (hk : k + 3 ≤ 500) (iv : IntsAre vs ns) (hl : ns.length ≤ 63) (po : PenAt c k o) :
    Ct w mean mg mb 12 (.ref 351) [.ref p] (fun news => UpdF p o news g ∧ Keeps (c, listOf vs.toArray nc) g)
     (fun Q news => ∀ o' v t, PenAt c (k + 3) o' → Bd v 6 → Q (.int v t) (g o')) := by
  unfold Ct; k_fill; intro dp un gd cn cs a ccd cl outer A₀ base h₀ L m news s Q E B F X N T hk hpre hd hu hret
  obtain ⟨hU, hC⟩ := hpre
  refine wpAny_call ?_
  k_dflt (refine' code_defN [Str.ofString "pen"] ?k1 ?k2 ?k3 ?k4 ?k5 ?kA ?kF ?kK ?k6 ?k7 ?k8 ?k9 ?kB ?_ ?c2 ?c3 ?c4 ?c5; (case kA => exact rfl); (case kF => exact rfl); (case kK => assumption); (case k1 => k_asm); (case k2 => k_asm); (case k3 => k_asm); (case k4 => k_asm); (case k5 => k_asm); (case k6 => k_is); (case k7 => k_is); (case k8 => ktr_room); (case k9 => exact BindsTo.of_eq rfl); (case c5 => decide); (case kB => exact locs rfl); (case c2 => exact rfl); (case c3 => exact rfl); (case c4 => exact rfl); k_whole; intro g' L' h' FG' F' N' B' X' T'; (try dsimp only); (try k_fold); (refine wp_letA ?_); intro A2)
  k_steps
  all_goals (
    (with_reducible rename Fr h₀ L _ m => kF)
    (with_reducible rename News h₀ L _ _ => kN)
    refine' hret _ _ _ ?po ?bd _ _ kF (News.sub kN ?sb)
    (case sb => k_extra "my keep")
    (case po => assumption)
    (case bd => first | exact num0 (by assumption) (by assumption) (by assumption) | exact num1 (by assumption) (by assumption) (by assumption) | exact num2 (by assumption) (by assumption) (by assumption) (by assumption)))
end
end

end
local macro_rules | `(tactic| walk_at "my updf") => `(tactic| first | with_reducible assumption | (refine' updF_at ?kmh; (case kmh => with_reducible assumption)) | (refine' updF_cons ?kml ?kmm ?kmu; (case kmu => walk_at "my updf"); (case kml => first | with_reducible assumption | exact allLt_of (by assumption)); (case kmm => k_mem)))
section
open PySem PySem.W PyProof.Rows PySem.Calls PySem.Spec

section
variable {w : World} {mean : ExcName → Option Value} {mg mb : Str → Option Value}
theorem off1_all {d : Addr} : ∀ {l : Led}, LCg.Off1 d l → ∀ q ∈ l, q.1 ≠ d
  | [], _, q, hm => by cases hm
  | x :: r, h, q, hm => by
    rcases List.mem_cons.mp hm with e | hm
    · rw [e]; exact h.1
    · exact off1_all h.2 q hm
theorem off1_ne {d p : Addr} {o : Obj} {l : Led} (h : LCg.Off1 d l) (hm : (p, o) ∈ l) : @Ne Nat d p := fun e => off1_all h _ hm e.symm
theorem off1_of {d : Addr} : ∀ {l : Led}, (∀ q ∈ l, q.1 ≠ d) → LCg.Off1 d l
  | [], _ => trivial
  | _ :: _, h => ⟨h _ (.head _), off1_of fun q hq => h q (.tail _ hq)⟩
theorem updF_addr {p : Addr} {o : Obj} {l : Led} {g : Obj → Led} (h : UpdF p o l g) (o1 o2 : Obj) : ∀ q ∈ g o2, ∃ q' ∈ g o1, q'.1 = q.1 := by
  obtain ⟨pre, post, e, f, a, b⟩ := h.split
  intro q hq
  rw [f] at hq
  rw [f]
  rcases List.mem_append.mp hq with hq | hq
  · exact ⟨q, List.mem_append_left _ hq, rfl⟩
  · rcases List.mem_cons.mp hq with rfl | hq
    · exact ⟨(p, o1), List.mem_append_right _ (.head _), rfl⟩
    · exact ⟨q, List.mem_append_right _ (.tail _ hq), rfl⟩
theorem off1_upd {p d : Addr} {o o1 o2 : Obj} {l l1 l2 : Led} {g : Obj → Led} (u : UpdF p o l g) (h : LCg.Off1 d l1) (e1 : l1 = g o1) (e2 : l2 = g o2) : LCg.Off1 d l2 :=
  off1_of fun q hq => by
    rw [e2] at hq
    obtain ⟨q', h1, h2⟩ := updF_addr u o1 o2 q hq
    rw [← h2]
    exact off1_all h q' (e1 ▸ h1)
theorem off3_upd {p I C D : Addr} {o o1 o2 : Obj} {l l1 l2 : Led} {g : Obj → Led} (u : UpdF p o l g) (h : LCg.Off3 I C D l1) (e1 : l1 = g o1) (e2 : l2 = g o2) : LCg.Off3 I C D l2 :=
  LCg.Off3.of fun q hq => by
    rw [e2] at hq
    obtain ⟨q', h1, h2⟩ := updF_addr u o1 o2 q hq
    rw [← h2]
    exact h.mem q' (e1 ▸ h1)
theorem updF_to {p : Addr} {o o1 : Obj} {l l' : Led} {g : Obj → Led} (u : UpdF p o l g) (e : l' = g o1) : UpdF p o1 l' g := by rw [e]; exact updF_at u
theorem updF_c3 {p I C D : Addr} {oI oC oD o o1 : Obj} {l l' : Led} {g : Obj → Led} (u : UpdF p o l g) (e : l' = g o1) (h : LCg.Off3 I C D l') :
    UpdF p o1 ((I, oI) :: (C, oC) :: (D, oD) :: l') (fun o' => (I, oI) :: (C, oC) :: (D, oD) :: g o') := by
  subst e
  obtain ⟨h1, h2, h3⟩ := h.mem _ (updF_mem u)
  exact .tail (fun e => h1 e.symm) (.tail (fun e => h2 e.symm) (.tail (fun e => h3 e.symm) (updF_at u)))
theorem updF_o1 {p d : Addr} {x o o1 : Obj} {l l' : Led} {g : Obj → Led} (u : UpdF p o l g) (e : l' = g o1) (h : LCg.Off1 d l') : UpdF p o1 ((d, x) :: l') (fun o' => (d, x) :: g o') := by
  subst e
  exact .tail (off1_ne h (updF_mem u)) (updF_at u)
theorem upd_o1 {d : Addr} {o o' : Obj} {l : Led} (h : LCg.Off1 d l) : Upd d o o' ((d, o) :: l) ((d, o') :: l) := .head (off1_all h)
theorem pen_cell {h₀ h : Heap} {L p : Addr} {x o : Obj} {l : Led} {g : Obj → Led} {e : Addr × Obj} (_ : News h₀ L h ((L + 1, x) :: l)) (l1 : ∀ q ∈ l, @LT.lt Nat _ q.1 L) (u : UpdF p o l g) (k : Keeps e g) :
    UpdF p o ((L + 1, x) :: l) (fun o' => (L + 1, x) :: g o') ∧ Keeps e (fun o' => (L + 1, x) :: g o') := by
  refine ⟨.tail (fun e => ?_) u, k.cons⟩
  have h1 := updF_mem (o' := o) u
  rw [← updF_is u] at h1
  have h2 : @LT.lt Nat _ p L := l1 _ h1
  have e : @Eq Nat (L + 1) p := e
  lia




theorem KB19setup1 : True := by
  k_with "call ref" => ((k_here; (with_reducible show wpAny _ _ (call (Value.ref 351) _) _ _ _); k_dflt (refine' (c_law_number ?hkw129 ?ivw129 ?hlw129 ?pow129) _ _ _ _ _ _ _ _ _ _ _ _ _ _ _ _ _ _ ?kB ?kF ?kX ?kN ?kT ?kK ?kpw129 ?kd ?ku ?_; k_extra "sid"; (case pow129 => with_reducible assumption); (case ivw129 => with_reducible assumption); (case hlw129 => with_reducible assumption); (case hkw129 => omega); (case kpw129 => refine' ⟨?kpaw129, ?kpbw129⟩; (case kpaw129 => walk_at "my updf"); (case kpbw129 => k_extra "my keeps")); k_whole; intro o9 v9 t9 po9 b9 h9 tk9 F9 N9; (try k_sweep))))
  k_with "CEnd" => ((k_dflt (refine' CEnd.intro ?Fw130 ?Nw130 _ ?subw130 ?offw130 ?_; (case Fw130 => k_asm); (case Nw130 => k_asm); (case offw130 => assumption); (case subw130 => k_extra "my keep"))))
  k_with "CEnd" => (((with_reducible show CEnd _ _ _ _ _ _ _ _ _ _ _ _ _ (Value.ref _) _); k_dflt (refine' CEnd.one ?Fw131 ?Nw131 ?offw131 ?subw131 ?ndw131 ?_; (case Fw131 => k_asm); (case Nw131 => k_asm); (case offw131 => assumption); (case subw131 => k_extra "my keep"); (case ndw131 => first | (refine' off1_nd ?knaw131 ?knbw131 ?kncw131 ?kndw131 ?knew131; (case knaw131 => with_reducible assumption); (case knbw131 => k_mem); (case kncw131 => k_mem); (case kndw131 => k_mem); (case knew131 => k_mem)) | (refine ⟨?_, ?_, ?_, ?_⟩ <;> k_ne)))))
  k_with "CompEnd" => ((k_dflt (refine' compEnd_0 ?Fw132 ?Nw132 ?offw132 ?srcw132 ?_; (case Fw132 => k_asm); (case Nw132 => k_asm); (case offw132 => assumption); (case srcw132 => lcg_src))))
  k_with "CompEnd" => ((k_dflt (refine' compEnd_ext ?Fw133 ?Nw133 ?fw133 ?offw133 ?srcw133 ?_; (case Fw133 => k_asm); (case Nw133 => k_asm); (case fw133 => with_reducible assumption); (case offw133 => assumption); (case srcw133 => lcg_src))))
  k_with "subscriptTail" => (k_extra "my item")
  k_with "subscriptTail Subscript" => (k_extra "my item")
  trivial
local macro_rules | `(tactic| walk_at "my updf") => `(tactic| first
  | with_reducible assumption
  | (refine' updF_to ?kmh ?kme; (case kmh => with_reducible assumption); (case kme => exact rfl))
  | (refine' updF_c3 ?kmh ?kme ?kmo; (case kmh => with_reducible assumption); (case kme => exact rfl); (case kmo => k_extra "my off3"))
  | (refine' updF_o1 ?kmh ?kme ?kmo; (case kmh => with_reducible assumption); (case kme => exact rfl); (case kmo => k_extra "my off1")))
theorem KB19setup2 : True := by
  k_with "my off3" => (first | with_reducible assumption | (refine' off3_upd ?kmuw134 ?kmvw134 ?kmww134 ?kmxw134; (case kmuw134 => with_reducible assumption); (case kmvw134 => with_reducible assumption); (case kmww134 => exact rfl); (case kmxw134 => exact rfl)))
  k_with "my off1" => (first | with_reducible assumption | (refine' off1_upd ?kmuw135 ?kmvw135 ?kmww135 ?kmxw135; (case kmuw135 => with_reducible assumption); (case kmvw135 => with_reducible assumption); (case kmww135 => exact rfl); (case kmxw135 => exact rfl)))
  k_with "CompRest" => ((k_dflt first
  | (refine LCg.CompRest.succ ?_; intro v' I' oI' C' oC' D' m' h' tk' E' hv' hC' hx' F' N' off' ne'; obtain ⟨t9', hv9'⟩ := hv'; subst hv9')
  | refine LCg.CompRest.zero ?_))
  k_with "FinA" => (((unfold LCg.FinA); intro D' h' tk' F' N' o1'; (try simp only [List.nil_append, List.cons_append] at N'); (try dsimp only)))
  k_with "FinE" => (((unfold LCg.FinE); intro D' h' tk' F' N' o1'; (try simp only [List.nil_append, List.cons_append] at N'); (try dsimp only)))
  k_with "CompEnd" => ((k_dflt (refine' compEnd_0 ?Fw136 ?Nw136 ?offw136 ?srcw136 ?_; (case Fw136 => k_asm); (case Nw136 => k_asm); (case offw136 => k_extra "my off3"); (case srcw136 => lcg_src))))
  k_with "k_upd" => ((refine' upd_o1 ?kmlw137; (case kmlw137 => k_extra "my off1")))
  trivial
theorem PenAt.mono {c : Addr} {k k' : Nat} {o : Obj} (h : PenAt c k o) (hk : k ≤ k') : PenAt c k' o := by
  obtain ⟨spot, rest, t, u, n, e, h0, h1, h2⟩ := h
  exact ⟨spot, rest, t, u, n, e, h0, by lia, h2⟩
theorem bd7 {x : Int} (h : Bd x 6) : Bd x 7 := h.to (by decide)
theorem bd0 : Bd 0 7 := .of (by decide)
theorem bd2 {x : Int} (h : Bd x 6) : Bd (2 * x) 7 := .of (by have := h.lt; lia)
theorem bd00 : Bd (2 * 0) 7 := .of (by decide)
theorem off1_tail {d : Addr} {x : Addr × Obj} {l : Led} (h : LCg.Off1 d (x :: l)) : LCg.Off1 d l := h.2
section
set_option maxHeartbeats 1200000 in
theorem c_law_six {p c : Addr} {o : Obj} {g : Obj → Led} {vs : List Value} {ns : List Int} {nc : Nat} {k : Nat} (hk : k + 20 ≤ 500) (iv : IntsAre vs ns) (hl : ns.length ≤ 63) (po : PenAt c k o) :
    Ct w mean mg mb 14 (.ref 356) [.ref p] (fun news => UpdF p o news g ∧ Keeps (c, listOf vs.toArray nc) g)
     (fun Q news => ∀ l n a1 b1 c1 d1 e1 f1 k1 k2 k3 k4 k5 k6 o', PenAt c (k + 20) o' → Bd a1 7 → Bd b1 7 → Bd c1 7 → Bd d1 7 → Bd e1 7 → Bd f1 7 → LCg.Off1 l (g o') →
      Q (.ref l) ((l, listOf #[.int a1 k1, .int b1 k2, .int c1 k3, .int d1 k4, .int e1 k5, .int f1 k6] n) :: g o')) := by
  unfold Ct; k_fill; intro dp un gd cn cs a ccd cl outer A₀ base h₀ L m news s Q E B F X N T hk hpre hd hu hret
  obtain ⟨hU, hC⟩ := hpre
  refine wpAny_call ?_
  k_dflt (refine' code_defC ?k1 ?k2 ?k3 ?k4 ?k5 ?kA ?kF ?kK ?k6 ?k7 ?k8 ?k9 ?kB ?kD ?_ ?c2 ?c3 ?c4; (case kA => exact rfl); (case kF => exact rfl); (case kK => assumption); (case k1 => k_asm); (case k2 => k_asm); (case k3 => k_asm); (case k4 => k_asm); (case k5 => k_asm); (case k6 => k_is); (case k7 => k_is); (case k8 => ktr_room); (case k9 => exact BindsTo.of_eq rfl); (case kB => exact rfl); (case kD => decide +kernel); (case c2 => exact rfl); (case c3 => exact rfl); (case c4 => exact rfl); k_whole; intro g' L' h' tk' cells' FG' F' N' Y' B' X' T' l1; (try k_lt l1); k_cells Y'; (try simp only [List.cons_append, List.nil_append] at N'); (try dsimp only); (try k_fold); (refine wp_letA ?_); intro A2)
  (with_reducible rename News g' L' _ _ => N0)
  obtain ⟨hU', hC'⟩ := pen_cell N0 l1 hU hC
  k_steps
  · (with_reducible rename Fr h₀ L _ m => kF)
    (with_reducible rename News h₀ L _ _ => kN)
    refine' hret _ _ _ _ _ _ _ _ _ _ _ _ _ _ _ ?po0 ?v10 ?v20 ?v30 ?v40 ?v50 ?v60 ?off0 _ _ kF (News.sub kN ?sb0)
    (case sb0 => k_extra "my keep")
    (case po0 => exact PenAt.mono (by assumption) (by omega))
    (case off0 => exact off1_upd hU (off1_tail (by assumption)) rfl rfl)
    all_goals (first | exact bd0 | exact bd7 (by assumption) | exact bd2 (by assumption) | exact bd00)
  · (with_reducible rename Fr h₀ L _ m => kF)
    (with_reducible rename News h₀ L _ _ => kN)
    refine' hret _ _ _ _ _ _ _ _ _ _ _ _ _ _ _ ?po1 ?v11 ?v21 ?v31 ?v41 ?v51 ?v61 ?off1 _ _ kF (News.sub kN ?sb1)
    (case sb1 => k_extra "my keep")
    (case po1 => exact PenAt.mono (by assumption) (by omega))
    (case off1 => exact off1_upd hU (off1_tail (by assumption)) rfl rfl)
    all_goals (first | exact bd0 | exact bd7 (by assumption) | exact bd2 (by assumption) | exact bd00)
  · (with_reducible rename Fr h₀ L _ m => kF)
    (with_reducible rename News h₀ L _ _ => kN)
    refine' hret _ _ _ _ _ _ _ _ _ _ _ _ _ _ _ ?po2 ?v12 ?v22 ?v32 ?v42 ?v52 ?v62 ?off2 _ _ kF (News.sub kN ?sb2)
    (case sb2 => k_extra "my keep")
    (case po2 => exact PenAt.mono (by assumption) (by omega))
    (case off2 => exact off1_upd hU (off1_tail (by assumption)) rfl rfl)
    all_goals (first | exact bd0 | exact bd7 (by assumption) | exact bd2 (by assumption) | exact bd00)
  · (with_reducible rename Fr h₀ L _ m => kF)
    (with_reducible rename News h₀ L _ _ => kN)
    refine' hret _ _ _ _ _ _ _ _ _ _ _ _ _ _ _ ?po3 ?v13 ?v23 ?v33 ?v43 ?v53 ?v63 ?off3 _ _ kF (News.sub kN ?sb3)
    (case sb3 => k_extra "my keep")
    (case po3 => exact PenAt.mono (by assumption) (by omega))
    (case off3 => exact off1_upd hU (off1_tail (by assumption)) rfl rfl)
    all_goals (first | exact bd0 | exact bd7 (by assumption) | exact bd2 (by assumption) | exact bd00)
  · (with_reducible rename Fr h₀ L _ m => kF)
    (with_reducible rename News h₀ L _ _ => kN)
    refine' hret _ _ _ _ _ _ _ _ _ _ _ _ _ _ _ ?po4 ?v14 ?v24 ?v34 ?v44 ?v54 ?v64 ?off4 _ _ kF (News.sub kN ?sb4)
    (case sb4 => k_extra "my keep")
    (case po4 => exact PenAt.mono (by assumption) (by omega))
    (case off4 => exact off1_upd hU (off1_tail (by assumption)) rfl rfl)
    all_goals (first | exact bd0 | exact bd7 (by assumption) | exact bd2 (by assumption) | exact bd00)
  · (with_reducible rename Fr h₀ L _ m => kF)
    (with_reducible rename News h₀ L _ _ => kN)
    refine' hret _ _ _ _ _ _ _ _ _ _ _ _ _ _ _ ?po5 ?v15 ?v25 ?v35 ?v45 ?v55 ?v65 ?off5 _ _ kF (News.sub kN ?sb5)
    (case sb5 => k_extra "my keep")
    (case po5 => exact PenAt.mono (by assumption) (by omega))
    (case off5 => exact off1_upd hU (off1_tail (by assumption)) rfl rfl)
    all_goals (first | exact bd0 | exact bd7 (by assumption) | exact bd2 (by assumption) | exact bd00)
  · (with_reducible rename Fr h₀ L _ m => kF)
    (with_reducible rename News h₀ L _ _ => kN)
    refine' hret _ _ _ _ _ _ _ _ _ _ _ _ _ _ _ ?po6 ?v16 ?v26 ?v36 ?v46 ?v56 ?v66 ?off6 _ _ kF (News.sub kN ?sb6)
    (case sb6 => k_extra "my keep")
    (case po6 => exact PenAt.mono (by assumption) (by omega))
    (case off6 => exact off1_upd hU (off1_tail (by assumption)) rfl rfl)
    all_goals (first | exact bd0 | exact bd7 (by assumption) | exact bd2 (by assumption) | exact bd00)
  · (with_reducible rename Fr h₀ L _ m => kF)
    (with_reducible rename News h₀ L _ _ => kN)
    refine' hret _ _ _ _ _ _ _ _ _ _ _ _ _ _ _ ?po7 ?v17 ?v27 ?v37 ?v47 ?v57 ?v67 ?off7 _ _ kF (News.sub kN ?sb7)
    (case sb7 => k_extra "my keep")
    (case po7 => exact PenAt.mono (by assumption) (by omega))
    (case off7 => exact off1_upd hU (off1_tail (by assumption)) rfl rfl)
    all_goals (first | exact bd0 | exact bd7 (by assumption) | exact bd2 (by assumption) | exact bd00)
end
end

end
local macro_rules | `(tactic| walk_at "my updf") => `(tactic| first
  | with_reducible assumption
  | (refine' updF_to ?kmh ?kme; (case kmh => with_reducible assumption); (case kme => exact rfl))
  | (refine' updF_c3 ?kmh ?kme ?kmo; (case kmh => with_reducible assumption); (case kme => exact rfl); (case kmo => k_extra "my off3"))
  | (refine' updF_o1 ?kmh ?kme ?kmo; (case kmh => with_reducible assumption); (case kme => exact rfl); (case kmo => k_extra "my off1")))
section
open PySem PySem.W PyProof.Rows PySem.Calls PySem.Spec
section
open PySem PySem.W PyProof.Rows PySem.Calls PySem.Spec
theorem KsidX2 : True := by
  k_with_none
  k_with "sid" => ((case kB => k_asm); (case kF => k_asm); (case kX => k_asm); (case kN => k_asm); (case kT => k_asm); (case kK => first | exact rfl | assumption); (case kd => ktr_room); (case ku => ktr_units))
  k_with "sidT" => ((case kB => k_asm); (case kXB => k_asm); (case kTB => k_asm); (case kG => first | with_reducible assumption | exact GroundOf.refl (by assumption)); (case kF => k_asm); (case kX => k_asm); (case kN => k_asm); (case kT => k_asm); (case kK => first | exact rfl | assumption); (case kd => ktr_room); (case ku => ktr_units))
  trivial
end

theorem KX2setup1 : True := by
  k_with "ktr_units" => ((have hcL9 := cLine_is; (try simp only [units_under_make, units_in1, units_deeper, Around.mark_units, units_caller]); (try dsimp only [ktrTop]); omega))
  k_with "ktr_room" => (((try simp only [depth_under_make, depth_under_kw, depth_in1, depth_deeper, depth_caller]); (try dsimp only [ktrTop]); omega))
  k_with "ktr_room" => (first | (refine' room_k 0 ?kmhw138 ?kmew138 ?kmkw138; (case kmhw138 => with_reducible assumption); (case kmew138 => exact rfl); (case kmkw138 => exact Nat.le_of_ble_eq_true rfl)) | (refine' room_k 1 ?kmhw138 ?kmew138 ?kmkw138; (case kmhw138 => with_reducible assumption); (case kmew138 => exact rfl); (case kmkw138 => exact Nat.le_of_ble_eq_true rfl)) | (refine' room_k 2 ?kmhw138 ?kmew138 ?kmkw138; (case kmhw138 => with_reducible assumption); (case kmew138 => exact rfl); (case kmkw138 => exact Nat.le_of_ble_eq_true rfl)) | (refine' room_k 3 ?kmhw138 ?kmew138 ?kmkw138; (case kmhw138 => with_reducible assumption); (case kmew138 => exact rfl); (case kmkw138 => exact Nat.le_of_ble_eq_true rfl)) | (refine' room_j 0 ?kmhw138 ?kmew138 ?kmkw138; (case kmhw138 => with_reducible assumption); (case kmew138 => exact rfl); (case kmkw138 => exact Nat.le_of_ble_eq_true rfl)) | (refine' room_j 1 ?kmhw138 ?kmew138 ?kmkw138; (case kmhw138 => with_reducible assumption); (case kmew138 => exact rfl); (case kmkw138 => exact Nat.le_of_ble_eq_true rfl)) | (refine' room_j 2 ?kmhw138 ?kmew138 ?kmkw138; (case kmhw138 => with_reducible assumption); (case kmew138 => exact rfl); (case kmkw138 => exact Nat.le_of_ble_eq_true rfl)) | exact Nat.le_of_ble_eq_true rfl)
  k_with "ktr_units" => (first | (refine' room_k 0 ?kmhw139 ?kmew139 ?kmkw139; (case kmhw139 => with_reducible assumption); (case kmew139 => exact rfl); (case kmkw139 => exact Nat.le_of_ble_eq_true rfl)) | (refine' room_k 3 ?kmhw139 ?kmew139 ?kmkw139; (case kmhw139 => with_reducible assumption); (case kmew139 => exact rfl); (case kmkw139 => exact Nat.le_of_ble_eq_true rfl)) | (refine' room_k 1 ?kmhw139 ?kmew139 ?kmkw139; (case kmhw139 => with_reducible assumption); (case kmew139 => exact rfl); (case kmkw139 => exact Nat.le_of_ble_eq_true rfl)) | (refine' room_k 4 ?kmhw139 ?kmew139 ?kmkw139; (case kmhw139 => with_reducible assumption); (case kmew139 => exact rfl); (case kmkw139 => exact Nat.le_of_ble_eq_true rfl)) | (refine' room_k 6 ?kmhw139 ?kmew139 ?kmkw139; (case kmhw139 => with_reducible assumption); (case kmew139 => exact rfl); (case kmkw139 => exact Nat.le_of_ble_eq_true rfl)) | (refine' room_k 7 ?kmhw139 ?kmew139 ?kmkw139; (case kmhw139 => with_reducible assumption); (case kmew139 => exact rfl); (case kmkw139 => exact Nat.le_of_ble_eq_true rfl)) | (refine' room_j 0 ?kmhw139 ?kmew139 ?kmkw139; (case kmhw139 => with_reducible assumption); (case kmew139 => exact rfl); (case kmkw139 => exact Nat.le_of_ble_eq_true rfl)) | (refine' room_j 3 ?kmhw139 ?kmew139 ?kmkw139; (case kmhw139 => with_reducible assumption); (case kmew139 => exact rfl); (case kmkw139 => exact Nat.le_of_ble_eq_true rfl)) | (refine' room_j 1 ?kmhw139 ?kmew139 ?kmkw139; (case kmhw139 => with_reducible assumption); (case kmew139 => exact rfl); (case kmkw139 => exact Nat.le_of_ble_eq_true rfl)) | (refine' room_j 4 ?kmhw139 ?kmew139 ?kmkw139; (case kmhw139 => with_reducible assumption); (case kmew139 => exact rfl); (case kmkw139 => exact Nat.le_of_ble_eq_true rfl)) | exact Nat.le_of_ble_eq_true rfl)
  k_with "my cls" => ((k_dflt (refine' call_cls ?k1w140 ?k2w140 ?k3w140 ?k4w140 ?k5w140 ?k6w140 ?_; (case k1w140 => k_asm); (case k2w140 => k_asm); (case k3w140 => k_asm); (case k4w140 => k_is); (case k5w140 => k_is); (case k6w140 => k_is); k_whole; intro x' d' h' F' N' l1 l2; (try k_lt l1); (try k_lt2 l2); (try k_sweep))))
  k_with "my enter" => ((refine wpAny_call ?_; k_dflt ktr_enter))
  k_with "my sub" => (first | with_reducible assumption | exact Sub.refl | exact Sub.here | (with_reducible refine' Sub.app ?kmhw141; (case kmhw141 => k_extra "my sub")) | (with_reducible refine' Sub.cons ?kmhw141; (case kmhw141 => k_extra "my sub")))
  k_with "my subt" => (first | (with_reducible refine' Sub.trans ?kmhw142 ?kmkw142; (case kmhw142 => with_reducible assumption); (case kmkw142 => (with_reducible refine' Sub.join ?kmaw142 ?kmbw142; (case kmaw142 => k_extra "my sub"); (case kmbw142 => k_extra "my sub")))) | k_extra "my sub")
  k_with "my kmem" => (first | with_reducible assumption | exact List.mem_cons_self | (refine' List.mem_cons_of_mem _ ?kmhw143; (case kmhw143 => k_extra "my kmem")))
  k_with "my kmem" => ((refine' List.mem_append_right _ ?kmhw144; (case kmhw144 => k_extra "my kmem")))
  k_with "my off" => ((refine' Fresh.off ?kmxw145 ?kmyw145; (case kmxw145 => with_reducible assumption); (case kmyw145 => k_mem)))
  k_with "k_upd" => ((refine' upd_app ?kmxw146 ?kmyw146; (case kmyw146 => k_extra "my off"); (case kmxw146 => k_upd)))
  k_with "my kmem" => (first | (with_reducible refine' dec_x ?kmhw147; (case kmhw147 => k_extra "my sub")) | (with_reducible refine' dec_d ?kmhw147; (case kmhw147 => k_extra "my sub")))
  k_with "my num" => (first | (with_reducible refine' Num.dec ?kmhw148 ?kmow148; (case kmow148 => with_reducible assumption); (case kmhw148 => k_extra "my sub")) | with_reducible assumption | (with_reducible refine' Num.app ?kmhw148; (case kmhw148 => k_extra "my num")) | (with_reducible refine' Num.cons ?kmhw148; (case kmhw148 => k_extra "my num")))
  k_with "my lt" => (first | with_reducible assumption | (refine' DecOK.bt ?kmxw149; (case kmxw149 => with_reducible assumption)) | exact ten_lt)
  k_with "mul_fits" => ((refine' mul_ok ?kmxw150 ?kmyw150 ?kmzw150; (case kmxw150 => k_extra "my lt"); (case kmyw150 => k_extra "my lt"); (case kmzw150 => first | omega | decide)))
  k_with "binaryOp Pow int int" => ((k_here; (with_reducible refine pow_int_small ?kb1w151 ?kb2w151 ?kb3w151 ?_); (case kb1w151 => omega); (case kb2w151 => omega); (case kb3w151 => decide)))
  k_with "my keep" => (first | exact Sub.refl | exact Sub.nil | (with_reducible refine' Sub.add ?kmaw152 ?kmbw152; (case kmaw152 => first | exact List.mem_cons_self | k_mem); (case kmbw152 => k_extra "my keep")) | (with_reducible refine' Sub.join ?kmaw152 ?kmbw152; (case kmaw152 => k_extra "my sub"); (case kmbw152 => k_extra "my keep")) | k_extra "my sub")
  k_with "exec While" => ((k_here; k_extra "my while"))
  k_with "exec While Compare" => ((k_here; k_extra "my while"))
  k_with "exec While Compare cons nil" => ((k_here; k_extra "my while"))
  k_with "my conj" => (first | with_reducible assumption | (with_reducible refine' Nat.ne_of_lt ?kmhw153; (case kmhw153 => with_reducible assumption)) | (with_reducible refine' Nat.ne_of_gt ?kmhw153; (case kmhw153 => with_reducible assumption)) | (with_reducible refine' Ne.symm (And.left ?kmhw153); (case kmhw153 => with_reducible assumption)) | (with_reducible refine' Ne.symm (And.left (And.right ?kmhw153)); (case kmhw153 => with_reducible assumption)) | (with_reducible refine' Ne.symm (And.left (And.right (And.right ?kmhw153))); (case kmhw153 => with_reducible assumption)) | (with_reducible refine' Ne.symm (And.left (And.right (And.right (And.right ?kmhw153)))); (case kmhw153 => with_reducible assumption)) | (with_reducible refine' Ne.symm (And.left (And.right (And.right (And.right (And.right ?kmhw153))))); (case kmhw153 => with_reducible assumption)) | (with_reducible refine' Ne.symm (And.left (And.right (And.right (And.right (And.right (And.right ?kmhw153)))))); (case kmhw153 => with_reducible assumption)) | (with_reducible refine' Ne.symm (And.left (And.right (And.right (And.right (And.right (And.right (And.right ?kmhw153))))))); (case kmhw153 => with_reducible assumption)) | (with_reducible refine' Ne.symm (And.left (And.right (And.right (And.right (And.right (And.right (And.right (And.right ?kmhw153)))))))); (case kmhw153 => with_reducible assumption)) | (with_reducible refine' (And.left ?kmhw153); (case kmhw153 => with_reducible assumption)) | (with_reducible refine' (And.left (And.right ?kmhw153)); (case kmhw153 => with_reducible assumption)) | (with_reducible refine' (And.left (And.right (And.right ?kmhw153))); (case kmhw153 => with_reducible assumption)) | (with_reducible refine' (And.left (And.right (And.right (And.right ?kmhw153)))); (case kmhw153 => with_reducible assumption)) | (with_reducible refine' (And.left (And.right (And.right (And.right (And.right ?kmhw153))))); (case kmhw153 => with_reducible assumption)) | (with_reducible refine' (And.left (And.right (And.right (And.right (And.right (And.right ?kmhw153)))))); (case kmhw153 => with_reducible assumption)) | (with_reducible refine' (And.left (And.right (And.right (And.right (And.right (And.right (And.right ?kmhw153))))))); (case kmhw153 => with_reducible assumption)) | (with_reducible refine' (And.left (And.right (And.right (And.right (And.right (And.right (And.right (And.right ?kmhw153)))))))); (case kmhw153 => with_reducible assumption)))
  k_with "k_ne" => ((refine neN ?_; (try dsimp only); first | k_extra "my conj" | omega))
  k_with "k_mem" => (k_extra "my kmem")
  k_with "eval Name" => ((k_here; (first | (with_reducible show wpAny _ _ (eval _ (envOf _ _ _ _ _)) _ _ _) | (with_reducible show wpAny _ _ (eval _ (envX _ _ _ _ _ _)) _ _ _)); first | (k_dflt (refine' nmL ?Fw154 ?vw154 ?aw154 ?_; (case aw154 => (refine' NmOk.mk ?na1w154 ?na2w154 ?na3w154; (case na1w154 => rfl); (case na2w154 => rfl); (case na3w154 => decide))); (case Fw154 => with_reducible assumption); (case vw154 => apply @rfl _ (some _)); k_whole)) | (k_dflt (refine' nmK ?Fw154 ?Xw154 ?Tw154 ?ew154 ?aw154 ?_; (case aw154 => (refine' NmOk.mk ?na1w154 ?na2w154 ?na3w154; (case na1w154 => rfl); (case na2w154 => rfl); (case na3w154 => decide))); (case Xw154 => with_reducible assumption); (case ew154 => k_is); (case Fw154 => with_reducible assumption); (case Tw154 => k_asm); k_whole))))
  k_with "spliced" => ((k_here; (first | (with_reducible show wpAny _ _ (spliced (backTo _ (starEach _ (envOf _ _ _ _ _)))) _ _ _) | (with_reducible show wpAny _ _ (spliced (backTo _ (starEach _ (envX _ _ _ _ _ _)))) _ _ _)); first | ((with_reducible show wpAny _ _ (spliced (backTo _ (starEach [Expr.Name _ _] _))) _ _ _); k_dflt (refine' aL0 ?Fw155 ?vw155 ?aw155 ?_; (case aw155 => (refine' NmOk.mk ?na1w155 ?na2w155 ?na3w155; (case na1w155 => rfl); (case na2w155 => rfl); (case na3w155 => decide))); (case Fw155 => with_reducible assumption); (case vw155 => apply @rfl _ (some _)); k_whole; (try dsimp only [List.cons_append, List.nil_append]))) | ((with_reducible show wpAny _ _ (spliced (backTo _ (starEach (Expr.Name _ _ :: _) _))) _ _ _); k_dflt (refine' aL ?Fw155 ?vw155 ?aw155 ?_; (case aw155 => (refine' NmOk.mk ?na1w155 ?na2w155 ?na3w155; (case na1w155 => rfl); (case na2w155 => rfl); (case na3w155 => decide))); (case Fw155 => with_reducible assumption); (case vw155 => apply @rfl _ (some _)); k_whole)) | ((with_reducible show wpAny _ _ (spliced (backTo _ (starEach [Expr.Constant (Constant.int _) _ _] _))) _ _ _); refine' aI0 ?_; k_whole; (try dsimp only [List.cons_append, List.nil_append])) | ((with_reducible show wpAny _ _ (spliced (backTo _ (starEach (Expr.Constant (Constant.int _) _ _ :: _) _))) _ _ _); refine' aI ?_; k_whole) | ((with_reducible show wpAny _ _ (spliced (backTo _ (starEach (_ :: _) _))) _ _ _); k_dflt (refine' aC ?aw155 ?_; (case aw155 => exact @rfl _ true); k_whole))))
  k_with "eval Call" => ((k_here; (first | (with_reducible show wpAny _ _ (eval _ (envOf _ _ _ _ _)) _ _ _) | (with_reducible show wpAny _ _ (eval _ (envX _ _ _ _ _ _)) _ _ _)); first | ((with_reducible show wpAny _ _ (eval (Expr.Call (Expr.Name _ _) (_ :: _) [] _) _) _ _ _); k_dflt (refine' gcall ?Fw156 ?Xw156 ?Tw156 ?ew156 ?aw156 ?kw156 ?hsw156 ?_; (case aw156 => (refine' NmOk.mk ?na1w156 ?na2w156 ?na3w156; (case na1w156 => rfl); (case na2w156 => rfl); (case na3w156 => decide))); (case Xw156 => with_reducible assumption); (case ew156 => k_is); (case Fw156 => with_reducible assumption); (case Tw156 => k_asm); (case kw156 => k_is); (case hsw156 => exact @rfl _ true); k_whole)) | ((with_reducible show wpAny _ _ (eval (Expr.Call (Expr.Name _ _) [] [] _) _) _ _ _); k_dflt (refine' gcall0 ?Fw156 ?Xw156 ?Tw156 ?ew156 ?aw156 ?kw156 ?_; (case aw156 => (refine' NmOk.mk ?na1w156 ?na2w156 ?na3w156; (case na1w156 => rfl); (case na2w156 => rfl); (case na3w156 => decide))); (case Xw156 => with_reducible assumption); (case ew156 => k_is); (case Fw156 => with_reducible assumption); (case Tw156 => k_asm); (case kw156 => k_is); k_whole))))
  k_with "eval Attribute Name" => ((k_here; (first | (with_reducible show wpAny _ _ (eval _ (envOf _ _ _ _ _)) _ _ _) | (with_reducible show wpAny _ _ (eval _ (envX _ _ _ _ _ _)) _ _ _)); first | ((with_reducible show wpAny _ _ (eval (Expr.Attribute (Expr.Name _ _) (Str.ofString "top") _) _) _ _ _); k_dflt (refine' dec_top ?Fw157 ?Xw157 ?vw157 ?aw157 ?Nw157 ?Sw157 ?_; (case aw157 => (refine' NmOk.mk ?na1w157 ?na2w157 ?na3w157; (case na1w157 => rfl); (case na2w157 => rfl); (case na3w157 => decide))); (case Fw157 => with_reducible assumption); (case vw157 => apply @rfl _ (some (Value.ref (DecL.x _)))); (case Xw157 => with_reducible assumption); (case Nw157 => with_reducible assumption); (case Sw157 => k_extra "my sub"); k_whole)) | ((with_reducible show wpAny _ _ (eval (Expr.Attribute (Expr.Name _ _) (Str.ofString "places") _) _) _ _ _); k_dflt (refine' dec_places ?Fw157 ?Xw157 ?vw157 ?aw157 ?Nw157 ?Sw157 ?_; (case aw157 => (refine' NmOk.mk ?na1w157 ?na2w157 ?na3w157; (case na1w157 => rfl); (case na2w157 => rfl); (case na3w157 => decide))); (case Fw157 => with_reducible assumption); (case vw157 => apply @rfl _ (some (Value.ref (DecL.x _)))); (case Xw157 => with_reducible assumption); (case Nw157 => with_reducible assumption); (case Sw157 => k_extra "my sub"); k_whole))))
  k_with "eval Call Attribute" => ((k_here; (first | (with_reducible show wpAny _ _ (eval _ (envOf _ _ _ _ _)) _ _ _) | (with_reducible show wpAny _ _ (eval _ (envX _ _ _ _ _ _)) _ _ _)); first | ((with_reducible show wpAny _ _ (eval (Expr.Call (Expr.Attribute (Expr.Name _ _) _ _) (_ :: _) [] _) _) _ _ _); k_dflt (refine' dec_meth ?Fw158 ?Xw158 ?vw158 ?aw158 ?Nw158 ?Sw158 ?fw158 ?hmw158 ?hlw158 ?hsw158 ?hpw158 ?_; (case aw158 => (refine' NmOk.mk ?na1w158 ?na2w158 ?na3w158; (case na1w158 => rfl); (case na2w158 => rfl); (case na3w158 => decide))); (case Fw158 => with_reducible assumption); (case vw158 => apply @rfl _ (some (Value.ref (DecL.x _)))); (case Xw158 => with_reducible assumption); (case Nw158 => with_reducible assumption); (case Sw158 => k_extra "my sub"); (case fw158 => k_is); (case hmw158 => kernel_rfl); (case hlw158 => exact @rfl _ true); (case hsw158 => exact @rfl _ true); (case hpw158 => exact @rfl _ true); k_whole)) | ((with_reducible show wpAny _ _ (eval (Expr.Call (Expr.Attribute (Expr.Name _ _) _ _) [] [] _) _) _ _ _); k_dflt (refine' dec_meth0 ?Fw158 ?Xw158 ?vw158 ?aw158 ?Nw158 ?Sw158 ?fw158 ?hmw158 ?hlw158 ?hpw158 ?_; (case aw158 => (refine' NmOk.mk ?na1w158 ?na2w158 ?na3w158; (case na1w158 => rfl); (case na2w158 => rfl); (case na3w158 => decide))); (case Fw158 => with_reducible assumption); (case vw158 => apply @rfl _ (some (Value.ref (DecL.x _)))); (case Xw158 => with_reducible assumption); (case Nw158 => with_reducible assumption); (case Sw158 => k_extra "my sub"); (case fw158 => k_is); (case hmw158 => kernel_rfl); (case hlw158 => exact @rfl _ true); (case hpw158 => exact @rfl _ true); k_whole))))
  k_with "storeName" => ((k_here; (first | (with_reducible show wpAny _ _ (storeName (envOf _ _ _ _ _) _ _) _ _ _) | (with_reducible show wpAny _ _ (storeName (envX _ _ _ _ _ _) _ _) _ _ _)); k_dflt (refine' stL ?Fw159 ?Nw159 ?aw159 ?_; (case aw159 => (refine' NmOk.mk ?na1w159 ?na2w159 ?na3w159; (case na1w159 => rfl); (case na2w159 => rfl); (case na3w159 => decide))); (case Fw159 => with_reducible assumption); (case Nw159 => with_reducible assumption); k_whole; intro m9 h' tk9 F' N'; (try k_sweep))))
  trivial
section
variable {w : World} {mean : ExcName → Option Value} {mg mb : Str → Option Value}
/-- an exception of the program's own class, not yet traced -/
structure PaperObj (o : Obj) : Prop where
  c : o.cls = .ref 46
  d : ∃ vs t, o.data = .fields vs ∧ vs[0]? = some (.ref t) ∧ vs[1]? = some .none
noncomputable abbrev paperBm : List Value := [.type "Exception", .type "BaseException", .type "object"]
noncomputable abbrev paperCls : Obj := excClassObj (Str.ofString "PaperError") (Str.ofString "PaperError") 46 45 [.type "Exception"] paperBm true [] [] false none none (some (.ref 22)) none (some (.str (Str.ofString "PaperError") 196)) (some (.str (Str.ofString "PaperError") 204)) (some (.bool true)) "Exception.__new__"
theorem paper_cls {h : Heap} (X : (KF w.params).In h) : h.get? 46 = some paperCls := X 46 _ (by kernel_rfl)
theorem ns_some_of {K : Frag} {h : Heap} {N : Addr} {mg : Str → Option Value} {n : Str} {v : Value} {es : Array DictEntry} {k : Nat} (X : K.In h) (G : h.Ns N mg) (hl : K.lookup N = some ⟨.type "dict", none, .dict es k, #[]⟩) (e : nsIn K N n = some (some v)) : mg n = some v := by
  obtain ⟨o, es', ep, ho, hd, _, hf⟩ := G
  cases ho.symm.trans (X _ _ hl)
  cases hd
  rw [← hf]
  show findBy _ _ _ = _
  rw [show (fun (n : Str) (v : Value) => v.isStr n) = Value.isStrOf from funext fun _ => funext fun _ => PySem.W.isStr_of _ _]
  exact find_K hl e
theorem paper_ns {h : Heap} (X : (KF w.params).In h) : ∃ mN, h.Ns 45 mN ∧ mN "__init__" = some (.ref 36) ∧ mN "__setattr__" = none ∧ mN "what" = none ∧ mN "at" = none := by
  have G := Heap.Ns.of_isNs (isNs_of_in X (N := 45) (by kernel_rfl))
  exact ⟨_, G, ns_some_of X G rfl (by kernel_rfl), ns_none_of X G (by kernel_rfl), ns_none_of X G (by kernel_rfl), ns_none_of X G (by kernel_rfl)⟩
theorem paper_fn {h : Heap} (X : (KF w.params).In h) : ∃ o, h.get? 36 = some o ∧ o.cls = .type "function" := by
  have e : ((KF w.params).lookup 36).map (·.cls) = some (.type "function") := by kernel_rfl
  cases q : (KF w.params).lookup 36 with
  | none => rw [q] at e; cases e
  | some o => rw [q] at e; exact ⟨o, X 36 o q, Option.some.inj e⟩
section
variable {A : Around} {E : Value → Shared → Prop} {s : Shared} {h₀ : Heap} {L e : Addr} {m : Str → Option Value} {news : Led} {o o' : Obj}
theorem chg_at {h' : Heap} (F : Fr h₀ L s.heap m) (N : News h₀ L s.heap ((e, o) :: news)) (off : ∀ q ∈ news, q.1 ≠ e) (he : h'.get? e = some o') (hk : ∀ b o, b ≠ e → s.heap.get? b = some o → h'.get? b = some o) :
    Fr h₀ L h' m ∧ News h₀ L h' ((e, o') :: news) := by
  obtain ⟨n1, n2, n3⟩ := N _ (.head _)
  refine ⟨⟨?_, fun b ob hb => hk b ob (fun z => by rw [z] at hb; cases hb.symm.trans n3) (F.keep b ob hb), F.above⟩, fun q hq => ?_⟩
  · obtain ⟨ob, es, ep, e1, r⟩ := F.ns
    exact ⟨ob, es, ep, hk _ _ (fun z => n2 z.symm) e1, r⟩
  · rcases List.mem_cons.mp hq with rfl | hq
    · exact ⟨he, n2, n3⟩
    · obtain ⟨a1, a2, a3⟩ := N _ (.tail _ hq)
      exact ⟨hk _ _ (off q hq) a1, a2, a3⟩
theorem exc_init_call {t0 : Addr} {rest : List Value} {Q : Value → Shared → Prop} (F : Fr h₀ L s.heap m) (N : News h₀ L s.heap ((e, { cls := .ref 46, data := .fields #[.ref t0, .none, .none, .none, .bool false, .none] }) :: news)) (X₀ : (KF w.params).In h₀)
    (off : ∀ q ∈ news, q.1 ≠ e) (hz : rest.length ≤ sizeLine)
    (h : ∀ h' t, Fr h₀ L h' m → News h₀ L h' ((e, { cls := .ref 46, data := .fields #[.ref t, .none, .none, .none, .bool false, .none] }) :: news) → Q .none { s with heap := h' }) :
    wpAny (model PySem.Challenge.rw_nn0207_01.row.prog w) A (call (.builtin "Exception.__init__") (.ref e :: rest)) Q E s := by
  have FB := PySem.F.excBase_Exception
  have hC := paper_cls (X₀.keeps F.keep)
  have he := (N _ (.head _)).1
  have T : OwnTail s.heap paperBm paperBm := .base
  have K := fun (h' : Heap) (t : Addr) (hg : h'.get? e = some { cls := .ref 46, data := .fields #[.ref t, .none, .none, .none, .bool false, .none] }) (hk : ∀ b o, b ≠ e → s.heap.get? b = some o → h'.get? b = some o) => h h' t (chg_at F N off hg hk).1 (chg_at F N off hg hk).2
  obtain ⟨hh, gg, dd, tk, os⟩ := s
  refine wpAny_call (codeAny_call_builtin FB.init.plain FB.initEntry (wpAny_check_init_subT FB T hC he rfl ?_))
  dsimp only at he
  wp_walk
  show Q .none _
  refine K _ hh.objs.size ?_ ?_
  rotate_left
  · intro b ob hb eb
    rw [Heap.get?_update_other _ _ (Ne.symm hb)]
    exact Heap.get?_push_of_some _ eb
  have he2 := Heap.get?_push_of_some { cls := .type "tuple", data := .seq rest.toArray } he
  rw [Heap.get?_update_self _ he2 rfl]
  rfl
end
section
variable {prog : Program} {A : Around} {E : Value → Shared → Prop} {h : Heap} {g : Array GenState} {d : Drawn} {t : Nat} {os : OsState}
  {nm q : Str} {C N x : Addr} {bs bm : List Value} {sn : List Str} {sub : List Value} {ab : Bool} {col : Option Bool} {dd : Option Addr} {k0 k1 k2 k3 k5 : Option Value} {B newId sa owner : String} {mN : Str → Option Value} {name : Str} {v : Value} {o : Obj}
open Builtin Builtin.ObjectAttr in
/-- the first attribute of an object without a dict: the dict is a new object -/
theorem first_attr {Q : Unit → Shared → Prop} (SF : StoreFacts B bm sa owner) (hC : h.get? C = some (excClassObj nm q C N bs bm true sn sub ab col dd k0 k1 k2 k3 k5 newId)) (hn : h.Ns N mN) (hns : mN "__setattr__" = none) (hna : mN name = none)
    (hB : typeLookup (.type B) name = pure none) (hx : h.get? x = some o) (hc : o.cls = .ref C) (hnc : ∀ c, o.data ≠ .cls c) (hdn : o.dict = none)
    (hq : ∀ h' tk' od, h'.get? x = some { cls := o.cls, dict := some h.objs.size, data := o.data, slots := o.slots } → h'.get? h.objs.size = some od → h'.Ns1 h.objs.size (fun y => if y = name then some v else none) →
      (∀ b ob, b ≠ x → h.get? b = some ob → h'.get? b = some ob) → Q () ⟨h', g, d, tk', os⟩) :
    wpAny (model prog w) A (setAttr (.ref x) name v) Q E ⟨h, g, d, t, os⟩ := by
  have f3 := SF.slot.bind (.ref x)
  have hpass := SF.passes (.ref x)
  have hx₁ : (h.push { cls := .type "dict", data := .dict #[] }).get? x = some o := Heap.get?_push_of_some _ hx
  have ne : x ≠ h.objs.size := Nat.ne_of_lt (Heap.lt_size hx)
  have hgd : ((h.push { cls := .type "dict", data := .dict #[] }).update x fun o => { cls := o.cls, dict := some h.objs.size, data := o.data, slots := o.slots }).get? h.objs.size = some { cls := .type "dict", data := .dict #[] } :=
    (Heap.get?_update_ne _ _ _ _ ne.symm).trans (Heap.get?_push_at rfl rfl)
  have hnd : ((h.push { cls := .type "dict", data := .dict #[] }).update x fun o => { cls := o.cls, dict := some h.objs.size, data := o.data, slots := o.slots }).Ns h.objs.size (fun _ => none) :=
    ⟨_, #[], _, hgd, rfl, fun e he => absurd he (by simp), fun _ => rfl⟩
  unfold setAttr callSpecial? specialOf
  repeat (any_goals (first | assumption | (with_reducible refine wpAny_loadPart_at hx ?_; rw [hc]) | (with_reducible refine wpAny_typeLookup_exc hC hn SF.mro SF.slot.lookup ?_; rw [hns]) | wp_step))
  refine codeAny_call_builtin SF.slot.plain SF.entry (wpAny_check_sa SF hC hx hc ?_)
  unfold Builtin.«object.__setattr__»
  repeat (first | rw [refuse_eq] | (rw [refuseLoop_ref, hpass]) | (with_reducible refine wpAny_loadPart_at hx ?_; rw [hc]) | with_reducible refine wpAny_mroOf_exc hC ?_ | (with_reducible refine wpAny_typeLookup_exc hC hn SF.mro hB ?_; rw [hna]) | wp_step)
  rw [hdn, if_neg (by simp [typeHasDict])]
  obtain ⟨oc, od, odt, osl⟩ := o
  dsimp only at hdn hc
  subst hdn
  have go : wpAny (model prog w) A.in1 (do
      let d ← alloc { cls := Value.type "dict", data := Data.dict #[] }
      update x fun o => { cls := o.cls, dict := some d, data := o.data, slots := o.slots }
      dictMade (Value.ref C) x d) (fun a s' => a = some h.objs.size ∧ s' = ⟨(h.push { cls := .type "dict", data := .dict #[] }).update x fun o => { cls := o.cls, dict := some h.objs.size, data := o.data, slots := o.slots }, g, d, t + 1, os⟩) (fun _ _ => False) ⟨h, g, d, t + 1, os⟩ := by
    refine wpAny_bind (wpAny_alloc' ?_)
    refine wpAny_bind (wpAny_update' hx₁ ?_)
    exact wpAny_pure ⟨rfl, rfl⟩
  split
  · rename_i hcd
    cases hcd
  split
  · rename_i c hcd
    exact absurd hcd (hnc c)
  · refine wpAny_mono go (fun a s' hs => ?_) fun _ _ z => z.elim
    obtain ⟨rfl, rfl⟩ := hs
    show wpAny _ _ (storeInDict h.objs.size (.str name t) name v) _ _ _
    unfold storeInDict newKeyGuard
    refine wpAny_bind (wpAny_pure (wpAny_bind (wpAny_nsSet1 (Heap.Ns1.of_empty hnd) fun h' hn' hs => ?_)))
    obtain ⟨oD, esD, epD, hoD, hdD, hcD⟩ := hn'.count (Within.cons name v Within.nil)
    refine wpAny_bind (wpAny_lookBehind hoD (by rw [hdD]; exact pastItsLine_dict (Nat.le_trans hcD (by rw [List.length_cons, List.length_nil, sizeLine_eq]; omega))) ?_)
    wp_walk
    refine hq h' _ oD ?_ hoD ?_ ?_
    · rw [hs.2 x ne, Heap.get?_update_self _ hx₁ ?_]
      have hfr := (Heap.get?_some_iff.mp hx).2
      cases odt <;> first | rfl | exact hfr
    · obtain ⟨o', es, ep, e1, e2, e3, eu, e4⟩ := hn'
      exact ⟨o', es, ep, e1, e2, e3, eu, e4⟩
    · intro b ob hb eb
      rw [hs.2 b (Nat.ne_of_lt (Heap.lt_size eb)), Heap.get?_update_ne _ _ _ _ hb]
      exact Heap.get?_push_of_some _ eb
end
section
variable {A : Around} {E : Value → Shared → Prop} {s : Shared} {h₀ : Heap} {L e : Addr} {m : Str → Option Value} {news : Led} {o o' : Obj}
noncomputable abbrev paperObj (t : Addr) (d : Option Addr) : Obj := { cls := .ref 46, dict := d, data := .fields #[.ref t, .none, .none, .none, .bool false, .none] }
theorem exc_set_new {t0 : Addr} {name : Str} {v : Value} {Q : Unit → Shared → Prop} (F : Fr h₀ L s.heap m) (N : News h₀ L s.heap ((e, paperObj t0 none) :: news)) (X₀ : (KF w.params).In h₀)
    (off : ∀ q ∈ news, q.1 ≠ e) (hB : typeLookup (.type "Exception") name = pure none) (hna : nsIn (KF w.params) 45 name = some none)
    (h : ∀ h' tk' d od, Fr h₀ L h' m → News h₀ L h' ((e, paperObj t0 (some d)) :: (d, od) :: news) → d ≠ e → (∀ q ∈ news, q.1 ≠ d) → h'.Ns1 d (fun y => if y = name then some v else none) → Q () { s with heap := h', toks := tk' }) :
    wpAny (model PySem.Challenge.rw_nn0207_01.row.prog w) A (setAttr (.ref e) name v) Q E s := by
  have X := X₀.keeps F.keep
  have hC := paper_cls X
  have hx := (N _ (.head _)).1
  obtain ⟨mN, n0, n1, n2, n3, n4⟩ := paper_ns X
  have n5 := ns_none_of X n0 hna
  have hs : ∀ h' : Heap, (∀ b ob, b ≠ e → s.heap.get? b = some ob → h'.get? b = some ob) → h'.get? e = some (paperObj t0 (some s.heap.objs.size)) → Fr h₀ L h' m ∧ News h₀ L h' ((e, paperObj t0 (some s.heap.objs.size)) :: news) :=
    fun h' hk he => chg_at F N off he hk
  have hL := F.ns.lt
  have hn0 : h₀.get? s.heap.objs.size = none := none_at_size F
  have hd : ∀ q ∈ (e, paperObj t0 none) :: news, q.1 ≠ s.heap.objs.size := fun q hq => Nat.ne_of_lt (Heap.lt_size (N q hq).1)
  obtain ⟨hh, gg, dd, tk, os⟩ := s
  refine first_attr PySem.F.store_Exception hC n0 n2 n5 hB hx rfl (fun c q => by cases q) rfl (fun h' tk' od g1 g2 g3 g4 => ?_)
  obtain ⟨F', N'⟩ := hs h' g4 g1
  refine h h' tk' hh.objs.size od F' (fun q hq => ?_) (Ne.symm (hd _ (.head _))) (fun q hq => hd q (.tail _ hq)) g3
  rcases List.mem_cons.mp hq with rfl | hq
  · exact N' _ (.head _)
  · rcases List.mem_cons.mp hq with rfl | hq
    · exact ⟨g2, Nat.ne_of_gt hL, hn0⟩
    · exact N' _ (.tail _ hq)
theorem exc_set_more {t0 d : Addr} {od : Obj} {name n1 : Str} {v v1 : Value} {Q : Unit → Shared → Prop} (F : Fr h₀ L s.heap m) (N : News h₀ L s.heap ((e, paperObj t0 (some d)) :: (d, od) :: news)) (X₀ : (KF w.params).In h₀)
    (off : ∀ q ∈ news, q.1 ≠ e) (hde : d ≠ e) (offd : ∀ q ∈ news, q.1 ≠ d) (hns : s.heap.Ns1 d (fun y => if y = n1 then some v1 else none)) (hB : typeLookup (.type "Exception") name = pure none) (hna : nsIn (KF w.params) 45 name = some none) (he46 : e ≠ 46)
    (h : ∀ h' tk', Fr h₀ L h' m → News h₀ L h' ((e, paperObj t0 (some d)) :: news) → Q () { s with heap := h', toks := tk' }) :
    wpAny (model PySem.Challenge.rw_nn0207_01.row.prog w) A (setAttr (.ref e) name v) Q E s := by
  have X := X₀.keeps F.keep
  have hC := paper_cls X
  have hx := (N _ (.head _)).1
  obtain ⟨mN, n0, n1, n2, n3, n4⟩ := paper_ns X
  have n5 := ns_none_of X n0 hna
  obtain ⟨a1, a2, a3⟩ := N _ (.tail _ (.head _))
  obtain ⟨b1, b2, b3⟩ := N _ (.head _)
  have K : ∀ h' : Heap, (∀ b ob, b ≠ e → b ≠ d → s.heap.get? b = some ob → h'.get? b = some ob) → h'.get? e = some (paperObj t0 (some d)) → Fr h₀ L h' m ∧ News h₀ L h' ((e, paperObj t0 (some d)) :: news) := fun h' hk he => by
    refine ⟨⟨?_, fun b ob hb => hk b ob (fun z => by rw [z] at hb; cases hb.symm.trans b3) (fun z => by rw [z] at hb; cases hb.symm.trans a3) (F.keep b ob hb), F.above⟩, fun q hq => ?_⟩
    · obtain ⟨ob, es, ep, e1, r⟩ := F.ns
      exact ⟨ob, es, ep, hk _ _ (fun z => b2 z.symm) (fun z => a2 z.symm) e1, r⟩
    · rcases List.mem_cons.mp hq with rfl | hq
      · exact ⟨he, b2, b3⟩
      · obtain ⟨c1, c2, c3⟩ := N _ (.tail _ (.tail _ hq))
        exact ⟨hk _ _ (off q hq) (offd q hq) c1, c2, c3⟩
  have I : s.heap.Inst e 46 (fun y => if y = _ then some v1 else none) := ⟨_, hx, rfl, (fun c q => by cases q), .inr ⟨d, rfl, hde, hns⟩⟩
  obtain ⟨hh, gg, dd, tk, os⟩ := s
  refine store_attr PySem.F.store_Exception hC n0 n2 n5 hB he46 I (fun h' tk' _ hk hsm => ?_)
  obtain ⟨o₁, q1, q2, q3, q4, q5⟩ := hsm _ hx
  have e1 : o₁ = paperObj t0 (some d) := by
    obtain ⟨oc, od', odt, osl⟩ := o₁
    dsimp only at q2 q3 q4 q5
    rw [q2, q3, q4, q5 d rfl]
  obtain ⟨F', N'⟩ := K h' (fun b ob hb hbd eb => hk b ob hb (fun o₀ dx g1 g2 => by
    obtain rfl := Option.some.inj (hx.symm.trans g1)
    exact (Option.some.inj g2) ▸ hbd) eb) (e1 ▸ q1)
  exact h h' tk' F' N'
theorem what_free : typeLookup (.type "Exception") (Str.ofString "what") = pure none := by rw [typeLookup_type, builtinLookup_eq_fast]; kernel_rfl
theorem at_free : typeLookup (.type "Exception") (Str.ofString "at") = pure none := by rw [typeLookup_type, builtinLookup_eq_fast]; kernel_rfl
end
section
theorem KX2setup2 : True := by
  k_with "getMethod type:Exception" => ((k_here; refine' method_type ?Fw160 ?Xw160 ?mw160 (by decide +kernel) ?ew160 ?hw160 ?_; (case Fw160 => k_asm); (case Xw160 => k_asm); (case mw160 => kernel_rfl); (case ew160 => k_dflt k_is); (case hw160 => k_handed)))
  k_with "call builtin:Exception.__init__" => ((k_here; (with_reducible show wpAny _ _ (call (Value.builtin "Exception.__init__") (Value.ref _ :: _)) _ _ _); k_dflt (refine' exc_init_call ?Fw161 ?Nw161 ?Xw161 ?ow161 ?zw161 ?_; (case Fw161 => k_asm); (case Nw161 => k_asm); (case Xw161 => k_asm); (case ow161 => assumption); (case zw161 => size_fits)); intro h' t' F' N'; (try k_sweep)))
  k_with "setAttr ref" => ((k_here; k_dflt (first
  | (refine' exc_set_new ?Fw162 ?Nw162 ?Xw162 ?ow162 ?bw162 ?nw162 ?_; (case Fw162 => k_asm); (case Nw162 => k_asm); (case Xw162 => k_asm); (case ow162 => assumption); (case bw162 => exact what_free); (case nw162 => kernel_rfl); intro h' tk' d' od' F' N' e1' e2' e3'; (try k_sweep))
  | (refine' exc_set_more ?Fw162 ?Nw162 ?Xw162 ?ow162 ?q1w162 ?q2w162 ?q3w162 ?bw162 ?nw162 ?q4w162 ?_; (case Fw162 => k_asm); (case Nw162 => k_asm); (case Xw162 => k_asm); (case ow162 => assumption); (case q1w162 => assumption); (case q2w162 => assumption); (case q3w162 => assumption); (case bw162 => exact at_free); (case nw162 => kernel_rfl); (case q4w162 => assumption); intro h' tk' F' N'; (try k_sweep)))))
  trivial
set_option maxHeartbeats 1000000 in
theorem c_Paper {x : Str} {tx : Tok} : Ct w mean mg mb 3 (.ref 46) [.str x tx] (fun _ => True)
    (fun Q news => ∀ e o, PaperObj o → (∀ q ∈ news, q.1 ≠ e) → Q (.ref e) ((e, o) :: news)) := by
  unfold Ct; k_fill; intro dp un gd cn cs a ccd cl outer A₀ base h₀ L m news s Q E B F X N T hk hpre hd hu hret
  obtain ⟨mN, n0, n1, n2, n3, n4⟩ := paper_ns (X.keeps F.keep)
  obtain ⟨oI, i1, i2⟩ := paper_fn (X.keeps F.keep)
  have c46 := paper_cls (X.keeps F.keep)
  obtain ⟨hh, gg, dd, tk, os⟩ := s
  refine wpAny_call_exc_init PySem.F.excBase_Exception c46 n0 n1 i1 i2 (fun h' e hm => ?_)
  have F₁ : Fr h₀ L h' m := F.keeps hm.keeps
  obtain ⟨t, he, htn, ht⟩ := hm.there
  have N₁ : News h₀ L h' news := N.grown hm.keeps
  have off : ∀ q ∈ news, q.1 ≠ e := fun q hq z => by have := (N q hq).1; rw [z] at this; cases this.symm.trans hm.new
  have N₂ := News.more F₁ N₁ he (fun es n q => by cases q) (by
    cases q : h₀.get? e with
    | none => rfl
    | some o' => have := F.keep e o' q; cases this.symm.trans hm.new)
  have e46 : e ≠ 46 := fun z => by rw [z] at hm; cases c46.symm.trans hm.new
  clear N N₁ n0 n1 n2 n3 n4 i1 i2 he htn ht c46
  clear F hm
  refine wpAny_call ?_
  k_dflt (refine' code_def ?k1 ?k2 ?k3 ?k4 ?k5 ?kA ?kF ?kK ?k6 ?k7 ?k8 ?k9 ?kB ?_ ?c2 ?c3 ?c4 ?c5; (case kA => exact rfl); (case kF => exact rfl); (case kK => assumption); (case k1 => k_asm); (case k2 => k_asm); (case k3 => k_asm); (case k4 => k_asm); (case k5 => k_asm); (case k6 => k_is); (case k7 => k_is); (case k8 => ktr_room); (case k9 => exact binds_K (by k_in) rfl (by k_is) rfl rfl rfl); (case c5 => decide); (case kB => exact locs rfl); (case c2 => exact rfl); (case c3 => exact rfl); (case c4 => exact rfl); k_whole; intro g' L' h' FG' F' N' B' X' T'; (try dsimp only); (try k_fold))
  k_steps
  (with_reducible rename Fr h₀ L _ m => kF)
  (with_reducible rename News h₀ L _ _ => kN)
  exact hret e _ ⟨rfl, _, _, rfl, rfl, rfl⟩ off _ _ kF kN
end
end

end
section
open PySem PySem.W PyProof.Rows PySem.Calls PySem.Spec

section
variable {w : World} {mean : ExcName → Option Value} {mg mb : Str → Option Value}
section
variable {M : Model} {A : Around} {E : Value → Shared → Prop} {s s' : Shared} {base g g₂ h₀ h : Heap} {outer : List Env} {L a e : Addr} {m : Str → Option Value} {name : Str} {scope : Scope} {cd : Value} {Q : Unit → Shared → Prop} {news news' : Led} {o : Obj}
theorem raiseStmt_my {env : Env} {x : Sem Value} {Q : Flow → Shared → Prop} (hh : A.handled = none)
    (h : wpAny M A x (fun v s₁ => ∃ e o, v = .ref e ∧ s₁.heap.get? 46 = some paperCls ∧ s₁.heap.get? e = some o ∧ PaperObj o ∧ E (.ref e) s₁) E s) : wpAny M A (raiseStmt env (some x) none) Q E s := by
  have hcB : (Value.ref 46 :: paperBm).contains (.type "BaseException") = true := by rfl
  unfold raiseStmt
  refine wpAny_bind (wpAny_mono h (fun v s₁ h₁ => ?_) fun _ _ x => x)
  obtain ⟨e, o, rfl, hC, he, ⟨hc, vs, t, hd, h0, h1⟩, hE⟩ := h₁
  obtain ⟨oc, od, odt, osl⟩ := o
  dsimp only at hc hd
  subst hc hd
  obtain ⟨hp, gg, d, tk, os⟩ := s₁
  dsimp only at hC he
  have hf : wpAny M A (setFlight (.ref e) none) (fun _ s' => s' = ⟨hp, gg, d, tk, os⟩) E ⟨hp, gg, d, tk, os⟩ := by
    unfold setFlight
    refine wpAny_bind (wpAny_field he rfl h1 ?_)
    rw [if_neg (by decide)]
    exact wpAny_pure rfl
  repeat (first | with_reducible refine wpAny_loadPart_at he ?_ | with_reducible refine wpAny_loadPart_at hC ?_ | (with_reducible refine wpAny_isSubtype_exc hC ?_; rw [hcB]) | (with_reducible refine wpAny_mono hf (fun _ _ z => ?_) (fun _ _ z => z); subst z) | wp_step)
  exact wpAny_raiseNew_none hh hE
end
/-- what a raise waits for -/
noncomputable def RaiseAt (E : Value → Shared → Prop) (v : Value) (s₁ : Shared) : Prop := ∃ e o, v = .ref e ∧ s₁.heap.get? 46 = some paperCls ∧ s₁.heap.get? e = some o ∧ PaperObj o ∧ E (.ref e) s₁
section
variable {prog : Program} {A A₀ : Around} {E : Value → Shared → Prop} {s s' : Shared} {base g g₂ h₀ h : Heap} {outer : List Env} {L a e : Addr} {m : Str → Option Value} {name : Str} {scope : Scope} {cd : Value} {news news' : Led} {o : Obj}
theorem RaiseAt.intro (F : Fr h₀ L s.heap m) (X : (KF w.params).In h₀) (N : News h₀ L s.heap ((e, o) :: news)) (P : PaperObj o) (h : E (.ref e) s) : RaiseAt E (.ref e) s := ⟨e, o, rfl, paper_cls (X.keeps F.keep), (N _ (.head _)).1, P, h⟩
theorem raise_my {x : PySem.Expr} {pos : Pos} {env : Env} {Q : Flow → Shared → Prop} (hh : A.handled = none) (h : wpAny (model prog w) A (eval x env) (RaiseAt E) E s) : wpAny (model prog w) A (exec (.Raise (some x) none pos) env) Q E s := by
  rw [arm_exec_Raise]
  refine wpAny_bind (wpAny_standAt (raiseStmt_my hh ?_))
  exact wpAny_bind (wpAny_mono h (fun v s₁ h₁ => wpAny_bind (wpAny_standAt (wpAny_pure h₁))) fun _ _ z => z)
/-- an exception of the program's own under way: 'l' are the frames that it has still to leave -/
noncomputable def FlyM (base : Heap) (l : List Env) (e : Addr) (news : Led) (h : Heap) : Prop :=
  ∃ B a0, base.StaysIn B ∧ (∀ q ∈ news, B.get? q.1 = some q.2 ∧ base.get? q.1 = none) ∧ Heap.FlyingW B l e (.ref 46) a0 h
theorem FlyM.sub {l : List Env} (R : FlyM base l e news h) (k : Sub news' news) : FlyM base l e news' h :=
  by obtain ⟨B, a0, h1, h2, h3⟩ := R; exact ⟨B, a0, h1, fun q hq => h2 q (k.mem q hq), h3⟩
variable {M : Model} {Q : Unit → Shared → Prop}
theorem leave_first (K : Below A base outer g) (F : Fr g L s'.heap m) (N : News g L s'.heap ((e, o) :: news)) (P : PaperObj o) (off : ∀ q ∈ news, q.1 ≠ e)
    (hQ : ∀ h', FlyM base outer e news h' → g.UpToSlots h' → Q () { s' with heap := h' }) (hk : scope.kind = .function := by rfl) :
    wpAny M (A.deeper (envOf name scope L a cd)) (leaving (envOf name scope L a cd) (.ref e)) Q E s' := by
  have K' := K.push (name := name) (a := a) (cd := cd) F hk
  obtain ⟨e1, e2, e3⟩ := N _ (.head _)
  obtain ⟨hc, vs, t, hd, h0, h1⟩ := P
  let as := e :: (envOf name scope L a cd :: outer).filterMap (·.frame)
  have ein : ∀ env ∈ (envOf name scope L a cd :: outer), ∀ b, env.frame = some b → b ∈ as := fun env he b hb => .tail _ (List.mem_filterMap.mpr ⟨env, he, hb⟩)
  have be : base.get? e = none := fresh_of_stays K.stays e3
  have st : base.StaysIn (hideAll s'.heap as) := fun b o q => hideAll_get _ (K'.stays b o q) fun hm => by
    rcases List.mem_cons.mp hm with rfl | hm
    · rw [be] at q; cases q
    · rw [(K'.frames.mem hm).1] at q; cases q
  have hl : ∀ q ∈ news, (hideAll s'.heap as).get? q.1 = some q.2 ∧ base.get? q.1 = none := fun q hq => by
    obtain ⟨n1, n2, n3⟩ := N q (.tail _ hq)
    refine ⟨hideAll_get _ n1 fun hm => ?_, fresh_of_stays K.stays n3⟩
    rcases List.mem_cons.mp hm with z | hm
    · exact off q hq z
    obtain ⟨env, he, hf⟩ := List.mem_filterMap.mp hm
    rcases List.mem_cons.mp he with rfl | he
    · exact n2 (Option.some.inj hf).symm
    · obtain ⟨o, ho, _⟩ := (K.frames.mem (List.mem_filterMap.mpr ⟨env, he, hf⟩)).2
      rw [n3] at ho; cases ho
  refine wpAny_leaving_firstW (base := hideAll s'.heap as) K'.stack (funFrames_hide K'.frames ein) rfl e1 (fun b o q => of_hideAll _ q) (hideAll_none _ (.head _)) hd h1 h0 fun h' hL => ?_
  obtain ⟨k1, ⟨_, _, k2⟩, k3, k4⟩ := hL
  rw [hc] at k3
  exact hQ h' ⟨_, _, st, hl, k1, hideAll_none _ (.head _), k2, k3⟩ ((Heap.UpToSlots.of_keeps F.keep).trans k4)
theorem leave_on (K : Below A base outer g) (R : FlyM base (envOf name scope L a cd :: outer) e news s'.heap) (F : Fr g L g₂ m) (U : g₂.UpToSlots s'.heap)
    (hQ : ∀ h', FlyM base outer e news h' → g.UpToSlots h' → Q () { s' with heap := h' }) :
    wpAny M (A.deeper (envOf name scope L a cd)) (leaving (envOf name scope L a cd) (.ref e)) Q E s' := by
  obtain ⟨B, a0, hB, hl, hfl⟩ := R
  exact wpAny_leaves_onW (Around.frames_deeper K.stack) rfl hfl fun h' x1 x2 => hQ h' ⟨B, a0, hB, hl, x1⟩ ((Heap.UpToSlots.of_keeps F.keep).trans (U.trans x2))
end
/-- a call of f that ends in an exception of the program's own -/
noncomputable abbrev CtR (w : World) (mean : ExcName → Option Value) (mg mb : Str → Option Value) (dn : Nat) (f : Value) (args : List Value) (pre : Led → Prop) : Prop :=
  ∀ (dp un : Nat) (gd : Option (List Code)) (cn : Str) (cs : Scope) (a : Addr) (ccd : Value) (cl : List (Str × Addr)) (outer : List Env) (A₀ : Around) (base h₀ : Heap) (L : Addr) (m : Str → Option Value) (news : Led) (s : Shared) (Q E : Value → Shared → Prop),
    Below A₀ base outer h₀ → Fr h₀ L s.heap m → (KF w.params).In h₀ → News h₀ L s.heap news → Tp mean mg mb h₀ → cs.kind = .function → pre news →
    dp + dn < recursionLimit → un + 8 * dn < cLine →
    (∀ (e : Addr) (h' : Heap) (tk' : Nat) (g₂ : Heap), FlyM base (envX cn cs L a ccd cl :: outer) e news h' → Fr h₀ L g₂ m → g₂.UpToSlots h' → E (.ref e) { s with heap := h', toks := tk' }) →
    wpAny (model PySem.Challenge.rw_nn0207_01.row.prog w) (ktrTop dp un gd cn cs L a ccd cl outer) (call f args) Q E s
theorem CtR.use {dn : Nat} {f : Value} {args : List Value} {pre : Led → Prop} (C : CtR w mean mg mb dn f args pre)
    {dp un : Nat} {gd : Option (List Code)} {cn : Str} {cs : Scope} {a : Addr} {ccd : Value} {cl : List (Str × Addr)} {outer : List Env} {A₀ : Around} {base h₀ : Heap} {L : Addr} {m : Str → Option Value} {news : Led} {s : Shared} {Q E : Value → Shared → Prop}
    (B : Below A₀ base outer h₀) (F : Fr h₀ L s.heap m) (X : (KF w.params).In h₀) (N : News h₀ L s.heap news) (T : Tp mean mg mb h₀) (hk : cs.kind = .function) (hp : pre news)
    (hd : dp + dn < recursionLimit) (hu : un + 8 * dn < cLine)
    (h : ∀ (e : Addr) (h' : Heap) (tk' : Nat) (g₂ : Heap), FlyM base (envX cn cs L a ccd cl :: outer) e news h' → Fr h₀ L g₂ m → g₂.UpToSlots h' → E (.ref e) { s with heap := h', toks := tk' }) :
    wpAny (model PySem.Challenge.rw_nn0207_01.row.prog w) (ktrTop dp un gd cn cs L a ccd cl outer) (call f args) Q E s :=
  C dp un gd cn cs a ccd cl outer A₀ base h₀ L m news s Q E B F X N T hk hp hd hu h
section

theorem KX4setup1 : True := by
  k_with "call ref" => ((k_here; (with_reducible show wpAny _ _ (call (Value.ref 46) _) _ _ _); k_dflt (refine' (c_Paper) _ _ _ _ _ _ _ _ _ _ _ _ _ _ _ _ _ _ ?kB ?kF ?kX ?kN ?kT ?kK ?kpw163 ?kd ?ku ?_; k_extra "sid"; (case kpw163 => exact trivial); k_whole; intro e9 o9 p9 f9 h9 tk9 F9 N9; (try k_sweep))))
  k_with "exec Raise some none" => ((k_here; k_dflt (refine' raise_my ?k1w164 ?_; (case k1w164 => first | rfl | assumption); k_whole)))
  k_with "RaiseAt" => ((k_dflt (refine' RaiseAt.intro ?Fw165 ?Xw165 ?Nw165 ?Pw165 ?_; (case Fw165 => k_asm); (case Nw165 => k_asm); (case Xw165 => k_asm); (case Pw165 => with_reducible assumption))))
  k_with "leaving ref" => ((k_here; k_dflt (first
  | (refine' leave_first ?Kw166 ?Fw166 ?Nw166 ?Pw166 ?ow166 ?_; (case Kw166 => assumption); (case Fw166 => k_asm); (case Nw166 => k_asm); (case Pw166 => with_reducible assumption); (case ow166 => with_reducible assumption); k_whole; intro h' R' U'; (try dsimp only at R' U' ⊢))
  | (refine' leave_on ?Kw166 ?Rw166 ?Fw166 ?Uw166 ?_; (case Rw166 => assumption); (case Kw166 => assumption); (case Uw166 => with_reducible assumption); (case Fw166 => with_reducible assumption); k_whole; intro h' R' U'; (try dsimp only at R' U' ⊢)))))
  trivial
set_option maxHeartbeats 1000000 in
theorem r_decimal_bool {b : Bool} : CtR w mean mg mb 5 (.ref 168) [.bool b] (fun _ => True) := by
  unfold CtR; k_fill; intro dp un gd cn cs a ccd cl outer A₀ base h₀ L m news s Q E B F X N T hk hpre hd hu hret
  refine wpAny_call ?_
  k_dflt (refine' code_defN [Str.ofString "value"] ?k1 ?k2 ?k3 ?k4 ?k5 ?kA ?kF ?kK ?k6 ?k7 ?k8 ?k9 ?kB ?_ ?c2 ?c3 ?c4 ?c5; (case kA => exact rfl); (case kF => exact rfl); (case kK => assumption); (case k1 => k_asm); (case k2 => k_asm); (case k3 => k_asm); (case k4 => k_asm); (case k5 => k_asm); (case k6 => k_is); (case k7 => k_is); (case k8 => ktr_room); (case k9 => exact BindsTo.of_eq rfl); (case c5 => decide); (case kB => exact locs rfl); (case c2 => exact rfl); (case c3 => exact rfl); (case c4 => exact rfl); k_whole; intro g' L' h' FG' F' N' B' X' T'; (try dsimp only); (try k_fold); (refine wp_letA ?_); intro A2)
  k_steps
  all_goals ((with_reducible rename FlyM base (envX cn cs L a ccd cl :: outer) _ _ _ => kR); (with_reducible rename Heap.UpToSlots g' _ => kU); (with_reducible rename Fr h₀ L _ m => kG); exact hret _ _ _ _ (FlyM.sub kR (by k_extra "my keep")) kG kU)
set_option maxHeartbeats 1000000 in
theorem r_decimal_none : CtR w mean mg mb 5 (.ref 168) [.none] (fun _ => True) := by
  unfold CtR; k_fill; intro dp un gd cn cs a ccd cl outer A₀ base h₀ L m news s Q E B F X N T hk hpre hd hu hret
  refine wpAny_call ?_
  k_dflt (refine' code_defN [Str.ofString "value"] ?k1 ?k2 ?k3 ?k4 ?k5 ?kA ?kF ?kK ?k6 ?k7 ?k8 ?k9 ?kB ?_ ?c2 ?c3 ?c4 ?c5; (case kA => exact rfl); (case kF => exact rfl); (case kK => assumption); (case k1 => k_asm); (case k2 => k_asm); (case k3 => k_asm); (case k4 => k_asm); (case k5 => k_asm); (case k6 => k_is); (case k7 => k_is); (case k8 => ktr_room); (case k9 => exact BindsTo.of_eq rfl); (case c5 => decide); (case kB => exact locs rfl); (case c2 => exact rfl); (case c3 => exact rfl); (case c4 => exact rfl); k_whole; intro g' L' h' FG' F' N' B' X' T'; (try dsimp only); (try k_fold); (refine wp_letA ?_); intro A2)
  k_steps
  all_goals ((with_reducible rename FlyM base (envX cn cs L a ccd cl :: outer) _ _ _ => kR); (with_reducible rename Heap.UpToSlots g' _ => kU); (with_reducible rename Fr h₀ L _ m => kG); exact hret _ _ _ _ (FlyM.sub kR (by k_extra "my keep")) kG kU)
end
end

end
section
open PySem PySem.W PyProof.Rows PySem.Calls PySem.Spec

section
variable {w : World} {mean : ExcName → Option Value} {mg mb : Str → Option Value}


theorem KX5setup1 : True := by
  k_with "call ref" => ((k_here; (with_reducible show wpAny _ _ (call (Value.ref 143) _) _ _ _); k_dflt (refine' (c_Decimal _ _ _ _ _ ?hzw167 ?htw167 ?hbw167 ?hqw167) _ _ _ _ _ _ _ _ _ _ _ _ _ _ _ _ _ _ ?kB ?kF ?kX ?kN ?kT ?kK ?kpw167 ?kd ?ku ?_; k_extra "sid"; (case kpw167 => exact trivial); (case hqw167 => first | exact int_hq | k_extra "my hq"); (case htw167 => first | with_reducible assumption | k_extra "my ht"); (case hbw167 => first | with_reducible assumption | k_extra "my hb" | omega); (case hzw167 => first | with_reducible assumption | k_extra "my hz" | omega); k_whole; intro D9 ok9 f9 h9 tk9 F9 N9; (try k_sweep))))
  k_with "call ref" => ((k_here; (with_reducible show wpAny _ _ (call (Value.ref 168) _) _ _ _); k_dflt (refine' (c_decimal_of) _ _ _ _ _ _ _ _ _ _ _ _ _ _ _ _ _ _ ?kB ?kF ?kX ?kN ?kT ?kK ?kpw168 ?kd ?ku ?_; k_extra "sid"; (case kpw168 => refine' ⟨?kpaw168, ?kpbw168⟩; (case kpaw168 => k_extra "my num"); (case kpbw168 => k_extra "my sub")); k_whole; intro e9 D9 ok9 s9 s8 f9 h9 tk9 F9 N9; have p9 := ok9.nrm.p0; have q9 := ok9.bp; (try k_sweep))))
  k_with "call ref" => ((k_here; (with_reducible show wpAny _ _ (call (Value.ref 175) _) _ _ _); k_dflt (refine' (c_at_one_scale ?hbbw169) _ _ _ _ _ _ _ _ _ _ _ _ _ _ _ _ _ _ ?kB ?kF ?kX ?kN ?kT ?kK ?kpw169 ?kd ?ku ?_; k_extra "sid"; (case kpw169 => refine' ⟨?kpaw169, ?kpbw169⟩; (case kpaw169 => k_extra "my num"); (case kpbw169 => k_extra "my num")); (case hbbw169 => first | decide | omega); k_whole; intro T9 a9 b9 P9 k91 k92 k93 sc9 h9 tk9 F9 N9; (try k_sweep))))
  k_with "my hz" => ((refine' AtScale.p0 ?kmxw170; (case kmxw170 => with_reducible assumption)))
  k_with "my lt" => (first | with_reducible assumption | (refine' AtScale.ba ?kmxw171; (case kmxw171 => with_reducible assumption)) | (refine' AtScale.bb ?kmxw171; (case kmxw171 => with_reducible assumption)) | (refine' DecOK.bt ?kmxw171; (case kmxw171 => with_reducible assumption)) | exact ten_lt)
  k_with "call ref" => (((with_reducible show wpAny _ _ (call (Value.ref 46) _) _ _ _); exfalso; first | contradiction | omega))
  trivial
theorem AtScale.zero {a b P : Int} {q1 q2 : Rat} {c : Nat} (h : AtScale a b P q1 q2 c) (h0 : q2 = 0) : b = 0 := by
  have := h.hb
  rw [h0, Rat.zero_mul] at this
  exact Rat.intCast_inj.mp (this.trans rfl)
section

theorem KX5setup2 : True := by
  k_with "call ref" => ((k_here; (with_reducible show wpAny _ _ (call (Value.ref 175) _) _ _ _); k_dflt (refine' (c_at_one_scale ?hbbw172) _ _ _ _ _ _ _ _ _ _ _ _ _ _ _ _ _ _ ?kB ?kF ?kX ?kN ?kT ?kK ?kpw172 ?kd ?ku ?_; k_extra "sid"; (case kpw172 => refine' ⟨?kpaw172, ?kpbw172⟩; (case kpaw172 => k_extra "my num"); (case kpbw172 => k_extra "my num")); (case hbbw172 => first | decide | omega); k_whole; intro T9 a9 b9 P9 k91 k92 k93 sc9 h9 tk9 F9 N9; have nz9 := AtScale.zero sc9 (by with_reducible assumption); subst nz9; (try k_sweep))))
  k_with "call ref" => ((k_here; (with_reducible show wpAny _ _ (call (Value.ref 46) _) _ _ _); k_dflt (refine' (c_Paper) _ _ _ _ _ _ _ _ _ _ _ _ _ _ _ _ _ _ ?kB ?kF ?kX ?kN ?kT ?kK ?kpw173 ?kd ?ku ?_; k_extra "sid"; (case kpw173 => exact trivial); k_whole; intro e9 o9 p9 f9 h9 tk9 F9 N9; (try k_sweep))))
  trivial
set_option maxHeartbeats 1000000 in
theorem r_over {D1 D2 : DecL} {q1 q2 : Rat} {b1 b2 : Nat} {p : Int} {kp : Tok} (hb : b1 + b2 ≤ 1900) (h0 : q2 = 0) : CtR w mean mg mb 5 (.ref 182) [.ref D1.x, .ref D2.x, .int p kp] (fun news => Num w news (.ref D1.x) q1 b1 ∧ Num w news (.ref D2.x) q2 b2) := by
  unfold CtR; k_fill; intro dp un gd cn cs a ccd cl outer A₀ base h₀ L m news s Q E B F X N T hk hpre hd hu hret
  obtain ⟨n1, n2⟩ := hpre
  refine wpAny_call ?_
  k_dflt (refine' code_defN [Str.ofString "one", Str.ofString "other", Str.ofString "places"] ?k1 ?k2 ?k3 ?k4 ?k5 ?kA ?kF ?kK ?k6 ?k7 ?k8 ?k9 ?kB ?_ ?c2 ?c3 ?c4 ?c5; (case kA => exact rfl); (case kF => exact rfl); (case kK => assumption); (case k1 => k_asm); (case k2 => k_asm); (case k3 => k_asm); (case k4 => k_asm); (case k5 => k_asm); (case k6 => k_is); (case k7 => k_is); (case k8 => ktr_room); (case k9 => exact BindsTo.of_eq rfl); (case c5 => decide); (case kB => exact locs rfl); (case c2 => exact rfl); (case c3 => exact rfl); (case c4 => exact rfl); k_whole; intro g' L' h' FG' F' N' B' X' T'; (try dsimp only); (try k_fold); (refine wp_letA ?_); intro A2)
  k_steps
  all_goals ((with_reducible rename FlyM base (envX cn cs L a ccd cl :: outer) _ _ _ => kR); (with_reducible rename Heap.UpToSlots g' _ => kU); (with_reducible rename Fr h₀ L _ m => kG); exact hret _ _ _ _ (FlyM.sub kR (by k_extra "my keep")) kG kU)
set_option maxHeartbeats 1000000 in
theorem r_exact_over {D1 D2 : DecL} {q1 q2 : Rat} {b1 b2 : Nat} (hb : b1 + b2 ≤ 1900) (h0 : q2 = 0) : CtR w mean mg mb 5 (.ref 196) [.ref D1.x, .ref D2.x] (fun news => Num w news (.ref D1.x) q1 b1 ∧ Num w news (.ref D2.x) q2 b2) := by
  unfold CtR; k_fill; intro dp un gd cn cs a ccd cl outer A₀ base h₀ L m news s Q E B F X N T hk hpre hd hu hret
  obtain ⟨n1, n2⟩ := hpre
  refine wpAny_call ?_
  k_dflt (refine' code_defN [Str.ofString "one", Str.ofString "other"] ?k1 ?k2 ?k3 ?k4 ?k5 ?kA ?kF ?kK ?k6 ?k7 ?k8 ?k9 ?kB ?_ ?c2 ?c3 ?c4 ?c5; (case kA => exact rfl); (case kF => exact rfl); (case kK => assumption); (case k1 => k_asm); (case k2 => k_asm); (case k3 => k_asm); (case k4 => k_asm); (case k5 => k_asm); (case k6 => k_is); (case k7 => k_is); (case k8 => ktr_room); (case k9 => exact BindsTo.of_eq rfl); (case c5 => decide); (case kB => exact locs rfl); (case c2 => exact rfl); (case c3 => exact rfl); (case c4 => exact rfl); k_whole; intro g' L' h' FG' F' N' B' X' T'; (try dsimp only); (try k_fold); (refine wp_letA ?_); intro A2)
  k_steps
  all_goals ((with_reducible rename FlyM base (envX cn cs L a ccd cl :: outer) _ _ _ => kR); (with_reducible rename Heap.UpToSlots g' _ => kU); (with_reducible rename Fr h₀ L _ m => kG); exact hret _ _ _ _ (FlyM.sub kR (by k_extra "my keep")) kG kU)
end
section

theorem KX5setup3 : True := by
  k_with "call ref" => ((k_here; (with_reducible show wpAny _ _ (call (Value.ref 168) _) _ _ _); k_dflt (refine' (c_decimal_of) _ _ _ _ _ _ _ _ _ _ _ _ _ _ _ _ _ _ ?kB ?kF ?kX ?kN ?kT ?kK ?kpw174 ?kd ?ku ?_; k_extra "sid"; (case kpw174 => refine' ⟨?kpaw174, ?kpbw174⟩; (case kpaw174 => k_extra "my num"); (case kpbw174 => k_extra "my sub")); k_whole; intro e9 D9 ok9 s9 s8 f9 h9 tk9 F9 N9; clear s8; (try k_sweep))))
  k_with "call ref" => ((k_here; (with_reducible show wpAny _ _ (call (Value.ref 168) _) _ _ _); k_dflt (refine' CtR.use (r_decimal_bool) ?kB ?kF ?kX ?kN ?kT ?kK ?kpw175 ?kd ?ku ?_; k_extra "sid"; (case kpw175 => exact trivial); k_whole; intro e9 h9 tk9 g9 R9 F9 U9; (try dsimp only at R9 F9 U9 ⊢); (try k_sweep))))
  k_with "call ref" => ((k_here; (with_reducible show wpAny _ _ (call (Value.ref 168) _) _ _ _); k_dflt (refine' CtR.use (r_decimal_none) ?kB ?kF ?kX ?kN ?kT ?kK ?kpw176 ?kd ?ku ?_; k_extra "sid"; (case kpw176 => exact trivial); k_whole; intro e9 h9 tk9 g9 R9 F9 U9; (try dsimp only at R9 F9 U9 ⊢); (try k_sweep))))
  trivial
/-- what is no number -/
inductive BadV : Value → Prop where
  | bool {b : Bool} : BadV (.bool b)
  | none : BadV .none
set_option maxHeartbeats 2000000 in
theorem r_Matrix {v1 v2 v3 v4 v5 v6 : Value} {q1 q2 q3 q4 q5 : Rat} {b1 b2 b3 b4 b5 : Nat} (h6 : BadV v6) :
    CtR w mean mg mb 8 (.ref 246) [v1, v2, v3, v4, v5, v6] (fun news => Num w news v1 q1 b1 ∧ Num w news v2 q2 b2 ∧ Num w news v3 q3 b3 ∧ Num w news v4 q4 b4 ∧ Num w news v5 q5 b5) := by
  cases h6
  all_goals (
    unfold CtR; k_fill; intro dp un gd cn cs a ccd cl outer A₀ base h₀ L m news s Q E B F X N T hk hpre hd hu hret
    obtain ⟨n1, n2, n3, n4, n5⟩ := hpre
    k_extra "my cls"
    k_dflt (refine' code_defN [Str.ofString "self", Str.ofString "a", Str.ofString "b", Str.ofString "c", Str.ofString "d", Str.ofString "e", Str.ofString "f"] ?k1 ?k2 ?k3 ?k4 ?k5 ?kA ?kF ?kK ?k6 ?k7 ?k8 ?k9 ?kB ?_ ?c2 ?c3 ?c4 ?c5; (case kA => exact rfl); (case kF => exact rfl); (case kK => assumption); (case k1 => k_asm); (case k2 => k_asm); (case k3 => k_asm); (case k4 => k_asm); (case k5 => k_asm); (case k6 => k_is); (case k7 => k_is); (case k8 => ktr_room); (case k9 => exact BindsTo.of_eq rfl); (case c5 => decide); (case kB => exact locs rfl); (case c2 => exact rfl); (case c3 => exact rfl); (case c4 => exact rfl); k_whole; intro g' L' h' FG' F' N' B' X' T'; (try dsimp only); (try k_fold); (refine wp_letA ?_); intro A2)
    k_steps
    all_goals ((with_reducible rename FlyM base (envX cn cs L a ccd cl :: outer) _ _ _ => kR); (with_reducible rename Heap.UpToSlots g' _ => kU); (with_reducible rename Fr h₀ L _ m => kG); exact hret _ _ _ _ (FlyM.sub kR (by k_extra "my keep")) kG kU)
  )
theorem KX5setup4 : True := by
  k_with "call ref" => ((k_here; (with_reducible show wpAny _ _ (call (Value.ref 246) _) _ _ _); k_dflt (refine' CtR.use (r_Matrix ?h6w177) ?kB ?kF ?kX ?kN ?kT ?kK ?kpw177 ?kd ?ku ?_; k_extra "sid"; (case h6w177 => first | exact BadV.bool | exact BadV.none); (case kpw177 => refine' ⟨?kpaw177, ?kpbw177, ?kpcw177, ?kpdw177, ?kpew177⟩; (case kpaw177 => k_extra "my num"); (case kpbw177 => k_extra "my num"); (case kpcw177 => k_extra "my num"); (case kpdw177 => k_extra "my num"); (case kpew177 => k_extra "my num")); k_whole; intro e9 h9 tk9 g9 R9 F9 U9; (try dsimp only at R9 F9 U9 ⊢); (try k_sweep))))
  trivial
/-- what is no array of six numbers -/
inductive Wrong (w : World) (news : Led) : Value → Prop where
  | five {l a b c d e : Addr} {n : Nat} (h : (l, listOf #[.ref a, .ref b, .ref c, .ref d, .ref e] n) ∈ news) : Wrong w news (.ref l)
  | seven {l a b c d e f : Addr} {v : Value} {n : Nat} (h : (l, listOf #[.ref a, .ref b, .ref c, .ref d, .ref e, .ref f, v] n) ∈ news) : Wrong w news (.ref l)
  | bad {l : Addr} {a b c d e : DecL} {qa qb qc qd qe : Rat} {b1 : Nat} {v : Value} {n : Nat} (hv : BadV v) (h : (l, listOf #[.ref a.x, .ref b.x, .ref c.x, .ref d.x, .ref e.x, v] n) ∈ news)
      (na : Num w news (.ref a.x) qa b1) (nb : Num w news (.ref b.x) qb b1) (nc : Num w news (.ref c.x) qc b1) (nd : Num w news (.ref d.x) qd b1) (ne : Num w news (.ref e.x) qe b1) : Wrong w news (.ref l)
  | tup {t : Addr} {its : List Value} {n : Nat} (h : (t, tupOf its) ∈ news) : Wrong w news (.ref t)
  | str {x : Str} {t : Tok} : Wrong w news (.str x t)
  | int {i : Int} {t : Tok} : Wrong w news (.int i t)
section
theorem r_from_array_five {l a b c d e : Addr} {n : Nat} : CtR w mean mg mb 12 (.ref 292) [.ref l] (fun news => (l, listOf #[.ref a, .ref b, .ref c, .ref d, .ref e] n) ∈ news) := by
  unfold CtR; k_fill; intro dp un gd cn cs a ccd cl outer A₀ base h₀ L m news s Q E B F X N T hk hpre hd hu hret
  refine wpAny_call ?_
  k_dflt (refine' code_defN [Str.ofString "values"] ?k1 ?k2 ?k3 ?k4 ?k5 ?kA ?kF ?kK ?k6 ?k7 ?k8 ?k9 ?kB ?_ ?c2 ?c3 ?c4 ?c5; (case kA => exact rfl); (case kF => exact rfl); (case kK => assumption); (case k1 => k_asm); (case k2 => k_asm); (case k3 => k_asm); (case k4 => k_asm); (case k5 => k_asm); (case k6 => k_is); (case k7 => k_is); (case k8 => ktr_room); (case k9 => exact BindsTo.of_eq rfl); (case c5 => decide); (case kB => exact locs rfl); (case c2 => exact rfl); (case c3 => exact rfl); (case c4 => exact rfl); k_whole; intro g' L' h' FG' F' N' B' X' T'; (try dsimp only); (try k_fold); (refine wp_letA ?_); intro A2)
  k_steps
  all_goals ((with_reducible rename FlyM base (envX cn cs L a ccd cl :: outer) _ _ _ => kR); (with_reducible rename Heap.UpToSlots g' _ => kU); (with_reducible rename Fr h₀ L _ m => kG); exact hret _ _ _ _ (FlyM.sub kR (by k_extra "my keep")) kG kU)
theorem r_from_array_seven {l a b c d e f : Addr} {n : Nat} {v : Value} : CtR w mean mg mb 12 (.ref 292) [.ref l] (fun news => (l, listOf #[.ref a, .ref b, .ref c, .ref d, .ref e, .ref f, v] n) ∈ news) := by
  unfold CtR; k_fill; intro dp un gd cn cs a ccd cl outer A₀ base h₀ L m news s Q E B F X N T hk hpre hd hu hret
  refine wpAny_call ?_
  k_dflt (refine' code_defN [Str.ofString "values"] ?k1 ?k2 ?k3 ?k4 ?k5 ?kA ?kF ?kK ?k6 ?k7 ?k8 ?k9 ?kB ?_ ?c2 ?c3 ?c4 ?c5; (case kA => exact rfl); (case kF => exact rfl); (case kK => assumption); (case k1 => k_asm); (case k2 => k_asm); (case k3 => k_asm); (case k4 => k_asm); (case k5 => k_asm); (case k6 => k_is); (case k7 => k_is); (case k8 => ktr_room); (case k9 => exact BindsTo.of_eq rfl); (case c5 => decide); (case kB => exact locs rfl); (case c2 => exact rfl); (case c3 => exact rfl); (case c4 => exact rfl); k_whole; intro g' L' h' FG' F' N' B' X' T'; (try dsimp only); (try k_fold); (refine wp_letA ?_); intro A2)
  k_steps
  all_goals ((with_reducible rename FlyM base (envX cn cs L a ccd cl :: outer) _ _ _ => kR); (with_reducible rename Heap.UpToSlots g' _ => kU); (with_reducible rename Fr h₀ L _ m => kG); exact hret _ _ _ _ (FlyM.sub kR (by k_extra "my keep")) kG kU)
theorem r_from_array_tup {t : Addr} {its : List Value} {n : Nat} : CtR w mean mg mb 12 (.ref 292) [.ref t] (fun news => (t, tupOf its) ∈ news) := by
  unfold CtR; k_fill; intro dp un gd cn cs a ccd cl outer A₀ base h₀ L m news s Q E B F X N T hk hpre hd hu hret
  refine wpAny_call ?_
  k_dflt (refine' code_defN [Str.ofString "values"] ?k1 ?k2 ?k3 ?k4 ?k5 ?kA ?kF ?kK ?k6 ?k7 ?k8 ?k9 ?kB ?_ ?c2 ?c3 ?c4 ?c5; (case kA => exact rfl); (case kF => exact rfl); (case kK => assumption); (case k1 => k_asm); (case k2 => k_asm); (case k3 => k_asm); (case k4 => k_asm); (case k5 => k_asm); (case k6 => k_is); (case k7 => k_is); (case k8 => ktr_room); (case k9 => exact BindsTo.of_eq rfl); (case c5 => decide); (case kB => exact locs rfl); (case c2 => exact rfl); (case c3 => exact rfl); (case c4 => exact rfl); k_whole; intro g' L' h' FG' F' N' B' X' T'; (try dsimp only); (try k_fold); (refine wp_letA ?_); intro A2)
  k_steps
  all_goals ((with_reducible rename FlyM base (envX cn cs L a ccd cl :: outer) _ _ _ => kR); (with_reducible rename Heap.UpToSlots g' _ => kU); (with_reducible rename Fr h₀ L _ m => kG); exact hret _ _ _ _ (FlyM.sub kR (by k_extra "my keep")) kG kU)
theorem r_from_array_str {x : Str} {t : Tok} : CtR w mean mg mb 12 (.ref 292) [.str x t] (fun news => True) := by
  unfold CtR; k_fill; intro dp un gd cn cs a ccd cl outer A₀ base h₀ L m news s Q E B F X N T hk hpre hd hu hret
  refine wpAny_call ?_
  k_dflt (refine' code_defN [Str.ofString "values"] ?k1 ?k2 ?k3 ?k4 ?k5 ?kA ?kF ?kK ?k6 ?k7 ?k8 ?k9 ?kB ?_ ?c2 ?c3 ?c4 ?c5; (case kA => exact rfl); (case kF => exact rfl); (case kK => assumption); (case k1 => k_asm); (case k2 => k_asm); (case k3 => k_asm); (case k4 => k_asm); (case k5 => k_asm); (case k6 => k_is); (case k7 => k_is); (case k8 => ktr_room); (case k9 => exact BindsTo.of_eq rfl); (case c5 => decide); (case kB => exact locs rfl); (case c2 => exact rfl); (case c3 => exact rfl); (case c4 => exact rfl); k_whole; intro g' L' h' FG' F' N' B' X' T'; (try dsimp only); (try k_fold); (refine wp_letA ?_); intro A2)
  k_steps
  all_goals ((with_reducible rename FlyM base (envX cn cs L a ccd cl :: outer) _ _ _ => kR); (with_reducible rename Heap.UpToSlots g' _ => kU); (with_reducible rename Fr h₀ L _ m => kG); exact hret _ _ _ _ (FlyM.sub kR (by k_extra "my keep")) kG kU)
theorem r_from_array_int {x : Int} {t : Tok} : CtR w mean mg mb 12 (.ref 292) [.int x t] (fun news => True) := by
  unfold CtR; k_fill; intro dp un gd cn cs a ccd cl outer A₀ base h₀ L m news s Q E B F X N T hk hpre hd hu hret
  refine wpAny_call ?_
  k_dflt (refine' code_defN [Str.ofString "values"] ?k1 ?k2 ?k3 ?k4 ?k5 ?kA ?kF ?kK ?k6 ?k7 ?k8 ?k9 ?kB ?_ ?c2 ?c3 ?c4 ?c5; (case kA => exact rfl); (case kF => exact rfl); (case kK => assumption); (case k1 => k_asm); (case k2 => k_asm); (case k3 => k_asm); (case k4 => k_asm); (case k5 => k_asm); (case k6 => k_is); (case k7 => k_is); (case k8 => ktr_room); (case k9 => exact BindsTo.of_eq rfl); (case c5 => decide); (case kB => exact locs rfl); (case c2 => exact rfl); (case c3 => exact rfl); (case c4 => exact rfl); k_whole; intro g' L' h' FG' F' N' B' X' T'; (try dsimp only); (try k_fold); (refine wp_letA ?_); intro A2)
  k_steps
  all_goals ((with_reducible rename FlyM base (envX cn cs L a ccd cl :: outer) _ _ _ => kR); (with_reducible rename Heap.UpToSlots g' _ => kU); (with_reducible rename Fr h₀ L _ m => kG); exact hret _ _ _ _ (FlyM.sub kR (by k_extra "my keep")) kG kU)
end
end
end

end
section
open PySem PySem.W PyProof.Rows PySem.Calls PySem.Spec

section
variable {w : World} {mean : ExcName → Option Value} {mg mb : Str → Option Value}



theorem KX7setup1 : True := by
  k_with "call ref" => ((k_here; (with_reducible show wpAny _ _ (call (Value.ref 168) _) _ _ _); k_dflt (refine' (c_decimal_of) _ _ _ _ _ _ _ _ _ _ _ _ _ _ _ _ _ _ ?kB ?kF ?kX ?kN ?kT ?kK ?kpw178 ?kd ?ku ?_; k_extra "sid"; (case kpw178 => refine' ⟨?kpaw178, ?kpbw178⟩; (case kpaw178 => k_extra "my num"); (case kpbw178 => k_extra "my sub")); k_whole; intro e9 D9 ok9 s9 s8 f9 h9 tk9 F9 N9; have p9 := ok9.nrm.p0; have q9 := ok9.bp; (try k_sweep))))
  k_with "my le" => (first | exact Nat.le_refl _ | exact Nat.le_of_ble_eq_true rfl | exact lea _ _ | exact leb _ _ | exact le1 _ | omega)
  k_with "my kmem" => (first | (with_reducible refine' mat_x ?kmhw179; (case kmhw179 => k_extra "my sub")) | (with_reducible refine' mat_d ?kmhw179; (case kmhw179 => k_extra "my sub")))
  k_with "call ref" => ((k_here; (with_reducible show wpAny _ _ (call (Value.ref 70) _) _ _ _); k_dflt (refine' (c_plus ?hbbw180) _ _ _ _ _ _ _ _ _ _ _ _ _ _ _ _ _ _ ?kB ?kF ?kX ?kN ?kT ?kK ?kpw180 ?kd ?ku ?_; k_extra "sid"; (case kpw180 => refine' ⟨?kpaw180, ?kpbw180⟩; (case kpaw180 => k_extra "my num"); (case kpbw180 => k_extra "my num")); (case hbbw180 => first | decide | omega); k_whole; intro D9 ok9 h9 tk9 F9 N9; (try k_sweep))))
  k_with "call ref" => ((k_here; (with_reducible show wpAny _ _ (call (Value.ref 77) _) _ _ _); k_dflt (refine' (c_minus ?hbbw181) _ _ _ _ _ _ _ _ _ _ _ _ _ _ _ _ _ _ ?kB ?kF ?kX ?kN ?kT ?kK ?kpw181 ?kd ?ku ?_; k_extra "sid"; (case kpw181 => refine' ⟨?kpaw181, ?kpbw181⟩; (case kpaw181 => k_extra "my num"); (case kpbw181 => k_extra "my num")); (case hbbw181 => first | decide | omega); k_whole; intro D9 ok9 h9 tk9 F9 N9; (try k_sweep))))
  k_with "call ref" => ((k_here; (with_reducible show wpAny _ _ (call (Value.ref 84) _) _ _ _); k_dflt (refine' (c_times ?hbbw182 ?hokw182) _ _ _ _ _ _ _ _ _ _ _ _ _ _ _ _ _ _ ?kB ?kF ?kX ?kN ?kT ?kK ?kpw182 ?kd ?ku ?_; k_extra "sid"; (case hokw182 => with_reducible assumption); (case kpw182 => refine' ⟨?kpaw182, ?kpbw182⟩; (case kpaw182 => k_extra "my sub"); (case kpbw182 => k_extra "my num")); (case hbbw182 => first | decide | omega); k_whole; intro D9 ok9 h9 tk9 F9 N9; (try k_sweep))))
  k_with "call ref" => ((k_here; (with_reducible show wpAny _ _ (call (Value.ref 91) _) _ _ _); k_dflt (refine' (c_negated ?hokw183) _ _ _ _ _ _ _ _ _ _ _ _ _ _ _ _ _ _ ?kB ?kF ?kX ?kN ?kT ?kK ?kpw183 ?kd ?ku ?_; k_extra "sid"; (case hokw183 => with_reducible assumption); (case kpw183 => k_extra "my sub"); k_whole; intro D9 ok9 h9 tk9 F9 N9; (try k_sweep))))
  k_with "call ref" => ((k_here; (with_reducible show wpAny _ _ (call (Value.ref 126) _) _ _ _); k_dflt (refine' (c_told ?hokw184) _ _ _ _ _ _ _ _ _ _ _ _ _ _ _ _ _ _ ?kB ?kF ?kX ?kN ?kT ?kK ?kpw184 ?kd ?ku ?_; k_extra "sid"; (case hokw184 => with_reducible assumption); (case kpw184 => k_extra "my sub"); k_whole; intro e9 v9 y9 f9 h9 tk9 F9 N9; (try k_sweep))))
  k_with "call ref" => ((k_here; (with_reducible show wpAny _ _ (call (Value.ref 246) _) _ _ _); k_dflt (refine' (c_Matrix6) _ _ _ _ _ _ _ _ _ _ _ _ _ _ _ _ _ _ ?kB ?kF ?kX ?kN ?kT ?kK ?kpw185 ?kd ?ku ?_; k_extra "sid"; (case kpw185 => refine' ⟨⟨?kpaw185, ?kpbw185, ?kpcw185⟩, ?kpdw185, ?kpew185, ?kpfw185⟩; (case kpaw185 => k_extra "my num"); (case kpbw185 => k_extra "my num"); (case kpcw185 => k_extra "my num"); (case kpdw185 => k_extra "my num"); (case kpew185 => k_extra "my num"); (case kpfw185 => k_extra "my num")); k_whole; intro M9 ok9 h9 tk9 F9 N9; (try k_sweep))))
  k_with "my mok" => ((refine' MatOK.to ?kmaw186 ?kmbw186 ?kmcw186; (case kmaw186 => with_reducible assumption); (case kmbw186 => rfl); (case kmcw186 => first | (with_reducible refine' le6s ?m1w186; (case m1w186 => k_extra "my le")) | (with_reducible refine' le6 ?m1w186 ?m2w186 ?m3w186 ?m4w186 ?m5w186 ?m6w186; (case m1w186 => k_extra "my le"); (case m2w186 => k_extra "my le"); (case m3w186 => k_extra "my le"); (case m4w186 => k_extra "my le"); (case m5w186 => k_extra "my le"); (case m6w186 => k_extra "my le")) | omega)))
  k_with "my says" => (first | with_reducible assumption | (with_reducible refine' Says.here ?kmhw187; (case kmhw187 => with_reducible assumption)) | (with_reducible refine' Says.app ?kmhw187; (case kmhw187 => k_extra "my says")) | (with_reducible refine' Says.cons ?kmhw187; (case kmhw187 => k_extra "my says")))
  k_with "my saysall" => (first | exact SaysAll.nil | (refine' SaysAll.cons ?kmaw188 ?kmbw188; (case kmaw188 => k_extra "my says"); (case kmbw188 => k_extra "my saysall")))
  k_with "eval Attribute Name" => ((k_here; (first | (with_reducible show wpAny _ _ (eval _ (envOf _ _ _ _ _)) _ _ _) | (with_reducible show wpAny _ _ (eval _ (envX _ _ _ _ _ _)) _ _ _)); first | ((with_reducible show wpAny _ _ (eval (Expr.Attribute (Expr.Name _ _) (Str.ofString "a") _) _) _ _ _); k_dflt (refine' mat_at_a ?Fw189 ?Xw189 ?vw189 ?aw189 ?Nw189 ?Sw189 ?_; (case aw189 => (refine' NmOk.mk ?na1w189 ?na2w189 ?na3w189; (case na1w189 => rfl); (case na2w189 => rfl); (case na3w189 => decide))); (case Fw189 => with_reducible assumption); (case vw189 => apply @rfl _ (some (Value.ref (MatL.x _)))); (case Xw189 => with_reducible assumption); (case Nw189 => with_reducible assumption); (case Sw189 => k_extra "my sub"); k_whole)) | ((with_reducible show wpAny _ _ (eval (Expr.Attribute (Expr.Name _ _) (Str.ofString "b") _) _) _ _ _); k_dflt (refine' mat_at_b ?Fw189 ?Xw189 ?vw189 ?aw189 ?Nw189 ?Sw189 ?_; (case aw189 => (refine' NmOk.mk ?na1w189 ?na2w189 ?na3w189; (case na1w189 => rfl); (case na2w189 => rfl); (case na3w189 => decide))); (case Fw189 => with_reducible assumption); (case vw189 => apply @rfl _ (some (Value.ref (MatL.x _)))); (case Xw189 => with_reducible assumption); (case Nw189 => with_reducible assumption); (case Sw189 => k_extra "my sub"); k_whole)) | ((with_reducible show wpAny _ _ (eval (Expr.Attribute (Expr.Name _ _) (Str.ofString "c") _) _) _ _ _); k_dflt (refine' mat_at_c ?Fw189 ?Xw189 ?vw189 ?aw189 ?Nw189 ?Sw189 ?_; (case aw189 => (refine' NmOk.mk ?na1w189 ?na2w189 ?na3w189; (case na1w189 => rfl); (case na2w189 => rfl); (case na3w189 => decide))); (case Fw189 => with_reducible assumption); (case vw189 => apply @rfl _ (some (Value.ref (MatL.x _)))); (case Xw189 => with_reducible assumption); (case Nw189 => with_reducible assumption); (case Sw189 => k_extra "my sub"); k_whole)) | ((with_reducible show wpAny _ _ (eval (Expr.Attribute (Expr.Name _ _) (Str.ofString "d") _) _) _ _ _); k_dflt (refine' mat_at_d ?Fw189 ?Xw189 ?vw189 ?aw189 ?Nw189 ?Sw189 ?_; (case aw189 => (refine' NmOk.mk ?na1w189 ?na2w189 ?na3w189; (case na1w189 => rfl); (case na2w189 => rfl); (case na3w189 => decide))); (case Fw189 => with_reducible assumption); (case vw189 => apply @rfl _ (some (Value.ref (MatL.x _)))); (case Xw189 => with_reducible assumption); (case Nw189 => with_reducible assumption); (case Sw189 => k_extra "my sub"); k_whole)) | ((with_reducible show wpAny _ _ (eval (Expr.Attribute (Expr.Name _ _) (Str.ofString "e") _) _) _ _ _); k_dflt (refine' mat_at_e ?Fw189 ?Xw189 ?vw189 ?aw189 ?Nw189 ?Sw189 ?_; (case aw189 => (refine' NmOk.mk ?na1w189 ?na2w189 ?na3w189; (case na1w189 => rfl); (case na2w189 => rfl); (case na3w189 => decide))); (case Fw189 => with_reducible assumption); (case vw189 => apply @rfl _ (some (Value.ref (MatL.x _)))); (case Xw189 => with_reducible assumption); (case Nw189 => with_reducible assumption); (case Sw189 => k_extra "my sub"); k_whole)) | ((with_reducible show wpAny _ _ (eval (Expr.Attribute (Expr.Name _ _) (Str.ofString "f") _) _) _ _ _); k_dflt (refine' mat_at_f ?Fw189 ?Xw189 ?vw189 ?aw189 ?Nw189 ?Sw189 ?_; (case aw189 => (refine' NmOk.mk ?na1w189 ?na2w189 ?na3w189; (case na1w189 => rfl); (case na2w189 => rfl); (case na3w189 => decide))); (case Fw189 => with_reducible assumption); (case vw189 => apply @rfl _ (some (Value.ref (MatL.x _)))); (case Xw189 => with_reducible assumption); (case Nw189 => with_reducible assumption); (case Sw189 => k_extra "my sub"); k_whole))))
  k_with "eval Call Attribute" => ((k_here; (first | (with_reducible show wpAny _ _ (eval _ (envOf _ _ _ _ _)) _ _ _) | (with_reducible show wpAny _ _ (eval _ (envX _ _ _ _ _ _)) _ _ _)); first | ((with_reducible show wpAny _ _ (eval (Expr.Call (Expr.Attribute (Expr.Name _ _) _ _) (_ :: _) [] _) _) _ _ _); k_dflt (refine' mat_meth ?Fw190 ?Xw190 ?vw190 ?aw190 ?Nw190 ?Sw190 ?fw190 ?hmw190 ?hlw190 ?hsw190 ?hpw190 ?_; (case aw190 => (refine' NmOk.mk ?na1w190 ?na2w190 ?na3w190; (case na1w190 => rfl); (case na2w190 => rfl); (case na3w190 => decide))); (case Fw190 => with_reducible assumption); (case vw190 => apply @rfl _ (some (Value.ref (MatL.x _)))); (case Xw190 => with_reducible assumption); (case Nw190 => with_reducible assumption); (case Sw190 => k_extra "my sub"); (case fw190 => k_is); (case hmw190 => kernel_rfl); (case hlw190 => exact @rfl _ true); (case hsw190 => exact @rfl _ true); (case hpw190 => exact @rfl _ true); k_whole)) | ((with_reducible show wpAny _ _ (eval (Expr.Call (Expr.Attribute (Expr.Name _ _) _ _) [] [] _) _) _ _ _); k_dflt (refine' mat_meth0 ?Fw190 ?Xw190 ?vw190 ?aw190 ?Nw190 ?Sw190 ?fw190 ?hmw190 ?hlw190 ?hpw190 ?_; (case aw190 => (refine' NmOk.mk ?na1w190 ?na2w190 ?na3w190; (case na1w190 => rfl); (case na2w190 => rfl); (case na3w190 => decide))); (case Fw190 => with_reducible assumption); (case vw190 => apply @rfl _ (some (Value.ref (MatL.x _)))); (case Xw190 => with_reducible assumption); (case Nw190 => with_reducible assumption); (case Sw190 => k_extra "my sub"); (case fw190 => k_is); (case hmw190 => kernel_rfl); (case hlw190 => exact @rfl _ true); (case hpw190 => exact @rfl _ true); k_whole))))
  k_with "call ref" => ((k_here; (with_reducible show wpAny _ _ (call (Value.ref 224) _) _ _ _); k_dflt (refine' (c_applied ?hbbw191 ?hokw191) _ _ _ _ _ _ _ _ _ _ _ _ _ _ _ _ _ _ ?kB ?kF ?kX ?kN ?kT ?kK ?kpw191 ?kd ?ku ?_; k_extra "sid"; (case hokw191 => with_reducible assumption); (case kpw191 => refine' ⟨?kpaw191, ?kpbw191, ?kpcw191⟩; (case kpaw191 => k_extra "my sub"); (case kpbw191 => k_extra "my num"); (case kpcw191 => k_extra "my num")); (case hbbw191 => first | decide | omega); k_whole; intro T9 D9 D8 ok9 ok8 h9 tk9 F9 N9; (try k_sweep))))
  k_with "call ref" => ((k_here; (with_reducible show wpAny _ _ (call (Value.ref 231) _) _ _ _); k_dflt (refine' (c_shifted ?hbbw192 ?hokw192) _ _ _ _ _ _ _ _ _ _ _ _ _ _ _ _ _ _ ?kB ?kF ?kX ?kN ?kT ?kK ?kpw192 ?kd ?ku ?_; k_extra "sid"; (case hokw192 => with_reducible assumption); (case kpw192 => refine' ⟨?kpaw192, ?kpbw192, ?kpcw192⟩; (case kpaw192 => k_extra "my sub"); (case kpbw192 => k_extra "my num"); (case kpcw192 => k_extra "my num")); (case hbbw192 => first | decide | omega); k_whole; intro T9 D9 D8 ok9 ok8 h9 tk9 F9 N9; (try k_sweep))))
  k_with "call ref" => ((k_here; (with_reducible show wpAny _ _ (call (Value.ref 217) _) _ _ _); k_dflt (refine' (c_mtimes ?hbbw193 ?hokw193 ?hok2w193) _ _ _ _ _ _ _ _ _ _ _ _ _ _ _ _ _ _ ?kB ?kF ?kX ?kN ?kT ?kK ?kpw193 ?kd ?ku ?_; k_extra "sid"; (case hokw193 => with_reducible assumption); (case hok2w193 => with_reducible assumption); (case kpw193 => refine' ⟨?kpaw193, ?kpbw193⟩; (case kpaw193 => k_extra "my sub"); (case kpbw193 => k_extra "my sub")); (case hbbw193 => first | decide | omega); k_whole; intro M9 ok9 h9 tk9 F9 N9; (try k_sweep))))
  k_with "call ref" => ((k_here; (with_reducible show wpAny _ _ (call (Value.ref 299) _) _ _ _); k_dflt (refine' (c_determinant ?hbbw194 ?hokw194) _ _ _ _ _ _ _ _ _ _ _ _ _ _ _ _ _ _ ?kB ?kF ?kX ?kN ?kT ?kK ?kpw194 ?kd ?ku ?_; k_extra "sid"; (case hokw194 => with_reducible assumption); (case kpw194 => k_extra "my sub"); (case hbbw194 => first | decide | omega); k_whole; intro D9 ok9 h9 tk9 F9 N9; (try k_sweep))))
  k_with "call ref" => ((k_here; (with_reducible show wpAny _ _ (call (Value.ref 306) _) _ _ _); k_dflt (refine' (c_is_invertible ?hbbw195 ?hokw195) _ _ _ _ _ _ _ _ _ _ _ _ _ _ _ _ _ _ ?kB ?kF ?kX ?kN ?kT ?kK ?kpw195 ?kd ?ku ?_; k_extra "sid"; (case hokw195 => with_reducible assumption); (case kpw195 => k_extra "my sub"); (case hbbw195 => first | decide | omega); k_whole; intro  h9 tk9 F9 N9; (try k_sweep))))
  k_with "call ref" => ((k_here; (with_reducible show wpAny _ _ (call (Value.ref 313) _) _ _ _); k_dflt (refine' (c_is_straight ?hokw196) _ _ _ _ _ _ _ _ _ _ _ _ _ _ _ _ _ _ ?kB ?kF ?kX ?kN ?kT ?kK ?kpw196 ?kd ?ku ?_; k_extra "sid"; (case hokw196 => with_reducible assumption); (case kpw196 => k_extra "my sub"); k_whole; intro  h9 tk9 F9 N9; (try k_sweep))))
  k_with "my num" => (exact Num.int (b := 1) (Bd.of (by decide)) rfl)
  k_with "call ref" => ((k_here; (with_reducible show wpAny _ _ (call (Value.ref 238) _) _ _ _); k_dflt (refine' (c_parts) _ _ _ _ _ _ _ _ _ _ _ _ _ _ _ _ _ _ ?kB ?kF ?kX ?kN ?kT ?kK ?kpw197 ?kd ?ku ?_; k_extra "sid"; (case kpw197 => k_extra "my sub"); k_whole; intro l9 n9 h9 tk9 F9 N9; (try k_sweep))))
  k_with "call ref" => ((k_here; (with_reducible show wpAny _ _ (call (Value.ref 243) _) _ _ _); k_dflt (refine' (c_mtold ?hokw198) _ _ _ _ _ _ _ _ _ _ _ _ _ _ _ _ _ _ ?kB ?kF ?kX ?kN ?kT ?kK ?kpw198 ?kd ?ku ?_; k_extra "sid"; (case hokw198 => with_reducible assumption); (case kpw198 => k_extra "my sub"); k_whole; intro e9 v9 y9 h9 tk9 F9 N9; (try k_sweep))))
  k_with "call ref" => ((k_here; (with_reducible show wpAny _ _ (call (Value.ref 182) _) _ _ _); k_dflt (refine' (c_over _ _ ?hTSw199 ?hSw199 ?hbbw199 ?h0w199 ?hp0w199 ?hpw199) _ _ _ _ _ _ _ _ _ _ _ _ _ _ _ _ _ _ ?kB ?kF ?kX ?kN ?kT ?kK ?kpw199 ?kd ?ku ?_; k_extra "sid"; (case kpw199 => refine' ⟨?kpaw199, ?kpbw199⟩; (case kpaw199 => k_extra "my num"); (case kpbw199 => k_extra "my num")); (case hTSw199 => with_reducible assumption); (case hSw199 => with_reducible assumption); (case h0w199 => with_reducible assumption); (case hp0w199 => with_reducible assumption); (case hpw199 => with_reducible assumption); (case hbbw199 => first | decide | omega); k_whole; intro D9 ok9 h9 tk9 F9 N9; (try k_sweep))))
  trivial



theorem KX7setup2 : True := by
  k_with "call ref" => ((k_here; (with_reducible show wpAny _ _ (call (Value.ref 257) _) _ _ _); k_dflt (refine' (c_identity) _ _ _ _ _ _ _ _ _ _ _ _ _ _ _ _ _ _ ?kB ?kF ?kX ?kN ?kT ?kK ?kpw200 ?kd ?ku ?_; k_extra "sid"; (case kpw200 => exact trivial); k_whole; intro M9 ok9 h9 tk9 F9 N9; (try k_sweep))))
  k_with "call ref" => ((k_here; (with_reducible show wpAny _ _ (call (Value.ref 264) _) _ _ _); k_dflt (refine' (c_translation) _ _ _ _ _ _ _ _ _ _ _ _ _ _ _ _ _ _ ?kB ?kF ?kX ?kN ?kT ?kK ?kpw201 ?kd ?ku ?_; k_extra "sid"; (case kpw201 => refine' ⟨?kpaw201, ?kpbw201⟩; (case kpaw201 => k_extra "my num"); (case kpbw201 => k_extra "my num")); k_whole; intro M9 ok9 h9 tk9 F9 N9; (try k_sweep))))
  k_with "call ref" => ((k_here; (with_reducible show wpAny _ _ (call (Value.ref 271) _) _ _ _); k_dflt (refine' (c_scaling) _ _ _ _ _ _ _ _ _ _ _ _ _ _ _ _ _ _ ?kB ?kF ?kX ?kN ?kT ?kK ?kpw202 ?kd ?ku ?_; k_extra "sid"; (case kpw202 => refine' ⟨?kpaw202, ?kpbw202⟩; (case kpaw202 => k_extra "my num"); (case kpbw202 => k_extra "my num")); k_whole; intro M9 ok9 h9 tk9 F9 N9; (try k_sweep))))
  k_with "call ref" => ((k_here; (with_reducible show wpAny _ _ (call (Value.ref 285) _) _ _ _); k_dflt (refine' (c_skewing) _ _ _ _ _ _ _ _ _ _ _ _ _ _ _ _ _ _ ?kB ?kF ?kX ?kN ?kT ?kK ?kpw203 ?kd ?ku ?_; k_extra "sid"; (case kpw203 => refine' ⟨?kpaw203, ?kpbw203⟩; (case kpaw203 => k_extra "my num"); (case kpbw203 => k_extra "my num")); k_whole; intro M9 ok9 h9 tk9 F9 N9; (try k_sweep))))
  k_with "call ref" => ((k_here; (with_reducible show wpAny _ _ (call (Value.ref 320) _) _ _ _); k_dflt (refine' (c_adjugate ?hbbw204 ?hokw204) _ _ _ _ _ _ _ _ _ _ _ _ _ _ _ _ _ _ ?kB ?kF ?kX ?kN ?kT ?kK ?kpw204 ?kd ?ku ?_; k_extra "sid"; (case hokw204 => with_reducible assumption); (case kpw204 => refine' ⟨?kpaw204, ?kpbw204, ?kpcw204⟩; (case kpaw204 => k_extra "my sub"); (case kpbw204 => k_extra "my num"); (case kpcw204 => k_extra "my num")); (case hbbw204 => first | decide | omega); k_whole; intro T9 D9 D8 ok9 ok8 h9 tk9 F9 N9; (try k_sweep))))
  k_with "my item" => ((k_here; (with_reducible show wpAny _ _ (subscriptTail _ _ (Value.ref _) (Value.int _ _)) _ _ _); k_dflt (refine' my_item ?Nw205 ?mw205 ?k2w205 ?k3w205 ?k4w205 ?_ ?k6w205; (case Nw205 => k_asm); (case mw205 => first | with_reducible assumption | k_mem); (case k2w205 => decide); (case k3w205 => decide); (case k4w205 => first | (refine' getk 0 ?gaw205 ?gbw205; (case gaw205 => decide); (case gbw205 => rfl)) | (refine' getk 1 ?gaw205 ?gbw205; (case gaw205 => decide); (case gbw205 => rfl)) | (refine' getk 2 ?gaw205 ?gbw205; (case gaw205 => decide); (case gbw205 => rfl)) | (refine' getk 3 ?gaw205 ?gbw205; (case gaw205 => decide); (case gbw205 => rfl)) | (refine' getk 4 ?gaw205 ?gbw205; (case gaw205 => decide); (case gbw205 => rfl)) | (refine' getk 5 ?gaw205 ?gbw205; (case gaw205 => decide); (case gbw205 => rfl))); (case k6w205 => with_unfolding_all rfl); k_whole)))
  k_with "subscriptTail" => (k_extra "my item")
  k_with "subscriptTail Name" => (k_extra "my item")
  k_with "subscriptTail Subscript" => (k_extra "my item")
  k_with "subscriptTail Name Name ref int" => (k_extra "my item")
  k_with "subscriptTail Name Constant ref int" => (k_extra "my item")
  k_with "subscriptTail Subscript Name Name Name ref int" => (k_extra "my item")
  k_with "subscriptTail Subscript Name Constant Name ref int" => (k_extra "my item")
  k_with "subscriptTail Subscript Name Name Constant ref int" => (k_extra "my item")
  k_with "subscriptTail Subscript Name Constant Constant ref int" => (k_extra "my item")
  trivial
/-- what exact_over hands back -/
inductive ExR (w : World) (q : Rat) (b : Nat) : Value → Led → Prop where
  | no (h : ¬ Ends q) : ExR w q b .none []
  | yes (D : DecL) (h : Ends q) (ok : DecOK D q b) : ExR w q b (.ref D.x) (decL w D)
theorem c_exact_overR {D1 D2 : DecL} {q1 q2 : Rat} {b1 b2 : Nat} (hb : b1 + b2 ≤ 300) (h0 : q2 ≠ 0) : Ct w mean mg mb 4 (.ref 196) [.ref D1.x, .ref D2.x] (fun news => Num w news (.ref D1.x) q1 b1 ∧ Num w news (.ref D2.x) q2 b2)
    (fun Q news => ∀ v ext, ExR w (q1 / q2) (5 * (b1 + b2)) v ext → Fresh news ext → Q v (ext ++ news)) := by
  intro dp un gd cn cs a ccd cl outer A₀ base h₀ L m news s Q E B F X N T hk hpre hd hu hret
  exact c_exact_over hb h0 dp un gd cn cs a ccd cl outer A₀ base h₀ L m news s Q E B F X N T hk hpre hd hu ⟨fun h => hret .none [] (.no h) Fresh.nil, fun D h ok f => hret _ _ (.yes D h ok) f⟩
section
theorem KX7setup3 : True := by
  k_with "call ref" => ((k_here; (with_reducible show wpAny _ _ (call (Value.ref 246) _) _ _ _); k_dflt (refine' (c_Matrix6f (n0 := decL w _ ++ (decL w _ ++ (decL w _ ++ (decL w _ ++ (decL w _ ++ (decL w _ ++ []))))))) _ _ _ _ _ _ _ _ _ _ _ _ _ _ _ _ _ _ ?kB ?kF ?kX ?kN ?kT ?kK ?kpw206 ?kd ?ku ?_; k_extra "sid"; (case kpw206 => refine' ⟨⟨⟨?kpaw206, ?kpbw206, ?kpcw206⟩, ?kpdw206, ?kpew206, ?kpfw206⟩, ?kpzw206⟩; (case kpaw206 => k_extra "my num"); (case kpbw206 => k_extra "my num"); (case kpcw206 => k_extra "my num"); (case kpdw206 => k_extra "my num"); (case kpew206 => k_extra "my num"); (case kpfw206 => k_extra "my num"); (case kpzw206 => k_extra "my keep")); k_whole; intro M9 x9 ok9 fx9 sx9 h9 tk9 F9 N9; (try k_sweep))))
  trivial
set_option maxHeartbeats 1000000 in
theorem c_from_array {l : Addr} {n : Nat} {v1 v2 v3 v4 v5 v6 : Value} {q1 q2 q3 q4 q5 q6 : Rat} {b1 b2 b3 b4 b5 b6 : Nat} :
    Ct w mean mg mb 6 (.ref 292) [.ref l] (fun news => (l, listOf #[v1, v2, v3, v4, v5, v6] n) ∈ news ∧ (Num w news v1 q1 b1 ∧ Num w news v2 q2 b2 ∧ Num w news v3 q3 b3) ∧ Num w news v4 q4 b4 ∧ Num w news v5 q5 b5 ∧ Num w news v6 q6 b6)
     (fun Q news => ∀ M, MatOK M ⟨q1, q2, q3, q4, q5, q6⟩ (max6 b1 b2 b3 b4 b5 b6) → Q (.ref M.x) (matL w M ++ news)) := by
  unfold Ct; k_fill; intro dp un gd cn cs a ccd cl outer A₀ base h₀ L m news s Q E B F X N T hk hpre hd hu hret
  obtain ⟨hm, ⟨n1, n2, n3⟩, n4, n5, n6⟩ := hpre
  refine wpAny_call ?_
  k_dflt (refine' code_defN [Str.ofString "values"] ?k1 ?k2 ?k3 ?k4 ?k5 ?kA ?kF ?kK ?k6 ?k7 ?k8 ?k9 ?kB ?_ ?c2 ?c3 ?c4 ?c5; (case kA => exact rfl); (case kF => exact rfl); (case kK => assumption); (case k1 => k_asm); (case k2 => k_asm); (case k3 => k_asm); (case k4 => k_asm); (case k5 => k_asm); (case k6 => k_is); (case k7 => k_is); (case k8 => ktr_room); (case k9 => exact BindsTo.of_eq rfl); (case c5 => decide); (case kB => exact locs rfl); (case c2 => exact rfl); (case c3 => exact rfl); (case c4 => exact rfl); k_whole; intro g' L' h' FG' F' N' B' X' T'; (try dsimp only); (try k_fold); (refine wp_letA ?_); intro A2)
  k_steps
  all_goals ((with_reducible rename Fr h₀ L _ m => kF); (with_reducible rename News h₀ L _ _ => kN); (try dsimp only at kF kN); exact hret _ (by with_reducible assumption) _ _ kF (News.sub kN (by k_extra "my keep")))
end
end

end
section
open PySem PySem.W PyProof.Rows PySem.Calls PySem.Spec

section
variable {w : World} {mean : ExcName → Option Value} {mg mb : Str → Option Value}




theorem KX6setup1 : True := by
  k_with "call ref" => ((k_here; (with_reducible show wpAny _ _ (call (Value.ref 175) _) _ _ _); k_dflt (refine' (c_at_one_scale ?hbbw207) _ _ _ _ _ _ _ _ _ _ _ _ _ _ _ _ _ _ ?kB ?kF ?kX ?kN ?kT ?kK ?kpw207 ?kd ?ku ?_; k_extra "sid"; (case kpw207 => refine' ⟨?kpaw207, ?kpbw207⟩; (case kpaw207 => k_extra "my num"); (case kpbw207 => k_extra "my num")); (case hbbw207 => first | decide | omega); k_whole; intro T9 a9 b9 P9 k91 k92 k93 sc9 h9 tk9 F9 N9; (try k_sweep))))
  k_with "call ref" => (((with_reducible show wpAny _ _ (call (Value.ref 46) _) _ _ _); exfalso; first | contradiction | omega))
  k_with "call ref" => ((k_here; (with_reducible show wpAny _ _ (call (Value.ref 46) _) _ _ _); k_dflt (refine' (c_Paper) _ _ _ _ _ _ _ _ _ _ _ _ _ _ _ _ _ _ ?kB ?kF ?kX ?kN ?kT ?kK ?kpw208 ?kd ?ku ?_; k_extra "sid"; (case kpw208 => exact trivial); k_whole; intro e9 o9 p9 f9 h9 tk9 F9 N9; (try k_sweep))))
  k_with "call ref" => ((k_here; (with_reducible show wpAny _ _ (call (Value.ref 246) _) _ _ _); k_dflt (refine' CtR.use (r_Matrix ?h6w209) ?kB ?kF ?kX ?kN ?kT ?kK ?kpw209 ?kd ?ku ?_; k_extra "sid"; (case h6w209 => first | exact BadV.bool | exact BadV.none); (case kpw209 => refine' ⟨?kpaw209, ?kpbw209, ?kpcw209, ?kpdw209, ?kpew209⟩; (case kpaw209 => k_extra "my num"); (case kpbw209 => k_extra "my num"); (case kpcw209 => k_extra "my num"); (case kpdw209 => k_extra "my num"); (case kpew209 => k_extra "my num")); k_whole; intro e9 h9 tk9 g9 R9 F9 U9; (try dsimp only at R9 F9 U9 ⊢); (try k_sweep))))
  trivial
set_option maxHeartbeats 2000000 in
theorem r_from_array_bad {l : Addr} {a b c d e : DecL} {qa qb qc qd qe : Rat} {b1 : Nat} {v : Value} {n : Nat} (hv : BadV v) : CtR w mean mg mb 12 (.ref 292) [.ref l] (fun news => (l, listOf #[.ref a.x, .ref b.x, .ref c.x, .ref d.x, .ref e.x, v] n) ∈ news ∧
    Num w news (.ref a.x) qa b1 ∧ Num w news (.ref b.x) qb b1 ∧ Num w news (.ref c.x) qc b1 ∧ Num w news (.ref d.x) qd b1 ∧ Num w news (.ref e.x) qe b1) := by
  cases hv
  all_goals (
    unfold CtR; k_fill; intro dp un gd cn cs a ccd cl outer A₀ base h₀ L m news s Q E B F X N T hk hpre hd hu hret
    obtain ⟨hm, n1, n2, n3, n4, n5⟩ := hpre
    refine wpAny_call ?_
    k_dflt (refine' code_defN [Str.ofString "values"] ?k1 ?k2 ?k3 ?k4 ?k5 ?kA ?kF ?kK ?k6 ?k7 ?k8 ?k9 ?kB ?_ ?c2 ?c3 ?c4 ?c5; (case kA => exact rfl); (case kF => exact rfl); (case kK => assumption); (case k1 => k_asm); (case k2 => k_asm); (case k3 => k_asm); (case k4 => k_asm); (case k5 => k_asm); (case k6 => k_is); (case k7 => k_is); (case k8 => ktr_room); (case k9 => exact BindsTo.of_eq rfl); (case c5 => decide); (case kB => exact locs rfl); (case c2 => exact rfl); (case c3 => exact rfl); (case c4 => exact rfl); k_whole; intro g' L' h' FG' F' N' B' X' T'; (try dsimp only); (try k_fold); (refine wp_letA ?_); intro A2)
    k_steps
    all_goals ((with_reducible rename FlyM base (envX cn cs L a ccd cl :: outer) _ _ _ => kR); (with_reducible rename Heap.UpToSlots g' _ => kU); (with_reducible rename Fr h₀ L _ m => kG); exact hret _ _ _ _ (FlyM.sub kR (by k_extra "my keep")) kG kU)
  )
theorem r_from_array {v : Value} : CtR w mean mg mb 12 (.ref 292) [v] (fun news => Wrong w news v) := by
  intro dp un gd cn cs a ccd cl outer A₀ base h₀ L m news s Q E B F X N T hk hpre hd hu hret
  cases hpre with
  | five h => exact r_from_array_five dp un gd cn cs a ccd cl outer A₀ base h₀ L m news s Q E B F X N T hk h hd hu hret
  | seven h => exact r_from_array_seven dp un gd cn cs a ccd cl outer A₀ base h₀ L m news s Q E B F X N T hk h hd hu hret
  | bad hv h n1 n2 n3 n4 n5 => exact r_from_array_bad hv dp un gd cn cs a ccd cl outer A₀ base h₀ L m news s Q E B F X N T hk ⟨h, n1, n2, n3, n4, n5⟩ hd hu hret
  | tup h => exact r_from_array_tup (n := 0) dp un gd cn cs a ccd cl outer A₀ base h₀ L m news s Q E B F X N T hk h hd hu hret
  | str => exact r_from_array_str dp un gd cn cs a ccd cl outer A₀ base h₀ L m news s Q E B F X N T hk trivial hd hu hret
  | int => exact r_from_array_int dp un gd cn cs a ccd cl outer A₀ base h₀ L m news s Q E B F X N T hk trivial hd hu hret
section


theorem KX6setup2 : True := by
  k_with "call ref" => ((k_here; (with_reducible show wpAny _ _ (call (Value.ref 246) _) _ _ _); k_dflt (refine' (c_Matrix6) _ _ _ _ _ _ _ _ _ _ _ _ _ _ _ _ _ _ ?kB ?kF ?kX ?kN ?kT ?kK ?kpw210 ?kd ?ku ?_; k_extra "sid"; (case kpw210 => refine' ⟨⟨?kpaw210, ?kpbw210, ?kpcw210⟩, ?kpdw210, ?kpew210, ?kpfw210⟩; (case kpaw210 => k_extra "my num"); (case kpbw210 => k_extra "my num"); (case kpcw210 => k_extra "my num"); (case kpdw210 => k_extra "my num"); (case kpew210 => k_extra "my num"); (case kpfw210 => k_extra "my num")); k_whole; intro M9 ok9 h9 tk9 F9 N9; (try k_sweep))))
  trivial


theorem KX6setup3 : True := by
  k_with "call ref" => ((k_here; (with_reducible show wpAny _ _ (call (Value.ref 182) _) _ _ _); k_dflt (refine' CtR.use (r_over ?hbbw211 ?h0w211) ?kB ?kF ?kX ?kN ?kT ?kK ?kpw211 ?kd ?ku ?_; k_extra "sid"; (case kpw211 => refine' ⟨?kpaw211, ?kpbw211⟩; (case kpaw211 => k_extra "my num"); (case kpbw211 => k_extra "my num")); (case h0w211 => with_reducible assumption); (case hbbw211 => first | decide | omega); k_whole; intro e9 h9 tk9 g9 R9 F9 U9; (try dsimp only at R9 F9 U9 ⊢); (try k_sweep))))
  trivial
set_option maxHeartbeats 2000000 in
theorem r_inverse_applied {M : MatL} {v1 v2 : Value} {q : Six} {x y : Rat} {bm bx bz : Nat} {p : Int} {kp : Tok} (hs0 : q.a * q.d - q.b * q.c = 0) (hb : 8 * bm + bx + bz ≤ 1800) (ok : MatOK M q bm) :
    CtR w mean mg mb 8 (.ref 327) [.ref M.x, v1, v2, .int p kp] (fun news => Sub (matL w M) news ∧ Num w news v1 x bx ∧ Num w news v2 y bz) := by
  unfold CtR; k_fill; intro dp un gd cn cs a ccd cl outer A₀ base h₀ L m news s Q E B F X N T hk hpre hd hu hret
  obtain ⟨hm, n1, n2⟩ := hpre
  refine wpAny_call ?_
  k_dflt (refine' code_defN [Str.ofString "m", Str.ofString "x", Str.ofString "y", Str.ofString "places"] ?k1 ?k2 ?k3 ?k4 ?k5 ?kA ?kF ?kK ?k6 ?k7 ?k8 ?k9 ?kB ?_ ?c2 ?c3 ?c4 ?c5; (case kA => exact rfl); (case kF => exact rfl); (case kK => assumption); (case k1 => k_asm); (case k2 => k_asm); (case k3 => k_asm); (case k4 => k_asm); (case k5 => k_asm); (case k6 => k_is); (case k7 => k_is); (case k8 => ktr_room); (case k9 => exact BindsTo.of_eq rfl); (case c5 => decide); (case kB => exact locs rfl); (case c2 => exact rfl); (case c3 => exact rfl); (case c4 => exact rfl); k_whole; intro g' L' h' FG' F' N' B' X' T'; (try dsimp only); (try k_fold); (refine wp_letA ?_); intro A2)
  k_steps
  all_goals ((with_reducible rename FlyM base (envX cn cs L a ccd cl :: outer) _ _ _ => kR); (with_reducible rename Heap.UpToSlots g' _ => kU); (with_reducible rename Fr h₀ L _ m => kG); exact hret _ _ _ _ (FlyM.sub kR (by k_extra "my keep")) kG kU)
end
end

end
section
open PySem PySem.W PyProof.Rows PySem.Calls PySem.Spec PySem.SeqAt
section
variable {prog : Program} {w : World} {A : Around} {E : Value → Shared → Prop} {h : Heap} {g : Array GenState} {d : Drawn} {t : Nat} {os : OsState} {C x : Addr} {bm : List Value} {B : String}
theorem isSame_none : isSame (.ref x) .none = pure false := rfl
theorem none_eq_ref : Gives (Builtin.«NoneType.__eq__» ⟨[.none, .ref x], []⟩) (.val (Value.notImplemented)) :=
  .of_wp fun M A E s Q h => by obtain ⟨hp, g, d, tk, os⟩ := s; wp_walk; exact ⟨_, rfl, h⟩
theorem one_none : oneThing? .Eq (.ref x) .none = none := rfl
theorem objEq_none {M : Model} {s : Shared} {Q : Fin → Shared → Prop} (hq : Q (.done (.ret .notImplemented)) s) : wpAny M A (Builtin.«object.__eq__» ⟨[.ref x, .none], []⟩) Q E s := by
  unfold Builtin.«object.__eq__»
  repeat (first | (rw [isSame_none]) | wp_step)
  exact hq
theorem rich_inst_none (FB : CmpFacts B bm) (X : h.CmpInst x C bm) (hu : A.units < cLine) {Q : Value → Shared → Prop} (hq : Q (.bool false) ⟨h, g, d, t, os⟩) : wpAny (model prog w) A (richCompare .Eq (.ref x) .none) Q E ⟨h, g, d, t, os⟩ := by
  obtain ⟨o, nm, q, N, bs, hdct, sn, sub, ab, col, dd, k0, k1, k2, k3, k5, newId, mN, hx, hc, hC, hn, he, _⟩ := X
  have e1 : wpAny (model prog w) A (tryCompare (.ref x) "__eq__" .none) (fun v s => v = none ∧ s = ⟨h, g, d, t, os⟩) E ⟨h, g, d, t, os⟩ := by
    simp only [tryCompare]
    refine wpAny_bind (wpAny_callSpecialIfBound?_inst hx hc hC hn he FB.mro FB.eq (wpAny_call (codeAny_call_builtin FB.eq.plain F.cmpEntry_eq
      (wpAny_check_slot_inst F.cmpKind_eq F.cmpSplit_eq (F.cmpArgs_eq _ _) FB.hasObject hx hc hC (objEq_none ?_)))))
    exact wpAny_pure ⟨rfl, rfl⟩
  have e2 : wpAny (model prog w) A (tryCompare .none "__eq__" (.ref x)) (fun v s => v = none ∧ s = ⟨h, g, d, t, os⟩) E ⟨h, g, d, t, os⟩ :=
    wpAny_tryCompare_declines (T := "NoneType") rfl F.slot_NoneType_eq_refl (call_gives F.slot_NoneType_eq_refl rfl F.entry_NoneType_eq (F.args_NoneType_eq_2 _ _) none_eq_ref ⟨rfl, rfl, rfl⟩)
  have hsub : isSubtype (.type "NoneType") (.ref C) = pure false := by
    rw [isSubtype_type]
    kernel_rfl
  simp only [richCompare, cmpInfo_Eq, one_none]
  refine wpAny_holding (wpAny_bind (wpAny_cRoomFor hu ?_))
  have ht : wpAny (model prog w) A (typeOf (.ref x)) (fun v s => v = .ref C ∧ s = ⟨h, g, d, t, os⟩) E ⟨h, g, d, t, os⟩ := by
    repeat (first | (with_reducible refine wpAny_loadPart_at hx ?_; rw [hc]) | wp_step)
    exact ⟨rfl, rfl⟩
  refine wpAny_bind (wpAny_mono ht (fun ta s' z => ?_) fun _ _ z => z)
  obtain ⟨rfl, rfl⟩ := z
  refine wpAny_bind (wpAny_typeOf (T := "NoneType") rfl ?_)
  rw [if_pos (by rfl)]
  refine wpAny_bind (wpAny_of_eq hsub ?_)
  simp only [Bool.false_eq_true, if_false, Bool.not_false, if_true]
  refine wpAny_bind (wpAny_mono e1 (fun _ s' z => ?_) fun _ _ z => z)
  obtain ⟨rfl, rfl⟩ := z
  refine wpAny_bind (wpAny_mono e2 (fun _ s' z => ?_) fun _ _ z => z)
  obtain ⟨rfl, rfl⟩ := z
  refine wpAny_bind (wpAny_rule (wpAny_bind (wpAny_of_eq isSame_none (wpAny_pure hq))))
theorem eqAt_none {A : Around} {s : Shared} (FB : CmpFacts B bm) (X : s.heap.CmpInst x C bm) (hu : A.units < cLine) : EqAt A s (.ref x) .none false := fun prog w E Q hq => by
  unfold eqBool
  refine wpAny_holding ?_
  refine wpAny_ite_split (fun hab => absurd (eq_of_beq hab) (by intro z; cases z)) (fun _ => ?_)
  obtain ⟨hh, gg, dd, tk, os⟩ := s
  exact wpAny_bind (rich_inst_none FB X hu (wpAny_truthy_bool hq))
noncomputable abbrev decCls : Obj := excClassObj (Str.ofString "Decimal") (Str.ofString "Decimal") 143 142 [.type "object"] [.type "object"] true [] [] false none none none none (some (.str (Str.ofString "Decimal") 238)) (some (.str (Str.ofString "Decimal") 246)) (some (.bool true)) "object.__new__"
theorem dec_cls {h : Heap} (X : (KF w.params).In h) : h.get? 143 = some decCls := X 143 _ (by kernel_rfl)
theorem dec_ns {h : Heap} (X : (KF w.params).In h) : ∃ mN, h.Ns 142 mN ∧ mN "__eq__" = none ∧ mN "__ne__" = none := by
  have G := Heap.Ns.of_isNs (isNs_of_in X (N := 142) (by kernel_rfl))
  exact ⟨_, G, ns_none_of X G (by kernel_rfl), ns_none_of X G (by kernel_rfl)⟩
section
variable {s : Shared} {h₀ : Heap} {L l : Addr} {m : Str → Option Value} {news : Led} {n : Nat} {vs : List Value}
theorem dec_eq_none {D : DecL} (X : (KF w.params).In s.heap) (N : News h₀ L s.heap news) (hD : Sub (decL w D) news) (hu : A.units < cLine) : EqAt A s (.ref D.x) .none false := by
  obtain ⟨mN, n0, n1, n2⟩ := dec_ns X
  exact eqAt_none PySem.F.cmp_object ⟨_, _, _, _, _, _, _, _, _, _, _, _, _, _, _, _, _, mN, (N _ (dec_x hD)).1, rfl, dec_cls X, n0, n1, n2⟩ hu
theorem in_none {Q : Value → Shared → Prop} (F : Fr h₀ L s.heap m) (X : (KF w.params).In h₀) (N : News h₀ L s.heap news) (hm : (l, listOf vs.toArray n) ∈ news) (hv : ∀ v ∈ vs, v = .none ∨ ∃ D, v = .ref (DecL.x D) ∧ Sub (decL w D) news) (hu : A.in1.units < cLine)
    (h : Q (.bool (vs.any (· == .none))) s) : wpAny (model prog w) A (compareOp .In .none (.ref l)) Q E s := by
  refine in_listAt (fun v => v == .none) (N.isList hm) (fun y hy => ?_) (by simpa using h)
  rcases hv y (by simpa using hy) with rfl | ⟨D, rfl, hD⟩
  · exact EqAt.same _
  · exact dec_eq_none (X.keeps F.keep) N hD hu
end
end

end
section
open PySem PySem.W PyProof.Rows PySem.Calls PySem.Spec

section
variable {w : World} {mean : ExcName → Option Value} {mg mb : Str → Option Value}



theorem KX8setup1 : True := by
  k_with "call ref" => ((k_here; (with_reducible show wpAny _ _ (call (Value.ref 182) _) _ _ _); k_dflt (refine' (c_over _ _ ?hTSw212 ?hSw212 ?hbbw212 ?h0w212 ?hp0w212 ?hpw212) _ _ _ _ _ _ _ _ _ _ _ _ _ _ _ _ _ _ ?kB ?kF ?kX ?kN ?kT ?kK ?kpw212 ?kd ?ku ?_; k_extra "sid"; (case kpw212 => refine' ⟨?kpaw212, ?kpbw212⟩; (case kpaw212 => k_extra "my num"); (case kpbw212 => k_extra "my num")); (case hTSw212 => with_reducible assumption); (case hSw212 => with_reducible assumption); (case h0w212 => with_reducible assumption); (case hp0w212 => with_reducible assumption); (case hpw212 => with_reducible assumption); (case hbbw212 => first | decide | omega); k_whole; intro D9 ok9 h9 tk9 F9 N9; (try k_sweep))))
  trivial




theorem KX8setup2 : True := by
  k_with "CompEnd" => ((k_dflt (refine' compEnd_0 ?Fw213 ?Nw213 ?offw213 ?srcw213 ?_; (case Fw213 => k_asm); (case Nw213 => k_asm); (case offw213 => assumption); (case srcw213 => lcg_src))))
  k_with "CompEnd" => ((k_dflt (refine' compEnd_ext ?Fw214 ?Nw214 ?fw214 ?offw214 ?srcw214 ?_; (case Fw214 => k_asm); (case Nw214 => k_asm); (case fw214 => with_reducible assumption); (case offw214 => assumption); (case srcw214 => lcg_src))))
  k_with "call ref" => ((k_here; (with_reducible show wpAny _ _ (call (Value.ref 196) _) _ _ _); k_dflt (refine' (c_exact_overR ?hbbw215 ?h0w215) _ _ _ _ _ _ _ _ _ _ _ _ _ _ _ _ _ _ ?kB ?kF ?kX ?kN ?kT ?kK ?kpw215 ?kd ?ku ?_; k_extra "sid"; (case kpw215 => refine' ⟨?kpaw215, ?kpbw215⟩; (case kpaw215 => k_extra "my num"); (case kpbw215 => k_extra "my num")); (case h0w215 => with_reducible assumption); (case hbbw215 => omega); k_whole; intro v9 e9 r9 f9 h9 tk9 F9 N9; (try k_sweep))))
  k_with "exec Assign cons ListComp" => ((k_here; lcf_look; k_dflt (refine LCg.Assign_ListComp_U (F₀ := by k_asm) (by rfl) (by with_unfolding_all rfl) (by with_unfolding_all rfl) (by decide) (by rfl) (by decide) (by rfl) (by rfl) (by rfl) ?_)))
  trivial
theorem store_cellD {M : Model} {A : Around} {E : Value → Shared → Prop} {s : Shared} {h₀ : Heap} {L a : Addr} {m : Str → Option Value} {cn : Str} {cs : Scope} {ccd : Value} {cl : List (Str × Addr)} {x : Str} {v : Value} {Q : Unit → Shared → Prop} {news : Led} {c : Addr} {o : Obj} {v₀ : Option Value} {D : DecL}
    (F : Fr h₀ L s.heap m) (N : News h₀ L s.heap (decL w D ++ (c, o) :: news)) (hc : cl.lookup x = some c) (hd : o.data = .cell v₀) (l1 : ∀ p ∈ news, p.1 < L) (hL : L < c)
    (h : ∀ h' o', Fr h₀ L h' m → News h₀ L h' (decL w D ++ (c, o') :: news) → o'.data = .cell (some v) → Q () { s with heap := h' })
    (hk : cs.kind = .function) (hx : (envX cn cs L a ccd cl).kindOf x = some .cell) : wpAny M A (storeName (envX cn cs L a ccd cl) x v) Q E s := by
  have ho := (N (c, o) (List.mem_append_right _ (.head _))).1
  have e1 := (N (D.x, instObj 143 D.d) (List.mem_append_left _ (by rw [decL_def]; exact .head _))).1
  have e2 := (N (D.d, decObj w D) (List.mem_append_left _ (by rw [decL_def]; exact .tail _ (.head _)))).1
  have n1 : D.x ≠ c := fun z => by rw [z] at e1; dsimp only at e1 ho; rw [← Option.some.inj (e1.symm.trans ho)] at hd; cases hd
  have n2 : D.d ≠ c := fun z => by rw [z] at e2; dsimp only at e2 ho; rw [← Option.some.inj (e2.symm.trans ho)] at hd; cases hd
  refine storeX_C (g := fun o' => decL w D ++ (c, o') :: news) F N hc ?_ hd h hk hx
  rw [decL_def]
  exact .tail n1 (.tail n2 (.head fun p hp => Nat.ne_of_lt (Nat.lt_trans (l1 p hp) hL)))
theorem KX8setup3 : True := by
  k_with "storeName" => ((k_here; k_dflt (refine' store_cellD ?Fw216 ?Nw216 ?cw216 ?dw216 ?lw216 ?lcw216 ?_ ?aw216 ?bw216; (case aw216 => rfl); (case bw216 => rfl); (case Fw216 => k_asm); (case Nw216 => k_asm); (case cw216 => rfl); (case dw216 => k_asm); (case lw216 => assumption); (case lcw216 => exact Nat.lt_succ_self _); k_whole; intro h' o' F' N' d'; (try dsimp only at N'); (try k_sweep))))
  trivial
theorem ExR.val {q : Rat} {b : Nat} {v : Value} {ext news : Led} (r : ExR w q b v ext) (k : Sub ext news) : v = .none ∨ ∃ D, v = .ref (DecL.x D) ∧ Sub (decL w D) news := by
  cases r with
  | no => exact .inl rfl
  | yes D _ _ => exact .inr ⟨D, rfl, k⟩
/-- None, or a number of the ledger -/
theorem ExR.two {q : Rat} {b : Nat} {v : Value} {ext news : Led} (r : ExR w q b v ext) (k : Sub ext news) : (v = .none ∧ ¬ Ends q) ∨ ∃ D, v = .ref (DecL.x D) ∧ Ends q ∧ DecOK D q b ∧ Sub (decL w D) news := by
  cases r with
  | no h => exact .inl ⟨rfl, h⟩
  | yes D h ok => exact .inr ⟨D, rfl, h, ok, k⟩
theorem in_none6 {prog : Program} {A : Around} {E : Value → Shared → Prop} {s : Shared} {h₀ : Heap} {L l : Addr} {m : Str → Option Value} {news e1 e2 e3 e4 e5 e6 : Led} {n : Nat} {v1 v2 v3 v4 v5 v6 : Value} {q1 q2 q3 q4 q5 q6 : Rat} {b1 b2 b3 b4 b5 b6 : Nat} {Q : Value → Shared → Prop}
    (F : Fr h₀ L s.heap m) (X : (KF w.params).In h₀) (N : News h₀ L s.heap news) (hm : (l, listOf [v1, v2, v3, v4, v5, v6].toArray n) ∈ news) (hu : A.in1.units < cLine)
    (r1 : ExR w q1 b1 v1 e1) (r2 : ExR w q2 b2 v2 e2) (r3 : ExR w q3 b3 v3 e3) (r4 : ExR w q4 b4 v4 e4) (r5 : ExR w q5 b5 v5 e5) (r6 : ExR w q6 b6 v6 e6) (k1 : Sub e1 news) (k2 : Sub e2 news) (k3 : Sub e3 news) (k4 : Sub e4 news) (k5 : Sub e5 news) (k6 : Sub e6 news)
    (hN : ¬ (Ends q1 ∧ Ends q2 ∧ Ends q3 ∧ Ends q4 ∧ Ends q5 ∧ Ends q6) → Q (.bool true) s)
    (hY : (Num w news v1 q1 b1 ∧ Num w news v2 q2 b2 ∧ Num w news v3 q3 b3) → (Num w news v4 q4 b4 ∧ Num w news v5 q5 b5 ∧ Num w news v6 q6 b6) → (Ends q1 ∧ Ends q2 ∧ Ends q3 ∧ Ends q4 ∧ Ends q5 ∧ Ends q6) → Q (.bool false) s) :
    wpAny (model prog w) A (compareOp .In .none (.ref l)) Q E s := by
  refine in_none F X N hm (fun v hv => ?_) hu ?_
  · simp only [List.mem_cons, List.not_mem_nil, or_false] at hv
    rcases hv with rfl | rfl | rfl | rfl | rfl | rfl
    · exact r1.val k1
    · exact r2.val k2
    · exact r3.val k3
    · exact r4.val k4
    · exact r5.val k5
    · exact r6.val k6
  · rcases r1.two k1 with ⟨rfl, h⟩ | ⟨D1, rfl, h1, o1, s1⟩
    · exact hN fun z => h z.1
    rcases r2.two k2 with ⟨rfl, h⟩ | ⟨D2, rfl, h2, o2, s2⟩
    · exact hN fun z => h z.2.1
    rcases r3.two k3 with ⟨rfl, h⟩ | ⟨D3, rfl, h3, o3, s3⟩
    · exact hN fun z => h z.2.2.1
    rcases r4.two k4 with ⟨rfl, h⟩ | ⟨D4, rfl, h4, o4, s4⟩
    · exact hN fun z => h z.2.2.2.1
    rcases r5.two k5 with ⟨rfl, h⟩ | ⟨D5, rfl, h5, o5, s5⟩
    · exact hN fun z => h z.2.2.2.2.1
    rcases r6.two k6 with ⟨rfl, h⟩ | ⟨D6, rfl, h6, o6, s6⟩
    · exact hN fun z => h z.2.2.2.2.2
    exact hY ⟨.dec s1 o1, .dec s2 o2, .dec s3 o3⟩ ⟨.dec s4 o4, .dec s5 o5, .dec s6 o6⟩ ⟨h1, h2, h3, h4, h5, h6⟩
theorem KX8setup4 : True := by
  k_with "compareOp In none ref" => ((k_here; k_dflt (refine' in_none6 ?Fw217 ?Xw217 ?Nw217 ?mw217 ?uw217 ?r1w217 ?r2w217 ?r3w217 ?r4w217 ?r5w217 ?r6w217 ?k1w217 ?k2w217 ?k3w217 ?k4w217 ?k5w217 ?k6w217 ?hNw217 ?hYw217; (case Fw217 => k_asm); (case Xw217 => k_asm); (case Nw217 => k_asm); (case mw217 => k_mem); (case uw217 => ktr_units); (case r1w217 => with_reducible assumption); (case r2w217 => with_reducible assumption); (case r3w217 => with_reducible assumption); (case r4w217 => with_reducible assumption); (case r5w217 => with_reducible assumption); (case r6w217 => with_reducible assumption); (case k1w217 => k_extra "my sub"); (case k2w217 => k_extra "my sub"); (case k3w217 => k_extra "my sub"); (case k4w217 => k_extra "my sub"); (case k5w217 => k_extra "my sub"); (case k6w217 => k_extra "my sub")); all_goals (first | (intro n1 n4 aE9; obtain ⟨n1, n2, n3⟩ := n1; obtain ⟨n4, n5, n6⟩ := n4) | intro nE9)))
  k_with "call ref" => ((k_here; (with_reducible show wpAny _ _ (call (Value.ref 292) _) _ _ _); k_dflt (refine' (c_from_array) _ _ _ _ _ _ _ _ _ _ _ _ _ _ _ _ _ _ ?kB ?kF ?kX ?kN ?kT ?kK ?kpw218 ?kd ?ku ?_; k_extra "sid"; (case kpw218 => refine' ⟨?kplw218, ⟨?kpaw218, ?kpbw218, ?kpcw218⟩, ?kpdw218, ?kpew218, ?kpfw218⟩; (case kplw218 => k_mem); (case kpaw218 => k_extra "my num"); (case kpbw218 => k_extra "my num"); (case kpcw218 => k_extra "my num"); (case kpdw218 => k_extra "my num"); (case kpew218 => k_extra "my num"); (case kpfw218 => k_extra "my num")); k_whole; intro M9 ok9 h9 tk9 F9 N9; (try k_sweep))))
  trivial
structure AllEnds (q : Six) (s : Rat) : Prop where
  a : Ends (q.d / s)
  b : Ends (-q.b / s)
  c : Ends (-q.c / s)
  d : Ends (q.a / s)
  e : Ends ((q.d * (((0 : Int) : Rat) - q.e) - q.c * (((0 : Int) : Rat) - q.f)) / s)
  f : Ends ((q.a * (((0 : Int) : Rat) - q.f) - q.b * (((0 : Int) : Rat) - q.e)) / s)
noncomputable abbrev Six.det (q : Six) : Rat := q.a * q.d - q.b * q.c
noncomputable abbrev Six.inv (q : Six) : Six := ⟨q.d / q.det, -q.b / q.det, -q.c / q.det, q.a / q.det, (q.d * (((0 : Int) : Rat) - q.e) - q.c * (((0 : Int) : Rat) - q.f)) / q.det, (q.a * (((0 : Int) : Rat) - q.f) - q.b * (((0 : Int) : Rat) - q.e)) / q.det⟩
set_option maxHeartbeats 1000000 in
theorem c_exact_inverse {M : MatL} {q : Six} {b : Nat} (hb : b ≤ 20) (ok : MatOK M q b) (h0 : q.det ≠ 0) : Ct w mean mg mb 8 (.ref 332) [.ref M.x] (fun news => Sub (matL w M) news)
    (fun Q news => (¬ AllEnds q q.det → Q .none news) ∧ ∀ M', AllEnds q q.det → MatOK M' q.inv (40 * b + 50) → Q (.ref M'.x) (matL w M' ++ news)) := by
  unfold Ct; k_fill; intro dp un gd cn cs a ccd cl outer A₀ base h₀ L m news s Q E B F X N T hk hpre hd hu hret
  have hm := hpre
  have ok2 := ok
  have hma := mat_a hm; have hmb := mat_b hm; have hmc := mat_c hm; have hmd := mat_d' hm; have hme := mat_e hm; have hmf := mat_f hm; obtain ⟨ok2a, ok2b, ok2c, ok2d, ok2e, ok2f⟩ := ok2
  obtain ⟨hretN, hretM⟩ := hret
  refine wpAny_call ?_
  k_dflt (refine' code_defC ?k1 ?k2 ?k3 ?k4 ?k5 ?kA ?kF ?kK ?k6 ?k7 ?k8 ?k9 ?kB ?kD ?_ ?c2 ?c3 ?c4; (case kA => exact rfl); (case kF => exact rfl); (case kK => assumption); (case k1 => k_asm); (case k2 => k_asm); (case k3 => k_asm); (case k4 => k_asm); (case k5 => k_asm); (case k6 => k_is); (case k7 => k_is); (case k8 => ktr_room); (case k9 => exact BindsTo.of_eq rfl); (case kB => exact rfl); (case kD => decide +kernel); (case c2 => exact rfl); (case c3 => exact rfl); (case c4 => exact rfl); k_whole; intro g' L' h' tk' cells' FG' F' N' Y' B' X' T' l1; (try k_lt l1); k_cells Y'; (try simp only [List.cons_append, List.nil_append] at N'); (try dsimp only); (try k_fold); (refine wp_letA ?_); intro A2)
  k_steps
  · (with_reducible rename Fr h₀ L _ m => kF)
    (with_reducible rename News h₀ L _ _ => kN)
    (with_reducible rename ¬ _ => kE)
    exact hretN (fun a => kE ⟨a.a, a.b, a.c, a.d, a.e, a.f⟩) _ _ kF (News.sub kN (by k_extra "my keep"))
  · (with_reducible rename Fr h₀ L _ m => kF)
    (with_reducible rename News h₀ L _ _ => kN)
    (with_reducible rename Ends _ ∧ _ => kA)
    obtain ⟨a1, a2, a3, a4, a5, a6⟩ := kA
    exact hretM _ ⟨a1, a2, a3, a4, a5, a6⟩ (by refine' MatOK.to ?kma rfl ?kmc; (case kma => with_reducible assumption); (case kmc => (refine' le6 ?kx ?kx ?kx ?kx ?ky ?kz; (case kx => omega); (case ky => omega); (case kz => omega)))) _ _ kF (News.sub kN (by k_extra "my keep"))
end

end
section
open PySem PySem.W PyProof.Rows PySem.Calls PySem.Spec
section
variable {M : Model} {A : Around} {E : Value → Shared → Prop} {s s' : Shared} {base g g₂ h₀ h : Heap} {outer l : List Env} {env env' : Env} {L a e : Addr} {m : Str → Option Value} {name : Str} {scope : Scope} {cd cls a0 fl : Value} {cl : List (Str × Addr)} {Q : Unit → Shared → Prop} {news news' : Led} {o : Obj}
theorem note_env {x : Value} (hf : env'.frame = env.frame) : noteFrame x env' = noteFrame x env := by
  unfold noteFrame PySem.frameOf
  rw [hf]
/-- under way, the flight's mark anything -/
noncomputable def FlyAt (base : Heap) (l : List Env) (e : Addr) (news : Led) (fl : Value) (h : Heap) : Prop :=
  ∃ B a0, base.StaysIn B ∧ (∀ q ∈ news, B.get? q.1 = some q.2 ∧ base.get? q.1 = none) ∧ B.StaysIn h ∧ B.get? e = none ∧ h.FunFrames B l ∧ h.TracedAtW B e (.ref 46) a0 fl
theorem flight_any {fr : Option Addr} (hkb : base.StaysIn s.heap) (hl : s.heap.FunFrames base l) (ht : s.heap.TracedAtW base e cls a0 fl)
    (h : ∀ h', base.StaysIn h' → h'.FunFrames base l → h'.TracedAtW base e cls a0 (fr.elim .none fun f => rawInt f) → s.heap.UpToSlots h' → Q () { s with heap := h' }) :
    wpAny M A (setFlight (.ref e) fr) Q E s := by
  obtain ⟨oe, vs, T, oT, ts, he, hcls, hd, h1, hnT, hTe, hT, hdT, h3⟩ := ht
  have hsz3 : 3 < ts.size := (Array.getElem?_eq_some_iff.mp h3).1
  have other : ∀ b, b ≠ T → (s.heap.update T (Obj.mapFields (·.setIfInBounds 3 (fr.elim Value.none fun f => rawInt f)))).get? b = s.heap.get? b := fun b hb => Heap.get?_update_other _ _ (Ne.symm hb)
  have plain : ∀ b o, s.heap.get? b = some o → (∀ vs, o.data ≠ .fields vs) → b ≠ T := fun b o hb hnf q => by
    rw [q, hT] at hb; injection hb with hb; subst hb; exact hnf ts hdT
  unfold setFlight
  refine wpAny_bind (wpAny_field he hd h1 ?_)
  rw [if_pos (show (Value.ref T != Value.none) = true from by simp)]
  refine wpAny_setField hT hdT hsz3 (h _ (fun b o hbo => ?_) (hl.of_keeps fun b o hb hnf => ⟨o, ?_, rfl⟩) ?_ fun b o hb hnf => ⟨o.slots, ?_⟩)
  · rw [other b fun q => by rw [q, hnT] at hbo; cases hbo]
    exact hkb b o hbo
  · rw [other b (plain b o hb hnf)]
    exact hb
  · refine ⟨oe, vs, T, _, _, ?_, hcls, hd, h1, hnT, hTe, Heap.get?_update_self _ hT (Obj.isFreed_of_fields (Obj.data_mapFields hdT _)), Obj.data_mapFields hdT _, by simp [hsz3]⟩
    rw [other e (Ne.symm hTe)]
    exact he
  · rw [other b (plain b o hb hnf)]
    exact hb
theorem note_any (hfr : A.frames = some (env :: outer)) (hf : env.frame = some L) (hfl : FlyAt base (env :: outer) e news fl s.heap)
    (hQ : ∀ h', FlyAt base (env :: outer) e news (rawInt L) h' → s.heap.UpToSlots h' → Q () { s with heap := h' }) : wpAny M A (noteFrame (.ref e) env) Q E s := by
  obtain ⟨B, a0, hB, hl, f1, f2, f3, ht⟩ := hfl
  by_cases hfl : fl = rawInt L
  · subst hfl
    exact wpAny_noteFrame_againW hf ht (hQ s.heap ⟨B, a0, hB, hl, f1, f2, f3, ht⟩ (Heap.UpToSlots.refl _))
  obtain ⟨oe, vs, T, oT, ts, he, ⟨hcls, h0⟩, hd, h1, hnT, hTe, hT, hdT, h3⟩ := ht
  have other : ∀ b, b ≠ T → (s.heap.update T (Obj.mapFields (·.setIfInBounds 3 Value.none))).get? b = s.heap.get? b := fun b hb => Heap.get?_update_other _ _ (Ne.symm hb)
  have plain : ∀ b o, s.heap.get? b = some o → (∀ vs, o.data ≠ .fields vs) → b ≠ T := fun b o hb hnf q => by
    rw [q, hT] at hb; injection hb with hb; subst hb; exact hnf ts hdT
  unfold noteFrame
  simp only [hf]
  refine wpAny_bind (wpAny_field he hd h1 ?_)
  rw [if_pos (show (Value.ref T != Value.none) = true from by simp)]
  refine wpAny_bind (wpAny_field hT hdT h3 ?_)
  rw [if_neg (by intro z; exact hfl (eq_of_beq z))]
  refine wpAny_bind (wpAny_setField hT hdT (Array.getElem?_eq_some_iff.mp h3).1 ?_)
  refine wpAny_entryW (base := B) hfr (f3.of_keeps fun b o hb hnf => ⟨o, ?_, rfl⟩) hf (he := ?_) (fun b o hbo => ?_) f2 hd (Array.getElem?_eq_some_iff.mp h1).1 h0 fun h' ⟨x1, x2, x3, x4⟩ => hQ h' ⟨B, a0, hB, hl, x1, f2, x2, by rw [← hcls]; exact x3⟩ fun b o hb hnf => x4 b o ?_ hnf
  · exact (other b (plain b o hb hnf)).trans hb
  · exact (other e (Ne.symm hTe)).trans he
  · exact (other b fun q => by rw [q, hnT] at hbo; cases hbo).trans (f1 b o hbo)
  · exact (other b (plain b o hb hnf)).trans hb
theorem leave_any (K : Below A base outer g) (R : FlyAt base (envX name scope L a cd cl :: outer) e news fl s'.heap) (F : Fr g L g₂ m) (U : g₂.UpToSlots s'.heap)
    (hQ : ∀ h', FlyM base outer e news h' → g.UpToSlots h' → Q () { s' with heap := h' }) :
    wpAny M (A.deeper (envX name scope L a cd cl)) (leaving (envX name scope L a cd cl) (.ref e)) Q E s' := by
  unfold leaving
  refine wpAny_bind (note_any (Around.frames_deeper K.stack) rfl R fun h1 R1 U1 => ?_)
  obtain ⟨B, a0, hB, hl, f1, f2, f3, ht⟩ := R1
  refine flight_any (l := outer) f1 f3.2.2 ht fun h2 k1 k2 k3 U2 => ?_
  exact hQ h2 ⟨B, a0, hB, hl, k1, f2, k2, k3⟩ ((Heap.UpToSlots.of_keeps F.keep).trans (U.trans (U1.trans U2)))
theorem FlyM.at (R : FlyM base l e news h) : FlyAt base l e news .none h :=
  by obtain ⟨B, a0, h1, h2, f1, f2, f3, f4⟩ := R; exact ⟨B, a0, h1, h2, f1, f2, f3, f4⟩
theorem FlyAt.sub (R : FlyAt base l e news fl h) (k : Sub news' news) : FlyAt base l e news' fl h :=
  by obtain ⟨B, a0, h1, h2, h3⟩ := R; exact ⟨B, a0, h1, fun q hq => h2 q (k.mem q hq), h3⟩
/-- an object of the ledger may change while the exception is under way -/
theorem FlyAt.but {C : Addr} {oC : Obj} {h' : Heap} (R : FlyAt base l e ((C, oC) :: news) fl h) (hs : Heap.SameBut C h h') (off : ∀ q ∈ news, q.1 ≠ C) : FlyAt base l e news fl h' := by
  obtain ⟨B, a0, h1, h2, f1, f2, f3, oe, vs, T, oT, ts, he, hcls, hd, e1, hnT, hTe, hT, hdT, h3⟩ := R
  have hb := (h2 _ (.head _)).1
  have st : (hideAll B [C]).StaysIn h' := fun b o q => by
    have hq := of_hideAll _ q
    have : b ≠ C := fun z => by rw [z, hideAll_none [C] (.head _)] at q; cases q
    exact (hs.2 b this).trans (f1 b o hq)
  have eC : e ≠ C := fun z => by rw [z] at f2; cases f2.symm.trans hb
  have TC : T ≠ C := fun z => by rw [z] at hnT; cases hnT.symm.trans hb
  have none_of : ∀ b, B.get? b = none → (hideAll B [C]).get? b = none := fun b hb' => by
    cases q : (hideAll B [C]).get? b with
    | none => rfl
    | some o => cases hb'.symm.trans (of_hideAll _ q)
  refine ⟨hideAll B [C], a0, fun b o q => hideAll_get _ (h1 b o q) fun hm => ?_, fun q hq => ⟨hideAll_get _ (h2 q (.tail _ hq)).1 fun hm => off q hq (List.mem_singleton.mp hm), (h2 q (.tail _ hq)).2⟩, st, none_of _ f2, ?_,
    oe, vs, T, oT, ts, (hs.2 e eC).trans he, hcls, hd, e1, none_of _ hnT, hTe, (hs.2 T TC).trans hT, hdT, h3⟩
  · rw [List.mem_singleton.mp hm, (h2 _ (.head _)).2] at q
    cases q
  · have go : ∀ l : List Env, h.FunFrames B l → h'.FunFrames (hideAll B [C]) l := fun l => by
      induction l with
      | nil => exact fun _ => trivial
      | cons env r ih =>
        rintro ⟨hk, ⟨L, o, hf, hn, ho, hd⟩, hr⟩
        have LC : L ≠ C := fun z => by rw [z] at hn; cases hn.symm.trans hb
        exact ⟨hk, ⟨L, o, hf, none_of _ hn, (hs.2 L LC).trans ho, hd⟩, ih hr⟩
    exact go _ f3
end
section
variable {prog : Program} {w : World} {A : Around} {E : Value → Shared → Prop} {s : Shared} {base h₀ : Heap} {outer : List Env} {env : Env} {L : Addr} {m : Str → Option Value}
/-- what an element hands on when it raises -/
noncomputable def EltE (base : Heap) (l : List Env) (h₀ : Heap) (L : Addr) (m : Str → Option Value) (s₁ : Shared) (news : Led) (ev : Value) (s' : Shared) : Prop :=
  ∃ e h' tk' g₂, ev = .ref e ∧ s' = { s₁ with heap := h', toks := tk' } ∧ FlyM base l e news h' ∧ Fr h₀ L g₂ m ∧ g₂.UpToSlots h'
theorem EltE.intro {l : List Env} {s₁ : Shared} {news all : Led} {e : Addr} {h' g₂ : Heap} {tk' : Nat} (R : FlyM base l e all h') (k : Sub news all) (F : Fr h₀ L g₂ m) (U : g₂.UpToSlots h') : EltE base l h₀ L m s₁ news (.ref e) { s₁ with heap := h', toks := tk' } :=
  ⟨e, h', tk', g₂, rfl, rfl, R.sub k, F, U⟩
/-- a source whose first element raises -/
noncomputable def RSrc (prog : Program) (w : World) (A : Around) (base h₀ : Heap) (l : List Env) (L : Addr) (m : Str → Option Value) (env : Env) (elt : PySem.Expr) (x : Str) (scope : Scope) (cl : List (Str × Addr)) (E : Value → Shared → Prop) (xv : Value) (s₁ : Shared) : Prop :=
  ∃ ax its k v news, xv = .ref ax ∧ A.handled = none ∧ Fr h₀ L s₁.heap m ∧ News h₀ L s₁.heap news ∧ (ax, listOf (v :: its).toArray k) ∈ news ∧ (v :: its).length ≤ sizeLine ∧
    (∀ I oI C oC D m₂ h tk, LCg.NsObj oC m₂ → m₂ x = some v → Fr h₀ L h m → News h₀ L h ((I, oI) :: (C, oC) :: (D, LCg.lst []) :: news) →
      wpAny (model prog w) A (eval elt (compEnvC scope cl C env)) (fun _ _ => False) (EltE base l h₀ L m s₁ ((C, oC) :: news)) { s₁ with heap := h, toks := tk }) ∧
    (∀ e h' tk' fl g₂, FlyAt base l e news fl h' → Fr h₀ L g₂ m → g₂.UpToSlots h' → E (.ref e) { s₁ with heap := h', toks := tk' })
theorem RSrc.intro {l : List Env} {elt : PySem.Expr} {x : Str} {scope : Scope} {cl : List (Str × Addr)} {ax : Addr} {its : List Value} {k : Nat} {v : Value} {news : Led} {s₁ : Shared} (hh : A.handled = none) (F : Fr h₀ L s₁.heap m) (N : News h₀ L s₁.heap news) (hm : (ax, listOf (v :: its).toArray k) ∈ news) (hz : (v :: its).length ≤ sizeLine)
    (h1 : ∀ I oI C oC D m₂ h tk, LCg.NsObj oC m₂ → m₂ x = some v → Fr h₀ L h m → News h₀ L h ((I, oI) :: (C, oC) :: (D, LCg.lst []) :: news) →
      wpAny (model prog w) A (eval elt (compEnvC scope cl C env)) (fun _ _ => False) (EltE base l h₀ L m s₁ ((C, oC) :: news)) { s₁ with heap := h, toks := tk })
    (h2 : ∀ e h' tk' fl g₂, FlyAt base l e news fl h' → Fr h₀ L g₂ m → g₂.UpToSlots h' → E (.ref e) { s₁ with heap := h', toks := tk' }) :
    RSrc prog w A base h₀ l L m env elt x scope cl E (.ref ax) s₁ := ⟨ax, its, k, v, news, rfl, hh, F, N, hm, hz, h1, h2⟩
theorem ne2 {b I : Nat} (h : b < I) : b ≠ I + 2 := by lia
theorem ne1 {b I : Nat} (h : b < I) : b ≠ I + 1 := by lia
theorem ne02 {I : Nat} : I ≠ I + 2 := by lia
theorem ne12 {I : Nat} : I + 1 ≠ I + 2 := by lia
theorem ne01 {I : Nat} : I ≠ I + 1 := by lia
theorem not_le {a I : Nat} (h : a < I) (k : I ≤ a) : False := by lia
theorem comp_raise {elt iter : PySem.Expr} {x y : Str} {px py : Pos} {scope : Scope} {cl : List (Str × Addr)} {pos spos : Pos} {Q : Flow → Shared → Prop} (hA : A.frames = some (env :: outer)) (hfr : env.frame = some L) (hLe : env.locals = L) (_F₀ : Fr h₀ L s.heap m)
    (hsw : swapsWith (.ListComp elt [⟨.Name x px, iter, [], 0⟩] scope pos) (some (.Name y py)) spos.line env = pure true)
    (hclos : closureFor scope env = pure cl) (hcell : ∀ z ∈ scope.names, z.2 ≠ .cell) (hkind : scope.kind = .function)
    (hnames : ∀ z ∈ scope.names, z.2 = .local → scope.names.lookup z.1 = some .local) (hx : scope.names.lookup x = some .local)
    (h : wpAny (model prog w) A (eval iter env) (RSrc prog w A base h₀ (env :: outer) L m env elt x scope cl E) E s)
    (hs : ∀ x, foldedSetIterable iter env x = pure x) :
    wpAny (model prog w) A (exec (.Assign [.Name y py] (.ListComp elt [⟨.Name x px, iter, [], 0⟩] scope pos) spos) env) Q E s := by
  subst hLe
  rw [exec_Assign_Name_used _ _ _ _ hsw]
  refine wpAny_bind (wpAny_standAt (wpAny_bind ?_))
  show wpAny _ A (do let _ ← comprehension (.ListComp elt [⟨.Name x px, iter, [], 0⟩] scope pos) scope env _ (newList []) false (eval iter env) (some (assign (.Name y py) env))) _ _ s
  refine wpAny_bind (wpAny_mono (wpAny_comprehension_free (use := some (assign (.Name y py) env)) (Q := fun _ s' => Q .next s') rfl hs hclos hkind hnames
    (wpAny_mono h (fun xv s₁ h₁ => ?_) fun _ _ e => e)) (fun _ s' hq => wpAny_pure (wpAny_pure hq)) fun _ _ e => e)
  obtain ⟨ax, its, k, v, news, rfl, hh, F, N, S, hsz, h1, h2⟩ := h₁
  have hl : s₁.heap.IsList ax (v :: its).toArray := N.isList S
  have hlt : ax < s₁.heap.objs.size := by obtain ⟨_, e, _⟩ := hl; exact Heap.lt_size e
  refine wpAny_pyIter_list hl ?_
  refine wpAny_newObj_type (wpAny_newFunctionEnv hcell (by intro y hy; simp at hy) (fun h₁ hns₁ hsb₁ => ?_) hkind)
  dsimp only at hns₁ hsb₁ ⊢
  generalize hI : s₁.heap.objs.size = I at hns₁ hsb₁ ⊢
  generalize hH1 : s₁.heap.push { cls := .type "list_iterator", data := .fields #[.ref ax, .int 0 0] } = H1 at hns₁ hsb₁ ⊢
  generalize hH2 : H1.push { cls := .type "list", dict := none, data := .seq ([] : List Value).toArray } = H2 at hns₁ hsb₁ ⊢
  have z1 : H1.objs.size = I + 1 := by rw [← hH1, Heap.size_push, hI]
  have z2 : H2.objs.size = I + 2 := by rw [← hH2, Heap.size_push, z1]
  rw [z2] at hns₁ hsb₁ ⊢
  rw [z1]
  have up1 : ∀ b o, s₁.heap.get? b = some o → b < I := fun b o e => hI ▸ Heap.lt_size e
  have old : ∀ b o, s₁.heap.get? b = some o → h₁.get? b = some o := fun b o e => by
    refine hsb₁.extBut b o (ne2 (up1 b o e)) (Heap.get?_push_of_some _ ?_)
    rw [← hH2]
    refine Heap.get?_push_of_some _ ?_
    rw [← hH1]
    exact Heap.get?_push_of_some _ e
  have hIt : h₁.get? I = some { cls := .type "list_iterator", data := .fields #[.ref ax, .int 0 0] } := by
    refine hsb₁.extBut I _ ne02 (Heap.get?_push_of_some _ ?_)
    rw [← hH2]
    refine Heap.get?_push_of_some _ ?_
    rw [← hH1, ← hI]
    exact Heap.get?_push_size _ rfl
  have hacc : h₁.get? (I + 1) = some (LCg.lst []) := by
    refine hsb₁.extBut _ _ ne12 (Heap.get?_push_of_some _ ?_)
    rw [← hH2, ← z1]
    exact Heap.get?_push_size _ rfl
  have fresh₀ : ∀ a, I ≤ a → h₀.get? a = none := fun a ha => by
    cases e : h₀.get? a with
    | none => rfl
    | some o' => exact (not_le (up1 _ _ (F.keep a o' e)) ha).elim
  have hLlt : env.locals < I := hI ▸ F.ns.lt
  have offs : ∀ q ∈ news, q.1 < I := fun q hq => up1 _ _ (N q hq).1
  have W := Walks.list (prog := prog) (w := w) hh I ax (Nat.ne_of_lt (hI ▸ hlt)) (v :: its).toArray
  have hst₁ : h₁.IsListIter I ax 0 ∧ h₁.IsList ax (v :: its).toArray := ⟨⟨_, hIt, rfl, rfl⟩, by obtain ⟨o, e, r⟩ := hl; exact ⟨o, old _ _ e, r⟩⟩
  have loop : codeAny (model prog w) A (.compLoop (.ListComp elt [⟨.Name x px, iter, [], 0⟩] scope pos) 0 (.ref I) (.ref (I + 1)) (compEnvC scope cl (I + 2) env))
      (compPost (model prog w) A E (some (assign (Expr.Name y py) env)) (fun _ s' => Q Flow.next s') (.ref (I + 1)) (I + 2)) { s₁ with heap := h₁, toks := s₁.toks + ([] : List (Str × Value)).length } := by
    refine codeAny_compLoop_tests (fun k s' => k = 1 ∧ s' = { s₁ with heap := h₁, toks := s₁.toks + ([] : List (Str × Value)).length }) ?_ 1 ⟨rfl, rfl⟩
    rintro k' s' ⟨rfl, rfl⟩
    refine W.item 0 _ _ _ (by simp) hst₁ fun v' h₂ tk₂ hPv hst₂ hk₂ => ?_
    obtain rfl : v' = v := by simpa using hPv.symm
    refine wpAny_assign_Name (wpAny_storeName_local (lookup_relabel_local hx) (hns₁.at' fun o e => hk₂ _ o (by simpa using ne02.symm) e) (fun h₃ hn₃ hs₃ => ?_) (by simp [compEnvC, relabel, hkind]))
    refine wpAny_tests_nil ?_
    simp only [if_true]
    obtain ⟨oC, heC, hoC⟩ := LCg.ns_obj hn₃
    have hk₃ : ∀ b o, b ≠ I → b ≠ I + 2 → h₁.get? b = some o → h₃.get? b = some o := fun b o n1 n2 e => hs₃.extBut b o n2 (hk₂ b o (by simpa using n1) e)
    obtain ⟨oI, heI, -, -⟩ := hst₂.1
    have heI₃ : h₃.get? I = some oI := hs₃.extBut I _ ne02 heI
    have F₃ : Fr h₀ env.locals h₃ m := by
      refine ⟨?_, fun b o e => hk₃ b o (Nat.ne_of_lt (up1 _ _ (F.keep b o e))) (ne2 (up1 _ _ (F.keep b o e))) (old _ _ (F.keep b o e)), F.above⟩
      obtain ⟨ob, es, ep, e1, r⟩ := F.ns
      exact ⟨ob, es, ep, hk₃ _ _ (Nat.ne_of_lt hLlt) (ne2 hLlt) (old _ _ e1), r⟩
    have N₃ : News h₀ env.locals h₃ ((I, oI) :: (I + 2, oC) :: (I + 1, LCg.lst []) :: news) := fun q hq => by
      simp only [List.mem_cons] at hq
      rcases hq with rfl | rfl | rfl | hq
      · exact ⟨heI₃, Nat.ne_of_gt hLlt, fresh₀ _ (Nat.le_refl _)⟩
      · exact ⟨heC, (ne2 hLlt).symm, fresh₀ _ (Nat.le_add_right _ _)⟩
      · exact ⟨hk₃ _ _ ne01.symm ne12 hacc, (ne1 hLlt).symm, fresh₀ _ (Nat.le_add_right _ _)⟩
      · obtain ⟨n1, n2, n3⟩ := N q hq
        exact ⟨hk₃ _ _ (Nat.ne_of_lt (offs q hq)) (ne2 (offs q hq)) (old _ _ n1), n2, n3⟩
    refine wpAny_mono (h1 I oI (I + 2) oC (I + 1) _ h₃ _ hoC (by simp) F₃ N₃) (fun _ _ z => z.elim) (fun ev s' hE => ?_)
    obtain ⟨e, h', tk', g₂, rfl, rfl, R, F', U⟩ := hE
    show wpAny _ A (noteFrame (.ref e) (compEnvC scope cl (I + 2) env)) _ _ _
    rw [note_env (env' := compEnvC scope cl (I + 2) env) (env := env) rfl]
    refine note_any hA hfr R.at (fun h'' R2 U2 => ?_)
    have hgC : h''.get? (I + 2) = some oC := by
      obtain ⟨B, a0, k1, k2, k3, k4⟩ := R2
      exact k3 _ _ (k2 _ (.head _)).1
    refine ⟨_, hoC.ns hgC, fun h3 hs cenv hc => ?_⟩
    have R3 := R2.but hs fun q hq => ne2 (offs q hq)
    have F3 : Fr h₀ env.locals (hideAll g₂ [I + 2]) m := by
      refine ⟨?_, fun b o e => hideAll_get _ (F'.keep b o e) fun hm => ?_, F'.above⟩
      · obtain ⟨ob, es, ep, e1, r⟩ := F'.ns
        exact ⟨ob, es, ep, hideAll_get _ e1 fun hm => ne2 hLlt (List.mem_singleton.mp hm), r⟩
      · rw [List.mem_singleton.mp hm, fresh₀ _ (Nat.le_add_right _ _)] at e
        cases e
    have U3 : (hideAll g₂ [I + 2]).UpToSlots h3 := fun b o hb hn => by
      have hbC : b ≠ I + 2 := fun z => by rw [z, hideAll_none [I + 2] (.head _)] at hb; cases hb
      obtain ⟨sl, e1⟩ := (U.trans U2) b o (of_hideAll _ hb) hn
      exact ⟨sl, (hs.2 b hbC).trans e1⟩
    obtain ⟨B, a0, k1, k2, k3, k4, k5, oe, vs, T, oT, ts, he, hcls, hd, e1, hT⟩ := R3
    unfold PySem.passOn
    refine wpAny_bind (wpAny_field he hd e1 ?_)
    rw [if_neg (by simp)]
    refine wpAny_bind (flight_any k3 k5 ⟨oe, vs, T, oT, ts, he, hcls, hd, e1, hT⟩ fun h4 j1 j2 j3 U4 => ?_)
    exact wpAny_throw (h2 e h4 _ _ _ ⟨B, a0, k1, k2, j1, k4, j2, j3⟩ F3 (U3.trans U4))
  exact codeAny_compStart_list loop (W.self 0 _ _ _ hst₁ loop)
end

end
section
open PySem PySem.W PyProof.Rows PySem.Calls PySem.Spec

theorem KX9setup1 : True := by
  k_with "storeName" => ((k_here; (first | (with_reducible show wpAny _ _ (storeName (envOf _ _ _ _ _) _ _) _ _ _) | (with_reducible show wpAny _ _ (storeName (envX _ _ _ _ _ _) _ _) _ _ _)); k_dflt (refine' stL ?Fw219 ?Nw219 ?aw219 ?_; (case aw219 => (refine' NmOk.mk ?na1w219 ?na2w219 ?na3w219; (case na1w219 => rfl); (case na2w219 => rfl); (case na3w219 => decide))); (case Fw219 => with_reducible assumption); (case Nw219 => with_reducible assumption); k_whole; intro m9 h' tk9 F' N'; (try k_sweep))))
  trivial
section
variable {w : World} {mean : ExcName → Option Value} {mg mb : Str → Option Value}







theorem KX9setup2 : True := by
  k_with "storeName" => ((k_here; k_dflt (refine' store_cellD ?Fw220 ?Nw220 ?cw220 ?dw220 ?lw220 ?lcw220 ?_ ?aw220 ?bw220; (case aw220 => rfl); (case bw220 => rfl); (case Fw220 => k_asm); (case Nw220 => k_asm); (case cw220 => rfl); (case dw220 => k_asm); (case lw220 => assumption); (case lcw220 => exact Nat.lt_succ_self _); k_whole; intro h' o' F' N' d'; (try dsimp only at N'); (try k_sweep))))
  trivial
section
theorem KX9setup3 : True := by
  k_with "call ref" => ((k_here; (with_reducible show wpAny _ _ (call (Value.ref 196) _) _ _ _); k_dflt (refine' CtR.use (r_exact_over ?hbbw221 ?h0w221) ?kB ?kF ?kX ?kN ?kT ?kK ?kpw221 ?kd ?ku ?_; k_extra "sid"; (case kpw221 => refine' ⟨?kpaw221, ?kpbw221⟩; (case kpaw221 => k_extra "my num"); (case kpbw221 => k_extra "my num")); (case h0w221 => with_reducible assumption); (case hbbw221 => first | decide | omega); k_whole; intro e9 h9 tk9 g9 R9 F9 U9; (try dsimp only at R9 F9 U9 ⊢); (try k_sweep))))
  trivial
theorem comp_raiseK {prog : Program} {A₁ : Around} {E : Value → Shared → Prop} {s : Shared} {base h₀ g : Heap} {outer : List Env} {env : Env} {L : Addr} {m : Str → Option Value} {elt iter : PySem.Expr} {x y : Str} {px py : Pos} {scope : Scope} {cl : List (Str × Addr)} {pos spos : Pos} {Q : Flow → Shared → Prop}
    (K : Below A₁ base outer g) (hfr : env.frame = some L) (hLe : env.locals = L) (F₀ : Fr h₀ L s.heap m)
    (hsw : swapsWith (.ListComp elt [⟨.Name x px, iter, [], 0⟩] scope pos) (some (.Name y py)) spos.line env = pure true)
    (hclos : closureFor scope env = pure cl) (hcell : ∀ z ∈ scope.names, z.2 ≠ .cell) (hkind : scope.kind = .function)
    (hnames : ∀ z ∈ scope.names, z.2 = .local → scope.names.lookup z.1 = some .local) (hx : scope.names.lookup x = some .local) (hs : ∀ x, foldedSetIterable iter env x = pure x)
    (h : wpAny (model prog w) (A₁.deeper env) (eval iter env) (RSrc prog w (A₁.deeper env) base h₀ (env :: outer) L m env elt x scope cl E) E s) :
    wpAny (model prog w) (A₁.deeper env) (exec (.Assign [.Name y py] (.ListComp elt [⟨.Name x px, iter, [], 0⟩] scope pos) spos) env) Q E s :=
  comp_raise (Around.frames_deeper K.stack) hfr hLe F₀ hsw hclos hcell hkind hnames hx h hs
theorem KX9setup4 : True := by
  k_with "exec Assign cons ListComp" => ((k_here; k_dflt (refine' comp_raiseK ?Kw222 ?c1w222 ?c2w222 ?F0w222 ?c3w222 ?c4w222 ?c5w222 ?c6w222 ?c7w222 ?c8w222 ?c9w222 ?_; (case Kw222 => k_asm); (case c1w222 => rfl); (case c2w222 => rfl); (case F0w222 => k_asm); (case c3w222 => with_unfolding_all rfl); (case c4w222 => with_unfolding_all rfl); (case c5w222 => decide); (case c6w222 => rfl); (case c7w222 => decide); (case c8w222 => with_unfolding_all rfl); (case c9w222 => intro _; rfl); k_whole)))
  k_with "RSrc" => ((k_here; k_dflt (refine' RSrc.intro ?h0w223 ?Fw223 ?Nw223 ?hmw223 ?hzw223 ?h1w223 ?h2w223; (case h0w223 => rfl); (case Fw223 => k_asm); (case Nw223 => k_asm); (case hmw223 => k_mem); (case hzw223 => size_fits)); all_goals (first | (intro I' oI' C' oC' D' m2' h' tk' hC' hx' F' N') | (intro e' h' tk' fl' g2' R' F' U'))))
  k_with "EltE" => ((k_dflt (refine' EltE.intro ?Rw224 ?kw224 ?Fw224 ?Uw224; (case Rw224 => with_reducible assumption); (case Fw224 => with_reducible assumption); (case Uw224 => with_reducible assumption); (case kw224 => k_extra "my keep"))))
  k_with "leaving ref" => ((k_here; k_dflt (refine' leave_any ?Kw225 ?Rw225 ?Fw225 ?Uw225 ?_; (case Rw225 => assumption); (case Kw225 => assumption); (case Uw225 => with_reducible assumption); (case Fw225 => with_reducible assumption); k_whole; intro h' R' U'; (try dsimp only at R' U' ⊢))))
  trivial
set_option maxHeartbeats 1000000 in
theorem r_exact_inverse {M : MatL} {q : Six} {b : Nat} (hb : b ≤ 20) (ok : MatOK M q b) (h0 : q.a * q.d - q.b * q.c = 0) : CtR w mean mg mb 8 (.ref 332) [.ref M.x] (fun news => Sub (matL w M) news) := by
  unfold CtR; k_fill; intro dp un gd cn cs a ccd cl outer A₀ base h₀ L m news s Q E B F X N T hk hpre hd hu hret
  have hm := hpre
  have ok2 := ok
  have hma := mat_a hm; have hmb := mat_b hm; have hmc := mat_c hm; have hmd := mat_d' hm; have hme := mat_e hm; have hmf := mat_f hm; obtain ⟨ok2a, ok2b, ok2c, ok2d, ok2e, ok2f⟩ := ok2
  refine wpAny_call ?_
  k_dflt (refine' code_defC ?k1 ?k2 ?k3 ?k4 ?k5 ?kA ?kF ?kK ?k6 ?k7 ?k8 ?k9 ?kB ?kD ?_ ?c2 ?c3 ?c4; (case kA => exact rfl); (case kF => exact rfl); (case kK => assumption); (case k1 => k_asm); (case k2 => k_asm); (case k3 => k_asm); (case k4 => k_asm); (case k5 => k_asm); (case k6 => k_is); (case k7 => k_is); (case k8 => ktr_room); (case k9 => exact BindsTo.of_eq rfl); (case kB => exact rfl); (case kD => decide +kernel); (case c2 => exact rfl); (case c3 => exact rfl); (case c4 => exact rfl); k_whole; intro g' L' h' tk' cells' FG' F' N' Y' B' X' T' l1; (try k_lt l1); k_cells Y'; (try simp only [List.cons_append, List.nil_append] at N'); (try dsimp only); (try k_fold); (refine wp_letA ?_); intro A2)
  k_steps
  · refine' EltE.intro ?kR ?kk ?kF ?kU
    (case kR => assumption)
    (case kF => assumption)
    (case kU => assumption)
    (case kk => k_extra "my keep")
  all_goals ((with_reducible rename FlyM base (envX cn cs L a ccd cl :: outer) _ _ _ => kR); (with_reducible rename Heap.UpToSlots g' _ => kU); (with_reducible rename Fr h₀ L _ m => kG); exact hret _ _ _ _ (FlyM.sub kR (by k_extra "my keep")) kG kU)
end
end

end
section
open PySem PySem.W PyProof.Rows PySem.Calls PySem.Spec
section
open Classical in
/-- a ground of n places: the base, and the frames as they stand in h -/
noncomputable def mkG (base h : Heap) (fs : List Addr) (n : Nat) : Heap :=
  ⟨Array.ofFn fun i : Fin n => ((if (i.1 : Nat) ∈ (fs : List Nat) then h.get? i.1 else base.get? i.1)).getD { cls := .none, data := .freed }, {}⟩
theorem mkG_size {base h : Heap} {fs : List Addr} {n : Nat} : (mkG base h fs n).objs.size = n := by
  show (Array.ofFn _).size = n
  rw [Array.size_ofFn]
theorem get_not_freed {h : Heap} {b : Addr} {o : Obj} (e : h.get? b = some o) : o.isFreed = false := (Heap.get?_some_iff.mp e).2
open Classical in
theorem mkG_get {base h : Heap} {fs : List Addr} {n : Nat} {b : Addr} (hb : @LT.lt Nat _ b n) : (mkG base h fs n).get? b = if (b : Nat) ∈ (fs : List Nat) then h.get? b else base.get? b := by
  have e : (mkG base h fs n).objs[b]? = some (((if (b : Nat) ∈ (fs : List Nat) then h.get? b else base.get? b)).getD { cls := .none, data := .freed }) := by
    show (Array.ofFn _)[b]? = _
    rw [Array.getElem?_ofFn, dif_pos hb]
  cases q : (if (b : Nat) ∈ (fs : List Nat) then h.get? b else base.get? b) with
  | none =>
    rw [q] at e
    unfold Heap.get?
    rw [e]
    rfl
  | some o =>
    rw [q] at e
    refine Heap.get?_some_iff.mpr ⟨e, ?_⟩
    by_cases hm : (b : Nat) ∈ (fs : List Nat)
    · rw [if_pos hm] at q; exact get_not_freed q
    · rw [if_neg hm] at q; exact get_not_freed q
theorem mkG_none {base h : Heap} {fs : List Addr} {n : Nat} {b : Addr} (hb : ¬ @LT.lt Nat _ b n) : (mkG base h fs n).get? b = none := Heap.get?_none_of_le (by rw [mkG_size]; exact Nat.not_lt.mp hb)
theorem mkG_fs {base h : Heap} {fs : List Addr} {n : Nat} {b : Addr} (hb : @LT.lt Nat _ b n) (hm : b ∈ fs) : (mkG base h fs n).get? b = h.get? b := by
  rw [mkG_get hb, if_pos hm]
theorem mkG_base {base h : Heap} {fs : List Addr} {n : Nat} {b : Addr} (hb : @LT.lt Nat _ b n) (hm : b ∉ fs) : (mkG base h fs n).get? b = base.get? b := by
  rw [mkG_get hb, if_neg hm]
theorem mkG_cases {base h : Heap} {fs : List Addr} {n : Nat} {b : Addr} {o : Obj} (e : (mkG base h fs n).get? b = some o) : (b ∈ fs ∧ h.get? b = some o) ∨ (b ∉ fs ∧ base.get? b = some o) := by
  by_cases hb : @LT.lt Nat _ b n
  · by_cases hm : b ∈ fs
    · exact .inl ⟨hm, by rw [← mkG_fs hb hm]; exact e⟩
    · exact .inr ⟨hm, by rw [← mkG_base hb hm]; exact e⟩
  · rw [mkG_none hb] at e; cases e
end
noncomputable abbrev framesOf (l : List Env) : List Addr := l.filterMap (·.frame)
/-- another ground below the same frames: their slots may be others -/
structure GroundOf (base : Heap) (l : List Env) (g g' : Heap) : Prop where
  stays : base.StaysIn g'
  frames : g'.FunFrames base l
  same : ∀ b ∈ framesOf l, ∀ o, g.get? b = some o → ∃ sl, g'.get? b = some { o with slots := sl }
theorem GroundOf.refl {A : Around} {base g : Heap} {l : List Env} (K : Below A base l g) : GroundOf base l g g := ⟨K.stays, K.frames, fun _ _ o e => ⟨o.slots, e⟩⟩
theorem GroundOf.below {A : Around} {base g g' : Heap} {l : List Env} (K : Below A base l g) (G : GroundOf base l g g') : Below A base l g' := ⟨K.stack, G.stays, G.frames⟩
theorem GroundOf.trans {base g g' g'' : Heap} {l : List Env} (G : GroundOf base l g g') (G' : GroundOf base l g' g'') : GroundOf base l g g'' :=
  ⟨G'.stays, G'.frames, fun b hb o e => let ⟨_, e1⟩ := G.same b hb o e; let ⟨sl, e2⟩ := G'.same b hb _ e1; ⟨sl, e2⟩⟩
/-- a ground made of the base and the frames as they stand in h -/
theorem ground_made {A : Around} {base g h B : Heap} {l : List Env} (K : Below A base l g) (hB : base.StaysIn B) (hf : h.FunFrames B l) (U : ∀ b ∈ framesOf l, ∀ o, g.get? b = some o → (∀ vs, o.data ≠ .fields vs) → ∃ sl, h.get? b = some { o with slots := sl }) : GroundOf base l g (mkG base h (framesOf l) g.objs.size) := by
  have lt : ∀ b ∈ framesOf l, @LT.lt Nat _ b g.objs.size := fun b hb => by
    obtain ⟨_, o, ho, _⟩ := K.frames.mem hb
    exact Heap.lt_size ho
  refine ⟨fun b o e => ?_, ?_, fun b hb o e => ?_⟩
  · have hm : b ∉ framesOf l := fun hm => by rw [(K.frames.mem hm).1] at e; cases e
    rw [mkG_base (Heap.lt_size (K.stays b o e)) hm]
    exact e
  · have go : ∀ r : List Env, (∀ b ∈ framesOf r, b ∈ framesOf l) → h.FunFrames B r → (mkG base h (framesOf l) g.objs.size).FunFrames base r := fun r => by
      induction r with
      | nil => exact fun _ _ => trivial
      | cons env r ih =>
        rintro hin ⟨hk, ⟨L, o, hf, hn, ho, hd⟩, hr⟩
        have hm : L ∈ framesOf l := hin L (List.mem_filterMap.mpr ⟨env, .head _, hf⟩)
        refine ⟨hk, ⟨L, o, hf, fresh_of_stays hB hn, by rw [mkG_fs (lt L hm) hm]; exact ho, hd⟩, ih (fun b hb => hin b ?_) hr⟩
        obtain ⟨e, he, hfe⟩ := List.mem_filterMap.mp hb
        exact List.mem_filterMap.mpr ⟨e, .tail _ he, hfe⟩
    exact go l (fun _ h => h) hf
  · obtain ⟨_, o', ho', hnf⟩ := K.frames.mem hb
    obtain rfl := Option.some.inj (e.symm.trans ho')
    obtain ⟨sl, e1⟩ := U b hb o e hnf
    exact ⟨sl, by rw [mkG_fs (lt b hb) hb]; exact e1⟩
section
variable {prog : Program} {w : World} {A A₀ : Around} {E : Value → Shared → Prop} {s s' : Shared} {base g g₂ h₀ : Heap} {outer : List Env} {env : Env} {L a e : Addr} {m mg mb : Str → Option Value} {mean : ExcName → Option Value} {name : Str} {scope : Scope} {cd : Value} {news : Led}
  {b₀ : Stmt} {suite : List Stmt} {pos np : Pos} {rest : List ExceptHandler} {Q : Flow → Shared → Prop} {x : Str}
theorem caught_my (K : Below A₀ base outer g) (XB : (KF w.params).In base) (TB : Tp mean mg mb base) (F₂ : Fr g L g₂ m) (U : g₂.UpToSlots s'.heap) (R : FlyM base (envX name scope L a cd [] :: outer) e news s'.heap)
    (ex : nsIn (KF w.params) mainGlobals x = some (some (.ref 46)))
    (k : ∀ h' g', GroundOf base outer g g' → Fr g' L h' m → News g' L h' news →
      wpAny (model prog w) ((A₀.deeper (envOf name scope L a cd)).mark (some (.ref e))) (execs (b₀ :: suite) (envOf name scope L a cd)) Q E { s' with heap := h' })
    (hk : scope.kind = .function) (hx : (envOf name scope L a cd).kindOf x = some .globalImplicit) (hd : (x == ("__debug__" : Str)) = false)
    (hE : PassesOwnAt (model prog w) ((A₀.deeper (envOf name scope L a cd)).mark (some (.ref e))) (A₀.deeper (envOf name scope L a cd)) (envOf name scope L a cd) E) :
    wpAny (model prog w) (A₀.deeper (envOf name scope L a cd)) (noteFrame (.ref e) (envOf name scope L a cd))
      (fun _ s₂ => wpAny (model prog w) (A₀.deeper (envOf name scope L a cd)) (setFlight (.ref e) none) (fun _ s₃ =>
        wpAny (model prog w) (A₀.deeper (envOf name scope L a cd)) (handleBy (.ref e) (envOf name scope L a cd) (.ExceptHandler (some (.Name x np)) none (b₀ :: suite) pos :: rest)) Q E s₃) E s₂) E s' := by
  obtain ⟨B, a0, hB, hl, hfl⟩ := R
  have hLB : B.get? L = none := by
    obtain ⟨_, ⟨L', _, hf, hn', _⟩, _⟩ := hfl.2.2.1
    obtain rfl : L = L' := Option.some.inj hf
    exact hn'
  refine wpAny_looks_onW (Around.frames_deeper K.stack) rfl hfl fun h₄ hheld₄ hsm₄ => ?_
  refine wpAny_landsW hheld₄ fun h₅ hheld hsm₅' => ?_
  have hsm₅ := hsm₄.trans hsm₅'
  have st₅ : base.StaysIn h₅ := fun b o q => hheld.1 b o (hB b o q)
  have U₅ : g₂.UpToSlots h₅ := U.trans hsm₅
  have G₅ := ground_made (h := h₅) K hB hheld.2.2.1.2.2 (fun b _ o q hn => U₅ b o (F₂.keep b o q) hn)
  have F₅ : Fr (mkG base h₅ (framesOf outer) g.objs.size) L h₅ m := by
    refine ⟨U₅.ns F₂.ns, fun b o q => ?_, by rw [mkG_size]; exact F₂.above⟩
    rcases mkG_cases q with ⟨_, q⟩ | ⟨_, q⟩
    · exact q
    · exact st₅ b o q
  obtain ⟨ob, hob, hobc⟩ := hheld.there
  refine wpAny_handleBy_cons (codeAny_handlers_test (name_K F₅ (XB.keeps G₅.stays) (topRead_of (TB.keeps G₅.stays)) ex ?_ hk hx hd)) (by intro q; cases q)
  refine wpAny_excMatches_sub_self (paper_cls (XB.keeps st₅)) hob hobc (by rfl) (codeAny_handlers_suite ?_)
  refine lands_againW hheld fun h₆ hfl₆ hsm₆ => ?_
  have U₆ : g₂.UpToSlots h₆ := (U.trans hsm₅).trans hsm₆
  have G := ground_made (h := h₆) K hB hfl₆.2.2.1.2.2 (fun b _ o q hn => U₆ b o (F₂.keep b o q) hn)
  have F₆ : Fr (mkG base h₆ (framesOf outer) g.objs.size) L h₆ m := by
    refine ⟨U₆.ns F₂.ns, fun b o q => ?_, by rw [mkG_size]; exact F₂.above⟩
    rcases mkG_cases q with ⟨_, q⟩ | ⟨_, q⟩
    · exact q
    · exact hfl₆.1 b o (hB b o q)
  have N₆ : News (mkG base h₆ (framesOf outer) g.objs.size) L h₆ news := fun q hq => by
    obtain ⟨n1, n2⟩ := hl q hq
    refine ⟨hfl₆.1 _ _ n1, (fun z => by rw [z, hLB] at n1; cases n1), ?_⟩
    cases r : (mkG base h₆ (framesOf outer) g.objs.size).get? q.1 with
    | none => rfl
    | some o =>
      rcases mkG_cases r with ⟨hm, _⟩ | ⟨_, r⟩
      · rw [(hfl₆.2.2.1.2.2.mem hm).1] at n1; cases n1
      · cases r.symm.trans n2
  exact wpAny_passesOwnAt hE (k h₆ _ G F₆ N₆)
/-- back from a def that may have caught something -/
noncomputable def LeaveT (base h₀ : Heap) (L : Addr) (m : Str → Option Value) (env : Env) (outer : List Env) (g : Heap) (R : Result → Shared → Prop) (v : Value) (s' : Shared) : Prop :=
  ∃ g' L' m' news', GroundOf base (env :: outer) g g' ∧ Fr g' L' s'.heap m' ∧ News g' L' s'.heap news' ∧ (∀ h₀', GroundOf base outer h₀ h₀' → Fr h₀' L s'.heap m → News h₀' L s'.heap news' → R (.ok (.ret v)) s')
theorem LeaveT.intro {R : Result → Shared → Prop} {v : Value} {g' : Heap} {L' : Addr} {m' : Str → Option Value} {news' : Led} (G : GroundOf base (env :: outer) g g') (F : Fr g' L' s'.heap m') (N : News g' L' s'.heap news')
    (k : ∀ h₀', GroundOf base outer h₀ h₀' → Fr h₀' L s'.heap m → News h₀' L s'.heap news' → R (.ok (.ret v)) s') : LeaveT base h₀ L m env outer g R v s' := ⟨g', L', m', news', G, F, N, k⟩
section
variable {K : Frag} {p : Program} {loose : List Str} {R : Result → Shared → Prop} {qual : Str} {params : Arguments} {body : List Stmt} {dV kV doc pm cdv ct oc : Value} {an od : Option Addr} {osl : Array (Option Value)} {f : Addr} {vals : List Value}
theorem leaveT_back {v : Value} (B : Below A₀ base outer h₀) (F : Fr h₀ L s.heap m) (N : News h₀ L s.heap news) (hA : A.frames = some (env :: outer)) (hf : env.frame = some L) (hke : env.scope.kind = .function)
    (hl : LeaveT base h₀ L m env outer (hideAll s.heap (news.map (·.1))) R v s') : R (.ok (.ret v)) s' := by
  obtain ⟨FG, BG, st, -⟩ := groundX (R := R) B F N hA hf hke
  obtain ⟨g', L', m', news', G, F', N', k⟩ := hl
  have gk : ∀ b o, h₀.get? b = some o → b ∉ news.map (·.1) := fun b o e q => by
    obtain ⟨p, hp, rfl⟩ := List.mem_map.mp q
    rw [(N p hp).2.2] at e; cases e
  have Gk := ground_made (h := g') (B := base) B (fun _ _ q => q) G.frames.2.2 (fun b hb o q hn => by
    obtain ⟨env', he, hf'⟩ := List.mem_filterMap.mp hb
    exact G.same b (List.mem_filterMap.mpr ⟨env', .tail _ he, hf'⟩) o (hideAll_get _ (F.keep b o q) (gk b o q)))
  have hL₀ : h₀.get? L = none := Heap.get?_none_of_le F.above
  have hLb : base.get? L = none := fresh_of_stays B.stays hL₀
  have hLo : L ∉ framesOf outer := fun hm => by
    obtain ⟨_, o, ho, _⟩ := B.frames.mem hm
    rw [hL₀] at ho; cases ho
  have up : ∀ b o, (mkG base g' (framesOf outer) h₀.objs.size).get? b = some o → g'.get? b = some o := fun b o q => by
    rcases mkG_cases q with ⟨_, q⟩ | ⟨_, q⟩
    · exact q
    · exact G.stays b o q
  obtain ⟨oL, es, ep, eL, hLd, hLk, hLf⟩ := FG.ns
  obtain ⟨sl, eL'⟩ := G.same L (List.mem_filterMap.mpr ⟨env, .head _, hf⟩) oL eL
  refine k _ Gk ⟨⟨_, es, ep, F'.keep _ _ eL', hLd, hLk, hLf⟩, fun b o q => F'.keep _ _ (up b o q), by rw [mkG_size]; exact F.above⟩ fun p hp => ?_
  obtain ⟨n1, n2, n3⟩ := N' p hp
  refine ⟨n1, (fun z => by rw [z, eL'] at n3; cases n3), ?_⟩
  cases q : (mkG base g' (framesOf outer) h₀.objs.size).get? p.1 with
  | none => rfl
  | some o => cases (up _ _ q).symm.trans n3
theorem code_defT (names : List Str) (B : Below A₀ base outer h₀) (F : Fr h₀ L s.heap m) (X₀ : K.In h₀) (N : News h₀ L s.heap news) (T : Top p loose mean mg mb h₀) (hA : A.frames = some (env :: outer)) (hf : env.frame = some L) (hke : env.scope.kind = .function)
    (ho : K.lookup f = some ⟨oc, od, .func (fnOf name qual params body scope dV kV doc pm an cdv ct), osl⟩) (hcd : codeIn K cdv qual = true) (hroom : A.depth < recursionLimit)
    (hbind : BindsTo s (fnOf name qual params body scope dV kV doc pm an cdv ct) ⟨vals, []⟩ (names.zip vals)) (hloc : ∀ y ∈ names.zip vals, scope.names.lookup y.1 = some .local)
    (h : ∀ g L' h₁, Fr h₀ L g m → Fr g L' h₁ (fun y => (names.zip vals).reverse.lookup y) → News g L' h₁ news → Below A base (env :: outer) g → K.In g → Top p loose mean mg mb g →
      wpAny (model prog w) (A.deeper (envOf qual scope L' f cdv)) (execs body (envOf qual scope L' f cdv))
        (fun fl s' => LeaveT base h₀ L m env outer g R (match fl with | .ret v => v | _ => .none) s')
        (fun e s' => wpAny (model prog w) (A.deeper (envOf qual scope L' f cdv)) (leaving (envOf qual scope L' f cdv) e) (fun _ s'' => R (.error e) s'') (fun e' s'' => R (.error e') s'') s')
        { s with heap := h₁, toks := s.toks + (names.zip vals).length })
    (hco : scope.isCoroutine = false) (hgen : scope.isGenerator = false) (hk : scope.kind = .function)
    (hcell : ∀ x ∈ scope.names, x.2 ≠ .cell) : codeAny (model prog w) A (.call (.ref f) ⟨vals, []⟩) R s := by
  obtain ⟨FG, BG, st, -⟩ := groundX (R := R) B F N hA hf hke
  refine codeAny_call_def (fd := fnOf name qual params body scope dV kV doc pm an cdv ct) (body := body) (binds := names.zip vals) hroom ((X₀.keeps F.keep) _ _ ho) rfl (T.nolimit.keeps F.keep) (codeRec_of (X₀.keeps F.keep) hcd) rfl hbind hcell hloc (fun h₁ hns hk₁ => ?_) hco hgen hk
  exact wpAny_mono (h _ s.heap.objs.size h₁ FG ⟨hns, fun b o e => hk₁ b o (of_hideAll _ e), Nat.le_of_eq (hideAll_size _ _)⟩
    (fun p hp => ⟨hk₁ _ _ (N p hp).1, Nat.ne_of_lt (Heap.lt_size (N p hp).1), hideAll_none _ (List.mem_map_of_mem hp)⟩) BG (X₀.keeps st) (T.keeps st)) (fun fl s' hl => leaveT_back B F N hA hf hke hl) fun _ _ y => y
end
end
/-- a call of a def that catches what it raises: the ground below the caller may get other slots -/
noncomputable abbrev CtT (w : World) (mean : ExcName → Option Value) (mg mb : Str → Option Value) (dn : Nat) (f : Value) (args : List Value) (pre : Led → Prop) (ret : (Value → Led → Prop) → Led → Prop) : Prop :=
  ∀ (dp un : Nat) (gd : Option (List Code)) (cn : Str) (cs : Scope) (a : Addr) (ccd : Value) (cl : List (Str × Addr)) (outer : List Env) (A₀ : Around) (base h₀ : Heap) (L : Addr) (m : Str → Option Value) (news : Led) (s : Shared) (Q E : Value → Shared → Prop),
    (KF w.params).In base → Tp mean mg mb base → Below A₀ base outer h₀ → Fr h₀ L s.heap m → (KF w.params).In h₀ → News h₀ L s.heap news → Tp mean mg mb h₀ → cs.kind = .function → pre news →
    dp + dn < recursionLimit → un + 8 * dn < cLine →
    ret (fun v news' => ∀ (h' : Heap) (tk' : Nat) (h₀' : Heap), GroundOf base outer h₀ h₀' → Fr h₀' L h' m → News h₀' L h' news' → Q v { s with heap := h', toks := tk' }) news →
    wpAny (model PySem.Challenge.rw_nn0207_01.row.prog w) (ktrTop dp un gd cn cs L a ccd cl outer) (call f args) Q E s

end
section
open PySem PySem.W PyProof.Rows PySem.Calls PySem.Spec

theorem KX10setup1 : True := by
  k_with "storeName" => ((k_here; (first | (with_reducible show wpAny _ _ (storeName (envOf _ _ _ _ _) _ _) _ _ _) | (with_reducible show wpAny _ _ (storeName (envX _ _ _ _ _ _) _ _) _ _ _)); k_dflt (refine' stL ?Fw226 ?Nw226 ?aw226 ?_; (case aw226 => (refine' NmOk.mk ?na1w226 ?na2w226 ?na3w226; (case na1w226 => rfl); (case na2w226 => rfl); (case na3w226 => decide))); (case Fw226 => with_reducible assumption); (case Nw226 => with_reducible assumption); k_whole; intro m9 h' tk9 F' N'; (try k_sweep))))
  trivial
section
variable {w : World} {mean : ExcName → Option Value} {mg mb : Str → Option Value}








theorem KX10setup2 : True := by
  k_with "leaving ref" => ((k_here; k_dflt (first
  | (refine' leave_first ?Kw227 ?Fw227 ?Nw227 ?Pw227 ?ow227 ?_; (case Kw227 => assumption); (case Fw227 => k_asm); (case Nw227 => k_asm); (case Pw227 => with_reducible assumption); (case ow227 => with_reducible assumption); k_whole; intro h' R' U'; (try dsimp only at R' U' ⊢))
  | (refine' leave_on ?Kw227 ?Rw227 ?Fw227 ?Uw227 ?_; (case Rw227 => assumption); (case Kw227 => assumption); (case Uw227 => with_reducible assumption); (case Fw227 => with_reducible assumption); k_whole; intro h' R' U'; (try dsimp only at R' U' ⊢)))))
  k_with "LeaveT" => ((k_dflt (refine' LeaveT.intro ?Gw228 ?Fw228 ?Nw228 ?_; (case Fw228 => k_asm); (case Nw228 => k_asm); (case Gw228 => first | with_reducible assumption | exact GroundOf.refl (by assumption))); intro h0' G' F' N'))
  k_with "noteFrame ref" => ((k_here; (with_reducible show wpAny _ _ (noteFrame _ _) (fun _ s₂ => wpAny _ _ (setFlight _ none) (fun _ s₃ => wpAny _ _ (handleBy _ _ (ExceptHandler.ExceptHandler (some (Expr.Name _ _)) none _ _ :: _)) _ _ s₃) _ s₂) _ _); k_dflt (refine' caught_my ?Kw229 ?XBw229 ?TBw229 ?Fw229 ?Uw229 ?Rw229 ?exw229 ?_ ?hkw229 ?hxw229 ?hdw229 ?hEw229; (case Kw229 => assumption); (case Rw229 => assumption); (case Uw229 => with_reducible assumption); (case Fw229 => with_reducible assumption); (case XBw229 => k_asm); (case TBw229 => k_asm); (case exw229 => k_is); (case hkw229 => rfl); (case hxw229 => rfl); (case hdw229 => decide); (case hEw229 => first | passes_own | with_unfolding_all passes_own); k_whole); intro h' g2' G' F' N'; (try k_sweep)))
  trivial
section
theorem KX10setup3 : True := by
  k_with "call ref" => ((k_here; (with_reducible show wpAny _ _ (call (Value.ref 332) _) _ _ _); k_dflt (refine' CtR.use (r_exact_inverse ?hbbw230 ?hokw230 ?h0w230) ?kB ?kF ?kX ?kN ?kT ?kK ?kpw230 ?kd ?ku ?_; k_extra "sid"; (case hokw230 => with_reducible assumption); (case kpw230 => k_extra "my sub"); (case h0w230 => with_reducible assumption); (case hbbw230 => first | decide | omega); k_whole; intro e9 h9 tk9 g9 R9 F9 U9; (try dsimp only at R9 F9 U9 ⊢); (try k_sweep))))
  k_with "call ref" => ((k_here; (with_reducible show wpAny _ _ (call (Value.ref 327) _) _ _ _); k_dflt (refine' CtR.use (r_inverse_applied ?h0w231 ?hbbw231 ?hokw231) ?kB ?kF ?kX ?kN ?kT ?kK ?kpw231 ?kd ?ku ?_; k_extra "sid"; (case hokw231 => with_reducible assumption); (case kpw231 => refine' ⟨?kpaw231, ?kpbw231, ?kpcw231⟩; (case kpaw231 => k_extra "my sub"); (case kpbw231 => k_extra "my num"); (case kpcw231 => k_extra "my num")); (case h0w231 => with_reducible assumption); (case hbbw231 => first | decide | omega); k_whole; intro e9 h9 tk9 g9 R9 F9 U9; (try dsimp only at R9 F9 U9 ⊢); (try k_sweep))))
  k_with "call ref" => ((k_here; (with_reducible show wpAny _ _ (call (Value.ref 292) _) _ _ _); k_dflt (refine' CtR.use (r_from_array) ?kB ?kF ?kX ?kN ?kT ?kK ?kpw232 ?kd ?ku ?_; k_extra "sid"; (case kpw232 => with_reducible assumption); k_whole; intro e9 h9 tk9 g9 R9 F9 U9; (try dsimp only at R9 F9 U9 ⊢); (try k_sweep))))
  trivial
set_option maxHeartbeats 1000000 in
theorem t_refused0 {M : MatL} {q : Six} {b : Nat} (hb : b ≤ 20) (ok : MatOK M q b) (h0 : q.a * q.d - q.b * q.c = 0) {t : Tok} {v : Value} : CtT w mean mg mb 14 (.ref 408) [.int 0 t, .ref M.x, v] (fun news => Sub (matL w M) news) (fun Q news => Q (.bool true) news) := by
  unfold CtT; k_fill; intro dp un gd cn cs a ccd cl outer A₀ base h₀ L m news s Q E XB TB B F X N T hk hpre hd hu hret
  refine wpAny_call ?_
  k_dflt (refine' code_defT [Str.ofString "way", Str.ofString "m", Str.ofString "values"] ?k1 ?k2 ?k3 ?k4 ?k5 ?kA ?kF ?kK ?k6 ?k7 ?k8 ?k9 ?kB ?_ ?c2 ?c3 ?c4 ?c5; (case kA => exact rfl); (case kF => exact rfl); (case kK => assumption); (case k1 => k_asm); (case k2 => k_asm); (case k3 => k_asm); (case k4 => k_asm); (case k5 => k_asm); (case k6 => k_is); (case k7 => k_is); (case k8 => ktr_room); (case k9 => exact BindsTo.of_eq rfl); (case c5 => decide); (case kB => exact locs rfl); (case c2 => exact rfl); (case c3 => exact rfl); (case c4 => exact rfl); k_whole; intro g' L' h' FG' F' N' B' X' T'; (try dsimp only); (try k_fold); (refine wp_letA ?_); intro A2)
  k_steps
  all_goals ((with_reducible rename GroundOf base outer h₀ _ => kG); (with_reducible rename Fr _ L _ m => kF); (with_reducible rename News _ L _ _ => kN); (try dsimp only at kF kN); exact hret _ _ _ kG kF (News.sub kN (by k_extra "my keep")))
set_option maxHeartbeats 1000000 in
theorem t_refused1 {M : MatL} {q : Six} {b : Nat} (hb : b ≤ 20) (ok : MatOK M q b) (h0 : q.a * q.d - q.b * q.c = 0) {t : Tok} {v : Value} : CtT w mean mg mb 14 (.ref 408) [.int 1 t, .ref M.x, v] (fun news => Sub (matL w M) news) (fun Q news => Q (.bool true) news) := by
  unfold CtT; k_fill; intro dp un gd cn cs a ccd cl outer A₀ base h₀ L m news s Q E XB TB B F X N T hk hpre hd hu hret
  refine wpAny_call ?_
  k_dflt (refine' code_defT [Str.ofString "way", Str.ofString "m", Str.ofString "values"] ?k1 ?k2 ?k3 ?k4 ?k5 ?kA ?kF ?kK ?k6 ?k7 ?k8 ?k9 ?kB ?_ ?c2 ?c3 ?c4 ?c5; (case kA => exact rfl); (case kF => exact rfl); (case kK => assumption); (case k1 => k_asm); (case k2 => k_asm); (case k3 => k_asm); (case k4 => k_asm); (case k5 => k_asm); (case k6 => k_is); (case k7 => k_is); (case k8 => ktr_room); (case k9 => exact BindsTo.of_eq rfl); (case c5 => decide); (case kB => exact locs rfl); (case c2 => exact rfl); (case c3 => exact rfl); (case c4 => exact rfl); k_whole; intro g' L' h' FG' F' N' B' X' T'; (try dsimp only); (try k_fold); (refine wp_letA ?_); intro A2)
  k_steps
  all_goals ((with_reducible rename GroundOf base outer h₀ _ => kG); (with_reducible rename Fr _ L _ m => kF); (with_reducible rename News _ L _ _ => kN); (try dsimp only at kF kN); exact hret _ _ _ kG kF (News.sub kN (by k_extra "my keep")))
set_option maxHeartbeats 1000000 in
theorem t_refused2 {M v : Value} {t : Tok} : CtT w mean mg mb 14 (.ref 408) [.int 2 t, M, v] (fun news => Wrong w news v) (fun Q news => Q (.bool true) news) := by
  unfold CtT; k_fill; intro dp un gd cn cs a ccd cl outer A₀ base h₀ L m news s Q E XB TB B F X N T hk hpre hd hu hret
  refine wpAny_call ?_
  k_dflt (refine' code_defT [Str.ofString "way", Str.ofString "m", Str.ofString "values"] ?k1 ?k2 ?k3 ?k4 ?k5 ?kA ?kF ?kK ?k6 ?k7 ?k8 ?k9 ?kB ?_ ?c2 ?c3 ?c4 ?c5; (case kA => exact rfl); (case kF => exact rfl); (case kK => assumption); (case k1 => k_asm); (case k2 => k_asm); (case k3 => k_asm); (case k4 => k_asm); (case k5 => k_asm); (case k6 => k_is); (case k7 => k_is); (case k8 => ktr_room); (case k9 => exact BindsTo.of_eq rfl); (case c5 => decide); (case kB => exact locs rfl); (case c2 => exact rfl); (case c3 => exact rfl); (case c4 => exact rfl); k_whole; intro g' L' h' FG' F' N' B' X' T'; (try dsimp only); (try k_fold); (refine wp_letA ?_); intro A2)
  k_steps
  all_goals ((with_reducible rename GroundOf base outer h₀ _ => kG); (with_reducible rename Fr _ L _ m => kF); (with_reducible rename News _ L _ _ => kN); (try dsimp only at kF kN); exact hret _ _ _ kG kF (News.sub kN (by k_extra "my keep")))
end
end

end
section
open PySem PySem.W PyProof.Rows PySem.Calls PySem.Spec PySem.SeqAt
section
variable {prog : Program} {w : World} {A : Around} {E : Value → Shared → Prop} {s : Shared} {h₀ : Heap} {L : Addr} {news : Led} {v1 v2 : Value} {d d' : PyData} {Q : Value → Shared → Prop}
theorem dq_cases (q : Rat) : (∃ t p : Int, dq q = .tuple [.int t, .int p]) ∨ dq q = .none := by
  unfold dq
  split
  · exact .inl ⟨_, _, rfl⟩
  · exact .inr rfl
/-- data that is told: flat enough to be compared -/
structure Shp (d : PyData) (n : Nat) : Prop where
  lay : d.canLay0 = true
  dep : d.depth ≤ n
structure ShpAll (ds : List PyData) (n : Nat) : Prop where
  lay : PyData.canLayAll0 ds = true
  dep : PyData.depthAll ds ≤ n
theorem ShpAll.nil {n : Nat} : ShpAll [] n := ⟨by simp only [PyData.canLayAll0], by simp only [PyData.depthAll]; lia⟩
theorem ShpAll.cons {ds : List PyData} {n : Nat} (h : Shp d n) (k : ShpAll ds n) : ShpAll (d :: ds) n := ⟨by simp only [PyData.canLayAll0, h.lay, k.lay, Bool.and_self], by simp only [PyData.depthAll]; have := h.dep; have := k.dep; lia⟩
theorem Shp.tuple {ds : List PyData} {n : Nat} (k : ShpAll ds n) : Shp (.tuple ds) (n + 1) := ⟨by simp only [PyData.canLay0, k.lay], by simp only [PyData.depth]; have := k.dep; lia⟩
theorem Shp.list {ds : List PyData} {n : Nat} (k : ShpAll ds n) : Shp (.list ds) (n + 1) := ⟨by simp only [PyData.canLay0, k.lay], by simp only [PyData.depth]; have := k.dep; lia⟩
theorem Shp.int {i : Int} {n : Nat} : Shp (.int i) n := ⟨by simp only [PyData.canLay0], by simp only [PyData.depth]; lia⟩
theorem Shp.dq (q : Rat) : Shp (Mine.dq q) 2 := by
  rcases dq_cases q with ⟨t, p, e⟩ | e <;> rw [e]
  · exact .tuple (.cons .int (.cons .int .nil))
  · exact ⟨by simp only [PyData.canLay0], by simp only [PyData.depth]; lia⟩
theorem Shp.dsix (q : Six) : Shp (Mine.dsix q) 3 := .tuple (.cons (.dq _) (.cons (.dq _) (.cons (.dq _) (.cons (.dq _) (.cons (.dq _) (.cons (.dq _) .nil))))))
theorem Shp.two (p q : Rat) : Shp (.list [Mine.dq p, Mine.dq q]) 3 := .list (.cons (.dq _) (.cons (.dq _) .nil))
theorem Shp.shaped {n : Nat} (h : Shp d n) (hn : n ≤ 64) : shaped d = true := by
  unfold SeqAt.shaped
  have := h.dep
  rw [h.lay, Bool.true_and, decide_eq_true_eq]
  lia
theorem ne_told {n : Nat} (N : News h₀ L s.heap news) (S1 : Says news v1 d) (S2 : Says news v2 d') (hd : d = d') (hs : Shp d n) (hn : n ≤ 64) (hu : A.units + 64 < cLine) (h : Q (.bool false) s) : wpAny (model prog w) A (compareOp .NotEq v1 v2) Q E s := by
  subst hd
  obtain ⟨as, r1⟩ := S1.reads N
  obtain ⟨bs, r2⟩ := S2.reads N
  refine ne_dataH r1 r2 (hs.shaped hn) (hs.shaped hn) hu ?_
  rw [eqv_refl d hs.lay]
  exact h
theorem eq_told {n : Nat} (N : News h₀ L s.heap news) (S1 : Says news v1 d) (S2 : Says news v2 d') (hd : d = d') (hs : Shp d n) (hn : n ≤ 64) (hu : A.units + 64 < cLine) (h : Q (.bool true) s) : wpAny (model prog w) A (compareOp .Eq v1 v2) Q E s := by
  subst hd
  obtain ⟨as, r1⟩ := S1.reads N
  obtain ⟨bs, r2⟩ := S2.reads N
  refine eq_dataH r1 r2 (hs.shaped hn) (hs.shaped hn) hu ?_
  rw [eqv_refl d hs.lay]
  exact h
end
/-- where a walk is to stop -/
noncomputable def StopP (P : Prop) : Prop := P
theorem stopP {P : Prop} (h : StopP P) : P := h

end
section
open PySem PySem.W PyProof.Rows PySem.Calls PySem.Spec
section
variable {prog : Program} {w : World} {A : Around} {E : Value → Shared → Prop} {s : Shared} {h₀ : Heap} {L : Addr} {m : Str → Option Value} {env : Env}
noncomputable abbrev tupA (its : Array Value) (k : Nat) : Obj := { cls := .type "tuple", data := .seq its k }
noncomputable def TSrc (prog : Program) (w : World) (A : Around) (h₀ : Heap) (L : Addr) (m : Str → Option Value) (env : Env) (elt : PySem.Expr) (x : Str) (scope : Scope) (cl : List (Str × Addr)) (Q : Value → Shared → Prop) (xv : Value) (s₁ : Shared) : Prop :=
  ∃ ax its k news, xv = .ref ax ∧ A.handled = none ∧ Fr h₀ L s₁.heap m ∧ News h₀ L s₁.heap news ∧ (ax, tupA its k) ∈ news ∧ its.size ≤ sizeLine ∧
    ∀ g, LCg.CompRest prog w A h₀ L m env elt x scope cl { s₁ with heap := g } (fun nw => (ax, tupA its k) ∈ nw) (fun i v => its[i]? = some v) (LCg.FinE h₀ L m { s₁ with heap := g } Q) its.size 0 [] news
theorem TSrc.intro {elt : PySem.Expr} {x : Str} {scope : Scope} {cl : List (Str × Addr)} {Q : Value → Shared → Prop} {ax : Addr} {its : Array Value} {k : Nat} {news : Led} {s₁ : Shared} (hh : A.handled = none) (F : Fr h₀ L s₁.heap m) (N : News h₀ L s₁.heap news) (hm : (ax, tupA its k) ∈ news) (hsz : its.size ≤ sizeLine)
    (h : ∀ g, LCg.CompRest prog w A h₀ L m env elt x scope cl { s₁ with heap := g } (fun nw => (ax, tupA its k) ∈ nw) (fun i v => its[i]? = some v) (LCg.FinE h₀ L m { s₁ with heap := g } Q) its.size 0 [] news) : TSrc prog w A h₀ L m env elt x scope cl Q (.ref ax) s₁ := ⟨ax, its, k, news, rfl, hh, F, N, hm, hsz, h⟩
theorem tup_st {ax I : Addr} {its : Array Value} {k : Nat} : ∀ i (h h' : Heap) (o : Obj) (nw : Led), (h.IsTupleIter I ax i ∧ h.IsTuple ax its) → h.get? I = some o → h'.get? I = some o → (∀ b o, h₀.get? b = some o → h'.get? b = some o) → News h₀ L h' nw → (ax, tupA its k) ∈ nw → (h'.IsTupleIter I ax i ∧ h'.IsTuple ax its) :=
  fun i h h' o nw st e e' _ N S => ⟨by obtain ⟨o', q, r⟩ := st.1; rw [e] at q; cases q; exact ⟨o, e', r⟩, ⟨_, (N _ S).1, rfl, _, rfl⟩⟩
/-- a comprehension over a tuple of the ledger -/
theorem ListComp_T {elt iter : PySem.Expr} {x : Str} {px : Pos} {scope : Scope} {cl : List (Str × Addr)} {pos : Pos} {Q : Value → Shared → Prop} (F₀ : Fr h₀ L s.heap m)
    (hclos : closureFor scope env = pure cl) (hcell : ∀ y ∈ scope.names, y.2 ≠ .cell) (hkind : scope.kind = .function)
    (hnames : ∀ y ∈ scope.names, y.2 = .local → scope.names.lookup y.1 = some .local) (hx : scope.names.lookup x = some .local)
    (h : wpAny (model prog w) A (eval iter env) (TSrc prog w A h₀ L m env elt x scope cl Q) E s)
    (hs : ∀ x, foldedSetIterable iter env x = pure x) :
    wpAny (model prog w) A (eval (.ListComp elt [⟨.Name x px, iter, [], 0⟩] scope pos) env) Q E s := by
  rw [eval_ListComp]
  refine wpAny_comprehension_free (use := none) rfl hs hclos hkind hnames (wpAny_mono h (fun xv s₁ h₁ => ?_) fun _ _ e => e)
  obtain ⟨ax, its, k, news, rfl, hh, F, N, S, hsz, R⟩ := h₁
  have hl : s₁.heap.IsTuple ax its := ⟨_, (N _ S).1, rfl, _, rfl⟩
  have hlt : ax < s₁.heap.objs.size := Heap.lt_size (N _ S).1
  refine wpAny_pyIter_tuple hl ?_
  have up : ∀ b o, s₁.heap.get? b = some o → (s₁.heap.push { cls := .type "tuple_iterator", data := .fields #[.ref ax, .int 0 0] }).get? b = some o := fun b o e => Heap.get?_push_of_some _ e
  refine LCg.block_U (Walks.tuple hh s₁.heap.objs.size ax (Nat.ne_of_lt hlt) its) hsz (fun i h st => by obtain ⟨o, e, _⟩ := st.1; exact ⟨o, e⟩) tup_st hcell hkind hx ⟨⟨_, Heap.get?_push_size _ rfl, rfl, rfl⟩, hl.push _⟩ (fun b hb => ?_)
    (F.keeps up) (N.grown up) (Nat.ne_of_lt F.ns.lt) (next_is_new F) (fun p hp => Nat.ne_of_lt (Heap.lt_size (N p hp).1)) S (R _) ?_
  · show b < (s₁.heap.push _).objs.size
    rw [Heap.size_push]
    rcases List.mem_cons.mp hb with rfl | hb
    · exact Nat.lt_succ_self _
    · rw [List.mem_singleton.mp hb]; exact Nat.lt_succ_of_lt hlt
  · intro D C h tk m' ys news' F' N' o1 hn hC₀ hD₀ hCL hDL hCD offC fin
    refine ⟨m', hn, fun h'' hs'' => fin D h'' tk (F'.change hs'' hCL hC₀) (fun p hp => ?_) o1⟩
    refine ⟨hs''.extBut _ _ ?_ (N' p hp).1, (N' p hp).2⟩
    rcases List.mem_cons.mp hp with rfl | hp
    · exact Ne.symm hCD
    · exact offC p hp
end

end
section
open PySem PySem.W PyProof.Rows PySem.Calls PySem.Spec

section
variable {w : World} {mean : ExcName → Option Value} {mg mb : Str → Option Value}


/-- a tuple of two numbers of the ledger, and what is wanted of the list of what they tell -/
noncomputable def TPair (w : World) (h₀ : Heap) (L : Addr) (m : Str → Option Value) (Q : Value → Shared → Prop) (xv : Value) (s₁ : Shared) : Prop :=
  ∃ T D1 D2 q1 q2 b1 b2 news, xv = .ref T ∧ Fr h₀ L s₁.heap m ∧ News h₀ L s₁.heap news ∧ (T, tupOf [.ref (DecL.x D1), .ref (DecL.x D2)]) ∈ news ∧ Sub (decL w D1) news ∧ Sub (decL w D2) news ∧ DecOK D1 q1 b1 ∧ DecOK D2 q2 b2 ∧
    ∀ ext v h' tk', Says ext v (.list [dq q1, dq q2]) → Fr h₀ L h' m → News h₀ L h' (ext ++ news) → Q v { s₁ with heap := h', toks := tk' }
theorem TPair.intro {h₀ : Heap} {L : Addr} {m : Str → Option Value} {Q : Value → Shared → Prop} {s₁ : Shared} {T : Addr} {D1 D2 : DecL} {q1 q2 : Rat} {b1 b2 : Nat} {news : Led}
    (F : Fr h₀ L s₁.heap m) (N : News h₀ L s₁.heap news) (hm : (T, tupOf [.ref (DecL.x D1), .ref (DecL.x D2)]) ∈ news) (k1 : Sub (decL w D1) news) (k2 : Sub (decL w D2) news) (o1 : DecOK D1 q1 b1) (o2 : DecOK D2 q2 b2)
    (h : ∀ ext v h' tk', Says ext v (.list [dq q1, dq q2]) → Fr h₀ L h' m → News h₀ L h' (ext ++ news) → Q v { s₁ with heap := h', toks := tk' }) : TPair w h₀ L m Q (.ref T) s₁ :=
  ⟨T, D1, D2, q1, q2, b1, b2, news, rfl, F, N, hm, k1, k2, o1, o2, h⟩

theorem KY1setup1 : True := by
  k_with "CompEnd" => ((k_dflt (refine' compEnd_0 ?Fw233 ?Nw233 ?offw233 ?srcw233 ?_; (case Fw233 => k_asm); (case Nw233 => k_asm); (case offw233 => assumption); (case srcw233 => lcg_src))))
  k_with "CompEnd" => ((k_dflt (refine' compEnd_ext ?Fw234 ?Nw234 ?fw234 ?offw234 ?srcw234 ?_; (case Fw234 => k_asm); (case Nw234 => k_asm); (case fw234 => with_reducible assumption); (case offw234 => assumption); (case srcw234 => lcg_src))))
  k_with "TSrc" => ((k_here; k_dflt (refine' TSrc.intro ?h0w235 ?Fw235 ?Nw235 ?hrw235 ?h3w235 ?_; (case h0w235 => rfl); (case Fw235 => k_asm); (case Nw235 => k_asm); (case hrw235 => with_reducible assumption); (case h3w235 => exact Nat.le_of_ble_eq_true rfl)); intro g'; lcg_lit))
  trivial
noncomputable abbrev toldScope : Scope := { kind := .function, names := [(Str.ofString ".0", .local), (Str.ofString "number", .local)], isGenerator := false, isCoroutine := false }
theorem tp_end {h₀ h' : Heap} {L D : Addr} {m : Str → Option Value} {Q : Value → Shared → Prop} {s₁ : Shared} {q1 q2 : Rat} {news e1 e2 : Led} {v1 v2 : Value} {tk' : Nat}
    (hq : ∀ ext v h' tk', Says ext v (.list [dq q1, dq q2]) → Fr h₀ L h' m → News h₀ L h' (ext ++ news) → Q v { s₁ with heap := h', toks := tk' })
    (S1 : Says e1 v1 (dq q1)) (S2 : Says e2 v2 (dq q2)) (F : Fr h₀ L h' m) (N : News h₀ L h' ((D, LCg.lst [v1, v2]) :: (e2 ++ (e1 ++ news)))) : Q (.ref D) { s₁ with heap := h', toks := tk' } :=
  hq ((D, LCg.lst [v1, v2]) :: (e2 ++ e1)) _ _ _ (Says.list (n := 2) (.head _) (.cons S1.app.cons (.cons S2.here.cons .nil))) F (by rw [List.cons_append, List.append_assoc]; exact N)
theorem told_he {x name : Str} {p1 p2 p3 : Pos} {env : Env} (hp : (p2.endLine == p3.line) = true) : eval (.Call (.Attribute (.Name x p1) name p2) [] [] p3) env = (do
      let ov ← eval (.Name x p1) env
      standAt p2.atName
      let (f, first) ← holding [ov] (getMethod ov name (do return (← importBound (.Name x p1) env).getD true))
      callWith p3 f first (backTo p3 (starEach [] env)) []) := by
  show (do
    let ov ← eval (.Name x p1) env
    standAt p2.atName
    methodCall (.Name x p1) name p2 p3 env ov 0 (backTo p3 (starEach [] env)) []) = _
  unfold methodCall methodCallPos
  rw [hp]
  rfl
theorem KY1setup2 : True := by
  k_with "eval Call Attribute" => ((refine MethodCall_ ?_ (told_he (by with_reducible assumption))))
  k_with "CompEnd" => ((k_dflt (refine' compEnd_ext ?Fw236 ?Nw236 ?fw236 ?offw236 ?srcw236 ?_; (case Fw236 => k_asm); (case Nw236 => k_asm); (case fw236 => with_reducible assumption); (case offw236 => assumption); (case srcw236 => k_mem))))
  trivial
set_option maxHeartbeats 1000000 in
theorem told_comp {dp un : Nat} {gd : Option (List Code)} {cn : Str} {cs : Scope} {a : Addr} {ccd : Value} {cl : List (Str × Addr)} {outer : List Env} {A₀ : Around} {base h₀ : Heap} {L : Addr} {m : Str → Option Value} {s : Shared} {Q E : Value → Shared → Prop} {iter : PySem.Expr} {p1 p2 p3 p4 pos : Pos}
    (B : Below A₀ base outer h₀) (F : Fr h₀ L s.heap m) (X : (KF w.params).In h₀) (T : Tp mean mg mb h₀) (hk : cs.kind = .function) (hp : (p2.endLine == p3.line) = true) (hd : dp + 3 < recursionLimit) (hu : un + 24 < cLine)
    (hs : ∀ x, foldedSetIterable iter (envX cn cs L a ccd cl) x = pure x)
    (h : wpAny (model PySem.Challenge.rw_nn0207_01.row.prog w) (ktrTop dp un gd cn cs L a ccd cl outer) (eval iter (envX cn cs L a ccd cl)) (TPair w h₀ L m Q) E s) :
    wpAny (model PySem.Challenge.rw_nn0207_01.row.prog w) (ktrTop dp un gd cn cs L a ccd cl outer)
      (eval (.ListComp (.Call (.Attribute (.Name (Str.ofString "number") p1) (Str.ofString "told") p2) [] [] p3) [⟨.Name (Str.ofString "number") p4, iter, [], 0⟩] { kind := .function, names := [(Str.ofString ".0", .local), (Str.ofString "number", .local)], isGenerator := false, isCoroutine := false } pos) (envX cn cs L a ccd cl)) Q E s := by
  refine ListComp_T F (by with_unfolding_all rfl) (by decide) (by rfl) (by decide) (by with_unfolding_all rfl) (wpAny_mono h (fun xv s₁ h₁ => ?_) fun _ _ e => e) hs
  obtain ⟨T', D1, D2, q1, q2, b1, b2, news, rfl, F1, N1, hm, k1, k2, o1, o2, hq⟩ := h₁
  replace hm : (T', tupA #[Value.ref D1.x, Value.ref D2.x] 0) ∈ news := hm
  clear F h
  revert X
  k_fill
  intro X
  k_steps
  (with_reducible rename Fr h₀ L _ m => kF)
  (with_reducible rename News h₀ L _ _ => kN)
  exact tp_end hq (by with_reducible assumption) (by with_reducible assumption) kF kN
end

end
section
open PySem PySem.W PyProof.Rows PySem.Calls PySem.Spec
theorem two_eq {p q p' q' : Rat} (h1 : p = p') (h2 : q = q') : PyData.list [dq p, dq q] = PyData.list [dq p', dq q'] := by rw [h1, h2]
theorem p2 : (10 : Rat) ^ Int.toNat 2 = 100 := rfl
theorem p4 : (10 : Rat) ^ Int.toNat 4 = 10000 := rfl
theorem p6 : (10 : Rat) ^ Int.toNat 6 = 1000000 := rfl
theorem qc0 : qcos 0 = 1 := rfl
theorem qc1 : qcos 1 = 0 := rfl
theorem qc2 : qcos 2 = -1 := rfl
theorem qc3 : qcos 3 = 0 := rfl
theorem qs0 : qsin 0 = 0 := rfl
theorem qs1 : qsin 1 = 1 := rfl
theorem qs2 : qsin 2 = 0 := rfl
theorem qs3 : qsin 3 = -1 := rfl
section
variable {x y : Int}
theorem tn0 : PyData.list [dq (qcos 0 * ((x : Rat) / 10 ^ Int.toNat 2) + -qsin 0 * ((y : Rat) / 10 ^ Int.toNat 2) + 0), dq (qsin 0 * ((x : Rat) / 10 ^ Int.toNat 2) + qcos 0 * ((y : Rat) / 10 ^ Int.toNat 2) + 0)] = PyData.list [dq ((x : Rat) / 10 ^ Int.toNat 2), dq ((y : Rat) / 10 ^ Int.toNat 2)] := by
  apply two_eq <;> rw [qc0, qs0] <;> grind
theorem tn1 : PyData.list [dq (qcos 1 * ((x : Rat) / 10 ^ Int.toNat 2) + -qsin 1 * ((y : Rat) / 10 ^ Int.toNat 2) + 0), dq (qsin 1 * ((x : Rat) / 10 ^ Int.toNat 2) + qcos 1 * ((y : Rat) / 10 ^ Int.toNat 2) + 0)] = PyData.list [dq (((-y : Int) : Rat) / 10 ^ Int.toNat 2), dq ((x : Rat) / 10 ^ Int.toNat 2)] := by
  apply two_eq <;> rw [qc1, qs1] <;> (try rw [Rat.intCast_neg]) <;> grind
theorem tn2 : PyData.list [dq (qcos 2 * ((x : Rat) / 10 ^ Int.toNat 2) + -qsin 2 * ((y : Rat) / 10 ^ Int.toNat 2) + 0), dq (qsin 2 * ((x : Rat) / 10 ^ Int.toNat 2) + qcos 2 * ((y : Rat) / 10 ^ Int.toNat 2) + 0)] = PyData.list [dq (((-x : Int) : Rat) / 10 ^ Int.toNat 2), dq (((-y : Int) : Rat) / 10 ^ Int.toNat 2)] := by
  apply two_eq <;> rw [qc2, qs2] <;> (try rw [Rat.intCast_neg]) <;> grind
theorem tn3 : PyData.list [dq (qcos 3 * ((x : Rat) / 10 ^ Int.toNat 2) + -qsin 3 * ((y : Rat) / 10 ^ Int.toNat 2) + 0), dq (qsin 3 * ((x : Rat) / 10 ^ Int.toNat 2) + qcos 3 * ((y : Rat) / 10 ^ Int.toNat 2) + 0)] = PyData.list [dq (((- -y : Int) : Rat) / 10 ^ Int.toNat 2), dq (((-x : Int) : Rat) / 10 ^ Int.toNat 2)] := by
  apply two_eq <;> rw [qc3, qs3] <;> (try simp only [Int.neg_neg]) <;> (try rw [Rat.intCast_neg]) <;> grind
theorem tr_eq : PyData.list [dq (1 * ((y : Rat) / 10 ^ Int.toNat 2) + 0 * ((3 : Int) : Rat) + (x : Rat) / 10 ^ Int.toNat 2), dq (0 * ((y : Rat) / 10 ^ Int.toNat 2) + 1 * ((3 : Int) : Rat) + (y : Rat) / 10 ^ Int.toNat 2)] =
    PyData.list [dq (((x + y : Int) : Rat) / 10 ^ Int.toNat 2), dq (((y + 300 : Int) : Rat) / 10 ^ Int.toNat 2)] := by
  apply two_eq <;> simp only [Rat.intCast_add, p2] <;> grind
theorem sc_eq : PyData.list [dq ((x : Rat) / 10 ^ Int.toNat 2 * ((y : Rat) / 10 ^ Int.toNat 2) + 0 * ((3 : Int) : Rat) + 0), dq (0 * ((y : Rat) / 10 ^ Int.toNat 2) + (y : Rat) / 10 ^ Int.toNat 2 * ((3 : Int) : Rat) + 0)] =
    PyData.list [dq (((x * y : Int) : Rat) / 10 ^ Int.toNat 4), dq (((3 * y : Int) : Rat) / 10 ^ Int.toNat 2)] := by
  apply two_eq <;> simp only [Rat.intCast_mul, p2, p4] <;> grind
theorem sk_eq : PyData.list [dq (1 * ((y : Rat) / 10 ^ Int.toNat 2) + (x : Rat) / 10 ^ Int.toNat 2 * ((3 : Int) : Rat) + 0), dq ((y : Rat) / 10 ^ Int.toNat 2 * ((y : Rat) / 10 ^ Int.toNat 2) + 1 * ((3 : Int) : Rat) + 0)] =
    PyData.list [dq (((y + 3 * x : Int) : Rat) / 10 ^ Int.toNat 2), dq (((300 * 100 + y * y : Int) : Rat) / 10 ^ Int.toNat 4)] := by
  apply two_eq <;> simp only [Rat.intCast_mul, Rat.intCast_add, p2, p4] <;> grind
end
theorem neg4_0 {n : Int} (h : n.fmod 4 = 0) : (-n).fmod 4 = 0 := by rw [Int.fmod_eq_emod_of_nonneg _ (by decide)] at h ⊢; lia
theorem neg4_1 {n : Int} (h : n.fmod 4 = 1) : (-n).fmod 4 = 3 := by rw [Int.fmod_eq_emod_of_nonneg _ (by decide)] at h ⊢; lia
theorem neg4_2 {n : Int} (h : n.fmod 4 = 2) : (-n).fmod 4 = 2 := by rw [Int.fmod_eq_emod_of_nonneg _ (by decide)] at h ⊢; lia
theorem neg4_3 {n : Int} (h : n.fmod 4 = 3) : (-n).fmod 4 = 1 := by rw [Int.fmod_eq_emod_of_nonneg _ (by decide)] at h ⊢; lia
theorem six_eq {q : Six} {a b c d e f : Rat} (ha : a = q.a) (hb : b = q.b) (hc : c = q.c) (hd : d = q.d) (he : e = q.e) (hf : f = q.f) : dsix ⟨a, b, c, d, e, f⟩ = dsix q := by
  rw [ha, hb, hc, hd, he, hf]
theorem back0 {q : Six} : dsix ((q.mul ⟨qcos 0, qsin 0, -qsin 0, qcos 0, 0, 0⟩).mul ⟨qcos 0, qsin 0, -qsin 0, qcos 0, 0, 0⟩) = dsix q := by
  rw [qc0, qs0]; unfold Six.mul; apply six_eq <;> grind
theorem back1 {q : Six} : dsix ((q.mul ⟨qcos 1, qsin 1, -qsin 1, qcos 1, 0, 0⟩).mul ⟨qcos 3, qsin 3, -qsin 3, qcos 3, 0, 0⟩) = dsix q := by
  rw [qc1, qs1, qc3, qs3]; unfold Six.mul; apply six_eq <;> grind
theorem back2 {q : Six} : dsix ((q.mul ⟨qcos 2, qsin 2, -qsin 2, qcos 2, 0, 0⟩).mul ⟨qcos 2, qsin 2, -qsin 2, qcos 2, 0, 0⟩) = dsix q := by
  rw [qc2, qs2]; unfold Six.mul; apply six_eq <;> grind
theorem back3 {q : Six} : dsix ((q.mul ⟨qcos 3, qsin 3, -qsin 3, qcos 3, 0, 0⟩).mul ⟨qcos 1, qsin 1, -qsin 1, qcos 1, 0, 0⟩) = dsix q := by
  rw [qc1, qs1, qc3, qs3]; unfold Six.mul; apply six_eq <;> grind

end
section
open PySem PySem.W PyProof.Rows PySem.Calls PySem.Spec

section
variable {w : World} {mean : ExcName → Option Value} {mg mb : Str → Option Value}







theorem KY2setup1 : True := by
  k_with "my kmem" => (first | (with_reducible refine' rows_x ?kmhw237; (case kmhw237 => k_extra "my sub")) | (with_reducible refine' rows_1 ?kmhw237; (case kmhw237 => k_extra "my sub")) | (with_reducible refine' rows_2 ?kmhw237; (case kmhw237 => k_extra "my sub")) | (with_reducible refine' rows_3 ?kmhw237; (case kmhw237 => k_extra "my sub")))
  k_with "call ref" => ((k_here; (with_reducible show wpAny _ _ (call (Value.ref 363) _) _ _ _); k_dflt (refine' (c_law_told _ _ _ _ ?hpw238 ?hqw238) _ _ _ _ _ _ _ _ _ _ _ _ _ _ _ _ _ _ ?kB ?kF ?kX ?kN ?kT ?kK ?kpw238 ?kd ?ku ?_; k_extra "sid"; (case kpw238 => exact trivial); (case hqw238 => first | with_reducible assumption | k_extra "my hq"); (case hpw238 => first | with_reducible assumption | decide | omega); k_whole; intro e9 v9 y9 f9 h9 tk9 F9 N9; (try k_sweep))))
  k_with "call ref" => ((k_here; (with_reducible show wpAny _ _ (call (Value.ref 377) _) _ _ _); k_dflt (refine' (c_law_rows) _ _ _ _ _ _ _ _ _ _ _ _ _ _ _ _ _ _ ?kB ?kF ?kX ?kN ?kT ?kK ?kpw239 ?kd ?ku ?_; k_extra "sid"; (case kpw239 => first | with_reducible assumption | k_mem); k_whole; intro R9 ok9 f9 h9 tk9 F9 N9; (try k_sweep))))
  k_with "my kmem" => (first | (with_reducible refine' Keeps.at ?kmhw240; (case kmhw240 => with_reducible assumption)) | (with_reducible refine' updF_mem ?kmhw240; (case kmhw240 => with_reducible assumption)))
  trivial




theorem KY2setup2 : True := by
  k_with "my keeps" => (first | with_reducible assumption | (refine' Keeps.cons ?kmhw241; (case kmhw241 => k_extra "my keeps")))
  k_with "call ref" => ((k_here; (with_reducible show wpAny _ _ (call (Value.ref 344) _) _ _ _); k_dflt (refine' (c_law_draw ?hmw242 ?hm2w242 ?hkw242 ?ivw242 ?hlw242 ?pow242) _ _ _ _ _ _ _ _ _ _ _ _ _ _ _ _ _ _ ?kB ?kF ?kX ?kN ?kT ?kK ?kpw242 ?kd ?ku ?_; k_extra "sid"; (case pow242 => with_reducible assumption); (case ivw242 => with_reducible assumption); (case hlw242 => with_reducible assumption); (case hmw242 => decide); (case hm2w242 => decide); (case hkw242 => omega); (case kpw242 => refine' ⟨?kpaw242, ?kpbw242⟩; (case kpaw242 => walk_at "my updf"); (case kpbw242 => k_extra "my keeps")); k_whole; intro o9 d9 t9 po9 dl9 dh9 h9 tk9 F9 N9; (try k_sweep))))
  k_with "call ref" => ((k_here; (with_reducible show wpAny _ _ (call (Value.ref 351) _) _ _ _); k_dflt (refine' (c_law_number ?hkw243 ?ivw243 ?hlw243 ?pow243) _ _ _ _ _ _ _ _ _ _ _ _ _ _ _ _ _ _ ?kB ?kF ?kX ?kN ?kT ?kK ?kpw243 ?kd ?ku ?_; k_extra "sid"; (case pow243 => with_reducible assumption); (case ivw243 => with_reducible assumption); (case hlw243 => with_reducible assumption); (case hkw243 => omega); (case kpw243 => refine' ⟨?kpaw243, ?kpbw243⟩; (case kpaw243 => walk_at "my updf"); (case kpbw243 => k_extra "my keeps")); k_whole; intro o9 v9 t9 po9 b9 h9 tk9 F9 N9; (try k_sweep))))
  k_with "my kmem" => (exact List.mem_cons_self)
  k_with "my told" => (first | (with_reducible refine' Says.list ?kmaw244 ?kmbw244; (case kmaw244 => exact List.mem_cons_self); (case kmbw244 => k_extra "my saysall")) | k_extra "my says")
  k_with "my eqd" => (first | (with_reducible rfl) | (with_reducible assumption) | k_extra "my eq")
  k_with "my ne" => ((k_here; k_dflt (refine' ne_told ?Nw245 ?S1w245 ?S2w245 ?hdw245 ?hsw245 ?hnw245 ?huw245 ?_; (case Nw245 => k_asm); (case S1w245 => k_extra "my told"); (case S2w245 => k_extra "my told"); (case hdw245 => k_extra "my eqd"); (case hsw245 => first | exact Shp.dq _ | exact Shp.dsix _ | exact Shp.two _ _); (case hnw245 => decide); (case huw245 => ktr_units); (try k_extra "my prune"))))
  k_with "my eqt" => ((k_here; k_dflt (refine' eq_told ?Nw246 ?S1w246 ?S2w246 ?hdw246 ?hsw246 ?hnw246 ?huw246 ?_; (case Nw246 => k_asm); (case S1w246 => k_extra "my told"); (case S2w246 => k_extra "my told"); (case hdw246 => k_extra "my eqd"); (case hsw246 => first | exact Shp.dq _ | exact Shp.dsix _ | exact Shp.two _ _); (case hnw246 => decide); (case huw246 => ktr_units); (try k_extra "my prune"))))
  k_with "compareOp NotEq" => (k_extra "my ne")
  k_with "compareOp NotEq ref ref" => (k_extra "my ne")
  k_with "compareOp NotEq ref" => (k_extra "my ne")
  k_with "compareOp Eq" => (k_extra "my eqt")
  k_with "compareOp Eq ref ref" => (k_extra "my eqt")
  k_with "compareOp Eq ref" => (k_extra "my eqt")
  k_with "eval ListComp" => ((k_here; k_dflt (refine' told_comp ?Bw247 ?Fw247 ?Xw247 ?Tw247 ?hkw247 ?hpw247 ?hdw247 ?huw247 ?hsw247 ?_; (case Bw247 => k_asm); (case Fw247 => k_asm); (case Xw247 => k_asm); (case Tw247 => k_asm); (case hkw247 => first | exact rfl | assumption); (case hpw247 => rfl); (case hdw247 => ktr_room); (case huw247 => ktr_units); (case hsw247 => intro _; rfl); k_whole)))
  k_with "TPair" => ((k_here; k_dflt (refine' TPair.intro ?Fw248 ?Nw248 ?mw248 ?k1w248 ?k2w248 ?o1w248 ?o2w248 ?_; (case Fw248 => k_asm); (case Nw248 => k_asm); (case mw248 => k_mem); (case k1w248 => k_extra "my sub"); (case k2w248 => k_extra "my sub"); (case o1w248 => with_reducible assumption); (case o2w248 => with_reducible assumption)); intro e9 v9 h' tk' y9 F' N'; (try k_sweep)))
  k_with "callWith ref" => ((k_here; (with_reducible show wpAny _ _ (callWith _ (Value.ref _) _ (backTo _ (starEach [] _)) []) _ _ _); k_dflt (refine' callWith_K0 ?k1w249 ?k2w249 ?_; (case k1w249 => k_in); (case k2w249 => k_is); k_whole)))
  k_with "callWith ref" => ((k_here; (with_reducible show wpAny _ _ (callWith _ (Value.ref _) _ (backTo _ (starEach (_ :: _) _)) []) _ _ _); k_dflt (refine' callWith_K ?k1w250 ?k2w250 ?_; (case k1w250 => k_asm); (case k2w250 => k_is); k_whole)))
  k_with "k_in" => ((refine' Frag.In.keeps ?kiaw251 (Fr.keep ?kibw251); (case kibw251 => k_asm); (case kiaw251 => k_asm)))
  trivial
/-- a turn and its way back -/
noncomputable def Rel4 (r q : Int) : Prop := (r = 0 ∧ q = 0) ∨ (r = 1 ∧ q = 3) ∨ (r = 2 ∧ q = 2) ∨ (r = 3 ∧ q = 1)
noncomputable def rotX (r x y : Int) : Int := if r = 0 then x else if r = 1 then -y else if r = 2 then -x else - -y
noncomputable def rotY (r x y : Int) : Int := if r = 0 then y else if r = 1 then x else if r = 2 then -y else -x
theorem turn_r (n : Int) : ∃ r q, n.fmod 4 = r ∧ (-n).fmod 4 = q ∧ Rel4 r q := by
  have h := fm4 n
  rcases h with h | h | h | h
  · exact ⟨_, _, h, neg4_0 h, .inl ⟨rfl, rfl⟩⟩
  · exact ⟨_, _, h, neg4_1 h, .inr (.inl ⟨rfl, rfl⟩)⟩
  · exact ⟨_, _, h, neg4_2 h, .inr (.inr (.inl ⟨rfl, rfl⟩))⟩
  · exact ⟨_, _, h, neg4_3 h, .inr (.inr (.inr ⟨rfl, rfl⟩))⟩
theorem tn_any {r q x y R U : Int} (h : Rel4 r q) (hR : R = rotX r x y) (hU : U = rotY r x y) : PyData.list [dq (qcos r * ((x : Rat) / 10 ^ Int.toNat 2) + -qsin r * ((y : Rat) / 10 ^ Int.toNat 2) + 0), dq (qsin r * ((x : Rat) / 10 ^ Int.toNat 2) + qcos r * ((y : Rat) / 10 ^ Int.toNat 2) + 0)] = PyData.list [dq ((R : Rat) / 10 ^ Int.toNat 2), dq ((U : Rat) / 10 ^ Int.toNat 2)] := by
  rcases h with ⟨rfl, rfl⟩ | ⟨rfl, rfl⟩ | ⟨rfl, rfl⟩ | ⟨rfl, rfl⟩ <;> (rw [hR, hU]; first | exact tn0 | exact tn1 | exact tn2 | exact tn3)
theorem back_any {r k : Int} {q : Six} (h : Rel4 r k) : dsix ((q.mul ⟨qcos r, qsin r, -qsin r, qcos r, 0, 0⟩).mul ⟨qcos k, qsin k, -qsin k, qcos k, 0, 0⟩) = dsix q := by
  rcases h with ⟨rfl, rfl⟩ | ⟨rfl, rfl⟩ | ⟨rfl, rfl⟩ | ⟨rfl, rfl⟩
  · exact back0
  · exact back1
  · exact back2
  · exact back3
noncomputable def Mark : Prop := True
noncomputable abbrev mT (m : Str → Option Value) (R U : Int) (tr tu : Tok) (vt : Option Value) : Str → Option Value := fun z => if z = Str.ofString "up" then some (.int U tu) else if z = Str.ofString "right" then some (.int R tr) else if z = Str.ofString "turn" then vt else m z
/-- what the loop makes, all its ways in one -/
theorem turn_cut {prog : Program} {A : Around} {st : Sem Flow} {Q : Flow → Shared → Prop} {E : Value → Shared → Prop} {s : Shared} {g : Heap} {L : Addr} {m : Str → Option Value} {news : Led} {r q x y : Int} {tx ty : Tok} (_ : Rel4 r q) (_ : Fr g L s.heap m) (_ : News g L s.heap news) (_ : m (Str.ofString "right") = some (.int x tx)) (_ : m (Str.ofString "up") = some (.int y ty))
    (h1 : ∀ (Q' : Flow → Shared → Prop), Mark → (∀ R U tr tu vt h' tk', R = rotX r x y → U = rotY r x y → Fr g L h' (mT m R U tr tu vt) → News g L h' news → Q' .next { s with heap := h', toks := tk' }) → wpAny (model prog w) A st Q' E s)
    (h2 : ∀ R U tr tu vt h' tk', R = rotX r x y → U = rotY r x y → Fr g L h' (mT m R U tr tu vt) → News g L h' news → Q .next { s with heap := h', toks := tk' }) : wpAny (model prog w) A st Q E s := h1 Q trivial h2
theorem fr_map {h₀ h : Heap} {L : Addr} {m m' : Str → Option Value} (F : Fr h₀ L h m) (e : ∀ z, m z = m' z) : Fr h₀ L h m' := funext e ▸ F
theorem KY2setup3 : True := by
  k_with "call ref" => ((k_here; (with_reducible show wpAny _ _ (call (Value.ref 278) _) _ _ _); k_dflt (refine' (c_quarter ?hrw252) _ _ _ _ _ _ _ _ _ _ _ _ _ _ _ _ _ _ ?kB ?kF ?kX ?kN ?kT ?kK ?kpw252 ?kd ?ku ?_; k_extra "sid"; (case kpw252 => exact trivial); (case hrw252 => with_reducible assumption); k_whole; intro M9 ok9 h9 tk9 F9 N9; (try k_sweep))))
  trivial
/-- what the ledger keeps, whatever the pen is -/
@[irreducible] noncomputable def KeepsL (l : Led) (g : Obj → Led) : Prop := ∀ o, Sub l (g o)
theorem KeepsL.at {l : Led} {g : Obj → Led} {o : Obj} (h : KeepsL l g) : Sub l (g o) := by unfold KeepsL at h; exact h o
theorem KeepsL.of {l : Led} {g : Obj → Led} (h : ∀ o, Sub l (g o)) : KeepsL l g := by unfold KeepsL; exact h
theorem KY2setup4 : True := by
  k_with "my sub" => ((with_reducible refine' KeepsL.at ?kmhw253; (case kmhw253 => with_reducible assumption)))
  k_with "my hq" => (exact div_hq)
  k_with "my eq" => (with_reducible first | exact tn_any (by assumption) (by assumption) (by assumption) | exact tr_eq | exact sc_eq | exact sk_eq | exact back_any (by assumption))
  trivial
theorem mod4 (n : Int) : n.fmod 4 = 0 ∨ n.fmod 4 = 1 ∨ n.fmod 4 = 2 ∨ n.fmod 4 = 3 := fm4 n
theorem prune8 {h₀ h : Heap} {L : Addr} {a t : Addr × Obj} {b c d e f m keep : Led} (N : News h₀ L h (a :: (b ++ (c ++ (d ++ t :: (e ++ (f ++ (m ++ keep)))))))) : News h₀ L h keep :=
  News.sub N (.cons (.app (.app (.app (.cons (.app (.app (.app .refl))))))))
theorem KY2setup5 : True := by
  k_with "my prune" => (((with_reducible rename News _ _ _ (_ :: (_ ++ (_ ++ (_ ++ _ :: (_ ++ (_ ++ (_ ++ _))))))) => kP0); have kP := prune8 kP0; clear kP0))
  trivial
theorem unrEnd_my2 {h₀ : Heap} {L I : Addr} {it : Obj} {rest : (Str → Option Value) → Led → Prop} {s₁ : Shared} {h' : Heap} {tk : Nat} {m' : Str → Option Value} {all news' : Led} (F : Fr h₀ L h' m') (N : News h₀ L h' all)
    (l1 : ∀ p ∈ news', @LT.lt Nat _ p.1 I) (sub : Sub ((I, it) :: news') all) (r : rest m' news') : UnrEnd h₀ L s₁ I it rest { s₁ with heap := h', toks := tk } :=
  UnrEnd.intro F N news' sub.mem (fun p hp => Nat.ne_of_lt (l1 p hp)) r
theorem KY2setup6 : True := by
  k_with "UnrEnd" => ((k_dflt (refine' unrEnd_my2 ?Fw254 ?Nw254 ?lw254 ?subw254 ?_; (case Fw254 => k_asm); (case Nw254 => k_asm); (case lw254 => assumption); (case subw254 => k_extra "my keep"))))
  trivial
section
theorem KY2setup7 : True := by
  k_with "call ref" => ((k_here; (with_reducible show wpAny _ _ (call (Value.ref 344) _) _ _ _); k_dflt (refine' (c_law_draw ?hmw255 ?hm2w255 ?hkw255 ?ivw255 ?hlw255 ?pow255) _ _ _ _ _ _ _ _ _ _ _ _ _ _ _ _ _ _ ?kB ?kF ?kX ?kN ?kT ?kK ?kpw255 ?kd ?ku ?_; k_extra "sid"; (case pow255 => with_reducible assumption); (case ivw255 => with_reducible assumption); (case hlw255 => with_reducible assumption); (case hmw255 => decide); (case hm2w255 => decide); (case hkw255 => omega); (case kpw255 => refine' ⟨?kpaw255, ?kpbw255⟩; (case kpaw255 => walk_at "my updf"); (case kpbw255 => k_extra "my keeps")); k_whole; intro o9 d9 t9 po9 dl9 dh9 h9 tk9 F9 N9; obtain ⟨r9, q9, hr9, hq9, hl9⟩ := turn_r (d9 - 4); (try k_sweep))))
  k_with "binaryOp Mod int int" => ((k_here; with_reducible refine mod_known (by with_reducible assumption) ?_))
  k_with "exec For Name Call cons nil" => ((k_here; (fail_if_success (have := (by with_reducible assumption : Mark))); refine stopP ?_))
  trivial
set_option maxHeartbeats 2000000 in
theorem c_law_turns {M : MatL} {q : Six} {b : Nat} {p c : Addr} {o : Obj} {g : Obj → Led} {vs : List Value} {ns : List Int} {nc : Nat} {k : Nat} (hb : b ≤ 20) (ok : MatOK M q b) (hk : k + 10 ≤ 500) (iv : IntsAre vs ns) (hl : ns.length ≤ 63) (po : PenAt c k o) :
    Ct w mean mg mb 16 (.ref 418) [.ref M.x, .ref p] (fun news => UpdF p o news g ∧ Keeps (c, listOf vs.toArray nc) g ∧ KeepsL (matL w M) g)
     (fun Q news => ∀ o', PenAt c (k + 7) o' → Q (.bool true) (g o')) := by
  unfold Ct; k_fill; intro dp un gd cn cs a ccd cl outer A₀ base h₀ L m news s Q E B F X N T hk hpre hd hu hret
  obtain ⟨hU, hC, hM⟩ := hpre
  refine wpAny_call ?_
  k_dflt (refine' code_defN [Str.ofString "m", Str.ofString "pen"] ?k1 ?k2 ?k3 ?k4 ?k5 ?kA ?kF ?kK ?k6 ?k7 ?k8 ?k9 ?kB ?_ ?c2 ?c3 ?c4 ?c5; (case kA => exact rfl); (case kF => exact rfl); (case kK => assumption); (case k1 => k_asm); (case k2 => k_asm); (case k3 => k_asm); (case k4 => k_asm); (case k5 => k_asm); (case k6 => k_is); (case k7 => k_is); (case k8 => ktr_room); (case k9 => exact BindsTo.of_eq rfl); (case c5 => decide); (case kB => exact locs rfl); (case c2 => exact rfl); (case c3 => exact rfl); (case c4 => exact rfl); k_whole; intro g' L' h' FG' F' N' B' X' T'; (try dsimp only); (try k_fold); (refine wp_letA ?_); intro A2)
  k_steps
  unfold StopP
  (with_reducible rename Fr _ _ _ _ => kF)
  (with_reducible rename News _ _ _ _ => kN)
  (rename Rel4 _ _ => hrel)
  refine turn_cut hrel kF kN rfl rfl (fun Q' mk' hq' => ?_) fun R U tr tu vt h9 tk9 hR hU F9 N9 => ?_
  · rcases hrel with ⟨e1, e2⟩ | ⟨e1, e2⟩ | ⟨e1, e2⟩ | ⟨e1, e2⟩
    all_goals (
      subst e1 e2
      k_steps
      (with_reducible rename Fr _ _ _ _ => kF')
      (with_reducible rename News _ _ _ _ => kN')
      refine' hq' _ _ _ _ _ _ _ rfl rfl (fr_map kF' ?e) (News.sub kN' (by k_extra "my keep"))
      case e =>
        intro z
        by_cases h1 : z = Str.ofString "up"
        · subst h1; exact rfl
        by_cases h2 : z = Str.ofString "right"
        · subst h2; exact rfl
        by_cases h3 : z = Str.ofString "turn"
        · subst h3; exact rfl
        simp +zetaDelta only [if_neg h1, if_neg h2, if_neg h3])
  clear kF kN
  k_steps
  all_goals ((with_reducible rename Fr h₀ L _ m => kF); (with_reducible rename News h₀ L _ _ => kN); (try dsimp only at kF kN); exact hret _ (by assumption) _ _ kF (News.sub kN (by k_extra "my keep")))
end
end

end
section
open PySem PySem.W PyProof.Rows PySem.Calls PySem.Spec

section
variable {w : World} {mean : ExcName → Option Value} {mg mb : Str → Option Value}
theorem KB16setup1 : True := by
  k_with "call builtin:abs" => (((with_reducible refine call_abs_nat ?_); intro _ _))
  k_with "my lt" => (first | with_reducible assumption | exact ten_lt)
  k_with "binaryOp FloorDiv int int" => ((k_here; (with_reducible refine floordiv_int ?hbw256 ?_ (Or.inl (PyProof.noPylong_of_log2 ?hlw256))); (case hbw256 => omega); (case hlw256 => refine' log_bd ?kmxw256 ?kmyw256; (case kmxw256 => k_extra "my lt"); (case kmyw256 => omega))))
  k_with "binaryOp Mod int int" => ((k_here; (with_reducible refine mod_int' ?kmxw257 ?_); (case kmxw257 => first | with_reducible assumption | omega)))
  k_with "my two" => ((intro y; (try dsimp +zetaDelta only); (repeat' split) <;> first | rfl | (simp_all; done)))
  trivial
/-- divides some power of ten -/
noncomputable def Tens (n : Int) : Prop := ∃ k, n.natAbs ∣ 10 ^ k
structure EnW (b : Int) (E : Prop) (v : Int) : Prop where
  p : 0 < v
  le : v ≤ b.natAbs
  i : Tens v ↔ E
theorem tens_start {t b : Int} (hb : b ≠ 0) : EnW b (Ends ((t : Rat) / b)) (restOf t b : Int) := by
  have h := rest_pos (a := t) hb
  have h2 := rest_le (a := t) (b := b)
  refine ⟨by lia, by lia, ?_⟩
  rw [ends_iff hb]
  rfl
theorem tens_div {v p : Int} (hv : 0 < v) (hp : p = 2 ∨ p = 5) (h : v.fmod p = 0) : Tens (v.fdiv p) ↔ Tens v := by
  have hp0 : 0 < p := by lia
  obtain ⟨u, rfl⟩ := Int.dvd_of_fmod_eq_zero h
  have hu : 0 < u := Int.pos_of_mul_pos_right hv hp0 |> fun x => x
  rw [Int.mul_fdiv_cancel_left _ (by lia)]
  unfold Tens
  rw [Int.natAbs_mul]
  constructor
  · rintro ⟨k, hk⟩
    refine ⟨k + 1, ?_⟩
    rw [Nat.pow_succ, Nat.mul_comm]
    exact Nat.mul_dvd_mul hk (by rcases hp with rfl | rfl <;> decide)
  · rintro ⟨k, hk⟩
    exact ⟨k, Nat.dvd_trans ⟨_, Nat.mul_comm ..⟩ hk⟩
theorem enw_step {b v p : Int} {E : Prop} (h : EnW b E v) (hp : p = 2 ∨ p = 5) (hz : v.fmod p = 0) : EnW b E (v.fdiv p) ∧ (v.fdiv p).toNat < v.toNat := by
  have hp0 : 0 < p := by lia
  have hi := tens_div h.p hp hz
  have hv := h.p
  have hl := h.le
  obtain ⟨u, rfl⟩ := Int.dvd_of_fmod_eq_zero hz
  rw [Int.mul_fdiv_cancel_left _ (by lia)] at hi ⊢
  rcases hp with rfl | rfl <;> exact ⟨⟨by lia, by lia, hi.trans h.i⟩, by lia⟩
theorem enw_odd {v : Int} (h5 : v.fmod 5 = 0) (h : ¬ v.fmod 2 = 0) : ¬ (v.fdiv 5).fmod 2 = 0 := by
  rw [Int.fmod_eq_emod_of_nonneg _ (by decide)] at h h5 ⊢
  rw [Int.fdiv_eq_ediv_of_nonneg _ (by decide)]
  lia
theorem enw_end {b v : Int} {E : Prop} (h : EnW b E v) (h2 : ¬ v.fmod 2 = 0) (h5 : ¬ v.fmod 5 = 0) : v = 1 ↔ E := by
  rw [Int.fmod_eq_emod_of_nonneg _ (by decide)] at h2 h5
  have hv := h.p
  rw [← h.i]
  constructor
  · rintro rfl; exact ⟨0, by decide⟩
  · rintro ⟨k, hk⟩
    have := one_of_dvd (by lia) (by lia) k hk
    lia
section
variable {prog : Program} {A : Around} {E : Value → Shared → Prop} {env : Env} {test : PySem.Expr} {body : List Stmt} {Q : Flow → Shared → Prop} {pos : Pos} {g : Heap} {L : Addr} {m : Str → Option Value} {news : Led} {s : Shared}
theorem while_rest (p : Int) (P : Int → Prop) {v : Int} {t : Tok} (F : Fr g L s.heap m) (N : News g L s.heap news) (hp : ∃ t', m (Str.ofString "prime") = some (.int p t')) (hx : m (Str.ofString "rest") = some (.int v t)) (hv : P v) (hE : PassesOwn (model prog w) A env E)
    (step : ∀ v t h tk R, P v → Fr g L h (fun y => if y = Str.ofString "rest" then some (.int v t) else m y) → News g L h news →
      (∀ v' t' h' tk', P v' → v'.toNat < v.toNat → Fr g L h' (fun y => if y = Str.ofString "rest" then some (.int v' t') else m y) → News g L h' news → R { s with heap := h', toks := tk' }) →
      WhTurn prog w A E env test body Q R { s with heap := h, toks := tk }) :
    wpAny (model prog w) A (exec (.While test body [] pos) env) Q E s := while_one (Str.ofString "rest") P Int.toNat F N hx hv hE step
end
theorem floordiv_gcd {prog : Program} {A : Around} {E : Value → Shared → Prop} {s : Shared} {a b v u : Int} {c : Nat} {t k : Tok} {Q : Value → Shared → Prop} (hg : Int.gcd v u = Int.gcd a b) (hv : 0 ≤ v) (hu : u = 0) (hb : b ≠ 0) (hbb : Bd b c) (hc : c ≤ 500)
    (h : Q (.int (restOf a b : Int) s.toks) { s with toks := s.toks + 1 }) : wpAny (model prog w) A (binaryOp .FloorDiv (.int (b.natAbs : Int) t) (.int v k)) Q E s := by
  subst hu
  obtain rfl : v = (Int.gcd a b : Int) := by rw [← hg, Int.gcd_zero_right]; lia
  have hg := gcd_pos (a := a) hb
  refine floordiv_int (by lia) ?_ (Or.inl (PyProof.noPylong_of_log2 ?_))
  · rw [Int.fdiv_eq_ediv_of_nonneg _ (by lia)]
    exact h
  · have hle : Int.gcd a b ≤ b.natAbs := Nat.le_of_dvd (by lia) (Nat.gcd_dvd_right ..)
    have := hbb.lt
    exact log_bd (c := c) (.of (by lia)) (by lia)
theorem iter_listMy {prog : Program} {A : Around} {E : Value → Shared → Prop} {s : Shared} {env : Env} {h₀ : Heap} {x : Str} {body : List Stmt} {Q : Flow → Shared → Prop} {ax : Addr} {vs : List Value} {n : Nat} {m₀ : Str → Option Value} {news : Led}
    (hh : A.handled = none) (F : Fr h₀ env.locals s.heap m₀) (N : News h₀ env.locals s.heap news) (hm : (ax, listOf vs.toArray n) ∈ news)
    (rest₀ : ∀ I : Addr, (∀ p ∈ news, p.1 < I) → ListRest prog w A E h₀ env x body Q s I (ax, listOf vs.toArray n) vs m₀ news) :
    wpAny (model prog w) A (pyIter (.ref ax)) (fun it s₂ => LoopAtV prog w A h₀ env x body Q E it s₂) E s := iter_listUnr hh F N hm rfl rfl rest₀
theorem unrEnd_my {h₀ : Heap} {L I : Addr} {it : Obj} {rest : (Str → Option Value) → Led → Prop} {s₁ : Shared} {h' : Heap} {tk : Nat} {m' : Str → Option Value} {all news' : Led} (F : Fr h₀ L h' m') (N : News h₀ L h' all)
    (l1 : ∀ p ∈ news', @LT.lt Nat _ p.1 I) (sub : Sub ((I, it) :: news') all) (r : rest m' news') : UnrEnd h₀ L s₁ I it rest { s₁ with heap := h', toks := tk } :=
  UnrEnd.intro F N news' sub.mem (fun p hp => Nat.ne_of_lt (l1 p hp)) r
section
theorem KB16setup2 : True := by
  k_with "exec For Name List cons nil" => ((k_here; (rename Fr _ _ _ _ => lF'); (with_unfolding_all refine' For_invVF lF' ?k1w258 ?k2w258 ?_; (case k1w258 => exact rfl); (case k2w258 => exact rfl); k_whole)))
  k_with "pyIter ref" => (((with_reducible show wpAny _ _ (pyIter (Value.ref _)) (fun it s₂ => LoopAtV _ _ _ _ _ _ _ _ _ it s₂) _ _); (rename Fr _ _ _ _ => lF'); (rename News _ _ _ _ => lN'); k_dflt (refine' iter_listMy ?h0w259 lF' lN' ?hmw259 ?_; (case h0w259 => rfl); (case hmw259 => k_mem)); clear lF' lN'; intro i' l1))
  k_with "UnrEnd" => ((k_dflt (refine' unrEnd_my ?Fw260 ?Nw260 ?lw260 ?subw260 ⟨?mw260, ?_⟩; (case Fw260 => k_asm); (case Nw260 => k_asm); (case lw260 => assumption); (case subw260 => k_extra "my keep"); (case mw260 => k_mem))))
  k_with "binaryOp FloorDiv int int" => ((k_here; refine' floordiv_gcd ?kmxw261 ?kmyw261 ?kmzw261 ?kmww261 ?kmuw261 ?kmvw261 ?_; (case kmxw261 => with_reducible assumption); (case kmyw261 => with_reducible assumption); (case kmzw261 => omega); (case kmww261 => with_reducible assumption); (case kmuw261 => with_reducible assumption); (case kmvw261 => assumption)))
  trivial
set_option maxHeartbeats 1000000 in
theorem c_law_ends {t b : Int} {k1 k2 : Tok} {c : Nat} (hb : b ≠ 0) (hbb : Bd b c) (hc : c ≤ 500) :
    Ct w mean mg mb 1 (.ref 401) [.int t k1, .int b k2] (fun _ => True)
     (fun Q news => ∀ r, (r = true ↔ Ends ((t : Rat) / b)) → Q (.bool r) news) := by
  unfold Ct; k_fill; intro dp un gd cn cs a ccd cl outer A₀ base h₀ L m news s Q E B F X N T hk hpre hd hu hret
  have hn := Bd.lt hbb
  refine wpAny_call ?_
  k_dflt (refine' code_defN [Str.ofString "top", Str.ofString "below"] ?k1 ?k2 ?k3 ?k4 ?k5 ?kA ?kF ?kK ?k6 ?k7 ?k8 ?k9 ?kB ?_ ?c2 ?c3 ?c4 ?c5; (case kA => exact rfl); (case kF => exact rfl); (case kK => assumption); (case k1 => k_asm); (case k2 => k_asm); (case k3 => k_asm); (case k4 => k_asm); (case k5 => k_asm); (case k6 => k_is); (case k7 => k_is); (case k8 => ktr_room); (case k9 => exact BindsTo.of_eq rfl); (case c5 => decide); (case kB => exact locs rfl); (case c2 => exact rfl); (case c3 => exact rfl); (case c4 => exact rfl); k_whole; intro g' L' h' FG' F' N' B' X' T'; (try dsimp only); (try k_fold); (refine wp_letA ?_); intro A2)
  k_with "my while" => (
    (with_reducible rename Fr _ _ _ _ => kF)
    (with_reducible rename News _ _ _ _ => kN)
    first
    | (refine' while_rest 5 (fun v => EnW b (Ends ((t : Rat) / b)) v ∧ ¬ v.fmod 2 = 0) kF kN ?hp ?hx ?hv ?hE ?_
       (case hp => exact ⟨_, rfl⟩)
       (case hx => rfl)
       (case hv => exact ⟨by assumption, by assumption⟩)
       (case hE => first | passes_own | with_unfolding_all passes_own)
       clear kF kN
       intro v5 t5 h5 tk5 R5 hP F8 N8 hR5
       obtain ⟨p1, p2⟩ := hP
       have p3 := EnW.p p1
       have p4 : Bd v5 c := .of (by have := EnW.le p1; omega))
    | (refine' while_rest 2 (EnW b (Ends ((t : Rat) / b))) kF kN ?hp ?hx ?hv ?hE ?_
       (case hp => exact ⟨_, rfl⟩)
       (case hx => rfl)
       (case hv => exact tens_start hb)
       (case hE => first | passes_own | with_unfolding_all passes_own)
       clear kF kN
       intro v2 t2 h2 tk2 R2 p1 F8 N8 hR2
       have p3 := EnW.p p1
       have p4 : Bd v2 c := .of (by have := EnW.le p1; omega))
    | (refine' while_two (Str.ofString "one") (Str.ofString "two") (fun v u => 0 ≤ v ∧ 0 ≤ u ∧ Int.gcd v u = Int.gcd t b) (fun _ u => u.toNat) kF kN ?hx ?hz ?hv ?hE ?_
       (case hx => rfl)
       (case hz => rfl)
       (case hv => (refine ⟨Int.natCast_nonneg _, Int.natCast_nonneg _, ?_⟩; simp [Int.gcd]))
       (case hE => first | passes_own | with_unfolding_all passes_own)
       clear kF kN
       intro v u k k' h tk R hP F8 N8 hR
       obtain ⟨p1, p2, p3⟩ := hP))
  k_steps
  · show R _
    have hu0 : 0 < u := by omega
    (with_reducible rename Fr g' L' _ _ => kF)
    (with_reducible rename News g' L' _ _ => kN)
    exact hR _ _ _ _ _ _ ⟨p2, Int.fmod_nonneg_of_pos _ hu0, (gcd_step p1 hu0).trans p3⟩ (toNat_lt hu0 (Int.fmod_lt_of_pos v hu0)) (Fr.as kF (by k_extra "my two")) (News.sub kN (by k_extra "my keep"))
  · show R2 _
    (with_reducible rename Fr g' L' _ _ => kF)
    (with_reducible rename News g' L' _ _ => kN)
    have hs := enw_step p1 (.inl rfl) (by assumption)
    exact hR2 _ _ _ _ hs.1 hs.2 (Fr.as kF (by k_extra "my two")) (News.sub kN (by k_extra "my keep"))
  · show R5 _
    (with_reducible rename Fr g' L' _ _ => kF)
    (with_reducible rename News g' L' _ _ => kN)
    have hz : v5.fmod 5 = 0 := by assumption
    have hs := enw_step p1 (.inr rfl) hz
    exact hR5 _ _ _ _ ⟨hs.1, enw_odd hz p2⟩ hs.2 (Fr.as kF (by k_extra "my two")) (News.sub kN (by k_extra "my keep"))
  · (with_reducible rename Fr h₀ L _ m => kF)
    (with_reducible rename News h₀ L _ _ => kN)
    exact hret _ (by rw [beq_iff_eq]; exact enw_end p1 p2 (by assumption)) _ _ kF (News.sub kN (by k_extra "my keep"))
end
end

end
section
open PySem PySem.W PyProof.Rows PySem.Calls PySem.Spec PySem.SeqAt
section
variable {prog : Program} {w : World} {A : Around} {E : Value → Shared → Prop} {s : Shared} {h₀ : Heap} {L : Addr} {m : Str → Option Value} {env : Env}
/-- pairs (top, S) of the ledger, one for each top -/
inductive PairsAt (nb : Led) (S : Int) : List Value → List Int → Prop where
  | nil : PairsAt nb S [] []
  | cons {t : Addr} {T : Int} {k1 k2 : Tok} {vs : List Value} {Ts : List Int} (h : (t, tupOf [.int T k1, .int S k2]) ∈ nb) (r : PairsAt nb S vs Ts) : PairsAt nb S (.ref t :: vs) (T :: Ts)
open LCt LCg in
theorem rest_all {ct elt : PySem.Expr} {x : Str} {scope : Scope} {cl : List (Str × Addr)} {ax : Addr} {its : List Value} {Ts : List Int} {S : Int} {nb : Led} {Fin : List Value → Led → Prop} {na : Nat} {news : Led}
    (hax : (ax, listOf its.toArray na) ∈ nb) (hT : PairsAt nb S its Ts) (hnb : Sub nb news)
    (turn : ∀ (t : Addr) (T : Int) (k1 k2 : Tok) (G : List Value → Led → Prop) (I : Addr) (oI : Obj) (C : Addr) (oC : Obj) (D : Addr) (m₂ : Str → Option Value) (h : Heap) (tk : Nat) (E' : Value → Shared → Prop) (ys : List Value) (news : Led),
      (t, tupOf [.int T k1, .int S k2]) ∈ nb → Sub nb news → T ∈ Ts → NsObj oC m₂ → m₂ x = some (.ref t) → Fr h₀ L h m → News h₀ L h ((I, oI) :: (C, oC) :: (D, lst ys) :: news) → Off3 I C D news → ((@Ne Nat I C) ∧ (@Ne Nat I D) ∧ (@Ne Nat C D)) →
      (¬ Ends ((T : Rat) / S) → ∀ news', Sub nb news' → G (ys ++ [.ref t]) news') → (Ends ((T : Rat) / S) → ∀ news', Sub nb news' → G ys news') →
      wpAny (model prog w) A (isTrue ct (compEnvC scope cl C env) (eval ct (compEnvC scope cl C env))) (fun ok s' => if ok = true then
        wpAny (model prog w) A (eval elt (compEnvC scope cl C env)) (CompEnd h₀ L m { s with heap := h, toks := tk } I oI C oC D (lst ys) (Sub nb) (fun y news' => G (ys ++ [y]) news')) E' s'
        else CompEnd h₀ L m { s with heap := h, toks := tk } I oI C oC D (lst ys) (Sub nb) (fun _ news' => G ys news') Value.none s') E' { s with heap := h, toks := tk })
    (fin : ∀ ys news', Sub nb news' → (∀ y ∈ ys, y ∈ its) → (ys = [] ↔ ∀ T ∈ Ts, Ends ((T : Rat) / S)) → Fin ys news') :
    CompRestT prog w A h₀ L m env ct elt x scope cl s (SrcAt h₀ ax its.toArray) (fun i v => its.toArray[i]? = some v) Fin its.length 0 [] news := by
  have sx : ∀ nw, Sub nb nw → SrcAt h₀ ax its.toArray nw := fun nw k => .inr ⟨_, k.mem _ hax, rfl, na, rfl⟩
  have ce : ∀ {s₁ : Shared} {I C D : Addr} {oI oC oD : Obj} {rest : Value → Led → Prop} {y : Value} {s₂ : Shared}, CompEnd h₀ L m s₁ I oI C oC D oD (Sub nb) rest y s₂ → CompEnd h₀ L m s₁ I oI C oC D oD (SrcAt h₀ ax its.toArray) rest y s₂ :=
    fun z => by obtain ⟨h', tk, nw, a, b, c, d, e, f⟩ := z; exact ⟨h', tk, nw, a, b, c, d, sx _ e, f⟩
  have go : ∀ (vs : List Value) (Us : List Int), PairsAt nb S vs Us → (∀ U ∈ Us, U ∈ Ts) → ∀ (pre : List Value) (ys : List Value) (news : Led), its = pre ++ vs → (∀ y ∈ ys, y ∈ its) → Sub nb news → ((ys = [] ∧ ∀ U ∈ Us, Ends ((U : Rat) / S)) ↔ ∀ T ∈ Ts, Ends ((T : Rat) / S)) →
      CompRestT prog w A h₀ L m env ct elt x scope cl s (SrcAt h₀ ax its.toArray) (fun i v => its.toArray[i]? = some v) Fin vs.length pre.length ys news := by
    intro vs Us hP
    induction hP with
    | nil =>
      intro _ pre ys news e hy k hi
      exact CompRestT.zero (fin ys news k hy ((and_iff_left (fun _ h => nomatch h)).symm.trans hi))
    | @cons t T k1 k2 vs Us hm r ih =>
      intro hin pre ys news e hys k hi
      have nxt : pre.length + 1 = (pre ++ [Value.ref t]).length := by rw [List.length_append]; rfl
      have e2 : its = (pre ++ [Value.ref t]) ++ vs := by rw [e, List.append_assoc]; rfl
      refine CompRestT.succ fun v I oI C oC D m₂ h tk E' hv hC hx F N off ne => ?_
      obtain rfl : v = .ref t := by
        rw [e] at hv
        simpa using hv.symm
      refine wpAny_mono (turn t T k1 k2 (fun ys' news' => CompRestT prog w A h₀ L m env ct elt x scope cl s (SrcAt h₀ ax its.toArray) (fun i v => its.toArray[i]? = some v) Fin vs.length (pre.length + 1) ys' news') I oI C oC D m₂ h tk E' ys news
        hm k (hin T (.head _)) hC hx F N off ne (fun hn news' k' => ?_) (fun hy news' k' => ?_)) (fun ok s' hs => ?_) fun _ _ z => z
      · rw [nxt]
        refine ih (fun U hU => hin U (.tail _ hU)) _ _ _ e2 (fun y hy => (List.mem_append.mp hy).elim (hys y) fun z => by rw [List.mem_singleton.mp z, e]; exact List.mem_append_right _ (.head _)) k' ⟨fun z => ?_, fun z => absurd (z T (hin T (.head _))) hn⟩
        have := z.1
        simp at this
      · rw [nxt]
        refine ih (fun U hU => hin U (.tail _ hU)) _ _ _ e2 hys k' (Iff.trans ⟨fun z => ⟨z.1, fun U hU => ?_⟩, fun z => ⟨z.1, fun U hU => z.2 U (.tail _ hU)⟩⟩ hi)
        rcases List.mem_cons.mp hU with rfl | hU
        · exact hy
        · exact z.2 U hU
      · cases ok with
        | true =>
          rw [if_pos rfl] at hs ⊢
          exact wpAny_mono hs (fun _ _ z => ce z) fun _ _ z => z
        | false =>
          rw [if_neg (by decide)] at hs ⊢
          exact ce hs
  exact go its Ts hT (fun _ h => h) [] [] news rfl (fun _ h => nomatch h) hnb ⟨fun z => z.2, fun z => ⟨rfl, z⟩⟩
theorem PairsAt.says {nb : Led} {S : Int} {vs : List Value} {Ts : List Int} (h : PairsAt nb S vs Ts) : ∀ v ∈ vs, ∃ d, Says nb v d ∧ Shp d 2 := by
  induction h with
  | nil => exact fun _ h => nomatch h
  | @cons t T k1 k2 vs Ts hm r ih =>
    intro v hv
    rcases List.mem_cons.mp hv with rfl | hv
    · exact ⟨.tuple [.int T, .int S], Says.tuple (n := 0) hm (.cons .int (.cons .int .nil)), .tuple (.cons .int (.cons .int .nil))⟩
    · exact ih v hv
theorem says_all {nb : Led} : ∀ (ys : List Value), (∀ y ∈ ys, ∃ d, Says nb y d ∧ Shp d 2) → ∃ ds, SaysAll nb ys ds ∧ ShpAll ds 2 ∧ (ds = [] ↔ ys = [])
  | [], _ => ⟨[], .nil, .nil, by simp⟩
  | y :: ys, h => by
    obtain ⟨d, h1, h2⟩ := h y (.head _)
    obtain ⟨ds, h3, h4, _⟩ := says_all ys fun z hz => h z (.tail _ hz)
    exact ⟨d :: ds, .cons h1 h3, .cons h2 h4, by simp⟩
theorem ne_empty {news : Led} {L : Addr} {v1 v2 : Value} {ds : List PyData} {Q : Value → Shared → Prop} (N : News h₀ L s.heap news) (S1 : Says news v1 (.list ds)) (S2 : Says news v2 (.list [])) (hs : ShpAll ds 2) (hu : A.units + 64 < cLine) (hN : ds = [] → Q (.bool false) s) (hY : ds ≠ [] → Q (.bool true) s) :
    wpAny (model prog w) A (compareOp .NotEq v1 v2) Q E s := by
  obtain ⟨as, r1⟩ := S1.reads N
  obtain ⟨bs, r2⟩ := S2.reads N
  refine ne_dataH r1 r2 ((Shp.list hs).shaped (by decide)) ((Shp.list ShpAll.nil (n := 2)).shaped (by decide)) hu ?_
  cases ds with
  | nil => exact hN rfl
  | cons d ds => exact hY (by simp)
end

end
section
open PySem PySem.W PyProof.Rows PySem.Calls PySem.Spec
/-- a matrix of six whole hundredths -/
structure SixAt (q : Six) (a b c d e f : Int) : Prop where
  ha : q.a = (a : Rat) / 100
  hb : q.b = (b : Rat) / 100
  hc : q.c = (c : Rat) / 100
  hd : q.d = (d : Rat) / 100
  he : q.e = (e : Rat) / 100
  hf : q.f = (f : Rat) / 100
section
variable {q : Six} {a b c d e f x y : Int}
theorem h_p2 : (10 : Rat) ^ Int.toNat 2 = 100 := rfl
theorem h_p4 : (10 : Rat) ^ Int.toNat 4 = 10000 := rfl
theorem det_is (h : SixAt q a b c d e f) : q.a * q.d - q.b * q.c = ((a * d - b * c : Int) : Rat) / 10000 := by
  rw [h.ha, h.hb, h.hc, h.hd, Rat.intCast_sub, Rat.intCast_mul, Rat.intCast_mul]
  grind
theorem det_hq (h : SixAt q a b c d e f) : dq (q.a * q.d - q.b * q.c) = dq (((a * d - b * c : Int) : Rat) / 10 ^ Int.toNat 4) := by
  rw [det_is h, h_p4]
theorem inv_h1 (h : SixAt q a b c d e f) : (q.d * ((x : Rat) / 10 ^ Int.toNat 2 - q.e) - q.c * ((y : Rat) / 10 ^ Int.toNat 2 - q.f)) * ((a * d - b * c : Int) : Rat) = (q.a * q.d - q.b * q.c) * ((d * (x - e) - c * (y - f) : Int) : Rat) := by
  rw [det_is h, h.hd, h.hc, h.he, h.hf, h_p2]
  simp only [Rat.intCast_sub, Rat.intCast_mul]
  grind
theorem inv_h2 (h : SixAt q a b c d e f) : (q.a * ((y : Rat) / 10 ^ Int.toNat 2 - q.f) - q.b * ((x : Rat) / 10 ^ Int.toNat 2 - q.e)) * ((a * d - b * c : Int) : Rat) = (q.a * q.d - q.b * q.c) * ((a * (y - f) - b * (x - e) : Int) : Rat) := by
  rw [det_is h, h.ha, h.hb, h.he, h.hf, h_p2]
  simp only [Rat.intCast_sub, Rat.intCast_mul]
  grind
theorem det_ne (h : SixAt q a b c d e f) (h0 : a * d - b * c ≠ 0) : q.a * q.d - q.b * q.c ≠ 0 := by
  rw [det_is h]
  have := cast_ne h0
  grind
theorem det_zero (h : SixAt q a b c d e f) (h0 : a * d - b * c = 0) : q.a * q.d - q.b * q.c = 0 := by
  rw [det_is h, h0, Rat.intCast_zero]
  grind
theorem isInv_y (h : SixAt q a b c d e f) (h0 : a * d - b * c ≠ 0) : isInv q = true := by
  unfold isInv
  exact decide_eq_true (det_ne h h0)
theorem isInv_n (h : SixAt q a b c d e f) (h0 : a * d - b * c = 0) : isInv q = false := by
  unfold isInv
  exact decide_eq_false (fun z => z (det_zero h h0))
theorem isInv_b (h : SixAt q a b c d e f) : isInv q = (a * d - b * c != 0) := by
  by_cases h0 : a * d - b * c = 0
  · rw [isInv_n h h0, h0]; rfl
  · rw [isInv_y h h0, bne_iff_ne.mpr h0]
theorem hund_zero {n : Int} : ((n : Rat) / 100 = 0) ↔ n = 0 := by
  constructor
  · intro z
    by_cases h : n = 0
    · exact h
    · have := cast_ne h
      grind
  · rintro rfl
    rw [Rat.intCast_zero]
    grind
theorem isStr_i (h : SixAt q a b c d e f) : isStr q = decide ((b = 0 ∧ c = 0) ∨ (a = 0 ∧ d = 0)) := by
  unfold isStr
  rw [h.ha, h.hb, h.hc, h.hd]
  simp only [hund_zero]
noncomputable abbrev nums (a b c d e f : Int) : List Int := [100 * d, -100 * b, -100 * c, 100 * a, c * f - d * e, b * e - a * f]
theorem nums_iff (h : SixAt q a b c d e f) (h0 : a * d - b * c ≠ 0) : AllEnds q q.det ↔ ∀ T ∈ nums a b c d e f, Ends ((T : Rat) / ((a * d - b * c : Int) : Rat)) := by
  have hs := cast_ne h0
  have hD : q.det = ((a * d - b * c : Int) : Rat) / 10000 := det_is h
  have e1 : q.d / q.det = ((100 * d : Int) : Rat) / ((a * d - b * c : Int) : Rat) := by rw [hD, h.hd, Rat.intCast_mul]; generalize ((a * d - b * c : Int) : Rat) = S at *; grind
  have e2 : -q.b / q.det = ((-100 * b : Int) : Rat) / ((a * d - b * c : Int) : Rat) := by rw [hD, h.hb, Rat.intCast_mul]; generalize ((a * d - b * c : Int) : Rat) = S at *; grind
  have e3 : -q.c / q.det = ((-100 * c : Int) : Rat) / ((a * d - b * c : Int) : Rat) := by rw [hD, h.hc, Rat.intCast_mul]; generalize ((a * d - b * c : Int) : Rat) = S at *; grind
  have e4 : q.a / q.det = ((100 * a : Int) : Rat) / ((a * d - b * c : Int) : Rat) := by rw [hD, h.ha, Rat.intCast_mul]; generalize ((a * d - b * c : Int) : Rat) = S at *; grind
  have e5 : (q.d * (((0 : Int) : Rat) - q.e) - q.c * (((0 : Int) : Rat) - q.f)) / q.det = ((c * f - d * e : Int) : Rat) / ((a * d - b * c : Int) : Rat) := by
    rw [hD, h.hd, h.hc, h.he, h.hf]; simp only [Rat.intCast_sub (c * f), Rat.intCast_mul c f, Rat.intCast_mul d e]; generalize ((a * d - b * c : Int) : Rat) = S at *; grind
  have e6 : (q.a * (((0 : Int) : Rat) - q.f) - q.b * (((0 : Int) : Rat) - q.e)) / q.det = ((b * e - a * f : Int) : Rat) / ((a * d - b * c : Int) : Rat) := by
    rw [hD, h.ha, h.hb, h.he, h.hf]; simp only [Rat.intCast_sub (b * e), Rat.intCast_mul b e, Rat.intCast_mul a f]; generalize ((a * d - b * c : Int) : Rat) = S at *; grind
  constructor
  · rintro ⟨h1, h2, h3, h4, h5, h6⟩ T hT
    rw [e1] at h1; rw [e2] at h2; rw [e3] at h3; rw [e4] at h4; rw [e5] at h5; rw [e6] at h6
    simp only [List.mem_cons, List.not_mem_nil, or_false] at hT
    rcases hT with rfl | rfl | rfl | rfl | rfl | rfl <;> assumption
  · intro k
    refine ⟨?_, ?_, ?_, ?_, ?_, ?_⟩
    · rw [e1]; exact k _ (by simp)
    · rw [e2]; exact k _ (by simp)
    · rw [e3]; exact k _ (by simp)
    · rw [e4]; exact k _ (by simp)
    · rw [e5]; exact k _ (by simp)
    · rw [e6]; exact k _ (by simp)
theorem six_same (q : Six) {a b c d e f : Rat} (ha : q.a = a) (hb : q.b = b) (hc : q.c = c) (hd : q.d = d) (he : q.e = e) (hf : q.f = f) : dsix q = dsix ⟨a, b, c, d, e, f⟩ := by
  rw [← ha, ← hb, ← hc, ← hd, ← he, ← hf]
theorem back_one (h0 : q.det ≠ 0) : dsix (q.mul q.inv) = dsix ⟨1, 0, 0, 1, 0, 0⟩ := by
  have h1 : q.a * q.d - q.b * q.c = q.det := rfl
  unfold Six.mul Six.inv
  generalize q.det = S at h0 h1
  apply six_same <;> dsimp only <;> grind
theorem back_two (h0 : q.det ≠ 0) : dsix (q.inv.mul q) = dsix ⟨1, 0, 0, 1, 0, 0⟩ := by
  have h1 : q.a * q.d - q.b * q.c = q.det := rfl
  unfold Six.mul Six.inv
  generalize q.det = S at h0 h1
  apply six_same <;> dsimp only <;> grind
end

end
section
open PySem PySem.W PyProof.Rows PySem.Calls PySem.Spec
section
open PySem PySem.W PyProof.Rows PySem.Calls PySem.Spec
theorem KsidY4 : True := by
  k_with_none
  k_with "sid" => ((case kB => k_asm); (case kF => k_asm); (case kX => k_asm); (case kN => k_asm); (case kT => k_asm); (case kK => first | exact rfl | assumption); (case kd => ktr_room); (case ku => ktr_units))
  k_with "sidT" => ((case kB => k_asm); (case kXB => k_asm); (case kTB => k_asm); (case kG => first | with_reducible assumption | exact GroundOf.refl (by assumption)); (case kF => k_asm); (case kX => k_asm); (case kN => k_asm); (case kT => k_asm); (case kK => first | exact rfl | assumption); (case kd => ktr_room); (case ku => ktr_units))
  trivial
end

theorem KY4setup1 : True := by
  k_with "ktr_units" => ((have hcL9 := cLine_is; (try simp only [units_under_make, units_in1, units_deeper, Around.mark_units, units_caller]); (try dsimp only [ktrTop]); omega))
  k_with "ktr_room" => (((try simp only [depth_under_make, depth_under_kw, depth_in1, depth_deeper, depth_caller]); (try dsimp only [ktrTop]); omega))
  k_with "ktr_room" => (first | (refine' room_k 0 ?kmhw262 ?kmew262 ?kmkw262; (case kmhw262 => with_reducible assumption); (case kmew262 => exact rfl); (case kmkw262 => exact Nat.le_of_ble_eq_true rfl)) | (refine' room_k 1 ?kmhw262 ?kmew262 ?kmkw262; (case kmhw262 => with_reducible assumption); (case kmew262 => exact rfl); (case kmkw262 => exact Nat.le_of_ble_eq_true rfl)) | (refine' room_k 2 ?kmhw262 ?kmew262 ?kmkw262; (case kmhw262 => with_reducible assumption); (case kmew262 => exact rfl); (case kmkw262 => exact Nat.le_of_ble_eq_true rfl)) | (refine' room_k 3 ?kmhw262 ?kmew262 ?kmkw262; (case kmhw262 => with_reducible assumption); (case kmew262 => exact rfl); (case kmkw262 => exact Nat.le_of_ble_eq_true rfl)) | (refine' room_j 0 ?kmhw262 ?kmew262 ?kmkw262; (case kmhw262 => with_reducible assumption); (case kmew262 => exact rfl); (case kmkw262 => exact Nat.le_of_ble_eq_true rfl)) | (refine' room_j 1 ?kmhw262 ?kmew262 ?kmkw262; (case kmhw262 => with_reducible assumption); (case kmew262 => exact rfl); (case kmkw262 => exact Nat.le_of_ble_eq_true rfl)) | (refine' room_j 2 ?kmhw262 ?kmew262 ?kmkw262; (case kmhw262 => with_reducible assumption); (case kmew262 => exact rfl); (case kmkw262 => exact Nat.le_of_ble_eq_true rfl)) | exact Nat.le_of_ble_eq_true rfl)
  k_with "ktr_units" => (first | (refine' room_k 0 ?kmhw263 ?kmew263 ?kmkw263; (case kmhw263 => with_reducible assumption); (case kmew263 => exact rfl); (case kmkw263 => exact Nat.le_of_ble_eq_true rfl)) | (refine' room_k 3 ?kmhw263 ?kmew263 ?kmkw263; (case kmhw263 => with_reducible assumption); (case kmew263 => exact rfl); (case kmkw263 => exact Nat.le_of_ble_eq_true rfl)) | (refine' room_k 1 ?kmhw263 ?kmew263 ?kmkw263; (case kmhw263 => with_reducible assumption); (case kmew263 => exact rfl); (case kmkw263 => exact Nat.le_of_ble_eq_true rfl)) | (refine' room_k 4 ?kmhw263 ?kmew263 ?kmkw263; (case kmhw263 => with_reducible assumption); (case kmew263 => exact rfl); (case kmkw263 => exact Nat.le_of_ble_eq_true rfl)) | (refine' room_k 6 ?kmhw263 ?kmew263 ?kmkw263; (case kmhw263 => with_reducible assumption); (case kmew263 => exact rfl); (case kmkw263 => exact Nat.le_of_ble_eq_true rfl)) | (refine' room_k 7 ?kmhw263 ?kmew263 ?kmkw263; (case kmhw263 => with_reducible assumption); (case kmew263 => exact rfl); (case kmkw263 => exact Nat.le_of_ble_eq_true rfl)) | (refine' room_j 0 ?kmhw263 ?kmew263 ?kmkw263; (case kmhw263 => with_reducible assumption); (case kmew263 => exact rfl); (case kmkw263 => exact Nat.le_of_ble_eq_true rfl)) | (refine' room_j 3 ?kmhw263 ?kmew263 ?kmkw263; (case kmhw263 => with_reducible assumption); (case kmew263 => exact rfl); (case kmkw263 => exact Nat.le_of_ble_eq_true rfl)) | (refine' room_j 1 ?kmhw263 ?kmew263 ?kmkw263; (case kmhw263 => with_reducible assumption); (case kmew263 => exact rfl); (case kmkw263 => exact Nat.le_of_ble_eq_true rfl)) | (refine' room_j 4 ?kmhw263 ?kmew263 ?kmkw263; (case kmhw263 => with_reducible assumption); (case kmew263 => exact rfl); (case kmkw263 => exact Nat.le_of_ble_eq_true rfl)) | exact Nat.le_of_ble_eq_true rfl)
  k_with "my cls" => ((k_dflt (refine' call_cls ?k1w264 ?k2w264 ?k3w264 ?k4w264 ?k5w264 ?k6w264 ?_; (case k1w264 => k_asm); (case k2w264 => k_asm); (case k3w264 => k_asm); (case k4w264 => k_is); (case k5w264 => k_is); (case k6w264 => k_is); k_whole; intro x' d' h' F' N' l1 l2; (try k_lt l1); (try k_lt2 l2); (try k_sweep))))
  k_with "my enter" => ((refine wpAny_call ?_; k_dflt ktr_enter))
  k_with "my sub" => (first | with_reducible assumption | exact Sub.refl | exact Sub.here | (with_reducible refine' Sub.app ?kmhw265; (case kmhw265 => k_extra "my sub")) | (with_reducible refine' Sub.cons ?kmhw265; (case kmhw265 => k_extra "my sub")))
  k_with "my subt" => (first | (with_reducible refine' Sub.trans ?kmhw266 ?kmkw266; (case kmhw266 => with_reducible assumption); (case kmkw266 => (with_reducible refine' Sub.join ?kmaw266 ?kmbw266; (case kmaw266 => k_extra "my sub"); (case kmbw266 => k_extra "my sub")))) | k_extra "my sub")
  k_with "my kmem" => (first | with_reducible assumption | exact List.mem_cons_self | (refine' List.mem_cons_of_mem _ ?kmhw267; (case kmhw267 => k_extra "my kmem")))
  k_with "my kmem" => ((refine' List.mem_append_right _ ?kmhw268; (case kmhw268 => k_extra "my kmem")))
  k_with "my off" => ((refine' Fresh.off ?kmxw269 ?kmyw269; (case kmxw269 => with_reducible assumption); (case kmyw269 => k_mem)))
  k_with "k_upd" => ((refine' upd_app ?kmxw270 ?kmyw270; (case kmyw270 => k_extra "my off"); (case kmxw270 => k_upd)))
  k_with "my kmem" => (first | (with_reducible refine' dec_x ?kmhw271; (case kmhw271 => k_extra "my sub")) | (with_reducible refine' dec_d ?kmhw271; (case kmhw271 => k_extra "my sub")))
  k_with "my num" => (first | (with_reducible refine' Num.dec ?kmhw272 ?kmow272; (case kmow272 => with_reducible assumption); (case kmhw272 => k_extra "my sub")) | with_reducible assumption | (with_reducible refine' Num.app ?kmhw272; (case kmhw272 => k_extra "my num")) | (with_reducible refine' Num.cons ?kmhw272; (case kmhw272 => k_extra "my num")))
  k_with "my lt" => (first | with_reducible assumption | (refine' DecOK.bt ?kmxw273; (case kmxw273 => with_reducible assumption)) | exact ten_lt)
  k_with "mul_fits" => ((refine' mul_ok ?kmxw274 ?kmyw274 ?kmzw274; (case kmxw274 => k_extra "my lt"); (case kmyw274 => k_extra "my lt"); (case kmzw274 => first | omega | decide)))
  k_with "binaryOp Pow int int" => ((k_here; (with_reducible refine pow_int_small ?kb1w275 ?kb2w275 ?kb3w275 ?_); (case kb1w275 => omega); (case kb2w275 => omega); (case kb3w275 => decide)))
  k_with "my keep" => (first | exact Sub.refl | exact Sub.nil | (with_reducible refine' Sub.add ?kmaw276 ?kmbw276; (case kmaw276 => first | exact List.mem_cons_self | k_mem); (case kmbw276 => k_extra "my keep")) | (with_reducible refine' Sub.join ?kmaw276 ?kmbw276; (case kmaw276 => k_extra "my sub"); (case kmbw276 => k_extra "my keep")) | k_extra "my sub")
  k_with "exec While" => ((k_here; k_extra "my while"))
  k_with "exec While Compare" => ((k_here; k_extra "my while"))
  k_with "exec While Compare cons nil" => ((k_here; k_extra "my while"))
  k_with "my conj" => (first | with_reducible assumption | (with_reducible refine' Nat.ne_of_lt ?kmhw277; (case kmhw277 => with_reducible assumption)) | (with_reducible refine' Nat.ne_of_gt ?kmhw277; (case kmhw277 => with_reducible assumption)) | (with_reducible refine' Ne.symm (And.left ?kmhw277); (case kmhw277 => with_reducible assumption)) | (with_reducible refine' Ne.symm (And.left (And.right ?kmhw277)); (case kmhw277 => with_reducible assumption)) | (with_reducible refine' Ne.symm (And.left (And.right (And.right ?kmhw277))); (case kmhw277 => with_reducible assumption)) | (with_reducible refine' Ne.symm (And.left (And.right (And.right (And.right ?kmhw277)))); (case kmhw277 => with_reducible assumption)) | (with_reducible refine' Ne.symm (And.left (And.right (And.right (And.right (And.right ?kmhw277))))); (case kmhw277 => with_reducible assumption)) | (with_reducible refine' Ne.symm (And.left (And.right (And.right (And.right (And.right (And.right ?kmhw277)))))); (case kmhw277 => with_reducible assumption)) | (with_reducible refine' Ne.symm (And.left (And.right (And.right (And.right (And.right (And.right (And.right ?kmhw277))))))); (case kmhw277 => with_reducible assumption)) | (with_reducible refine' Ne.symm (And.left (And.right (And.right (And.right (And.right (And.right (And.right (And.right ?kmhw277)))))))); (case kmhw277 => with_reducible assumption)) | (with_reducible refine' (And.left ?kmhw277); (case kmhw277 => with_reducible assumption)) | (with_reducible refine' (And.left (And.right ?kmhw277)); (case kmhw277 => with_reducible assumption)) | (with_reducible refine' (And.left (And.right (And.right ?kmhw277))); (case kmhw277 => with_reducible assumption)) | (with_reducible refine' (And.left (And.right (And.right (And.right ?kmhw277)))); (case kmhw277 => with_reducible assumption)) | (with_reducible refine' (And.left (And.right (And.right (And.right (And.right ?kmhw277))))); (case kmhw277 => with_reducible assumption)) | (with_reducible refine' (And.left (And.right (And.right (And.right (And.right (And.right ?kmhw277)))))); (case kmhw277 => with_reducible assumption)) | (with_reducible refine' (And.left (And.right (And.right (And.right (And.right (And.right (And.right ?kmhw277))))))); (case kmhw277 => with_reducible assumption)) | (with_reducible refine' (And.left (And.right (And.right (And.right (And.right (And.right (And.right (And.right ?kmhw277)))))))); (case kmhw277 => with_reducible assumption)))
  k_with "k_ne" => ((refine neN ?_; (try dsimp only); first | k_extra "my conj" | omega))
  k_with "k_mem" => (k_extra "my kmem")
  k_with "eval Name" => ((k_here; (first | (with_reducible show wpAny _ _ (eval _ (envOf _ _ _ _ _)) _ _ _) | (with_reducible show wpAny _ _ (eval _ (envX _ _ _ _ _ _)) _ _ _)); first | (k_dflt (refine' nmL ?Fw278 ?vw278 ?aw278 ?_; (case aw278 => (refine' NmOk.mk ?na1w278 ?na2w278 ?na3w278; (case na1w278 => rfl); (case na2w278 => rfl); (case na3w278 => decide))); (case Fw278 => with_reducible assumption); (case vw278 => apply @rfl _ (some _)); k_whole)) | (k_dflt (refine' nmK ?Fw278 ?Xw278 ?Tw278 ?ew278 ?aw278 ?_; (case aw278 => (refine' NmOk.mk ?na1w278 ?na2w278 ?na3w278; (case na1w278 => rfl); (case na2w278 => rfl); (case na3w278 => decide))); (case Xw278 => with_reducible assumption); (case ew278 => k_is); (case Fw278 => with_reducible assumption); (case Tw278 => k_asm); k_whole))))
  k_with "spliced" => ((k_here; (first | (with_reducible show wpAny _ _ (spliced (backTo _ (starEach _ (envOf _ _ _ _ _)))) _ _ _) | (with_reducible show wpAny _ _ (spliced (backTo _ (starEach _ (envX _ _ _ _ _ _)))) _ _ _)); first | ((with_reducible show wpAny _ _ (spliced (backTo _ (starEach [Expr.Name _ _] _))) _ _ _); k_dflt (refine' aL0 ?Fw279 ?vw279 ?aw279 ?_; (case aw279 => (refine' NmOk.mk ?na1w279 ?na2w279 ?na3w279; (case na1w279 => rfl); (case na2w279 => rfl); (case na3w279 => decide))); (case Fw279 => with_reducible assumption); (case vw279 => apply @rfl _ (some _)); k_whole; (try dsimp only [List.cons_append, List.nil_append]))) | ((with_reducible show wpAny _ _ (spliced (backTo _ (starEach (Expr.Name _ _ :: _) _))) _ _ _); k_dflt (refine' aL ?Fw279 ?vw279 ?aw279 ?_; (case aw279 => (refine' NmOk.mk ?na1w279 ?na2w279 ?na3w279; (case na1w279 => rfl); (case na2w279 => rfl); (case na3w279 => decide))); (case Fw279 => with_reducible assumption); (case vw279 => apply @rfl _ (some _)); k_whole)) | ((with_reducible show wpAny _ _ (spliced (backTo _ (starEach [Expr.Constant (Constant.int _) _ _] _))) _ _ _); refine' aI0 ?_; k_whole; (try dsimp only [List.cons_append, List.nil_append])) | ((with_reducible show wpAny _ _ (spliced (backTo _ (starEach (Expr.Constant (Constant.int _) _ _ :: _) _))) _ _ _); refine' aI ?_; k_whole) | ((with_reducible show wpAny _ _ (spliced (backTo _ (starEach (_ :: _) _))) _ _ _); k_dflt (refine' aC ?aw279 ?_; (case aw279 => exact @rfl _ true); k_whole))))
  k_with "eval Call" => ((k_here; (first | (with_reducible show wpAny _ _ (eval _ (envOf _ _ _ _ _)) _ _ _) | (with_reducible show wpAny _ _ (eval _ (envX _ _ _ _ _ _)) _ _ _)); first | ((with_reducible show wpAny _ _ (eval (Expr.Call (Expr.Name _ _) (_ :: _) [] _) _) _ _ _); k_dflt (refine' gcall ?Fw280 ?Xw280 ?Tw280 ?ew280 ?aw280 ?kw280 ?hsw280 ?_; (case aw280 => (refine' NmOk.mk ?na1w280 ?na2w280 ?na3w280; (case na1w280 => rfl); (case na2w280 => rfl); (case na3w280 => decide))); (case Xw280 => with_reducible assumption); (case ew280 => k_is); (case Fw280 => with_reducible assumption); (case Tw280 => k_asm); (case kw280 => k_is); (case hsw280 => exact @rfl _ true); k_whole)) | ((with_reducible show wpAny _ _ (eval (Expr.Call (Expr.Name _ _) [] [] _) _) _ _ _); k_dflt (refine' gcall0 ?Fw280 ?Xw280 ?Tw280 ?ew280 ?aw280 ?kw280 ?_; (case aw280 => (refine' NmOk.mk ?na1w280 ?na2w280 ?na3w280; (case na1w280 => rfl); (case na2w280 => rfl); (case na3w280 => decide))); (case Xw280 => with_reducible assumption); (case ew280 => k_is); (case Fw280 => with_reducible assumption); (case Tw280 => k_asm); (case kw280 => k_is); k_whole))))
  k_with "eval Attribute Name" => ((k_here; (first | (with_reducible show wpAny _ _ (eval _ (envOf _ _ _ _ _)) _ _ _) | (with_reducible show wpAny _ _ (eval _ (envX _ _ _ _ _ _)) _ _ _)); first | ((with_reducible show wpAny _ _ (eval (Expr.Attribute (Expr.Name _ _) (Str.ofString "top") _) _) _ _ _); k_dflt (refine' dec_top ?Fw281 ?Xw281 ?vw281 ?aw281 ?Nw281 ?Sw281 ?_; (case aw281 => (refine' NmOk.mk ?na1w281 ?na2w281 ?na3w281; (case na1w281 => rfl); (case na2w281 => rfl); (case na3w281 => decide))); (case Fw281 => with_reducible assumption); (case vw281 => apply @rfl _ (some (Value.ref (DecL.x _)))); (case Xw281 => with_reducible assumption); (case Nw281 => with_reducible assumption); (case Sw281 => k_extra "my sub"); k_whole)) | ((with_reducible show wpAny _ _ (eval (Expr.Attribute (Expr.Name _ _) (Str.ofString "places") _) _) _ _ _); k_dflt (refine' dec_places ?Fw281 ?Xw281 ?vw281 ?aw281 ?Nw281 ?Sw281 ?_; (case aw281 => (refine' NmOk.mk ?na1w281 ?na2w281 ?na3w281; (case na1w281 => rfl); (case na2w281 => rfl); (case na3w281 => decide))); (case Fw281 => with_reducible assumption); (case vw281 => apply @rfl _ (some (Value.ref (DecL.x _)))); (case Xw281 => with_reducible assumption); (case Nw281 => with_reducible assumption); (case Sw281 => k_extra "my sub"); k_whole))))
  k_with "eval Call Attribute" => ((k_here; (first | (with_reducible show wpAny _ _ (eval _ (envOf _ _ _ _ _)) _ _ _) | (with_reducible show wpAny _ _ (eval _ (envX _ _ _ _ _ _)) _ _ _)); first | ((with_reducible show wpAny _ _ (eval (Expr.Call (Expr.Attribute (Expr.Name _ _) _ _) (_ :: _) [] _) _) _ _ _); k_dflt (refine' dec_meth ?Fw282 ?Xw282 ?vw282 ?aw282 ?Nw282 ?Sw282 ?fw282 ?hmw282 ?hlw282 ?hsw282 ?hpw282 ?_; (case aw282 => (refine' NmOk.mk ?na1w282 ?na2w282 ?na3w282; (case na1w282 => rfl); (case na2w282 => rfl); (case na3w282 => decide))); (case Fw282 => with_reducible assumption); (case vw282 => apply @rfl _ (some (Value.ref (DecL.x _)))); (case Xw282 => with_reducible assumption); (case Nw282 => with_reducible assumption); (case Sw282 => k_extra "my sub"); (case fw282 => k_is); (case hmw282 => kernel_rfl); (case hlw282 => exact @rfl _ true); (case hsw282 => exact @rfl _ true); (case hpw282 => exact @rfl _ true); k_whole)) | ((with_reducible show wpAny _ _ (eval (Expr.Call (Expr.Attribute (Expr.Name _ _) _ _) [] [] _) _) _ _ _); k_dflt (refine' dec_meth0 ?Fw282 ?Xw282 ?vw282 ?aw282 ?Nw282 ?Sw282 ?fw282 ?hmw282 ?hlw282 ?hpw282 ?_; (case aw282 => (refine' NmOk.mk ?na1w282 ?na2w282 ?na3w282; (case na1w282 => rfl); (case na2w282 => rfl); (case na3w282 => decide))); (case Fw282 => with_reducible assumption); (case vw282 => apply @rfl _ (some (Value.ref (DecL.x _)))); (case Xw282 => with_reducible assumption); (case Nw282 => with_reducible assumption); (case Sw282 => k_extra "my sub"); (case fw282 => k_is); (case hmw282 => kernel_rfl); (case hlw282 => exact @rfl _ true); (case hpw282 => exact @rfl _ true); k_whole))))
  k_with "storeName" => ((k_here; (first | (with_reducible show wpAny _ _ (storeName (envOf _ _ _ _ _) _ _) _ _ _) | (with_reducible show wpAny _ _ (storeName (envX _ _ _ _ _ _) _ _) _ _ _)); k_dflt (refine' stL ?Fw283 ?Nw283 ?aw283 ?_; (case aw283 => (refine' NmOk.mk ?na1w283 ?na2w283 ?na3w283; (case na1w283 => rfl); (case na2w283 => rfl); (case na3w283 => decide))); (case Fw283 => with_reducible assumption); (case Nw283 => with_reducible assumption); k_whole; intro m9 h' tk9 F' N'; (try k_sweep))))
  trivial
section
variable {w : World} {mean : ExcName → Option Value} {mg mb : Str → Option Value}


theorem KY4setup2 : True := by
  k_with "my item" => ((k_here; (with_reducible show wpAny _ _ (subscriptTail _ _ (Value.ref _) (Value.int _ _)) _ _ _); k_dflt (refine' my_item ?Nw284 ?mw284 ?k2w284 ?k3w284 ?k4w284 ?_ ?k6w284; (case Nw284 => k_asm); (case mw284 => first | with_reducible assumption | k_mem); (case k2w284 => decide); (case k3w284 => decide); (case k4w284 => first | (refine' getk 0 ?gaw284 ?gbw284; (case gaw284 => decide); (case gbw284 => rfl)) | (refine' getk 1 ?gaw284 ?gbw284; (case gaw284 => decide); (case gbw284 => rfl)) | (refine' getk 2 ?gaw284 ?gbw284; (case gaw284 => decide); (case gbw284 => rfl)) | (refine' getk 3 ?gaw284 ?gbw284; (case gaw284 => decide); (case gbw284 => rfl)) | (refine' getk 4 ?gaw284 ?gbw284; (case gaw284 => decide); (case gbw284 => rfl)) | (refine' getk 5 ?gaw284 ?gbw284; (case gaw284 => decide); (case gbw284 => rfl))); (case k6w284 => with_unfolding_all rfl); k_whole)))
  k_with "subscriptTail" => (k_extra "my item")
  k_with "subscriptTail Name" => (k_extra "my item")
  k_with "subscriptTail Subscript" => (k_extra "my item")
  k_with "subscriptTail Name Name ref int" => (k_extra "my item")
  k_with "subscriptTail Name Constant ref int" => (k_extra "my item")
  k_with "subscriptTail Subscript Name Name Name ref int" => (k_extra "my item")
  k_with "subscriptTail Subscript Name Constant Name ref int" => (k_extra "my item")
  k_with "subscriptTail Subscript Name Name Constant ref int" => (k_extra "my item")
  k_with "subscriptTail Subscript Name Constant Constant ref int" => (k_extra "my item")
  k_with "callWith ref" => ((k_here; (with_reducible show wpAny _ _ (callWith _ (Value.ref _) _ (backTo _ (starEach [] _)) []) _ _ _); k_dflt (refine' callWith_K0 ?k1w285 ?k2w285 ?_; (case k1w285 => k_in); (case k2w285 => k_is); k_whole)))
  k_with "callWith ref" => ((k_here; (with_reducible show wpAny _ _ (callWith _ (Value.ref _) _ (backTo _ (starEach (_ :: _) _)) []) _ _ _); k_dflt (refine' callWith_K ?k1w286 ?k2w286 ?_; (case k1w286 => k_asm); (case k2w286 => k_is); k_whole)))
  k_with "k_in" => ((refine' Frag.In.keeps ?kiaw287 (Fr.keep ?kibw287); (case kibw287 => k_asm); (case kiaw287 => k_asm)))
  trivial
theorem my_titem {prog : Program} {A : Around} {E : Value → Shared → Prop} {s : Shared} {h₀ : Heap} {L : Addr} {news : Led} {value slice : PySem.Expr} {l : Addr} {vs : List Value} {k : Int} {u : Tok} {v : Value} {j : Nat} {Q : Value → Shared → Prop}
    (N : News h₀ L s.heap news) (hm : (l, tupOf vs) ∈ news) (hlo : -(2 ^ 63) ≤ k) (hhi : k < 2 ^ 63) (hj : seqIndex? k vs.length = some j) (hx : vs[j]? = some v) (h : Q v s)
    (hs : subscripted slice false (.ref l) (.int k u) = operate [.ref l, .int k u] (getItem (.ref l) (.int k u))) (hg : ∀ r, letTemporaryGo value (.ref l) r = pure ()) :
    wpAny (model prog w) A (subscriptTail value slice (.ref l) (.int k u)) Q E s := kim_tup N hm rfl rfl hlo hhi hj hx h hs hg

theorem KY4setup3 : True := by
  k_with "my mem" => (first | with_reducible exact List.mem_cons_self | (with_reducible refine' List.mem_cons_of_mem _ ?kmhw288; (case kmhw288 => k_extra "my mem")) | (with_reducible refine' List.mem_append_right _ ?kmhw288; (case kmhw288 => k_extra "my mem")))
  k_with "my titem" => ((k_here; (with_reducible show wpAny _ _ (subscriptTail _ _ (Value.ref _) (Value.int _ _)) _ _ _); k_dflt (refine' my_titem ?Nw289 ?mw289 ?k2w289 ?k3w289 ?k4w289 ?k5w289 ?_ ?k6w289 ?k7w289; (case Nw289 => k_asm); (case mw289 => first | with_reducible assumption | k_extra "my mem"); (case k2w289 => decide); (case k3w289 => decide); (case k4w289 => exact rfl); (case k5w289 => exact rfl); (case k6w289 => with_unfolding_all rfl); (case k7w289 => (intro _; with_unfolding_all rfl)); k_whole)))
  k_with "subscriptTail" => (k_extra "my titem")
  k_with "subscriptTail Name" => (k_extra "my titem")
  k_with "subscriptTail Name Constant ref int" => (k_extra "my titem")
  k_with "call ref" => ((k_here; (with_reducible show wpAny _ _ (call (Value.ref 401) _) _ _ _); k_dflt (refine' (c_law_ends ?hbw290 ?hbbw290 ?hcw290) _ _ _ _ _ _ _ _ _ _ _ _ _ _ _ _ _ _ ?kB ?kF ?kX ?kN ?kT ?kK ?kpw290 ?kd ?ku ?_; k_extra "sid"; (case kpw290 => exact trivial); (case hbw290 => with_reducible assumption); (case hbbw290 => with_reducible assumption); (case hcw290 => with_reducible assumption); k_whole; intro r9 e9 h9 tk9 F9 N9; (try k_sweep))))
  trivial
noncomputable def PPairs (h₀ : Heap) (L : Addr) (m : Str → Option Value) (S : Int) (Ts : List Int) (Q : Value → Shared → Prop) (xv : Value) (s₁ : Shared) : Prop :=
  ∃ ax its na news, xv = .ref ax ∧ Fr h₀ L s₁.heap m ∧ News h₀ L s₁.heap news ∧ (ax, listOf (List.toArray its) na) ∈ news ∧ PairsAt news S its Ts ∧ its.length ≤ sizeLine ∧
    ∀ ds D o h' tk', Says ((D, o) :: news) (.ref D) (.list ds) → ShpAll ds 2 → (ds = [] ↔ ∀ T ∈ Ts, Ends ((T : Rat) / S)) → Fr h₀ L h' m → News h₀ L h' ((D, o) :: news) → Q (.ref D) { s₁ with heap := h', toks := tk' }
theorem PPairs.intro {h₀ : Heap} {L : Addr} {m : Str → Option Value} {S : Int} {Ts : List Int} {Q : Value → Shared → Prop} {s₁ : Shared} {ax : Addr} {its : List Value} {na : Nat} {news : Led}
    (F : Fr h₀ L s₁.heap m) (N : News h₀ L s₁.heap news) (hm : (ax, listOf (List.toArray its) na) ∈ news) (hP : PairsAt news S its Ts) (hz : its.length ≤ sizeLine)
    (h : ∀ ds D o h' tk', Says ((D, o) :: news) (.ref D) (.list ds) → ShpAll ds 2 → (ds = [] ↔ ∀ T ∈ Ts, Ends ((T : Rat) / S)) → Fr h₀ L h' m → News h₀ L h' ((D, o) :: news) → Q (.ref D) { s₁ with heap := h', toks := tk' }) :
    PPairs h₀ L m S Ts Q (.ref ax) s₁ := ⟨ax, its, na, news, rfl, F, N, hm, hP, hz, h⟩
set_option maxHeartbeats 1000000 in
theorem ends_comp {dp un : Nat} {gd : Option (List Code)} {cn : Str} {cs : Scope} {a : Addr} {ccd : Value} {cl : List (Str × Addr)} {outer : List Env} {A₀ : Around} {base h₀ : Heap} {L : Addr} {m : Str → Option Value} {s : Shared} {Q E : Value → Shared → Prop} {iter : PySem.Expr} {p1 p2 p3 p4 p5 p6 p7 p8 p9 p10 p11 pos : Pos} {S : Int} {Ts : List Int} {c : Nat}
    (B : Below A₀ base outer h₀) (F : Fr h₀ L s.heap m) (X : (KF w.params).In h₀) (T : Tp mean mg mb h₀) (hk : cs.kind = .function) (hd : dp + 3 < recursionLimit) (hu : un + 24 < cLine)
    (hb : S ≠ 0) (hbb : Bd S c) (hc : c ≤ 500)
    (hs : ∀ x, foldedSetIterable iter (envX cn cs L a ccd cl) x = pure x)
    (h : wpAny (model PySem.Challenge.rw_nn0207_01.row.prog w) (ktrTop dp un gd cn cs L a ccd cl outer) (eval iter (envX cn cs L a ccd cl)) (PPairs h₀ L m S Ts Q) E s) :
    wpAny (model PySem.Challenge.rw_nn0207_01.row.prog w) (ktrTop dp un gd cn cs L a ccd cl outer)
      (eval (.ListComp (.Name (Str.ofString "pair") p10) [⟨.Name (Str.ofString "pair") p11, iter, [.UnaryOp .Not (.Call (.Name (Str.ofString "_law_ends") p1) [.Subscript (.Name (Str.ofString "pair") p2) (.Constant (.int 0) 0 p3) p4, .Subscript (.Name (Str.ofString "pair") p5) (.Constant (.int 1) 0 p6) p7] [] p8) p9], 0⟩]
        { kind := .function, names := [(Str.ofString ".0", .local), (Str.ofString "pair", .local), (Str.ofString "_law_ends", .globalImplicit)], isGenerator := false, isCoroutine := false } pos) (envX cn cs L a ccd cl)) Q E s := by
  refine LCt.ListComp_T F (by with_unfolding_all rfl) (by decide) (by rfl) (by decide) (by rfl) (wpAny_mono h (fun xv s₁ h₁ => ?_) fun _ _ e => e) hs
  obtain ⟨ax, its, na, news, rfl, F1, N1, hm, hP, hz, hq⟩ := h₁
  clear F h
  revert X
  k_fill
  intro X
  refine LCt.CompSrcT.ledger rfl F1 N1 hm (by simpa using hz) fun g => ?_
  refine rest_all hm hP .refl ?_ ?_
  · clear F1 N1 hm hq
    intro t T' k1 k2 G I oI C oC D m₂ h tk E' ys news' hm' hsub hT' hN hx F2 N2 off ne hY hN2
    have hm2 := hsub.mem _ hm'
    k_steps
    · exact compEnd_0 (by assumption) (by assumption) off hsub (hN2 (by simp_all) _ hsub)
    · exact compEnd_0 (by assumption) (by assumption) off hsub (hY (by simp_all) _ hsub)
  · intro ys news' k hys hi D h tk F' N' o1
    obtain ⟨ds, q1, q2, q3⟩ := says_all ys fun y hy => hP.says y (hys y hy)
    exact hq ds D _ _ _ (Says.list (n := ys.length) (.head _) fun h₀ h L N => q1 h₀ h L (News.sub N (.cons .refl))) q2 (q3.trans hi) F' (News.sub N' (.add (.head _) k.cons))
end

end
section
open PySem PySem.W PyProof.Rows PySem.Calls PySem.Spec

section
variable {w : World} {mean : ExcName → Option Value} {mg mb : Str → Option Value}



theorem KY3setup1 : True := by
  k_with "call ref" => ((k_here; (with_reducible show wpAny _ _ (call (Value.ref 143) _) _ _ _); k_dflt (refine' (c_Decimal _ _ _ _ _ ?hzw291 ?htw291 ?hbw291 ?hqw291) _ _ _ _ _ _ _ _ _ _ _ _ _ _ _ _ _ _ ?kB ?kF ?kX ?kN ?kT ?kK ?kpw291 ?kd ?ku ?_; k_extra "sid"; (case kpw291 => exact trivial); (case hqw291 => first | exact int_hq | k_extra "my hq"); (case htw291 => first | with_reducible assumption | k_extra "my ht"); (case hbw291 => first | with_reducible assumption | k_extra "my hb" | omega); (case hzw291 => first | with_reducible assumption | k_extra "my hz" | omega); k_whole; intro D9 ok9 f9 h9 tk9 F9 N9; (try k_sweep))))
  k_with "call ref" => ((k_here; (with_reducible show wpAny _ _ (call (Value.ref 168) _) _ _ _); k_dflt (refine' (c_decimal_of) _ _ _ _ _ _ _ _ _ _ _ _ _ _ _ _ _ _ ?kB ?kF ?kX ?kN ?kT ?kK ?kpw292 ?kd ?ku ?_; k_extra "sid"; (case kpw292 => refine' ⟨?kpaw292, ?kpbw292⟩; (case kpaw292 => k_extra "my num"); (case kpbw292 => k_extra "my sub")); k_whole; intro e9 D9 ok9 s9 s8 f9 h9 tk9 F9 N9; have p9 := ok9.nrm.p0; have q9 := ok9.bp; (try k_sweep))))
  k_with "my le" => (first | exact Nat.le_refl _ | exact Nat.le_of_ble_eq_true rfl | exact lea _ _ | exact leb _ _ | exact le1 _ | omega)
  k_with "my kmem" => (first | (with_reducible refine' mat_x ?kmhw293; (case kmhw293 => k_extra "my sub")) | (with_reducible refine' mat_d ?kmhw293; (case kmhw293 => k_extra "my sub")))
  k_with "call ref" => ((k_here; (with_reducible show wpAny _ _ (call (Value.ref 70) _) _ _ _); k_dflt (refine' (c_plus ?hbbw294) _ _ _ _ _ _ _ _ _ _ _ _ _ _ _ _ _ _ ?kB ?kF ?kX ?kN ?kT ?kK ?kpw294 ?kd ?ku ?_; k_extra "sid"; (case kpw294 => refine' ⟨?kpaw294, ?kpbw294⟩; (case kpaw294 => k_extra "my num"); (case kpbw294 => k_extra "my num")); (case hbbw294 => first | decide | omega); k_whole; intro D9 ok9 h9 tk9 F9 N9; (try k_sweep))))
  k_with "call ref" => ((k_here; (with_reducible show wpAny _ _ (call (Value.ref 77) _) _ _ _); k_dflt (refine' (c_minus ?hbbw295) _ _ _ _ _ _ _ _ _ _ _ _ _ _ _ _ _ _ ?kB ?kF ?kX ?kN ?kT ?kK ?kpw295 ?kd ?ku ?_; k_extra "sid"; (case kpw295 => refine' ⟨?kpaw295, ?kpbw295⟩; (case kpaw295 => k_extra "my num"); (case kpbw295 => k_extra "my num")); (case hbbw295 => first | decide | omega); k_whole; intro D9 ok9 h9 tk9 F9 N9; (try k_sweep))))
  k_with "call ref" => ((k_here; (with_reducible show wpAny _ _ (call (Value.ref 84) _) _ _ _); k_dflt (refine' (c_times ?hbbw296 ?hokw296) _ _ _ _ _ _ _ _ _ _ _ _ _ _ _ _ _ _ ?kB ?kF ?kX ?kN ?kT ?kK ?kpw296 ?kd ?ku ?_; k_extra "sid"; (case hokw296 => with_reducible assumption); (case kpw296 => refine' ⟨?kpaw296, ?kpbw296⟩; (case kpaw296 => k_extra "my sub"); (case kpbw296 => k_extra "my num")); (case hbbw296 => first | decide | omega); k_whole; intro D9 ok9 h9 tk9 F9 N9; (try k_sweep))))
  k_with "call ref" => ((k_here; (with_reducible show wpAny _ _ (call (Value.ref 91) _) _ _ _); k_dflt (refine' (c_negated ?hokw297) _ _ _ _ _ _ _ _ _ _ _ _ _ _ _ _ _ _ ?kB ?kF ?kX ?kN ?kT ?kK ?kpw297 ?kd ?ku ?_; k_extra "sid"; (case hokw297 => with_reducible assumption); (case kpw297 => k_extra "my sub"); k_whole; intro D9 ok9 h9 tk9 F9 N9; (try k_sweep))))
  k_with "call ref" => ((k_here; (with_reducible show wpAny _ _ (call (Value.ref 126) _) _ _ _); k_dflt (refine' (c_told ?hokw298) _ _ _ _ _ _ _ _ _ _ _ _ _ _ _ _ _ _ ?kB ?kF ?kX ?kN ?kT ?kK ?kpw298 ?kd ?ku ?_; k_extra "sid"; (case hokw298 => with_reducible assumption); (case kpw298 => k_extra "my sub"); k_whole; intro e9 v9 y9 f9 h9 tk9 F9 N9; (try k_sweep))))
  k_with "call ref" => ((k_here; (with_reducible show wpAny _ _ (call (Value.ref 246) _) _ _ _); k_dflt (refine' (c_Matrix6) _ _ _ _ _ _ _ _ _ _ _ _ _ _ _ _ _ _ ?kB ?kF ?kX ?kN ?kT ?kK ?kpw299 ?kd ?ku ?_; k_extra "sid"; (case kpw299 => refine' ⟨⟨?kpaw299, ?kpbw299, ?kpcw299⟩, ?kpdw299, ?kpew299, ?kpfw299⟩; (case kpaw299 => k_extra "my num"); (case kpbw299 => k_extra "my num"); (case kpcw299 => k_extra "my num"); (case kpdw299 => k_extra "my num"); (case kpew299 => k_extra "my num"); (case kpfw299 => k_extra "my num")); k_whole; intro M9 ok9 h9 tk9 F9 N9; (try k_sweep))))
  k_with "my mok" => ((refine' MatOK.to ?kmaw300 ?kmbw300 ?kmcw300; (case kmaw300 => with_reducible assumption); (case kmbw300 => rfl); (case kmcw300 => first | (with_reducible refine' le6s ?m1w300; (case m1w300 => k_extra "my le")) | (with_reducible refine' le6 ?m1w300 ?m2w300 ?m3w300 ?m4w300 ?m5w300 ?m6w300; (case m1w300 => k_extra "my le"); (case m2w300 => k_extra "my le"); (case m3w300 => k_extra "my le"); (case m4w300 => k_extra "my le"); (case m5w300 => k_extra "my le"); (case m6w300 => k_extra "my le")) | omega)))
  k_with "my says" => (first | with_reducible assumption | (with_reducible refine' Says.here ?kmhw301; (case kmhw301 => with_reducible assumption)) | (with_reducible refine' Says.app ?kmhw301; (case kmhw301 => k_extra "my says")) | (with_reducible refine' Says.cons ?kmhw301; (case kmhw301 => k_extra "my says")))
  k_with "my saysall" => (first | exact SaysAll.nil | (refine' SaysAll.cons ?kmaw302 ?kmbw302; (case kmaw302 => k_extra "my says"); (case kmbw302 => k_extra "my saysall")))
  k_with "eval Attribute Name" => ((k_here; (first | (with_reducible show wpAny _ _ (eval _ (envOf _ _ _ _ _)) _ _ _) | (with_reducible show wpAny _ _ (eval _ (envX _ _ _ _ _ _)) _ _ _)); first | ((with_reducible show wpAny _ _ (eval (Expr.Attribute (Expr.Name _ _) (Str.ofString "a") _) _) _ _ _); k_dflt (refine' mat_at_a ?Fw303 ?Xw303 ?vw303 ?aw303 ?Nw303 ?Sw303 ?_; (case aw303 => (refine' NmOk.mk ?na1w303 ?na2w303 ?na3w303; (case na1w303 => rfl); (case na2w303 => rfl); (case na3w303 => decide))); (case Fw303 => with_reducible assumption); (case vw303 => apply @rfl _ (some (Value.ref (MatL.x _)))); (case Xw303 => with_reducible assumption); (case Nw303 => with_reducible assumption); (case Sw303 => k_extra "my sub"); k_whole)) | ((with_reducible show wpAny _ _ (eval (Expr.Attribute (Expr.Name _ _) (Str.ofString "b") _) _) _ _ _); k_dflt (refine' mat_at_b ?Fw303 ?Xw303 ?vw303 ?aw303 ?Nw303 ?Sw303 ?_; (case aw303 => (refine' NmOk.mk ?na1w303 ?na2w303 ?na3w303; (case na1w303 => rfl); (case na2w303 => rfl); (case na3w303 => decide))); (case Fw303 => with_reducible assumption); (case vw303 => apply @rfl _ (some (Value.ref (MatL.x _)))); (case Xw303 => with_reducible assumption); (case Nw303 => with_reducible assumption); (case Sw303 => k_extra "my sub"); k_whole)) | ((with_reducible show wpAny _ _ (eval (Expr.Attribute (Expr.Name _ _) (Str.ofString "c") _) _) _ _ _); k_dflt (refine' mat_at_c ?Fw303 ?Xw303 ?vw303 ?aw303 ?Nw303 ?Sw303 ?_; (case aw303 => (refine' NmOk.mk ?na1w303 ?na2w303 ?na3w303; (case na1w303 => rfl); (case na2w303 => rfl); (case na3w303 => decide))); (case Fw303 => with_reducible assumption); (case vw303 => apply @rfl _ (some (Value.ref (MatL.x _)))); (case Xw303 => with_reducible assumption); (case Nw303 => with_reducible assumption); (case Sw303 => k_extra "my sub"); k_whole)) | ((with_reducible show wpAny _ _ (eval (Expr.Attribute (Expr.Name _ _) (Str.ofString "d") _) _) _ _ _); k_dflt (refine' mat_at_d ?Fw303 ?Xw303 ?vw303 ?aw303 ?Nw303 ?Sw303 ?_; (case aw303 => (refine' NmOk.mk ?na1w303 ?na2w303 ?na3w303; (case na1w303 => rfl); (case na2w303 => rfl); (case na3w303 => decide))); (case Fw303 => with_reducible assumption); (case vw303 => apply @rfl _ (some (Value.ref (MatL.x _)))); (case Xw303 => with_reducible assumption); (case Nw303 => with_reducible assumption); (case Sw303 => k_extra "my sub"); k_whole)) | ((with_reducible show wpAny _ _ (eval (Expr.Attribute (Expr.Name _ _) (Str.ofString "e") _) _) _ _ _); k_dflt (refine' mat_at_e ?Fw303 ?Xw303 ?vw303 ?aw303 ?Nw303 ?Sw303 ?_; (case aw303 => (refine' NmOk.mk ?na1w303 ?na2w303 ?na3w303; (case na1w303 => rfl); (case na2w303 => rfl); (case na3w303 => decide))); (case Fw303 => with_reducible assumption); (case vw303 => apply @rfl _ (some (Value.ref (MatL.x _)))); (case Xw303 => with_reducible assumption); (case Nw303 => with_reducible assumption); (case Sw303 => k_extra "my sub"); k_whole)) | ((with_reducible show wpAny _ _ (eval (Expr.Attribute (Expr.Name _ _) (Str.ofString "f") _) _) _ _ _); k_dflt (refine' mat_at_f ?Fw303 ?Xw303 ?vw303 ?aw303 ?Nw303 ?Sw303 ?_; (case aw303 => (refine' NmOk.mk ?na1w303 ?na2w303 ?na3w303; (case na1w303 => rfl); (case na2w303 => rfl); (case na3w303 => decide))); (case Fw303 => with_reducible assumption); (case vw303 => apply @rfl _ (some (Value.ref (MatL.x _)))); (case Xw303 => with_reducible assumption); (case Nw303 => with_reducible assumption); (case Sw303 => k_extra "my sub"); k_whole))))
  k_with "eval Call Attribute" => ((k_here; (first | (with_reducible show wpAny _ _ (eval _ (envOf _ _ _ _ _)) _ _ _) | (with_reducible show wpAny _ _ (eval _ (envX _ _ _ _ _ _)) _ _ _)); first | ((with_reducible show wpAny _ _ (eval (Expr.Call (Expr.Attribute (Expr.Name _ _) _ _) (_ :: _) [] _) _) _ _ _); k_dflt (refine' mat_meth ?Fw304 ?Xw304 ?vw304 ?aw304 ?Nw304 ?Sw304 ?fw304 ?hmw304 ?hlw304 ?hsw304 ?hpw304 ?_; (case aw304 => (refine' NmOk.mk ?na1w304 ?na2w304 ?na3w304; (case na1w304 => rfl); (case na2w304 => rfl); (case na3w304 => decide))); (case Fw304 => with_reducible assumption); (case vw304 => apply @rfl _ (some (Value.ref (MatL.x _)))); (case Xw304 => with_reducible assumption); (case Nw304 => with_reducible assumption); (case Sw304 => k_extra "my sub"); (case fw304 => k_is); (case hmw304 => kernel_rfl); (case hlw304 => exact @rfl _ true); (case hsw304 => exact @rfl _ true); (case hpw304 => exact @rfl _ true); k_whole)) | ((with_reducible show wpAny _ _ (eval (Expr.Call (Expr.Attribute (Expr.Name _ _) _ _) [] [] _) _) _ _ _); k_dflt (refine' mat_meth0 ?Fw304 ?Xw304 ?vw304 ?aw304 ?Nw304 ?Sw304 ?fw304 ?hmw304 ?hlw304 ?hpw304 ?_; (case aw304 => (refine' NmOk.mk ?na1w304 ?na2w304 ?na3w304; (case na1w304 => rfl); (case na2w304 => rfl); (case na3w304 => decide))); (case Fw304 => with_reducible assumption); (case vw304 => apply @rfl _ (some (Value.ref (MatL.x _)))); (case Xw304 => with_reducible assumption); (case Nw304 => with_reducible assumption); (case Sw304 => k_extra "my sub"); (case fw304 => k_is); (case hmw304 => kernel_rfl); (case hlw304 => exact @rfl _ true); (case hpw304 => exact @rfl _ true); k_whole))))
  k_with "call ref" => ((k_here; (with_reducible show wpAny _ _ (call (Value.ref 224) _) _ _ _); k_dflt (refine' (c_applied ?hbbw305 ?hokw305) _ _ _ _ _ _ _ _ _ _ _ _ _ _ _ _ _ _ ?kB ?kF ?kX ?kN ?kT ?kK ?kpw305 ?kd ?ku ?_; k_extra "sid"; (case hokw305 => with_reducible assumption); (case kpw305 => refine' ⟨?kpaw305, ?kpbw305, ?kpcw305⟩; (case kpaw305 => k_extra "my sub"); (case kpbw305 => k_extra "my num"); (case kpcw305 => k_extra "my num")); (case hbbw305 => first | decide | omega); k_whole; intro T9 D9 D8 ok9 ok8 h9 tk9 F9 N9; (try k_sweep))))
  k_with "call ref" => ((k_here; (with_reducible show wpAny _ _ (call (Value.ref 231) _) _ _ _); k_dflt (refine' (c_shifted ?hbbw306 ?hokw306) _ _ _ _ _ _ _ _ _ _ _ _ _ _ _ _ _ _ ?kB ?kF ?kX ?kN ?kT ?kK ?kpw306 ?kd ?ku ?_; k_extra "sid"; (case hokw306 => with_reducible assumption); (case kpw306 => refine' ⟨?kpaw306, ?kpbw306, ?kpcw306⟩; (case kpaw306 => k_extra "my sub"); (case kpbw306 => k_extra "my num"); (case kpcw306 => k_extra "my num")); (case hbbw306 => first | decide | omega); k_whole; intro T9 D9 D8 ok9 ok8 h9 tk9 F9 N9; (try k_sweep))))
  k_with "call ref" => ((k_here; (with_reducible show wpAny _ _ (call (Value.ref 217) _) _ _ _); k_dflt (refine' (c_mtimes ?hbbw307 ?hokw307 ?hok2w307) _ _ _ _ _ _ _ _ _ _ _ _ _ _ _ _ _ _ ?kB ?kF ?kX ?kN ?kT ?kK ?kpw307 ?kd ?ku ?_; k_extra "sid"; (case hokw307 => with_reducible assumption); (case hok2w307 => with_reducible assumption); (case kpw307 => refine' ⟨?kpaw307, ?kpbw307⟩; (case kpaw307 => k_extra "my sub"); (case kpbw307 => k_extra "my sub")); (case hbbw307 => first | decide | omega); k_whole; intro M9 ok9 h9 tk9 F9 N9; (try k_sweep))))
  k_with "call ref" => ((k_here; (with_reducible show wpAny _ _ (call (Value.ref 299) _) _ _ _); k_dflt (refine' (c_determinant ?hbbw308 ?hokw308) _ _ _ _ _ _ _ _ _ _ _ _ _ _ _ _ _ _ ?kB ?kF ?kX ?kN ?kT ?kK ?kpw308 ?kd ?ku ?_; k_extra "sid"; (case hokw308 => with_reducible assumption); (case kpw308 => k_extra "my sub"); (case hbbw308 => first | decide | omega); k_whole; intro D9 ok9 h9 tk9 F9 N9; (try k_sweep))))
  k_with "call ref" => ((k_here; (with_reducible show wpAny _ _ (call (Value.ref 306) _) _ _ _); k_dflt (refine' (c_is_invertible ?hbbw309 ?hokw309) _ _ _ _ _ _ _ _ _ _ _ _ _ _ _ _ _ _ ?kB ?kF ?kX ?kN ?kT ?kK ?kpw309 ?kd ?ku ?_; k_extra "sid"; (case hokw309 => with_reducible assumption); (case kpw309 => k_extra "my sub"); (case hbbw309 => first | decide | omega); k_whole; intro  h9 tk9 F9 N9; (try k_sweep))))
  k_with "call ref" => ((k_here; (with_reducible show wpAny _ _ (call (Value.ref 313) _) _ _ _); k_dflt (refine' (c_is_straight ?hokw310) _ _ _ _ _ _ _ _ _ _ _ _ _ _ _ _ _ _ ?kB ?kF ?kX ?kN ?kT ?kK ?kpw310 ?kd ?ku ?_; k_extra "sid"; (case hokw310 => with_reducible assumption); (case kpw310 => k_extra "my sub"); k_whole; intro  h9 tk9 F9 N9; (try k_sweep))))
  k_with "my num" => (exact Num.int (b := 1) (Bd.of (by decide)) rfl)
  k_with "call ref" => ((k_here; (with_reducible show wpAny _ _ (call (Value.ref 238) _) _ _ _); k_dflt (refine' (c_parts) _ _ _ _ _ _ _ _ _ _ _ _ _ _ _ _ _ _ ?kB ?kF ?kX ?kN ?kT ?kK ?kpw311 ?kd ?ku ?_; k_extra "sid"; (case kpw311 => k_extra "my sub"); k_whole; intro l9 n9 h9 tk9 F9 N9; (try k_sweep))))
  k_with "call ref" => ((k_here; (with_reducible show wpAny _ _ (call (Value.ref 243) _) _ _ _); k_dflt (refine' (c_mtold ?hokw312) _ _ _ _ _ _ _ _ _ _ _ _ _ _ _ _ _ _ ?kB ?kF ?kX ?kN ?kT ?kK ?kpw312 ?kd ?ku ?_; k_extra "sid"; (case hokw312 => with_reducible assumption); (case kpw312 => k_extra "my sub"); k_whole; intro e9 v9 y9 h9 tk9 F9 N9; (try k_sweep))))
  k_with "call ref" => ((k_here; (with_reducible show wpAny _ _ (call (Value.ref 182) _) _ _ _); k_dflt (refine' (c_over _ _ ?hTSw313 ?hSw313 ?hbbw313 ?h0w313 ?hp0w313 ?hpw313) _ _ _ _ _ _ _ _ _ _ _ _ _ _ _ _ _ _ ?kB ?kF ?kX ?kN ?kT ?kK ?kpw313 ?kd ?ku ?_; k_extra "sid"; (case kpw313 => refine' ⟨?kpaw313, ?kpbw313⟩; (case kpaw313 => k_extra "my num"); (case kpbw313 => k_extra "my num")); (case hTSw313 => with_reducible assumption); (case hSw313 => with_reducible assumption); (case h0w313 => with_reducible assumption); (case hp0w313 => with_reducible assumption); (case hpw313 => with_reducible assumption); (case hbbw313 => first | decide | omega); k_whole; intro D9 ok9 h9 tk9 F9 N9; (try k_sweep))))
  trivial








theorem KY3setup2 : True := by
  k_with "call ref" => ((k_here; (with_reducible show wpAny _ _ (call (Value.ref 257) _) _ _ _); k_dflt (refine' (c_identity) _ _ _ _ _ _ _ _ _ _ _ _ _ _ _ _ _ _ ?kB ?kF ?kX ?kN ?kT ?kK ?kpw314 ?kd ?ku ?_; k_extra "sid"; (case kpw314 => exact trivial); k_whole; intro M9 ok9 h9 tk9 F9 N9; (try k_sweep))))
  k_with "call ref" => ((k_here; (with_reducible show wpAny _ _ (call (Value.ref 264) _) _ _ _); k_dflt (refine' (c_translation) _ _ _ _ _ _ _ _ _ _ _ _ _ _ _ _ _ _ ?kB ?kF ?kX ?kN ?kT ?kK ?kpw315 ?kd ?ku ?_; k_extra "sid"; (case kpw315 => refine' ⟨?kpaw315, ?kpbw315⟩; (case kpaw315 => k_extra "my num"); (case kpbw315 => k_extra "my num")); k_whole; intro M9 ok9 h9 tk9 F9 N9; (try k_sweep))))
  k_with "call ref" => ((k_here; (with_reducible show wpAny _ _ (call (Value.ref 271) _) _ _ _); k_dflt (refine' (c_scaling) _ _ _ _ _ _ _ _ _ _ _ _ _ _ _ _ _ _ ?kB ?kF ?kX ?kN ?kT ?kK ?kpw316 ?kd ?ku ?_; k_extra "sid"; (case kpw316 => refine' ⟨?kpaw316, ?kpbw316⟩; (case kpaw316 => k_extra "my num"); (case kpbw316 => k_extra "my num")); k_whole; intro M9 ok9 h9 tk9 F9 N9; (try k_sweep))))
  k_with "call ref" => ((k_here; (with_reducible show wpAny _ _ (call (Value.ref 285) _) _ _ _); k_dflt (refine' (c_skewing) _ _ _ _ _ _ _ _ _ _ _ _ _ _ _ _ _ _ ?kB ?kF ?kX ?kN ?kT ?kK ?kpw317 ?kd ?ku ?_; k_extra "sid"; (case kpw317 => refine' ⟨?kpaw317, ?kpbw317⟩; (case kpaw317 => k_extra "my num"); (case kpbw317 => k_extra "my num")); k_whole; intro M9 ok9 h9 tk9 F9 N9; (try k_sweep))))
  k_with "call ref" => ((k_here; (with_reducible show wpAny _ _ (call (Value.ref 320) _) _ _ _); k_dflt (refine' (c_adjugate ?hbbw318 ?hokw318) _ _ _ _ _ _ _ _ _ _ _ _ _ _ _ _ _ _ ?kB ?kF ?kX ?kN ?kT ?kK ?kpw318 ?kd ?ku ?_; k_extra "sid"; (case hokw318 => with_reducible assumption); (case kpw318 => refine' ⟨?kpaw318, ?kpbw318, ?kpcw318⟩; (case kpaw318 => k_extra "my sub"); (case kpbw318 => k_extra "my num"); (case kpcw318 => k_extra "my num")); (case hbbw318 => first | decide | omega); k_whole; intro T9 D9 D8 ok9 ok8 h9 tk9 F9 N9; (try k_sweep))))
  k_with "my kmem" => (first | (with_reducible refine' rows_x ?kmhw319; (case kmhw319 => k_extra "my sub")) | (with_reducible refine' rows_1 ?kmhw319; (case kmhw319 => k_extra "my sub")) | (with_reducible refine' rows_2 ?kmhw319; (case kmhw319 => k_extra "my sub")) | (with_reducible refine' rows_3 ?kmhw319; (case kmhw319 => k_extra "my sub")))
  k_with "call ref" => ((k_here; (with_reducible show wpAny _ _ (call (Value.ref 363) _) _ _ _); k_dflt (refine' (c_law_told _ _ _ _ ?hpw320 ?hqw320) _ _ _ _ _ _ _ _ _ _ _ _ _ _ _ _ _ _ ?kB ?kF ?kX ?kN ?kT ?kK ?kpw320 ?kd ?ku ?_; k_extra "sid"; (case kpw320 => exact trivial); (case hqw320 => first | with_reducible assumption | k_extra "my hq"); (case hpw320 => first | with_reducible assumption | decide | omega); k_whole; intro e9 v9 y9 f9 h9 tk9 F9 N9; (try k_sweep))))
  k_with "call ref" => ((k_here; (with_reducible show wpAny _ _ (call (Value.ref 377) _) _ _ _); k_dflt (refine' (c_law_rows) _ _ _ _ _ _ _ _ _ _ _ _ _ _ _ _ _ _ ?kB ?kF ?kX ?kN ?kT ?kK ?kpw321 ?kd ?ku ?_; k_extra "sid"; (case kpw321 => first | with_reducible assumption | k_mem); k_whole; intro R9 ok9 f9 h9 tk9 F9 N9; (try k_sweep))))
  k_with "subscriptTail" => (k_extra "my item")
  k_with "subscriptTail Name" => (k_extra "my item")
  k_with "subscriptTail Name Constant ref int" => (k_extra "my item")
  k_with "subscriptTail" => (k_extra "my titem")
  k_with "subscriptTail Name" => (k_extra "my titem")
  k_with "subscriptTail Name Constant ref int" => (k_extra "my titem")
  k_with "my kmem" => (exact List.mem_cons_self)
  k_with "my told" => (first | (with_reducible refine' Says.list ?kmaw322 ?kmbw322; (case kmaw322 => exact List.mem_cons_self); (case kmbw322 => k_extra "my saysall")) | k_extra "my says")
  k_with "my eqd" => (first | (with_reducible rfl) | (with_reducible assumption) | k_extra "my eq")
  k_with "my ne" => ((k_here; k_dflt (refine' ne_told ?Nw323 ?S1w323 ?S2w323 ?hdw323 ?hsw323 ?hnw323 ?huw323 ?_; (case Nw323 => k_asm); (case S1w323 => k_extra "my told"); (case S2w323 => k_extra "my told"); (case hdw323 => k_extra "my eqd"); (case hsw323 => first | exact Shp.dq _ | exact Shp.dsix _ | exact Shp.two _ _); (case hnw323 => decide); (case huw323 => ktr_units); (try k_extra "my prune"))))
  k_with "my eqt" => ((k_here; k_dflt (refine' eq_told ?Nw324 ?S1w324 ?S2w324 ?hdw324 ?hsw324 ?hnw324 ?huw324 ?_; (case Nw324 => k_asm); (case S1w324 => k_extra "my told"); (case S2w324 => k_extra "my told"); (case hdw324 => k_extra "my eqd"); (case hsw324 => first | exact Shp.dq _ | exact Shp.dsix _ | exact Shp.two _ _); (case hnw324 => decide); (case huw324 => ktr_units); (try k_extra "my prune"))))
  k_with "compareOp NotEq" => (k_extra "my ne")
  k_with "compareOp NotEq ref ref" => (k_extra "my ne")
  k_with "compareOp NotEq ref" => (k_extra "my ne")
  k_with "compareOp Eq" => (k_extra "my eqt")
  k_with "compareOp Eq ref ref" => (k_extra "my eqt")
  k_with "compareOp Eq ref" => (k_extra "my eqt")
  k_with "callWith ref" => ((k_here; (with_reducible show wpAny _ _ (callWith _ (Value.ref _) _ (backTo _ (starEach [] _)) []) _ _ _); k_dflt (refine' callWith_K0 ?k1w325 ?k2w325 ?_; (case k1w325 => k_in); (case k2w325 => k_is); k_whole)))
  k_with "callWith ref" => ((k_here; (with_reducible show wpAny _ _ (callWith _ (Value.ref _) _ (backTo _ (starEach (_ :: _) _)) []) _ _ _); k_dflt (refine' callWith_K ?k1w326 ?k2w326 ?_; (case k1w326 => k_asm); (case k2w326 => k_is); k_whole)))
  k_with "LeaveT" => ((k_dflt (refine' LeaveT.intro ?Gw327 ?Fw327 ?Nw327 ?_; (case Fw327 => k_asm); (case Nw327 => k_asm); (case Gw327 => first | with_reducible assumption | exact GroundOf.refl (by assumption))); intro h0' G' F' N'))
  k_with "noteFrame ref" => ((k_here; (with_reducible show wpAny _ _ (noteFrame _ _) (fun _ s₂ => wpAny _ _ (setFlight _ none) (fun _ s₃ => wpAny _ _ (handleBy _ _ (ExceptHandler.ExceptHandler (some (Expr.Name _ _)) none _ _ :: _)) _ _ s₃) _ s₂) _ _); k_dflt (refine' caught_my ?Kw328 ?XBw328 ?TBw328 ?Fw328 ?Uw328 ?Rw328 ?exw328 ?_ ?hkw328 ?hxw328 ?hdw328 ?hEw328; (case Kw328 => assumption); (case Rw328 => assumption); (case Uw328 => with_reducible assumption); (case Fw328 => with_reducible assumption); (case XBw328 => k_asm); (case TBw328 => k_asm); (case exw328 => k_is); (case hkw328 => rfl); (case hxw328 => rfl); (case hdw328 => decide); (case hEw328 => first | passes_own | with_unfolding_all passes_own); k_whole); intro h' g2' G' F' N'; (try k_sweep)))
  k_with "my hq" => (exact div_hq)
  k_with "my eq" => (with_reducible first | exact back_one (det_ne (by assumption) (by assumption)) | exact back_two (det_ne (by assumption) (by assumption)))
  k_with "call ref" => ((k_here; (with_reducible show wpAny _ _ (call (Value.ref 327) _) _ _ _); k_dflt (refine' (c_inverse_applied _ _ _ ?h1w329 ?h2w329 ?hSw329 ?hs0w329 ?hp0w329 ?hpw329 ?hbbw329 ?hokw329) _ _ _ _ _ _ _ _ _ _ _ _ _ _ _ _ _ _ ?kB ?kF ?kX ?kN ?kT ?kK ?kpw329 ?kd ?ku ?_; k_extra "sid"; (case hokw329 => with_reducible assumption); (case kpw329 => refine' ⟨?kpaw329, ?kpbw329, ?kpcw329⟩; (case kpaw329 => k_extra "my sub"); (case kpbw329 => k_extra "my num"); (case kpcw329 => k_extra "my num")); (case h1w329 => with_reducible assumption); (case h2w329 => with_reducible assumption); (case hSw329 => with_reducible assumption); (case hs0w329 => exact det_ne (by with_reducible assumption) (by with_reducible assumption)); (case hp0w329 => with_reducible assumption); (case hpw329 => with_reducible assumption); (case hbbw329 => first | decide | omega); k_whole; intro T9 D9 D8 ok9 ok8 h9 tk9 F9 N9; (try k_sweep))))
  k_with "call ref" => ((k_here; (with_reducible show wpAny _ _ (call (Value.ref 394) _) _ _ _); k_dflt (refine' (c_law_nearest ?hbw330 ?htw330 ?hbbw330 ?hcw330 ?hpw330 ?hp1w330) _ _ _ _ _ _ _ _ _ _ _ _ _ _ _ _ _ _ ?kB ?kF ?kX ?kN ?kT ?kK ?kpw330 ?kd ?ku ?_; k_extra "sid"; (case kpw330 => exact trivial); (case hbw330 => with_reducible assumption); (case htw330 => with_reducible assumption); (case hbbw330 => with_reducible assumption); (case hcw330 => decide); (case hpw330 => with_reducible assumption); (case hp1w330 => with_reducible assumption); k_whole; intro e9 v9 y9 f9 h9 tk9 F9 N9; (try k_sweep))))
  k_with "call ref" => ((k_here; (with_reducible show wpAny _ _ (call (Value.ref 332) _) _ _ _); k_dflt (refine' Ct.use (c_exact_inverse ?hbbw331 ?hokw331 ?h0w331) ?kB ?kF ?kX ?kN ?kT ?kK ?kpw331 ?kd ?ku ?_; k_extra "sid"; (case kpw331 => k_extra "my sub"); (case hokw331 => with_reducible assumption); (case h0w331 => exact det_ne (by with_reducible assumption) (by with_reducible assumption)); (case hbbw331 => first | decide | omega); k_whole; (try dsimp only); refine' And.intro (fun nE9 h9 tk9 F9 N9 => ?_) (fun M9 E9 ok9 h9 tk9 F9 N9 => ?_)); all_goals ((try dsimp only); (try k_sweep))))
  trivial
theorem CtT.use {dn : Nat} {f : Value} {args : List Value} {pre : Led → Prop} {ret : (Value → Led → Prop) → Led → Prop} (C : CtT w mean mg mb dn f args pre ret)
    {dp un : Nat} {gd : Option (List Code)} {cn : Str} {cs : Scope} {a : Addr} {ccd : Value} {cl : List (Str × Addr)} {outer : List Env} {A₀ : Around} {base g₀ h₀ : Heap} {L : Addr} {m : Str → Option Value} {news : Led} {s : Shared} {Q E : Value → Shared → Prop}
    (B : Below A₀ base outer h₀) (XB : (KF w.params).In base) (TB : Tp mean mg mb base) (G : GroundOf base outer g₀ h₀) (F : Fr h₀ L s.heap m) (X : (KF w.params).In h₀) (N : News h₀ L s.heap news) (T : Tp mean mg mb h₀) (hk : cs.kind = .function) (hp : pre news)
    (hd : dp + dn < recursionLimit) (hu : un + 8 * dn < cLine) (hr : ∀ P P' : Value → Led → Prop, (∀ v n, P v n → P' v n) → ret P news → ret P' news)
    (h : ret (fun v news' => ∀ (h' : Heap) (tk' : Nat) (h₀' : Heap), GroundOf base outer g₀ h₀' → Below A₀ base outer h₀' → (KF w.params).In h₀' → Tp mean mg mb h₀' → Fr h₀' L h' m → News h₀' L h' news' → Q v { s with heap := h', toks := tk' }) news) :
    wpAny (model PySem.Challenge.rw_nn0207_01.row.prog w) (ktrTop dp un gd cn cs L a ccd cl outer) (call f args) Q E s :=
  C dp un gd cn cs a ccd cl outer A₀ base h₀ L m news s Q E XB TB B F X N T hk hp hd hu (hr _ _ (fun v n k h' tk' h₀' G' F' N' => k h' tk' h₀' (G.trans G') (G'.below B) (XB.keeps G'.stays) (TB.keeps G'.stays) F' N') h)
theorem KY3setup3 : True := by
  k_with "call ref" => ((k_here; (with_reducible show wpAny _ _ (call (Value.ref 408) _) _ _ _); k_dflt (refine' CtT.use (t_refused0 ?hbbw332 ?hokw332 ?h0w332) ?kB ?kXB ?kTB ?kG ?kF ?kX ?kN ?kT ?kK ?kpw332 ?kd ?ku ?hrw332 ?_; k_extra "sidT"; (case hokw332 => with_reducible assumption); (case kpw332 => k_extra "my sub"); (case h0w332 => exact det_zero (by with_reducible assumption) (by with_reducible assumption)); (case hbbw332 => first | decide | omega); (case hrw332 => exact fun _ _ k z => k _ _ z); k_whole; intro h9 tk9 g9 G9 B9 X9 T9 F9 N9; (try k_sweep))))
  k_with "call ref" => ((k_here; (with_reducible show wpAny _ _ (call (Value.ref 408) _) _ _ _); k_dflt (refine' CtT.use (t_refused1 ?hbbw333 ?hokw333 ?h0w333) ?kB ?kXB ?kTB ?kG ?kF ?kX ?kN ?kT ?kK ?kpw333 ?kd ?ku ?hrw333 ?_; k_extra "sidT"; (case hokw333 => with_reducible assumption); (case kpw333 => k_extra "my sub"); (case h0w333 => exact det_zero (by with_reducible assumption) (by with_reducible assumption)); (case hbbw333 => first | decide | omega); (case hrw333 => exact fun _ _ k z => k _ _ z); k_whole; intro h9 tk9 g9 G9 B9 X9 T9 F9 N9; (try k_sweep))))
  trivial
section
variable {prog : Program} {A : Around} {E : Value → Shared → Prop} {s : Shared} {h₀ : Heap} {L : Addr} {m : Str → Option Value} {news : Led}
theorem ne_empty_no {v1 v2 : Value} {ds : List PyData} {R : Prop} {q : Six} {s1 : Rat} {Q : Value → Shared → Prop} (N : News h₀ L s.heap news) (S1 : Says news v1 (.list ds)) (S2 : Says news v2 (.list [])) (hs : ShpAll ds 2) (hu : A.units + 64 < cLine)
    (i : ds = [] ↔ R) (e : AllEnds q s1 ↔ R) (n : ¬ AllEnds q s1) (hY : Q (.bool true) s) : wpAny (model prog w) A (compareOp .NotEq v1 v2) Q E s :=
  ne_empty N S1 S2 hs hu (fun z => absurd (e.mpr (i.mp z)) n) fun _ => hY
theorem ne_empty_yes {v1 v2 : Value} {ds : List PyData} {R : Prop} {q : Six} {s1 : Rat} {Q : Value → Shared → Prop} (N : News h₀ L s.heap news) (S1 : Says news v1 (.list ds)) (S2 : Says news v2 (.list [])) (hs : ShpAll ds 2) (hu : A.units + 64 < cLine)
    (i : ds = [] ↔ R) (e : AllEnds q s1 ↔ R) (n : AllEnds q s1) (hY : Q (.bool false) s) : wpAny (model prog w) A (compareOp .NotEq v1 v2) Q E s :=
  ne_empty N S1 S2 hs hu (fun _ => hY) fun z => absurd (i.mpr (e.mp n)) z
/-- the end of a chain of ands and ors: a bool, known by its meaning -/
noncomputable def OrEnd (R : Bool) (h₀ : Heap) (L : Addr) (m : Str → Option Value) (news : Led) (s : Shared) (v : Value) (s' : Shared) : Prop :=
  ∃ h' tk', v = .bool R ∧ s' = { s with heap := h', toks := tk' } ∧ Fr h₀ L h' m ∧ News h₀ L h' news
theorem OrEnd.intro {R b : Bool} {h' : Heap} {tk' : Nat} (hb : b = R) (F : Fr h₀ L h' m) (N : News h₀ L h' news) : OrEnd R h₀ L m news s (.bool b) { s with heap := h', toks := tk' } := ⟨h', tk', by rw [hb], rfl, F, N⟩
theorem or_merge {X : Sem Value} {Q : Value → Shared → Prop} (R : Bool) (h : wpAny (model prog w) A X (OrEnd R h₀ L m news s) E s) (k : ∀ h' tk', Fr h₀ L h' m → News h₀ L h' news → Q (.bool R) { s with heap := h', toks := tk' }) : wpAny (model prog w) A X Q E s :=
  wpAny_mono h (fun _ _ ⟨h', tk', e1, e2, F, N⟩ => by rw [e1, e2]; exact k h' tk' F N) fun _ _ z => z
end
theorem KY3setup4 : True := by
  k_with "compareOp NotEq ref ref" => ((k_here; k_dflt (refine' ne_empty_no ?Nw334 ?S1w334 ?S2w334 ?hsw334 ?huw334 ?iw334 ?ew334 ?nw334 ?_; (case Nw334 => k_asm); (case S1w334 => k_extra "my says"); (case S2w334 => k_extra "my told"); (case hsw334 => with_reducible assumption); (case huw334 => ktr_units); (case iw334 => with_reducible assumption); (case ew334 => exact nums_iff (by with_reducible assumption) (by with_reducible assumption)); (case nw334 => with_reducible assumption))))
  k_with "compareOp NotEq ref ref" => ((k_here; k_dflt (refine' ne_empty_yes ?Nw335 ?S1w335 ?S2w335 ?hsw335 ?huw335 ?iw335 ?ew335 ?nw335 ?_; (case Nw335 => k_asm); (case S1w335 => k_extra "my says"); (case S2w335 => k_extra "my told"); (case hsw335 => with_reducible assumption); (case huw335 => ktr_units); (case iw335 => with_reducible assumption); (case ew335 => exact nums_iff (by with_reducible assumption) (by with_reducible assumption)); (case nw335 => with_reducible assumption))))
  trivial
theorem ne_same {prog : Program} {A : Around} {E : Value → Shared → Prop} {s : Shared} {x y : Bool} {Q : Value → Shared → Prop} (h : x = y) (hQ : Q (.bool false) s) : wpAny (model prog w) A (compareOp .NotEq (.bool x) (.bool y)) Q E s := ne_bool (by rw [h, bne_self_eq_false]; exact hQ)
theorem KY3setup5 : True := by
  k_with "compareOp NotEq bool bool" => ((k_here; (with_reducible refine' ne_same ?hw336 ?_); (case hw336 => first | with_reducible rfl | with_reducible assumption)))
  trivial
theorem or_mergeS {A : Around} {E : Value → Shared → Prop} {s : Shared} {h₀ : Heap} {L : Addr} {m : Str → Option Value} {news : Led} {prog : Program} {X : Sem Value} {Q : Value → Shared → Prop} {R : Bool} {a b c d : Int} (_ : R = decide ((b = 0 ∧ c = 0) ∨ (a = 0 ∧ d = 0))) (_ : Fr h₀ L s.heap m) (_ : News h₀ L s.heap news) (h : wpAny (model prog w) A X (OrEnd R h₀ L m news s) E s) (k : ∀ h' tk', Fr h₀ L h' m → News h₀ L h' news → Q (.bool R) { s with heap := h', toks := tk' }) : wpAny (model prog w) A X Q E s := or_merge R h k
theorem KY3setup6 : True := by
  k_with "eval BoolOp" => ((k_here; (with_reducible show wpAny _ _ (eval (.BoolOp .Or (.BoolOp .And _ _ :: _ :: _) _) _) _ _ _); k_dflt (refine' or_mergeS ?ew337 ?Fw337 ?Nw337 ?hw337 ?kw337; (case Fw337 => k_asm); (case Nw337 => k_asm); (case ew337 => with_reducible assumption); (case hw337 => ((with_reducible refine BoolOp_or ?_); k_steps))); (case' kw337 => (intro h9 tk9 F9 N9)); (try dsimp only); (try k_sweep)))
  trivial
section
variable {R : Bool} {a b c d : Int} (h : R = decide ((b = 0 ∧ c = 0) ∨ (a = 0 ∧ d = 0)))
include h
theorem leaf1 (h1 : b = 0) (h2 : c = 0) : (c == 0) = R := by subst h h1 h2; simp
theorem leaf2 (h1 : a = 0) (h2 : ¬ c = 0) : (d == 0) = R := by subst h h1; simp [h2]; rfl
theorem leaf3 (h1 : ¬ a = 0) (h2 : ¬ c = 0) : (a == 0) = R := by subst h; simp [h1, h2]
theorem leaf4 (h1 : a = 0) (h2 : ¬ b = 0) : (d == 0) = R := by subst h h1; simp [h2]; rfl
theorem leaf5 (h1 : ¬ a = 0) (h2 : ¬ b = 0) : (a == 0) = R := by subst h; simp [h1, h2]
end
theorem KY3setup7 : True := by
  k_with "OrEnd" => ((k_dflt (refine' OrEnd.intro ?bw338 ?Fw338 ?Nw338; (case Fw338 => k_asm); (case Nw338 => k_asm); (case bw338 => first | exact leaf1 (by with_reducible assumption) (by with_reducible assumption) (by with_reducible assumption) | exact leaf2 (by with_reducible assumption) (by with_reducible assumption) (by with_reducible assumption) | exact leaf3 (by with_reducible assumption) (by with_reducible assumption) (by with_reducible assumption) | exact leaf4 (by with_reducible assumption) (by with_reducible assumption) (by with_reducible assumption) | exact leaf5 (by with_reducible assumption) (by with_reducible assumption) (by with_reducible assumption) | (with_reducible contradiction)))))
  k_with "eval ListComp" => ((k_here; k_dflt (refine' ends_comp ?Bw339 ?Fw339 ?Xw339 ?Tw339 ?hkw339 ?hdw339 ?huw339 ?hbw339 ?hbbw339 ?hcw339 ?hsw339 ?_; (case Bw339 => k_asm); (case Fw339 => k_asm); (case Xw339 => k_asm); (case Tw339 => k_asm); (case hkw339 => first | exact rfl | assumption); (case hdw339 => ktr_room); (case huw339 => ktr_units); (case hbw339 => with_reducible assumption); (case hbbw339 => with_reducible assumption); (case hcw339 => decide); (case hsw339 => intro _; rfl); k_whole)))
  k_with "my pairs" => (first | exact PairsAt.nil | (refine' PairsAt.cons ?kmaw340 ?kmbw340; (case kmaw340 => k_mem); (case kmbw340 => k_extra "my pairs")))
  k_with "PPairs" => ((k_here; k_dflt (refine' PPairs.intro ?Fw341 ?Nw341 ?mw341 ?Pw341 ?zw341 ?_; (case Fw341 => k_asm); (case Nw341 => k_asm); (case mw341 => k_mem); (case Pw341 => k_extra "my pairs"); (case zw341 => exact Nat.le_of_ble_eq_true rfl)); intro ds9 D9 o9 h9 tk9 S9 hs9 i9 F9 N9; (try k_sweep)))
  trivial
section
set_option maxHeartbeats 4000000 in
theorem t_law_inverse {M : MatL} {q : Six} {b : Nat} {a1 b1 c1 d1 e1 f1 x y p : Int} {k1 k2 k3 k4 k5 k6 kx ky kp : Tok} {l : Addr} {n : Nat} (hb : b ≤ 7) (ok : MatOK M q b) (hq : SixAt q a1 b1 c1 d1 e1 f1)
    (ba : Bd a1 7) (bb : Bd b1 7) (bc : Bd c1 7) (bd : Bd d1 7) (be : Bd e1 7) (bf : Bd f1 7) (bx : Bd x 7) (by' : Bd y 7) (hp0 : 0 ≤ p) (hp : p ≤ 10) :
    CtT w mean mg mb 16 (.ref 413) [.ref M.x, .ref l, .int x kx, .int y ky, .int p kp] (fun news => Sub (matL w M) news ∧ (l, listOf #[.int a1 k1, .int b1 k2, .int c1 k3, .int d1 k4, .int e1 k5, .int f1 k6] n) ∈ news)
     (fun Q news => Q (.bool true) news) := by
  have hdq := det_hq hq
  have h1 := inv_h1 (x := x) (y := y) hq
  have h2 := inv_h2 (x := x) (y := y) hq
  have hSt := isStr_i hq
  obtain ⟨R, hR⟩ : ∃ R, R = decide ((b1 = 0 ∧ c1 = 0) ∨ (a1 = 0 ∧ d1 = 0)) := ⟨_, rfl⟩
  rw [← hR] at hSt
  have hI1 := isInv_b hq
  have bxe : Bd (x - e1) 8 := bx.sub be
  have byf : Bd (y - f1) 8 := by'.sub bf
  have bS : Bd (a1 * d1 - b1 * c1) 16 := ((ba.mul bd).sub (bb.mul bc)).to (by decide)
  have t1 : Bd (d1 * (x - e1) - c1 * (y - f1)) 16 := ((bd.mul bxe).sub (bc.mul byf)).to (by decide)
  have t2 : Bd (a1 * (y - f1) - b1 * (x - e1)) 16 := ((ba.mul byf).sub (bb.mul bxe)).to (by decide)
  unfold CtT; k_fill; intro dp un gd cn cs a ccd cl outer A₀ base h₀ L m news s Q E XB TB B F X N T hk hpre hd hu hret
  obtain ⟨hM, hl⟩ := hpre
  refine wpAny_call ?_
  k_dflt (refine' code_defT [Str.ofString "m", Str.ofString "six", Str.ofString "x", Str.ofString "y", Str.ofString "places"] ?k1 ?k2 ?k3 ?k4 ?k5 ?kA ?kF ?kK ?k6 ?k7 ?k8 ?k9 ?kB ?_ ?c2 ?c3 ?c4 ?c5; (case kA => exact rfl); (case kF => exact rfl); (case kK => assumption); (case k1 => k_asm); (case k2 => k_asm); (case k3 => k_asm); (case k4 => k_asm); (case k5 => k_asm); (case k6 => k_is); (case k7 => k_is); (case k8 => ktr_room); (case k9 => exact BindsTo.of_eq rfl); (case c5 => decide); (case kB => exact locs rfl); (case c2 => exact rfl); (case c3 => exact rfl); (case c4 => exact rfl); k_whole; intro g' L' h' FG' F' N' B' X' T'; (try dsimp only); (try k_fold); (refine wp_letA ?_); intro A2)
  k_steps
  all_goals ((with_reducible rename GroundOf base outer h₀ _ => kG); (with_reducible rename Fr _ L _ m => kF); (with_reducible rename News _ L _ _ => kN); (try dsimp only at kF kN); exact hret _ _ _ kG kF (News.sub kN (by k_extra "my keep")))
end
end

end
section
open PySem PySem.W PyProof.Rows PySem.Calls PySem.Spec
section
open PySem PySem.W PyProof.Rows PySem.Calls PySem.Spec
theorem KsidZ1 : True := by
  k_with_none
  k_with "sid" => ((case kB => k_asm); (case kF => k_asm); (case kX => k_asm); (case kN => k_asm); (case kT => k_asm); (case kK => first | exact rfl | assumption); (case kd => ktr_room); (case ku => ktr_units))
  k_with "sidT" => ((case kB => k_asm); (case kXB => k_asm); (case kTB => k_asm); (case kG => first | with_reducible assumption | exact GroundOf.refl (by assumption)); (case kF => k_asm); (case kX => k_asm); (case kN => k_asm); (case kT => k_asm); (case kK => first | exact rfl | assumption); (case kd => ktr_room); (case ku => ktr_units))
  trivial
end

theorem KZ1setup1 : True := by
  k_with "ktr_units" => ((have hcL9 := cLine_is; (try simp only [units_under_make, units_in1, units_deeper, Around.mark_units, units_caller]); (try dsimp only [ktrTop]); omega))
  k_with "ktr_room" => (((try simp only [depth_under_make, depth_under_kw, depth_in1, depth_deeper, depth_caller]); (try dsimp only [ktrTop]); omega))
  k_with "ktr_room" => (first | (refine' room_k 0 ?kmhw342 ?kmew342 ?kmkw342; (case kmhw342 => with_reducible assumption); (case kmew342 => exact rfl); (case kmkw342 => exact Nat.le_of_ble_eq_true rfl)) | (refine' room_k 1 ?kmhw342 ?kmew342 ?kmkw342; (case kmhw342 => with_reducible assumption); (case kmew342 => exact rfl); (case kmkw342 => exact Nat.le_of_ble_eq_true rfl)) | (refine' room_k 2 ?kmhw342 ?kmew342 ?kmkw342; (case kmhw342 => with_reducible assumption); (case kmew342 => exact rfl); (case kmkw342 => exact Nat.le_of_ble_eq_true rfl)) | (refine' room_k 3 ?kmhw342 ?kmew342 ?kmkw342; (case kmhw342 => with_reducible assumption); (case kmew342 => exact rfl); (case kmkw342 => exact Nat.le_of_ble_eq_true rfl)) | (refine' room_j 0 ?kmhw342 ?kmew342 ?kmkw342; (case kmhw342 => with_reducible assumption); (case kmew342 => exact rfl); (case kmkw342 => exact Nat.le_of_ble_eq_true rfl)) | (refine' room_j 1 ?kmhw342 ?kmew342 ?kmkw342; (case kmhw342 => with_reducible assumption); (case kmew342 => exact rfl); (case kmkw342 => exact Nat.le_of_ble_eq_true rfl)) | (refine' room_j 2 ?kmhw342 ?kmew342 ?kmkw342; (case kmhw342 => with_reducible assumption); (case kmew342 => exact rfl); (case kmkw342 => exact Nat.le_of_ble_eq_true rfl)) | exact Nat.le_of_ble_eq_true rfl)
  k_with "ktr_units" => (first | (refine' room_k 0 ?kmhw343 ?kmew343 ?kmkw343; (case kmhw343 => with_reducible assumption); (case kmew343 => exact rfl); (case kmkw343 => exact Nat.le_of_ble_eq_true rfl)) | (refine' room_k 3 ?kmhw343 ?kmew343 ?kmkw343; (case kmhw343 => with_reducible assumption); (case kmew343 => exact rfl); (case kmkw343 => exact Nat.le_of_ble_eq_true rfl)) | (refine' room_k 1 ?kmhw343 ?kmew343 ?kmkw343; (case kmhw343 => with_reducible assumption); (case kmew343 => exact rfl); (case kmkw343 => exact Nat.le_of_ble_eq_true rfl)) | (refine' room_k 4 ?kmhw343 ?kmew343 ?kmkw343; (case kmhw343 => with_reducible assumption); (case kmew343 => exact rfl); (case kmkw343 => exact Nat.le_of_ble_eq_true rfl)) | (refine' room_k 6 ?kmhw343 ?kmew343 ?kmkw343; (case kmhw343 => with_reducible assumption); (case kmew343 => exact rfl); (case kmkw343 => exact Nat.le_of_ble_eq_true rfl)) | (refine' room_k 7 ?kmhw343 ?kmew343 ?kmkw343; (case kmhw343 => with_reducible assumption); (case kmew343 => exact rfl); (case kmkw343 => exact Nat.le_of_ble_eq_true rfl)) | (refine' room_j 0 ?kmhw343 ?kmew343 ?kmkw343; (case kmhw343 => with_reducible assumption); (case kmew343 => exact rfl); (case kmkw343 => exact Nat.le_of_ble_eq_true rfl)) | (refine' room_j 3 ?kmhw343 ?kmew343 ?kmkw343; (case kmhw343 => with_reducible assumption); (case kmew343 => exact rfl); (case kmkw343 => exact Nat.le_of_ble_eq_true rfl)) | (refine' room_j 1 ?kmhw343 ?kmew343 ?kmkw343; (case kmhw343 => with_reducible assumption); (case kmew343 => exact rfl); (case kmkw343 => exact Nat.le_of_ble_eq_true rfl)) | (refine' room_j 4 ?kmhw343 ?kmew343 ?kmkw343; (case kmhw343 => with_reducible assumption); (case kmew343 => exact rfl); (case kmkw343 => exact Nat.le_of_ble_eq_true rfl)) | exact Nat.le_of_ble_eq_true rfl)
  k_with "my cls" => ((k_dflt (refine' call_cls ?k1w344 ?k2w344 ?k3w344 ?k4w344 ?k5w344 ?k6w344 ?_; (case k1w344 => k_asm); (case k2w344 => k_asm); (case k3w344 => k_asm); (case k4w344 => k_is); (case k5w344 => k_is); (case k6w344 => k_is); k_whole; intro x' d' h' F' N' l1 l2; (try k_lt l1); (try k_lt2 l2); (try k_sweep))))
  k_with "my enter" => ((refine wpAny_call ?_; k_dflt ktr_enter))
  k_with "my sub" => (first | with_reducible assumption | exact Sub.refl | exact Sub.here | (with_reducible refine' Sub.app ?kmhw345; (case kmhw345 => k_extra "my sub")) | (with_reducible refine' Sub.cons ?kmhw345; (case kmhw345 => k_extra "my sub")))
  k_with "my subt" => (first | (with_reducible refine' Sub.trans ?kmhw346 ?kmkw346; (case kmhw346 => with_reducible assumption); (case kmkw346 => (with_reducible refine' Sub.join ?kmaw346 ?kmbw346; (case kmaw346 => k_extra "my sub"); (case kmbw346 => k_extra "my sub")))) | k_extra "my sub")
  k_with "my kmem" => (first | with_reducible assumption | exact List.mem_cons_self | (refine' List.mem_cons_of_mem _ ?kmhw347; (case kmhw347 => k_extra "my kmem")))
  k_with "my kmem" => ((refine' List.mem_append_right _ ?kmhw348; (case kmhw348 => k_extra "my kmem")))
  k_with "my off" => ((refine' Fresh.off ?kmxw349 ?kmyw349; (case kmxw349 => with_reducible assumption); (case kmyw349 => k_mem)))
  k_with "k_upd" => ((refine' upd_app ?kmxw350 ?kmyw350; (case kmyw350 => k_extra "my off"); (case kmxw350 => k_upd)))
  k_with "my kmem" => (first | (with_reducible refine' dec_x ?kmhw351; (case kmhw351 => k_extra "my sub")) | (with_reducible refine' dec_d ?kmhw351; (case kmhw351 => k_extra "my sub")))
  k_with "my num" => (first | (with_reducible refine' Num.dec ?kmhw352 ?kmow352; (case kmow352 => with_reducible assumption); (case kmhw352 => k_extra "my sub")) | with_reducible assumption | (with_reducible refine' Num.app ?kmhw352; (case kmhw352 => k_extra "my num")) | (with_reducible refine' Num.cons ?kmhw352; (case kmhw352 => k_extra "my num")))
  k_with "my lt" => (first | with_reducible assumption | (refine' DecOK.bt ?kmxw353; (case kmxw353 => with_reducible assumption)) | exact ten_lt)
  k_with "mul_fits" => ((refine' mul_ok ?kmxw354 ?kmyw354 ?kmzw354; (case kmxw354 => k_extra "my lt"); (case kmyw354 => k_extra "my lt"); (case kmzw354 => first | omega | decide)))
  k_with "binaryOp Pow int int" => ((k_here; (with_reducible refine pow_int_small ?kb1w355 ?kb2w355 ?kb3w355 ?_); (case kb1w355 => omega); (case kb2w355 => omega); (case kb3w355 => decide)))
  k_with "my keep" => (first | exact Sub.refl | exact Sub.nil | (with_reducible refine' Sub.add ?kmaw356 ?kmbw356; (case kmaw356 => first | exact List.mem_cons_self | k_mem); (case kmbw356 => k_extra "my keep")) | (with_reducible refine' Sub.join ?kmaw356 ?kmbw356; (case kmaw356 => k_extra "my sub"); (case kmbw356 => k_extra "my keep")) | k_extra "my sub")
  k_with "exec While" => ((k_here; k_extra "my while"))
  k_with "exec While Compare" => ((k_here; k_extra "my while"))
  k_with "exec While Compare cons nil" => ((k_here; k_extra "my while"))
  k_with "my conj" => (first | with_reducible assumption | (with_reducible refine' Nat.ne_of_lt ?kmhw357; (case kmhw357 => with_reducible assumption)) | (with_reducible refine' Nat.ne_of_gt ?kmhw357; (case kmhw357 => with_reducible assumption)) | (with_reducible refine' Ne.symm (And.left ?kmhw357); (case kmhw357 => with_reducible assumption)) | (with_reducible refine' Ne.symm (And.left (And.right ?kmhw357)); (case kmhw357 => with_reducible assumption)) | (with_reducible refine' Ne.symm (And.left (And.right (And.right ?kmhw357))); (case kmhw357 => with_reducible assumption)) | (with_reducible refine' Ne.symm (And.left (And.right (And.right (And.right ?kmhw357)))); (case kmhw357 => with_reducible assumption)) | (with_reducible refine' Ne.symm (And.left (And.right (And.right (And.right (And.right ?kmhw357))))); (case kmhw357 => with_reducible assumption)) | (with_reducible refine' Ne.symm (And.left (And.right (And.right (And.right (And.right (And.right ?kmhw357)))))); (case kmhw357 => with_reducible assumption)) | (with_reducible refine' Ne.symm (And.left (And.right (And.right (And.right (And.right (And.right (And.right ?kmhw357))))))); (case kmhw357 => with_reducible assumption)) | (with_reducible refine' Ne.symm (And.left (And.right (And.right (And.right (And.right (And.right (And.right (And.right ?kmhw357)))))))); (case kmhw357 => with_reducible assumption)) | (with_reducible refine' (And.left ?kmhw357); (case kmhw357 => with_reducible assumption)) | (with_reducible refine' (And.left (And.right ?kmhw357)); (case kmhw357 => with_reducible assumption)) | (with_reducible refine' (And.left (And.right (And.right ?kmhw357))); (case kmhw357 => with_reducible assumption)) | (with_reducible refine' (And.left (And.right (And.right (And.right ?kmhw357)))); (case kmhw357 => with_reducible assumption)) | (with_reducible refine' (And.left (And.right (And.right (And.right (And.right ?kmhw357))))); (case kmhw357 => with_reducible assumption)) | (with_reducible refine' (And.left (And.right (And.right (And.right (And.right (And.right ?kmhw357)))))); (case kmhw357 => with_reducible assumption)) | (with_reducible refine' (And.left (And.right (And.right (And.right (And.right (And.right (And.right ?kmhw357))))))); (case kmhw357 => with_reducible assumption)) | (with_reducible refine' (And.left (And.right (And.right (And.right (And.right (And.right (And.right (And.right ?kmhw357)))))))); (case kmhw357 => with_reducible assumption)))
  k_with "k_ne" => ((refine neN ?_; (try dsimp only); first | k_extra "my conj" | omega))
  k_with "k_mem" => (k_extra "my kmem")
  k_with "eval Name" => ((k_here; (first | (with_reducible show wpAny _ _ (eval _ (envOf _ _ _ _ _)) _ _ _) | (with_reducible show wpAny _ _ (eval _ (envX _ _ _ _ _ _)) _ _ _)); first | (k_dflt (refine' nmL ?Fw358 ?vw358 ?aw358 ?_; (case aw358 => (refine' NmOk.mk ?na1w358 ?na2w358 ?na3w358; (case na1w358 => rfl); (case na2w358 => rfl); (case na3w358 => decide))); (case Fw358 => with_reducible assumption); (case vw358 => apply @rfl _ (some _)); k_whole)) | (k_dflt (refine' nmK ?Fw358 ?Xw358 ?Tw358 ?ew358 ?aw358 ?_; (case aw358 => (refine' NmOk.mk ?na1w358 ?na2w358 ?na3w358; (case na1w358 => rfl); (case na2w358 => rfl); (case na3w358 => decide))); (case Xw358 => with_reducible assumption); (case ew358 => k_is); (case Fw358 => with_reducible assumption); (case Tw358 => k_asm); k_whole))))
  k_with "spliced" => ((k_here; (first | (with_reducible show wpAny _ _ (spliced (backTo _ (starEach _ (envOf _ _ _ _ _)))) _ _ _) | (with_reducible show wpAny _ _ (spliced (backTo _ (starEach _ (envX _ _ _ _ _ _)))) _ _ _)); first | ((with_reducible show wpAny _ _ (spliced (backTo _ (starEach [Expr.Name _ _] _))) _ _ _); k_dflt (refine' aL0 ?Fw359 ?vw359 ?aw359 ?_; (case aw359 => (refine' NmOk.mk ?na1w359 ?na2w359 ?na3w359; (case na1w359 => rfl); (case na2w359 => rfl); (case na3w359 => decide))); (case Fw359 => with_reducible assumption); (case vw359 => apply @rfl _ (some _)); k_whole; (try dsimp only [List.cons_append, List.nil_append]))) | ((with_reducible show wpAny _ _ (spliced (backTo _ (starEach (Expr.Name _ _ :: _) _))) _ _ _); k_dflt (refine' aL ?Fw359 ?vw359 ?aw359 ?_; (case aw359 => (refine' NmOk.mk ?na1w359 ?na2w359 ?na3w359; (case na1w359 => rfl); (case na2w359 => rfl); (case na3w359 => decide))); (case Fw359 => with_reducible assumption); (case vw359 => apply @rfl _ (some _)); k_whole)) | ((with_reducible show wpAny _ _ (spliced (backTo _ (starEach [Expr.Constant (Constant.int _) _ _] _))) _ _ _); refine' aI0 ?_; k_whole; (try dsimp only [List.cons_append, List.nil_append])) | ((with_reducible show wpAny _ _ (spliced (backTo _ (starEach (Expr.Constant (Constant.int _) _ _ :: _) _))) _ _ _); refine' aI ?_; k_whole) | ((with_reducible show wpAny _ _ (spliced (backTo _ (starEach (_ :: _) _))) _ _ _); k_dflt (refine' aC ?aw359 ?_; (case aw359 => exact @rfl _ true); k_whole))))
  k_with "eval Call" => ((k_here; (first | (with_reducible show wpAny _ _ (eval _ (envOf _ _ _ _ _)) _ _ _) | (with_reducible show wpAny _ _ (eval _ (envX _ _ _ _ _ _)) _ _ _)); first | ((with_reducible show wpAny _ _ (eval (Expr.Call (Expr.Name _ _) (_ :: _) [] _) _) _ _ _); k_dflt (refine' gcall ?Fw360 ?Xw360 ?Tw360 ?ew360 ?aw360 ?kw360 ?hsw360 ?_; (case aw360 => (refine' NmOk.mk ?na1w360 ?na2w360 ?na3w360; (case na1w360 => rfl); (case na2w360 => rfl); (case na3w360 => decide))); (case Xw360 => with_reducible assumption); (case ew360 => k_is); (case Fw360 => with_reducible assumption); (case Tw360 => k_asm); (case kw360 => k_is); (case hsw360 => exact @rfl _ true); k_whole)) | ((with_reducible show wpAny _ _ (eval (Expr.Call (Expr.Name _ _) [] [] _) _) _ _ _); k_dflt (refine' gcall0 ?Fw360 ?Xw360 ?Tw360 ?ew360 ?aw360 ?kw360 ?_; (case aw360 => (refine' NmOk.mk ?na1w360 ?na2w360 ?na3w360; (case na1w360 => rfl); (case na2w360 => rfl); (case na3w360 => decide))); (case Xw360 => with_reducible assumption); (case ew360 => k_is); (case Fw360 => with_reducible assumption); (case Tw360 => k_asm); (case kw360 => k_is); k_whole))))
  k_with "eval Attribute Name" => ((k_here; (first | (with_reducible show wpAny _ _ (eval _ (envOf _ _ _ _ _)) _ _ _) | (with_reducible show wpAny _ _ (eval _ (envX _ _ _ _ _ _)) _ _ _)); first | ((with_reducible show wpAny _ _ (eval (Expr.Attribute (Expr.Name _ _) (Str.ofString "top") _) _) _ _ _); k_dflt (refine' dec_top ?Fw361 ?Xw361 ?vw361 ?aw361 ?Nw361 ?Sw361 ?_; (case aw361 => (refine' NmOk.mk ?na1w361 ?na2w361 ?na3w361; (case na1w361 => rfl); (case na2w361 => rfl); (case na3w361 => decide))); (case Fw361 => with_reducible assumption); (case vw361 => apply @rfl _ (some (Value.ref (DecL.x _)))); (case Xw361 => with_reducible assumption); (case Nw361 => with_reducible assumption); (case Sw361 => k_extra "my sub"); k_whole)) | ((with_reducible show wpAny _ _ (eval (Expr.Attribute (Expr.Name _ _) (Str.ofString "places") _) _) _ _ _); k_dflt (refine' dec_places ?Fw361 ?Xw361 ?vw361 ?aw361 ?Nw361 ?Sw361 ?_; (case aw361 => (refine' NmOk.mk ?na1w361 ?na2w361 ?na3w361; (case na1w361 => rfl); (case na2w361 => rfl); (case na3w361 => decide))); (case Fw361 => with_reducible assumption); (case vw361 => apply @rfl _ (some (Value.ref (DecL.x _)))); (case Xw361 => with_reducible assumption); (case Nw361 => with_reducible assumption); (case Sw361 => k_extra "my sub"); k_whole))))
  k_with "eval Call Attribute" => ((k_here; (first | (with_reducible show wpAny _ _ (eval _ (envOf _ _ _ _ _)) _ _ _) | (with_reducible show wpAny _ _ (eval _ (envX _ _ _ _ _ _)) _ _ _)); first | ((with_reducible show wpAny _ _ (eval (Expr.Call (Expr.Attribute (Expr.Name _ _) _ _) (_ :: _) [] _) _) _ _ _); k_dflt (refine' dec_meth ?Fw362 ?Xw362 ?vw362 ?aw362 ?Nw362 ?Sw362 ?fw362 ?hmw362 ?hlw362 ?hsw362 ?hpw362 ?_; (case aw362 => (refine' NmOk.mk ?na1w362 ?na2w362 ?na3w362; (case na1w362 => rfl); (case na2w362 => rfl); (case na3w362 => decide))); (case Fw362 => with_reducible assumption); (case vw362 => apply @rfl _ (some (Value.ref (DecL.x _)))); (case Xw362 => with_reducible assumption); (case Nw362 => with_reducible assumption); (case Sw362 => k_extra "my sub"); (case fw362 => k_is); (case hmw362 => kernel_rfl); (case hlw362 => exact @rfl _ true); (case hsw362 => exact @rfl _ true); (case hpw362 => exact @rfl _ true); k_whole)) | ((with_reducible show wpAny _ _ (eval (Expr.Call (Expr.Attribute (Expr.Name _ _) _ _) [] [] _) _) _ _ _); k_dflt (refine' dec_meth0 ?Fw362 ?Xw362 ?vw362 ?aw362 ?Nw362 ?Sw362 ?fw362 ?hmw362 ?hlw362 ?hpw362 ?_; (case aw362 => (refine' NmOk.mk ?na1w362 ?na2w362 ?na3w362; (case na1w362 => rfl); (case na2w362 => rfl); (case na3w362 => decide))); (case Fw362 => with_reducible assumption); (case vw362 => apply @rfl _ (some (Value.ref (DecL.x _)))); (case Xw362 => with_reducible assumption); (case Nw362 => with_reducible assumption); (case Sw362 => k_extra "my sub"); (case fw362 => k_is); (case hmw362 => kernel_rfl); (case hlw362 => exact @rfl _ true); (case hpw362 => exact @rfl _ true); k_whole))))
  k_with "storeName" => ((k_here; (first | (with_reducible show wpAny _ _ (storeName (envOf _ _ _ _ _) _ _) _ _ _) | (with_reducible show wpAny _ _ (storeName (envX _ _ _ _ _ _) _ _) _ _ _)); k_dflt (refine' stL ?Fw363 ?Nw363 ?aw363 ?_; (case aw363 => (refine' NmOk.mk ?na1w363 ?na2w363 ?na3w363; (case na1w363 => rfl); (case na2w363 => rfl); (case na3w363 => decide))); (case Fw363 => with_reducible assumption); (case Nw363 => with_reducible assumption); k_whole; intro m9 h' tk9 F' N'; (try k_sweep))))
  trivial
section
variable {w : World} {mean : ExcName → Option Value} {mg mb : Str → Option Value}
section
variable {prog : Program} {w : World} {A : Around} {E : Value → Shared → Prop} {s : Shared} {h₀ : Heap} {L : Addr} {m : Str → Option Value} {env : Env}
open LCg in
theorem rest_ints {elt : PySem.Expr} {x : Str} {scope : Scope} {cl : List (Str × Addr)} {vs : List Value} {ns : List Int} {S : Led → Prop} {Fin : List Value → Led → Prop} {news : Led} (hv : IntsAre vs ns)
    (turn : ∀ (n : Int) (t : Tok) (I : Addr) (oI : Obj) (C : Addr) (oC : Obj) (D : Addr) (m₂ : Str → Option Value) (h : Heap) (tk : Nat) (E' : Value → Shared → Prop) (ys : List Value) (G : Value → Led → Prop),
      NsObj oC m₂ → m₂ x = some (.int n t) → Fr h₀ L h m → News h₀ L h ((I, oI) :: (C, oC) :: (D, lst ys) :: news) → Off3 I C D news → ((@Ne Nat I C) ∧ (@Ne Nat I D) ∧ (@Ne Nat C D)) → (∀ t', G (.int n t') news) →
      wpAny (model prog w) A (eval elt (compEnvC scope cl C env)) (CompEnd h₀ L m { s with heap := h, toks := tk } I oI C oC D (lst ys) S G) E' { s with heap := h, toks := tk })
    (fin : ∀ ys, IntsAre ys ns → Fin ys news) : CompRest prog w A h₀ L m env elt x scope cl s S (fun i v => vs.toArray[i]? = some v) Fin vs.length 0 [] news := by
  have go : ∀ (us : List Value) (ks : List Int), IntsAre us ks → ∀ (pre : List Value) (done : List Int) (ys : List Value), vs = pre ++ us → ns = done ++ ks → IntsAre ys done →
      CompRest prog w A h₀ L m env elt x scope cl s S (fun i v => vs.toArray[i]? = some v) Fin us.length pre.length ys news := by
    intro us ks hu
    induction hu with
    | nil => intro pre done ys e1 e2 hy; exact CompRest.zero (fin ys (by rw [e2, List.append_nil]; exact hy))
    | cons n t _ ih =>
      intro pre done ys e1 e2 hy
      have nxt : pre.length + 1 = (pre ++ [Value.int n t]).length := by rw [List.length_append]; rfl
      refine CompRest.succ fun v I oI C oC D m₂ h tk E' hv' hC hx F N off ne => ?_
      obtain rfl : v = .int n t := by
        rw [e1] at hv'
        simpa using hv'.symm
      refine turn n t I oI C oC D m₂ h tk E' ys _ hC hx F N off ne fun t' => ?_
      rw [nxt]
      exact ih (pre ++ [Value.int n t]) (done ++ [n]) _ (by rw [e1, List.append_assoc]; rfl) (by rw [e2, List.append_assoc]; rfl) (intsAre_append hy (.cons n t' .nil))
  exact go vs ns hv [] [] [] rfl rfl .nil
end
noncomputable def PInts (h₀ : Heap) (L : Addr) (m : Str → Option Value) (ns : List Int) (Q : Value → Shared → Prop) (xv : Value) (s₁ : Shared) : Prop :=
  ∃ ax vs na news, xv = .ref ax ∧ Fr h₀ L s₁.heap m ∧ News h₀ L s₁.heap news ∧ (ax, listOf (List.toArray vs) na) ∈ news ∧ IntsAre vs ns ∧ vs.length ≤ sizeLine ∧
    ∀ ys D n h' tk', IntsAre ys ns → Fr h₀ L h' m → News h₀ L h' ((D, listOf (List.toArray ys) n) :: news) → Q (.ref D) { s₁ with heap := h', toks := tk' }
theorem PInts.intro {h₀ : Heap} {L : Addr} {m : Str → Option Value} {ns : List Int} {Q : Value → Shared → Prop} {s₁ : Shared} {ax : Addr} {vs : List Value} {na : Nat} {news : Led}
    (F : Fr h₀ L s₁.heap m) (N : News h₀ L s₁.heap news) (hm : (ax, listOf (List.toArray vs) na) ∈ news) (hI : IntsAre vs ns) (hz : vs.length ≤ sizeLine)
    (h : ∀ ys D n h' tk', IntsAre ys ns → Fr h₀ L h' m → News h₀ L h' ((D, listOf (List.toArray ys) n) :: news) → Q (.ref D) { s₁ with heap := h', toks := tk' }) :
    PInts h₀ L m ns Q (.ref ax) s₁ := ⟨ax, vs, na, news, rfl, F, N, hm, hI, hz, h⟩
set_option maxHeartbeats 1000000 in
theorem ints_comp {dp un : Nat} {gd : Option (List Code)} {cn : Str} {cs : Scope} {a : Addr} {ccd : Value} {cl : List (Str × Addr)} {outer : List Env} {A₀ : Around} {base h₀ : Heap} {L : Addr} {m : Str → Option Value} {s : Shared} {Q E : Value → Shared → Prop} {iter : PySem.Expr} {p1 p2 p3 p4 pos : Pos} {ns : List Int}
    (B : Below A₀ base outer h₀) (F : Fr h₀ L s.heap m) (X : (KF w.params).In h₀) (T : Tp mean mg mb h₀) (hk : cs.kind = .function) (hd : dp + 2 < recursionLimit) (hu : un + 16 < cLine)
    (hs : ∀ x, foldedSetIterable iter (envX cn cs L a ccd cl) x = pure x)
    (h : wpAny (model PySem.Challenge.rw_nn0207_01.row.prog w) (ktrTop dp un gd cn cs L a ccd cl outer) (eval iter (envX cn cs L a ccd cl)) (PInts h₀ L m ns Q) E s) :
    wpAny (model PySem.Challenge.rw_nn0207_01.row.prog w) (ktrTop dp un gd cn cs L a ccd cl outer)
      (eval (.ListComp (.Call (.Name (Str.ofString "int") p1) [.Name (Str.ofString "cell") p2] [] p3) [⟨.Name (Str.ofString "cell") p4, iter, [], 0⟩]
        { kind := .function, names := [(Str.ofString ".0", .local), (Str.ofString "cell", .local), (Str.ofString "int", .globalImplicit)], isGenerator := false, isCoroutine := false } pos) (envX cn cs L a ccd cl)) Q E s := by
  refine LCg.ListComp_U F (by with_unfolding_all rfl) (by decide) (by rfl) (by decide) (by rfl) (wpAny_mono h (fun xv s₁ h₁ => ?_) fun _ _ e => e) hs
  obtain ⟨ax, vs, na, news, rfl, F1, N1, hm, hI, hz, hq⟩ := h₁
  clear F h
  revert X
  k_fill
  intro X
  refine LCg.CompSrc.ledger rfl F1 N1 hm (by simpa using hz) fun g => ?_
  refine rest_ints hI ?_ ?_
  · clear F1 N1 hq
    intro n t I oI C oC D m₂ h tk E' ys G hC hx F2 N2 off ne hG
    have hS : LCg.SrcAt h₀ ax vs.toArray news := .inr ⟨_, hm, rfl, na, rfl⟩
    k_steps
    first | exact compEnd_0 (by assumption) (by assumption) off hS (hG _) | exact hG _
  · intro ys hy D h tk F' N' o1
    exact hq ys D _ _ _ hy F' N'
theorem take63 {vs : List Value} {ns : List Int} (h : IntsAre vs (List.take 63 ns)) : vs.length ≤ sizeLine := by
  rw [IntsAre.length h]
  exact Nat.le_trans (List.length_take_le 63 ns) (Nat.le_of_ble_eq_true rfl)
theorem KZ1setup2 : True := by
  k_with "eval ListComp" => ((k_here; k_dflt (refine' ints_comp ?Bw364 ?Fw364 ?Xw364 ?Tw364 ?hkw364 ?hdw364 ?huw364 ?hsw364 ?_; (case Bw364 => k_asm); (case Fw364 => k_asm); (case Xw364 => k_asm); (case Tw364 => k_asm); (case hkw364 => first | exact rfl | assumption); (case hdw364 => ktr_room); (case huw364 => ktr_units); (case hsw364 => intro _; rfl); k_whole)))
  k_with "PInts" => ((k_here; k_dflt (refine' PInts.intro ?Fw365 ?Nw365 ?mw365 ?Pw365 ?zw365 ?_; (case Fw365 => k_asm); (case Nw365 => k_asm); (case mw365 => k_mem); (case Pw365 => with_reducible assumption); (case zw365 => exact take63 (by with_reducible assumption))); intro ys9 D9 n9 h9 tk9 S9 F9 N9; (try k_sweep)))
  trivial
set_option maxHeartbeats 1000000 in
theorem c_law_pen {dp un : Nat} {gd : Option (List Code)} {cn : Str} {cs : Scope} {a : Addr} {ccd : Value} {cl : List (Str × Addr)} {outer : List Env} {A₀ : Around} {base h₀ : Heap} {L : Addr} {m : Str → Option Value} {news : Led} {s : Shared} {Q E : Value → Shared → Prop} {l : Addr} {vs : List Value} {ns : List Int}
    (B : Below A₀ base outer h₀) (F : Fr h₀ L s.heap m) (X : (KF w.params).In h₀) (N : News h₀ L s.heap news) (T : Tp mean mg mb h₀) (hk : cs.kind = .function) (hd : dp + 4 < recursionLimit) (hu : un + 32 < cLine)
    (hL : base.IsList l vs.toArray) (hI : IntsAre vs ns) (hn : ns.length ≤ 63)
    (hret : ∀ p c n nc t u vs' h' tk', IntsAre vs' (List.take 63 ns) → Fr h₀ L h' m → News h₀ L h' ((p, listOf #[.ref c, .int 0 t, .int 0 u] n) :: (c, listOf vs'.toArray nc) :: news) → Q (.ref p) { s with heap := h', toks := tk' }) :
    wpAny (model PySem.Challenge.rw_nn0207_01.row.prog w) (ktrTop dp un gd cn cs L a ccd cl outer) (call (.ref 337) [.ref l]) Q E s := by
  revert X
  k_fill
  intro X
  refine wpAny_call ?_
  k_dflt (refine' code_defN [Str.ofString "script"] ?k1 ?k2 ?k3 ?k4 ?k5 ?kA ?kF ?kK ?k6 ?k7 ?k8 ?k9 ?kB ?_ ?c2 ?c3 ?c4 ?c5; (case kA => exact rfl); (case kF => exact rfl); (case kK => assumption); (case k1 => k_asm); (case k2 => k_asm); (case k3 => k_asm); (case k4 => k_asm); (case k5 => k_asm); (case k6 => k_is); (case k7 => k_is); (case k8 => ktr_room); (case k9 => exact BindsTo.of_eq rfl); (case c5 => decide); (case kB => exact locs rfl); (case c2 => exact rfl); (case c3 => exact rfl); (case c4 => exact rfl); k_whole; intro g' L' h' FG' F' N' B' X' T'; (try dsimp only); (try k_fold); (refine wp_letA ?_); intro A2)
  have hL' : g'.IsList l vs.toArray := by
    obtain ⟨o, e, r⟩ := hL
    exact ⟨o, (Below.stays (by assumption)) _ _ e, r⟩
  k_steps
  all_goals ((with_reducible rename Fr h₀ L _ m => kF); (with_reducible rename News h₀ L _ _ => kN); (try dsimp only at kF kN); exact hret _ _ _ _ _ _ _ _ _ (by assumption) kF (News.sub kN (by k_extra "my keep")))
end

end
section
open PySem PySem.W PyProof.Rows PySem.Calls PySem.Spec

/-- six whole numbers in a list of the ledger -/
structure SixI where
  (l : Addr) (n : Nat) (a b c d e f : Int) (k1 k2 k3 k4 k5 k6 : Tok)
noncomputable abbrev SixI.obj (S : SixI) : Obj := listOf #[.int S.a S.k1, .int S.b S.k2, .int S.c S.k3, .int S.d S.k4, .int S.e S.k5, .int S.f S.k6] S.n
structure SixI.Ok (S : SixI) : Prop where
  a : Bd S.a 7
  b : Bd S.b 7
  c : Bd S.c 7
  d : Bd S.d 7
  e : Bd S.e 7
  f : Bd S.f 7
noncomputable def SixI.q (S : SixI) : Six := ⟨(S.a : Rat) / 100, (S.b : Rat) / 100, (S.c : Rat) / 100, (S.d : Rat) / 100, (S.e : Rat) / 100, (S.f : Rat) / 100⟩
noncomputable def SixI.z (S : SixI) : M3 := ⟨S.a, S.b, 0, S.c, S.d, 0, S.e, S.f, 100⟩
section
variable {w : World} {mean : ExcName → Option Value} {mg mb : Str → Option Value}
theorem c_six {p c : Addr} {o : Obj} {g : Obj → Led} {vs : List Value} {ns : List Int} {nc : Nat} {k : Nat} (hk : k + 20 ≤ 500) (iv : IntsAre vs ns) (hl : ns.length ≤ 63) (po : PenAt c k o) :
    Ct w mean mg mb 14 (.ref 356) [.ref p] (fun news => UpdF p o news g ∧ Keeps (c, listOf vs.toArray nc) g)
     (fun Q news => ∀ (S : SixI) o', PenAt c (k + 20) o' → S.Ok → LCg.Off1 S.l (g o') → Q (.ref S.l) ((S.l, S.obj) :: g o')) := by
  intro dp un gd cn cs a ccd cl outer A₀ base h₀ L m news s Q E B F X N T hk' hpre hd hu hret
  exact c_law_six hk iv hl po dp un gd cn cs a ccd cl outer A₀ base h₀ L m news s Q E B F X N T hk' hpre hd hu fun l n a1 b1 c1 d1 e1 f1 k1 k2 k3 k4 k5 k6 o' po' ha hb hc hd hf hg off => hret ⟨l, n, a1, b1, c1, d1, e1, f1, k1, k2, k3, k4, k5, k6⟩ o' po' ⟨ha, hb, hc, hd, hf, hg⟩ off
theorem c_matrix {S : SixI} (ok : S.Ok) : Ct w mean mg mb 6 (.ref 370) [.ref S.l] (fun news => (S.l, S.obj) ∈ news)
    (fun Q news => ∀ M, MatOK M S.q 7 → Fresh news (matL w M) → Q (.ref M.x) (matL w M ++ news)) := c_law_matrix ok.a ok.b ok.c ok.d ok.e ok.f (by decide)
theorem c_rows {S : SixI} {t : Tok} : Ct w mean mg mb 2 (.ref 377) [.ref S.l, .int 2 t] (fun news => (S.l, S.obj) ∈ news)
    (fun Q news => ∀ R, RowsOK R S.z → Fresh news (rowsL R) → Q (.ref R.x) (rowsL R ++ news)) := c_law_rows

theorem KZ2setup1 : True := by
  k_with "call ref" => ((k_here; (with_reducible show wpAny _ _ (call (Value.ref 370) _) _ _ _); k_dflt (refine' (c_matrix ?hokw366) _ _ _ _ _ _ _ _ _ _ _ _ _ _ _ _ _ _ ?kB ?kF ?kX ?kN ?kT ?kK ?kpw366 ?kd ?ku ?_; k_extra "sid"; (case hokw366 => with_reducible assumption); (case kpw366 => k_mem); k_whole; intro M9 ok9 f9 h9 tk9 F9 N9; (try k_sweep))))
  k_with "call ref" => ((k_here; (with_reducible show wpAny _ _ (call (Value.ref 377) _) _ _ _); k_dflt (refine' (c_rows) _ _ _ _ _ _ _ _ _ _ _ _ _ _ _ _ _ _ ?kB ?kF ?kX ?kN ?kT ?kK ?kpw367 ?kd ?ku ?_; k_extra "sid"; (case kpw367 => k_mem); k_whole; intro R9 ok9 f9 h9 tk9 F9 N9; (try k_sweep))))
  k_with "CompEnd" => ((k_dflt (refine' compEnd_0 ?Fw368 ?Nw368 ?offw368 ?srcw368 ?_; (case Fw368 => k_asm); (case Nw368 => k_asm); (case offw368 => assumption); (case srcw368 => lcg_src))))
  k_with "CompEnd" => ((k_dflt (refine' compEnd_ext ?Fw369 ?Nw369 ?fw369 ?offw369 ?srcw369 ?_; (case Fw369 => k_asm); (case Nw369 => k_asm); (case fw369 => with_reducible assumption); (case offw369 => assumption); (case srcw369 => lcg_src))))
  trivial
/-- a list of three lists of six ints, and what is wanted after it -/
noncomputable def PSix (h₀ : Heap) (L : Addr) (m : Str → Option Value) (W : SixI → SixI → SixI → Led → Shared → Prop) (xv : Value) (s₁ : Shared) : Prop :=
  ∃ ax S1 S2 S3 na news, xv = .ref ax ∧ Fr h₀ L s₁.heap m ∧ News h₀ L s₁.heap news ∧ (ax, listOf #[.ref (SixI.l S1), .ref (SixI.l S2), .ref (SixI.l S3)] na) ∈ news ∧ (S1.l, S1.obj) ∈ news ∧ (S2.l, S2.obj) ∈ news ∧ (S3.l, S3.obj) ∈ news ∧ W S1 S2 S3 news s₁
theorem PSix.intro {h₀ : Heap} {L : Addr} {m : Str → Option Value} {W : SixI → SixI → SixI → Led → Shared → Prop} {s₁ : Shared} {ax : Addr} {S1 S2 S3 : SixI} {na : Nat} {news : Led} (F : Fr h₀ L s₁.heap m) (N : News h₀ L s₁.heap news)
    (hm : (ax, listOf #[.ref (SixI.l S1), .ref (SixI.l S2), .ref (SixI.l S3)] na) ∈ news) (m1 : (S1.l, S1.obj) ∈ news) (m2 : (S2.l, S2.obj) ∈ news) (m3 : (S3.l, S3.obj) ∈ news) (h : W S1 S2 S3 news s₁) : PSix h₀ L m W (.ref ax) s₁ :=
  ⟨ax, S1, S2, S3, na, news, rfl, F, N, hm, m1, m2, m3, h⟩
set_option maxHeartbeats 1000000 in
theorem mats_comp {dp un : Nat} {gd : Option (List Code)} {cn : Str} {cs : Scope} {a : Addr} {ccd : Value} {cl : List (Str × Addr)} {outer : List Env} {A₀ : Around} {base h₀ : Heap} {L : Addr} {m : Str → Option Value} {s : Shared} {Q E : Value → Shared → Prop} {iter : PySem.Expr} {p1 p2 p3 p4 pos : Pos}
    (B : Below A₀ base outer h₀) (F : Fr h₀ L s.heap m) (X : (KF w.params).In h₀) (T : Tp mean mg mb h₀) (hk : cs.kind = .function) (hd : dp + 9 < recursionLimit) (hu : un + 72 < cLine)
    (hs : ∀ x, foldedSetIterable iter (envX cn cs L a ccd cl) x = pure x)
    (h : wpAny (model PySem.Challenge.rw_nn0207_01.row.prog w) (ktrTop dp un gd cn cs L a ccd cl outer) (eval iter (envX cn cs L a ccd cl)) (PSix h₀ L m fun S1 S2 S3 news s₁ => S1.Ok ∧ S2.Ok ∧ S3.Ok ∧ ∀ M1 M2 M3 D n h' tk', MatOK M1 S1.q 7 → MatOK M2 S2.q 7 → MatOK M3 S3.q 7 → Fr h₀ L h' m → News h₀ L h' ((D, listOf #[.ref (MatL.x M1), .ref (MatL.x M2), .ref (MatL.x M3)] n) :: (matL w M3 ++ (matL w M2 ++ (matL w M1 ++ news)))) → Q (.ref D) { s₁ with heap := h', toks := tk' }) E s) :
    wpAny (model PySem.Challenge.rw_nn0207_01.row.prog w) (ktrTop dp un gd cn cs L a ccd cl outer)
      (eval (.ListComp (.Call (.Name (Str.ofString "_law_matrix") p1) [.Name (Str.ofString "six") p2] [] p3) [⟨.Name (Str.ofString "six") p4, iter, [], 0⟩]
        { kind := .function, names := [(Str.ofString ".0", .local), (Str.ofString "six", .local), (Str.ofString "_law_matrix", .globalImplicit)], isGenerator := false, isCoroutine := false } pos) (envX cn cs L a ccd cl)) Q E s := by
  refine LCg.ListComp_U F (by with_unfolding_all rfl) (by decide) (by rfl) (by decide) (by rfl) (wpAny_mono h (fun xv s₁ h₁ => ?_) fun _ _ e => e) hs
  obtain ⟨ax, S1, S2, S3, na, news, rfl, F1, N1, hm, m1, m2, m3, o1, o2, o3, hq⟩ := h₁
  clear F h
  revert X
  k_fill
  intro X
  refine LCg.CompSrc.ledger rfl F1 N1 hm (Nat.le_of_ble_eq_true rfl) fun g => ?_
  clear F1 N1
  lcg_lit
  k_steps
  (with_reducible rename Fr h₀ L _ m => kF)
  (with_reducible rename News h₀ L _ _ => kN)
  exact hq _ _ _ _ _ _ _ (by with_reducible assumption) (by with_reducible assumption) (by with_reducible assumption) kF kN
set_option maxHeartbeats 1000000 in
theorem rows_comp {dp un : Nat} {gd : Option (List Code)} {cn : Str} {cs : Scope} {a : Addr} {ccd : Value} {cl : List (Str × Addr)} {outer : List Env} {A₀ : Around} {base h₀ : Heap} {L : Addr} {m : Str → Option Value} {s : Shared} {Q : Flow → Shared → Prop} {E : Value → Shared → Prop} {iter : PySem.Expr} {p1 p2 p3 p4 p5 py pos spos : Pos} {y : Str}
    (B : Below A₀ base outer h₀) (F : Fr h₀ L s.heap m) (X : (KF w.params).In h₀) (T : Tp mean mg mb h₀) (hk : cs.kind = .function) (hd : dp + 5 < recursionLimit) (hu : un + 40 < cLine)
    (hsw : swapsWith (.ListComp (.Call (.Name (Str.ofString "_law_rows") p1) [.Name (Str.ofString "six") p2, .Constant (.int 2) 0 p5] [] p3) [⟨.Name (Str.ofString "six") p4, iter, [], 0⟩]
        { kind := .function, names := [(Str.ofString ".0", .local), (Str.ofString "six", .local), (Str.ofString "_law_rows", .globalImplicit)], isGenerator := false, isCoroutine := false } pos) (some (.Name y py)) spos.line (envX cn cs L a ccd cl) = pure true)
    (hy : (envX cn cs L a ccd cl).kindOf y = some .local) (hp : ((envX cn cs L a ccd cl).scope.kind == .class || ((envX cn cs L a ccd cl).scope.kind == .module && (envX cn cs L a ccd cl).locals != (envX cn cs L a ccd cl).globals)) = false)
    (hs : ∀ x, foldedSetIterable iter (envX cn cs L a ccd cl) x = pure x)
    (h : wpAny (model PySem.Challenge.rw_nn0207_01.row.prog w) (ktrTop dp un gd cn cs L a ccd cl outer) (eval iter (envX cn cs L a ccd cl)) (PSix h₀ L m fun S1 S2 S3 news s₁ => ∀ R1 R2 R3 D n h' tk', RowsOK R1 S1.z → RowsOK R2 S2.z → RowsOK R3 S3.z → Fr h₀ L h' (fun z => if z = y then some (.ref D) else m z) →
      News h₀ L h' ((D, listOf #[.ref (RowsL.x R1), .ref (RowsL.x R2), .ref (RowsL.x R3)] n) :: (rowsL R3 ++ (rowsL R2 ++ (rowsL R1 ++ news)))) → Q .next { s₁ with heap := h', toks := tk' }) E s) :
    wpAny (model PySem.Challenge.rw_nn0207_01.row.prog w) (ktrTop dp un gd cn cs L a ccd cl outer)
      (exec (.Assign [.Name y py] (.ListComp (.Call (.Name (Str.ofString "_law_rows") p1) [.Name (Str.ofString "six") p2, .Constant (.int 2) 0 p5] [] p3) [⟨.Name (Str.ofString "six") p4, iter, [], 0⟩]
        { kind := .function, names := [(Str.ofString ".0", .local), (Str.ofString "six", .local), (Str.ofString "_law_rows", .globalImplicit)], isGenerator := false, isCoroutine := false } pos) spos) (envX cn cs L a ccd cl)) Q E s := by
  refine LCg.Assign_ListComp_U F rfl hsw (by with_unfolding_all rfl) (by decide) (by rfl) (by decide) (by rfl) hy hp (wpAny_mono h (fun xv s₁ h₁ => ?_) fun _ _ e => e) hs
  obtain ⟨ax, S1, S2, S3, na, news, rfl, F1, N1, hm, m1, m2, m3, hq⟩ := h₁
  clear F h
  revert X
  k_fill
  intro X
  refine LCg.CompSrc.ledger rfl F1 N1 hm (Nat.le_of_ble_eq_true rfl) fun g => ?_
  clear F1 N1
  lcg_lit
  k_steps
  (with_reducible rename Fr h₀ L _ _ => kF)
  (with_reducible rename News h₀ L _ _ => kN)
  exact hq _ _ _ _ _ _ _ (by with_reducible assumption) (by with_reducible assumption) (by with_reducible assumption) kF kN
end

end
section
open PySem PySem.W PyProof.Rows PySem.Calls PySem.Spec
section
theorem s2 : (10 : Rat) ^ Int.toNat 2 = 100 := rfl
theorem s4 : (10 : Rat) ^ Int.toNat 4 = 10000 := rfl
theorem s6 : (10 : Rat) ^ Int.toNat 6 = 1000000 := rfl
theorem same6 {q r : Six} (ha : q.a = r.a) (hb : q.b = r.b) (hc : q.c = r.c) (hd : q.d = r.d) (he : q.e = r.e) (hf : q.f = r.f) : dsix q = dsix r := by
  unfold dsix
  rw [ha, hb, hc, hd, he, hf]
variable {S T U : SixI} {p q r : Six} {R : RowsL} {x y : Int}
theorem SixI.at (S : SixI) : SixAt S.q S.a S.b S.c S.d S.e S.f := ⟨rfl, rfl, rfl, rfl, rfl, rfl⟩
theorem prod_eq : dsix (S.q.mul T.q) = dsix ((S.z.mul T.z).six 4) := by
  apply same6 <;> simp only [SixI.q, SixI.z, Six.mul, M3.mul, s4, Rat.intCast_add, Rat.intCast_mul, Rat.intCast_ofNat] <;> grind
theorem prod3_eq : dsix ((S.q.mul T.q).mul U.q) = dsix (((S.z.mul T.z).mul U.z).six 6) := by
  apply same6 <;> simp only [SixI.q, SixI.z, Six.mul, M3.mul, s6, Rat.intCast_add, Rat.intCast_mul, Rat.intCast_ofNat] <;> grind
theorem assoc_eq : dsix ((p.mul q).mul r) = dsix (p.mul (q.mul r)) := by
  apply same6 <;> simp only [Six.mul] <;> grind
theorem one_eq : dsix (q.mul ⟨1, 0, 0, 1, 0, 0⟩) = dsix q := by
  apply same6 <;> simp only [Six.mul] <;> grind
theorem eno_eq : dsix ((⟨1, 0, 0, 1, 0, 0⟩ : Six).mul q) = dsix q := by
  apply same6 <;> simp only [Six.mul] <;> grind
theorem pt_a (ok : RowsOK R ((⟨x, y, 100, x, y, 0, 0, 0, 0⟩ : M3).mul S.z)) : R.a11 = x * S.a + y * S.c + 100 * S.e ∧ R.a12 = x * S.b + y * S.d + 100 * S.f ∧ R.a21 = x * S.a + y * S.c ∧ R.a22 = x * S.b + y * S.d := by
  have e := ok.e
  refine ⟨(congrArg M3.a11 e).trans ?_, (congrArg M3.a12 e).trans ?_, (congrArg M3.a21 e).trans ?_, (congrArg M3.a22 e).trans ?_⟩ <;> simp only [SixI.z, M3.mul] <;> lia
theorem point_eq (ok : RowsOK R ((⟨x, y, 100, x, y, 0, 0, 0, 0⟩ : M3).mul S.z)) :
    PyData.list [dq (S.q.a * ((x : Rat) / 10 ^ Int.toNat 2) + S.q.c * ((y : Rat) / 10 ^ Int.toNat 2) + S.q.e), dq (S.q.b * ((x : Rat) / 10 ^ Int.toNat 2) + S.q.d * ((y : Rat) / 10 ^ Int.toNat 2) + S.q.f)] =
    PyData.list [dq ((R.a11 : Rat) / 10 ^ Int.toNat 4), dq ((R.a12 : Rat) / 10 ^ Int.toNat 4)] := by
  obtain ⟨e1, e2, _, _⟩ := pt_a ok
  apply two_eq
  · rw [e1]; simp only [SixI.q, s2, s4, Rat.intCast_add, Rat.intCast_mul, Rat.intCast_ofNat]; grind
  · rw [e2]; simp only [SixI.q, s2, s4, Rat.intCast_add, Rat.intCast_mul, Rat.intCast_ofNat]; grind
theorem shift_eq (ok : RowsOK R ((⟨x, y, 100, x, y, 0, 0, 0, 0⟩ : M3).mul S.z)) :
    PyData.list [dq (S.q.a * ((x : Rat) / 10 ^ Int.toNat 2) + S.q.c * ((y : Rat) / 10 ^ Int.toNat 2)), dq (S.q.b * ((x : Rat) / 10 ^ Int.toNat 2) + S.q.d * ((y : Rat) / 10 ^ Int.toNat 2))] =
    PyData.list [dq ((R.a21 : Rat) / 10 ^ Int.toNat 4), dq ((R.a22 : Rat) / 10 ^ Int.toNat 4)] := by
  obtain ⟨_, _, e1, e2⟩ := pt_a ok
  apply two_eq
  · rw [e1]; simp only [SixI.q, s2, s4, Rat.intCast_add, Rat.intCast_mul]; grind
  · rw [e2]; simp only [SixI.q, s2, s4, Rat.intCast_add, Rat.intCast_mul]; grind
theorem later_eq {x y : Rat} : PyData.list [dq ((p.mul q).a * x + (p.mul q).c * y + (p.mul q).e), dq ((p.mul q).b * x + (p.mul q).d * y + (p.mul q).f)] =
    PyData.list [dq (q.a * (p.a * x + p.c * y + p.e) + q.c * (p.b * x + p.d * y + p.f) + q.e), dq (q.b * (p.a * x + p.c * y + p.e) + q.d * (p.b * x + p.d * y + p.f) + q.f)] := by
  apply two_eq <;> simp only [Six.mul] <;> grind
theorem dets_eq : dq ((p.mul q).a * (p.mul q).d - (p.mul q).b * (p.mul q).c) = dq ((p.a * p.d - p.b * p.c) * (q.a * q.d - q.b * q.c)) := by
  congr 1
  simp only [Six.mul]
  grind
theorem dq_int (n : Int) : dq (n : Rat) = .tuple [.int n, .int 0] := Nrm.dq ⟨Int.le_refl 0, .inl rfl, by rw [show (10 : Rat) ^ Int.toNat 0 = 1 from rfl]; grind⟩
theorem six_ints : dsix ⟨((1 : Int) : Rat), ((2 : Int) : Rat), ((3 : Int) : Rat), ((4 : Int) : Rat), ((5 : Int) : Rat), ((6 : Int) : Rat)⟩ = .tuple [.tuple [.int 1, .int 0], .tuple [.int 2, .int 0], .tuple [.int 3, .int 0], .tuple [.int 4, .int 0], .tuple [.int 5, .int 0], .tuple [.int 6, .int 0]] := by
  unfold dsix
  simp only [dq_int]
theorem bd_to {a : Int} {b c : Nat} (h : Bd a b) (k : b ≤ c) : Bd a c := h.to k
theorem b0 : Bd 0 7 := .of (by decide)
theorem b100 : Bd 100 7 := .of (by decide)
theorem z_bd (h : S.Ok) : S.z.Bd 7 := ⟨h.a, h.b, b0, h.c, h.d, b0, h.e, h.f, b100⟩
theorem add3 {a b c : Int} {n : Nat} (h1 : Bd a n) (h2 : Bd b n) (h3 : Bd c n) : Bd (a + b + c) (n + 2) := (h1.add h2).add (h3.to (by lia))
theorem mul_bd {u v : M3} {b c : Nat} (h : u.Bd b) (k : v.Bd c) : (u.mul v).Bd (b + c + 2) := by
  obtain ⟨a1, a2, a3, a4, a5, a6, a7, a8, a9⟩ := h
  obtain ⟨b1, b2, b3, b4, b5, b6, b7, b8, b9⟩ := k
  exact ⟨add3 (a1.mul b1) (a2.mul b4) (a3.mul b7), add3 (a1.mul b2) (a2.mul b5) (a3.mul b8), add3 (a1.mul b3) (a2.mul b6) (a3.mul b9),
    add3 (a4.mul b1) (a5.mul b4) (a6.mul b7), add3 (a4.mul b2) (a5.mul b5) (a6.mul b8), add3 (a4.mul b3) (a5.mul b6) (a6.mul b9),
    add3 (a7.mul b1) (a8.mul b4) (a9.mul b7), add3 (a7.mul b2) (a8.mul b5) (a9.mul b8), add3 (a7.mul b3) (a8.mul b6) (a9.mul b9)⟩
theorem pt_bd (hx : Bd x 7) (hy : Bd y 7) : (⟨x, y, 100, x, y, 0, 0, 0, 0⟩ : M3).Bd 7 := ⟨hx, hy, b100, hx, hy, b0, b0, b0, b0⟩
theorem rows_sub {w : World} {news : Led} {l r1 r2 r3 : Addr} {n n1 n2 n3 : Nat} {a1 a2 a3 a4 a5 a6 a7 a8 a9 : Int} {k1 k2 k3 k4 k5 k6 k7 k8 k9 : Tok}
    (h : (l, listOf #[.ref r1, .ref r2, .ref r3] n) ∈ news) (h1 : (r1, listOf #[.int a1 k1, .int a2 k2, .int a3 k3] n1) ∈ news) (h2 : (r2, listOf #[.int a4 k4, .int a5 k5, .int a6 k6] n2) ∈ news) (h3 : (r3, listOf #[.int a7 k7, .int a8 k8, .int a9 k9] n3) ∈ news) :
    Sub (rowsL ⟨l, r1, r2, r3, n, n1, n2, n3, a1, a2, a3, a4, a5, a6, a7, a8, a9, k1, k2, k3, k4, k5, k6, k7, k8, k9⟩) news := by
  unfold rowsL
  exact .add h (.add h1 (.add h2 (.add h3 .nil)))
/-- what stands beside a pen can never be the pen -/
theorem list_ne {k1 k2 : Nat} {a b : Array Value} (h : a ≠ b) : listOf a k1 ≠ listOf b k2 := fun e => h (by injection e with _ _ e _; injection e)
end
section
variable {w : World}
theorem dec_nl {D : DecL} : ∀ q ∈ decL w D, q.2.cls ≠ .type "list" := by
  intro q hq
  rw [decL_def] at hq
  simp only [List.mem_cons, List.not_mem_nil, or_false] at hq
  rcases hq with rfl | rfl
  · exact fun e => by cases e
  · exact fun e => by injection e with e; revert e; decide
theorem mat_nl {M : MatL} : ∀ q ∈ matL w M, q.2.cls ≠ .type "list" := by
  intro q hq
  unfold matL at hq
  simp only [List.mem_cons, List.mem_append] at hq
  rcases hq with rfl | rfl | hq
  · exact fun e => by cases e
  · exact fun e => by injection e with e; revert e; decide
  · rcases hq with hq | hq | hq | hq | hq | hq <;> exact dec_nl q hq
theorem pen_front {c : Addr} {k : Nat} {h₀ h : Heap} {L p : Addr} {o : Obj} {all rest : Led} (N : News h₀ L h all) (po : PenAt c k o) (hp : (p, o) ∈ all) (hr : Sub rest all) (hne : ∀ q ∈ rest, q.2 ≠ o) :
    ∃ g, UpdF p o (g o) g ∧ News h₀ L h (g o) ∧ (∀ l, Sub l rest → KeepsL l g) ∧ ∀ e ∈ rest, Keeps e g := by
  refine ⟨fun o' => (p, o') :: rest, .head fun q hq e => hne q hq ?_, fun q hq => ?_, fun l k => KeepsL.of fun o' => k.trans (.cons .refl), fun e he o' => .tail _ he⟩
  · have h1 := (N _ (hr.mem _ hq)).1
    have h2 := (N _ hp).1
    rw [e] at h1
    exact Option.some.inj (h1.symm.trans h2)
  · rcases List.mem_cons.mp hq with rfl | hq
    · exact N _ hp
    · exact N _ (hr.mem _ hq)
theorem pen_ne_mat {c : Addr} {k : Nat} {o : Obj} {M : MatL} (po : PenAt c k o) : ∀ q ∈ matL w M, q.2 ≠ o := by
  obtain ⟨_, _, _, _, _, rfl, _⟩ := po
  exact fun q hq e => mat_nl q hq (by rw [e])
theorem pen_ne_six {c : Addr} {k : Nat} {o : Obj} {S : SixI} (po : PenAt c k o) : S.obj ≠ o := by
  obtain ⟨_, _, _, _, _, rfl, _⟩ := po
  exact list_ne fun e => by simp at e
theorem pen_ne_three {c a b d : Addr} {k n : Nat} {o : Obj} (po : PenAt c k o) : listOf #[.ref a, .ref b, .ref d] n ≠ o := by
  obtain ⟨_, _, _, _, _, rfl, _⟩ := po
  exact list_ne fun e => by simp at e
theorem pen_ne_ints {c : Addr} {k n : Nat} {o : Obj} {vs : List Value} {ns : List Int} (po : PenAt c k o) (iv : IntsAre vs ns) : listOf vs.toArray n ≠ o := by
  obtain ⟨_, _, _, _, _, rfl, _⟩ := po
  refine list_ne fun e => ?_
  have e : vs = _ := congrArg Array.toList e
  subst e
  cases iv
end

end
section
open PySem PySem.W PyProof.Rows PySem.Calls PySem.Spec
/-- what the law holds after its first three lines -/
structure LawC (w : World) (S1 S2 S3 : SixI) (M1 M2 M3 : MatL) (X : Addr) (nx : Nat) (p c : Addr) (k nc : Nat) (vs : List Value) (ns : List Int) (o : Obj) (news : Led) : Prop where
  po : PenAt c k o
  iv : IntsAre vs ns
  hl : ns.length ≤ 63
  mp : (p, o) ∈ news
  mc : (c, listOf vs.toArray nc) ∈ news
  mX : (X, listOf #[.ref S1.l, .ref S2.l, .ref S3.l] nx) ∈ news
  m1 : (S1.l, S1.obj) ∈ news
  m2 : (S2.l, S2.obj) ∈ news
  m3 : (S3.l, S3.obj) ∈ news
  o1 : S1.Ok
  o2 : S2.Ok
  o3 : S3.Ok
  k1 : MatOK M1 S1.q 7
  k2 : MatOK M2 S2.q 7
  k3 : MatOK M3 S3.q 7
  s1 : Sub (matL w M1) news
  s2 : Sub (matL w M2) news
  s3 : Sub (matL w M3) news
/-- its pen set apart -/
theorem LawC.front {w : World} {S1 S2 S3 : SixI} {M1 M2 M3 : MatL} {X : Addr} {nx : Nat} {p c : Addr} {k nc : Nat} {vs : List Value} {ns : List Int} {o : Obj} {news : Led} {h₀ h : Heap} {L : Addr} (C : LawC w S1 S2 S3 M1 M2 M3 X nx p c k nc vs ns o news) (N : News h₀ L h news) :
    ∃ g, UpdF p o (g o) g ∧ News h₀ L h (g o) ∧ Keeps (c, listOf vs.toArray nc) g ∧ Keeps (X, listOf #[.ref S1.l, .ref S2.l, .ref S3.l] nx) g ∧ Keeps (S1.l, S1.obj) g ∧ Keeps (S2.l, S2.obj) g ∧ Keeps (S3.l, S3.obj) g ∧
      KeepsL (matL w M1) g ∧ KeepsL (matL w M2) g ∧ KeepsL (matL w M3) g := by
  obtain ⟨g, u, n, kl, ke⟩ := pen_front (rest := (c, listOf vs.toArray nc) :: (X, listOf #[.ref S1.l, .ref S2.l, .ref S3.l] nx) :: (S1.l, S1.obj) :: (S2.l, S2.obj) :: (S3.l, S3.obj) :: (matL w M1 ++ (matL w M2 ++ matL w M3))) N C.po C.mp
    (.add C.mc (.add C.mX (.add C.m1 (.add C.m2 (.add C.m3 (.join C.s1 (.join C.s2 C.s3))))))) (fun q hq => by
      simp only [List.mem_cons, List.mem_append] at hq
      rcases hq with rfl | rfl | rfl | rfl | rfl | hq | hq | hq
      · exact pen_ne_ints C.po C.iv
      · exact pen_ne_three C.po
      · exact pen_ne_six C.po
      · exact pen_ne_six C.po
      · exact pen_ne_six C.po
      · exact pen_ne_mat C.po q hq
      · exact pen_ne_mat C.po q hq
      · exact pen_ne_mat C.po q hq)
  refine ⟨g, u, n, ke _ (by simp), ke _ (by simp), ke _ (by simp), ke _ (by simp), ke _ (by simp), kl _ ?_, kl _ ?_, kl _ ?_⟩
  · exact .cons (.cons (.cons (.cons (.cons .here))))
  · exact .cons (.cons (.cons (.cons (.cons (.app .here)))))
  · exact .cons (.cons (.cons (.cons (.cons (.app (.app .refl))))))
/-- the law's names after its first three lines -/
noncomputable abbrev mA (l p X : Addr) (M1 M2 M3 : MatL) : Str → Option Value := fun y => if y = Str.ofString "three" then some (.ref M3.x) else if y = Str.ofString "two" then some (.ref M2.x) else if y = Str.ofString "one" then some (.ref M1.x) else if y = Str.ofString "sixes" then some (.ref X) else if y = Str.ofString "pen" then some (.ref p) else [(Str.ofString "script", Value.ref l)].reverse.lookup y
noncomputable abbrev mB (l p X : Addr) (M1 M2 M3 MB : MatL) (D : Addr) (x y pl : Int) (kx ky kp : Tok) : Str → Option Value := fun z => if z = Str.ofString "both" then some (.ref MB.x) else if z = Str.ofString "rows" then some (.ref D) else if z = Str.ofString "places" then some (.int pl kp) else if z = Str.ofString "y" then some (.int y ky) else if z = Str.ofString "x" then some (.int x kx) else mA l p X M1 M2 M3 z
/-- what it holds from the fifth line on -/
structure LawR (w : World) (S1 S2 S3 : SixI) (MB : MatL) (D : Addr) (nd : Nat) (R1 R2 R3 : RowsL) (x y pl : Int) (news : Led) : Prop where
  bx : Bd x 7
  by' : Bd y 7
  p0 : 0 ≤ pl
  p1 : pl ≤ 10
  mD : (D, listOf #[.ref R1.x, .ref R2.x, .ref R3.x] nd) ∈ news
  r1 : RowsOK R1 S1.z
  r2 : RowsOK R2 S2.z
  r3 : RowsOK R3 S3.z
  t1 : Sub (rowsL R1) news
  t2 : Sub (rowsL R2) news
  t3 : Sub (rowsL R3) news
  kb : MatOK MB (S1.q.mul S2.q) (2 * 7 + 3 * 7 + 2)
  sb : Sub (matL w MB) news
theorem lk_use {P : Prop} {K : Frag} {f : Addr} {r r' : Obj} (h2 : K.lookup f = some r) (ho : K.lookup f = some r') (k : r = r' → P) : P := k (Option.some.inj (h2.symm.trans ho))
/-- the law's text, by name -/
noncomputable def lawBody : List Stmt := (funS (nthS pb 41)).2.1
noncomputable def lawScope : Scope := (funS (nthS pb 41)).2.2
theorem law_fn {w : World} {name qual : Str} {params : Arguments} {body : List Stmt} {scope : Scope} {dV kV doc pm cdv ct oc : Value} {an od : Option Addr} {osl : Array (Option Value)}
    (ho : (KF w.params).lookup 423 = some ⟨oc, od, .func (fnOf name qual params body scope dV kV doc pm an cdv ct), osl⟩) : body = lawBody ∧ qual = Str.ofString "law" ∧ scope = lawScope := by
  suffices h : PySem.Challenge.rw_nn0207_01 = PySem.Challenge.rw_nn0207_01 → body = lawBody ∧ qual = Str.ofString "law" ∧ scope = lawScope from h rfl
  revert ho
  k_fill
  intro ho _
  k_dflt (refine' lk_use ?h2 ho ?_; (case h2 => k_is))
  intro e
  cases e
  exact ⟨rfl, rfl, rfl⟩

end
section
open PySem PySem.W PyProof.Rows PySem.Calls PySem.Spec

section
variable {w : World} {mean : ExcName → Option Value} {mg mb : Str → Option Value}



theorem KZ4setup1 : True := by
  k_with "call ref" => ((k_here; (with_reducible show wpAny _ _ (call (Value.ref 143) _) _ _ _); k_dflt (refine' (c_Decimal _ _ _ _ _ ?hzw370 ?htw370 ?hbw370 ?hqw370) _ _ _ _ _ _ _ _ _ _ _ _ _ _ _ _ _ _ ?kB ?kF ?kX ?kN ?kT ?kK ?kpw370 ?kd ?ku ?_; k_extra "sid"; (case kpw370 => exact trivial); (case hqw370 => first | exact int_hq | k_extra "my hq"); (case htw370 => first | with_reducible assumption | k_extra "my ht"); (case hbw370 => first | with_reducible assumption | k_extra "my hb" | omega); (case hzw370 => first | with_reducible assumption | k_extra "my hz" | omega); k_whole; intro D9 ok9 f9 h9 tk9 F9 N9; (try k_sweep))))
  k_with "call ref" => ((k_here; (with_reducible show wpAny _ _ (call (Value.ref 168) _) _ _ _); k_dflt (refine' (c_decimal_of) _ _ _ _ _ _ _ _ _ _ _ _ _ _ _ _ _ _ ?kB ?kF ?kX ?kN ?kT ?kK ?kpw371 ?kd ?ku ?_; k_extra "sid"; (case kpw371 => refine' ⟨?kpaw371, ?kpbw371⟩; (case kpaw371 => k_extra "my num"); (case kpbw371 => k_extra "my sub")); k_whole; intro e9 D9 ok9 s9 s8 f9 h9 tk9 F9 N9; have p9 := ok9.nrm.p0; have q9 := ok9.bp; (try k_sweep))))
  k_with "my le" => (first | exact Nat.le_refl _ | exact Nat.le_of_ble_eq_true rfl | exact lea _ _ | exact leb _ _ | exact le1 _ | omega)
  k_with "my kmem" => (first | (with_reducible refine' mat_x ?kmhw372; (case kmhw372 => k_extra "my sub")) | (with_reducible refine' mat_d ?kmhw372; (case kmhw372 => k_extra "my sub")))
  k_with "call ref" => ((k_here; (with_reducible show wpAny _ _ (call (Value.ref 70) _) _ _ _); k_dflt (refine' (c_plus ?hbbw373) _ _ _ _ _ _ _ _ _ _ _ _ _ _ _ _ _ _ ?kB ?kF ?kX ?kN ?kT ?kK ?kpw373 ?kd ?ku ?_; k_extra "sid"; (case kpw373 => refine' ⟨?kpaw373, ?kpbw373⟩; (case kpaw373 => k_extra "my num"); (case kpbw373 => k_extra "my num")); (case hbbw373 => first | decide | omega); k_whole; intro D9 ok9 h9 tk9 F9 N9; (try k_sweep))))
  k_with "call ref" => ((k_here; (with_reducible show wpAny _ _ (call (Value.ref 77) _) _ _ _); k_dflt (refine' (c_minus ?hbbw374) _ _ _ _ _ _ _ _ _ _ _ _ _ _ _ _ _ _ ?kB ?kF ?kX ?kN ?kT ?kK ?kpw374 ?kd ?ku ?_; k_extra "sid"; (case kpw374 => refine' ⟨?kpaw374, ?kpbw374⟩; (case kpaw374 => k_extra "my num"); (case kpbw374 => k_extra "my num")); (case hbbw374 => first | decide | omega); k_whole; intro D9 ok9 h9 tk9 F9 N9; (try k_sweep))))
  k_with "call ref" => ((k_here; (with_reducible show wpAny _ _ (call (Value.ref 84) _) _ _ _); k_dflt (refine' (c_times ?hbbw375 ?hokw375) _ _ _ _ _ _ _ _ _ _ _ _ _ _ _ _ _ _ ?kB ?kF ?kX ?kN ?kT ?kK ?kpw375 ?kd ?ku ?_; k_extra "sid"; (case hokw375 => with_reducible assumption); (case kpw375 => refine' ⟨?kpaw375, ?kpbw375⟩; (case kpaw375 => k_extra "my sub"); (case kpbw375 => k_extra "my num")); (case hbbw375 => first | decide | omega); k_whole; intro D9 ok9 h9 tk9 F9 N9; (try k_sweep))))
  k_with "call ref" => ((k_here; (with_reducible show wpAny _ _ (call (Value.ref 91) _) _ _ _); k_dflt (refine' (c_negated ?hokw376) _ _ _ _ _ _ _ _ _ _ _ _ _ _ _ _ _ _ ?kB ?kF ?kX ?kN ?kT ?kK ?kpw376 ?kd ?ku ?_; k_extra "sid"; (case hokw376 => with_reducible assumption); (case kpw376 => k_extra "my sub"); k_whole; intro D9 ok9 h9 tk9 F9 N9; (try k_sweep))))
  k_with "call ref" => ((k_here; (with_reducible show wpAny _ _ (call (Value.ref 126) _) _ _ _); k_dflt (refine' (c_told ?hokw377) _ _ _ _ _ _ _ _ _ _ _ _ _ _ _ _ _ _ ?kB ?kF ?kX ?kN ?kT ?kK ?kpw377 ?kd ?ku ?_; k_extra "sid"; (case hokw377 => with_reducible assumption); (case kpw377 => k_extra "my sub"); k_whole; intro e9 v9 y9 f9 h9 tk9 F9 N9; (try k_sweep))))
  k_with "call ref" => ((k_here; (with_reducible show wpAny _ _ (call (Value.ref 246) _) _ _ _); k_dflt (refine' (c_Matrix6) _ _ _ _ _ _ _ _ _ _ _ _ _ _ _ _ _ _ ?kB ?kF ?kX ?kN ?kT ?kK ?kpw378 ?kd ?ku ?_; k_extra "sid"; (case kpw378 => refine' ⟨⟨?kpaw378, ?kpbw378, ?kpcw378⟩, ?kpdw378, ?kpew378, ?kpfw378⟩; (case kpaw378 => k_extra "my num"); (case kpbw378 => k_extra "my num"); (case kpcw378 => k_extra "my num"); (case kpdw378 => k_extra "my num"); (case kpew378 => k_extra "my num"); (case kpfw378 => k_extra "my num")); k_whole; intro M9 ok9 h9 tk9 F9 N9; (try k_sweep))))
  k_with "my mok" => ((refine' MatOK.to ?kmaw379 ?kmbw379 ?kmcw379; (case kmaw379 => with_reducible assumption); (case kmbw379 => rfl); (case kmcw379 => first | (with_reducible refine' le6s ?m1w379; (case m1w379 => k_extra "my le")) | (with_reducible refine' le6 ?m1w379 ?m2w379 ?m3w379 ?m4w379 ?m5w379 ?m6w379; (case m1w379 => k_extra "my le"); (case m2w379 => k_extra "my le"); (case m3w379 => k_extra "my le"); (case m4w379 => k_extra "my le"); (case m5w379 => k_extra "my le"); (case m6w379 => k_extra "my le")) | omega)))
  k_with "my says" => (first | with_reducible assumption | (with_reducible refine' Says.here ?kmhw380; (case kmhw380 => with_reducible assumption)) | (with_reducible refine' Says.app ?kmhw380; (case kmhw380 => k_extra "my says")) | (with_reducible refine' Says.cons ?kmhw380; (case kmhw380 => k_extra "my says")))
  k_with "my saysall" => (first | exact SaysAll.nil | (refine' SaysAll.cons ?kmaw381 ?kmbw381; (case kmaw381 => k_extra "my says"); (case kmbw381 => k_extra "my saysall")))
  k_with "eval Attribute Name" => ((k_here; (first | (with_reducible show wpAny _ _ (eval _ (envOf _ _ _ _ _)) _ _ _) | (with_reducible show wpAny _ _ (eval _ (envX _ _ _ _ _ _)) _ _ _)); first | ((with_reducible show wpAny _ _ (eval (Expr.Attribute (Expr.Name _ _) (Str.ofString "a") _) _) _ _ _); k_dflt (refine' mat_at_a ?Fw382 ?Xw382 ?vw382 ?aw382 ?Nw382 ?Sw382 ?_; (case aw382 => (refine' NmOk.mk ?na1w382 ?na2w382 ?na3w382; (case na1w382 => rfl); (case na2w382 => rfl); (case na3w382 => decide))); (case Fw382 => with_reducible assumption); (case vw382 => apply @rfl _ (some (Value.ref (MatL.x _)))); (case Xw382 => with_reducible assumption); (case Nw382 => with_reducible assumption); (case Sw382 => k_extra "my sub"); k_whole)) | ((with_reducible show wpAny _ _ (eval (Expr.Attribute (Expr.Name _ _) (Str.ofString "b") _) _) _ _ _); k_dflt (refine' mat_at_b ?Fw382 ?Xw382 ?vw382 ?aw382 ?Nw382 ?Sw382 ?_; (case aw382 => (refine' NmOk.mk ?na1w382 ?na2w382 ?na3w382; (case na1w382 => rfl); (case na2w382 => rfl); (case na3w382 => decide))); (case Fw382 => with_reducible assumption); (case vw382 => apply @rfl _ (some (Value.ref (MatL.x _)))); (case Xw382 => with_reducible assumption); (case Nw382 => with_reducible assumption); (case Sw382 => k_extra "my sub"); k_whole)) | ((with_reducible show wpAny _ _ (eval (Expr.Attribute (Expr.Name _ _) (Str.ofString "c") _) _) _ _ _); k_dflt (refine' mat_at_c ?Fw382 ?Xw382 ?vw382 ?aw382 ?Nw382 ?Sw382 ?_; (case aw382 => (refine' NmOk.mk ?na1w382 ?na2w382 ?na3w382; (case na1w382 => rfl); (case na2w382 => rfl); (case na3w382 => decide))); (case Fw382 => with_reducible assumption); (case vw382 => apply @rfl _ (some (Value.ref (MatL.x _)))); (case Xw382 => with_reducible assumption); (case Nw382 => with_reducible assumption); (case Sw382 => k_extra "my sub"); k_whole)) | ((with_reducible show wpAny _ _ (eval (Expr.Attribute (Expr.Name _ _) (Str.ofString "d") _) _) _ _ _); k_dflt (refine' mat_at_d ?Fw382 ?Xw382 ?vw382 ?aw382 ?Nw382 ?Sw382 ?_; (case aw382 => (refine' NmOk.mk ?na1w382 ?na2w382 ?na3w382; (case na1w382 => rfl); (case na2w382 => rfl); (case na3w382 => decide))); (case Fw382 => with_reducible assumption); (case vw382 => apply @rfl _ (some (Value.ref (MatL.x _)))); (case Xw382 => with_reducible assumption); (case Nw382 => with_reducible assumption); (case Sw382 => k_extra "my sub"); k_whole)) | ((with_reducible show wpAny _ _ (eval (Expr.Attribute (Expr.Name _ _) (Str.ofString "e") _) _) _ _ _); k_dflt (refine' mat_at_e ?Fw382 ?Xw382 ?vw382 ?aw382 ?Nw382 ?Sw382 ?_; (case aw382 => (refine' NmOk.mk ?na1w382 ?na2w382 ?na3w382; (case na1w382 => rfl); (case na2w382 => rfl); (case na3w382 => decide))); (case Fw382 => with_reducible assumption); (case vw382 => apply @rfl _ (some (Value.ref (MatL.x _)))); (case Xw382 => with_reducible assumption); (case Nw382 => with_reducible assumption); (case Sw382 => k_extra "my sub"); k_whole)) | ((with_reducible show wpAny _ _ (eval (Expr.Attribute (Expr.Name _ _) (Str.ofString "f") _) _) _ _ _); k_dflt (refine' mat_at_f ?Fw382 ?Xw382 ?vw382 ?aw382 ?Nw382 ?Sw382 ?_; (case aw382 => (refine' NmOk.mk ?na1w382 ?na2w382 ?na3w382; (case na1w382 => rfl); (case na2w382 => rfl); (case na3w382 => decide))); (case Fw382 => with_reducible assumption); (case vw382 => apply @rfl _ (some (Value.ref (MatL.x _)))); (case Xw382 => with_reducible assumption); (case Nw382 => with_reducible assumption); (case Sw382 => k_extra "my sub"); k_whole))))
  k_with "eval Call Attribute" => ((k_here; (first | (with_reducible show wpAny _ _ (eval _ (envOf _ _ _ _ _)) _ _ _) | (with_reducible show wpAny _ _ (eval _ (envX _ _ _ _ _ _)) _ _ _)); first | ((with_reducible show wpAny _ _ (eval (Expr.Call (Expr.Attribute (Expr.Name _ _) _ _) (_ :: _) [] _) _) _ _ _); k_dflt (refine' mat_meth ?Fw383 ?Xw383 ?vw383 ?aw383 ?Nw383 ?Sw383 ?fw383 ?hmw383 ?hlw383 ?hsw383 ?hpw383 ?_; (case aw383 => (refine' NmOk.mk ?na1w383 ?na2w383 ?na3w383; (case na1w383 => rfl); (case na2w383 => rfl); (case na3w383 => decide))); (case Fw383 => with_reducible assumption); (case vw383 => apply @rfl _ (some (Value.ref (MatL.x _)))); (case Xw383 => with_reducible assumption); (case Nw383 => with_reducible assumption); (case Sw383 => k_extra "my sub"); (case fw383 => k_is); (case hmw383 => kernel_rfl); (case hlw383 => exact @rfl _ true); (case hsw383 => exact @rfl _ true); (case hpw383 => exact @rfl _ true); k_whole)) | ((with_reducible show wpAny _ _ (eval (Expr.Call (Expr.Attribute (Expr.Name _ _) _ _) [] [] _) _) _ _ _); k_dflt (refine' mat_meth0 ?Fw383 ?Xw383 ?vw383 ?aw383 ?Nw383 ?Sw383 ?fw383 ?hmw383 ?hlw383 ?hpw383 ?_; (case aw383 => (refine' NmOk.mk ?na1w383 ?na2w383 ?na3w383; (case na1w383 => rfl); (case na2w383 => rfl); (case na3w383 => decide))); (case Fw383 => with_reducible assumption); (case vw383 => apply @rfl _ (some (Value.ref (MatL.x _)))); (case Xw383 => with_reducible assumption); (case Nw383 => with_reducible assumption); (case Sw383 => k_extra "my sub"); (case fw383 => k_is); (case hmw383 => kernel_rfl); (case hlw383 => exact @rfl _ true); (case hpw383 => exact @rfl _ true); k_whole))))
  k_with "call ref" => ((k_here; (with_reducible show wpAny _ _ (call (Value.ref 224) _) _ _ _); k_dflt (refine' (c_applied ?hbbw384 ?hokw384) _ _ _ _ _ _ _ _ _ _ _ _ _ _ _ _ _ _ ?kB ?kF ?kX ?kN ?kT ?kK ?kpw384 ?kd ?ku ?_; k_extra "sid"; (case hokw384 => with_reducible assumption); (case kpw384 => refine' ⟨?kpaw384, ?kpbw384, ?kpcw384⟩; (case kpaw384 => k_extra "my sub"); (case kpbw384 => k_extra "my num"); (case kpcw384 => k_extra "my num")); (case hbbw384 => first | decide | omega); k_whole; intro T9 D9 D8 ok9 ok8 h9 tk9 F9 N9; (try k_sweep))))
  k_with "call ref" => ((k_here; (with_reducible show wpAny _ _ (call (Value.ref 231) _) _ _ _); k_dflt (refine' (c_shifted ?hbbw385 ?hokw385) _ _ _ _ _ _ _ _ _ _ _ _ _ _ _ _ _ _ ?kB ?kF ?kX ?kN ?kT ?kK ?kpw385 ?kd ?ku ?_; k_extra "sid"; (case hokw385 => with_reducible assumption); (case kpw385 => refine' ⟨?kpaw385, ?kpbw385, ?kpcw385⟩; (case kpaw385 => k_extra "my sub"); (case kpbw385 => k_extra "my num"); (case kpcw385 => k_extra "my num")); (case hbbw385 => first | decide | omega); k_whole; intro T9 D9 D8 ok9 ok8 h9 tk9 F9 N9; (try k_sweep))))
  k_with "call ref" => ((k_here; (with_reducible show wpAny _ _ (call (Value.ref 217) _) _ _ _); k_dflt (refine' (c_mtimes ?hbbw386 ?hokw386 ?hok2w386) _ _ _ _ _ _ _ _ _ _ _ _ _ _ _ _ _ _ ?kB ?kF ?kX ?kN ?kT ?kK ?kpw386 ?kd ?ku ?_; k_extra "sid"; (case hokw386 => with_reducible assumption); (case hok2w386 => with_reducible assumption); (case kpw386 => refine' ⟨?kpaw386, ?kpbw386⟩; (case kpaw386 => k_extra "my sub"); (case kpbw386 => k_extra "my sub")); (case hbbw386 => first | decide | omega); k_whole; intro M9 ok9 h9 tk9 F9 N9; (try k_sweep))))
  k_with "call ref" => ((k_here; (with_reducible show wpAny _ _ (call (Value.ref 299) _) _ _ _); k_dflt (refine' (c_determinant ?hbbw387 ?hokw387) _ _ _ _ _ _ _ _ _ _ _ _ _ _ _ _ _ _ ?kB ?kF ?kX ?kN ?kT ?kK ?kpw387 ?kd ?ku ?_; k_extra "sid"; (case hokw387 => with_reducible assumption); (case kpw387 => k_extra "my sub"); (case hbbw387 => first | decide | omega); k_whole; intro D9 ok9 h9 tk9 F9 N9; (try k_sweep))))
  k_with "call ref" => ((k_here; (with_reducible show wpAny _ _ (call (Value.ref 306) _) _ _ _); k_dflt (refine' (c_is_invertible ?hbbw388 ?hokw388) _ _ _ _ _ _ _ _ _ _ _ _ _ _ _ _ _ _ ?kB ?kF ?kX ?kN ?kT ?kK ?kpw388 ?kd ?ku ?_; k_extra "sid"; (case hokw388 => with_reducible assumption); (case kpw388 => k_extra "my sub"); (case hbbw388 => first | decide | omega); k_whole; intro  h9 tk9 F9 N9; (try k_sweep))))
  k_with "call ref" => ((k_here; (with_reducible show wpAny _ _ (call (Value.ref 313) _) _ _ _); k_dflt (refine' (c_is_straight ?hokw389) _ _ _ _ _ _ _ _ _ _ _ _ _ _ _ _ _ _ ?kB ?kF ?kX ?kN ?kT ?kK ?kpw389 ?kd ?ku ?_; k_extra "sid"; (case hokw389 => with_reducible assumption); (case kpw389 => k_extra "my sub"); k_whole; intro  h9 tk9 F9 N9; (try k_sweep))))
  k_with "my num" => (exact Num.int (b := 1) (Bd.of (by decide)) rfl)
  k_with "call ref" => ((k_here; (with_reducible show wpAny _ _ (call (Value.ref 238) _) _ _ _); k_dflt (refine' (c_parts) _ _ _ _ _ _ _ _ _ _ _ _ _ _ _ _ _ _ ?kB ?kF ?kX ?kN ?kT ?kK ?kpw390 ?kd ?ku ?_; k_extra "sid"; (case kpw390 => k_extra "my sub"); k_whole; intro l9 n9 h9 tk9 F9 N9; (try k_sweep))))
  k_with "call ref" => ((k_here; (with_reducible show wpAny _ _ (call (Value.ref 243) _) _ _ _); k_dflt (refine' (c_mtold ?hokw391) _ _ _ _ _ _ _ _ _ _ _ _ _ _ _ _ _ _ ?kB ?kF ?kX ?kN ?kT ?kK ?kpw391 ?kd ?ku ?_; k_extra "sid"; (case hokw391 => with_reducible assumption); (case kpw391 => k_extra "my sub"); k_whole; intro e9 v9 y9 h9 tk9 F9 N9; (try k_sweep))))
  k_with "call ref" => ((k_here; (with_reducible show wpAny _ _ (call (Value.ref 182) _) _ _ _); k_dflt (refine' (c_over _ _ ?hTSw392 ?hSw392 ?hbbw392 ?h0w392 ?hp0w392 ?hpw392) _ _ _ _ _ _ _ _ _ _ _ _ _ _ _ _ _ _ ?kB ?kF ?kX ?kN ?kT ?kK ?kpw392 ?kd ?ku ?_; k_extra "sid"; (case kpw392 => refine' ⟨?kpaw392, ?kpbw392⟩; (case kpaw392 => k_extra "my num"); (case kpbw392 => k_extra "my num")); (case hTSw392 => with_reducible assumption); (case hSw392 => with_reducible assumption); (case h0w392 => with_reducible assumption); (case hp0w392 => with_reducible assumption); (case hpw392 => with_reducible assumption); (case hbbw392 => first | decide | omega); k_whole; intro D9 ok9 h9 tk9 F9 N9; (try k_sweep))))
  trivial


theorem KZ4setup2 : True := by
  k_with "my kmem" => (first | (with_reducible refine' rows_x ?kmhw393; (case kmhw393 => k_extra "my sub")) | (with_reducible refine' rows_1 ?kmhw393; (case kmhw393 => k_extra "my sub")) | (with_reducible refine' rows_2 ?kmhw393; (case kmhw393 => k_extra "my sub")) | (with_reducible refine' rows_3 ?kmhw393; (case kmhw393 => k_extra "my sub")))
  k_with "call ref" => ((k_here; (with_reducible show wpAny _ _ (call (Value.ref 363) _) _ _ _); k_dflt (refine' (c_law_told _ _ _ _ ?hpw394 ?hqw394) _ _ _ _ _ _ _ _ _ _ _ _ _ _ _ _ _ _ ?kB ?kF ?kX ?kN ?kT ?kK ?kpw394 ?kd ?ku ?_; k_extra "sid"; (case kpw394 => exact trivial); (case hqw394 => first | with_reducible assumption | k_extra "my hq"); (case hpw394 => first | with_reducible assumption | decide | omega); k_whole; intro e9 v9 y9 f9 h9 tk9 F9 N9; (try k_sweep))))
  k_with "call ref" => ((k_here; (with_reducible show wpAny _ _ (call (Value.ref 377) _) _ _ _); k_dflt (refine' (c_law_rows) _ _ _ _ _ _ _ _ _ _ _ _ _ _ _ _ _ _ ?kB ?kF ?kX ?kN ?kT ?kK ?kpw395 ?kd ?ku ?_; k_extra "sid"; (case kpw395 => first | with_reducible assumption | k_mem); k_whole; intro R9 ok9 f9 h9 tk9 F9 N9; (try k_sweep))))
  k_with "my kmem" => (first | (with_reducible refine' Keeps.at ?kmhw396; (case kmhw396 => with_reducible assumption)) | (with_reducible refine' updF_mem ?kmhw396; (case kmhw396 => with_reducible assumption)))
  trivial


theorem KZ4setup3 : True := by
  k_with "my keeps" => (first | with_reducible assumption | (refine' Keeps.cons ?kmhw397; (case kmhw397 => k_extra "my keeps")))
  k_with "call ref" => ((k_here; (with_reducible show wpAny _ _ (call (Value.ref 344) _) _ _ _); k_dflt (refine' (c_law_draw ?hmw398 ?hm2w398 ?hkw398 ?ivw398 ?hlw398 ?pow398) _ _ _ _ _ _ _ _ _ _ _ _ _ _ _ _ _ _ ?kB ?kF ?kX ?kN ?kT ?kK ?kpw398 ?kd ?ku ?_; k_extra "sid"; (case pow398 => with_reducible assumption); (case ivw398 => with_reducible assumption); (case hlw398 => with_reducible assumption); (case hmw398 => decide); (case hm2w398 => decide); (case hkw398 => omega); (case kpw398 => refine' ⟨?kpaw398, ?kpbw398⟩; (case kpaw398 => walk_at "my updf"); (case kpbw398 => k_extra "my keeps")); k_whole; intro o9 d9 t9 po9 dl9 dh9 h9 tk9 F9 N9; (try k_sweep))))
  k_with "call ref" => ((k_here; (with_reducible show wpAny _ _ (call (Value.ref 351) _) _ _ _); k_dflt (refine' (c_law_number ?hkw399 ?ivw399 ?hlw399 ?pow399) _ _ _ _ _ _ _ _ _ _ _ _ _ _ _ _ _ _ ?kB ?kF ?kX ?kN ?kT ?kK ?kpw399 ?kd ?ku ?_; k_extra "sid"; (case pow399 => with_reducible assumption); (case ivw399 => with_reducible assumption); (case hlw399 => with_reducible assumption); (case hkw399 => omega); (case kpw399 => refine' ⟨?kpaw399, ?kpbw399⟩; (case kpaw399 => walk_at "my updf"); (case kpbw399 => k_extra "my keeps")); k_whole; intro o9 v9 t9 po9 b9 h9 tk9 F9 N9; (try k_sweep))))
  k_with "callWith ref" => ((k_here; (with_reducible show wpAny _ _ (callWith _ (Value.ref _) _ (backTo _ (starEach [] _)) []) _ _ _); k_dflt (refine' callWith_K0 ?k1w400 ?k2w400 ?_; (case k1w400 => k_in); (case k2w400 => k_is); k_whole)))
  k_with "callWith ref" => ((k_here; (with_reducible show wpAny _ _ (callWith _ (Value.ref _) _ (backTo _ (starEach (_ :: _) _)) []) _ _ _); k_dflt (refine' callWith_K ?k1w401 ?k2w401 ?_; (case k1w401 => k_asm); (case k2w401 => k_is); k_whole)))
  k_with "k_in" => ((refine' Frag.In.keeps ?kiaw402 (Fr.keep ?kibw402); (case kibw402 => k_asm); (case kiaw402 => k_asm)))
  k_with "my sub" => ((with_reducible refine' KeepsL.at ?kmhw403; (case kmhw403 => with_reducible assumption)))
  k_with "exec Assign cons ListComp" => ((k_here; k_dflt (refine' rows_comp ?Bw404 ?Fw404 ?Xw404 ?Tw404 ?hkw404 ?hdw404 ?huw404 ?hsww404 ?hyw404 ?hpw404 ?hsw404 ?_; (case Bw404 => k_asm); (case Fw404 => k_asm); (case Xw404 => k_asm); (case Tw404 => k_asm); (case hkw404 => first | exact rfl | assumption); (case hdw404 => ktr_room); (case huw404 => ktr_units); (case hsww404 => with_unfolding_all rfl); (case hyw404 => rfl); (case hpw404 => rfl); (case hsw404 => intro _; rfl); k_whole)))
  k_with "PSix" => ((k_here; k_dflt (refine' PSix.intro ?Fw405 ?Nw405 ?mw405 ?m1w405 ?m2w405 ?m3w405 ?_; (case Fw405 => k_asm); (case Nw405 => k_asm); (case mw405 => k_mem); (case m1w405 => k_mem); (case m2w405 => k_mem); (case m3w405 => k_mem)); intro R1 R2 R3 D9 n9 h9 tk9 or1 or2 or3 F9 N9; (try dsimp only); (try k_sweep)))
  trivial
set_option maxHeartbeats 4000000 in
theorem law_2 {base : Heap} {L l fa : Addr} {cd : Value} {s : Shared} {vs : List Value} {ns : List Int} {Q : Flow → Shared → Prop} {E : Value → Shared → Prop}
    {name qual : Str} {params : Arguments} {body : List Stmt} {scope : Scope} {dV kV doc pm cdv ct oc : Value} {an od : Option Addr} {osl : Array (Option Value)}
    {S1 S2 S3 : SixI} {M1 M2 M3 : MatL} {X : Addr} {nx : Nat} {p c : Addr} {k nc : Nat} {o : Obj} {news : Led}
    (ho : (KF w.params).lookup 423 = some ⟨oc, od, .func (fnOf name qual params body scope dV kV doc pm an cdv ct), osl⟩)
    (K0 : Below callerA base [] base) (KX : (KF w.params).In base) (T : Tp mean mg mb base) (F : Fr base L s.heap (mA l p X M1 M2 M3)) (N : News base L s.heap news)
    (C : LawC w S1 S2 S3 M1 M2 M3 X nx p c k nc vs ns o news) (hk : k ≤ 100)
    (next : ∀ MB D nd R1 R2 R3 x y pl kx ky kp o' news' h' tk', LawC w S1 S2 S3 M1 M2 M3 X nx p c (k + 7) nc vs ns o' news' → LawR w S1 S2 S3 MB D nd R1 R2 R3 x y pl news' → Fr base L h' (mB l p X M1 M2 M3 MB D x y pl kx ky kp) → News base L h' news' →
      wpAny (model PySem.Challenge.rw_nn0207_01.row.prog w) (callerA.deeper (envOf qual scope L fa cd)) (execs (body.drop 8) (envOf qual scope L fa cd)) Q E { s with heap := h', toks := tk' }) :
    wpAny (model PySem.Challenge.rw_nn0207_01.row.prog w) (callerA.deeper (envOf qual scope L fa cd)) (execs (body.drop 3) (envOf qual scope L fa cd)) Q E s := by
  obtain ⟨rfl, rfl, rfl⟩ := law_fn ho
  clear ho
  revert KX
  k_fill
  intro KX
  obtain ⟨g, hU, Ng, kc, kX, k1, k2, k3, l1, l2, l3⟩ := C.front N
  clear N
  obtain ⟨po, iv, hl, -, -, -, -, -, -, o1, o2, o3, ok1, ok2, ok3, -, -, -⟩ := C
  change wpAny _ (callerA.deeper (envOf _ ⟨_, _, _, _, _⟩ _ _ _)) (execs (_ :: _ :: _ :: _ :: _ :: lawBody.drop 8) (envOf _ ⟨_, _, _, _, _⟩ _ _ _)) _ _ _
  generalize List.drop 8 lawBody = rest at next ⊢
  delta mA at F
  k_steps
  (try unfold StopP)
  (try dsimp only)
  (with_reducible rename Fr base L _ _ => kF)
  (with_reducible rename News base L _ _ => kN)
  refine' next _ _ _ _ _ _ _ _ _ _ _ _ _ _ _ _ ⟨by assumption, iv, hl, ?c1, ?c2, ?c3, ?c4, ?c5, ?c6, o1, o2, o3, ok1, ok2, ok3, ?c7, ?c8, ?c9⟩ ⟨bd_to (by assumption) (by decide), bd_to (by assumption) (by decide), by assumption, by omega, ?d1, by assumption, by assumption, by assumption, ?d2, ?d3, ?d4, by assumption, ?d5⟩ kF kN
  (case d1 => k_mem)
  (case c1 => k_mem)
  (case c2 => k_mem)
  (case c3 => k_mem)
  (case c4 => k_mem)
  (case c5 => k_mem)
  (case c6 => k_mem)
  (case c7 => k_extra "my sub")
  (case c8 => k_extra "my sub")
  (case c9 => k_extra "my sub")
  (case d2 => k_extra "my sub")
  (case d3 => k_extra "my sub")
  (case d4 => k_extra "my sub")
  (case d5 => k_extra "my sub")
end

end
section
open PySem PySem.W PyProof.Rows PySem.Calls PySem.Spec

section
variable {w : World} {mean : ExcName → Option Value} {mg mb : Str → Option Value}








theorem KZ5setup1 : True := by
  k_with "callWith ref" => ((k_here; (with_reducible show wpAny _ _ (callWith _ (Value.ref _) _ (backTo _ (starEach [] _)) []) _ _ _); k_dflt (refine' callWith_K0 ?k1w406 ?k2w406 ?_; (case k1w406 => k_in); (case k2w406 => k_is); k_whole)))
  k_with "callWith ref" => ((k_here; (with_reducible show wpAny _ _ (callWith _ (Value.ref _) _ (backTo _ (starEach (_ :: _) _)) []) _ _ _); k_dflt (refine' callWith_K ?k1w407 ?k2w407 ?_; (case k1w407 => k_asm); (case k2w407 => k_is); k_whole)))
  k_with "my kmem" => (exact List.mem_cons_self)
  k_with "my told" => (first | (with_reducible refine' Says.list ?kmaw408 ?kmbw408; (case kmaw408 => exact List.mem_cons_self); (case kmbw408 => k_extra "my saysall")) | k_extra "my says")
  k_with "my eqd" => (first | (with_reducible rfl) | (with_reducible assumption) | k_extra "my eq")
  k_with "my ne" => ((k_here; k_dflt (refine' ne_told ?Nw409 ?S1w409 ?S2w409 ?hdw409 ?hsw409 ?hnw409 ?huw409 ?_; (case Nw409 => k_asm); (case S1w409 => k_extra "my told"); (case S2w409 => k_extra "my told"); (case hdw409 => k_extra "my eqd"); (case hsw409 => first | exact Shp.dq _ | exact Shp.dsix _ | exact Shp.two _ _); (case hnw409 => decide); (case huw409 => ktr_units); (try k_extra "my prune"))))
  k_with "my eqt" => ((k_here; k_dflt (refine' eq_told ?Nw410 ?S1w410 ?S2w410 ?hdw410 ?hsw410 ?hnw410 ?huw410 ?_; (case Nw410 => k_asm); (case S1w410 => k_extra "my told"); (case S2w410 => k_extra "my told"); (case hdw410 => k_extra "my eqd"); (case hsw410 => first | exact Shp.dq _ | exact Shp.dsix _ | exact Shp.two _ _); (case hnw410 => decide); (case huw410 => ktr_units); (try k_extra "my prune"))))
  k_with "compareOp NotEq" => (k_extra "my ne")
  k_with "compareOp NotEq ref ref" => (k_extra "my ne")
  k_with "compareOp NotEq ref" => (k_extra "my ne")
  k_with "compareOp Eq" => (k_extra "my eqt")
  k_with "compareOp Eq ref ref" => (k_extra "my eqt")
  k_with "compareOp Eq ref" => (k_extra "my eqt")
  k_with "my item" => ((k_here; (with_reducible show wpAny _ _ (subscriptTail _ _ (Value.ref _) (Value.int _ _)) _ _ _); k_dflt (refine' my_item ?Nw411 ?mw411 ?k2w411 ?k3w411 ?k4w411 ?_ ?k6w411; (case Nw411 => k_asm); (case mw411 => first | with_reducible assumption | k_mem); (case k2w411 => decide); (case k3w411 => decide); (case k4w411 => first | (refine' getk 0 ?gaw411 ?gbw411; (case gaw411 => decide); (case gbw411 => rfl)) | (refine' getk 1 ?gaw411 ?gbw411; (case gaw411 => decide); (case gbw411 => rfl)) | (refine' getk 2 ?gaw411 ?gbw411; (case gaw411 => decide); (case gbw411 => rfl)) | (refine' getk 3 ?gaw411 ?gbw411; (case gaw411 => decide); (case gbw411 => rfl)) | (refine' getk 4 ?gaw411 ?gbw411; (case gaw411 => decide); (case gbw411 => rfl)) | (refine' getk 5 ?gaw411 ?gbw411; (case gaw411 => decide); (case gbw411 => rfl))); (case k6w411 => with_unfolding_all rfl); k_whole)))
  k_with "subscriptTail" => (k_extra "my item")
  k_with "subscriptTail Name" => (k_extra "my item")
  k_with "subscriptTail Subscript" => (k_extra "my item")
  k_with "subscriptTail Name Name ref int" => (k_extra "my item")
  k_with "subscriptTail Name Constant ref int" => (k_extra "my item")
  k_with "subscriptTail Subscript Name Name Name ref int" => (k_extra "my item")
  k_with "subscriptTail Subscript Name Constant Name ref int" => (k_extra "my item")
  k_with "subscriptTail Subscript Name Name Constant ref int" => (k_extra "my item")
  k_with "subscriptTail Subscript Name Constant Constant ref int" => (k_extra "my item")
  k_with "my eq" => (with_reducible first | exact prod_eq | exact prod3_eq | exact assoc_eq | exact one_eq | exact eno_eq)
  k_with "call ref" => ((k_here; (with_reducible show wpAny _ _ (call (Value.ref 257) _) _ _ _); k_dflt (refine' (c_identity) _ _ _ _ _ _ _ _ _ _ _ _ _ _ _ _ _ _ ?kB ?kF ?kX ?kN ?kT ?kK ?kpw412 ?kd ?ku ?_; k_extra "sid"; (case kpw412 => exact trivial); k_whole; intro M9 ok9 h9 tk9 F9 N9; (try k_sweep))))
  k_with "call ref" => ((k_here; (with_reducible show wpAny _ _ (call (Value.ref 382) _) _ _ _); k_dflt (refine' (c_law_product ?oxw413 ?oyw413 ?bxw413 ?by'w413 ?bcw413) _ _ _ _ _ _ _ _ _ _ _ _ _ _ _ _ _ _ ?kB ?kF ?kX ?kN ?kT ?kK ?kpw413 ?kd ?ku ?_; k_extra "sid"; (case kpw413 => refine' ⟨?kpaw413, ?kpbw413⟩; (case kpaw413 => k_extra "my sub"); (case kpbw413 => k_extra "my sub")); (case oxw413 => with_reducible assumption); (case oyw413 => with_reducible assumption); (case bxw413 => with_reducible assumption); (case by'w413 => with_reducible assumption); (case bcw413 => decide); k_whole; intro R9 ok9 h9 tk9 F9 N9; (try k_sweep))))
  k_with "call ref" => ((k_here; (with_reducible show wpAny _ _ (call (Value.ref 387) _) _ _ _); k_dflt (refine' (c_law_six_told _ ?okw414 ?hpw414) _ _ _ _ _ _ _ _ _ _ _ _ _ _ _ _ _ _ ?kB ?kF ?kX ?kN ?kT ?kK ?kpw414 ?kd ?ku ?_; k_extra "sid"; (case kpw414 => k_extra "my sub"); (case okw414 => with_reducible assumption); (case hpw414 => decide); k_whole; intro e9 v9 y9 h9 tk9 F9 N9; (try k_sweep))))
  trivial
set_option maxHeartbeats 4000000 in
theorem law_3 {base g : Heap} {L l fa : Addr} {cd : Value} {s : Shared} {vs : List Value} {ns : List Int} {Q : Flow → Shared → Prop} {E : Value → Shared → Prop}
    {name qual : Str} {params : Arguments} {body : List Stmt} {scope : Scope} {dV kV doc pm cdv ct oc : Value} {an od : Option Addr} {osl : Array (Option Value)}
    {S1 S2 S3 : SixI} {M1 M2 M3 MB : MatL} {X p c D : Addr} {nx k nc nd : Nat} {o : Obj} {R1 R2 R3 : RowsL} {x y pl : Int} {kx ky kp : Tok} {news : Led}
    (ho : (KF w.params).lookup 423 = some ⟨oc, od, .func (fnOf name qual params body scope dV kV doc pm an cdv ct), osl⟩)
    (B : Below callerA base [] g) (KX : (KF w.params).In g) (T : Tp mean mg mb g) (F : Fr g L s.heap (mB l p X M1 M2 M3 MB D x y pl kx ky kp)) (N : News g L s.heap news)
    (C : LawC w S1 S2 S3 M1 M2 M3 X nx p c k nc vs ns o news) (R : LawR w S1 S2 S3 MB D nd R1 R2 R3 x y pl news)
    (next : ∀ h' tk', Fr g L h' (mB l p X M1 M2 M3 MB D x y pl kx ky kp) → News g L h' news →
      wpAny (model PySem.Challenge.rw_nn0207_01.row.prog w) (callerA.deeper (envOf qual scope L fa cd)) (execs (body.drop 9) (envOf qual scope L fa cd)) Q E { s with heap := h', toks := tk' }) :
    wpAny (model PySem.Challenge.rw_nn0207_01.row.prog w) (callerA.deeper (envOf qual scope L fa cd)) (execs (body.drop 8) (envOf qual scope L fa cd)) Q E s := by
  obtain ⟨rfl, rfl, rfl⟩ := law_fn ho
  clear ho
  revert KX
  k_fill
  intro KX
  change wpAny _ (callerA.deeper (envOf _ ⟨_, _, _, _, _⟩ _ _ _)) (execs (_ :: lawBody.drop 9) (envOf _ ⟨_, _, _, _, _⟩ _ _ _)) _ _ _
  generalize List.drop 9 lawBody = rest at next ⊢
  obtain ⟨-, -, -, -, -, -, -, -, -, o1, o2, o3, ok1, ok2, ok3, s1, s2, s3⟩ := C
  obtain ⟨bx, by', p0, p1, mD, r1, r2, r3, t1, t2, t3, kb, sb⟩ := R
  have z1 := z_bd o1
  have z2 := z_bd o2
  have z3 := z_bd o3
  have z12 := mul_bd z1 z2
  with_reducible refine wpAny_execs_cons ?_
  k_steps
  (try unfold StopP)
  (try dsimp only)
  (with_reducible rename Fr g L _ _ => kF)
  (with_reducible rename News g L _ _ => kN)
  exact next _ _ kF (News.sub kN (by k_extra "my keep"))
set_option maxHeartbeats 4000000 in
theorem law_4 {base g : Heap} {L l fa : Addr} {cd : Value} {s : Shared} {vs : List Value} {ns : List Int} {Q : Flow → Shared → Prop} {E : Value → Shared → Prop}
    {name qual : Str} {params : Arguments} {body : List Stmt} {scope : Scope} {dV kV doc pm cdv ct oc : Value} {an od : Option Addr} {osl : Array (Option Value)}
    {S1 S2 S3 : SixI} {M1 M2 M3 MB : MatL} {X p c D : Addr} {nx k nc nd : Nat} {o : Obj} {R1 R2 R3 : RowsL} {x y pl : Int} {kx ky kp : Tok} {news : Led}
    (ho : (KF w.params).lookup 423 = some ⟨oc, od, .func (fnOf name qual params body scope dV kV doc pm an cdv ct), osl⟩)
    (B : Below callerA base [] g) (KX : (KF w.params).In g) (T : Tp mean mg mb g) (F : Fr g L s.heap (mB l p X M1 M2 M3 MB D x y pl kx ky kp)) (N : News g L s.heap news)
    (C : LawC w S1 S2 S3 M1 M2 M3 X nx p c k nc vs ns o news) (R : LawR w S1 S2 S3 MB D nd R1 R2 R3 x y pl news)
    (next : ∀ h' tk', Fr g L h' (mB l p X M1 M2 M3 MB D x y pl kx ky kp) → News g L h' news →
      wpAny (model PySem.Challenge.rw_nn0207_01.row.prog w) (callerA.deeper (envOf qual scope L fa cd)) (execs (body.drop 10) (envOf qual scope L fa cd)) Q E { s with heap := h', toks := tk' }) :
    wpAny (model PySem.Challenge.rw_nn0207_01.row.prog w) (callerA.deeper (envOf qual scope L fa cd)) (execs (body.drop 9) (envOf qual scope L fa cd)) Q E s := by
  obtain ⟨rfl, rfl, rfl⟩ := law_fn ho
  clear ho
  revert KX
  k_fill
  intro KX
  change wpAny _ (callerA.deeper (envOf _ ⟨_, _, _, _, _⟩ _ _ _)) (execs (_ :: lawBody.drop 10) (envOf _ ⟨_, _, _, _, _⟩ _ _ _)) _ _ _
  generalize List.drop 10 lawBody = rest at next ⊢
  obtain ⟨-, -, -, -, -, -, -, -, -, o1, o2, o3, ok1, ok2, ok3, s1, s2, s3⟩ := C
  obtain ⟨bx, by', p0, p1, mD, r1, r2, r3, t1, t2, t3, kb, sb⟩ := R
  have z1 := z_bd o1
  have z2 := z_bd o2
  have z3 := z_bd o3
  have z12 := mul_bd z1 z2
  with_reducible refine wpAny_execs_cons ?_
  k_steps
  (try unfold StopP)
  (try dsimp only)
  (with_reducible rename Fr g L _ _ => kF)
  (with_reducible rename News g L _ _ => kN)
  exact next _ _ kF (News.sub kN (by k_extra "my keep"))
set_option maxHeartbeats 4000000 in
theorem law_5 {base g : Heap} {L l fa : Addr} {cd : Value} {s : Shared} {vs : List Value} {ns : List Int} {Q : Flow → Shared → Prop} {E : Value → Shared → Prop}
    {name qual : Str} {params : Arguments} {body : List Stmt} {scope : Scope} {dV kV doc pm cdv ct oc : Value} {an od : Option Addr} {osl : Array (Option Value)}
    {S1 S2 S3 : SixI} {M1 M2 M3 MB : MatL} {X p c D : Addr} {nx k nc nd : Nat} {o : Obj} {R1 R2 R3 : RowsL} {x y pl : Int} {kx ky kp : Tok} {news : Led}
    (ho : (KF w.params).lookup 423 = some ⟨oc, od, .func (fnOf name qual params body scope dV kV doc pm an cdv ct), osl⟩)
    (B : Below callerA base [] g) (KX : (KF w.params).In g) (T : Tp mean mg mb g) (F : Fr g L s.heap (mB l p X M1 M2 M3 MB D x y pl kx ky kp)) (N : News g L s.heap news)
    (C : LawC w S1 S2 S3 M1 M2 M3 X nx p c k nc vs ns o news) (R : LawR w S1 S2 S3 MB D nd R1 R2 R3 x y pl news)
    (next : ∀ h' tk', Fr g L h' (mB l p X M1 M2 M3 MB D x y pl kx ky kp) → News g L h' news →
      wpAny (model PySem.Challenge.rw_nn0207_01.row.prog w) (callerA.deeper (envOf qual scope L fa cd)) (execs (body.drop 11) (envOf qual scope L fa cd)) Q E { s with heap := h', toks := tk' }) :
    wpAny (model PySem.Challenge.rw_nn0207_01.row.prog w) (callerA.deeper (envOf qual scope L fa cd)) (execs (body.drop 10) (envOf qual scope L fa cd)) Q E s := by
  obtain ⟨rfl, rfl, rfl⟩ := law_fn ho
  clear ho
  revert KX
  k_fill
  intro KX
  change wpAny _ (callerA.deeper (envOf _ ⟨_, _, _, _, _⟩ _ _ _)) (execs (_ :: lawBody.drop 11) (envOf _ ⟨_, _, _, _, _⟩ _ _ _)) _ _ _
  generalize List.drop 11 lawBody = rest at next ⊢
  obtain ⟨-, -, -, -, -, -, -, -, -, o1, o2, o3, ok1, ok2, ok3, s1, s2, s3⟩ := C
  obtain ⟨bx, by', p0, p1, mD, r1, r2, r3, t1, t2, t3, kb, sb⟩ := R
  have z1 := z_bd o1
  have z2 := z_bd o2
  have z3 := z_bd o3
  have z12 := mul_bd z1 z2
  with_reducible refine wpAny_execs_cons ?_
  k_steps
  (try unfold StopP)
  (try dsimp only)
  (with_reducible rename Fr g L _ _ => kF)
  (with_reducible rename News g L _ _ => kN)
  exact next _ _ kF (News.sub kN (by k_extra "my keep"))
set_option maxHeartbeats 4000000 in
theorem law_6 {base g : Heap} {L l fa : Addr} {cd : Value} {s : Shared} {vs : List Value} {ns : List Int} {Q : Flow → Shared → Prop} {E : Value → Shared → Prop}
    {name qual : Str} {params : Arguments} {body : List Stmt} {scope : Scope} {dV kV doc pm cdv ct oc : Value} {an od : Option Addr} {osl : Array (Option Value)}
    {S1 S2 S3 : SixI} {M1 M2 M3 MB : MatL} {X p c D : Addr} {nx k nc nd : Nat} {o : Obj} {R1 R2 R3 : RowsL} {x y pl : Int} {kx ky kp : Tok} {news : Led}
    (ho : (KF w.params).lookup 423 = some ⟨oc, od, .func (fnOf name qual params body scope dV kV doc pm an cdv ct), osl⟩)
    (B : Below callerA base [] g) (KX : (KF w.params).In g) (T : Tp mean mg mb g) (F : Fr g L s.heap (mB l p X M1 M2 M3 MB D x y pl kx ky kp)) (N : News g L s.heap news)
    (C : LawC w S1 S2 S3 M1 M2 M3 X nx p c k nc vs ns o news) (R : LawR w S1 S2 S3 MB D nd R1 R2 R3 x y pl news)
    (next : ∀ h' tk', Fr g L h' (mB l p X M1 M2 M3 MB D x y pl kx ky kp) → News g L h' news →
      wpAny (model PySem.Challenge.rw_nn0207_01.row.prog w) (callerA.deeper (envOf qual scope L fa cd)) (execs (body.drop 12) (envOf qual scope L fa cd)) Q E { s with heap := h', toks := tk' }) :
    wpAny (model PySem.Challenge.rw_nn0207_01.row.prog w) (callerA.deeper (envOf qual scope L fa cd)) (execs (body.drop 11) (envOf qual scope L fa cd)) Q E s := by
  obtain ⟨rfl, rfl, rfl⟩ := law_fn ho
  clear ho
  revert KX
  k_fill
  intro KX
  change wpAny _ (callerA.deeper (envOf _ ⟨_, _, _, _, _⟩ _ _ _)) (execs (_ :: lawBody.drop 12) (envOf _ ⟨_, _, _, _, _⟩ _ _ _)) _ _ _
  generalize List.drop 12 lawBody = rest at next ⊢
  obtain ⟨-, -, -, -, -, -, -, -, -, o1, o2, o3, ok1, ok2, ok3, s1, s2, s3⟩ := C
  obtain ⟨bx, by', p0, p1, mD, r1, r2, r3, t1, t2, t3, kb, sb⟩ := R
  have z1 := z_bd o1
  have z2 := z_bd o2
  have z3 := z_bd o3
  have z12 := mul_bd z1 z2
  with_reducible refine wpAny_execs_cons ?_
  k_steps
  (try unfold StopP)
  (try dsimp only)
  (with_reducible rename Fr g L _ _ => kF)
  (with_reducible rename News g L _ _ => kN)
  exact next _ _ kF (News.sub kN (by k_extra "my keep"))
end

end
section
open PySem PySem.W PyProof.Rows PySem.Calls PySem.Spec
section
open PySem PySem.W PyProof.Rows PySem.Calls PySem.Spec
theorem KsidZ6 : True := by
  k_with_none
  k_with "sid" => ((case kB => k_asm); (case kF => k_asm); (case kX => k_asm); (case kN => k_asm); (case kT => k_asm); (case kK => first | exact rfl | assumption); (case kd => ktr_room); (case ku => ktr_units))
  k_with "sidT" => ((case kB => k_asm); (case kXB => k_asm); (case kTB => k_asm); (case kG => first | with_reducible assumption | exact GroundOf.refl (by assumption)); (case kF => k_asm); (case kX => k_asm); (case kN => k_asm); (case kT => k_asm); (case kK => first | exact rfl | assumption); (case kd => ktr_room); (case ku => ktr_units))
  trivial
end

theorem KZ6setup1 : True := by
  k_with "ktr_units" => ((have hcL9 := cLine_is; (try simp only [units_under_make, units_in1, units_deeper, Around.mark_units, units_caller]); (try dsimp only [ktrTop]); omega))
  k_with "ktr_room" => (((try simp only [depth_under_make, depth_under_kw, depth_in1, depth_deeper, depth_caller]); (try dsimp only [ktrTop]); omega))
  k_with "ktr_room" => (first | (refine' room_k 0 ?kmhw415 ?kmew415 ?kmkw415; (case kmhw415 => with_reducible assumption); (case kmew415 => exact rfl); (case kmkw415 => exact Nat.le_of_ble_eq_true rfl)) | (refine' room_k 1 ?kmhw415 ?kmew415 ?kmkw415; (case kmhw415 => with_reducible assumption); (case kmew415 => exact rfl); (case kmkw415 => exact Nat.le_of_ble_eq_true rfl)) | (refine' room_k 2 ?kmhw415 ?kmew415 ?kmkw415; (case kmhw415 => with_reducible assumption); (case kmew415 => exact rfl); (case kmkw415 => exact Nat.le_of_ble_eq_true rfl)) | (refine' room_k 3 ?kmhw415 ?kmew415 ?kmkw415; (case kmhw415 => with_reducible assumption); (case kmew415 => exact rfl); (case kmkw415 => exact Nat.le_of_ble_eq_true rfl)) | (refine' room_j 0 ?kmhw415 ?kmew415 ?kmkw415; (case kmhw415 => with_reducible assumption); (case kmew415 => exact rfl); (case kmkw415 => exact Nat.le_of_ble_eq_true rfl)) | (refine' room_j 1 ?kmhw415 ?kmew415 ?kmkw415; (case kmhw415 => with_reducible assumption); (case kmew415 => exact rfl); (case kmkw415 => exact Nat.le_of_ble_eq_true rfl)) | (refine' room_j 2 ?kmhw415 ?kmew415 ?kmkw415; (case kmhw415 => with_reducible assumption); (case kmew415 => exact rfl); (case kmkw415 => exact Nat.le_of_ble_eq_true rfl)) | exact Nat.le_of_ble_eq_true rfl)
  k_with "ktr_units" => (first | (refine' room_k 0 ?kmhw416 ?kmew416 ?kmkw416; (case kmhw416 => with_reducible assumption); (case kmew416 => exact rfl); (case kmkw416 => exact Nat.le_of_ble_eq_true rfl)) | (refine' room_k 3 ?kmhw416 ?kmew416 ?kmkw416; (case kmhw416 => with_reducible assumption); (case kmew416 => exact rfl); (case kmkw416 => exact Nat.le_of_ble_eq_true rfl)) | (refine' room_k 1 ?kmhw416 ?kmew416 ?kmkw416; (case kmhw416 => with_reducible assumption); (case kmew416 => exact rfl); (case kmkw416 => exact Nat.le_of_ble_eq_true rfl)) | (refine' room_k 4 ?kmhw416 ?kmew416 ?kmkw416; (case kmhw416 => with_reducible assumption); (case kmew416 => exact rfl); (case kmkw416 => exact Nat.le_of_ble_eq_true rfl)) | (refine' room_k 6 ?kmhw416 ?kmew416 ?kmkw416; (case kmhw416 => with_reducible assumption); (case kmew416 => exact rfl); (case kmkw416 => exact Nat.le_of_ble_eq_true rfl)) | (refine' room_k 7 ?kmhw416 ?kmew416 ?kmkw416; (case kmhw416 => with_reducible assumption); (case kmew416 => exact rfl); (case kmkw416 => exact Nat.le_of_ble_eq_true rfl)) | (refine' room_j 0 ?kmhw416 ?kmew416 ?kmkw416; (case kmhw416 => with_reducible assumption); (case kmew416 => exact rfl); (case kmkw416 => exact Nat.le_of_ble_eq_true rfl)) | (refine' room_j 3 ?kmhw416 ?kmew416 ?kmkw416; (case kmhw416 => with_reducible assumption); (case kmew416 => exact rfl); (case kmkw416 => exact Nat.le_of_ble_eq_true rfl)) | (refine' room_j 1 ?kmhw416 ?kmew416 ?kmkw416; (case kmhw416 => with_reducible assumption); (case kmew416 => exact rfl); (case kmkw416 => exact Nat.le_of_ble_eq_true rfl)) | (refine' room_j 4 ?kmhw416 ?kmew416 ?kmkw416; (case kmhw416 => with_reducible assumption); (case kmew416 => exact rfl); (case kmkw416 => exact Nat.le_of_ble_eq_true rfl)) | exact Nat.le_of_ble_eq_true rfl)
  k_with "my cls" => ((k_dflt (refine' call_cls ?k1w417 ?k2w417 ?k3w417 ?k4w417 ?k5w417 ?k6w417 ?_; (case k1w417 => k_asm); (case k2w417 => k_asm); (case k3w417 => k_asm); (case k4w417 => k_is); (case k5w417 => k_is); (case k6w417 => k_is); k_whole; intro x' d' h' F' N' l1 l2; (try k_lt l1); (try k_lt2 l2); (try k_sweep))))
  k_with "my enter" => ((refine wpAny_call ?_; k_dflt ktr_enter))
  k_with "my sub" => (first | with_reducible assumption | exact Sub.refl | exact Sub.here | (with_reducible refine' Sub.app ?kmhw418; (case kmhw418 => k_extra "my sub")) | (with_reducible refine' Sub.cons ?kmhw418; (case kmhw418 => k_extra "my sub")))
  k_with "my subt" => (first | (with_reducible refine' Sub.trans ?kmhw419 ?kmkw419; (case kmhw419 => with_reducible assumption); (case kmkw419 => (with_reducible refine' Sub.join ?kmaw419 ?kmbw419; (case kmaw419 => k_extra "my sub"); (case kmbw419 => k_extra "my sub")))) | k_extra "my sub")
  k_with "my kmem" => (first | with_reducible assumption | exact List.mem_cons_self | (refine' List.mem_cons_of_mem _ ?kmhw420; (case kmhw420 => k_extra "my kmem")))
  k_with "my kmem" => ((refine' List.mem_append_right _ ?kmhw421; (case kmhw421 => k_extra "my kmem")))
  k_with "my off" => ((refine' Fresh.off ?kmxw422 ?kmyw422; (case kmxw422 => with_reducible assumption); (case kmyw422 => k_mem)))
  k_with "k_upd" => ((refine' upd_app ?kmxw423 ?kmyw423; (case kmyw423 => k_extra "my off"); (case kmxw423 => k_upd)))
  k_with "my kmem" => (first | (with_reducible refine' dec_x ?kmhw424; (case kmhw424 => k_extra "my sub")) | (with_reducible refine' dec_d ?kmhw424; (case kmhw424 => k_extra "my sub")))
  k_with "my num" => (first | (with_reducible refine' Num.dec ?kmhw425 ?kmow425; (case kmow425 => with_reducible assumption); (case kmhw425 => k_extra "my sub")) | with_reducible assumption | (with_reducible refine' Num.app ?kmhw425; (case kmhw425 => k_extra "my num")) | (with_reducible refine' Num.cons ?kmhw425; (case kmhw425 => k_extra "my num")))
  k_with "my lt" => (first | with_reducible assumption | (refine' DecOK.bt ?kmxw426; (case kmxw426 => with_reducible assumption)) | exact ten_lt)
  k_with "mul_fits" => ((refine' mul_ok ?kmxw427 ?kmyw427 ?kmzw427; (case kmxw427 => k_extra "my lt"); (case kmyw427 => k_extra "my lt"); (case kmzw427 => first | omega | decide)))
  k_with "binaryOp Pow int int" => ((k_here; (with_reducible refine pow_int_small ?kb1w428 ?kb2w428 ?kb3w428 ?_); (case kb1w428 => omega); (case kb2w428 => omega); (case kb3w428 => decide)))
  k_with "my keep" => (first | exact Sub.refl | exact Sub.nil | (with_reducible refine' Sub.add ?kmaw429 ?kmbw429; (case kmaw429 => first | exact List.mem_cons_self | k_mem); (case kmbw429 => k_extra "my keep")) | (with_reducible refine' Sub.join ?kmaw429 ?kmbw429; (case kmaw429 => k_extra "my sub"); (case kmbw429 => k_extra "my keep")) | k_extra "my sub")
  k_with "exec While" => ((k_here; k_extra "my while"))
  k_with "exec While Compare" => ((k_here; k_extra "my while"))
  k_with "exec While Compare cons nil" => ((k_here; k_extra "my while"))
  k_with "my conj" => (first | with_reducible assumption | (with_reducible refine' Nat.ne_of_lt ?kmhw430; (case kmhw430 => with_reducible assumption)) | (with_reducible refine' Nat.ne_of_gt ?kmhw430; (case kmhw430 => with_reducible assumption)) | (with_reducible refine' Ne.symm (And.left ?kmhw430); (case kmhw430 => with_reducible assumption)) | (with_reducible refine' Ne.symm (And.left (And.right ?kmhw430)); (case kmhw430 => with_reducible assumption)) | (with_reducible refine' Ne.symm (And.left (And.right (And.right ?kmhw430))); (case kmhw430 => with_reducible assumption)) | (with_reducible refine' Ne.symm (And.left (And.right (And.right (And.right ?kmhw430)))); (case kmhw430 => with_reducible assumption)) | (with_reducible refine' Ne.symm (And.left (And.right (And.right (And.right (And.right ?kmhw430))))); (case kmhw430 => with_reducible assumption)) | (with_reducible refine' Ne.symm (And.left (And.right (And.right (And.right (And.right (And.right ?kmhw430)))))); (case kmhw430 => with_reducible assumption)) | (with_reducible refine' Ne.symm (And.left (And.right (And.right (And.right (And.right (And.right (And.right ?kmhw430))))))); (case kmhw430 => with_reducible assumption)) | (with_reducible refine' Ne.symm (And.left (And.right (And.right (And.right (And.right (And.right (And.right (And.right ?kmhw430)))))))); (case kmhw430 => with_reducible assumption)) | (with_reducible refine' (And.left ?kmhw430); (case kmhw430 => with_reducible assumption)) | (with_reducible refine' (And.left (And.right ?kmhw430)); (case kmhw430 => with_reducible assumption)) | (with_reducible refine' (And.left (And.right (And.right ?kmhw430))); (case kmhw430 => with_reducible assumption)) | (with_reducible refine' (And.left (And.right (And.right (And.right ?kmhw430)))); (case kmhw430 => with_reducible assumption)) | (with_reducible refine' (And.left (And.right (And.right (And.right (And.right ?kmhw430))))); (case kmhw430 => with_reducible assumption)) | (with_reducible refine' (And.left (And.right (And.right (And.right (And.right (And.right ?kmhw430)))))); (case kmhw430 => with_reducible assumption)) | (with_reducible refine' (And.left (And.right (And.right (And.right (And.right (And.right (And.right ?kmhw430))))))); (case kmhw430 => with_reducible assumption)) | (with_reducible refine' (And.left (And.right (And.right (And.right (And.right (And.right (And.right (And.right ?kmhw430)))))))); (case kmhw430 => with_reducible assumption)))
  k_with "k_ne" => ((refine neN ?_; (try dsimp only); first | k_extra "my conj" | omega))
  k_with "k_mem" => (k_extra "my kmem")
  k_with "eval Name" => ((k_here; (first | (with_reducible show wpAny _ _ (eval _ (envOf _ _ _ _ _)) _ _ _) | (with_reducible show wpAny _ _ (eval _ (envX _ _ _ _ _ _)) _ _ _)); first | (k_dflt (refine' nmL ?Fw431 ?vw431 ?aw431 ?_; (case aw431 => (refine' NmOk.mk ?na1w431 ?na2w431 ?na3w431; (case na1w431 => rfl); (case na2w431 => rfl); (case na3w431 => decide))); (case Fw431 => with_reducible assumption); (case vw431 => apply @rfl _ (some _)); k_whole)) | (k_dflt (refine' nmK ?Fw431 ?Xw431 ?Tw431 ?ew431 ?aw431 ?_; (case aw431 => (refine' NmOk.mk ?na1w431 ?na2w431 ?na3w431; (case na1w431 => rfl); (case na2w431 => rfl); (case na3w431 => decide))); (case Xw431 => with_reducible assumption); (case ew431 => k_is); (case Fw431 => with_reducible assumption); (case Tw431 => k_asm); k_whole))))
  k_with "spliced" => ((k_here; (first | (with_reducible show wpAny _ _ (spliced (backTo _ (starEach _ (envOf _ _ _ _ _)))) _ _ _) | (with_reducible show wpAny _ _ (spliced (backTo _ (starEach _ (envX _ _ _ _ _ _)))) _ _ _)); first | ((with_reducible show wpAny _ _ (spliced (backTo _ (starEach [Expr.Name _ _] _))) _ _ _); k_dflt (refine' aL0 ?Fw432 ?vw432 ?aw432 ?_; (case aw432 => (refine' NmOk.mk ?na1w432 ?na2w432 ?na3w432; (case na1w432 => rfl); (case na2w432 => rfl); (case na3w432 => decide))); (case Fw432 => with_reducible assumption); (case vw432 => apply @rfl _ (some _)); k_whole; (try dsimp only [List.cons_append, List.nil_append]))) | ((with_reducible show wpAny _ _ (spliced (backTo _ (starEach (Expr.Name _ _ :: _) _))) _ _ _); k_dflt (refine' aL ?Fw432 ?vw432 ?aw432 ?_; (case aw432 => (refine' NmOk.mk ?na1w432 ?na2w432 ?na3w432; (case na1w432 => rfl); (case na2w432 => rfl); (case na3w432 => decide))); (case Fw432 => with_reducible assumption); (case vw432 => apply @rfl _ (some _)); k_whole)) | ((with_reducible show wpAny _ _ (spliced (backTo _ (starEach [Expr.Constant (Constant.int _) _ _] _))) _ _ _); refine' aI0 ?_; k_whole; (try dsimp only [List.cons_append, List.nil_append])) | ((with_reducible show wpAny _ _ (spliced (backTo _ (starEach (Expr.Constant (Constant.int _) _ _ :: _) _))) _ _ _); refine' aI ?_; k_whole) | ((with_reducible show wpAny _ _ (spliced (backTo _ (starEach (_ :: _) _))) _ _ _); k_dflt (refine' aC ?aw432 ?_; (case aw432 => exact @rfl _ true); k_whole))))
  k_with "eval Call" => ((k_here; (first | (with_reducible show wpAny _ _ (eval _ (envOf _ _ _ _ _)) _ _ _) | (with_reducible show wpAny _ _ (eval _ (envX _ _ _ _ _ _)) _ _ _)); first | ((with_reducible show wpAny _ _ (eval (Expr.Call (Expr.Name _ _) (_ :: _) [] _) _) _ _ _); k_dflt (refine' gcall ?Fw433 ?Xw433 ?Tw433 ?ew433 ?aw433 ?kw433 ?hsw433 ?_; (case aw433 => (refine' NmOk.mk ?na1w433 ?na2w433 ?na3w433; (case na1w433 => rfl); (case na2w433 => rfl); (case na3w433 => decide))); (case Xw433 => with_reducible assumption); (case ew433 => k_is); (case Fw433 => with_reducible assumption); (case Tw433 => k_asm); (case kw433 => k_is); (case hsw433 => exact @rfl _ true); k_whole)) | ((with_reducible show wpAny _ _ (eval (Expr.Call (Expr.Name _ _) [] [] _) _) _ _ _); k_dflt (refine' gcall0 ?Fw433 ?Xw433 ?Tw433 ?ew433 ?aw433 ?kw433 ?_; (case aw433 => (refine' NmOk.mk ?na1w433 ?na2w433 ?na3w433; (case na1w433 => rfl); (case na2w433 => rfl); (case na3w433 => decide))); (case Xw433 => with_reducible assumption); (case ew433 => k_is); (case Fw433 => with_reducible assumption); (case Tw433 => k_asm); (case kw433 => k_is); k_whole))))
  k_with "eval Attribute Name" => ((k_here; (first | (with_reducible show wpAny _ _ (eval _ (envOf _ _ _ _ _)) _ _ _) | (with_reducible show wpAny _ _ (eval _ (envX _ _ _ _ _ _)) _ _ _)); first | ((with_reducible show wpAny _ _ (eval (Expr.Attribute (Expr.Name _ _) (Str.ofString "top") _) _) _ _ _); k_dflt (refine' dec_top ?Fw434 ?Xw434 ?vw434 ?aw434 ?Nw434 ?Sw434 ?_; (case aw434 => (refine' NmOk.mk ?na1w434 ?na2w434 ?na3w434; (case na1w434 => rfl); (case na2w434 => rfl); (case na3w434 => decide))); (case Fw434 => with_reducible assumption); (case vw434 => apply @rfl _ (some (Value.ref (DecL.x _)))); (case Xw434 => with_reducible assumption); (case Nw434 => with_reducible assumption); (case Sw434 => k_extra "my sub"); k_whole)) | ((with_reducible show wpAny _ _ (eval (Expr.Attribute (Expr.Name _ _) (Str.ofString "places") _) _) _ _ _); k_dflt (refine' dec_places ?Fw434 ?Xw434 ?vw434 ?aw434 ?Nw434 ?Sw434 ?_; (case aw434 => (refine' NmOk.mk ?na1w434 ?na2w434 ?na3w434; (case na1w434 => rfl); (case na2w434 => rfl); (case na3w434 => decide))); (case Fw434 => with_reducible assumption); (case vw434 => apply @rfl _ (some (Value.ref (DecL.x _)))); (case Xw434 => with_reducible assumption); (case Nw434 => with_reducible assumption); (case Sw434 => k_extra "my sub"); k_whole))))
  k_with "eval Call Attribute" => ((k_here; (first | (with_reducible show wpAny _ _ (eval _ (envOf _ _ _ _ _)) _ _ _) | (with_reducible show wpAny _ _ (eval _ (envX _ _ _ _ _ _)) _ _ _)); first | ((with_reducible show wpAny _ _ (eval (Expr.Call (Expr.Attribute (Expr.Name _ _) _ _) (_ :: _) [] _) _) _ _ _); k_dflt (refine' dec_meth ?Fw435 ?Xw435 ?vw435 ?aw435 ?Nw435 ?Sw435 ?fw435 ?hmw435 ?hlw435 ?hsw435 ?hpw435 ?_; (case aw435 => (refine' NmOk.mk ?na1w435 ?na2w435 ?na3w435; (case na1w435 => rfl); (case na2w435 => rfl); (case na3w435 => decide))); (case Fw435 => with_reducible assumption); (case vw435 => apply @rfl _ (some (Value.ref (DecL.x _)))); (case Xw435 => with_reducible assumption); (case Nw435 => with_reducible assumption); (case Sw435 => k_extra "my sub"); (case fw435 => k_is); (case hmw435 => kernel_rfl); (case hlw435 => exact @rfl _ true); (case hsw435 => exact @rfl _ true); (case hpw435 => exact @rfl _ true); k_whole)) | ((with_reducible show wpAny _ _ (eval (Expr.Call (Expr.Attribute (Expr.Name _ _) _ _) [] [] _) _) _ _ _); k_dflt (refine' dec_meth0 ?Fw435 ?Xw435 ?vw435 ?aw435 ?Nw435 ?Sw435 ?fw435 ?hmw435 ?hlw435 ?hpw435 ?_; (case aw435 => (refine' NmOk.mk ?na1w435 ?na2w435 ?na3w435; (case na1w435 => rfl); (case na2w435 => rfl); (case na3w435 => decide))); (case Fw435 => with_reducible assumption); (case vw435 => apply @rfl _ (some (Value.ref (DecL.x _)))); (case Xw435 => with_reducible assumption); (case Nw435 => with_reducible assumption); (case Sw435 => k_extra "my sub"); (case fw435 => k_is); (case hmw435 => kernel_rfl); (case hlw435 => exact @rfl _ true); (case hpw435 => exact @rfl _ true); k_whole))))
  k_with "storeName" => ((k_here; (first | (with_reducible show wpAny _ _ (storeName (envOf _ _ _ _ _) _ _) _ _ _) | (with_reducible show wpAny _ _ (storeName (envX _ _ _ _ _ _) _ _) _ _ _)); k_dflt (refine' stL ?Fw436 ?Nw436 ?aw436 ?_; (case aw436 => (refine' NmOk.mk ?na1w436 ?na2w436 ?na3w436; (case na1w436 => rfl); (case na2w436 => rfl); (case na3w436 => decide))); (case Fw436 => with_reducible assumption); (case Nw436 => with_reducible assumption); k_whole; intro m9 h' tk9 F' N'; (try k_sweep))))
  trivial
/-- the law's names after the point's lines -/
noncomputable abbrev mP (l p X : Addr) (M1 M2 M3 MB : MatL) (D : Addr) (x y pl : Int) (kx ky kp : Tok) (v1 v2 : Value) : Str → Option Value := fun z => if z = Str.ofString "gone" then some v2 else if z = Str.ofString "point" then some v1 else mB l p X M1 M2 M3 MB D x y pl kx ky kp z
noncomputable abbrev mW (l p X : Addr) (M1 M2 M3 MB : MatL) (D : Addr) (x y pl : Int) (kx ky kp : Tok) (v1 v2 v3 : Value) : Str → Option Value := fun z => if z = Str.ofString "way" then some v3 else mP l p X M1 M2 M3 MB D x y pl kx ky kp v1 v2 z
noncomputable abbrev mC (l p X : Addr) (M1 M2 M3 MB : MatL) (D : Addr) (x y pl : Int) (kx ky kp : Tok) (v1 v2 v3 v4 : Value) : Str → Option Value := fun z => if z = Str.ofString "later" then some v4 else mW l p X M1 M2 M3 MB D x y pl kx ky kp v1 v2 v3 z
/-- the point and where it goes -/
structure LawP (w : World) (S1 : SixI) (x y : Int) (RP : RowsL) (T : Addr) (D1 D2 : DecL) (news : Led) : Prop where
  rp : RowsOK RP ((⟨x, y, 100, x, y, 0, 0, 0, 0⟩ : M3).mul S1.z)
  tp : Sub (rowsL RP) news
  mT : (T, tupOf [.ref D1.x, .ref D2.x]) ∈ news
  d1 : DecOK D1 (S1.q.a * ((x : Rat) / 10 ^ Int.toNat 2) + S1.q.c * ((y : Rat) / 10 ^ Int.toNat 2) + S1.q.e) 50
  d2 : DecOK D2 (S1.q.b * ((x : Rat) / 10 ^ Int.toNat 2) + S1.q.d * ((y : Rat) / 10 ^ Int.toNat 2) + S1.q.f) 50
  t1 : Sub (decL w D1) news
  t2 : Sub (decL w D2) news
theorem LawC.mono {w : World} {S1 S2 S3 : SixI} {M1 M2 M3 : MatL} {X : Addr} {nx : Nat} {p c : Addr} {k nc : Nat} {vs : List Value} {ns : List Int} {o : Obj} {news news' : Led} (C : LawC w S1 S2 S3 M1 M2 M3 X nx p c k nc vs ns o news) (h : Sub news news') : LawC w S1 S2 S3 M1 M2 M3 X nx p c k nc vs ns o news' :=
  ⟨C.po, C.iv, C.hl, h.mem _ C.mp, h.mem _ C.mc, h.mem _ C.mX, h.mem _ C.m1, h.mem _ C.m2, h.mem _ C.m3, C.o1, C.o2, C.o3, C.k1, C.k2, C.k3, C.s1.trans h, C.s2.trans h, C.s3.trans h⟩
theorem LawR.mono {w : World} {S1 S2 S3 : SixI} {MB : MatL} {D : Addr} {nd : Nat} {R1 R2 R3 : RowsL} {x y pl : Int} {news news' : Led} (R : LawR w S1 S2 S3 MB D nd R1 R2 R3 x y pl news) (h : Sub news news') : LawR w S1 S2 S3 MB D nd R1 R2 R3 x y pl news' :=
  ⟨R.bx, R.by', R.p0, R.p1, h.mem _ R.mD, R.r1, R.r2, R.r3, R.t1.trans h, R.t2.trans h, R.t3.trans h, R.kb, R.sb.trans h⟩
section
variable {w : World} {mean : ExcName → Option Value} {mg mb : Str → Option Value}
theorem c_point {l r1 r2 r3 : Addr} {n n1 n2 n3 : Nat} {x y : Int} {k1 k2 k3 k4 k5 k6 k7 k8 k9 : Tok} {S : RowsL} {z : M3} (bx : Bd x 7) (by' : Bd y 7) (oy : RowsOK S z) (hz : z.Bd 7) :
    Ct w mean mg mb 2 (.ref 382) [.ref l, .ref S.x] (fun news => ((l, listOf #[.ref r1, .ref r2, .ref r3] n) ∈ news ∧ (r1, listOf #[.int x k1, .int y k2, .int 100 k3] n1) ∈ news) ∧ ((r2, listOf #[.int x k4, .int y k5, .int 0 k6] n2) ∈ news ∧ (r3, listOf #[.int 0 k7, .int 0 k8, .int 0 k9] n3) ∈ news) ∧ Sub (rowsL S) news)
     (fun Q news => ∀ R, RowsOK R ((⟨x, y, 100, x, y, 0, 0, 0, 0⟩ : M3).mul z) → Q (.ref R.x) (rowsL R ++ news)) := by
  intro dp un gd cn cs a ccd cl outer A₀ base h₀ L m news s Q E B F X N T hk ⟨⟨m1, m2⟩, ⟨m3, m4⟩, m5⟩ hd hu hret
  exact c_law_product (R := ⟨l, r1, r2, r3, n, n1, n2, n3, x, y, 100, x, y, 0, 0, 0, 0, k1, k2, k3, k4, k5, k6, k7, k8, k9⟩) (x := ⟨x, y, 100, x, y, 0, 0, 0, 0⟩) ⟨rfl⟩ oy (pt_bd bx by') hz (by decide) dp un gd cn cs a ccd cl outer A₀ base h₀ L m news s Q E B F X N T hk ⟨rows_sub (w := w) m1 m2 m3 m4, m5⟩ hd hu hret



theorem KZ6setup2 : True := by
  k_with "call ref" => ((k_here; (with_reducible show wpAny _ _ (call (Value.ref 143) _) _ _ _); k_dflt (refine' (c_Decimal _ _ _ _ _ ?hzw437 ?htw437 ?hbw437 ?hqw437) _ _ _ _ _ _ _ _ _ _ _ _ _ _ _ _ _ _ ?kB ?kF ?kX ?kN ?kT ?kK ?kpw437 ?kd ?ku ?_; k_extra "sid"; (case kpw437 => exact trivial); (case hqw437 => first | exact int_hq | k_extra "my hq"); (case htw437 => first | with_reducible assumption | k_extra "my ht"); (case hbw437 => first | with_reducible assumption | k_extra "my hb" | omega); (case hzw437 => first | with_reducible assumption | k_extra "my hz" | omega); k_whole; intro D9 ok9 f9 h9 tk9 F9 N9; (try k_sweep))))
  k_with "call ref" => ((k_here; (with_reducible show wpAny _ _ (call (Value.ref 168) _) _ _ _); k_dflt (refine' (c_decimal_of) _ _ _ _ _ _ _ _ _ _ _ _ _ _ _ _ _ _ ?kB ?kF ?kX ?kN ?kT ?kK ?kpw438 ?kd ?ku ?_; k_extra "sid"; (case kpw438 => refine' ⟨?kpaw438, ?kpbw438⟩; (case kpaw438 => k_extra "my num"); (case kpbw438 => k_extra "my sub")); k_whole; intro e9 D9 ok9 s9 s8 f9 h9 tk9 F9 N9; have p9 := ok9.nrm.p0; have q9 := ok9.bp; (try k_sweep))))
  k_with "my le" => (first | exact Nat.le_refl _ | exact Nat.le_of_ble_eq_true rfl | exact lea _ _ | exact leb _ _ | exact le1 _ | omega)
  k_with "my kmem" => (first | (with_reducible refine' mat_x ?kmhw439; (case kmhw439 => k_extra "my sub")) | (with_reducible refine' mat_d ?kmhw439; (case kmhw439 => k_extra "my sub")))
  k_with "call ref" => ((k_here; (with_reducible show wpAny _ _ (call (Value.ref 70) _) _ _ _); k_dflt (refine' (c_plus ?hbbw440) _ _ _ _ _ _ _ _ _ _ _ _ _ _ _ _ _ _ ?kB ?kF ?kX ?kN ?kT ?kK ?kpw440 ?kd ?ku ?_; k_extra "sid"; (case kpw440 => refine' ⟨?kpaw440, ?kpbw440⟩; (case kpaw440 => k_extra "my num"); (case kpbw440 => k_extra "my num")); (case hbbw440 => first | decide | omega); k_whole; intro D9 ok9 h9 tk9 F9 N9; (try k_sweep))))
  k_with "call ref" => ((k_here; (with_reducible show wpAny _ _ (call (Value.ref 77) _) _ _ _); k_dflt (refine' (c_minus ?hbbw441) _ _ _ _ _ _ _ _ _ _ _ _ _ _ _ _ _ _ ?kB ?kF ?kX ?kN ?kT ?kK ?kpw441 ?kd ?ku ?_; k_extra "sid"; (case kpw441 => refine' ⟨?kpaw441, ?kpbw441⟩; (case kpaw441 => k_extra "my num"); (case kpbw441 => k_extra "my num")); (case hbbw441 => first | decide | omega); k_whole; intro D9 ok9 h9 tk9 F9 N9; (try k_sweep))))
  k_with "call ref" => ((k_here; (with_reducible show wpAny _ _ (call (Value.ref 84) _) _ _ _); k_dflt (refine' (c_times ?hbbw442 ?hokw442) _ _ _ _ _ _ _ _ _ _ _ _ _ _ _ _ _ _ ?kB ?kF ?kX ?kN ?kT ?kK ?kpw442 ?kd ?ku ?_; k_extra "sid"; (case hokw442 => with_reducible assumption); (case kpw442 => refine' ⟨?kpaw442, ?kpbw442⟩; (case kpaw442 => k_extra "my sub"); (case kpbw442 => k_extra "my num")); (case hbbw442 => first | decide | omega); k_whole; intro D9 ok9 h9 tk9 F9 N9; (try k_sweep))))
  k_with "call ref" => ((k_here; (with_reducible show wpAny _ _ (call (Value.ref 91) _) _ _ _); k_dflt (refine' (c_negated ?hokw443) _ _ _ _ _ _ _ _ _ _ _ _ _ _ _ _ _ _ ?kB ?kF ?kX ?kN ?kT ?kK ?kpw443 ?kd ?ku ?_; k_extra "sid"; (case hokw443 => with_reducible assumption); (case kpw443 => k_extra "my sub"); k_whole; intro D9 ok9 h9 tk9 F9 N9; (try k_sweep))))
  k_with "call ref" => ((k_here; (with_reducible show wpAny _ _ (call (Value.ref 126) _) _ _ _); k_dflt (refine' (c_told ?hokw444) _ _ _ _ _ _ _ _ _ _ _ _ _ _ _ _ _ _ ?kB ?kF ?kX ?kN ?kT ?kK ?kpw444 ?kd ?ku ?_; k_extra "sid"; (case hokw444 => with_reducible assumption); (case kpw444 => k_extra "my sub"); k_whole; intro e9 v9 y9 f9 h9 tk9 F9 N9; (try k_sweep))))
  k_with "call ref" => ((k_here; (with_reducible show wpAny _ _ (call (Value.ref 246) _) _ _ _); k_dflt (refine' (c_Matrix6) _ _ _ _ _ _ _ _ _ _ _ _ _ _ _ _ _ _ ?kB ?kF ?kX ?kN ?kT ?kK ?kpw445 ?kd ?ku ?_; k_extra "sid"; (case kpw445 => refine' ⟨⟨?kpaw445, ?kpbw445, ?kpcw445⟩, ?kpdw445, ?kpew445, ?kpfw445⟩; (case kpaw445 => k_extra "my num"); (case kpbw445 => k_extra "my num"); (case kpcw445 => k_extra "my num"); (case kpdw445 => k_extra "my num"); (case kpew445 => k_extra "my num"); (case kpfw445 => k_extra "my num")); k_whole; intro M9 ok9 h9 tk9 F9 N9; (try k_sweep))))
  k_with "my mok" => ((refine' MatOK.to ?kmaw446 ?kmbw446 ?kmcw446; (case kmaw446 => with_reducible assumption); (case kmbw446 => rfl); (case kmcw446 => first | (with_reducible refine' le6s ?m1w446; (case m1w446 => k_extra "my le")) | (with_reducible refine' le6 ?m1w446 ?m2w446 ?m3w446 ?m4w446 ?m5w446 ?m6w446; (case m1w446 => k_extra "my le"); (case m2w446 => k_extra "my le"); (case m3w446 => k_extra "my le"); (case m4w446 => k_extra "my le"); (case m5w446 => k_extra "my le"); (case m6w446 => k_extra "my le")) | omega)))
  k_with "my says" => (first | with_reducible assumption | (with_reducible refine' Says.here ?kmhw447; (case kmhw447 => with_reducible assumption)) | (with_reducible refine' Says.app ?kmhw447; (case kmhw447 => k_extra "my says")) | (with_reducible refine' Says.cons ?kmhw447; (case kmhw447 => k_extra "my says")))
  k_with "my saysall" => (first | exact SaysAll.nil | (refine' SaysAll.cons ?kmaw448 ?kmbw448; (case kmaw448 => k_extra "my says"); (case kmbw448 => k_extra "my saysall")))
  k_with "eval Attribute Name" => ((k_here; (first | (with_reducible show wpAny _ _ (eval _ (envOf _ _ _ _ _)) _ _ _) | (with_reducible show wpAny _ _ (eval _ (envX _ _ _ _ _ _)) _ _ _)); first | ((with_reducible show wpAny _ _ (eval (Expr.Attribute (Expr.Name _ _) (Str.ofString "a") _) _) _ _ _); k_dflt (refine' mat_at_a ?Fw449 ?Xw449 ?vw449 ?aw449 ?Nw449 ?Sw449 ?_; (case aw449 => (refine' NmOk.mk ?na1w449 ?na2w449 ?na3w449; (case na1w449 => rfl); (case na2w449 => rfl); (case na3w449 => decide))); (case Fw449 => with_reducible assumption); (case vw449 => apply @rfl _ (some (Value.ref (MatL.x _)))); (case Xw449 => with_reducible assumption); (case Nw449 => with_reducible assumption); (case Sw449 => k_extra "my sub"); k_whole)) | ((with_reducible show wpAny _ _ (eval (Expr.Attribute (Expr.Name _ _) (Str.ofString "b") _) _) _ _ _); k_dflt (refine' mat_at_b ?Fw449 ?Xw449 ?vw449 ?aw449 ?Nw449 ?Sw449 ?_; (case aw449 => (refine' NmOk.mk ?na1w449 ?na2w449 ?na3w449; (case na1w449 => rfl); (case na2w449 => rfl); (case na3w449 => decide))); (case Fw449 => with_reducible assumption); (case vw449 => apply @rfl _ (some (Value.ref (MatL.x _)))); (case Xw449 => with_reducible assumption); (case Nw449 => with_reducible assumption); (case Sw449 => k_extra "my sub"); k_whole)) | ((with_reducible show wpAny _ _ (eval (Expr.Attribute (Expr.Name _ _) (Str.ofString "c") _) _) _ _ _); k_dflt (refine' mat_at_c ?Fw449 ?Xw449 ?vw449 ?aw449 ?Nw449 ?Sw449 ?_; (case aw449 => (refine' NmOk.mk ?na1w449 ?na2w449 ?na3w449; (case na1w449 => rfl); (case na2w449 => rfl); (case na3w449 => decide))); (case Fw449 => with_reducible assumption); (case vw449 => apply @rfl _ (some (Value.ref (MatL.x _)))); (case Xw449 => with_reducible assumption); (case Nw449 => with_reducible assumption); (case Sw449 => k_extra "my sub"); k_whole)) | ((with_reducible show wpAny _ _ (eval (Expr.Attribute (Expr.Name _ _) (Str.ofString "d") _) _) _ _ _); k_dflt (refine' mat_at_d ?Fw449 ?Xw449 ?vw449 ?aw449 ?Nw449 ?Sw449 ?_; (case aw449 => (refine' NmOk.mk ?na1w449 ?na2w449 ?na3w449; (case na1w449 => rfl); (case na2w449 => rfl); (case na3w449 => decide))); (case Fw449 => with_reducible assumption); (case vw449 => apply @rfl _ (some (Value.ref (MatL.x _)))); (case Xw449 => with_reducible assumption); (case Nw449 => with_reducible assumption); (case Sw449 => k_extra "my sub"); k_whole)) | ((with_reducible show wpAny _ _ (eval (Expr.Attribute (Expr.Name _ _) (Str.ofString "e") _) _) _ _ _); k_dflt (refine' mat_at_e ?Fw449 ?Xw449 ?vw449 ?aw449 ?Nw449 ?Sw449 ?_; (case aw449 => (refine' NmOk.mk ?na1w449 ?na2w449 ?na3w449; (case na1w449 => rfl); (case na2w449 => rfl); (case na3w449 => decide))); (case Fw449 => with_reducible assumption); (case vw449 => apply @rfl _ (some (Value.ref (MatL.x _)))); (case Xw449 => with_reducible assumption); (case Nw449 => with_reducible assumption); (case Sw449 => k_extra "my sub"); k_whole)) | ((with_reducible show wpAny _ _ (eval (Expr.Attribute (Expr.Name _ _) (Str.ofString "f") _) _) _ _ _); k_dflt (refine' mat_at_f ?Fw449 ?Xw449 ?vw449 ?aw449 ?Nw449 ?Sw449 ?_; (case aw449 => (refine' NmOk.mk ?na1w449 ?na2w449 ?na3w449; (case na1w449 => rfl); (case na2w449 => rfl); (case na3w449 => decide))); (case Fw449 => with_reducible assumption); (case vw449 => apply @rfl _ (some (Value.ref (MatL.x _)))); (case Xw449 => with_reducible assumption); (case Nw449 => with_reducible assumption); (case Sw449 => k_extra "my sub"); k_whole))))
  k_with "eval Call Attribute" => ((k_here; (first | (with_reducible show wpAny _ _ (eval _ (envOf _ _ _ _ _)) _ _ _) | (with_reducible show wpAny _ _ (eval _ (envX _ _ _ _ _ _)) _ _ _)); first | ((with_reducible show wpAny _ _ (eval (Expr.Call (Expr.Attribute (Expr.Name _ _) _ _) (_ :: _) [] _) _) _ _ _); k_dflt (refine' mat_meth ?Fw450 ?Xw450 ?vw450 ?aw450 ?Nw450 ?Sw450 ?fw450 ?hmw450 ?hlw450 ?hsw450 ?hpw450 ?_; (case aw450 => (refine' NmOk.mk ?na1w450 ?na2w450 ?na3w450; (case na1w450 => rfl); (case na2w450 => rfl); (case na3w450 => decide))); (case Fw450 => with_reducible assumption); (case vw450 => apply @rfl _ (some (Value.ref (MatL.x _)))); (case Xw450 => with_reducible assumption); (case Nw450 => with_reducible assumption); (case Sw450 => k_extra "my sub"); (case fw450 => k_is); (case hmw450 => kernel_rfl); (case hlw450 => exact @rfl _ true); (case hsw450 => exact @rfl _ true); (case hpw450 => exact @rfl _ true); k_whole)) | ((with_reducible show wpAny _ _ (eval (Expr.Call (Expr.Attribute (Expr.Name _ _) _ _) [] [] _) _) _ _ _); k_dflt (refine' mat_meth0 ?Fw450 ?Xw450 ?vw450 ?aw450 ?Nw450 ?Sw450 ?fw450 ?hmw450 ?hlw450 ?hpw450 ?_; (case aw450 => (refine' NmOk.mk ?na1w450 ?na2w450 ?na3w450; (case na1w450 => rfl); (case na2w450 => rfl); (case na3w450 => decide))); (case Fw450 => with_reducible assumption); (case vw450 => apply @rfl _ (some (Value.ref (MatL.x _)))); (case Xw450 => with_reducible assumption); (case Nw450 => with_reducible assumption); (case Sw450 => k_extra "my sub"); (case fw450 => k_is); (case hmw450 => kernel_rfl); (case hlw450 => exact @rfl _ true); (case hpw450 => exact @rfl _ true); k_whole))))
  k_with "call ref" => ((k_here; (with_reducible show wpAny _ _ (call (Value.ref 224) _) _ _ _); k_dflt (refine' (c_applied ?hbbw451 ?hokw451) _ _ _ _ _ _ _ _ _ _ _ _ _ _ _ _ _ _ ?kB ?kF ?kX ?kN ?kT ?kK ?kpw451 ?kd ?ku ?_; k_extra "sid"; (case hokw451 => with_reducible assumption); (case kpw451 => refine' ⟨?kpaw451, ?kpbw451, ?kpcw451⟩; (case kpaw451 => k_extra "my sub"); (case kpbw451 => k_extra "my num"); (case kpcw451 => k_extra "my num")); (case hbbw451 => first | decide | omega); k_whole; intro T9 D9 D8 ok9 ok8 h9 tk9 F9 N9; (try k_sweep))))
  k_with "call ref" => ((k_here; (with_reducible show wpAny _ _ (call (Value.ref 231) _) _ _ _); k_dflt (refine' (c_shifted ?hbbw452 ?hokw452) _ _ _ _ _ _ _ _ _ _ _ _ _ _ _ _ _ _ ?kB ?kF ?kX ?kN ?kT ?kK ?kpw452 ?kd ?ku ?_; k_extra "sid"; (case hokw452 => with_reducible assumption); (case kpw452 => refine' ⟨?kpaw452, ?kpbw452, ?kpcw452⟩; (case kpaw452 => k_extra "my sub"); (case kpbw452 => k_extra "my num"); (case kpcw452 => k_extra "my num")); (case hbbw452 => first | decide | omega); k_whole; intro T9 D9 D8 ok9 ok8 h9 tk9 F9 N9; (try k_sweep))))
  k_with "call ref" => ((k_here; (with_reducible show wpAny _ _ (call (Value.ref 217) _) _ _ _); k_dflt (refine' (c_mtimes ?hbbw453 ?hokw453 ?hok2w453) _ _ _ _ _ _ _ _ _ _ _ _ _ _ _ _ _ _ ?kB ?kF ?kX ?kN ?kT ?kK ?kpw453 ?kd ?ku ?_; k_extra "sid"; (case hokw453 => with_reducible assumption); (case hok2w453 => with_reducible assumption); (case kpw453 => refine' ⟨?kpaw453, ?kpbw453⟩; (case kpaw453 => k_extra "my sub"); (case kpbw453 => k_extra "my sub")); (case hbbw453 => first | decide | omega); k_whole; intro M9 ok9 h9 tk9 F9 N9; (try k_sweep))))
  k_with "call ref" => ((k_here; (with_reducible show wpAny _ _ (call (Value.ref 299) _) _ _ _); k_dflt (refine' (c_determinant ?hbbw454 ?hokw454) _ _ _ _ _ _ _ _ _ _ _ _ _ _ _ _ _ _ ?kB ?kF ?kX ?kN ?kT ?kK ?kpw454 ?kd ?ku ?_; k_extra "sid"; (case hokw454 => with_reducible assumption); (case kpw454 => k_extra "my sub"); (case hbbw454 => first | decide | omega); k_whole; intro D9 ok9 h9 tk9 F9 N9; (try k_sweep))))
  k_with "call ref" => ((k_here; (with_reducible show wpAny _ _ (call (Value.ref 306) _) _ _ _); k_dflt (refine' (c_is_invertible ?hbbw455 ?hokw455) _ _ _ _ _ _ _ _ _ _ _ _ _ _ _ _ _ _ ?kB ?kF ?kX ?kN ?kT ?kK ?kpw455 ?kd ?ku ?_; k_extra "sid"; (case hokw455 => with_reducible assumption); (case kpw455 => k_extra "my sub"); (case hbbw455 => first | decide | omega); k_whole; intro  h9 tk9 F9 N9; (try k_sweep))))
  k_with "call ref" => ((k_here; (with_reducible show wpAny _ _ (call (Value.ref 313) _) _ _ _); k_dflt (refine' (c_is_straight ?hokw456) _ _ _ _ _ _ _ _ _ _ _ _ _ _ _ _ _ _ ?kB ?kF ?kX ?kN ?kT ?kK ?kpw456 ?kd ?ku ?_; k_extra "sid"; (case hokw456 => with_reducible assumption); (case kpw456 => k_extra "my sub"); k_whole; intro  h9 tk9 F9 N9; (try k_sweep))))
  k_with "my num" => (exact Num.int (b := 1) (Bd.of (by decide)) rfl)
  k_with "call ref" => ((k_here; (with_reducible show wpAny _ _ (call (Value.ref 238) _) _ _ _); k_dflt (refine' (c_parts) _ _ _ _ _ _ _ _ _ _ _ _ _ _ _ _ _ _ ?kB ?kF ?kX ?kN ?kT ?kK ?kpw457 ?kd ?ku ?_; k_extra "sid"; (case kpw457 => k_extra "my sub"); k_whole; intro l9 n9 h9 tk9 F9 N9; (try k_sweep))))
  k_with "call ref" => ((k_here; (with_reducible show wpAny _ _ (call (Value.ref 243) _) _ _ _); k_dflt (refine' (c_mtold ?hokw458) _ _ _ _ _ _ _ _ _ _ _ _ _ _ _ _ _ _ ?kB ?kF ?kX ?kN ?kT ?kK ?kpw458 ?kd ?ku ?_; k_extra "sid"; (case hokw458 => with_reducible assumption); (case kpw458 => k_extra "my sub"); k_whole; intro e9 v9 y9 h9 tk9 F9 N9; (try k_sweep))))
  k_with "call ref" => ((k_here; (with_reducible show wpAny _ _ (call (Value.ref 182) _) _ _ _); k_dflt (refine' (c_over _ _ ?hTSw459 ?hSw459 ?hbbw459 ?h0w459 ?hp0w459 ?hpw459) _ _ _ _ _ _ _ _ _ _ _ _ _ _ _ _ _ _ ?kB ?kF ?kX ?kN ?kT ?kK ?kpw459 ?kd ?ku ?_; k_extra "sid"; (case kpw459 => refine' ⟨?kpaw459, ?kpbw459⟩; (case kpaw459 => k_extra "my num"); (case kpbw459 => k_extra "my num")); (case hTSw459 => with_reducible assumption); (case hSw459 => with_reducible assumption); (case h0w459 => with_reducible assumption); (case hp0w459 => with_reducible assumption); (case hpw459 => with_reducible assumption); (case hbbw459 => first | decide | omega); k_whole; intro D9 ok9 h9 tk9 F9 N9; (try k_sweep))))
  trivial







theorem KZ6setup3 : True := by
  k_with "my kmem" => (first | (with_reducible refine' rows_x ?kmhw460; (case kmhw460 => k_extra "my sub")) | (with_reducible refine' rows_1 ?kmhw460; (case kmhw460 => k_extra "my sub")) | (with_reducible refine' rows_2 ?kmhw460; (case kmhw460 => k_extra "my sub")) | (with_reducible refine' rows_3 ?kmhw460; (case kmhw460 => k_extra "my sub")))
  k_with "call ref" => ((k_here; (with_reducible show wpAny _ _ (call (Value.ref 363) _) _ _ _); k_dflt (refine' (c_law_told _ _ _ _ ?hpw461 ?hqw461) _ _ _ _ _ _ _ _ _ _ _ _ _ _ _ _ _ _ ?kB ?kF ?kX ?kN ?kT ?kK ?kpw461 ?kd ?ku ?_; k_extra "sid"; (case kpw461 => exact trivial); (case hqw461 => first | with_reducible assumption | k_extra "my hq"); (case hpw461 => first | with_reducible assumption | decide | omega); k_whole; intro e9 v9 y9 f9 h9 tk9 F9 N9; (try k_sweep))))
  k_with "call ref" => ((k_here; (with_reducible show wpAny _ _ (call (Value.ref 377) _) _ _ _); k_dflt (refine' (c_law_rows) _ _ _ _ _ _ _ _ _ _ _ _ _ _ _ _ _ _ ?kB ?kF ?kX ?kN ?kT ?kK ?kpw462 ?kd ?ku ?_; k_extra "sid"; (case kpw462 => first | with_reducible assumption | k_mem); k_whole; intro R9 ok9 f9 h9 tk9 F9 N9; (try k_sweep))))
  k_with "my item" => ((k_here; (with_reducible show wpAny _ _ (subscriptTail _ _ (Value.ref _) (Value.int _ _)) _ _ _); k_dflt (refine' my_item ?Nw463 ?mw463 ?k2w463 ?k3w463 ?k4w463 ?_ ?k6w463; (case Nw463 => k_asm); (case mw463 => first | with_reducible assumption | k_mem); (case k2w463 => decide); (case k3w463 => decide); (case k4w463 => first | (refine' getk 0 ?gaw463 ?gbw463; (case gaw463 => decide); (case gbw463 => rfl)) | (refine' getk 1 ?gaw463 ?gbw463; (case gaw463 => decide); (case gbw463 => rfl)) | (refine' getk 2 ?gaw463 ?gbw463; (case gaw463 => decide); (case gbw463 => rfl)) | (refine' getk 3 ?gaw463 ?gbw463; (case gaw463 => decide); (case gbw463 => rfl)) | (refine' getk 4 ?gaw463 ?gbw463; (case gaw463 => decide); (case gbw463 => rfl)) | (refine' getk 5 ?gaw463 ?gbw463; (case gaw463 => decide); (case gbw463 => rfl))); (case k6w463 => with_unfolding_all rfl); k_whole)))
  k_with "subscriptTail" => (k_extra "my item")
  k_with "subscriptTail Name" => (k_extra "my item")
  k_with "subscriptTail Subscript" => (k_extra "my item")
  k_with "subscriptTail Name Name ref int" => (k_extra "my item")
  k_with "subscriptTail Name Constant ref int" => (k_extra "my item")
  k_with "subscriptTail Subscript Name Name Name ref int" => (k_extra "my item")
  k_with "subscriptTail Subscript Name Constant Name ref int" => (k_extra "my item")
  k_with "subscriptTail Subscript Name Name Constant ref int" => (k_extra "my item")
  k_with "subscriptTail Subscript Name Constant Constant ref int" => (k_extra "my item")
  k_with "my mem" => (first | with_reducible exact List.mem_cons_self | (with_reducible refine' List.mem_cons_of_mem _ ?kmhw464; (case kmhw464 => k_extra "my mem")) | (with_reducible refine' List.mem_append_right _ ?kmhw464; (case kmhw464 => k_extra "my mem")))
  k_with "my titem" => ((k_here; (with_reducible show wpAny _ _ (subscriptTail _ _ (Value.ref _) (Value.int _ _)) _ _ _); k_dflt (refine' my_titem ?Nw465 ?mw465 ?k2w465 ?k3w465 ?k4w465 ?k5w465 ?_ ?k6w465 ?k7w465; (case Nw465 => k_asm); (case mw465 => first | with_reducible assumption | k_extra "my mem"); (case k2w465 => decide); (case k3w465 => decide); (case k4w465 => exact rfl); (case k5w465 => exact rfl); (case k6w465 => with_unfolding_all rfl); (case k7w465 => (intro _; with_unfolding_all rfl)); k_whole)))
  k_with "subscriptTail" => (k_extra "my titem")
  k_with "subscriptTail Name" => (k_extra "my titem")
  k_with "subscriptTail Name Constant ref int" => (k_extra "my titem")
  k_with "my kmem" => (exact List.mem_cons_self)
  k_with "my told" => (first | (with_reducible refine' Says.list ?kmaw466 ?kmbw466; (case kmaw466 => exact List.mem_cons_self); (case kmbw466 => k_extra "my saysall")) | k_extra "my says")
  k_with "my eqd" => (first | (with_reducible rfl) | (with_reducible assumption) | k_extra "my eq")
  k_with "my ne" => ((k_here; k_dflt (refine' ne_told ?Nw467 ?S1w467 ?S2w467 ?hdw467 ?hsw467 ?hnw467 ?huw467 ?_; (case Nw467 => k_asm); (case S1w467 => k_extra "my told"); (case S2w467 => k_extra "my told"); (case hdw467 => k_extra "my eqd"); (case hsw467 => first | exact Shp.dq _ | exact Shp.dsix _ | exact Shp.two _ _); (case hnw467 => decide); (case huw467 => ktr_units); (try k_extra "my prune"))))
  k_with "my eqt" => ((k_here; k_dflt (refine' eq_told ?Nw468 ?S1w468 ?S2w468 ?hdw468 ?hsw468 ?hnw468 ?huw468 ?_; (case Nw468 => k_asm); (case S1w468 => k_extra "my told"); (case S2w468 => k_extra "my told"); (case hdw468 => k_extra "my eqd"); (case hsw468 => first | exact Shp.dq _ | exact Shp.dsix _ | exact Shp.two _ _); (case hnw468 => decide); (case huw468 => ktr_units); (try k_extra "my prune"))))
  k_with "compareOp NotEq" => (k_extra "my ne")
  k_with "compareOp NotEq ref ref" => (k_extra "my ne")
  k_with "compareOp NotEq ref" => (k_extra "my ne")
  k_with "compareOp Eq" => (k_extra "my eqt")
  k_with "compareOp Eq ref ref" => (k_extra "my eqt")
  k_with "compareOp Eq ref" => (k_extra "my eqt")
  k_with "eval ListComp" => ((k_here; k_dflt (refine' told_comp ?Bw469 ?Fw469 ?Xw469 ?Tw469 ?hkw469 ?hpw469 ?hdw469 ?huw469 ?hsw469 ?_; (case Bw469 => k_asm); (case Fw469 => k_asm); (case Xw469 => k_asm); (case Tw469 => k_asm); (case hkw469 => first | exact rfl | assumption); (case hpw469 => rfl); (case hdw469 => ktr_room); (case huw469 => ktr_units); (case hsw469 => intro _; rfl); k_whole)))
  k_with "TPair" => ((k_here; k_dflt (refine' TPair.intro ?Fw470 ?Nw470 ?mw470 ?k1w470 ?k2w470 ?o1w470 ?o2w470 ?_; (case Fw470 => k_asm); (case Nw470 => k_asm); (case mw470 => k_mem); (case k1w470 => k_extra "my sub"); (case k2w470 => k_extra "my sub"); (case o1w470 => with_reducible assumption); (case o2w470 => with_reducible assumption)); intro e9 v9 h' tk' y9 F' N'; (try k_sweep)))
  k_with "callWith ref" => ((k_here; (with_reducible show wpAny _ _ (callWith _ (Value.ref _) _ (backTo _ (starEach [] _)) []) _ _ _); k_dflt (refine' callWith_K0 ?k1w471 ?k2w471 ?_; (case k1w471 => k_in); (case k2w471 => k_is); k_whole)))
  k_with "callWith ref" => ((k_here; (with_reducible show wpAny _ _ (callWith _ (Value.ref _) _ (backTo _ (starEach (_ :: _) _)) []) _ _ _); k_dflt (refine' callWith_K ?k1w472 ?k2w472 ?_; (case k1w472 => k_asm); (case k2w472 => k_is); k_whole)))
  k_with "k_in" => ((refine' Frag.In.keeps ?kiaw473 (Fr.keep ?kibw473); (case kibw473 => k_asm); (case kiaw473 => k_asm)))
  k_with "my hq" => (exact div_hq)
  k_with "my eq" => (with_reducible first | exact point_eq (by assumption) | exact shift_eq (by assumption) | exact later_eq)
  k_with "call ref" => ((k_here; (with_reducible show wpAny _ _ (call (Value.ref 382) _) _ _ _); k_dflt (refine' (c_point ?bxw474 ?by'w474 ?oyw474 ?bzw474) _ _ _ _ _ _ _ _ _ _ _ _ _ _ _ _ _ _ ?kB ?kF ?kX ?kN ?kT ?kK ?kpw474 ?kd ?ku ?_; k_extra "sid"; (case kpw474 => refine' ⟨⟨?kpaw474, ?kpbw474⟩, ⟨?kpcw474, ?kpdw474⟩, ?kpew474⟩; (case kpaw474 => k_extra "my mem"); (case kpbw474 => k_extra "my mem"); (case kpcw474 => k_extra "my mem"); (case kpdw474 => k_extra "my mem"); (case kpew474 => k_extra "my sub")); (case bxw474 => with_reducible assumption); (case by'w474 => with_reducible assumption); (case oyw474 => with_reducible assumption); (case bzw474 => with_reducible assumption); k_whole; intro R9 ok9 h9 tk9 F9 N9; (try k_sweep))))
  trivial
section
set_option maxHeartbeats 4000000 in
theorem law_7 {base g : Heap} {L l fa : Addr} {cd : Value} {s : Shared} {vs : List Value} {ns : List Int} {Q : Flow → Shared → Prop} {E : Value → Shared → Prop}
    {name qual : Str} {params : Arguments} {body : List Stmt} {scope : Scope} {dV kV doc pm cdv ct oc : Value} {an od : Option Addr} {osl : Array (Option Value)}
    {S1 S2 S3 : SixI} {M1 M2 M3 MB : MatL} {X p c D : Addr} {nx k nc nd : Nat} {o : Obj} {R1 R2 R3 : RowsL} {x y pl : Int} {kx ky kp : Tok} {news : Led}
    (ho : (KF w.params).lookup 423 = some ⟨oc, od, .func (fnOf name qual params body scope dV kV doc pm an cdv ct), osl⟩)
    (B : Below callerA base [] g) (KX : (KF w.params).In g) (T : Tp mean mg mb g) (F : Fr g L s.heap (mB l p X M1 M2 M3 MB D x y pl kx ky kp)) (N : News g L s.heap news)
    (C : LawC w S1 S2 S3 M1 M2 M3 X nx p c k nc vs ns o news) (R : LawR w S1 S2 S3 MB D nd R1 R2 R3 x y pl news)
    (next : ∀ RP T D1 D2 news' h' tk', Sub news news' → LawP w S1 x y RP T D1 D2 news' → Fr g L h' (mP l p X M1 M2 M3 MB D x y pl kx ky kp (.ref RP.x) (.ref T)) → News g L h' news' →
      wpAny (model PySem.Challenge.rw_nn0207_01.row.prog w) (callerA.deeper (envOf qual scope L fa cd)) (execs (body.drop 15) (envOf qual scope L fa cd)) Q E { s with heap := h', toks := tk' }) :
    wpAny (model PySem.Challenge.rw_nn0207_01.row.prog w) (callerA.deeper (envOf qual scope L fa cd)) (execs (body.drop 12) (envOf qual scope L fa cd)) Q E s := by
  obtain ⟨rfl, rfl, rfl⟩ := law_fn ho
  clear ho
  revert KX
  k_fill
  intro KX
  change wpAny _ (callerA.deeper (envOf _ ⟨_, _, _, _, _⟩ _ _ _)) (execs (_ :: _ :: _ :: lawBody.drop 15) (envOf _ ⟨_, _, _, _, _⟩ _ _ _)) _ _ _
  generalize List.drop 15 lawBody = rest at next ⊢
  obtain ⟨-, -, -, -, -, -, -, -, -, o1, o2, o3, ok1, ok2, ok3, s1, s2, s3⟩ := C
  obtain ⟨bx, by', p0, p1, mD, r1, r2, r3, t1, t2, t3, kb, sb⟩ := R
  have z1 := z_bd o1
  have z2 := z_bd o2
  have z3 := z_bd o3
  have z12 := mul_bd z1 z2
  k_steps
  (try unfold StopP)
  (try dsimp only)
  (with_reducible rename Fr g L _ _ => kF)
  (with_reducible rename News g L _ _ => kN)
  refine' next _ _ _ _ _ _ _ ?sb ⟨?rp, ?tp, ?mT, ?d1, ?d2, ?t1, ?t2⟩ kF kN
  (case mT => first | k_extra "my mem" | fail)
  (case rp => assumption)
  (case d1 => (refine' DecOK.to ?ka rfl ?kb; (case ka => with_reducible assumption); (case kb => decide)))
  (case d2 => (refine' DecOK.to ?ka rfl ?kb; (case ka => with_reducible assumption); (case kb => decide)))
  (case t1 => k_extra "my sub")
  (case t2 => k_extra "my sub")
  (case tp => k_extra "my sub")
  (case sb => k_extra "my sub")
end
section
set_option maxHeartbeats 4000000 in
theorem law_8 {base g : Heap} {L l fa : Addr} {cd : Value} {s : Shared} {vs : List Value} {ns : List Int} {Q : Flow → Shared → Prop} {E : Value → Shared → Prop}
    {name qual : Str} {params : Arguments} {body : List Stmt} {scope : Scope} {dV kV doc pm cdv ct oc : Value} {an od : Option Addr} {osl : Array (Option Value)}
    {S1 S2 S3 : SixI} {M1 M2 M3 MB : MatL} {X p c D : Addr} {nx k nc nd : Nat} {o : Obj} {R1 R2 R3 : RowsL} {x y pl : Int} {kx ky kp : Tok} {news : Led} {RP : RowsL} {TG : Addr} {D1 D2 : DecL} {vw : Value}
    (ho : (KF w.params).lookup 423 = some ⟨oc, od, .func (fnOf name qual params body scope dV kV doc pm an cdv ct), osl⟩)
    (B : Below callerA base [] g) (KX : (KF w.params).In g) (T : Tp mean mg mb g) (F : Fr g L s.heap (mP l p X M1 M2 M3 MB D x y pl kx ky kp (.ref RP.x) (.ref TG))) (N : News g L s.heap news)
    (C : LawC w S1 S2 S3 M1 M2 M3 X nx p c k nc vs ns o news) (R : LawR w S1 S2 S3 MB D nd R1 R2 R3 x y pl news)
    (P : LawP w S1 x y RP TG D1 D2 news)
    (next : ∀ v3 h' tk', Fr g L h' (mW l p X M1 M2 M3 MB D x y pl kx ky kp (.ref RP.x) (.ref TG) v3) → News g L h' news →
      wpAny (model PySem.Challenge.rw_nn0207_01.row.prog w) (callerA.deeper (envOf qual scope L fa cd)) (execs (body.drop 17) (envOf qual scope L fa cd)) Q E { s with heap := h', toks := tk' }) :
    wpAny (model PySem.Challenge.rw_nn0207_01.row.prog w) (callerA.deeper (envOf qual scope L fa cd)) (execs (body.drop 15) (envOf qual scope L fa cd)) Q E s := by
  obtain ⟨rfl, rfl, rfl⟩ := law_fn ho
  clear ho
  revert KX
  k_fill
  intro KX
  change wpAny _ (callerA.deeper (envOf _ ⟨_, _, _, _, _⟩ _ _ _)) (execs (_ :: _ :: lawBody.drop 17) (envOf _ ⟨_, _, _, _, _⟩ _ _ _)) _ _ _
  generalize List.drop 17 lawBody = rest at next ⊢
  obtain ⟨-, -, -, -, -, -, -, -, -, o1, o2, o3, ok1, ok2, ok3, s1, s2, s3⟩ := C
  obtain ⟨rp, tp, mT, d1, d2, q1, q2⟩ := P
  obtain ⟨bx, by', p0, p1, mD, r1, r2, r3, t1, t2, t3, kb, sb⟩ := R
  have z1 := z_bd o1
  have z2 := z_bd o2
  have z3 := z_bd o3
  have z12 := mul_bd z1 z2
  k_steps
  (try unfold StopP)
  (try dsimp only)
  (with_reducible rename Fr g L _ _ => kF)
  (with_reducible rename News g L _ _ => kN)
  exact next _ _ _ kF (News.sub kN (by k_extra "my keep"))
end
section
set_option maxHeartbeats 4000000 in
theorem law_9 {base g : Heap} {L l fa : Addr} {cd : Value} {s : Shared} {vs : List Value} {ns : List Int} {Q : Flow → Shared → Prop} {E : Value → Shared → Prop}
    {name qual : Str} {params : Arguments} {body : List Stmt} {scope : Scope} {dV kV doc pm cdv ct oc : Value} {an od : Option Addr} {osl : Array (Option Value)}
    {S1 S2 S3 : SixI} {M1 M2 M3 MB : MatL} {X p c D : Addr} {nx k nc nd : Nat} {o : Obj} {R1 R2 R3 : RowsL} {x y pl : Int} {kx ky kp : Tok} {news : Led} {RP : RowsL} {TG : Addr} {D1 D2 : DecL} {vw : Value}
    (ho : (KF w.params).lookup 423 = some ⟨oc, od, .func (fnOf name qual params body scope dV kV doc pm an cdv ct), osl⟩)
    (B : Below callerA base [] g) (KX : (KF w.params).In g) (T : Tp mean mg mb g) (F : Fr g L s.heap (mW l p X M1 M2 M3 MB D x y pl kx ky kp (.ref RP.x) (.ref TG) vw)) (N : News g L s.heap news)
    (C : LawC w S1 S2 S3 M1 M2 M3 X nx p c k nc vs ns o news) (R : LawR w S1 S2 S3 MB D nd R1 R2 R3 x y pl news)
    (P : LawP w S1 x y RP TG D1 D2 news)
    (next : ∀ v4 h' tk', Fr g L h' (mC l p X M1 M2 M3 MB D x y pl kx ky kp (.ref RP.x) (.ref TG) vw v4) → News g L h' news →
      wpAny (model PySem.Challenge.rw_nn0207_01.row.prog w) (callerA.deeper (envOf qual scope L fa cd)) (execs (body.drop 19) (envOf qual scope L fa cd)) Q E { s with heap := h', toks := tk' }) :
    wpAny (model PySem.Challenge.rw_nn0207_01.row.prog w) (callerA.deeper (envOf qual scope L fa cd)) (execs (body.drop 17) (envOf qual scope L fa cd)) Q E s := by
  obtain ⟨rfl, rfl, rfl⟩ := law_fn ho
  clear ho
  revert KX
  k_fill
  intro KX
  change wpAny _ (callerA.deeper (envOf _ ⟨_, _, _, _, _⟩ _ _ _)) (execs (_ :: _ :: lawBody.drop 19) (envOf _ ⟨_, _, _, _, _⟩ _ _ _)) _ _ _
  generalize List.drop 19 lawBody = rest at next ⊢
  obtain ⟨-, -, -, -, -, -, -, -, -, o1, o2, o3, ok1, ok2, ok3, s1, s2, s3⟩ := C
  obtain ⟨rp, tp, mT, d1, d2, q1, q2⟩ := P
  obtain ⟨bx, by', p0, p1, mD, r1, r2, r3, t1, t2, t3, kb, sb⟩ := R
  have z1 := z_bd o1
  have z2 := z_bd o2
  have z3 := z_bd o3
  have z12 := mul_bd z1 z2
  k_steps
  (try unfold StopP)
  (try dsimp only)
  (with_reducible rename Fr g L _ _ => kF)
  (with_reducible rename News g L _ _ => kN)
  exact next _ _ _ kF (News.sub kN (by k_extra "my keep"))
end
end

end
section
open PySem PySem.W PyProof.Rows PySem.Calls PySem.Spec

/-- at the law's own level the ground stays -/
theorem fr_back {base g h h' : Heap} {L : Addr} {m m' : Str → Option Value} {outer : List Env} {g₀ : Heap} (F : Fr base L h m) (G : GroundOf base outer g₀ g) (F' : Fr g L h' m') : Fr base L h' m' := ⟨F'.ns, fun b o e => F'.keep b o (G.stays b o e), F.above⟩
theorem news_back {base g h' : Heap} {L : Addr} {news : Led} {outer : List Env} {g₀ : Heap} (G : GroundOf base outer g₀ g) (N : News g L h' news) : News base L h' news := fun p hp => by
  obtain ⟨n1, n2, n3⟩ := N p hp
  exact ⟨n1, n2, fresh_of_stays G.stays n3⟩
section
variable {w : World} {mean : ExcName → Option Value} {mg mb : Str → Option Value}
theorem CtT.use0 {dn : Nat} {f : Value} {args : List Value} {pre : Led → Prop} {ret : (Value → Led → Prop) → Led → Prop} (C : CtT w mean mg mb dn f args pre ret)
    {dp un : Nat} {gd : Option (List Code)} {cn : Str} {cs : Scope} {a : Addr} {ccd : Value} {cl : List (Str × Addr)} {A₀ : Around} {base : Heap} {L : Addr} {m : Str → Option Value} {news : Led} {s : Shared} {Q E : Value → Shared → Prop}
    (B : Below A₀ base [] base) (F : Fr base L s.heap m) (X : (KF w.params).In base) (N : News base L s.heap news) (T : Tp mean mg mb base) (hk : cs.kind = .function) (hp : pre news)
    (hd : dp + dn < recursionLimit) (hu : un + 8 * dn < cLine) (hr : ∀ P P' : Value → Led → Prop, (∀ v n, P v n → P' v n) → ret P news → ret P' news)
    (h : ret (fun v news' => ∀ (h' : Heap) (tk' : Nat), Fr base L h' m → News base L h' news' → Q v { s with heap := h', toks := tk' }) news) :
    wpAny (model PySem.Challenge.rw_nn0207_01.row.prog w) (ktrTop dp un gd cn cs L a ccd cl []) (call f args) Q E s :=
  C dp un gd cn cs a ccd cl [] A₀ base base L m news s Q E X T B F X N T hk hp hd hu (hr _ _ (fun _ _ k h' tk' _ G' F' N' => k h' tk' (fr_back F G' F') (news_back G' N')) h)
theorem t_inv {S : SixI} {M : MatL} {x y p : Int} {kx ky kp : Tok} (ok : MatOK M S.q 7) (o : S.Ok) (bx : Bd x 7) (by' : Bd y 7) (p0 : 0 ≤ p) (p1 : p ≤ 10) :
    CtT w mean mg mb 16 (.ref 413) [.ref M.x, .ref S.l, .int x kx, .int y ky, .int p kp] (fun news => Sub (matL w M) news ∧ (S.l, S.obj) ∈ news) (fun Q news => Q (.bool true) news) :=
  t_law_inverse (by decide) ok S.at o.a o.b o.c o.d o.e o.f bx by' p0 p1






theorem KZ7setup1 : True := by
  k_with "subscriptTail" => (k_extra "my item")
  k_with "subscriptTail Name" => (k_extra "my item")
  k_with "subscriptTail Name Constant ref int" => (k_extra "my item")
  k_with "my kmem" => (first | (with_reducible refine' Keeps.at ?kmhw475; (case kmhw475 => with_reducible assumption)) | (with_reducible refine' updF_mem ?kmhw475; (case kmhw475 => with_reducible assumption)))
  trivial


theorem KZ7setup2 : True := by
  k_with "my keeps" => (first | with_reducible assumption | (refine' Keeps.cons ?kmhw476; (case kmhw476 => k_extra "my keeps")))
  k_with "call ref" => ((k_here; (with_reducible show wpAny _ _ (call (Value.ref 344) _) _ _ _); k_dflt (refine' (c_law_draw ?hmw477 ?hm2w477 ?hkw477 ?ivw477 ?hlw477 ?pow477) _ _ _ _ _ _ _ _ _ _ _ _ _ _ _ _ _ _ ?kB ?kF ?kX ?kN ?kT ?kK ?kpw477 ?kd ?ku ?_; k_extra "sid"; (case pow477 => with_reducible assumption); (case ivw477 => with_reducible assumption); (case hlw477 => with_reducible assumption); (case hmw477 => decide); (case hm2w477 => decide); (case hkw477 => omega); (case kpw477 => refine' ⟨?kpaw477, ?kpbw477⟩; (case kpaw477 => walk_at "my updf"); (case kpbw477 => k_extra "my keeps")); k_whole; intro o9 d9 t9 po9 dl9 dh9 h9 tk9 F9 N9; (try k_sweep))))
  k_with "call ref" => ((k_here; (with_reducible show wpAny _ _ (call (Value.ref 351) _) _ _ _); k_dflt (refine' (c_law_number ?hkw478 ?ivw478 ?hlw478 ?pow478) _ _ _ _ _ _ _ _ _ _ _ _ _ _ _ _ _ _ ?kB ?kF ?kX ?kN ?kT ?kK ?kpw478 ?kd ?ku ?_; k_extra "sid"; (case pow478 => with_reducible assumption); (case ivw478 => with_reducible assumption); (case hlw478 => with_reducible assumption); (case hkw478 => omega); (case kpw478 => refine' ⟨?kpaw478, ?kpbw478⟩; (case kpaw478 => walk_at "my updf"); (case kpbw478 => k_extra "my keeps")); k_whole; intro o9 v9 t9 po9 b9 h9 tk9 F9 N9; (try k_sweep))))
  k_with "callWith ref" => ((k_here; (with_reducible show wpAny _ _ (callWith _ (Value.ref _) _ (backTo _ (starEach [] _)) []) _ _ _); k_dflt (refine' callWith_K0 ?k1w479 ?k2w479 ?_; (case k1w479 => k_in); (case k2w479 => k_is); k_whole)))
  k_with "callWith ref" => ((k_here; (with_reducible show wpAny _ _ (callWith _ (Value.ref _) _ (backTo _ (starEach (_ :: _) _)) []) _ _ _); k_dflt (refine' callWith_K ?k1w480 ?k2w480 ?_; (case k1w480 => k_asm); (case k2w480 => k_is); k_whole)))
  k_with "my sub" => ((with_reducible refine' KeepsL.at ?kmhw481; (case kmhw481 => with_reducible assumption)))
  k_with "my eq" => (with_reducible exact dets_eq)
  k_with "call ref" => ((k_here; (with_reducible show wpAny _ _ (call (Value.ref 413) _) _ _ _); k_dflt (refine' CtT.use0 (t_inv ?okw482 ?ow482 ?bxw482 ?by'w482 ?p0w482 ?p1w482) ?kB ?kF ?kX ?kN ?kT ?kK ?kpw482 ?kd ?ku ?hrw482 ?_; k_extra "sid"; (case kpw482 => refine' ⟨?kpaw482, ?kpbw482⟩; (case kpaw482 => k_extra "my sub"); (case kpbw482 => k_mem)); (case okw482 => with_reducible assumption); (case ow482 => with_reducible assumption); (case bxw482 => with_reducible assumption); (case by'w482 => with_reducible assumption); (case p0w482 => with_reducible assumption); (case p1w482 => with_reducible assumption); (case hrw482 => exact fun _ _ k z => k _ _ z); k_whole; intro h9 tk9 F9 N9; (try k_sweep))))
  k_with "call ref" => ((k_here; (with_reducible show wpAny _ _ (call (Value.ref 418) _) _ _ _); k_dflt (refine' (c_law_turns ?hbw483 ?okw483 ?hkw483 ?ivw483 ?hlw483 ?pow483) _ _ _ _ _ _ _ _ _ _ _ _ _ _ _ _ _ _ ?kB ?kF ?kX ?kN ?kT ?kK ?kpw483 ?kd ?ku ?_; k_extra "sid"; (case okw483 => with_reducible assumption); (case hbw483 => decide); (case pow483 => with_reducible assumption); (case hkw483 => omega); (case ivw483 => with_reducible assumption); (case hlw483 => with_reducible assumption); (case kpw483 => refine' ⟨?kpaw483, ?kpbw483, ?kpcw483⟩; (case kpaw483 => walk_at "my updf"); (case kpbw483 => k_extra "my keeps"); (case kpcw483 => with_reducible assumption)); k_whole; intro o9 po9 h9 tk9 F9 N9; (try k_sweep))))
  trivial
set_option maxHeartbeats 4000000 in
theorem law_10 {base g : Heap} {L l fa : Addr} {cd : Value} {s : Shared} {vs : List Value} {ns : List Int} {Q : Flow → Shared → Prop} {E : Value → Shared → Prop}
    {name qual : Str} {params : Arguments} {body : List Stmt} {scope : Scope} {dV kV doc pm cdv ct oc : Value} {an od : Option Addr} {osl : Array (Option Value)}
    {S1 S2 S3 : SixI} {M1 M2 M3 MB : MatL} {X p c D : Addr} {nx k nc nd : Nat} {o : Obj} {R1 R2 R3 : RowsL} {x y pl : Int} {kx ky kp : Tok} {news : Led} {v1 v2 v3 v4 : Value}
    (ho : (KF w.params).lookup 423 = some ⟨oc, od, .func (fnOf name qual params body scope dV kV doc pm an cdv ct), osl⟩)
    (B : Below callerA base [] g) (KX : (KF w.params).In g) (T : Tp mean mg mb g) (F : Fr g L s.heap (mC l p X M1 M2 M3 MB D x y pl kx ky kp v1 v2 v3 v4)) (N : News g L s.heap news)
    (C : LawC w S1 S2 S3 M1 M2 M3 X nx p c k nc vs ns o news) (R : LawR w S1 S2 S3 MB D nd R1 R2 R3 x y pl news)
    (next : ∀ h' tk', Fr g L h' (mC l p X M1 M2 M3 MB D x y pl kx ky kp v1 v2 v3 v4) → News g L h' news →
      wpAny (model PySem.Challenge.rw_nn0207_01.row.prog w) (callerA.deeper (envOf qual scope L fa cd)) (execs (body.drop 20) (envOf qual scope L fa cd)) Q E { s with heap := h', toks := tk' }) :
    wpAny (model PySem.Challenge.rw_nn0207_01.row.prog w) (callerA.deeper (envOf qual scope L fa cd)) (execs (body.drop 19) (envOf qual scope L fa cd)) Q E s := by
  obtain ⟨rfl, rfl, rfl⟩ := law_fn ho
  clear ho
  revert KX
  k_fill
  intro KX
  change wpAny _ (callerA.deeper (envOf _ ⟨_, _, _, _, _⟩ _ _ _)) (execs (_ :: lawBody.drop 20) (envOf _ ⟨_, _, _, _, _⟩ _ _ _)) _ _ _
  generalize List.drop 20 lawBody = rest at next ⊢
  obtain ⟨-, -, -, -, -, -, -, -, -, o1, o2, o3, ok1, ok2, ok3, s1, s2, s3⟩ := C
  obtain ⟨bx, by', p0, p1, mD, r1, r2, r3, t1, t2, t3, kb, sb⟩ := R
  have z1 := z_bd o1
  have z2 := z_bd o2
  have z3 := z_bd o3
  have z12 := mul_bd z1 z2
  with_reducible refine wpAny_execs_cons ?_
  k_steps
  (try unfold StopP)
  (try dsimp only)
  (with_reducible rename Fr g L _ _ => kF)
  (with_reducible rename News g L _ _ => kN)
  exact next _ _ kF (News.sub kN (by k_extra "my keep"))
set_option maxHeartbeats 4000000 in
theorem law_11 {base : Heap} {L l fa : Addr} {cd : Value} {s : Shared} {vs : List Value} {ns : List Int} {Q : Flow → Shared → Prop} {E : Value → Shared → Prop}
    {name qual : Str} {params : Arguments} {body : List Stmt} {scope : Scope} {dV kV doc pm cdv ct oc : Value} {an od : Option Addr} {osl : Array (Option Value)}
    {S1 S2 S3 : SixI} {M1 M2 M3 MB : MatL} {X p c D : Addr} {nx k nc nd : Nat} {o : Obj} {R1 R2 R3 : RowsL} {x y pl : Int} {kx ky kp : Tok} {news : Led} {v1 v2 v3 v4 : Value}
    (ho : (KF w.params).lookup 423 = some ⟨oc, od, .func (fnOf name qual params body scope dV kV doc pm an cdv ct), osl⟩)
    (B : Below callerA base [] base) (KX : (KF w.params).In base) (T : Tp mean mg mb base) (F : Fr base L s.heap (mC l p X M1 M2 M3 MB D x y pl kx ky kp v1 v2 v3 v4)) (N : News base L s.heap news)
    (C : LawC w S1 S2 S3 M1 M2 M3 X nx p c k nc vs ns o news) (R : LawR w S1 S2 S3 MB D nd R1 R2 R3 x y pl news)
    (next : ∀ h' tk', Fr base L h' (mC l p X M1 M2 M3 MB D x y pl kx ky kp v1 v2 v3 v4) → News base L h' news →
      wpAny (model PySem.Challenge.rw_nn0207_01.row.prog w) (callerA.deeper (envOf qual scope L fa cd)) (execs (body.drop 21) (envOf qual scope L fa cd)) Q E { s with heap := h', toks := tk' }) :
    wpAny (model PySem.Challenge.rw_nn0207_01.row.prog w) (callerA.deeper (envOf qual scope L fa cd)) (execs (body.drop 20) (envOf qual scope L fa cd)) Q E s := by
  obtain ⟨rfl, rfl, rfl⟩ := law_fn ho
  clear ho
  revert KX
  k_fill
  intro KX
  change wpAny _ (callerA.deeper (envOf _ ⟨_, _, _, _, _⟩ _ _ _)) (execs (_ :: lawBody.drop 21) (envOf _ ⟨_, _, _, _, _⟩ _ _ _)) _ _ _
  generalize List.drop 21 lawBody = rest at next ⊢
  obtain ⟨-, -, -, -, -, mX, m1, m2, m3, o1, o2, o3, ok1, ok2, ok3, s1, s2, s3⟩ := C
  obtain ⟨bx, by', p0, p1, mD, r1, r2, r3, t1, t2, t3, kb, sb⟩ := R
  have z1 := z_bd o1
  have z2 := z_bd o2
  have z3 := z_bd o3
  have z12 := mul_bd z1 z2
  with_reducible refine wpAny_execs_cons ?_
  k_steps
  (try unfold StopP)
  (try dsimp only)
  (with_reducible rename Fr base L _ _ => kF)
  (with_reducible rename News base L _ _ => kN)
  exact next _ _ kF (News.sub kN (by k_extra "my keep"))
set_option maxHeartbeats 4000000 in
theorem law_12 {base : Heap} {L l fa : Addr} {cd : Value} {s : Shared} {vs : List Value} {ns : List Int} {Q : Flow → Shared → Prop} {E : Value → Shared → Prop}
    {name qual : Str} {params : Arguments} {body : List Stmt} {scope : Scope} {dV kV doc pm cdv ct oc : Value} {an od : Option Addr} {osl : Array (Option Value)}
    {S1 S2 S3 : SixI} {M1 M2 M3 MB : MatL} {X p c D : Addr} {nx k nc nd : Nat} {o : Obj} {R1 R2 R3 : RowsL} {x y pl : Int} {kx ky kp : Tok} {news : Led} {v1 v2 v3 v4 : Value}
    (ho : (KF w.params).lookup 423 = some ⟨oc, od, .func (fnOf name qual params body scope dV kV doc pm an cdv ct), osl⟩)
    (B : Below callerA base [] base) (KX : (KF w.params).In base) (T : Tp mean mg mb base) (F : Fr base L s.heap (mC l p X M1 M2 M3 MB D x y pl kx ky kp v1 v2 v3 v4)) (N : News base L s.heap news)
    (C : LawC w S1 S2 S3 M1 M2 M3 X nx p c k nc vs ns o news) (R : LawR w S1 S2 S3 MB D nd R1 R2 R3 x y pl news)
    (hk : k ≤ 100) (next : ∀ news' h' tk', Sub (matL w M1) news' → Fr base L h' (mC l p X M1 M2 M3 MB D x y pl kx ky kp v1 v2 v3 v4) → News base L h' news' →
      wpAny (model PySem.Challenge.rw_nn0207_01.row.prog w) (callerA.deeper (envOf qual scope L fa cd)) (execs (body.drop 22) (envOf qual scope L fa cd)) Q E { s with heap := h', toks := tk' }) :
    wpAny (model PySem.Challenge.rw_nn0207_01.row.prog w) (callerA.deeper (envOf qual scope L fa cd)) (execs (body.drop 21) (envOf qual scope L fa cd)) Q E s := by
  obtain ⟨rfl, rfl, rfl⟩ := law_fn ho
  clear ho
  revert KX
  k_fill
  intro KX
  change wpAny _ (callerA.deeper (envOf _ ⟨_, _, _, _, _⟩ _ _ _)) (execs (_ :: lawBody.drop 22) (envOf _ ⟨_, _, _, _, _⟩ _ _ _)) _ _ _
  generalize List.drop 22 lawBody = rest at next ⊢
  obtain ⟨g, hU, Ng, kc, -, -, -, -, l1, -, -⟩ := C.front N
  clear N
  obtain ⟨po, iv, hl, -, -, -, -, -, -, -, -, -, ok1, -, -, -, -, -⟩ := C
  with_reducible refine wpAny_execs_cons ?_
  k_steps
  (try unfold StopP)
  (try dsimp only)
  (with_reducible rename Fr base L _ _ => kF)
  (with_reducible rename News base L _ _ => kN)
  exact next _ _ _ (by k_extra "my sub") kF kN
end

end
section
open PySem PySem.W PyProof.Rows PySem.Calls PySem.Spec

/-- the law's names at its end -/
noncomputable abbrev mS (l p X : Addr) (M1 M2 M3 MB : MatL) (D : Addr) (x y pl : Int) (kx ky kp : Tok) (v1 v2 v3 v4 : Value) (l6 : Addr) (v5 : Value) : Str → Option Value := fun z => if z = Str.ofString "wrong" then some v5 else if z = Str.ofString "six" then some (.ref l6) else mC l p X M1 M2 M3 MB D x y pl kx ky kp v1 v2 v3 v4 z
section
variable {w : World} {mean : ExcName → Option Value} {mg mb : Str → Option Value}
theorem mS_yes {l p X : Addr} {M1 M2 M3 MB : MatL} {D : Addr} {x y pl : Int} {kx ky kp : Tok} {v1 v2 v3 v4 v : Value} {l6 : Addr} {z : Str} (hz : z = Str.ofString "wrong") : mS l p X M1 M2 M3 MB D x y pl kx ky kp v1 v2 v3 v4 l6 v z = some v := if_pos hz
theorem mS_no {l p X : Addr} {M1 M2 M3 MB : MatL} {D : Addr} {x y pl : Int} {kx ky kp : Tok} {v1 v2 v3 v4 v : Value} {l6 : Addr} {z : Str} (hz : ¬ z = Str.ofString "wrong") : mS l p X M1 M2 M3 MB D x y pl kx ky kp v1 v2 v3 v4 l6 v z = if z = Str.ofString "six" then some (.ref l6) else mC l p X M1 M2 M3 MB D x y pl kx ky kp v1 v2 v3 v4 z := if_neg hz
theorem fr_eq {base h : Heap} {L l p X : Addr} {M1 M2 M3 MB : MatL} {D : Addr} {x y pl : Int} {kx ky kp : Tok} {v1 v2 v3 v4 v : Value} {l6 : Addr} {m : Str → Option Value} (F : Fr base L h m) (e : ∀ z, m z = mS l p X M1 M2 M3 MB D x y pl kx ky kp v1 v2 v3 v4 l6 v z) : Fr base L h (mS l p X M1 M2 M3 MB D x y pl kx ky kp v1 v2 v3 v4 l6 v) := funext e ▸ F





theorem KZ8setup1 : True := by
  k_with "exec For Name List cons nil" => ((k_here; (rename Fr _ _ _ _ => lF'); (with_unfolding_all refine' For_invVF lF' ?k1w484 ?k2w484 ?_; (case k1w484 => exact rfl); (case k2w484 => exact rfl); k_whole)))
  k_with "pyIter ref" => (((with_reducible show wpAny _ _ (pyIter (Value.ref _)) (fun it s₂ => LoopAtV _ _ _ _ _ _ _ _ _ it s₂) _ _); (rename Fr _ _ _ _ => lF'); (rename News _ _ _ _ => lN'); k_dflt (refine' iter_listMy ?h0w485 lF' lN' ?hmw485 ?_; (case h0w485 => rfl); (case hmw485 => k_mem)); clear lF' lN'; intro i' l1))
  k_with "UnrEnd" => ((k_dflt (refine' unrEnd_my ?Fw486 ?Nw486 ?lw486 ?subw486 ⟨?mw486, ?_⟩; (case Fw486 => k_asm); (case Nw486 => k_asm); (case lw486 => assumption); (case subw486 => k_extra "my keep"); (case mw486 => k_extra "my mem"))))
  k_with "my wrong" => (first
  | exact Wrong.str | exact Wrong.int
  | (refine' Wrong.five ?kmaw487; (case kmaw487 => k_extra "my mem"))
  | (refine' Wrong.seven ?kmaw487; (case kmaw487 => k_extra "my mem"))
  | (refine' Wrong.tup (n := 0) ?kmaw487; (case kmaw487 => k_extra "my mem"))
  | (refine' Wrong.bad ?kmvw487 ?kmaw487 ?naw487 ?nbw487 ?ncw487 ?ndw487 ?new487; (case kmaw487 => k_extra "my mem"); (case kmvw487 => first | exact BadV.bool | exact BadV.none); (case naw487 => k_extra "my num"); (case nbw487 => k_extra "my num"); (case ncw487 => k_extra "my num"); (case ndw487 => k_extra "my num"); (case new487 => k_extra "my num")))
  k_with "call ref" => ((k_here; (with_reducible show wpAny _ _ (call (Value.ref 408) _) _ _ _); k_dflt (refine' CtT.use0 (t_refused2) ?kB ?kF ?kX ?kN ?kT ?kK ?kpw488 ?kd ?ku ?hrw488 ?_; k_extra "sid"; (case kpw488 => k_extra "my wrong"); (case hrw488 => exact fun _ _ k z => k _ _ z); k_whole; intro h9 tk9 F9 N9; (try k_sweep))))
  trivial
set_option maxHeartbeats 4000000 in
theorem law_13 {base : Heap} {L l fa : Addr} {cd : Value} {s : Shared} {Q : Flow → Shared → Prop}
    {name qual : Str} {params : Arguments} {body : List Stmt} {scope : Scope} {dV kV doc pm cdv ct oc : Value} {an od : Option Addr} {osl : Array (Option Value)}
    {S1 : SixI} {M1 M2 M3 MB : MatL} {X p D : Addr} {x y pl : Int} {kx ky kp : Tok} {news : Led} {v1 v2 v3 v4 : Value}
    (ho : (KF w.params).lookup 423 = some ⟨oc, od, .func (fnOf name qual params body scope dV kV doc pm an cdv ct), osl⟩)
    (B : Below callerA base [] base) (KX : (KF w.params).In base) (T : Tp mean mg mb base) (F : Fr base L s.heap (mC l p X M1 M2 M3 MB D x y pl kx ky kp v1 v2 v3 v4)) (N : News base L s.heap news)
    (ok : MatOK M1 S1.q 7) (hm : Sub (matL w M1) news)
    (next : ∀ l6 n6 v5 news' h' tk', (l6, listOf #[.ref M1.a.x, .ref M1.b.x, .ref M1.c.x, .ref M1.d.x, .ref M1.e.x, .ref M1.f.x] n6) ∈ news' → Sub (matL w M1) news' → Fr base L h' (mS l p X M1 M2 M3 MB D x y pl kx ky kp v1 v2 v3 v4 l6 v5) → News base L h' news' →
      wpAny (model PySem.Challenge.rw_nn0207_01.row.prog w) (callerA.deeper (envOf qual scope L fa cd)) (execs (body.drop 24) (envOf qual scope L fa cd)) Q (fun _ _ => False) { s with heap := h', toks := tk' }) :
    wpAny (model PySem.Challenge.rw_nn0207_01.row.prog w) (callerA.deeper (envOf qual scope L fa cd)) (execs (body.drop 22) (envOf qual scope L fa cd)) Q (fun _ _ => False) s := by
  obtain ⟨rfl, rfl, rfl⟩ := law_fn ho
  clear ho
  revert KX
  k_fill
  intro KX
  change wpAny _ (callerA.deeper (envOf _ ⟨_, _, _, _, _⟩ _ _ _)) (execs (_ :: _ :: lawBody.drop 24) (envOf _ ⟨_, _, _, _, _⟩ _ _ _)) _ _ _
  generalize List.drop 24 lawBody = rest at next ⊢
  have hma := mat_a hm; have hmb := mat_b hm; have hmc := mat_c hm; have hmd := mat_d' hm; have hme := mat_e hm; have hmf := mat_f hm; obtain ⟨oka, okb, okc, okd, oke, okf⟩ := ok
  k_steps
  (try unfold StopP)
  (try dsimp only)
  (with_reducible rename Fr base _ _ _ => kF)
  (with_reducible rename News base _ _ _ => kN)
  refine' next _ _ _ _ _ _ ?m ?s (fr_eq kF ?e) kN
  (case m => k_extra "my mem")
  (case s => k_extra "my sub")
  (case e => (intro z; by_cases hz : z = Str.ofString "wrong"; exact (if_pos hz).trans (mS_yes hz).symm; (refine Eq.trans ?_ (mS_no hz).symm; simp +zetaDelta only [if_neg hz])))
end

end
section
open PySem PySem.W PyProof.Rows PySem.Calls PySem.Spec
section
open PySem PySem.W PyProof.Rows PySem.Calls PySem.Spec
theorem KsidZ9 : True := by
  k_with_none
  k_with "sid" => ((case kB => k_asm); (case kF => k_asm); (case kX => k_asm); (case kN => k_asm); (case kT => k_asm); (case kK => first | exact rfl | assumption); (case kd => ktr_room); (case ku => ktr_units))
  k_with "sidT" => ((case kB => k_asm); (case kXB => k_asm); (case kTB => k_asm); (case kG => first | with_reducible assumption | exact GroundOf.refl (by assumption)); (case kF => k_asm); (case kX => k_asm); (case kN => k_asm); (case kT => k_asm); (case kK => first | exact rfl | assumption); (case kd => ktr_room); (case ku => ktr_units))
  trivial
end

theorem KZ9setup1 : True := by
  k_with "ktr_units" => ((have hcL9 := cLine_is; (try simp only [units_under_make, units_in1, units_deeper, Around.mark_units, units_caller]); (try dsimp only [ktrTop]); omega))
  k_with "ktr_room" => (((try simp only [depth_under_make, depth_under_kw, depth_in1, depth_deeper, depth_caller]); (try dsimp only [ktrTop]); omega))
  k_with "ktr_room" => (first | (refine' room_k 0 ?kmhw489 ?kmew489 ?kmkw489; (case kmhw489 => with_reducible assumption); (case kmew489 => exact rfl); (case kmkw489 => exact Nat.le_of_ble_eq_true rfl)) | (refine' room_k 1 ?kmhw489 ?kmew489 ?kmkw489; (case kmhw489 => with_reducible assumption); (case kmew489 => exact rfl); (case kmkw489 => exact Nat.le_of_ble_eq_true rfl)) | (refine' room_k 2 ?kmhw489 ?kmew489 ?kmkw489; (case kmhw489 => with_reducible assumption); (case kmew489 => exact rfl); (case kmkw489 => exact Nat.le_of_ble_eq_true rfl)) | (refine' room_k 3 ?kmhw489 ?kmew489 ?kmkw489; (case kmhw489 => with_reducible assumption); (case kmew489 => exact rfl); (case kmkw489 => exact Nat.le_of_ble_eq_true rfl)) | (refine' room_j 0 ?kmhw489 ?kmew489 ?kmkw489; (case kmhw489 => with_reducible assumption); (case kmew489 => exact rfl); (case kmkw489 => exact Nat.le_of_ble_eq_true rfl)) | (refine' room_j 1 ?kmhw489 ?kmew489 ?kmkw489; (case kmhw489 => with_reducible assumption); (case kmew489 => exact rfl); (case kmkw489 => exact Nat.le_of_ble_eq_true rfl)) | (refine' room_j 2 ?kmhw489 ?kmew489 ?kmkw489; (case kmhw489 => with_reducible assumption); (case kmew489 => exact rfl); (case kmkw489 => exact Nat.le_of_ble_eq_true rfl)) | exact Nat.le_of_ble_eq_true rfl)
  k_with "ktr_units" => (first | (refine' room_k 0 ?kmhw490 ?kmew490 ?kmkw490; (case kmhw490 => with_reducible assumption); (case kmew490 => exact rfl); (case kmkw490 => exact Nat.le_of_ble_eq_true rfl)) | (refine' room_k 3 ?kmhw490 ?kmew490 ?kmkw490; (case kmhw490 => with_reducible assumption); (case kmew490 => exact rfl); (case kmkw490 => exact Nat.le_of_ble_eq_true rfl)) | (refine' room_k 1 ?kmhw490 ?kmew490 ?kmkw490; (case kmhw490 => with_reducible assumption); (case kmew490 => exact rfl); (case kmkw490 => exact Nat.le_of_ble_eq_true rfl)) | (refine' room_k 4 ?kmhw490 ?kmew490 ?kmkw490; (case kmhw490 => with_reducible assumption); (case kmew490 => exact rfl); (case kmkw490 => exact Nat.le_of_ble_eq_true rfl)) | (refine' room_k 6 ?kmhw490 ?kmew490 ?kmkw490; (case kmhw490 => with_reducible assumption); (case kmew490 => exact rfl); (case kmkw490 => exact Nat.le_of_ble_eq_true rfl)) | (refine' room_k 7 ?kmhw490 ?kmew490 ?kmkw490; (case kmhw490 => with_reducible assumption); (case kmew490 => exact rfl); (case kmkw490 => exact Nat.le_of_ble_eq_true rfl)) | (refine' room_j 0 ?kmhw490 ?kmew490 ?kmkw490; (case kmhw490 => with_reducible assumption); (case kmew490 => exact rfl); (case kmkw490 => exact Nat.le_of_ble_eq_true rfl)) | (refine' room_j 3 ?kmhw490 ?kmew490 ?kmkw490; (case kmhw490 => with_reducible assumption); (case kmew490 => exact rfl); (case kmkw490 => exact Nat.le_of_ble_eq_true rfl)) | (refine' room_j 1 ?kmhw490 ?kmew490 ?kmkw490; (case kmhw490 => with_reducible assumption); (case kmew490 => exact rfl); (case kmkw490 => exact Nat.le_of_ble_eq_true rfl)) | (refine' room_j 4 ?kmhw490 ?kmew490 ?kmkw490; (case kmhw490 => with_reducible assumption); (case kmew490 => exact rfl); (case kmkw490 => exact Nat.le_of_ble_eq_true rfl)) | exact Nat.le_of_ble_eq_true rfl)
  k_with "my cls" => ((k_dflt (refine' call_cls ?k1w491 ?k2w491 ?k3w491 ?k4w491 ?k5w491 ?k6w491 ?_; (case k1w491 => k_asm); (case k2w491 => k_asm); (case k3w491 => k_asm); (case k4w491 => k_is); (case k5w491 => k_is); (case k6w491 => k_is); k_whole; intro x' d' h' F' N' l1 l2; (try k_lt l1); (try k_lt2 l2); (try k_sweep))))
  k_with "my enter" => ((refine wpAny_call ?_; k_dflt ktr_enter))
  k_with "my sub" => (first | with_reducible assumption | exact Sub.refl | exact Sub.here | (with_reducible refine' Sub.app ?kmhw492; (case kmhw492 => k_extra "my sub")) | (with_reducible refine' Sub.cons ?kmhw492; (case kmhw492 => k_extra "my sub")))
  k_with "my subt" => (first | (with_reducible refine' Sub.trans ?kmhw493 ?kmkw493; (case kmhw493 => with_reducible assumption); (case kmkw493 => (with_reducible refine' Sub.join ?kmaw493 ?kmbw493; (case kmaw493 => k_extra "my sub"); (case kmbw493 => k_extra "my sub")))) | k_extra "my sub")
  k_with "my kmem" => (first | with_reducible assumption | exact List.mem_cons_self | (refine' List.mem_cons_of_mem _ ?kmhw494; (case kmhw494 => k_extra "my kmem")))
  k_with "my kmem" => ((refine' List.mem_append_right _ ?kmhw495; (case kmhw495 => k_extra "my kmem")))
  k_with "my off" => ((refine' Fresh.off ?kmxw496 ?kmyw496; (case kmxw496 => with_reducible assumption); (case kmyw496 => k_mem)))
  k_with "k_upd" => ((refine' upd_app ?kmxw497 ?kmyw497; (case kmyw497 => k_extra "my off"); (case kmxw497 => k_upd)))
  k_with "my kmem" => (first | (with_reducible refine' dec_x ?kmhw498; (case kmhw498 => k_extra "my sub")) | (with_reducible refine' dec_d ?kmhw498; (case kmhw498 => k_extra "my sub")))
  k_with "my num" => (first | (with_reducible refine' Num.dec ?kmhw499 ?kmow499; (case kmow499 => with_reducible assumption); (case kmhw499 => k_extra "my sub")) | with_reducible assumption | (with_reducible refine' Num.app ?kmhw499; (case kmhw499 => k_extra "my num")) | (with_reducible refine' Num.cons ?kmhw499; (case kmhw499 => k_extra "my num")))
  k_with "my lt" => (first | with_reducible assumption | (refine' DecOK.bt ?kmxw500; (case kmxw500 => with_reducible assumption)) | exact ten_lt)
  k_with "mul_fits" => ((refine' mul_ok ?kmxw501 ?kmyw501 ?kmzw501; (case kmxw501 => k_extra "my lt"); (case kmyw501 => k_extra "my lt"); (case kmzw501 => first | omega | decide)))
  k_with "binaryOp Pow int int" => ((k_here; (with_reducible refine pow_int_small ?kb1w502 ?kb2w502 ?kb3w502 ?_); (case kb1w502 => omega); (case kb2w502 => omega); (case kb3w502 => decide)))
  k_with "my keep" => (first | exact Sub.refl | exact Sub.nil | (with_reducible refine' Sub.add ?kmaw503 ?kmbw503; (case kmaw503 => first | exact List.mem_cons_self | k_mem); (case kmbw503 => k_extra "my keep")) | (with_reducible refine' Sub.join ?kmaw503 ?kmbw503; (case kmaw503 => k_extra "my sub"); (case kmbw503 => k_extra "my keep")) | k_extra "my sub")
  k_with "exec While" => ((k_here; k_extra "my while"))
  k_with "exec While Compare" => ((k_here; k_extra "my while"))
  k_with "exec While Compare cons nil" => ((k_here; k_extra "my while"))
  k_with "my conj" => (first | with_reducible assumption | (with_reducible refine' Nat.ne_of_lt ?kmhw504; (case kmhw504 => with_reducible assumption)) | (with_reducible refine' Nat.ne_of_gt ?kmhw504; (case kmhw504 => with_reducible assumption)) | (with_reducible refine' Ne.symm (And.left ?kmhw504); (case kmhw504 => with_reducible assumption)) | (with_reducible refine' Ne.symm (And.left (And.right ?kmhw504)); (case kmhw504 => with_reducible assumption)) | (with_reducible refine' Ne.symm (And.left (And.right (And.right ?kmhw504))); (case kmhw504 => with_reducible assumption)) | (with_reducible refine' Ne.symm (And.left (And.right (And.right (And.right ?kmhw504)))); (case kmhw504 => with_reducible assumption)) | (with_reducible refine' Ne.symm (And.left (And.right (And.right (And.right (And.right ?kmhw504))))); (case kmhw504 => with_reducible assumption)) | (with_reducible refine' Ne.symm (And.left (And.right (And.right (And.right (And.right (And.right ?kmhw504)))))); (case kmhw504 => with_reducible assumption)) | (with_reducible refine' Ne.symm (And.left (And.right (And.right (And.right (And.right (And.right (And.right ?kmhw504))))))); (case kmhw504 => with_reducible assumption)) | (with_reducible refine' Ne.symm (And.left (And.right (And.right (And.right (And.right (And.right (And.right (And.right ?kmhw504)))))))); (case kmhw504 => with_reducible assumption)) | (with_reducible refine' (And.left ?kmhw504); (case kmhw504 => with_reducible assumption)) | (with_reducible refine' (And.left (And.right ?kmhw504)); (case kmhw504 => with_reducible assumption)) | (with_reducible refine' (And.left (And.right (And.right ?kmhw504))); (case kmhw504 => with_reducible assumption)) | (with_reducible refine' (And.left (And.right (And.right (And.right ?kmhw504)))); (case kmhw504 => with_reducible assumption)) | (with_reducible refine' (And.left (And.right (And.right (And.right (And.right ?kmhw504))))); (case kmhw504 => with_reducible assumption)) | (with_reducible refine' (And.left (And.right (And.right (And.right (And.right (And.right ?kmhw504)))))); (case kmhw504 => with_reducible assumption)) | (with_reducible refine' (And.left (And.right (And.right (And.right (And.right (And.right (And.right ?kmhw504))))))); (case kmhw504 => with_reducible assumption)) | (with_reducible refine' (And.left (And.right (And.right (And.right (And.right (And.right (And.right (And.right ?kmhw504)))))))); (case kmhw504 => with_reducible assumption)))
  k_with "k_ne" => ((refine neN ?_; (try dsimp only); first | k_extra "my conj" | omega))
  k_with "k_mem" => (k_extra "my kmem")
  k_with "eval Name" => ((k_here; (first | (with_reducible show wpAny _ _ (eval _ (envOf _ _ _ _ _)) _ _ _) | (with_reducible show wpAny _ _ (eval _ (envX _ _ _ _ _ _)) _ _ _)); first | (k_dflt (refine' nmL ?Fw505 ?vw505 ?aw505 ?_; (case aw505 => (refine' NmOk.mk ?na1w505 ?na2w505 ?na3w505; (case na1w505 => rfl); (case na2w505 => rfl); (case na3w505 => decide))); (case Fw505 => with_reducible assumption); (case vw505 => apply @rfl _ (some _)); k_whole)) | (k_dflt (refine' nmK ?Fw505 ?Xw505 ?Tw505 ?ew505 ?aw505 ?_; (case aw505 => (refine' NmOk.mk ?na1w505 ?na2w505 ?na3w505; (case na1w505 => rfl); (case na2w505 => rfl); (case na3w505 => decide))); (case Xw505 => with_reducible assumption); (case ew505 => k_is); (case Fw505 => with_reducible assumption); (case Tw505 => k_asm); k_whole))))
  k_with "spliced" => ((k_here; (first | (with_reducible show wpAny _ _ (spliced (backTo _ (starEach _ (envOf _ _ _ _ _)))) _ _ _) | (with_reducible show wpAny _ _ (spliced (backTo _ (starEach _ (envX _ _ _ _ _ _)))) _ _ _)); first | ((with_reducible show wpAny _ _ (spliced (backTo _ (starEach [Expr.Name _ _] _))) _ _ _); k_dflt (refine' aL0 ?Fw506 ?vw506 ?aw506 ?_; (case aw506 => (refine' NmOk.mk ?na1w506 ?na2w506 ?na3w506; (case na1w506 => rfl); (case na2w506 => rfl); (case na3w506 => decide))); (case Fw506 => with_reducible assumption); (case vw506 => apply @rfl _ (some _)); k_whole; (try dsimp only [List.cons_append, List.nil_append]))) | ((with_reducible show wpAny _ _ (spliced (backTo _ (starEach (Expr.Name _ _ :: _) _))) _ _ _); k_dflt (refine' aL ?Fw506 ?vw506 ?aw506 ?_; (case aw506 => (refine' NmOk.mk ?na1w506 ?na2w506 ?na3w506; (case na1w506 => rfl); (case na2w506 => rfl); (case na3w506 => decide))); (case Fw506 => with_reducible assumption); (case vw506 => apply @rfl _ (some _)); k_whole)) | ((with_reducible show wpAny _ _ (spliced (backTo _ (starEach [Expr.Constant (Constant.int _) _ _] _))) _ _ _); refine' aI0 ?_; k_whole; (try dsimp only [List.cons_append, List.nil_append])) | ((with_reducible show wpAny _ _ (spliced (backTo _ (starEach (Expr.Constant (Constant.int _) _ _ :: _) _))) _ _ _); refine' aI ?_; k_whole) | ((with_reducible show wpAny _ _ (spliced (backTo _ (starEach (_ :: _) _))) _ _ _); k_dflt (refine' aC ?aw506 ?_; (case aw506 => exact @rfl _ true); k_whole))))
  k_with "eval Call" => ((k_here; (first | (with_reducible show wpAny _ _ (eval _ (envOf _ _ _ _ _)) _ _ _) | (with_reducible show wpAny _ _ (eval _ (envX _ _ _ _ _ _)) _ _ _)); first | ((with_reducible show wpAny _ _ (eval (Expr.Call (Expr.Name _ _) (_ :: _) [] _) _) _ _ _); k_dflt (refine' gcall ?Fw507 ?Xw507 ?Tw507 ?ew507 ?aw507 ?kw507 ?hsw507 ?_; (case aw507 => (refine' NmOk.mk ?na1w507 ?na2w507 ?na3w507; (case na1w507 => rfl); (case na2w507 => rfl); (case na3w507 => decide))); (case Xw507 => with_reducible assumption); (case ew507 => k_is); (case Fw507 => with_reducible assumption); (case Tw507 => k_asm); (case kw507 => k_is); (case hsw507 => exact @rfl _ true); k_whole)) | ((with_reducible show wpAny _ _ (eval (Expr.Call (Expr.Name _ _) [] [] _) _) _ _ _); k_dflt (refine' gcall0 ?Fw507 ?Xw507 ?Tw507 ?ew507 ?aw507 ?kw507 ?_; (case aw507 => (refine' NmOk.mk ?na1w507 ?na2w507 ?na3w507; (case na1w507 => rfl); (case na2w507 => rfl); (case na3w507 => decide))); (case Xw507 => with_reducible assumption); (case ew507 => k_is); (case Fw507 => with_reducible assumption); (case Tw507 => k_asm); (case kw507 => k_is); k_whole))))
  k_with "eval Attribute Name" => ((k_here; (first | (with_reducible show wpAny _ _ (eval _ (envOf _ _ _ _ _)) _ _ _) | (with_reducible show wpAny _ _ (eval _ (envX _ _ _ _ _ _)) _ _ _)); first | ((with_reducible show wpAny _ _ (eval (Expr.Attribute (Expr.Name _ _) (Str.ofString "top") _) _) _ _ _); k_dflt (refine' dec_top ?Fw508 ?Xw508 ?vw508 ?aw508 ?Nw508 ?Sw508 ?_; (case aw508 => (refine' NmOk.mk ?na1w508 ?na2w508 ?na3w508; (case na1w508 => rfl); (case na2w508 => rfl); (case na3w508 => decide))); (case Fw508 => with_reducible assumption); (case vw508 => apply @rfl _ (some (Value.ref (DecL.x _)))); (case Xw508 => with_reducible assumption); (case Nw508 => with_reducible assumption); (case Sw508 => k_extra "my sub"); k_whole)) | ((with_reducible show wpAny _ _ (eval (Expr.Attribute (Expr.Name _ _) (Str.ofString "places") _) _) _ _ _); k_dflt (refine' dec_places ?Fw508 ?Xw508 ?vw508 ?aw508 ?Nw508 ?Sw508 ?_; (case aw508 => (refine' NmOk.mk ?na1w508 ?na2w508 ?na3w508; (case na1w508 => rfl); (case na2w508 => rfl); (case na3w508 => decide))); (case Fw508 => with_reducible assumption); (case vw508 => apply @rfl _ (some (Value.ref (DecL.x _)))); (case Xw508 => with_reducible assumption); (case Nw508 => with_reducible assumption); (case Sw508 => k_extra "my sub"); k_whole))))
  k_with "eval Call Attribute" => ((k_here; (first | (with_reducible show wpAny _ _ (eval _ (envOf _ _ _ _ _)) _ _ _) | (with_reducible show wpAny _ _ (eval _ (envX _ _ _ _ _ _)) _ _ _)); first | ((with_reducible show wpAny _ _ (eval (Expr.Call (Expr.Attribute (Expr.Name _ _) _ _) (_ :: _) [] _) _) _ _ _); k_dflt (refine' dec_meth ?Fw509 ?Xw509 ?vw509 ?aw509 ?Nw509 ?Sw509 ?fw509 ?hmw509 ?hlw509 ?hsw509 ?hpw509 ?_; (case aw509 => (refine' NmOk.mk ?na1w509 ?na2w509 ?na3w509; (case na1w509 => rfl); (case na2w509 => rfl); (case na3w509 => decide))); (case Fw509 => with_reducible assumption); (case vw509 => apply @rfl _ (some (Value.ref (DecL.x _)))); (case Xw509 => with_reducible assumption); (case Nw509 => with_reducible assumption); (case Sw509 => k_extra "my sub"); (case fw509 => k_is); (case hmw509 => kernel_rfl); (case hlw509 => exact @rfl _ true); (case hsw509 => exact @rfl _ true); (case hpw509 => exact @rfl _ true); k_whole)) | ((with_reducible show wpAny _ _ (eval (Expr.Call (Expr.Attribute (Expr.Name _ _) _ _) [] [] _) _) _ _ _); k_dflt (refine' dec_meth0 ?Fw509 ?Xw509 ?vw509 ?aw509 ?Nw509 ?Sw509 ?fw509 ?hmw509 ?hlw509 ?hpw509 ?_; (case aw509 => (refine' NmOk.mk ?na1w509 ?na2w509 ?na3w509; (case na1w509 => rfl); (case na2w509 => rfl); (case na3w509 => decide))); (case Fw509 => with_reducible assumption); (case vw509 => apply @rfl _ (some (Value.ref (DecL.x _)))); (case Xw509 => with_reducible assumption); (case Nw509 => with_reducible assumption); (case Sw509 => k_extra "my sub"); (case fw509 => k_is); (case hmw509 => kernel_rfl); (case hlw509 => exact @rfl _ true); (case hpw509 => exact @rfl _ true); k_whole))))
  k_with "storeName" => ((k_here; (first | (with_reducible show wpAny _ _ (storeName (envOf _ _ _ _ _) _ _) _ _ _) | (with_reducible show wpAny _ _ (storeName (envX _ _ _ _ _ _) _ _) _ _ _)); k_dflt (refine' stL ?Fw510 ?Nw510 ?aw510 ?_; (case aw510 => (refine' NmOk.mk ?na1w510 ?na2w510 ?na3w510; (case na1w510 => rfl); (case na2w510 => rfl); (case na3w510 => decide))); (case Fw510 => with_reducible assumption); (case Nw510 => with_reducible assumption); k_whole; intro m9 h' tk9 F' N'; (try k_sweep))))
  trivial
section
variable {w : World} {mean : ExcName → Option Value} {mg mb : Str → Option Value}



theorem KZ9setup2 : True := by
  k_with "call ref" => ((k_here; (with_reducible show wpAny _ _ (call (Value.ref 143) _) _ _ _); k_dflt (refine' (c_Decimal _ _ _ _ _ ?hzw511 ?htw511 ?hbw511 ?hqw511) _ _ _ _ _ _ _ _ _ _ _ _ _ _ _ _ _ _ ?kB ?kF ?kX ?kN ?kT ?kK ?kpw511 ?kd ?ku ?_; k_extra "sid"; (case kpw511 => exact trivial); (case hqw511 => first | exact int_hq | k_extra "my hq"); (case htw511 => first | with_reducible assumption | k_extra "my ht"); (case hbw511 => first | with_reducible assumption | k_extra "my hb" | omega); (case hzw511 => first | with_reducible assumption | k_extra "my hz" | omega); k_whole; intro D9 ok9 f9 h9 tk9 F9 N9; (try k_sweep))))
  k_with "call ref" => ((k_here; (with_reducible show wpAny _ _ (call (Value.ref 168) _) _ _ _); k_dflt (refine' (c_decimal_of) _ _ _ _ _ _ _ _ _ _ _ _ _ _ _ _ _ _ ?kB ?kF ?kX ?kN ?kT ?kK ?kpw512 ?kd ?ku ?_; k_extra "sid"; (case kpw512 => refine' ⟨?kpaw512, ?kpbw512⟩; (case kpaw512 => k_extra "my num"); (case kpbw512 => k_extra "my sub")); k_whole; intro e9 D9 ok9 s9 s8 f9 h9 tk9 F9 N9; have p9 := ok9.nrm.p0; have q9 := ok9.bp; (try k_sweep))))
  k_with "my le" => (first | exact Nat.le_refl _ | exact Nat.le_of_ble_eq_true rfl | exact lea _ _ | exact leb _ _ | exact le1 _ | omega)
  k_with "my kmem" => (first | (with_reducible refine' mat_x ?kmhw513; (case kmhw513 => k_extra "my sub")) | (with_reducible refine' mat_d ?kmhw513; (case kmhw513 => k_extra "my sub")))
  k_with "call ref" => ((k_here; (with_reducible show wpAny _ _ (call (Value.ref 70) _) _ _ _); k_dflt (refine' (c_plus ?hbbw514) _ _ _ _ _ _ _ _ _ _ _ _ _ _ _ _ _ _ ?kB ?kF ?kX ?kN ?kT ?kK ?kpw514 ?kd ?ku ?_; k_extra "sid"; (case kpw514 => refine' ⟨?kpaw514, ?kpbw514⟩; (case kpaw514 => k_extra "my num"); (case kpbw514 => k_extra "my num")); (case hbbw514 => first | decide | omega); k_whole; intro D9 ok9 h9 tk9 F9 N9; (try k_sweep))))
  k_with "call ref" => ((k_here; (with_reducible show wpAny _ _ (call (Value.ref 77) _) _ _ _); k_dflt (refine' (c_minus ?hbbw515) _ _ _ _ _ _ _ _ _ _ _ _ _ _ _ _ _ _ ?kB ?kF ?kX ?kN ?kT ?kK ?kpw515 ?kd ?ku ?_; k_extra "sid"; (case kpw515 => refine' ⟨?kpaw515, ?kpbw515⟩; (case kpaw515 => k_extra "my num"); (case kpbw515 => k_extra "my num")); (case hbbw515 => first | decide | omega); k_whole; intro D9 ok9 h9 tk9 F9 N9; (try k_sweep))))
  k_with "call ref" => ((k_here; (with_reducible show wpAny _ _ (call (Value.ref 84) _) _ _ _); k_dflt (refine' (c_times ?hbbw516 ?hokw516) _ _ _ _ _ _ _ _ _ _ _ _ _ _ _ _ _ _ ?kB ?kF ?kX ?kN ?kT ?kK ?kpw516 ?kd ?ku ?_; k_extra "sid"; (case hokw516 => with_reducible assumption); (case kpw516 => refine' ⟨?kpaw516, ?kpbw516⟩; (case kpaw516 => k_extra "my sub"); (case kpbw516 => k_extra "my num")); (case hbbw516 => first | decide | omega); k_whole; intro D9 ok9 h9 tk9 F9 N9; (try k_sweep))))
  k_with "call ref" => ((k_here; (with_reducible show wpAny _ _ (call (Value.ref 91) _) _ _ _); k_dflt (refine' (c_negated ?hokw517) _ _ _ _ _ _ _ _ _ _ _ _ _ _ _ _ _ _ ?kB ?kF ?kX ?kN ?kT ?kK ?kpw517 ?kd ?ku ?_; k_extra "sid"; (case hokw517 => with_reducible assumption); (case kpw517 => k_extra "my sub"); k_whole; intro D9 ok9 h9 tk9 F9 N9; (try k_sweep))))
  k_with "call ref" => ((k_here; (with_reducible show wpAny _ _ (call (Value.ref 126) _) _ _ _); k_dflt (refine' (c_told ?hokw518) _ _ _ _ _ _ _ _ _ _ _ _ _ _ _ _ _ _ ?kB ?kF ?kX ?kN ?kT ?kK ?kpw518 ?kd ?ku ?_; k_extra "sid"; (case hokw518 => with_reducible assumption); (case kpw518 => k_extra "my sub"); k_whole; intro e9 v9 y9 f9 h9 tk9 F9 N9; (try k_sweep))))
  k_with "call ref" => ((k_here; (with_reducible show wpAny _ _ (call (Value.ref 246) _) _ _ _); k_dflt (refine' (c_Matrix6) _ _ _ _ _ _ _ _ _ _ _ _ _ _ _ _ _ _ ?kB ?kF ?kX ?kN ?kT ?kK ?kpw519 ?kd ?ku ?_; k_extra "sid"; (case kpw519 => refine' ⟨⟨?kpaw519, ?kpbw519, ?kpcw519⟩, ?kpdw519, ?kpew519, ?kpfw519⟩; (case kpaw519 => k_extra "my num"); (case kpbw519 => k_extra "my num"); (case kpcw519 => k_extra "my num"); (case kpdw519 => k_extra "my num"); (case kpew519 => k_extra "my num"); (case kpfw519 => k_extra "my num")); k_whole; intro M9 ok9 h9 tk9 F9 N9; (try k_sweep))))
  k_with "my mok" => ((refine' MatOK.to ?kmaw520 ?kmbw520 ?kmcw520; (case kmaw520 => with_reducible assumption); (case kmbw520 => rfl); (case kmcw520 => first | (with_reducible refine' le6s ?m1w520; (case m1w520 => k_extra "my le")) | (with_reducible refine' le6 ?m1w520 ?m2w520 ?m3w520 ?m4w520 ?m5w520 ?m6w520; (case m1w520 => k_extra "my le"); (case m2w520 => k_extra "my le"); (case m3w520 => k_extra "my le"); (case m4w520 => k_extra "my le"); (case m5w520 => k_extra "my le"); (case m6w520 => k_extra "my le")) | omega)))
  k_with "my says" => (first | with_reducible assumption | (with_reducible refine' Says.here ?kmhw521; (case kmhw521 => with_reducible assumption)) | (with_reducible refine' Says.app ?kmhw521; (case kmhw521 => k_extra "my says")) | (with_reducible refine' Says.cons ?kmhw521; (case kmhw521 => k_extra "my says")))
  k_with "my saysall" => (first | exact SaysAll.nil | (refine' SaysAll.cons ?kmaw522 ?kmbw522; (case kmaw522 => k_extra "my says"); (case kmbw522 => k_extra "my saysall")))
  k_with "eval Attribute Name" => ((k_here; (first | (with_reducible show wpAny _ _ (eval _ (envOf _ _ _ _ _)) _ _ _) | (with_reducible show wpAny _ _ (eval _ (envX _ _ _ _ _ _)) _ _ _)); first | ((with_reducible show wpAny _ _ (eval (Expr.Attribute (Expr.Name _ _) (Str.ofString "a") _) _) _ _ _); k_dflt (refine' mat_at_a ?Fw523 ?Xw523 ?vw523 ?aw523 ?Nw523 ?Sw523 ?_; (case aw523 => (refine' NmOk.mk ?na1w523 ?na2w523 ?na3w523; (case na1w523 => rfl); (case na2w523 => rfl); (case na3w523 => decide))); (case Fw523 => with_reducible assumption); (case vw523 => apply @rfl _ (some (Value.ref (MatL.x _)))); (case Xw523 => with_reducible assumption); (case Nw523 => with_reducible assumption); (case Sw523 => k_extra "my sub"); k_whole)) | ((with_reducible show wpAny _ _ (eval (Expr.Attribute (Expr.Name _ _) (Str.ofString "b") _) _) _ _ _); k_dflt (refine' mat_at_b ?Fw523 ?Xw523 ?vw523 ?aw523 ?Nw523 ?Sw523 ?_; (case aw523 => (refine' NmOk.mk ?na1w523 ?na2w523 ?na3w523; (case na1w523 => rfl); (case na2w523 => rfl); (case na3w523 => decide))); (case Fw523 => with_reducible assumption); (case vw523 => apply @rfl _ (some (Value.ref (MatL.x _)))); (case Xw523 => with_reducible assumption); (case Nw523 => with_reducible assumption); (case Sw523 => k_extra "my sub"); k_whole)) | ((with_reducible show wpAny _ _ (eval (Expr.Attribute (Expr.Name _ _) (Str.ofString "c") _) _) _ _ _); k_dflt (refine' mat_at_c ?Fw523 ?Xw523 ?vw523 ?aw523 ?Nw523 ?Sw523 ?_; (case aw523 => (refine' NmOk.mk ?na1w523 ?na2w523 ?na3w523; (case na1w523 => rfl); (case na2w523 => rfl); (case na3w523 => decide))); (case Fw523 => with_reducible assumption); (case vw523 => apply @rfl _ (some (Value.ref (MatL.x _)))); (case Xw523 => with_reducible assumption); (case Nw523 => with_reducible assumption); (case Sw523 => k_extra "my sub"); k_whole)) | ((with_reducible show wpAny _ _ (eval (Expr.Attribute (Expr.Name _ _) (Str.ofString "d") _) _) _ _ _); k_dflt (refine' mat_at_d ?Fw523 ?Xw523 ?vw523 ?aw523 ?Nw523 ?Sw523 ?_; (case aw523 => (refine' NmOk.mk ?na1w523 ?na2w523 ?na3w523; (case na1w523 => rfl); (case na2w523 => rfl); (case na3w523 => decide))); (case Fw523 => with_reducible assumption); (case vw523 => apply @rfl _ (some (Value.ref (MatL.x _)))); (case Xw523 => with_reducible assumption); (case Nw523 => with_reducible assumption); (case Sw523 => k_extra "my sub"); k_whole)) | ((with_reducible show wpAny _ _ (eval (Expr.Attribute (Expr.Name _ _) (Str.ofString "e") _) _) _ _ _); k_dflt (refine' mat_at_e ?Fw523 ?Xw523 ?vw523 ?aw523 ?Nw523 ?Sw523 ?_; (case aw523 => (refine' NmOk.mk ?na1w523 ?na2w523 ?na3w523; (case na1w523 => rfl); (case na2w523 => rfl); (case na3w523 => decide))); (case Fw523 => with_reducible assumption); (case vw523 => apply @rfl _ (some (Value.ref (MatL.x _)))); (case Xw523 => with_reducible assumption); (case Nw523 => with_reducible assumption); (case Sw523 => k_extra "my sub"); k_whole)) | ((with_reducible show wpAny _ _ (eval (Expr.Attribute (Expr.Name _ _) (Str.ofString "f") _) _) _ _ _); k_dflt (refine' mat_at_f ?Fw523 ?Xw523 ?vw523 ?aw523 ?Nw523 ?Sw523 ?_; (case aw523 => (refine' NmOk.mk ?na1w523 ?na2w523 ?na3w523; (case na1w523 => rfl); (case na2w523 => rfl); (case na3w523 => decide))); (case Fw523 => with_reducible assumption); (case vw523 => apply @rfl _ (some (Value.ref (MatL.x _)))); (case Xw523 => with_reducible assumption); (case Nw523 => with_reducible assumption); (case Sw523 => k_extra "my sub"); k_whole))))
  k_with "eval Call Attribute" => ((k_here; (first | (with_reducible show wpAny _ _ (eval _ (envOf _ _ _ _ _)) _ _ _) | (with_reducible show wpAny _ _ (eval _ (envX _ _ _ _ _ _)) _ _ _)); first | ((with_reducible show wpAny _ _ (eval (Expr.Call (Expr.Attribute (Expr.Name _ _) _ _) (_ :: _) [] _) _) _ _ _); k_dflt (refine' mat_meth ?Fw524 ?Xw524 ?vw524 ?aw524 ?Nw524 ?Sw524 ?fw524 ?hmw524 ?hlw524 ?hsw524 ?hpw524 ?_; (case aw524 => (refine' NmOk.mk ?na1w524 ?na2w524 ?na3w524; (case na1w524 => rfl); (case na2w524 => rfl); (case na3w524 => decide))); (case Fw524 => with_reducible assumption); (case vw524 => apply @rfl _ (some (Value.ref (MatL.x _)))); (case Xw524 => with_reducible assumption); (case Nw524 => with_reducible assumption); (case Sw524 => k_extra "my sub"); (case fw524 => k_is); (case hmw524 => kernel_rfl); (case hlw524 => exact @rfl _ true); (case hsw524 => exact @rfl _ true); (case hpw524 => exact @rfl _ true); k_whole)) | ((with_reducible show wpAny _ _ (eval (Expr.Call (Expr.Attribute (Expr.Name _ _) _ _) [] [] _) _) _ _ _); k_dflt (refine' mat_meth0 ?Fw524 ?Xw524 ?vw524 ?aw524 ?Nw524 ?Sw524 ?fw524 ?hmw524 ?hlw524 ?hpw524 ?_; (case aw524 => (refine' NmOk.mk ?na1w524 ?na2w524 ?na3w524; (case na1w524 => rfl); (case na2w524 => rfl); (case na3w524 => decide))); (case Fw524 => with_reducible assumption); (case vw524 => apply @rfl _ (some (Value.ref (MatL.x _)))); (case Xw524 => with_reducible assumption); (case Nw524 => with_reducible assumption); (case Sw524 => k_extra "my sub"); (case fw524 => k_is); (case hmw524 => kernel_rfl); (case hlw524 => exact @rfl _ true); (case hpw524 => exact @rfl _ true); k_whole))))
  k_with "call ref" => ((k_here; (with_reducible show wpAny _ _ (call (Value.ref 224) _) _ _ _); k_dflt (refine' (c_applied ?hbbw525 ?hokw525) _ _ _ _ _ _ _ _ _ _ _ _ _ _ _ _ _ _ ?kB ?kF ?kX ?kN ?kT ?kK ?kpw525 ?kd ?ku ?_; k_extra "sid"; (case hokw525 => with_reducible assumption); (case kpw525 => refine' ⟨?kpaw525, ?kpbw525, ?kpcw525⟩; (case kpaw525 => k_extra "my sub"); (case kpbw525 => k_extra "my num"); (case kpcw525 => k_extra "my num")); (case hbbw525 => first | decide | omega); k_whole; intro T9 D9 D8 ok9 ok8 h9 tk9 F9 N9; (try k_sweep))))
  k_with "call ref" => ((k_here; (with_reducible show wpAny _ _ (call (Value.ref 231) _) _ _ _); k_dflt (refine' (c_shifted ?hbbw526 ?hokw526) _ _ _ _ _ _ _ _ _ _ _ _ _ _ _ _ _ _ ?kB ?kF ?kX ?kN ?kT ?kK ?kpw526 ?kd ?ku ?_; k_extra "sid"; (case hokw526 => with_reducible assumption); (case kpw526 => refine' ⟨?kpaw526, ?kpbw526, ?kpcw526⟩; (case kpaw526 => k_extra "my sub"); (case kpbw526 => k_extra "my num"); (case kpcw526 => k_extra "my num")); (case hbbw526 => first | decide | omega); k_whole; intro T9 D9 D8 ok9 ok8 h9 tk9 F9 N9; (try k_sweep))))
  k_with "call ref" => ((k_here; (with_reducible show wpAny _ _ (call (Value.ref 217) _) _ _ _); k_dflt (refine' (c_mtimes ?hbbw527 ?hokw527 ?hok2w527) _ _ _ _ _ _ _ _ _ _ _ _ _ _ _ _ _ _ ?kB ?kF ?kX ?kN ?kT ?kK ?kpw527 ?kd ?ku ?_; k_extra "sid"; (case hokw527 => with_reducible assumption); (case hok2w527 => with_reducible assumption); (case kpw527 => refine' ⟨?kpaw527, ?kpbw527⟩; (case kpaw527 => k_extra "my sub"); (case kpbw527 => k_extra "my sub")); (case hbbw527 => first | decide | omega); k_whole; intro M9 ok9 h9 tk9 F9 N9; (try k_sweep))))
  k_with "call ref" => ((k_here; (with_reducible show wpAny _ _ (call (Value.ref 299) _) _ _ _); k_dflt (refine' (c_determinant ?hbbw528 ?hokw528) _ _ _ _ _ _ _ _ _ _ _ _ _ _ _ _ _ _ ?kB ?kF ?kX ?kN ?kT ?kK ?kpw528 ?kd ?ku ?_; k_extra "sid"; (case hokw528 => with_reducible assumption); (case kpw528 => k_extra "my sub"); (case hbbw528 => first | decide | omega); k_whole; intro D9 ok9 h9 tk9 F9 N9; (try k_sweep))))
  k_with "call ref" => ((k_here; (with_reducible show wpAny _ _ (call (Value.ref 306) _) _ _ _); k_dflt (refine' (c_is_invertible ?hbbw529 ?hokw529) _ _ _ _ _ _ _ _ _ _ _ _ _ _ _ _ _ _ ?kB ?kF ?kX ?kN ?kT ?kK ?kpw529 ?kd ?ku ?_; k_extra "sid"; (case hokw529 => with_reducible assumption); (case kpw529 => k_extra "my sub"); (case hbbw529 => first | decide | omega); k_whole; intro  h9 tk9 F9 N9; (try k_sweep))))
  k_with "call ref" => ((k_here; (with_reducible show wpAny _ _ (call (Value.ref 313) _) _ _ _); k_dflt (refine' (c_is_straight ?hokw530) _ _ _ _ _ _ _ _ _ _ _ _ _ _ _ _ _ _ ?kB ?kF ?kX ?kN ?kT ?kK ?kpw530 ?kd ?ku ?_; k_extra "sid"; (case hokw530 => with_reducible assumption); (case kpw530 => k_extra "my sub"); k_whole; intro  h9 tk9 F9 N9; (try k_sweep))))
  k_with "my num" => (exact Num.int (b := 1) (Bd.of (by decide)) rfl)
  k_with "call ref" => ((k_here; (with_reducible show wpAny _ _ (call (Value.ref 238) _) _ _ _); k_dflt (refine' (c_parts) _ _ _ _ _ _ _ _ _ _ _ _ _ _ _ _ _ _ ?kB ?kF ?kX ?kN ?kT ?kK ?kpw531 ?kd ?ku ?_; k_extra "sid"; (case kpw531 => k_extra "my sub"); k_whole; intro l9 n9 h9 tk9 F9 N9; (try k_sweep))))
  k_with "call ref" => ((k_here; (with_reducible show wpAny _ _ (call (Value.ref 243) _) _ _ _); k_dflt (refine' (c_mtold ?hokw532) _ _ _ _ _ _ _ _ _ _ _ _ _ _ _ _ _ _ ?kB ?kF ?kX ?kN ?kT ?kK ?kpw532 ?kd ?ku ?_; k_extra "sid"; (case hokw532 => with_reducible assumption); (case kpw532 => k_extra "my sub"); k_whole; intro e9 v9 y9 h9 tk9 F9 N9; (try k_sweep))))
  k_with "call ref" => ((k_here; (with_reducible show wpAny _ _ (call (Value.ref 182) _) _ _ _); k_dflt (refine' (c_over _ _ ?hTSw533 ?hSw533 ?hbbw533 ?h0w533 ?hp0w533 ?hpw533) _ _ _ _ _ _ _ _ _ _ _ _ _ _ _ _ _ _ ?kB ?kF ?kX ?kN ?kT ?kK ?kpw533 ?kd ?ku ?_; k_extra "sid"; (case kpw533 => refine' ⟨?kpaw533, ?kpbw533⟩; (case kpaw533 => k_extra "my num"); (case kpbw533 => k_extra "my num")); (case hTSw533 => with_reducible assumption); (case hSw533 => with_reducible assumption); (case h0w533 => with_reducible assumption); (case hp0w533 => with_reducible assumption); (case hpw533 => with_reducible assumption); (case hbbw533 => first | decide | omega); k_whole; intro D9 ok9 h9 tk9 F9 N9; (try k_sweep))))
  trivial




theorem KZ9setup3 : True := by
  k_with "my item" => ((k_here; (with_reducible show wpAny _ _ (subscriptTail _ _ (Value.ref _) (Value.int _ _)) _ _ _); k_dflt (refine' my_item ?Nw534 ?mw534 ?k2w534 ?k3w534 ?k4w534 ?_ ?k6w534; (case Nw534 => k_asm); (case mw534 => first | with_reducible assumption | k_mem); (case k2w534 => decide); (case k3w534 => decide); (case k4w534 => first | (refine' getk 0 ?gaw534 ?gbw534; (case gaw534 => decide); (case gbw534 => rfl)) | (refine' getk 1 ?gaw534 ?gbw534; (case gaw534 => decide); (case gbw534 => rfl)) | (refine' getk 2 ?gaw534 ?gbw534; (case gaw534 => decide); (case gbw534 => rfl)) | (refine' getk 3 ?gaw534 ?gbw534; (case gaw534 => decide); (case gbw534 => rfl)) | (refine' getk 4 ?gaw534 ?gbw534; (case gaw534 => decide); (case gbw534 => rfl)) | (refine' getk 5 ?gaw534 ?gbw534; (case gaw534 => decide); (case gbw534 => rfl))); (case k6w534 => with_unfolding_all rfl); k_whole)))
  k_with "subscriptTail" => (k_extra "my item")
  k_with "subscriptTail Name" => (k_extra "my item")
  k_with "subscriptTail Subscript" => (k_extra "my item")
  k_with "subscriptTail Name Name ref int" => (k_extra "my item")
  k_with "subscriptTail Name Constant ref int" => (k_extra "my item")
  k_with "subscriptTail Subscript Name Name Name ref int" => (k_extra "my item")
  k_with "subscriptTail Subscript Name Constant Name ref int" => (k_extra "my item")
  k_with "subscriptTail Subscript Name Name Constant ref int" => (k_extra "my item")
  k_with "subscriptTail Subscript Name Constant Constant ref int" => (k_extra "my item")
  k_with "my kmem" => (exact List.mem_cons_self)
  k_with "my told" => (first | (with_reducible refine' Says.list ?kmaw535 ?kmbw535; (case kmaw535 => exact List.mem_cons_self); (case kmbw535 => k_extra "my saysall")) | k_extra "my says")
  k_with "my eqd" => (first | (with_reducible rfl) | (with_reducible assumption) | k_extra "my eq")
  k_with "my ne" => ((k_here; k_dflt (refine' ne_told ?Nw536 ?S1w536 ?S2w536 ?hdw536 ?hsw536 ?hnw536 ?huw536 ?_; (case Nw536 => k_asm); (case S1w536 => k_extra "my told"); (case S2w536 => k_extra "my told"); (case hdw536 => k_extra "my eqd"); (case hsw536 => first | exact Shp.dq _ | exact Shp.dsix _ | exact Shp.two _ _); (case hnw536 => decide); (case huw536 => ktr_units); (try k_extra "my prune"))))
  k_with "my eqt" => ((k_here; k_dflt (refine' eq_told ?Nw537 ?S1w537 ?S2w537 ?hdw537 ?hsw537 ?hnw537 ?huw537 ?_; (case Nw537 => k_asm); (case S1w537 => k_extra "my told"); (case S2w537 => k_extra "my told"); (case hdw537 => k_extra "my eqd"); (case hsw537 => first | exact Shp.dq _ | exact Shp.dsix _ | exact Shp.two _ _); (case hnw537 => decide); (case huw537 => ktr_units); (try k_extra "my prune"))))
  k_with "compareOp NotEq" => (k_extra "my ne")
  k_with "compareOp NotEq ref ref" => (k_extra "my ne")
  k_with "compareOp NotEq ref" => (k_extra "my ne")
  k_with "compareOp Eq" => (k_extra "my eqt")
  k_with "compareOp Eq ref ref" => (k_extra "my eqt")
  k_with "compareOp Eq ref" => (k_extra "my eqt")
  k_with "CompEnd" => ((k_dflt (refine' compEnd_0 ?Fw538 ?Nw538 ?offw538 ?srcw538 ?_; (case Fw538 => k_asm); (case Nw538 => k_asm); (case offw538 => assumption); (case srcw538 => lcg_src))))
  k_with "CompEnd" => ((k_dflt (refine' compEnd_ext ?Fw539 ?Nw539 ?fw539 ?offw539 ?srcw539 ?_; (case Fw539 => k_asm); (case Nw539 => k_asm); (case fw539 => with_reducible assumption); (case offw539 => assumption); (case srcw539 => lcg_src))))
  k_with "CompSrc" => ((k_here; k_dflt (first
  | (refine' LCg.CompSrc.range ?h0w540 ?Fw540 ?Nw540 ?hrw540 ?h1w540 ?h2w540 ?h3w540 ?_; (case h0w540 => rfl); (case Fw540 => k_asm); (case Nw540 => k_asm); (case hrw540 => assumption); (case h1w540 => first | decide | rfl); (case h2w540 => first | rfl | decide); (case h3w540 => first | size_fits | exact Nat.le_of_ble_eq_true rfl); intro g'; lcg_lit)
  | (refine' LCg.CompSrc.ledger ?h0w540 ?Fw540 ?Nw540 ?hrw540 ?h3w540 ?_; (case h0w540 => rfl); (case Fw540 => k_asm); (case Nw540 => k_asm); (case hrw540 => k_mem); (case h3w540 => first | size_fits | exact Nat.le_of_ble_eq_true rfl); intro g'; lcg_lit))))
  trivial
theorem compEnd_1 {h₀ h' : Heap} {L I C D : Addr} {m : Str → Option Value} {s₁ : Shared} {oI oC oD : Obj} {S : Led → Prop} {rest : Value → Led → Prop} {y : Value} {tk : Nat} {t : Addr} {o : Obj} {news : Led} (F : Fr h₀ L h' m) (N : News h₀ L h' ((t, o) :: (I, oI) :: (C, oC) :: (D, oD) :: news)) (l : @LT.lt Nat _ I t ∧ @LT.lt Nat _ C t ∧ @LT.lt Nat _ D t ∧ AllLt t news) (off : LCg.Off3 I C D news) (hS : S ((t, o) :: news)) (r : rest y ((t, o) :: news)) :
    LCg.CompEnd h₀ L m s₁ I oI C oC D oD S rest y { s₁ with heap := h', toks := tk } := compEnd_ext (ext := [(t, o)]) F N (Fresh.one (allLt_mem (l := (I, oI) :: (C, oC) :: (D, oD) :: news) l)) off hS r
theorem KZ9setup4 : True := by
  k_with "CompEnd" => ((k_dflt (refine' compEnd_1 ?Fw541 ?Nw541 ?fw541 ?offw541 ?srcw541 ?_; (case Fw541 => k_asm); (case Nw541 => k_asm); (case fw541 => assumption); (case offw541 => assumption); (case srcw541 => lcg_src))))
  k_with "my mem" => (first | with_reducible exact List.mem_cons_self | (with_reducible refine' List.mem_cons_of_mem _ ?kmhw542; (case kmhw542 => k_extra "my mem")) | (with_reducible refine' List.mem_append_right _ ?kmhw542; (case kmhw542 => k_extra "my mem")))
  k_with "my saysall3" => (first | exact SaysAll.nil | (refine' SaysAll.cons ?kmew543 ?kmfw543; (case kmew543 => exact Says.int); (case kmfw543 => k_extra "my saysall3")))
  k_with "my says3" => (first | exact Says.int | (refine' Says.tuple ?kmgw544 ?kmiw544; (case kmgw544 => k_extra "my mem"); (case kmiw544 => k_extra "my saysall3")))
  k_with "my saysall2" => (first | exact SaysAll.nil | (refine' SaysAll.cons ?kmcw545 ?kmdw545; (case kmcw545 => k_extra "my says3"); (case kmdw545 => k_extra "my saysall2")))
  k_with "my says" => (first | exact Says.int | (refine' Says.tuple ?kmaw546 ?kmbw546; (case kmaw546 => k_extra "my mem"); (case kmbw546 => k_extra "my saysall2")))
  k_with "my eq" => (exact six_ints)
  k_with "call ref" => ((k_here; (with_reducible show wpAny _ _ (call (Value.ref 292) _) _ _ _); k_dflt (refine' (c_from_array) _ _ _ _ _ _ _ _ _ _ _ _ _ _ _ _ _ _ ?kB ?kF ?kX ?kN ?kT ?kK ?kpw547 ?kd ?ku ?_; k_extra "sid"; (case kpw547 => refine' ⟨?kpmw547, ⟨?kpaw547, ?kpbw547, ?kpcw547⟩, ?kpdw547, ?kpew547, ?kpfw547⟩; (case kpmw547 => k_mem); (case kpaw547 => k_extra "my num"); (case kpbw547 => k_extra "my num"); (case kpcw547 => k_extra "my num"); (case kpdw547 => k_extra "my num"); (case kpew547 => k_extra "my num"); (case kpfw547 => k_extra "my num")); k_whole; intro M9 ok9 h9 tk9 F9 N9; (try k_sweep))))
  trivial
set_option maxHeartbeats 4000000 in
theorem law_14 {base : Heap} {L l fa : Addr} {cd : Value} {s : Shared} {Q : Flow → Shared → Prop}
    {name qual : Str} {params : Arguments} {body : List Stmt} {scope : Scope} {dV kV doc pm cdv ct oc : Value} {an od : Option Addr} {osl : Array (Option Value)}
    {S1 : SixI} {M1 M2 M3 MB : MatL} {X p D : Addr} {x y pl : Int} {kx ky kp : Tok} {news : Led} {v1 v2 v3 v4 v5 : Value} {l6 : Addr} {n6 : Nat}
    (ho : (KF w.params).lookup 423 = some ⟨oc, od, .func (fnOf name qual params body scope dV kV doc pm an cdv ct), osl⟩)
    (B : Below callerA base [] base) (KX : (KF w.params).In base) (T : Tp mean mg mb base) (F : Fr base L s.heap (mS l p X M1 M2 M3 MB D x y pl kx ky kp v1 v2 v3 v4 l6 v5)) (N : News base L s.heap news)
    (ok : MatOK M1 S1.q 7) (hm : Sub (matL w M1) news) (h6 : (l6, listOf #[.ref M1.a.x, .ref M1.b.x, .ref M1.c.x, .ref M1.d.x, .ref M1.e.x, .ref M1.f.x] n6) ∈ news)
    (hQ : ∀ m h' tk', Fr base L h' m → Q (.ret (.bool true)) { s with heap := h', toks := tk' }) :
    wpAny (model PySem.Challenge.rw_nn0207_01.row.prog w) (callerA.deeper (envOf qual scope L fa cd)) (execs (body.drop 24) (envOf qual scope L fa cd)) Q (fun _ _ => False) s := by
  obtain ⟨rfl, rfl, rfl⟩ := law_fn ho
  clear ho
  revert KX
  k_fill
  intro KX
  change wpAny _ (callerA.deeper (envOf _ ⟨_, _, _, _, _⟩ _ _ _)) (execs (_ :: lawBody.drop 25) (envOf _ ⟨_, _, _, _, _⟩ _ _ _)) _ _ _
  have okk := ok
  have hma := mat_a hm; have hmb := mat_b hm; have hmc := mat_c hm; have hmd := mat_d' hm; have hme := mat_e hm; have hmf := mat_f hm; obtain ⟨oka, okb, okc, okd, oke, okf⟩ := ok
  k_steps
  (with_reducible rename Fr base L _ _ => kF)
  exact hQ _ _ _ kF
end

end
section
open PySem PySem.W PyProof.Rows PySem.Calls PySem.Spec

section
variable {w : World} {mean : ExcName → Option Value} {mg mb : Str → Option Value}







theorem KZ3setup1 : True := by
  k_with "my kmem" => (first | (with_reducible refine' rows_x ?kmhw548; (case kmhw548 => k_extra "my sub")) | (with_reducible refine' rows_1 ?kmhw548; (case kmhw548 => k_extra "my sub")) | (with_reducible refine' rows_2 ?kmhw548; (case kmhw548 => k_extra "my sub")) | (with_reducible refine' rows_3 ?kmhw548; (case kmhw548 => k_extra "my sub")))
  k_with "call ref" => ((k_here; (with_reducible show wpAny _ _ (call (Value.ref 363) _) _ _ _); k_dflt (refine' (c_law_told _ _ _ _ ?hpw549 ?hqw549) _ _ _ _ _ _ _ _ _ _ _ _ _ _ _ _ _ _ ?kB ?kF ?kX ?kN ?kT ?kK ?kpw549 ?kd ?ku ?_; k_extra "sid"; (case kpw549 => exact trivial); (case hqw549 => first | with_reducible assumption | k_extra "my hq"); (case hpw549 => first | with_reducible assumption | decide | omega); k_whole; intro e9 v9 y9 f9 h9 tk9 F9 N9; (try k_sweep))))
  k_with "call ref" => ((k_here; (with_reducible show wpAny _ _ (call (Value.ref 377) _) _ _ _); k_dflt (refine' (c_law_rows) _ _ _ _ _ _ _ _ _ _ _ _ _ _ _ _ _ _ ?kB ?kF ?kX ?kN ?kT ?kK ?kpw550 ?kd ?ku ?_; k_extra "sid"; (case kpw550 => first | with_reducible assumption | k_mem); k_whole; intro R9 ok9 f9 h9 tk9 F9 N9; (try k_sweep))))
  k_with "my titem" => ((k_here; (with_reducible show wpAny _ _ (subscriptTail _ _ (Value.ref _) (Value.int _ _)) _ _ _); k_dflt (refine' my_titem ?Nw551 ?mw551 ?k2w551 ?k3w551 ?k4w551 ?k5w551 ?_ ?k6w551 ?k7w551; (case Nw551 => k_asm); (case mw551 => first | with_reducible assumption | k_extra "my mem"); (case k2w551 => decide); (case k3w551 => decide); (case k4w551 => exact rfl); (case k5w551 => exact rfl); (case k6w551 => with_unfolding_all rfl); (case k7w551 => (intro _; with_unfolding_all rfl)); k_whole)))
  k_with "subscriptTail" => (k_extra "my titem")
  k_with "subscriptTail Name" => (k_extra "my titem")
  k_with "subscriptTail Name Constant ref int" => (k_extra "my titem")
  k_with "my kmem" => (first | (with_reducible refine' Keeps.at ?kmhw552; (case kmhw552 => with_reducible assumption)) | (with_reducible refine' updF_mem ?kmhw552; (case kmhw552 => with_reducible assumption)))
  trivial




theorem KZ3setup2 : True := by
  k_with "my keeps" => (first | with_reducible assumption | (refine' Keeps.cons ?kmhw553; (case kmhw553 => k_extra "my keeps")))
  k_with "call ref" => ((k_here; (with_reducible show wpAny _ _ (call (Value.ref 344) _) _ _ _); k_dflt (refine' (c_law_draw ?hmw554 ?hm2w554 ?hkw554 ?ivw554 ?hlw554 ?pow554) _ _ _ _ _ _ _ _ _ _ _ _ _ _ _ _ _ _ ?kB ?kF ?kX ?kN ?kT ?kK ?kpw554 ?kd ?ku ?_; k_extra "sid"; (case pow554 => with_reducible assumption); (case ivw554 => with_reducible assumption); (case hlw554 => with_reducible assumption); (case hmw554 => decide); (case hm2w554 => decide); (case hkw554 => omega); (case kpw554 => refine' ⟨?kpaw554, ?kpbw554⟩; (case kpaw554 => walk_at "my updf"); (case kpbw554 => k_extra "my keeps")); k_whole; intro o9 d9 t9 po9 dl9 dh9 h9 tk9 F9 N9; (try k_sweep))))
  k_with "call ref" => ((k_here; (with_reducible show wpAny _ _ (call (Value.ref 351) _) _ _ _); k_dflt (refine' (c_law_number ?hkw555 ?ivw555 ?hlw555 ?pow555) _ _ _ _ _ _ _ _ _ _ _ _ _ _ _ _ _ _ ?kB ?kF ?kX ?kN ?kT ?kK ?kpw555 ?kd ?ku ?_; k_extra "sid"; (case pow555 => with_reducible assumption); (case ivw555 => with_reducible assumption); (case hlw555 => with_reducible assumption); (case hkw555 => omega); (case kpw555 => refine' ⟨?kpaw555, ?kpbw555⟩; (case kpaw555 => walk_at "my updf"); (case kpbw555 => k_extra "my keeps")); k_whole; intro o9 v9 t9 po9 b9 h9 tk9 F9 N9; (try k_sweep))))
  k_with "eval ListComp" => ((k_here; k_dflt (refine' told_comp ?Bw556 ?Fw556 ?Xw556 ?Tw556 ?hkw556 ?hpw556 ?hdw556 ?huw556 ?hsw556 ?_; (case Bw556 => k_asm); (case Fw556 => k_asm); (case Xw556 => k_asm); (case Tw556 => k_asm); (case hkw556 => first | exact rfl | assumption); (case hpw556 => rfl); (case hdw556 => ktr_room); (case huw556 => ktr_units); (case hsw556 => intro _; rfl); k_whole)))
  k_with "TPair" => ((k_here; k_dflt (refine' TPair.intro ?Fw557 ?Nw557 ?mw557 ?k1w557 ?k2w557 ?o1w557 ?o2w557 ?_; (case Fw557 => k_asm); (case Nw557 => k_asm); (case mw557 => k_mem); (case k1w557 => k_extra "my sub"); (case k2w557 => k_extra "my sub"); (case o1w557 => with_reducible assumption); (case o2w557 => with_reducible assumption)); intro e9 v9 h' tk' y9 F' N'; (try k_sweep)))
  k_with "callWith ref" => ((k_here; (with_reducible show wpAny _ _ (callWith _ (Value.ref _) _ (backTo _ (starEach [] _)) []) _ _ _); k_dflt (refine' callWith_K0 ?k1w558 ?k2w558 ?_; (case k1w558 => k_in); (case k2w558 => k_is); k_whole)))
  k_with "callWith ref" => ((k_here; (with_reducible show wpAny _ _ (callWith _ (Value.ref _) _ (backTo _ (starEach (_ :: _) _)) []) _ _ _); k_dflt (refine' callWith_K ?k1w559 ?k2w559 ?_; (case k1w559 => k_asm); (case k2w559 => k_is); k_whole)))
  k_with "k_in" => ((refine' Frag.In.keeps ?kiaw560 (Fr.keep ?kibw560); (case kibw560 => k_asm); (case kiaw560 => k_asm)))
  trivial
noncomputable def Past (_ : Nat) : Prop := True
theorem pen_ne {h₀ h : Heap} {L p c : Addr} {n nc : Nat} {t u : Tok} {vs : List Value} {ns : List Int} {news : Led} (N : News h₀ L h ((p, listOf #[.ref c, .int 0 t, .int 0 u] n) :: (c, listOf vs.toArray nc) :: news)) (iv : IntsAre vs ns) : @Ne Nat c p := by
  intro e
  have h1 := (N _ (.head _)).1
  have h2 := (N _ (.tail _ (.head _))).1
  dsimp only at h1 h2
  rw [show c = p from e] at h2
  exact pen_ne_ints (c := c) (k := 0) ⟨0, 0, t, u, n, rfl, Int.le_refl 0, Int.le_refl 0, Int.le_refl 0⟩ iv (Option.some.inj (h2.symm.trans h1))
theorem c_pen {dp un : Nat} {gd : Option (List Code)} {cn : Str} {cs : Scope} {a : Addr} {ccd : Value} {cl : List (Str × Addr)} {outer : List Env} {A₀ : Around} {base h₀ : Heap} {L : Addr} {m : Str → Option Value} {news : Led} {s : Shared} {Q E : Value → Shared → Prop} {l : Addr} {vs : List Value} {ns : List Int}
    (B : Below A₀ base outer h₀) (F : Fr h₀ L s.heap m) (X : (KF w.params).In h₀) (N : News h₀ L s.heap news) (T : Tp mean mg mb h₀) (hk : cs.kind = .function) (hd : dp + 4 < recursionLimit) (hu : un + 32 < cLine)
    (hL : base.IsList l vs.toArray) (hI : IntsAre vs ns) (hn : ns.length ≤ 63)
    (hret : ∀ p c o nc vs' ms h' tk', PenAt c 0 o → IntsAre vs' ms → ms.length ≤ 63 → @Ne Nat c p → Fr h₀ L h' m → News h₀ L h' ((p, o) :: (c, listOf vs'.toArray nc) :: news) → Q (.ref p) { s with heap := h', toks := tk' }) :
    wpAny (model PySem.Challenge.rw_nn0207_01.row.prog w) (ktrTop dp un gd cn cs L a ccd cl outer) (call (.ref 337) [.ref l]) Q E s :=
  c_law_pen B F X N T hk hd hu hL hI hn fun p c n nc t u vs' h' tk' iv F' N' => hret p c _ nc vs' _ h' tk' ⟨0, 0, t, u, n, rfl, Int.le_refl 0, Int.le_refl 0, Int.le_refl 0⟩ iv (List.length_take_le 63 ns) (pen_ne N' iv) F' N'
theorem KZ3setup3 : True := by
  k_with "call ref" => ((k_here; (with_reducible show wpAny _ _ (call (Value.ref 337) _) _ _ _); k_dflt (refine' c_pen ?kB ?kF ?kX ?kN ?kT ?kK ?kd ?ku ?hLw561 ?hIw561 ?hnw561 ?_; k_extra "sid"; (case hLw561 => with_reducible assumption); (case hIw561 => with_reducible assumption); (case hnw561 => with_reducible assumption); k_whole); intro p9 c9 o9 nc9 vs9 ms9 h9 tk9 po9 iv9 hl9 ne9 F9 N9; (try dsimp only); (try k_sweep)))
  trivial
theorem updF_off {d p : Addr} {x o : Obj} {l : Led} {g : Obj → Led} (off : LCg.Off1 d l) (hm : (p, o) ∈ l) (u : UpdF p o l g) : UpdF p o ((d, x) :: l) (fun o' => (d, x) :: g o') := .tail (off1_ne off hm) u
theorem off1_p {d p : Addr} {o o' : Obj} {r : Led} (h : LCg.Off1 d ((p, o) :: r)) : LCg.Off1 d ((p, o') :: r) := h
theorem updF_start {p c : Addr} {o x : Obj} (h : @Ne Nat c p) : UpdF p o ((p, o) :: (c, x) :: []) (fun o' => (p, o') :: (c, x) :: []) := .head fun q hq => by rw [List.mem_singleton.mp hq]; exact h
theorem keeps_start {p : Addr} {e : Addr × Obj} {r : Led} : Keeps e (fun o' => (p, o') :: e :: r) := fun _ => .tail _ (.head _)
local macro_rules | `(tactic| walk_at "my updf") => `(tactic| first | with_reducible assumption | (with_reducible refine' updF_off ?kmo ?kmm ?kmu; (case kmo => first | with_reducible assumption | (with_reducible refine' off1_p ?kmq; (case kmq => with_reducible assumption))); (case kmm => k_mem); (case kmu => walk_at "my updf")) | (with_reducible refine' updF_start ?kmh; (case kmh => with_reducible assumption)) | (refine' updF_at ?kmh; (case kmh => with_reducible assumption)))
theorem KZ3setup4 : True := by
  k_with "my keeps" => (first | with_reducible assumption | exact keeps_start | (refine' Keeps.cons ?kmhw562; (case kmhw562 => k_extra "my keeps")))
  k_with "call ref" => ((k_here; (with_reducible show wpAny _ _ (call (Value.ref 356) _) _ _ _); k_dflt (refine' (c_six ?hkw563 ?ivw563 ?hlw563 ?pow563) _ _ _ _ _ _ _ _ _ _ _ _ _ _ _ _ _ _ ?kB ?kF ?kX ?kN ?kT ?kK ?kpw563 ?kd ?ku ?_; k_extra "sid"; (case pow563 => with_reducible assumption); (case ivw563 => with_reducible assumption); (case hlw563 => with_reducible assumption); (case hkw563 => omega); (case kpw563 => refine' ⟨?kpaw563, ?kpbw563⟩; (case kpaw563 => walk_at "my updf"); (case kpbw563 => k_extra "my keeps")); k_whole; intro S9 o9 po9 ok9 of9 h9 tk9 F9 N9; (try dsimp only at of9 N9); (try k_sweep))))
  k_with "eval ListComp" => ((k_here; (with_reducible show wpAny _ _ (eval (.ListComp (.Call (.Name _ _) _ _ _) _ _ _) _) _ _ _); k_dflt (refine' mats_comp ?Bw564 ?Fw564 ?Xw564 ?Tw564 ?hkw564 ?hdw564 ?huw564 ?hsw564 ?_; (case Bw564 => k_asm); (case Fw564 => k_asm); (case Xw564 => k_asm); (case Tw564 => k_asm); (case hkw564 => first | exact rfl | assumption); (case hdw564 => ktr_room); (case huw564 => ktr_units); (case hsw564 => intro _; rfl); k_whole)))
  k_with "PSix" => ((k_here; k_dflt (refine' PSix.intro ?Fw565 ?Nw565 ?mw565 ?m1w565 ?m2w565 ?m3w565 ?_; (case Fw565 => k_asm); (case Nw565 => k_asm); (case mw565 => k_mem); (case m1w565 => k_mem); (case m2w565 => k_mem); (case m3w565 => k_mem)); refine ⟨by assumption, by assumption, by assumption, ?_⟩; intro M1 M2 M3 D9 n9 h9 tk9 ok1 ok2 ok3 F9 N9; (try dsimp only); (try k_sweep)))
  trivial
set_option maxHeartbeats 4000000 in
theorem law_1 {base : Heap} {L l fa : Addr} {cd : Value} {s : Shared} {vs : List Value} {ns : List Int} {Q : Flow → Shared → Prop} {E : Value → Shared → Prop}
    {name qual : Str} {params : Arguments} {body : List Stmt} {scope : Scope} {dV kV doc pm cdv ct oc : Value} {an od : Option Addr} {osl : Array (Option Value)}
    (ho : (KF w.params).lookup 423 = some ⟨oc, od, .func (fnOf name qual params body scope dV kV doc pm an cdv ct), osl⟩)
    (K0 : Below callerA base [] base) (KX : (KF w.params).In base) (T : Tp mean mg mb base) (F : Fr base L s.heap (fun x => [(Str.ofString "script", Value.ref l)].reverse.lookup x)) (N : News base L s.heap [])
    (hL : base.IsList l vs.toArray) (hI : IntsAre vs ns) (hn : ns.length ≤ 63)
    (next : ∀ S1 S2 S3 M1 M2 M3 X nx p c k nc vs ns o news h' tk', LawC w S1 S2 S3 M1 M2 M3 X nx p c k nc vs ns o news → k ≤ 60 → Fr base L h' (mA l p X M1 M2 M3) → News base L h' news →
      wpAny (model PySem.Challenge.rw_nn0207_01.row.prog w) (callerA.deeper (envOf qual scope L fa cd)) (execs (body.drop 3) (envOf qual scope L fa cd)) Q E { s with heap := h', toks := tk' }) :
    wpAny (model PySem.Challenge.rw_nn0207_01.row.prog w) (callerA.deeper (envOf qual scope L fa cd)) (execs body (envOf qual scope L fa cd)) Q E s := by
  obtain ⟨rfl, rfl, rfl⟩ := law_fn ho
  clear ho
  revert KX
  k_fill
  intro KX
  change wpAny _ (callerA.deeper (envOf _ ⟨_, _, _, _, _⟩ _ _ _)) (execs (_ :: _ :: _ :: lawBody.drop 3) (envOf _ ⟨_, _, _, _, _⟩ _ _ _)) _ _ _
  generalize List.drop 3 lawBody = rest at next ⊢
  k_steps
  (try unfold StopP)
  (try dsimp only)
  (with_reducible rename Fr base L _ _ => kF)
  (with_reducible rename News base L _ _ => kN)
  refine' next _ _ _ _ _ _ _ _ _ _ _ _ _ _ _ _ _ _ ⟨?po, ?iv, ?hl, ?c1, ?c2, ?c3, ?c4, ?c5, ?c6, ?o1, ?o2, ?o3, ?k1, ?k2, ?k3, ?c7, ?c8, ?c9⟩ ?hk kF kN
  (case po => assumption)
  (case iv => assumption)
  (case hl => assumption)
  (case k1 => assumption)
  (case k2 => assumption)
  (case k3 => assumption)
  (case o1 => assumption)
  (case o2 => assumption)
  (case o3 => assumption)
  (case c1 => k_mem)
  (case c2 => k_mem)
  (case c3 => k_mem)
  (case c4 => k_mem)
  (case c5 => k_mem)
  (case c6 => k_mem)
  (case c7 => k_extra "my sub")
  (case c8 => k_extra "my sub")
  (case c9 => k_extra "my sub")
  (case hk => decide)
end

end
local macro_rules | `(tactic| walk_at "my updf") => `(tactic| first | with_reducible assumption | (with_reducible refine' updF_off ?kmo ?kmm ?kmu; (case kmo => first | with_reducible assumption | (with_reducible refine' off1_p ?kmq; (case kmq => with_reducible assumption))); (case kmm => k_mem); (case kmu => walk_at "my updf")) | (with_reducible refine' updF_start ?kmh; (case kmh => with_reducible assumption)) | (refine' updF_at ?kmh; (case kmh => with_reducible assumption)))
section
open PySem PySem.W PyProof.Rows
set_option maxHeartbeats 4000000
noncomputable abbrev pg : Program := PySem.Challenge.pw_nn0207_01
noncomputable abbrev swT := @PySem.W.Fast.tw10156331382660048174
noncomputable abbrev dnT := @PySem.W.Fast.tw11892475500146522536
noncomputable abbrev okT := @PySem.W.Fast.tw6613529449190102663
noncomputable abbrev tbT := @PySem.W.Fast.tw14364793385576792824
noncomputable abbrev osT := @PySem.W.Fast.tw4187177175401517315
noncomputable def runT (w : World) (n₀ : Nat) (ann : Option Value) : Nat → SharedT → Thread → Option SharedT
  | 0, _, _ => none
  | n + 1, s, t => match through t with
    | true => some s
    | false => match okT n₀ ann t with
      | false => none
      | true => match swT (dnT tbT) pg w s t with
        | some (s', t') => runT w n₀ ann n s' t'
        | none => none
termination_by structural n => n
theorem runT_spec {w : World} {n₀ : Nat} {ann : Option Value} : ∀ {n : Nat} {s s' : SharedT} {t : Thread}, runT w n₀ ann n s t = some s' → topRun treeTable pg w n₀ ann n s.abs t = some s'.abs
  | 0, _, _, _, h => by cases h
  | n + 1, s, s', t, h => by
    unfold runT at h
    unfold topRun
    cases ht : through t with
    | true => rw [ht] at h; cases h; rfl
    | false =>
      rw [ht] at h
      rw [show stepOk n₀ ann t = okT n₀ ann t from by rw [PySem.W.Fast.te6613529449190102663]]
      cases hk : okT n₀ ann t with
      | false => rw [hk] at h; cases h
      | true =>
        rw [hk] at h
        cases hs : swT (dnT tbT) pg w s t with
        | none => rw [hs] at h; cases h
        | some r =>
          obtain ⟨s₂, t₂⟩ := r
          rw [hs] at h
          have hs' : stepT (denote treeTable) pg w s t = some (s₂, t₂) := by
            rw [PySem.W.Fast.te10156331382660048174, PySem.W.Fast.te11892475500146522536, PySem.W.Fast.te14364793385576792824]; exact hs
          show (match step (denote treeTable) pg w s.abs t with
            | .go s' t' => topRun treeTable pg w n₀ ann n s' t'
            | .halt _ _ => none) = _
          rw [stepT_spec hs']
          exact runT_spec h
noncomputable def bootF (t : BT × Nat) : List Obj → BT × Nat
  | [] => t
  | o :: r => bootF (t.1.ins t.2 o, t.2 + 1) r
noncomputable def bootT (P : Params) : BT := (bootF (BT.nil, 0) (boot_heap P).objs.toList).1
noncomputable def s0T (w : World) (os : OsState) : SharedT := ⟨bootT w.params, (boot_heap w.params).objs.size, (boot_heap w.params).life, #[], boot_drawn, boot_toks, os⟩
theorem s0T_abs (w : World) (os : OsState) : (s0T w os).abs = ⟨boot_heap w.params, #[], boot_drawn, boot_toks, os⟩ := by
  have h : absHeap (bootT w.params) (boot_heap w.params).objs.size (boot_heap w.params).life = boot_heap w.params := by kernel_rfl
  show (⟨absHeap (bootT w.params) (boot_heap w.params).objs.size (boot_heap w.params).life, #[], boot_drawn, boot_toks, os⟩ : Shared) = _
  rw [h]

noncomputable abbrev Xtf : Shared → Bool := fun s => xlAt vw [] s && recOk [] s
noncomputable def annV (w : World) : Option Value := (boot_heap w.params).nsMap mainGlobals "__annotations__"
theorem get_abs {t : BT} {n : Nat} {life : Life} {a : Nat} {r : Option Obj} (h : Nat.blt a n = true) (g : (t.get a).isSome = true) (e : (t.get a).bind alive = r) : (absHeap t n life).get? a = r := by
  obtain ⟨o, ho⟩ := Option.isSome_iff_exists.mp g
  rw [ho] at e
  rw [abs_get (Nat.le_of_ble_eq_true h) ho]
  exact e
theorem map_abs {t : BT} {n : Nat} {life : Life} : ∀ {as : List Addr}, (as.all fun a => Nat.blt a n && (t.get a).isSome) = true → as.map (absHeap t n life).get? = as.map fun a => (t.get a).bind alive
  | [], _ => rfl
  | a :: r, h => by
    simp only [List.all_cons, Bool.and_eq_true] at h
    rw [List.map_cons, List.map_cons, map_abs h.2, get_abs h.1.1 h.1.2 rfl]
noncomputable abbrev runV {β : Type} (w : World) (os : OsState) (f : SharedT → β) : Option β := (runT w (boot_heap w.params).objs.size (annV w) 4780 (s0T w os) (topStub pg)).map f
theorem run_k (w : World) : (fun os => runV w os fun s => (asF.all (fun a => Nat.blt a s.n && (s.tree.get a).isSome), asF.map fun a => (s.tree.get a).bind alive)) = fun _ => some (true, (KF w.params).map fun p => some p.2) := by
  kernel_rfl
theorem run_f (w : World) : (fun os => runV w os fun s => (staticsOk (importedModules pg.main.body) (boot_heap w.params) s.abs.heap && namesBound pg s.abs.heap && gensDone s.abs && laidKept (boot_heap w.params) s.abs.heap)) = fun _ => some true := by
  kernel_rfl
theorem run_s (w : World) : (fun os => runV w os fun s => osT vw loos (importedModules pg.main.body) Xtf true s.abs) = fun _ => some (openGood vw loos) := by
  kernel_rfl
theorem glue {p q : Program} {loose : List Str} {Xt : Shared → Bool} {α : Type} {Yf : Shared → α} {y : α} {N : Nat} {w : World} {H : Heap} {gs : Array GenState} {d : Drawn} {k : Nat} {os : OsState} {s1 : Shared}
    (e : fencedOpening treeTable p w N = some ⟨H, gs, d, k, os⟩) (hns : (H.isNs mainGlobals && gs.size == 0) = true)
    (hr : topRun treeTable p w H.objs.size (H.nsMap mainGlobals "__annotations__") N ⟨H, gs, d, k, os⟩ (topStub p) = some s1)
    (l1 : (staticsOk (importedModules p.main.body) H s1.heap && namesBound p s1.heap && gensDone s1 && laidKept H s1.heap) = true)
    (l2 : openSeen q loose (importedModules p.main.body) Xt true s1 = openGood q loose) (l3 : Yf s1 = y) :
    (openEnds treeTable p w N).map (fun s => (openSeen q loose (importedModules p.main.body) Xt true s, Yf s)) = some (openGood q loose, y) := by
  have t : topFrom treeTable p w N ⟨H, gs, d, k, os⟩ = some s1 := by
    unfold topFrom
    dsimp only
    rw [hns, hr]
    show (match staticsOk (importedModules p.main.body) H s1.heap && namesBound p s1.heap && gensDone s1 && laidKept H s1.heap with | true => _ | false => _) = _
    rw [l1]
  unfold openEnds
  rw [e]
  show (topFrom treeTable p w N _).map _ = _
  rw [t]
  exact congrArg some (Prod.ext l2 l3)
theorem pick {β : Type} {o : Option SharedT} {f : SharedT → β} {b : β} (h : o.map f = some b) : ∃ s, o = some s ∧ f s = b := Option.map_eq_some_iff.mp h
theorem opened (w : World) : ∃ os, fencedOpening treeTable pg w 4780 = some ⟨boot_heap w.params, #[], boot_drawn, boot_toks, os⟩ := by
  have ho := boot_open (p := pg) (N := 4780) (by kernel_rfl) (by decide) (fun s => by kernel_rfl) w
  obtain ⟨⟨h, gs, d, k, os⟩, e, e'⟩ := Option.map_eq_some_iff.mp ho
  obtain ⟨rfl, rfl, rfl, rfl⟩ : h = boot_heap w.params ∧ gs = Array.mk [] ∧ d = boot_drawn ∧ k = boot_toks := by simpa using e'
  exact ⟨os, e⟩
theorem osT_eq {s : Shared} {x : Prop} (h : osT vw loos (importedModules pg.main.body) Xtf true s = openGood vw loos) : openSeen vw loos (importedModules pg.main.body) Xtf true s = openGood vw loos := by
  rw [PySem.W.Fast.te4187177175401517315]
  exact h
theorem flagged {w : World} {os : OsState} {s : SharedT} (hr : runT w (boot_heap w.params).objs.size (annV w) 4780 (s0T w os) (topStub pg) = some s) :
    (staticsOk (importedModules pg.main.body) (boot_heap w.params) s.abs.heap && namesBound pg s.abs.heap && gensDone s.abs && laidKept (boot_heap w.params) s.abs.heap) = true := by
  have h := congrFun (run_f w) os
  unfold runV at h
  rw [hr] at h
  exact Option.some.inj h
theorem seenOk {w : World} {os : OsState} {s : SharedT} (hr : runT w (boot_heap w.params).objs.size (annV w) 4780 (s0T w os) (topStub pg) = some s) :
    osT vw loos (importedModules pg.main.body) Xtf true s.abs = openGood vw loos := by
  have h := congrFun (run_s w) os
  unfold runV at h
  rw [hr] at h
  exact Option.some.inj h
theorem keptOk {w : World} {os : OsState} {s : SharedT} (hr : runT w (boot_heap w.params).objs.size (annV w) 4780 (s0T w os) (topStub pg) = some s) :
    asF.map s.abs.heap.get? = (KF w.params).map fun p => some p.2 := by
  have h := congrFun (run_k w) os
  unfold runV at h
  rw [hr] at h
  have h := Option.some.inj h
  obtain ⟨h1, h2⟩ := Prod.mk.inj h
  exact (map_abs h1).trans h2
theorem ranOk (w : World) (os : OsState) : ∃ s, runT w (boot_heap w.params).objs.size (annV w) 4780 (s0T w os) (topStub pg) = some s := by
  have h := congrFun (run_f w) os
  unfold runV at h
  obtain ⟨s, h1, _⟩ := pick h
  exact ⟨s, h1⟩
theorem left : LeftO pg vw loos Xtf (fun s => asF.map s.heap.get?) (fun w => (KF w.params).map fun p => some p.2) 4780 := fun w => by
  obtain ⟨os, e⟩ := opened w
  obtain ⟨s, hr⟩ := ranOk w os
  have hr' := runT_spec hr
  rw [s0T_abs] at hr'
  exact glue e (by kernel_rfl) hr' (flagged hr) (osT_eq (x := True) (seenOk hr)) (keptOk hr)


end
section
open PySem PySem.W PyProof.Rows PySem.Calls PySem.Spec

section
variable {w : World} {mean : ExcName → Option Value} {mg mb : Str → Option Value}
theorem law_all {base : Heap} {L l fa : Addr} {cd : Value} {s : Shared} {vs : List Value} {ns : List Int} {Q : Flow → Shared → Prop} {E : Value → Shared → Prop}
    {name qual : Str} {params : Arguments} {body : List Stmt} {scope : Scope} {dV kV doc pm cdv ct oc : Value} {an od : Option Addr} {osl : Array (Option Value)}
    (ho : (KF w.params).lookup 423 = some ⟨oc, od, .func (fnOf name qual params body scope dV kV doc pm an cdv ct), osl⟩)
    (K0 : Below callerA base [] base) (KX : (KF w.params).In base) (T : Tp mean mg mb base) (F : Fr base L s.heap (fun x => [(Str.ofString "script", Value.ref l)].reverse.lookup x)) (N : News base L s.heap [])
    (hL : base.IsList l vs.toArray) (hI : IntsAre vs ns) (hn : ns.length ≤ 63) (hQ : ∀ m h' tk', Fr base L h' m → Q (.ret (.bool true)) { s with heap := h', toks := tk' }) :
    wpAny (model PySem.Challenge.rw_nn0207_01.row.prog w) (callerA.deeper (envOf qual scope L fa cd)) (execs body (envOf qual scope L fa cd)) Q E s := by
  refine wpAny_mono (E := fun _ _ => False) (Q := Q) ?_ (fun _ _ q => q) fun _ _ q => q.elim
  refine law_1 ho K0 KX T F N hL hI hn fun S1 S2 S3 M1 M2 M3 X nx p c k nc vs ns o news h' tk' C hk F N => ?_
  refine law_2 ho K0 KX T F N C (by omega) fun MB D nd R1 R2 R3 x y pl kx ky kp o' news' h' tk' C R F N => ?_
  refine law_3 ho K0 KX T F N C R fun h' tk' F N => ?_
  refine law_4 ho K0 KX T F N C R fun h' tk' F N => ?_
  refine law_5 ho K0 KX T F N C R fun h' tk' F N => ?_
  refine law_6 ho K0 KX T F N C R fun h' tk' F N => ?_
  refine law_7 ho K0 KX T F N C R fun RP TG D1 D2 news' h' tk' hs P F N => ?_
  have C := C.mono hs
  have R := R.mono hs
  refine law_8 (vw := .none) ho K0 KX T F N C R P fun v3 h' tk' F N => ?_
  refine law_9 ho K0 KX T F N C R P fun v4 h' tk' F N => ?_
  refine law_10 ho K0 KX T F N C R fun h' tk' F N => ?_
  refine law_11 ho K0 KX T F N C R fun h' tk' F N => ?_
  refine law_12 ho K0 KX T F N C R (by omega) fun news' h' tk' hm F N => ?_
  refine law_13 ho K0 KX T F N C.k1 hm fun l6 n6 v5 news' h' tk' h6 hm F N => ?_
  exact law_14 ho K0 KX T F N C.k1 hm h6 hQ
set_option maxHeartbeats 8000000 in
theorem law_said : PySem.Challenge.rw_nn0207_01.wellSaid = true := by
  unfold OpenLaw.wellSaid
  repeat' (with_reducible refine look_both ?_ ?_)
  · (delta OpenLaw.row OpenRow.wellSaid; dsimp only
     repeat' (with_reducible refine look_both ?_ ?_)
     · (delta OpenRow.partSaid looksOpen; dsimp only
        repeat' (with_reducible refine look_both ?_ ?_)
        all_goals decide +kernel)
     all_goals decide +kernel)
  all_goals decide +kernel
noncomputable abbrev hkF : Hook := kHook KF asF (fun _ => by kernel_rfl)
set_option maxHeartbeats 8000000 in
theorem holds : PySem.Challenge.rw_nn0207_01.Holds := by
  w_on
  refine holds_law law_said fun said => ?_
  refine holds_open (q := vw) (loose := loos) (Xt := Xtf) (XP := XL vw []) (Yf := Hook.obs hkF) (Ya := Hook.val hkF) (YP := Hook.says hkF) (N := 4780) ?hl (Hook.of hkF) (Hook.keeps hkF) (fun s e => xl_of s (Bool.and_eq_true_iff.mp e).1) XL.keeps (by rfl) (by rfl) (by rfl) (fun s e => recFacts_of (Bool.and_eq_true_iff.mp e).2) (by rfl) (by first | assumption | decide +kernel) (by decide +kernel) ⟨rfl, rfl, rfl, rfl, rfl, by decide +kernel⟩ ?hw ?hc
  case hl => exact left
  case hw => w_witness2
  k_fill
  intro w s₀ s₁ mg mb G Y fa o pm cd doc dV kV ho hd hcd hD hmg hg args vals as hpre hlay hrd hwl hlo
  have KX := kIn_of Y
  k_behind G ho hd hcd hD hmg hpre hlay hrd hwl hlo cd
  (with_reducible rename IntsAre _ _ => hI)
  (with_reducible rename Heap.IsList _ _ _ => hL)
  (with_reducible rename Fr _ _ _ _ => F)
  (with_reducible rename News _ _ _ _ => N)
  (with_reducible rename Below _ _ _ _ => K0)
  (with_reducible rename Top _ _ _ _ _ _ => T)
  (with_reducible rename Frag.In _ _ => KX)
  (rename ¬ _ < _ => hn)
  revert KX
  k_fill
  intro KX
  refine' law_all (l := _) ?ho K0 KX T F N hL hI ?hn ?hQ
  case ho => k_is
  case hn => omega
  case hQ => (intro m' h' tk' F'; (try dsimp only); refine goodW_bool F' (by assumption) (raisesW_false ?_) ?_; (· wrow_none_raised); (· wrow_post))
end

end
end Mine
theorem PySem.Challenge.cw_nn0207_01_holds : PySem.Challenge.rw_nn0207_01.Holds := by
  exact Mine.holds
