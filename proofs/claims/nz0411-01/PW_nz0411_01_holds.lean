import PyProof.Rows.All
import Wide.All
import OpenK.AllK
import Wide.FinOn
import Lean
import PySem.Challenge.RW_nz0411_01
set_option Elab.async false

namespace Mine
open PySem PySem.W PySem.Calls PyProof.Rows
local macro_rules | `(tactic| walk_at $s:str) => `(tactic| k_extra $s)

/-! Head -/
/-- the function that a statement makes -/
noncomputable def fdOf (o : Option Stmt) (q : Str) (g : Addr) (cl : List (Str × Addr)) (dv kv doc pm : Value) (an : Option Addr) (cd ct : Value) (bl : Addr) : FuncData := match o with
  | some (.FunctionDef n a b _ _ _ sc _ _ _) => { name := n, qualname := q, params := a, body := .stmts b, scope := sc, globals := g, closure := cl, defaults := dv, kwdefaults := kv, doc := doc, pyModule := pm, annotations := an, code := cd, closureTuple := ct, builtins := bl }
  | _ => default
noncomputable def topS (i : Nat) : Option Stmt := PySem.Challenge.pw_nz0411_01.main.body[i]?
noncomputable def subS (i j : Nat) : Option Stmt := match topS i with
  | some (.ClassDef _ _ _ b _ _ _ _ _ _ _) => b[j]?
  | _ => none

set_option maxRecDepth 100000 in
set_option maxHeartbeats 8000000 in
/-- the part of the state that is written out -/
noncomputable def K : Params → Frag := by
  refine (?g : (?f21 : FuncData) = fdOf (topS 1) (Str.ofString "give_names") 3 [] (Value.none) (Value.none) (Value.none) (Value.str (Str.ofString "snobol.matchcore") 187) (none) (Value.ref 20) (Value.none) 0 →
    (?f28 : FuncData) = fdOf (topS 2) (Str.ofString "three_pieces") 3 [] (Value.none) (Value.none) (Value.none) (Value.str (Str.ofString "snobol.matchcore") 187) (none) (Value.ref 27) (Value.none) 0 →
    (?f35 : FuncData) = fdOf (topS 3) (Str.ofString "spliced") 3 [] (Value.none) (Value.none) (Value.none) (Value.str (Str.ofString "snobol.matchcore") 187) (none) (Value.ref 34) (Value.none) 0 →
    (?f42 : FuncData) = fdOf (topS 4) (Str.ofString "replace_once") 3 [] (Value.none) (Value.none) (Value.none) (Value.str (Str.ofString "snobol.matchcore") 187) (none) (Value.ref 41) (Value.none) 0 →
    (?f49 : FuncData) = fdOf (topS 5) (Str.ofString "replace_often") 3 [] (Value.none) (Value.none) (Value.none) (Value.str (Str.ofString "snobol.matchcore") 187) (none) (Value.ref 48) (Value.none) 0 →
    (?f66 : FuncData) = fdOf (subS 7 0) (Str.ofString "SnobolError.__init__") 3 [(Str.ofString "__class__", 53)] (Value.ref 58) (Value.none) (Value.none) (Value.str (Str.ofString "snobol.values") 248) (none) (Value.ref 65) (Value.ref 59) 0 →
    (?f100 : FuncData) = fdOf (subS 9 0) (Str.ofString "Pattern.__init__") 3 [] (Value.none) (Value.none) (Value.none) (Value.str (Str.ofString "snobol.values") 248) (none) (Value.ref 99) (Value.none) 0 →
    (?f121 : FuncData) = fdOf (subS 10 0) (Str.ofString "Delayed.__init__") 3 [] (Value.none) (Value.none) (Value.none) (Value.str (Str.ofString "snobol.values") 248) (none) (Value.ref 120) (Value.none) 0 →
    (?f142 : FuncData) = fdOf (subS 11 0) (Str.ofString "NameRef.__init__") 3 [] (Value.none) (Value.none) (Value.none) (Value.str (Str.ofString "snobol.values") 248) (none) (Value.ref 141) (Value.none) 0 →
    (?f156 : FuncData) = fdOf (topS 12) (Str.ofString "is_fail") 3 [] (Value.none) (Value.none) (Value.none) (Value.str (Str.ofString "snobol.values") 248) (none) (Value.ref 155) (Value.none) 0 →
    (?f163 : FuncData) = fdOf (topS 13) (Str.ofString "fits") 3 [] (Value.none) (Value.none) (Value.none) (Value.str (Str.ofString "snobol.values") 248) (none) (Value.ref 162) (Value.none) 0 →
    (?f170 : FuncData) = fdOf (topS 14) (Str.ofString "whole_of_text") 3 [] (Value.none) (Value.none) (Value.none) (Value.str (Str.ofString "snobol.values") 248) (none) (Value.ref 169) (Value.none) 0 →
    (?f177 : FuncData) = fdOf (topS 15) (Str.ofString "text_of_whole") 3 [] (Value.none) (Value.none) (Value.none) (Value.str (Str.ofString "snobol.values") 248) (none) (Value.ref 176) (Value.none) 0 →
    (?f184 : FuncData) = fdOf (topS 16) (Str.ofString "to_whole") 3 [] (Value.none) (Value.none) (Value.none) (Value.str (Str.ofString "snobol.values") 248) (none) (Value.ref 183) (Value.none) 0 →
    (?f191 : FuncData) = fdOf (topS 17) (Str.ofString "to_text") 3 [] (Value.none) (Value.none) (Value.none) (Value.str (Str.ofString "snobol.values") 248) (none) (Value.ref 190) (Value.none) 0 →
    (?f198 : FuncData) = fdOf (topS 18) (Str.ofString "need_text") 3 [] (Value.none) (Value.none) (Value.none) (Value.str (Str.ofString "snobol.values") 248) (none) (Value.ref 197) (Value.none) 0 →
    (?f212 : FuncData) = fdOf (subS 20 0) (Str.ofString "PlainHost.__init__") 3 [] (Value.none) (Value.none) (Value.none) (Value.str (Str.ofString "snobol.hosts") 453) (none) (Value.ref 211) (Value.none) 0 →
    (?f219 : FuncData) = fdOf (subS 20 1) (Str.ofString "PlainHost.value_of") 3 [] (Value.none) (Value.none) (Value.none) (Value.str (Str.ofString "snobol.hosts") 453) (none) (Value.ref 218) (Value.none) 0 →
    (?f226 : FuncData) = fdOf (subS 20 2) (Str.ofString "PlainHost.assign") 3 [] (Value.none) (Value.none) (Value.none) (Value.str (Str.ofString "snobol.hosts") 453) (none) (Value.ref 225) (Value.none) 0 →
    (?f233 : FuncData) = fdOf (subS 20 3) (Str.ofString "PlainHost.step") 3 [] (Value.none) (Value.none) (Value.none) (Value.str (Str.ofString "snobol.hosts") 453) (none) (Value.ref 232) (Value.none) 0 →
    (?f249 : FuncData) = fdOf (topS 25) (Str.ofString "plain_count") 3 [] (Value.none) (Value.none) (Value.none) (Value.str (Str.ofString "snobol.nodes") 514) (none) (Value.ref 248) (Value.none) 0 →
    (?f256 : FuncData) = fdOf (topS 26) (Str.ofString "plain_signs") 3 [] (Value.none) (Value.none) (Value.none) (Value.str (Str.ofString "snobol.nodes") 514) (none) (Value.ref 255) (Value.none) 0 →
    (?f263 : FuncData) = fdOf (topS 27) (Str.ofString "pattern_of") 3 [] (Value.none) (Value.none) (Value.none) (Value.str (Str.ofString "snobol.nodes") 514) (none) (Value.ref 262) (Value.none) 0 →
    (?f270 : FuncData) = fdOf (topS 28) (Str.ofString "is_delayed") 3 [] (Value.none) (Value.none) (Value.none) (Value.str (Str.ofString "snobol.nodes") 514) (none) (Value.ref 269) (Value.none) 0 →
    (?f277 : FuncData) = fdOf (topS 29) (Str.ofString "settled") 3 [] (Value.none) (Value.none) (Value.none) (Value.str (Str.ofString "snobol.nodes") 514) (none) (Value.ref 276) (Value.none) 0 →
    (?f284 : FuncData) = fdOf (topS 33) (Str.ofString "chars_end") 3 [] (Value.none) (Value.none) (Value.none) (Value.str (Str.ofString "snobol.primitives") 571) (none) (Value.ref 283) (Value.none) 0 →
    (?f291 : FuncData) = fdOf (topS 34) (Str.ofString "len_end") 3 [] (Value.none) (Value.none) (Value.none) (Value.str (Str.ofString "snobol.primitives") 571) (none) (Value.ref 290) (Value.none) 0 →
    (?f298 : FuncData) = fdOf (topS 35) (Str.ofString "pos_end") 3 [] (Value.none) (Value.none) (Value.none) (Value.str (Str.ofString "snobol.primitives") 571) (none) (Value.ref 297) (Value.none) 0 →
    (?f305 : FuncData) = fdOf (topS 36) (Str.ofString "rpos_end") 3 [] (Value.none) (Value.none) (Value.none) (Value.str (Str.ofString "snobol.primitives") 571) (none) (Value.ref 304) (Value.none) 0 →
    (?f312 : FuncData) = fdOf (topS 37) (Str.ofString "tab_end") 3 [] (Value.none) (Value.none) (Value.none) (Value.str (Str.ofString "snobol.primitives") 571) (none) (Value.ref 311) (Value.none) 0 →
    (?f319 : FuncData) = fdOf (topS 38) (Str.ofString "rtab_end") 3 [] (Value.none) (Value.none) (Value.none) (Value.str (Str.ofString "snobol.primitives") 571) (none) (Value.ref 318) (Value.none) 0 →
    (?f326 : FuncData) = fdOf (topS 39) (Str.ofString "rem_end") 3 [] (Value.none) (Value.none) (Value.none) (Value.str (Str.ofString "snobol.primitives") 571) (none) (Value.ref 325) (Value.none) 0 →
    (?f333 : FuncData) = fdOf (topS 40) (Str.ofString "any_at") 3 [] (Value.none) (Value.none) (Value.none) (Value.str (Str.ofString "snobol.primitives") 571) (none) (Value.ref 332) (Value.none) 0 →
    (?f340 : FuncData) = fdOf (topS 41) (Str.ofString "notany_at") 3 [] (Value.none) (Value.none) (Value.none) (Value.str (Str.ofString "snobol.primitives") 571) (none) (Value.ref 339) (Value.none) 0 →
    (?f347 : FuncData) = fdOf (topS 42) (Str.ofString "run_end") 3 [] (Value.none) (Value.none) (Value.none) (Value.str (Str.ofString "snobol.primitives") 571) (none) (Value.ref 346) (Value.none) 0 →
    (?f354 : FuncData) = fdOf (topS 43) (Str.ofString "span_end") 3 [] (Value.none) (Value.none) (Value.none) (Value.str (Str.ofString "snobol.primitives") 571) (none) (Value.ref 353) (Value.none) 0 →
    (?f361 : FuncData) = fdOf (topS 44) (Str.ofString "break_end") 3 [] (Value.none) (Value.none) (Value.none) (Value.str (Str.ofString "snobol.primitives") 571) (none) (Value.ref 360) (Value.none) 0 →
    (?f368 : FuncData) = fdOf (topS 45) (Str.ofString "bal_end") 3 [] (Value.none) (Value.none) (Value.none) (Value.str (Str.ofString "snobol.primitives") 571) (none) (Value.ref 367) (Value.none) 0 →
    (?f375 : FuncData) = fdOf (topS 46) (Str.ofString "bal_ends") 3 [] (Value.none) (Value.none) (Value.none) (Value.str (Str.ofString "snobol.primitives") 571) (none) (Value.ref 374) (Value.none) 0 →
    (?f382 : FuncData) = fdOf (topS 47) (Str.ofString "one_end") 3 [] (Value.none) (Value.none) (Value.none) (Value.str (Str.ofString "snobol.primitives") 571) (none) (Value.ref 381) (Value.none) 0 →
    (?f389 : FuncData) = fdOf (topS 48) (Str.ofString "plain_end") 3 [] (Value.none) (Value.none) (Value.none) (Value.str (Str.ofString "snobol.primitives") 571) (none) (Value.ref 388) (Value.none) 0 →
    (?f396 : FuncData) = fdOf (topS 51) (Str.ofString "match_plain") 3 [] (Value.none) (Value.none) (Value.none) (Value.str (Str.ofString "snobol.trial") 725) (none) (Value.ref 395) (Value.none) 0 →
    (?f403 : FuncData) = fdOf (topS 52) (Str.ofString "match_at") 3 [] (Value.none) (Value.none) (Value.none) (Value.str (Str.ofString "snobol.trial") 725) (none) (Value.ref 402) (Value.none) 0 →
    (?f410 : FuncData) = fdOf (topS 53) (Str.ofString "tried") 3 [] (Value.none) (Value.none) (Value.none) (Value.str (Str.ofString "snobol.trial") 725) (none) (Value.ref 409) (Value.none) 0 →
    (?f417 : FuncData) = fdOf (topS 54) (Str.ofString "advanced") 3 [] (Value.none) (Value.none) (Value.none) (Value.str (Str.ofString "snobol.trial") 725) (none) (Value.ref 416) (Value.none) 0 →
    (?f424 : FuncData) = fdOf (topS 55) (Str.ofString "led_in") 3 [] (Value.none) (Value.none) (Value.none) (Value.str (Str.ofString "snobol.trial") 725) (none) (Value.ref 423) (Value.none) 0 →
    (?f431 : FuncData) = fdOf (topS 56) (Str.ofString "led_out") 3 [] (Value.none) (Value.none) (Value.none) (Value.str (Str.ofString "snobol.trial") 725) (none) (Value.ref 430) (Value.none) 0 →
    (?f438 : FuncData) = fdOf (topS 57) (Str.ofString "steered") 3 [] (Value.none) (Value.none) (Value.none) (Value.str (Str.ofString "snobol.trial") 725) (none) (Value.ref 437) (Value.none) 0 →
    (?f445 : FuncData) = fdOf (topS 58) (Str.ofString "taken") 3 [] (Value.none) (Value.none) (Value.none) (Value.str (Str.ofString "snobol.trial") 725) (none) (Value.ref 444) (Value.none) 0 →
    (?f450 : FuncData) = fdOf (topS 60) (Str.ofString "_law_box") 3 [] (Value.none) (Value.none) (Value.none) (Value.str (Str.ofString "law_nz0411_01") 840) (none) (Value.ref 449) (Value.none) 0 →
    (?f457 : FuncData) = fdOf (topS 61) (Str.ofString "_law_draw") 3 [] (Value.none) (Value.none) (Value.none) (Value.str (Str.ofString "law_nz0411_01") 840) (none) (Value.ref 456) (Value.none) 0 →
    (?f464 : FuncData) = fdOf (topS 62) (Str.ofString "_law_part") 3 [] (Value.none) (Value.none) (Value.none) (Value.str (Str.ofString "law_nz0411_01") 840) (none) (Value.ref 463) (Value.none) 0 →
    (?f469 : FuncData) = fdOf (topS 63) (Str.ofString "_law_row") 3 [] (Value.none) (Value.none) (Value.none) (Value.str (Str.ofString "law_nz0411_01") 840) (none) (Value.ref 468) (Value.none) 0 →
    (?f476 : FuncData) = fdOf (topS 64) (Str.ofString "_law_joined") 3 [] (Value.none) (Value.none) (Value.none) (Value.str (Str.ofString "law_nz0411_01") 840) (none) (Value.ref 475) (Value.none) 0 →
    (?f483 : FuncData) = fdOf (topS 65) (Str.ofString "_law_end") 3 [] (Value.none) (Value.none) (Value.none) (Value.str (Str.ofString "law_nz0411_01") 840) (none) (Value.ref 482) (Value.none) 0 →
    (?f490 : FuncData) = fdOf (topS 66) (Str.ofString "_law_met") 3 [] (Value.none) (Value.none) (Value.none) (Value.str (Str.ofString "law_nz0411_01") 840) (none) (Value.ref 489) (Value.none) 0 →
    (?f497 : FuncData) = fdOf (topS 67) (Str.ofString "_law_once") 3 [] (Value.none) (Value.none) (Value.none) (Value.str (Str.ofString "law_nz0411_01") 840) (none) (Value.ref 496) (Value.none) 0 →
    (?f504 : FuncData) = fdOf (topS 68) (Str.ofString "_law_told") 3 [] (Value.none) (Value.none) (Value.none) (Value.str (Str.ofString "law_nz0411_01") 840) (none) (Value.ref 503) (Value.none) 0 →
    (?f509 : FuncData) = fdOf (topS 69) (Str.ofString "law") 3 [] (Value.none) (Value.none) (Value.none) (Value.str (Str.ofString "law_nz0411_01") 840) (none) (Value.ref 508) (Value.none) 0 →
    Params → Frag) ?h21 ?h28 ?h35 ?h42 ?h49 ?h66 ?h100 ?h121 ?h142 ?h156 ?h163 ?h170 ?h177 ?h184 ?h191 ?h198 ?h212 ?h219 ?h226 ?h233 ?h249 ?h256 ?h263 ?h270 ?h277 ?h284 ?h291 ?h298 ?h305 ?h312 ?h319 ?h326 ?h333 ?h340 ?h347 ?h354 ?h361 ?h368 ?h375 ?h382 ?h389 ?h396 ?h403 ?h410 ?h417 ?h424 ?h431 ?h438 ?h445 ?h450 ?h457 ?h464 ?h469 ?h476 ?h483 ?h490 ?h497 ?h504 ?h509
  case h21 => conv => rhs; whnf
  case h28 => conv => rhs; whnf
  case h35 => conv => rhs; whnf
  case h42 => conv => rhs; whnf
  case h49 => conv => rhs; whnf
  case h66 => conv => rhs; whnf
  case h100 => conv => rhs; whnf
  case h121 => conv => rhs; whnf
  case h142 => conv => rhs; whnf
  case h156 => conv => rhs; whnf
  case h163 => conv => rhs; whnf
  case h170 => conv => rhs; whnf
  case h177 => conv => rhs; whnf
  case h184 => conv => rhs; whnf
  case h191 => conv => rhs; whnf
  case h198 => conv => rhs; whnf
  case h212 => conv => rhs; whnf
  case h219 => conv => rhs; whnf
  case h226 => conv => rhs; whnf
  case h233 => conv => rhs; whnf
  case h249 => conv => rhs; whnf
  case h256 => conv => rhs; whnf
  case h263 => conv => rhs; whnf
  case h270 => conv => rhs; whnf
  case h277 => conv => rhs; whnf
  case h284 => conv => rhs; whnf
  case h291 => conv => rhs; whnf
  case h298 => conv => rhs; whnf
  case h305 => conv => rhs; whnf
  case h312 => conv => rhs; whnf
  case h319 => conv => rhs; whnf
  case h326 => conv => rhs; whnf
  case h333 => conv => rhs; whnf
  case h340 => conv => rhs; whnf
  case h347 => conv => rhs; whnf
  case h354 => conv => rhs; whnf
  case h361 => conv => rhs; whnf
  case h368 => conv => rhs; whnf
  case h375 => conv => rhs; whnf
  case h382 => conv => rhs; whnf
  case h389 => conv => rhs; whnf
  case h396 => conv => rhs; whnf
  case h403 => conv => rhs; whnf
  case h410 => conv => rhs; whnf
  case h417 => conv => rhs; whnf
  case h424 => conv => rhs; whnf
  case h431 => conv => rhs; whnf
  case h438 => conv => rhs; whnf
  case h445 => conv => rhs; whnf
  case h450 => conv => rhs; whnf
  case h457 => conv => rhs; whnf
  case h464 => conv => rhs; whnf
  case h469 => conv => rhs; whnf
  case h476 => conv => rhs; whnf
  case h483 => conv => rhs; whnf
  case h490 => conv => rhs; whnf
  case h497 => conv => rhs; whnf
  case h504 => conv => rhs; whnf
  case h509 => conv => rhs; whnf
  case g =>
    intro _ _ _ _ _ _ _ _ _ _ _ _ _ _ _ _ _ _ _ _ _ _ _ _ _ _ _ _ _ _ _ _ _ _ _ _ _ _ _ _ _ _ _ _ _ _ _ _ _ _ _ _ _ _ _ _ _ _ _ 
    exact fun P => (nat_lit 2, ({ cls := Value.none, data := Data.dict #[{ hash := PyData.keyHash P (Str.ofString "type.__subclasses__.Exception.0"), key := Value.str (Str.ofString "type.__subclasses__.Exception.0") 280, val := Value.int 69 0 }, { hash := PyData.keyHash P (Str.ofString "type.__subclasses__.Exception.n"), key := Value.str (Str.ofString "type.__subclasses__.Exception.n") 281, val := Value.int 1 0 }] 2 } : Obj)) ::
      (nat_lit 3, ({ cls := Value.type "dict", data := Data.dict (List.toArray ({ hash := PyData.keyHash P (Str.ofString "__name__"), key := Value.str (Str.ofString "__name__") 165, val := Value.str (Str.ofString "law_nz0411_01") 840 } :: { hash := PyData.keyHash P (Str.ofString "__doc__"), key := Value.str (Str.ofString "__doc__") 166, val := Value.none } :: { hash := PyData.keyHash P (Str.ofString "__package__"), key := Value.str (Str.ofString "__package__") 167, val := Value.none } :: { hash := PyData.keyHash P (Str.ofString "__loader__"), key := Value.str (Str.ofString "__loader__") 168, val := Value.builtin "__main__.__loader__#opaque" } :: { hash := PyData.keyHash P (Str.ofString "__spec__"), key := Value.str (Str.ofString "__spec__") 169, val := Value.none } :: { hash := PyData.keyHash P (Str.ofString "__annotations__"), key := Value.str (Str.ofString "__annotations__") 170, val := Value.ref 6 } :: { hash := PyData.keyHash P (Str.ofString "__builtins__"), key := Value.str (Str.ofString "__builtins__") 171, val := Value.ref 4 } :: { hash := PyData.keyHash P (Str.ofString "__file__"), key := Value.str (Str.ofString "__file__") 173, val := Value.str (Str.ofString "/claim/cut.py") 172 } :: { hash := PyData.keyHash P (Str.ofString "__cached__"), key := Value.str (Str.ofString "__cached__") 174, val := Value.none } :: { hash := PyData.keyHash P (Str.ofString "give_names"), key := Value.str (Str.ofString "give_names") 198, val := Value.ref 21 } :: { hash := PyData.keyHash P (Str.ofString "three_pieces"), key := Value.str (Str.ofString "three_pieces") 206, val := Value.ref 28 } :: { hash := PyData.keyHash P (Str.ofString "spliced"), key := Value.str (Str.ofString "spliced") 218, val := Value.ref 35 } :: { hash := PyData.keyHash P (Str.ofString "replace_once"), key := Value.str (Str.ofString "replace_once") 232, val := Value.ref 42 } :: { hash := PyData.keyHash P (Str.ofString "replace_often"), key := Value.str (Str.ofString "replace_often") 247, val := Value.ref 49 } :: { hash := PyData.keyHash P (Str.ofString "SnobolError"), key := Value.str (Str.ofString "SnobolError") 283, val := Value.ref 69 } :: { hash := PyData.keyHash P (Str.ofString "Failure"), key := Value.str (Str.ofString "Failure") 303, val := Value.ref 82 } :: { hash := PyData.keyHash P (Str.ofString "Pattern"), key := Value.str (Str.ofString "Pattern") 332, val := Value.ref 103 } :: { hash := PyData.keyHash P (Str.ofString "Delayed"), key := Value.str (Str.ofString "Delayed") 361, val := Value.ref 124 } :: { hash := PyData.keyHash P (Str.ofString "NameRef"), key := Value.str (Str.ofString "NameRef") 394, val := Value.ref 145 } :: { hash := PyData.keyHash P (Str.ofString "is_fail"), key := Value.str (Str.ofString "is_fail") 401, val := Value.ref 156 } :: { hash := PyData.keyHash P (Str.ofString "fits"), key := Value.str (Str.ofString "fits") 409, val := Value.ref 163 } :: { hash := PyData.keyHash P (Str.ofString "whole_of_text"), key := Value.str (Str.ofString "whole_of_text") 420, val := Value.ref 170 } :: { hash := PyData.keyHash P (Str.ofString "text_of_whole"), key := Value.str (Str.ofString "text_of_whole") 429, val := Value.ref 177 } :: { hash := PyData.keyHash P (Str.ofString "to_whole"), key := Value.str (Str.ofString "to_whole") 437, val := Value.ref 184 } :: { hash := PyData.keyHash P (Str.ofString "to_text"), key := Value.str (Str.ofString "to_text") 444, val := Value.ref 191 } :: { hash := PyData.keyHash P (Str.ofString "need_text"), key := Value.str (Str.ofString "need_text") 452, val := Value.ref 198 } :: { hash := PyData.keyHash P (Str.ofString "PlainHost"), key := Value.str (Str.ofString "PlainHost") 513, val := Value.ref 236 } :: { hash := PyData.keyHash P (Str.ofString "COUNTED"), key := Value.str (Str.ofString "COUNTED") 521, val := Value.ref 241 } :: { hash := PyData.keyHash P (Str.ofString "SIGNED"), key := Value.str (Str.ofString "SIGNED") 526, val := Value.ref 242 } :: { hash := PyData.keyHash P (Str.ofString "WIDTH_OF_COUNT"), key := Value.str (Str.ofString "WIDTH_OF_COUNT") 528, val := Value.int 64 527 } :: { hash := PyData.keyHash P (Str.ofString "plain_count"), key := Value.str (Str.ofString "plain_count") 537, val := Value.ref 249 } :: { hash := PyData.keyHash P (Str.ofString "plain_signs"), key := Value.str (Str.ofString "plain_signs") 546, val := Value.ref 256 } :: { hash := PyData.keyHash P (Str.ofString "pattern_of"), key := Value.str (Str.ofString "pattern_of") 554, val := Value.ref 263 } :: { hash := PyData.keyHash P (Str.ofString "is_delayed"), key := Value.str (Str.ofString "is_delayed") 561, val := Value.ref 270 } :: { hash := PyData.keyHash P (Str.ofString "settled"), key := Value.str (Str.ofString "settled") 570, val := Value.ref 277 } :: { hash := PyData.keyHash P (Str.ofString "OPENING"), key := Value.str (Str.ofString "OPENING") 574, val := Value.str (Str.ofString "(") 573 } :: { hash := PyData.keyHash P (Str.ofString "CLOSING"), key := Value.str (Str.ofString "CLOSING") 576, val := Value.str (Str.ofString ")") 575 } :: { hash := PyData.keyHash P (Str.ofString "chars_end"), key := Value.str (Str.ofString "chars_end") 586, val := Value.ref 284 } :: { hash := PyData.keyHash P (Str.ofString "len_end"), key := Value.str (Str.ofString "len_end") 595, val := Value.ref 291 } :: { hash := PyData.keyHash P (Str.ofString "pos_end"), key := Value.str (Str.ofString "pos_end") 603, val := Value.ref 298 } :: { hash := PyData.keyHash P (Str.ofString "rpos_end"), key := Value.str (Str.ofString "rpos_end") 612, val := Value.ref 305 } :: { hash := PyData.keyHash P (Str.ofString "tab_end"), key := Value.str (Str.ofString "tab_end") 621, val := Value.ref 312 } :: { hash := PyData.keyHash P (Str.ofString "rtab_end"), key := Value.str (Str.ofString "rtab_end") 631, val := Value.ref 319 } :: { hash := PyData.keyHash P (Str.ofString "rem_end"), key := Value.str (Str.ofString "rem_end") 638, val := Value.ref 326 } :: { hash := PyData.keyHash P (Str.ofString "any_at"), key := Value.str (Str.ofString "any_at") 647, val := Value.ref 333 } :: { hash := PyData.keyHash P (Str.ofString "notany_at"), key := Value.str (Str.ofString "notany_at") 656, val := Value.ref 340 } :: { hash := PyData.keyHash P (Str.ofString "run_end"), key := Value.str (Str.ofString "run_end") 666, val := Value.ref 347 } :: { hash := PyData.keyHash P (Str.ofString "span_end"), key := Value.str (Str.ofString "span_end") 676, val := Value.ref 354 } :: { hash := PyData.keyHash P (Str.ofString "break_end"), key := Value.str (Str.ofString "break_end") 686, val := Value.ref 361 } :: { hash := PyData.keyHash P (Str.ofString "bal_end"), key := Value.str (Str.ofString "bal_end") 695, val := Value.ref 368 } :: { hash := PyData.keyHash P (Str.ofString "bal_ends"), key := Value.str (Str.ofString "bal_ends") 705, val := Value.ref 375 } :: { hash := PyData.keyHash P (Str.ofString "one_end"), key := Value.str (Str.ofString "one_end") 715, val := Value.ref 382 } :: { hash := PyData.keyHash P (Str.ofString "plain_end"), key := Value.str (Str.ofString "plain_end") 724, val := Value.ref 389 } :: { hash := PyData.keyHash P (Str.ofString "LOST"), key := Value.str (Str.ofString "LOST") 728, val := Value.str (Str.ofString "lost") 727 } :: { hash := PyData.keyHash P (Str.ofString "match_plain"), key := Value.str (Str.ofString "match_plain") 740, val := Value.ref 396 } :: { hash := PyData.keyHash P (Str.ofString "match_at"), key := Value.str (Str.ofString "match_at") 751, val := Value.ref 403 } :: { hash := PyData.keyHash P (Str.ofString "tried"), key := Value.str (Str.ofString "tried") 766, val := Value.ref 410 } :: { hash := PyData.keyHash P (Str.ofString "advanced"), key := Value.str (Str.ofString "advanced") 782, val := Value.ref 417 } :: { hash := PyData.keyHash P (Str.ofString "led_in"), key := Value.str (Str.ofString "led_in") 794, val := Value.ref 424 } :: { hash := PyData.keyHash P (Str.ofString "led_out"), key := Value.str (Str.ofString "led_out") 810, val := Value.ref 431 } :: { hash := PyData.keyHash P (Str.ofString "steered"), key := Value.str (Str.ofString "steered") 822, val := Value.ref 438 } :: { hash := PyData.keyHash P (Str.ofString "taken"), key := Value.str (Str.ofString "taken") 839, val := Value.ref 445 } :: { hash := PyData.keyHash P (Str.ofString "_law_box"), key := Value.str (Str.ofString "_law_box") 847, val := Value.ref 450 } :: { hash := PyData.keyHash P (Str.ofString "_law_draw"), key := Value.str (Str.ofString "_law_draw") 855, val := Value.ref 457 } :: { hash := PyData.keyHash P (Str.ofString "_law_part"), key := Value.str (Str.ofString "_law_part") 866, val := Value.ref 464 } :: { hash := PyData.keyHash P (Str.ofString "_law_row"), key := Value.str (Str.ofString "_law_row") 872, val := Value.ref 469 } :: { hash := PyData.keyHash P (Str.ofString "_law_joined"), key := Value.str (Str.ofString "_law_joined") 881, val := Value.ref 476 } :: { hash := PyData.keyHash P (Str.ofString "_law_end"), key := Value.str (Str.ofString "_law_end") 893, val := Value.ref 483 } :: { hash := PyData.keyHash P (Str.ofString "_law_met"), key := Value.str (Str.ofString "_law_met") 908, val := Value.ref 490 } :: { hash := PyData.keyHash P (Str.ofString "_law_once"), key := Value.str (Str.ofString "_law_once") 925, val := Value.ref 497 } :: { hash := PyData.keyHash P (Str.ofString "_law_told"), key := Value.str (Str.ofString "_law_told") 934, val := Value.ref 504 } :: { hash := PyData.keyHash P (Str.ofString "law"), key := Value.str (Str.ofString "law") 940, val := Value.ref 509 } :: [])) 72 } : Obj)) ::
      (nat_lit 15, ({ cls := Value.type "tuple", data := Data.seq #[] } : Obj)) ::
      (nat_lit 17, ({ cls := Value.type "tuple", data := Data.seq #[Value.str (Str.ofString "found") 192, Value.str (Str.ofString "give") 193, Value.str (Str.ofString "ref") 194, Value.str (Str.ofString "text") 195] } : Obj)) ::
      (nat_lit 18, ({ cls := Value.type "tuple", data := Data.seq #[] } : Obj)) ::
      (nat_lit 20, ({ cls := Value.type "code", data := Data.fields #[Value.str (Str.ofString "give_names") 189, Value.str (Str.ofString "give_names") 190, Value.str (Str.ofString "/claim/cut.py") 191, Value.int 2 0, Value.int 2 0, Value.int 0 0, Value.int 0 0, Value.int 3 0, Value.ref 15, Value.bool true, Value.int 181 0, Value.ref 16, Value.none, Value.ref 17, Value.ref 18, Value.ref 19, Value.int 196 0, Value.int 2 0, Value.str (Str.ofString "/claim/cut.py") 197] } : Obj)) ::
      (nat_lit 21, ({ cls := Value.type "function", data := .func ?f21 } : Obj)) ::
      (nat_lit 22, ({ cls := Value.type "tuple", data := Data.seq #[] } : Obj)) ::
      (nat_lit 24, ({ cls := Value.type "tuple", data := Data.seq #[Value.str (Str.ofString "subject") 202, Value.str (Str.ofString "found") 203] } : Obj)) ::
      (nat_lit 25, ({ cls := Value.type "tuple", data := Data.seq #[] } : Obj)) ::
      (nat_lit 27, ({ cls := Value.type "code", data := Data.fields #[Value.str (Str.ofString "three_pieces") 199, Value.str (Str.ofString "three_pieces") 200, Value.str (Str.ofString "/claim/cut.py") 201, Value.int 5 0, Value.int 2 0, Value.int 0 0, Value.int 0 0, Value.int 3 0, Value.ref 22, Value.bool true, Value.int 181 0, Value.ref 23, Value.none, Value.ref 24, Value.ref 25, Value.ref 26, Value.int 204 0, Value.int 5 0, Value.str (Str.ofString "/claim/cut.py") 205] } : Obj)) ::
      (nat_lit 28, ({ cls := Value.type "function", data := .func ?f28 } : Obj)) ::
      (nat_lit 29, ({ cls := Value.type "tuple", data := Data.seq #[] } : Obj)) ::
      (nat_lit 31, ({ cls := Value.type "tuple", data := Data.seq #[Value.str (Str.ofString "subject") 210, Value.str (Str.ofString "found") 211, Value.str (Str.ofString "text") 212, Value.str (Str.ofString "ahead") 213, Value.str (Str.ofString "met") 214, Value.str (Str.ofString "behind") 215] } : Obj)) ::
      (nat_lit 32, ({ cls := Value.type "tuple", data := Data.seq #[] } : Obj)) ::
      (nat_lit 34, ({ cls := Value.type "code", data := Data.fields #[Value.str (Str.ofString "spliced") 207, Value.str (Str.ofString "spliced") 208, Value.str (Str.ofString "/claim/cut.py") 209, Value.int 7 0, Value.int 3 0, Value.int 0 0, Value.int 0 0, Value.int 3 0, Value.ref 29, Value.bool true, Value.int 181 0, Value.ref 30, Value.none, Value.ref 31, Value.ref 32, Value.ref 33, Value.int 216 0, Value.int 7 0, Value.str (Str.ofString "/claim/cut.py") 217] } : Obj)) ::
      (nat_lit 35, ({ cls := Value.type "function", data := .func ?f35 } : Obj)) ::
      (nat_lit 36, ({ cls := Value.type "tuple", data := Data.seq #[] } : Obj)) ::
      (nat_lit 38, ({ cls := Value.type "tuple", data := Data.seq #[Value.str (Str.ofString "matcher") 222, Value.str (Str.ofString "node") 223, Value.str (Str.ofString "subject") 224, Value.str (Str.ofString "is_anchored") 225, Value.str (Str.ofString "host") 226, Value.str (Str.ofString "text_of") 227, Value.str (Str.ofString "found") 228, Value.str (Str.ofString "text") 229] } : Obj)) ::
      (nat_lit 39, ({ cls := Value.type "tuple", data := Data.seq #[] } : Obj)) ::
      (nat_lit 41, ({ cls := Value.type "code", data := Data.fields #[Value.str (Str.ofString "replace_once") 219, Value.str (Str.ofString "replace_once") 220, Value.str (Str.ofString "/claim/cut.py") 221, Value.int 10 0, Value.int 6 0, Value.int 0 0, Value.int 0 0, Value.int 3 0, Value.ref 36, Value.bool true, Value.int 181 0, Value.ref 37, Value.none, Value.ref 38, Value.ref 39, Value.ref 40, Value.int 230 0, Value.int 10 0, Value.str (Str.ofString "/claim/cut.py") 231] } : Obj)) ::
      (nat_lit 42, ({ cls := Value.type "function", data := .func ?f42 } : Obj)) ::
      (nat_lit 43, ({ cls := Value.type "tuple", data := Data.seq #[] } : Obj)) ::
      (nat_lit 45, ({ cls := Value.type "tuple", data := Data.seq #[Value.str (Str.ofString "matcher") 236, Value.str (Str.ofString "node") 237, Value.str (Str.ofString "subject") 238, Value.str (Str.ofString "is_anchored") 239, Value.str (Str.ofString "host") 240, Value.str (Str.ofString "text_of") 241, Value.str (Str.ofString "most") 242, Value.str (Str.ofString "many") 243, Value.str (Str.ofString "later") 244] } : Obj)) ::
      (nat_lit 46, ({ cls := Value.type "tuple", data := Data.seq #[] } : Obj)) ::
      (nat_lit 48, ({ cls := Value.type "code", data := Data.fields #[Value.str (Str.ofString "replace_often") 233, Value.str (Str.ofString "replace_often") 234, Value.str (Str.ofString "/claim/cut.py") 235, Value.int 17 0, Value.int 7 0, Value.int 0 0, Value.int 0 0, Value.int 3 0, Value.ref 43, Value.bool true, Value.int 181 0, Value.ref 44, Value.none, Value.ref 45, Value.ref 46, Value.ref 47, Value.int 245 0, Value.int 17 0, Value.str (Str.ofString "/claim/cut.py") 246] } : Obj)) ::
      (nat_lit 49, ({ cls := Value.type "function", data := .func ?f49 } : Obj)) ::
      (nat_lit 50, ({ cls := Value.type "tuple", data := Data.seq #[Value.type "Exception"] } : Obj)) ::
      (nat_lit 53, ({ cls := Value.type "cell", data := Data.cell (some (Value.ref 69)) } : Obj)) ::
      (nat_lit 58, ({ cls := Value.type "tuple", data := Data.seq #[Value.str (Str.ofString "") 262] } : Obj)) ::
      (nat_lit 59, ({ cls := Value.type "tuple", data := Data.seq #[Value.ref 53] } : Obj)) ::
      (nat_lit 60, ({ cls := Value.type "tuple", data := Data.seq #[Value.str (Str.ofString "__class__") 266] } : Obj)) ::
      (nat_lit 62, ({ cls := Value.type "tuple", data := Data.seq #[Value.str (Str.ofString "self") 267, Value.str (Str.ofString "number") 268, Value.str (Str.ofString "told") 269] } : Obj)) ::
      (nat_lit 63, ({ cls := Value.type "tuple", data := Data.seq #[] } : Obj)) ::
      (nat_lit 65, ({ cls := Value.type "code", data := Data.fields #[Value.str (Str.ofString "__init__") 263, Value.str (Str.ofString "SnobolError.__init__") 264, Value.str (Str.ofString "/claim/cut.py") 265, Value.int 28 0, Value.int 3 0, Value.int 0 0, Value.int 0 0, Value.int 3 0, Value.ref 60, Value.bool true, Value.int 181 0, Value.ref 61, Value.none, Value.ref 62, Value.ref 63, Value.ref 64, Value.int 270 0, Value.int 28 0, Value.str (Str.ofString "/claim/cut.py") 271] } : Obj)) ::
      (nat_lit 66, ({ cls := Value.type "function", data := .func ?f66 } : Obj)) ::
      (nat_lit 67, ({ cls := Value.type "tuple", data := Data.seq #[Value.str (Str.ofString "number") 273, Value.str (Str.ofString "told") 274] } : Obj)) ::
      (nat_lit 68, ({ cls := Value.type "dict", data := Data.dict #[{ hash := PyData.keyHash P (Str.ofString "__module__"), key := Value.str (Str.ofString "__module__") 257, val := Value.str (Str.ofString "snobol.values") 248 }, { hash := PyData.keyHash P (Str.ofString "__firstlineno__"), key := Value.str (Str.ofString "__firstlineno__") 261, val := Value.int 26 260 }, { hash := PyData.keyHash P (Str.ofString "__init__"), key := Value.str (Str.ofString "__init__") 272, val := Value.ref 66 }, { hash := PyData.keyHash P (Str.ofString "__static_attributes__"), key := Value.str (Str.ofString "__static_attributes__") 275, val := Value.ref 67 }, { hash := PyData.keyHash P (Str.ofString "__weakref__"), key := Value.str (Str.ofString "__weakref__") 278, val := Value.ref 70 }, { hash := PyData.keyHash P (Str.ofString "__doc__"), key := Value.str (Str.ofString "__doc__") 279, val := Value.none }] 4 } : Obj)) ::
      (nat_lit 69, ({ cls := Value.type "type", data := Data.cls { name := Str.ofString "SnobolError", bases := [Value.type "Exception"], mro := [Value.ref 69, Value.type "Exception", Value.type "BaseException", Value.type "object"], ns := 68, qualname := Str.ofString "SnobolError" }, slots := #[some (Value.ref 50), none, some (Value.str (Str.ofString "SnobolError") 250), some (Value.str (Str.ofString "SnobolError") 258), some (Value.builtin "Exception.__new__"), some (Value.bool true)] } : Obj)) ::
      (nat_lit 70, ({ cls := Value.type "getset_descriptor", data := Data.fields #[Value.str (Str.ofString "__weakref__") 277, Value.ref 69, Value.builtin "ExceptionGroup.__weakref__", Value.none] } : Obj)) ::
      (nat_lit 80, ({ cls := Value.type "tuple", data := Data.seq #[] } : Obj)) ::
      (nat_lit 81, ({ cls := Value.type "dict", data := Data.dict #[{ hash := PyData.keyHash P (Str.ofString "__module__"), key := Value.str (Str.ofString "__module__") 291, val := Value.str (Str.ofString "snobol.values") 248 }, { hash := PyData.keyHash P (Str.ofString "__firstlineno__"), key := Value.str (Str.ofString "__firstlineno__") 295, val := Value.int 32 294 }, { hash := PyData.keyHash P (Str.ofString "__static_attributes__"), key := Value.str (Str.ofString "__static_attributes__") 296, val := Value.ref 80 }, { hash := PyData.keyHash P (Str.ofString "__dict__"), key := Value.str (Str.ofString "__dict__") 298, val := Value.ref 83 }, { hash := PyData.keyHash P (Str.ofString "__weakref__"), key := Value.str (Str.ofString "__weakref__") 300, val := Value.ref 84 }, { hash := PyData.keyHash P (Str.ofString "__doc__"), key := Value.str (Str.ofString "__doc__") 301, val := Value.none }] 4 } : Obj)) ::
      (nat_lit 82, ({ cls := Value.type "type", data := Data.cls { name := Str.ofString "Failure", bases := [Value.type "object"], mro := [Value.ref 82, Value.type "object"], ns := 81, qualname := Str.ofString "Failure" }, slots := #[none, none, some (Value.str (Str.ofString "Failure") 284), some (Value.str (Str.ofString "Failure") 292), some (Value.builtin "object.__new__"), some (Value.bool true)] } : Obj)) ::
      (nat_lit 83, ({ cls := Value.type "getset_descriptor", data := Data.fields #[Value.str (Str.ofString "__dict__") 297, Value.ref 82, Value.builtin "function.__dict__", Value.builtin "function.__dict__#set"] } : Obj)) ::
      (nat_lit 84, ({ cls := Value.type "getset_descriptor", data := Data.fields #[Value.str (Str.ofString "__weakref__") 299, Value.ref 82, Value.builtin "ExceptionGroup.__weakref__", Value.none] } : Obj)) ::
      (nat_lit 94, ({ cls := Value.type "tuple", data := Data.seq #[] } : Obj)) ::
      (nat_lit 96, ({ cls := Value.type "tuple", data := Data.seq #[Value.str (Str.ofString "self") 319, Value.str (Str.ofString "node") 320] } : Obj)) ::
      (nat_lit 97, ({ cls := Value.type "tuple", data := Data.seq #[] } : Obj)) ::
      (nat_lit 99, ({ cls := Value.type "code", data := Data.fields #[Value.str (Str.ofString "__init__") 316, Value.str (Str.ofString "Pattern.__init__") 317, Value.str (Str.ofString "/claim/cut.py") 318, Value.int 36 0, Value.int 2 0, Value.int 0 0, Value.int 0 0, Value.int 3 0, Value.ref 94, Value.bool true, Value.int 181 0, Value.ref 95, Value.none, Value.ref 96, Value.ref 97, Value.ref 98, Value.int 321 0, Value.int 36 0, Value.str (Str.ofString "/claim/cut.py") 322] } : Obj)) ::
      (nat_lit 100, ({ cls := Value.type "function", data := .func ?f100 } : Obj)) ::
      (nat_lit 101, ({ cls := Value.type "tuple", data := Data.seq #[Value.str (Str.ofString "node") 324] } : Obj)) ::
      (nat_lit 102, ({ cls := Value.type "dict", data := Data.dict #[{ hash := PyData.keyHash P (Str.ofString "__module__"), key := Value.str (Str.ofString "__module__") 311, val := Value.str (Str.ofString "snobol.values") 248 }, { hash := PyData.keyHash P (Str.ofString "__firstlineno__"), key := Value.str (Str.ofString "__firstlineno__") 315, val := Value.int 34 314 }, { hash := PyData.keyHash P (Str.ofString "__init__"), key := Value.str (Str.ofString "__init__") 323, val := Value.ref 100 }, { hash := PyData.keyHash P (Str.ofString "__static_attributes__"), key := Value.str (Str.ofString "__static_attributes__") 325, val := Value.ref 101 }, { hash := PyData.keyHash P (Str.ofString "__dict__"), key := Value.str (Str.ofString "__dict__") 327, val := Value.ref 104 }, { hash := PyData.keyHash P (Str.ofString "__weakref__"), key := Value.str (Str.ofString "__weakref__") 329, val := Value.ref 105 }, { hash := PyData.keyHash P (Str.ofString "__doc__"), key := Value.str (Str.ofString "__doc__") 330, val := Value.none }] 4 } : Obj)) ::
      (nat_lit 103, ({ cls := Value.type "type", data := Data.cls { name := Str.ofString "Pattern", bases := [Value.type "object"], mro := [Value.ref 103, Value.type "object"], ns := 102, qualname := Str.ofString "Pattern" }, slots := #[none, none, some (Value.str (Str.ofString "Pattern") 304), some (Value.str (Str.ofString "Pattern") 312), some (Value.builtin "object.__new__"), some (Value.bool true)] } : Obj)) ::
      (nat_lit 104, ({ cls := Value.type "getset_descriptor", data := Data.fields #[Value.str (Str.ofString "__dict__") 326, Value.ref 103, Value.builtin "function.__dict__", Value.builtin "function.__dict__#set"] } : Obj)) ::
      (nat_lit 105, ({ cls := Value.type "getset_descriptor", data := Data.fields #[Value.str (Str.ofString "__weakref__") 328, Value.ref 103, Value.builtin "ExceptionGroup.__weakref__", Value.none] } : Obj)) ::
      (nat_lit 115, ({ cls := Value.type "tuple", data := Data.seq #[] } : Obj)) ::
      (nat_lit 117, ({ cls := Value.type "tuple", data := Data.seq #[Value.str (Str.ofString "self") 348, Value.str (Str.ofString "tree") 349] } : Obj)) ::
      (nat_lit 118, ({ cls := Value.type "tuple", data := Data.seq #[] } : Obj)) ::
      (nat_lit 120, ({ cls := Value.type "code", data := Data.fields #[Value.str (Str.ofString "__init__") 345, Value.str (Str.ofString "Delayed.__init__") 346, Value.str (Str.ofString "/claim/cut.py") 347, Value.int 40 0, Value.int 2 0, Value.int 0 0, Value.int 0 0, Value.int 3 0, Value.ref 115, Value.bool true, Value.int 181 0, Value.ref 116, Value.none, Value.ref 117, Value.ref 118, Value.ref 119, Value.int 350 0, Value.int 40 0, Value.str (Str.ofString "/claim/cut.py") 351] } : Obj)) ::
      (nat_lit 121, ({ cls := Value.type "function", data := .func ?f121 } : Obj)) ::
      (nat_lit 122, ({ cls := Value.type "tuple", data := Data.seq #[Value.str (Str.ofString "tree") 353] } : Obj)) ::
      (nat_lit 123, ({ cls := Value.type "dict", data := Data.dict #[{ hash := PyData.keyHash P (Str.ofString "__module__"), key := Value.str (Str.ofString "__module__") 340, val := Value.str (Str.ofString "snobol.values") 248 }, { hash := PyData.keyHash P (Str.ofString "__firstlineno__"), key := Value.str (Str.ofString "__firstlineno__") 344, val := Value.int 38 343 }, { hash := PyData.keyHash P (Str.ofString "__init__"), key := Value.str (Str.ofString "__init__") 352, val := Value.ref 121 }, { hash := PyData.keyHash P (Str.ofString "__static_attributes__"), key := Value.str (Str.ofString "__static_attributes__") 354, val := Value.ref 122 }, { hash := PyData.keyHash P (Str.ofString "__dict__"), key := Value.str (Str.ofString "__dict__") 356, val := Value.ref 125 }, { hash := PyData.keyHash P (Str.ofString "__weakref__"), key := Value.str (Str.ofString "__weakref__") 358, val := Value.ref 126 }, { hash := PyData.keyHash P (Str.ofString "__doc__"), key := Value.str (Str.ofString "__doc__") 359, val := Value.none }] 4 } : Obj)) ::
      (nat_lit 124, ({ cls := Value.type "type", data := Data.cls { name := Str.ofString "Delayed", bases := [Value.type "object"], mro := [Value.ref 124, Value.type "object"], ns := 123, qualname := Str.ofString "Delayed" }, slots := #[none, none, some (Value.str (Str.ofString "Delayed") 333), some (Value.str (Str.ofString "Delayed") 341), some (Value.builtin "object.__new__"), some (Value.bool true)] } : Obj)) ::
      (nat_lit 125, ({ cls := Value.type "getset_descriptor", data := Data.fields #[Value.str (Str.ofString "__dict__") 355, Value.ref 124, Value.builtin "function.__dict__", Value.builtin "function.__dict__#set"] } : Obj)) ::
      (nat_lit 126, ({ cls := Value.type "getset_descriptor", data := Data.fields #[Value.str (Str.ofString "__weakref__") 357, Value.ref 124, Value.builtin "ExceptionGroup.__weakref__", Value.none] } : Obj)) ::
      (nat_lit 136, ({ cls := Value.type "tuple", data := Data.seq #[] } : Obj)) ::
      (nat_lit 138, ({ cls := Value.type "tuple", data := Data.seq #[Value.str (Str.ofString "self") 377, Value.str (Str.ofString "kind") 378, Value.str (Str.ofString "owner") 379, Value.str (Str.ofString "key") 380] } : Obj)) ::
      (nat_lit 139, ({ cls := Value.type "tuple", data := Data.seq #[] } : Obj)) ::
      (nat_lit 141, ({ cls := Value.type "code", data := Data.fields #[Value.str (Str.ofString "__init__") 374, Value.str (Str.ofString "NameRef.__init__") 375, Value.str (Str.ofString "/claim/cut.py") 376, Value.int 44 0, Value.int 4 0, Value.int 0 0, Value.int 0 0, Value.int 3 0, Value.ref 136, Value.bool true, Value.int 181 0, Value.ref 137, Value.none, Value.ref 138, Value.ref 139, Value.ref 140, Value.int 381 0, Value.int 44 0, Value.str (Str.ofString "/claim/cut.py") 382] } : Obj)) ::
      (nat_lit 142, ({ cls := Value.type "function", data := .func ?f142 } : Obj)) ::
      (nat_lit 143, ({ cls := Value.type "tuple", data := Data.seq #[Value.str (Str.ofString "key") 384, Value.str (Str.ofString "kind") 385, Value.str (Str.ofString "owner") 386] } : Obj)) ::
      (nat_lit 144, ({ cls := Value.type "dict", data := Data.dict #[{ hash := PyData.keyHash P (Str.ofString "__module__"), key := Value.str (Str.ofString "__module__") 369, val := Value.str (Str.ofString "snobol.values") 248 }, { hash := PyData.keyHash P (Str.ofString "__firstlineno__"), key := Value.str (Str.ofString "__firstlineno__") 373, val := Value.int 42 372 }, { hash := PyData.keyHash P (Str.ofString "__init__"), key := Value.str (Str.ofString "__init__") 383, val := Value.ref 142 }, { hash := PyData.keyHash P (Str.ofString "__static_attributes__"), key := Value.str (Str.ofString "__static_attributes__") 387, val := Value.ref 143 }, { hash := PyData.keyHash P (Str.ofString "__dict__"), key := Value.str (Str.ofString "__dict__") 389, val := Value.ref 146 }, { hash := PyData.keyHash P (Str.ofString "__weakref__"), key := Value.str (Str.ofString "__weakref__") 391, val := Value.ref 147 }, { hash := PyData.keyHash P (Str.ofString "__doc__"), key := Value.str (Str.ofString "__doc__") 392, val := Value.none }] 4 } : Obj)) ::
      (nat_lit 145, ({ cls := Value.type "type", data := Data.cls { name := Str.ofString "NameRef", bases := [Value.type "object"], mro := [Value.ref 145, Value.type "object"], ns := 144, qualname := Str.ofString "NameRef" }, slots := #[none, none, some (Value.str (Str.ofString "NameRef") 362), some (Value.str (Str.ofString "NameRef") 370), some (Value.builtin "object.__new__"), some (Value.bool true)] } : Obj)) ::
      (nat_lit 146, ({ cls := Value.type "getset_descriptor", data := Data.fields #[Value.str (Str.ofString "__dict__") 388, Value.ref 145, Value.builtin "function.__dict__", Value.builtin "function.__dict__#set"] } : Obj)) ::
      (nat_lit 147, ({ cls := Value.type "getset_descriptor", data := Data.fields #[Value.str (Str.ofString "__weakref__") 390, Value.ref 145, Value.builtin "ExceptionGroup.__weakref__", Value.none] } : Obj)) ::
      (nat_lit 150, ({ cls := Value.type "tuple", data := Data.seq #[] } : Obj)) ::
      (nat_lit 152, ({ cls := Value.type "tuple", data := Data.seq #[Value.str (Str.ofString "value") 398] } : Obj)) ::
      (nat_lit 153, ({ cls := Value.type "tuple", data := Data.seq #[] } : Obj)) ::
      (nat_lit 155, ({ cls := Value.type "code", data := Data.fields #[Value.str (Str.ofString "is_fail") 395, Value.str (Str.ofString "is_fail") 396, Value.str (Str.ofString "/claim/cut.py") 397, Value.int 48 0, Value.int 1 0, Value.int 0 0, Value.int 0 0, Value.int 3 0, Value.ref 150, Value.bool true, Value.int 181 0, Value.ref 151, Value.none, Value.ref 152, Value.ref 153, Value.ref 154, Value.int 399 0, Value.int 48 0, Value.str (Str.ofString "/claim/cut.py") 400] } : Obj)) ::
      (nat_lit 156, ({ cls := Value.type "function", data := .func ?f156 } : Obj)) ::
      (nat_lit 157, ({ cls := Value.type "tuple", data := Data.seq #[] } : Obj)) ::
      (nat_lit 159, ({ cls := Value.type "tuple", data := Data.seq #[Value.str (Str.ofString "number") 405, Value.str (Str.ofString "width") 406] } : Obj)) ::
      (nat_lit 160, ({ cls := Value.type "tuple", data := Data.seq #[] } : Obj)) ::
      (nat_lit 162, ({ cls := Value.type "code", data := Data.fields #[Value.str (Str.ofString "fits") 402, Value.str (Str.ofString "fits") 403, Value.str (Str.ofString "/claim/cut.py") 404, Value.int 50 0, Value.int 2 0, Value.int 0 0, Value.int 0 0, Value.int 3 0, Value.ref 157, Value.bool true, Value.int 181 0, Value.ref 158, Value.none, Value.ref 159, Value.ref 160, Value.ref 161, Value.int 407 0, Value.int 50 0, Value.str (Str.ofString "/claim/cut.py") 408] } : Obj)) ::
      (nat_lit 163, ({ cls := Value.type "function", data := .func ?f163 } : Obj)) ::
      (nat_lit 164, ({ cls := Value.type "tuple", data := Data.seq #[] } : Obj)) ::
      (nat_lit 166, ({ cls := Value.type "tuple", data := Data.seq #[Value.str (Str.ofString "text") 413, Value.str (Str.ofString "width") 414, Value.str (Str.ofString "digits") 415, Value.str (Str.ofString "number") 416, Value.str (Str.ofString "sign") 417] } : Obj)) ::
      (nat_lit 167, ({ cls := Value.type "tuple", data := Data.seq #[] } : Obj)) ::
      (nat_lit 169, ({ cls := Value.type "code", data := Data.fields #[Value.str (Str.ofString "whole_of_text") 410, Value.str (Str.ofString "whole_of_text") 411, Value.str (Str.ofString "/claim/cut.py") 412, Value.int 52 0, Value.int 2 0, Value.int 0 0, Value.int 0 0, Value.int 3 0, Value.ref 164, Value.bool true, Value.int 181 0, Value.ref 165, Value.none, Value.ref 166, Value.ref 167, Value.ref 168, Value.int 418 0, Value.int 52 0, Value.str (Str.ofString "/claim/cut.py") 419] } : Obj)) ::
      (nat_lit 170, ({ cls := Value.type "function", data := .func ?f170 } : Obj)) ::
      (nat_lit 171, ({ cls := Value.type "tuple", data := Data.seq #[] } : Obj)) ::
      (nat_lit 173, ({ cls := Value.type "tuple", data := Data.seq #[Value.str (Str.ofString "number") 424, Value.str (Str.ofString "left") 425, Value.str (Str.ofString "found") 426] } : Obj)) ::
      (nat_lit 174, ({ cls := Value.type "tuple", data := Data.seq #[] } : Obj)) ::
      (nat_lit 176, ({ cls := Value.type "code", data := Data.fields #[Value.str (Str.ofString "text_of_whole") 421, Value.str (Str.ofString "text_of_whole") 422, Value.str (Str.ofString "/claim/cut.py") 423, Value.int 65 0, Value.int 1 0, Value.int 0 0, Value.int 0 0, Value.int 3 0, Value.ref 171, Value.bool true, Value.int 181 0, Value.ref 172, Value.none, Value.ref 173, Value.ref 174, Value.ref 175, Value.int 427 0, Value.int 65 0, Value.str (Str.ofString "/claim/cut.py") 428] } : Obj)) ::
      (nat_lit 177, ({ cls := Value.type "function", data := .func ?f177 } : Obj)) ::
      (nat_lit 178, ({ cls := Value.type "tuple", data := Data.seq #[] } : Obj)) ::
      (nat_lit 180, ({ cls := Value.type "tuple", data := Data.seq #[Value.str (Str.ofString "value") 433, Value.str (Str.ofString "width") 434] } : Obj)) ::
      (nat_lit 181, ({ cls := Value.type "tuple", data := Data.seq #[] } : Obj)) ::
      (nat_lit 183, ({ cls := Value.type "code", data := Data.fields #[Value.str (Str.ofString "to_whole") 430, Value.str (Str.ofString "to_whole") 431, Value.str (Str.ofString "/claim/cut.py") 432, Value.int 71 0, Value.int 2 0, Value.int 0 0, Value.int 0 0, Value.int 3 0, Value.ref 178, Value.bool true, Value.int 181 0, Value.ref 179, Value.none, Value.ref 180, Value.ref 181, Value.ref 182, Value.int 435 0, Value.int 71 0, Value.str (Str.ofString "/claim/cut.py") 436] } : Obj)) ::
      (nat_lit 184, ({ cls := Value.type "function", data := .func ?f184 } : Obj)) ::
      (nat_lit 185, ({ cls := Value.type "tuple", data := Data.seq #[] } : Obj)) ::
      (nat_lit 187, ({ cls := Value.type "tuple", data := Data.seq #[Value.str (Str.ofString "value") 441] } : Obj)) ::
      (nat_lit 188, ({ cls := Value.type "tuple", data := Data.seq #[] } : Obj)) ::
      (nat_lit 190, ({ cls := Value.type "code", data := Data.fields #[Value.str (Str.ofString "to_text") 438, Value.str (Str.ofString "to_text") 439, Value.str (Str.ofString "/claim/cut.py") 440, Value.int 75 0, Value.int 1 0, Value.int 0 0, Value.int 0 0, Value.int 3 0, Value.ref 185, Value.bool true, Value.int 181 0, Value.ref 186, Value.none, Value.ref 187, Value.ref 188, Value.ref 189, Value.int 442 0, Value.int 75 0, Value.str (Str.ofString "/claim/cut.py") 443] } : Obj)) ::
      (nat_lit 191, ({ cls := Value.type "function", data := .func ?f191 } : Obj)) ::
      (nat_lit 192, ({ cls := Value.type "tuple", data := Data.seq #[] } : Obj)) ::
      (nat_lit 194, ({ cls := Value.type "tuple", data := Data.seq #[Value.str (Str.ofString "value") 448, Value.str (Str.ofString "text") 449] } : Obj)) ::
      (nat_lit 195, ({ cls := Value.type "tuple", data := Data.seq #[] } : Obj)) ::
      (nat_lit 197, ({ cls := Value.type "code", data := Data.fields #[Value.str (Str.ofString "need_text") 445, Value.str (Str.ofString "need_text") 446, Value.str (Str.ofString "/claim/cut.py") 447, Value.int 79 0, Value.int 1 0, Value.int 0 0, Value.int 0 0, Value.int 3 0, Value.ref 192, Value.bool true, Value.int 181 0, Value.ref 193, Value.none, Value.ref 194, Value.ref 195, Value.ref 196, Value.int 450 0, Value.int 79 0, Value.str (Str.ofString "/claim/cut.py") 451] } : Obj)) ::
      (nat_lit 198, ({ cls := Value.type "function", data := .func ?f198 } : Obj)) ::
      (nat_lit 206, ({ cls := Value.type "tuple", data := Data.seq #[] } : Obj)) ::
      (nat_lit 208, ({ cls := Value.type "tuple", data := Data.seq #[Value.str (Str.ofString "self") 470, Value.str (Str.ofString "values") 471, Value.str (Str.ofString "limit") 472, Value.str (Str.ofString "refused") 473] } : Obj)) ::
      (nat_lit 209, ({ cls := Value.type "tuple", data := Data.seq #[] } : Obj)) ::
      (nat_lit 211, ({ cls := Value.type "code", data := Data.fields #[Value.str (Str.ofString "__init__") 467, Value.str (Str.ofString "PlainHost.__init__") 468, Value.str (Str.ofString "/claim/cut.py") 469, Value.int 87 0, Value.int 4 0, Value.int 0 0, Value.int 0 0, Value.int 3 0, Value.ref 206, Value.bool true, Value.int 181 0, Value.ref 207, Value.none, Value.ref 208, Value.ref 209, Value.ref 210, Value.int 474 0, Value.int 87 0, Value.str (Str.ofString "/claim/cut.py") 475] } : Obj)) ::
      (nat_lit 212, ({ cls := Value.type "function", data := .func ?f212 } : Obj)) ::
      (nat_lit 213, ({ cls := Value.type "tuple", data := Data.seq #[] } : Obj)) ::
      (nat_lit 215, ({ cls := Value.type "tuple", data := Data.seq #[Value.str (Str.ofString "self") 480, Value.str (Str.ofString "tree") 481] } : Obj)) ::
      (nat_lit 216, ({ cls := Value.type "tuple", data := Data.seq #[] } : Obj)) ::
      (nat_lit 218, ({ cls := Value.type "code", data := Data.fields #[Value.str (Str.ofString "value_of") 477, Value.str (Str.ofString "PlainHost.value_of") 478, Value.str (Str.ofString "/claim/cut.py") 479, Value.int 94 0, Value.int 2 0, Value.int 0 0, Value.int 0 0, Value.int 3 0, Value.ref 213, Value.bool true, Value.int 181 0, Value.ref 214, Value.none, Value.ref 215, Value.ref 216, Value.ref 217, Value.int 482 0, Value.int 94 0, Value.str (Str.ofString "/claim/cut.py") 483] } : Obj)) ::
      (nat_lit 219, ({ cls := Value.type "function", data := .func ?f219 } : Obj)) ::
      (nat_lit 220, ({ cls := Value.type "tuple", data := Data.seq #[] } : Obj)) ::
      (nat_lit 222, ({ cls := Value.type "tuple", data := Data.seq #[Value.str (Str.ofString "self") 488, Value.str (Str.ofString "ref") 489, Value.str (Str.ofString "value") 490] } : Obj)) ::
      (nat_lit 223, ({ cls := Value.type "tuple", data := Data.seq #[] } : Obj)) ::
      (nat_lit 225, ({ cls := Value.type "code", data := Data.fields #[Value.str (Str.ofString "assign") 485, Value.str (Str.ofString "PlainHost.assign") 486, Value.str (Str.ofString "/claim/cut.py") 487, Value.int 99 0, Value.int 3 0, Value.int 0 0, Value.int 0 0, Value.int 3 0, Value.ref 220, Value.bool true, Value.int 181 0, Value.ref 221, Value.none, Value.ref 222, Value.ref 223, Value.ref 224, Value.int 491 0, Value.int 99 0, Value.str (Str.ofString "/claim/cut.py") 492] } : Obj)) ::
      (nat_lit 226, ({ cls := Value.type "function", data := .func ?f226 } : Obj)) ::
      (nat_lit 227, ({ cls := Value.type "tuple", data := Data.seq #[] } : Obj)) ::
      (nat_lit 229, ({ cls := Value.type "tuple", data := Data.seq #[Value.str (Str.ofString "self") 497] } : Obj)) ::
      (nat_lit 230, ({ cls := Value.type "tuple", data := Data.seq #[] } : Obj)) ::
      (nat_lit 232, ({ cls := Value.type "code", data := Data.fields #[Value.str (Str.ofString "step") 494, Value.str (Str.ofString "PlainHost.step") 495, Value.str (Str.ofString "/claim/cut.py") 496, Value.int 106 0, Value.int 1 0, Value.int 0 0, Value.int 0 0, Value.int 3 0, Value.ref 227, Value.bool true, Value.int 181 0, Value.ref 228, Value.none, Value.ref 229, Value.ref 230, Value.ref 231, Value.int 498 0, Value.int 106 0, Value.str (Str.ofString "/claim/cut.py") 499] } : Obj)) ::
      (nat_lit 233, ({ cls := Value.type "function", data := .func ?f233 } : Obj)) ::
      (nat_lit 234, ({ cls := Value.type "tuple", data := Data.seq #[Value.str (Str.ofString "limit") 501, Value.str (Str.ofString "log") 502, Value.str (Str.ofString "refused") 503, Value.str (Str.ofString "steps") 504, Value.str (Str.ofString "values") 505] } : Obj)) ::
      (nat_lit 235, ({ cls := Value.type "dict", data := Data.dict #[{ hash := PyData.keyHash P (Str.ofString "__module__"), key := Value.str (Str.ofString "__module__") 462, val := Value.str (Str.ofString "snobol.hosts") 453 }, { hash := PyData.keyHash P (Str.ofString "__firstlineno__"), key := Value.str (Str.ofString "__firstlineno__") 466, val := Value.int 85 465 }, { hash := PyData.keyHash P (Str.ofString "__init__"), key := Value.str (Str.ofString "__init__") 476, val := Value.ref 212 }, { hash := PyData.keyHash P (Str.ofString "value_of"), key := Value.str (Str.ofString "value_of") 484, val := Value.ref 219 }, { hash := PyData.keyHash P (Str.ofString "assign"), key := Value.str (Str.ofString "assign") 493, val := Value.ref 226 }, { hash := PyData.keyHash P (Str.ofString "step"), key := Value.str (Str.ofString "step") 500, val := Value.ref 233 }, { hash := PyData.keyHash P (Str.ofString "__static_attributes__"), key := Value.str (Str.ofString "__static_attributes__") 506, val := Value.ref 234 }, { hash := PyData.keyHash P (Str.ofString "__dict__"), key := Value.str (Str.ofString "__dict__") 508, val := Value.ref 237 }, { hash := PyData.keyHash P (Str.ofString "__weakref__"), key := Value.str (Str.ofString "__weakref__") 510, val := Value.ref 238 }, { hash := PyData.keyHash P (Str.ofString "__doc__"), key := Value.str (Str.ofString "__doc__") 511, val := Value.none }] 4 } : Obj)) ::
      (nat_lit 236, ({ cls := Value.type "type", data := Data.cls { name := Str.ofString "PlainHost", bases := [Value.type "object"], mro := [Value.ref 236, Value.type "object"], ns := 235, qualname := Str.ofString "PlainHost" }, slots := #[none, none, some (Value.str (Str.ofString "PlainHost") 455), some (Value.str (Str.ofString "PlainHost") 463), some (Value.builtin "object.__new__"), some (Value.bool true)] } : Obj)) ::
      (nat_lit 237, ({ cls := Value.type "getset_descriptor", data := Data.fields #[Value.str (Str.ofString "__dict__") 507, Value.ref 236, Value.builtin "function.__dict__", Value.builtin "function.__dict__#set"] } : Obj)) ::
      (nat_lit 238, ({ cls := Value.type "getset_descriptor", data := Data.fields #[Value.str (Str.ofString "__weakref__") 509, Value.ref 236, Value.builtin "ExceptionGroup.__weakref__", Value.none] } : Obj)) ::
      (nat_lit 241, ({ cls := Value.type "tuple", data := Data.seq #[Value.str (Str.ofString "len") 516, Value.str (Str.ofString "pos") 517, Value.str (Str.ofString "rpos") 518, Value.str (Str.ofString "tab") 519, Value.str (Str.ofString "rtab") 520] } : Obj)) ::
      (nat_lit 242, ({ cls := Value.type "tuple", data := Data.seq #[Value.str (Str.ofString "any") 522, Value.str (Str.ofString "notany") 523, Value.str (Str.ofString "span") 524, Value.str (Str.ofString "break") 525] } : Obj)) ::
      (nat_lit 243, ({ cls := Value.type "tuple", data := Data.seq #[] } : Obj)) ::
      (nat_lit 245, ({ cls := Value.type "tuple", data := Data.seq #[Value.str (Str.ofString "value") 532, Value.str (Str.ofString "kind") 533, Value.str (Str.ofString "count") 534] } : Obj)) ::
      (nat_lit 246, ({ cls := Value.type "tuple", data := Data.seq #[] } : Obj)) ::
      (nat_lit 248, ({ cls := Value.type "code", data := Data.fields #[Value.str (Str.ofString "plain_count") 529, Value.str (Str.ofString "plain_count") 530, Value.str (Str.ofString "/claim/cut.py") 531, Value.int 114 0, Value.int 2 0, Value.int 0 0, Value.int 0 0, Value.int 3 0, Value.ref 243, Value.bool true, Value.int 181 0, Value.ref 244, Value.none, Value.ref 245, Value.ref 246, Value.ref 247, Value.int 535 0, Value.int 114 0, Value.str (Str.ofString "/claim/cut.py") 536] } : Obj)) ::
      (nat_lit 249, ({ cls := Value.type "function", data := .func ?f249 } : Obj)) ::
      (nat_lit 250, ({ cls := Value.type "tuple", data := Data.seq #[] } : Obj)) ::
      (nat_lit 252, ({ cls := Value.type "tuple", data := Data.seq #[Value.str (Str.ofString "value") 541, Value.str (Str.ofString "kind") 542, Value.str (Str.ofString "text") 543] } : Obj)) ::
      (nat_lit 253, ({ cls := Value.type "tuple", data := Data.seq #[] } : Obj)) ::
      (nat_lit 255, ({ cls := Value.type "code", data := Data.fields #[Value.str (Str.ofString "plain_signs") 538, Value.str (Str.ofString "plain_signs") 539, Value.str (Str.ofString "/claim/cut.py") 540, Value.int 121 0, Value.int 2 0, Value.int 0 0, Value.int 0 0, Value.int 3 0, Value.ref 250, Value.bool true, Value.int 181 0, Value.ref 251, Value.none, Value.ref 252, Value.ref 253, Value.ref 254, Value.int 544 0, Value.int 121 0, Value.str (Str.ofString "/claim/cut.py") 545] } : Obj)) ::
      (nat_lit 256, ({ cls := Value.type "function", data := .func ?f256 } : Obj)) ::
      (nat_lit 257, ({ cls := Value.type "tuple", data := Data.seq #[] } : Obj)) ::
      (nat_lit 259, ({ cls := Value.type "tuple", data := Data.seq #[Value.str (Str.ofString "value") 550, Value.str (Str.ofString "text") 551] } : Obj)) ::
      (nat_lit 260, ({ cls := Value.type "tuple", data := Data.seq #[] } : Obj)) ::
      (nat_lit 262, ({ cls := Value.type "code", data := Data.fields #[Value.str (Str.ofString "pattern_of") 547, Value.str (Str.ofString "pattern_of") 548, Value.str (Str.ofString "/claim/cut.py") 549, Value.int 126 0, Value.int 1 0, Value.int 0 0, Value.int 0 0, Value.int 3 0, Value.ref 257, Value.bool true, Value.int 181 0, Value.ref 258, Value.none, Value.ref 259, Value.ref 260, Value.ref 261, Value.int 552 0, Value.int 126 0, Value.str (Str.ofString "/claim/cut.py") 553] } : Obj)) ::
      (nat_lit 263, ({ cls := Value.type "function", data := .func ?f263 } : Obj)) ::
      (nat_lit 264, ({ cls := Value.type "tuple", data := Data.seq #[] } : Obj)) ::
      (nat_lit 266, ({ cls := Value.type "tuple", data := Data.seq #[Value.str (Str.ofString "told") 558] } : Obj)) ::
      (nat_lit 267, ({ cls := Value.type "tuple", data := Data.seq #[] } : Obj)) ::
      (nat_lit 269, ({ cls := Value.type "code", data := Data.fields #[Value.str (Str.ofString "is_delayed") 555, Value.str (Str.ofString "is_delayed") 556, Value.str (Str.ofString "/claim/cut.py") 557, Value.int 135 0, Value.int 1 0, Value.int 0 0, Value.int 0 0, Value.int 3 0, Value.ref 264, Value.bool true, Value.int 181 0, Value.ref 265, Value.none, Value.ref 266, Value.ref 267, Value.ref 268, Value.int 559 0, Value.int 135 0, Value.str (Str.ofString "/claim/cut.py") 560] } : Obj)) ::
      (nat_lit 270, ({ cls := Value.type "function", data := .func ?f270 } : Obj)) ::
      (nat_lit 271, ({ cls := Value.type "tuple", data := Data.seq #[] } : Obj)) ::
      (nat_lit 273, ({ cls := Value.type "tuple", data := Data.seq #[Value.str (Str.ofString "node") 565, Value.str (Str.ofString "host") 566, Value.str (Str.ofString "value") 567] } : Obj)) ::
      (nat_lit 274, ({ cls := Value.type "tuple", data := Data.seq #[] } : Obj)) ::
      (nat_lit 276, ({ cls := Value.type "code", data := Data.fields #[Value.str (Str.ofString "settled") 562, Value.str (Str.ofString "settled") 563, Value.str (Str.ofString "/claim/cut.py") 564, Value.int 137 0, Value.int 2 0, Value.int 0 0, Value.int 0 0, Value.int 3 0, Value.ref 271, Value.bool true, Value.int 181 0, Value.ref 272, Value.none, Value.ref 273, Value.ref 274, Value.ref 275, Value.int 568 0, Value.int 137 0, Value.str (Str.ofString "/claim/cut.py") 569] } : Obj)) ::
      (nat_lit 277, ({ cls := Value.type "function", data := .func ?f277 } : Obj)) ::
      (nat_lit 278, ({ cls := Value.type "tuple", data := Data.seq #[] } : Obj)) ::
      (nat_lit 280, ({ cls := Value.type "tuple", data := Data.seq #[Value.str (Str.ofString "subject") 580, Value.str (Str.ofString "at") 581, Value.str (Str.ofString "text") 582, Value.str (Str.ofString "end") 583] } : Obj)) ::
      (nat_lit 281, ({ cls := Value.type "tuple", data := Data.seq #[] } : Obj)) ::
      (nat_lit 283, ({ cls := Value.type "code", data := Data.fields #[Value.str (Str.ofString "chars_end") 577, Value.str (Str.ofString "chars_end") 578, Value.str (Str.ofString "/claim/cut.py") 579, Value.int 149 0, Value.int 3 0, Value.int 0 0, Value.int 0 0, Value.int 3 0, Value.ref 278, Value.bool true, Value.int 181 0, Value.ref 279, Value.none, Value.ref 280, Value.ref 281, Value.ref 282, Value.int 584 0, Value.int 149 0, Value.str (Str.ofString "/claim/cut.py") 585] } : Obj)) ::
      (nat_lit 284, ({ cls := Value.type "function", data := .func ?f284 } : Obj)) ::
      (nat_lit 285, ({ cls := Value.type "tuple", data := Data.seq #[] } : Obj)) ::
      (nat_lit 287, ({ cls := Value.type "tuple", data := Data.seq #[Value.str (Str.ofString "subject") 590, Value.str (Str.ofString "at") 591, Value.str (Str.ofString "many") 592] } : Obj)) ::
      (nat_lit 288, ({ cls := Value.type "tuple", data := Data.seq #[] } : Obj)) ::
      (nat_lit 290, ({ cls := Value.type "code", data := Data.fields #[Value.str (Str.ofString "len_end") 587, Value.str (Str.ofString "len_end") 588, Value.str (Str.ofString "/claim/cut.py") 589, Value.int 152 0, Value.int 3 0, Value.int 0 0, Value.int 0 0, Value.int 3 0, Value.ref 285, Value.bool true, Value.int 181 0, Value.ref 286, Value.none, Value.ref 287, Value.ref 288, Value.ref 289, Value.int 593 0, Value.int 152 0, Value.str (Str.ofString "/claim/cut.py") 594] } : Obj)) ::
      (nat_lit 291, ({ cls := Value.type "function", data := .func ?f291 } : Obj)) ::
      (nat_lit 292, ({ cls := Value.type "tuple", data := Data.seq #[] } : Obj)) ::
      (nat_lit 294, ({ cls := Value.type "tuple", data := Data.seq #[Value.str (Str.ofString "at") 599, Value.str (Str.ofString "place") 600] } : Obj)) ::
      (nat_lit 295, ({ cls := Value.type "tuple", data := Data.seq #[] } : Obj)) ::
      (nat_lit 297, ({ cls := Value.type "code", data := Data.fields #[Value.str (Str.ofString "pos_end") 596, Value.str (Str.ofString "pos_end") 597, Value.str (Str.ofString "/claim/cut.py") 598, Value.int 154 0, Value.int 2 0, Value.int 0 0, Value.int 0 0, Value.int 3 0, Value.ref 292, Value.bool true, Value.int 181 0, Value.ref 293, Value.none, Value.ref 294, Value.ref 295, Value.ref 296, Value.int 601 0, Value.int 154 0, Value.str (Str.ofString "/claim/cut.py") 602] } : Obj)) ::
      (nat_lit 298, ({ cls := Value.type "function", data := .func ?f298 } : Obj)) ::
      (nat_lit 299, ({ cls := Value.type "tuple", data := Data.seq #[] } : Obj)) ::
      (nat_lit 301, ({ cls := Value.type "tuple", data := Data.seq #[Value.str (Str.ofString "subject") 607, Value.str (Str.ofString "at") 608, Value.str (Str.ofString "place") 609] } : Obj)) ::
      (nat_lit 302, ({ cls := Value.type "tuple", data := Data.seq #[] } : Obj)) ::
      (nat_lit 304, ({ cls := Value.type "code", data := Data.fields #[Value.str (Str.ofString "rpos_end") 604, Value.str (Str.ofString "rpos_end") 605, Value.str (Str.ofString "/claim/cut.py") 606, Value.int 156 0, Value.int 3 0, Value.int 0 0, Value.int 0 0, Value.int 3 0, Value.ref 299, Value.bool true, Value.int 181 0, Value.ref 300, Value.none, Value.ref 301, Value.ref 302, Value.ref 303, Value.int 610 0, Value.int 156 0, Value.str (Str.ofString "/claim/cut.py") 611] } : Obj)) ::
      (nat_lit 305, ({ cls := Value.type "function", data := .func ?f305 } : Obj)) ::
      (nat_lit 306, ({ cls := Value.type "tuple", data := Data.seq #[] } : Obj)) ::
      (nat_lit 308, ({ cls := Value.type "tuple", data := Data.seq #[Value.str (Str.ofString "subject") 616, Value.str (Str.ofString "at") 617, Value.str (Str.ofString "place") 618] } : Obj)) ::
      (nat_lit 309, ({ cls := Value.type "tuple", data := Data.seq #[] } : Obj)) ::
      (nat_lit 311, ({ cls := Value.type "code", data := Data.fields #[Value.str (Str.ofString "tab_end") 613, Value.str (Str.ofString "tab_end") 614, Value.str (Str.ofString "/claim/cut.py") 615, Value.int 158 0, Value.int 3 0, Value.int 0 0, Value.int 0 0, Value.int 3 0, Value.ref 306, Value.bool true, Value.int 181 0, Value.ref 307, Value.none, Value.ref 308, Value.ref 309, Value.ref 310, Value.int 619 0, Value.int 158 0, Value.str (Str.ofString "/claim/cut.py") 620] } : Obj)) ::
      (nat_lit 312, ({ cls := Value.type "function", data := .func ?f312 } : Obj)) ::
      (nat_lit 313, ({ cls := Value.type "tuple", data := Data.seq #[] } : Obj)) ::
      (nat_lit 315, ({ cls := Value.type "tuple", data := Data.seq #[Value.str (Str.ofString "subject") 625, Value.str (Str.ofString "at") 626, Value.str (Str.ofString "place") 627, Value.str (Str.ofString "goal") 628] } : Obj)) ::
      (nat_lit 316, ({ cls := Value.type "tuple", data := Data.seq #[] } : Obj)) ::
      (nat_lit 318, ({ cls := Value.type "code", data := Data.fields #[Value.str (Str.ofString "rtab_end") 622, Value.str (Str.ofString "rtab_end") 623, Value.str (Str.ofString "/claim/cut.py") 624, Value.int 160 0, Value.int 3 0, Value.int 0 0, Value.int 0 0, Value.int 3 0, Value.ref 313, Value.bool true, Value.int 181 0, Value.ref 314, Value.none, Value.ref 315, Value.ref 316, Value.ref 317, Value.int 629 0, Value.int 160 0, Value.str (Str.ofString "/claim/cut.py") 630] } : Obj)) ::
      (nat_lit 319, ({ cls := Value.type "function", data := .func ?f319 } : Obj)) ::
      (nat_lit 320, ({ cls := Value.type "tuple", data := Data.seq #[] } : Obj)) ::
      (nat_lit 322, ({ cls := Value.type "tuple", data := Data.seq #[Value.str (Str.ofString "subject") 635] } : Obj)) ::
      (nat_lit 323, ({ cls := Value.type "tuple", data := Data.seq #[] } : Obj)) ::
      (nat_lit 325, ({ cls := Value.type "code", data := Data.fields #[Value.str (Str.ofString "rem_end") 632, Value.str (Str.ofString "rem_end") 633, Value.str (Str.ofString "/claim/cut.py") 634, Value.int 163 0, Value.int 1 0, Value.int 0 0, Value.int 0 0, Value.int 3 0, Value.ref 320, Value.bool true, Value.int 181 0, Value.ref 321, Value.none, Value.ref 322, Value.ref 323, Value.ref 324, Value.int 636 0, Value.int 163 0, Value.str (Str.ofString "/claim/cut.py") 637] } : Obj)) ::
      (nat_lit 326, ({ cls := Value.type "function", data := .func ?f326 } : Obj)) ::
      (nat_lit 327, ({ cls := Value.type "tuple", data := Data.seq #[] } : Obj)) ::
      (nat_lit 329, ({ cls := Value.type "tuple", data := Data.seq #[Value.str (Str.ofString "subject") 642, Value.str (Str.ofString "at") 643, Value.str (Str.ofString "signs") 644] } : Obj)) ::
      (nat_lit 330, ({ cls := Value.type "tuple", data := Data.seq #[] } : Obj)) ::
      (nat_lit 332, ({ cls := Value.type "code", data := Data.fields #[Value.str (Str.ofString "any_at") 639, Value.str (Str.ofString "any_at") 640, Value.str (Str.ofString "/claim/cut.py") 641, Value.int 165 0, Value.int 3 0, Value.int 0 0, Value.int 0 0, Value.int 3 0, Value.ref 327, Value.bool true, Value.int 181 0, Value.ref 328, Value.none, Value.ref 329, Value.ref 330, Value.ref 331, Value.int 645 0, Value.int 165 0, Value.str (Str.ofString "/claim/cut.py") 646] } : Obj)) ::
      (nat_lit 333, ({ cls := Value.type "function", data := .func ?f333 } : Obj)) ::
      (nat_lit 334, ({ cls := Value.type "tuple", data := Data.seq #[] } : Obj)) ::
      (nat_lit 336, ({ cls := Value.type "tuple", data := Data.seq #[Value.str (Str.ofString "subject") 651, Value.str (Str.ofString "at") 652, Value.str (Str.ofString "signs") 653] } : Obj)) ::
      (nat_lit 337, ({ cls := Value.type "tuple", data := Data.seq #[] } : Obj)) ::
      (nat_lit 339, ({ cls := Value.type "code", data := Data.fields #[Value.str (Str.ofString "notany_at") 648, Value.str (Str.ofString "notany_at") 649, Value.str (Str.ofString "/claim/cut.py") 650, Value.int 167 0, Value.int 3 0, Value.int 0 0, Value.int 0 0, Value.int 3 0, Value.ref 334, Value.bool true, Value.int 181 0, Value.ref 335, Value.none, Value.ref 336, Value.ref 337, Value.ref 338, Value.int 654 0, Value.int 167 0, Value.str (Str.ofString "/claim/cut.py") 655] } : Obj)) ::
      (nat_lit 340, ({ cls := Value.type "function", data := .func ?f340 } : Obj)) ::
      (nat_lit 341, ({ cls := Value.type "tuple", data := Data.seq #[] } : Obj)) ::
      (nat_lit 343, ({ cls := Value.type "tuple", data := Data.seq #[Value.str (Str.ofString "subject") 660, Value.str (Str.ofString "at") 661, Value.str (Str.ofString "signs") 662, Value.str (Str.ofString "is_in") 663] } : Obj)) ::
      (nat_lit 344, ({ cls := Value.type "tuple", data := Data.seq #[] } : Obj)) ::
      (nat_lit 346, ({ cls := Value.type "code", data := Data.fields #[Value.str (Str.ofString "run_end") 657, Value.str (Str.ofString "run_end") 658, Value.str (Str.ofString "/claim/cut.py") 659, Value.int 169 0, Value.int 4 0, Value.int 0 0, Value.int 0 0, Value.int 3 0, Value.ref 341, Value.bool true, Value.int 181 0, Value.ref 342, Value.none, Value.ref 343, Value.ref 344, Value.ref 345, Value.int 664 0, Value.int 169 0, Value.str (Str.ofString "/claim/cut.py") 665] } : Obj)) ::
      (nat_lit 347, ({ cls := Value.type "function", data := .func ?f347 } : Obj)) ::
      (nat_lit 348, ({ cls := Value.type "tuple", data := Data.seq #[] } : Obj)) ::
      (nat_lit 350, ({ cls := Value.type "tuple", data := Data.seq #[Value.str (Str.ofString "subject") 670, Value.str (Str.ofString "at") 671, Value.str (Str.ofString "signs") 672, Value.str (Str.ofString "end") 673] } : Obj)) ::
      (nat_lit 351, ({ cls := Value.type "tuple", data := Data.seq #[] } : Obj)) ::
      (nat_lit 353, ({ cls := Value.type "code", data := Data.fields #[Value.str (Str.ofString "span_end") 667, Value.str (Str.ofString "span_end") 668, Value.str (Str.ofString "/claim/cut.py") 669, Value.int 173 0, Value.int 3 0, Value.int 0 0, Value.int 0 0, Value.int 3 0, Value.ref 348, Value.bool true, Value.int 181 0, Value.ref 349, Value.none, Value.ref 350, Value.ref 351, Value.ref 352, Value.int 674 0, Value.int 173 0, Value.str (Str.ofString "/claim/cut.py") 675] } : Obj)) ::
      (nat_lit 354, ({ cls := Value.type "function", data := .func ?f354 } : Obj)) ::
      (nat_lit 355, ({ cls := Value.type "tuple", data := Data.seq #[] } : Obj)) ::
      (nat_lit 357, ({ cls := Value.type "tuple", data := Data.seq #[Value.str (Str.ofString "subject") 680, Value.str (Str.ofString "at") 681, Value.str (Str.ofString "signs") 682, Value.str (Str.ofString "end") 683] } : Obj)) ::
      (nat_lit 358, ({ cls := Value.type "tuple", data := Data.seq #[] } : Obj)) ::
      (nat_lit 360, ({ cls := Value.type "code", data := Data.fields #[Value.str (Str.ofString "break_end") 677, Value.str (Str.ofString "break_end") 678, Value.str (Str.ofString "/claim/cut.py") 679, Value.int 176 0, Value.int 3 0, Value.int 0 0, Value.int 0 0, Value.int 3 0, Value.ref 355, Value.bool true, Value.int 181 0, Value.ref 356, Value.none, Value.ref 357, Value.ref 358, Value.ref 359, Value.int 684 0, Value.int 176 0, Value.str (Str.ofString "/claim/cut.py") 685] } : Obj)) ::
      (nat_lit 361, ({ cls := Value.type "function", data := .func ?f361 } : Obj)) ::
      (nat_lit 362, ({ cls := Value.type "tuple", data := Data.seq #[] } : Obj)) ::
      (nat_lit 364, ({ cls := Value.type "tuple", data := Data.seq #[Value.str (Str.ofString "subject") 690, Value.str (Str.ofString "at") 691, Value.str (Str.ofString "level") 692] } : Obj)) ::
      (nat_lit 365, ({ cls := Value.type "tuple", data := Data.seq #[] } : Obj)) ::
      (nat_lit 367, ({ cls := Value.type "code", data := Data.fields #[Value.str (Str.ofString "bal_end") 687, Value.str (Str.ofString "bal_end") 688, Value.str (Str.ofString "/claim/cut.py") 689, Value.int 179 0, Value.int 2 0, Value.int 0 0, Value.int 0 0, Value.int 3 0, Value.ref 362, Value.bool true, Value.int 181 0, Value.ref 363, Value.none, Value.ref 364, Value.ref 365, Value.ref 366, Value.int 693 0, Value.int 179 0, Value.str (Str.ofString "/claim/cut.py") 694] } : Obj)) ::
      (nat_lit 368, ({ cls := Value.type "function", data := .func ?f368 } : Obj)) ::
      (nat_lit 369, ({ cls := Value.type "tuple", data := Data.seq #[] } : Obj)) ::
      (nat_lit 371, ({ cls := Value.type "tuple", data := Data.seq #[Value.str (Str.ofString "subject") 699, Value.str (Str.ofString "at") 700, Value.str (Str.ofString "found") 701, Value.str (Str.ofString "end") 702] } : Obj)) ::
      (nat_lit 372, ({ cls := Value.type "tuple", data := Data.seq #[] } : Obj)) ::
      (nat_lit 374, ({ cls := Value.type "code", data := Data.fields #[Value.str (Str.ofString "bal_ends") 696, Value.str (Str.ofString "bal_ends") 697, Value.str (Str.ofString "/claim/cut.py") 698, Value.int 192 0, Value.int 2 0, Value.int 0 0, Value.int 0 0, Value.int 3 0, Value.ref 369, Value.bool true, Value.int 181 0, Value.ref 370, Value.none, Value.ref 371, Value.ref 372, Value.ref 373, Value.int 703 0, Value.int 192 0, Value.str (Str.ofString "/claim/cut.py") 704] } : Obj)) ::
      (nat_lit 375, ({ cls := Value.type "function", data := .func ?f375 } : Obj)) ::
      (nat_lit 376, ({ cls := Value.type "tuple", data := Data.seq #[] } : Obj)) ::
      (nat_lit 378, ({ cls := Value.type "tuple", data := Data.seq #[Value.str (Str.ofString "kind") 709, Value.str (Str.ofString "subject") 710, Value.str (Str.ofString "at") 711, Value.str (Str.ofString "told") 712] } : Obj)) ::
      (nat_lit 379, ({ cls := Value.type "tuple", data := Data.seq #[] } : Obj)) ::
      (nat_lit 381, ({ cls := Value.type "code", data := Data.fields #[Value.str (Str.ofString "one_end") 706, Value.str (Str.ofString "one_end") 707, Value.str (Str.ofString "/claim/cut.py") 708, Value.int 198 0, Value.int 4 0, Value.int 0 0, Value.int 0 0, Value.int 3 0, Value.ref 376, Value.bool true, Value.int 181 0, Value.ref 377, Value.none, Value.ref 378, Value.ref 379, Value.ref 380, Value.int 713 0, Value.int 198 0, Value.str (Str.ofString "/claim/cut.py") 714] } : Obj)) ::
      (nat_lit 382, ({ cls := Value.type "function", data := .func ?f382 } : Obj)) ::
      (nat_lit 383, ({ cls := Value.type "tuple", data := Data.seq #[] } : Obj)) ::
      (nat_lit 385, ({ cls := Value.type "tuple", data := Data.seq #[Value.str (Str.ofString "node") 719, Value.str (Str.ofString "subject") 720, Value.str (Str.ofString "at") 721] } : Obj)) ::
      (nat_lit 386, ({ cls := Value.type "tuple", data := Data.seq #[] } : Obj)) ::
      (nat_lit 388, ({ cls := Value.type "code", data := Data.fields #[Value.str (Str.ofString "plain_end") 716, Value.str (Str.ofString "plain_end") 717, Value.str (Str.ofString "/claim/cut.py") 718, Value.int 218 0, Value.int 3 0, Value.int 0 0, Value.int 0 0, Value.int 3 0, Value.ref 383, Value.bool true, Value.int 181 0, Value.ref 384, Value.none, Value.ref 385, Value.ref 386, Value.ref 387, Value.int 722 0, Value.int 218 0, Value.str (Str.ofString "/claim/cut.py") 723] } : Obj)) ::
      (nat_lit 389, ({ cls := Value.type "function", data := .func ?f389 } : Obj)) ::
      (nat_lit 390, ({ cls := Value.type "tuple", data := Data.seq #[] } : Obj)) ::
      (nat_lit 392, ({ cls := Value.type "tuple", data := Data.seq #[Value.str (Str.ofString "node") 732, Value.str (Str.ofString "subject") 733, Value.str (Str.ofString "is_anchored") 734, Value.str (Str.ofString "host") 735, Value.str (Str.ofString "begin") 736, Value.str (Str.ofString "found") 737] } : Obj)) ::
      (nat_lit 393, ({ cls := Value.type "tuple", data := Data.seq #[] } : Obj)) ::
      (nat_lit 395, ({ cls := Value.type "code", data := Data.fields #[Value.str (Str.ofString "match_plain") 729, Value.str (Str.ofString "match_plain") 730, Value.str (Str.ofString "/claim/cut.py") 731, Value.int 222 0, Value.int 4 0, Value.int 0 0, Value.int 0 0, Value.int 3 0, Value.ref 390, Value.bool true, Value.int 181 0, Value.ref 391, Value.none, Value.ref 392, Value.ref 393, Value.ref 394, Value.int 738 0, Value.int 222 0, Value.str (Str.ofString "/claim/cut.py") 739] } : Obj)) ::
      (nat_lit 396, ({ cls := Value.type "function", data := .func ?f396 } : Obj)) ::
      (nat_lit 397, ({ cls := Value.type "tuple", data := Data.seq #[] } : Obj)) ::
      (nat_lit 399, ({ cls := Value.type "tuple", data := Data.seq #[Value.str (Str.ofString "node") 744, Value.str (Str.ofString "subject") 745, Value.str (Str.ofString "begin") 746, Value.str (Str.ofString "host") 747, Value.str (Str.ofString "found") 748] } : Obj)) ::
      (nat_lit 400, ({ cls := Value.type "tuple", data := Data.seq #[] } : Obj)) ::
      (nat_lit 402, ({ cls := Value.type "code", data := Data.fields #[Value.str (Str.ofString "match_at") 741, Value.str (Str.ofString "match_at") 742, Value.str (Str.ofString "/claim/cut.py") 743, Value.int 228 0, Value.int 4 0, Value.int 0 0, Value.int 0 0, Value.int 3 0, Value.ref 397, Value.bool true, Value.int 181 0, Value.ref 398, Value.none, Value.ref 399, Value.ref 400, Value.ref 401, Value.int 749 0, Value.int 228 0, Value.str (Str.ofString "/claim/cut.py") 750] } : Obj)) ::
      (nat_lit 403, ({ cls := Value.type "function", data := .func ?f403 } : Obj)) ::
      (nat_lit 404, ({ cls := Value.type "tuple", data := Data.seq #[] } : Obj)) ::
      (nat_lit 406, ({ cls := Value.type "tuple", data := Data.seq #[Value.str (Str.ofString "node") 755, Value.str (Str.ofString "subject") 756, Value.str (Str.ofString "begin") 757, Value.str (Str.ofString "host") 758, Value.str (Str.ofString "pile") 759, Value.str (Str.ofString "way") 760, Value.str (Str.ofString "chain") 761, Value.str (Str.ofString "at") 762, Value.str (Str.ofString "named") 763] } : Obj)) ::
      (nat_lit 407, ({ cls := Value.type "tuple", data := Data.seq #[] } : Obj)) ::
      (nat_lit 409, ({ cls := Value.type "code", data := Data.fields #[Value.str (Str.ofString "tried") 752, Value.str (Str.ofString "tried") 753, Value.str (Str.ofString "/claim/cut.py") 754, Value.int 231 0, Value.int 4 0, Value.int 0 0, Value.int 0 0, Value.int 3 0, Value.ref 404, Value.bool true, Value.int 181 0, Value.ref 405, Value.none, Value.ref 406, Value.ref 407, Value.ref 408, Value.int 764 0, Value.int 231 0, Value.str (Str.ofString "/claim/cut.py") 765] } : Obj)) ::
      (nat_lit 410, ({ cls := Value.type "function", data := .func ?f410 } : Obj)) ::
      (nat_lit 411, ({ cls := Value.type "tuple", data := Data.seq #[] } : Obj)) ::
      (nat_lit 413, ({ cls := Value.type "tuple", data := Data.seq #[Value.str (Str.ofString "chain") 770, Value.str (Str.ofString "at") 771, Value.str (Str.ofString "named") 772, Value.str (Str.ofString "subject") 773, Value.str (Str.ofString "pile") 774, Value.str (Str.ofString "host") 775, Value.str (Str.ofString "here") 776, Value.str (Str.ofString "rest") 777, Value.str (Str.ofString "kind") 778, Value.str (Str.ofString "value") 779] } : Obj)) ::
      (nat_lit 414, ({ cls := Value.type "tuple", data := Data.seq #[] } : Obj)) ::
      (nat_lit 416, ({ cls := Value.type "code", data := Data.fields #[Value.str (Str.ofString "advanced") 767, Value.str (Str.ofString "advanced") 768, Value.str (Str.ofString "/claim/cut.py") 769, Value.int 249 0, Value.int 6 0, Value.int 0 0, Value.int 0 0, Value.int 3 0, Value.ref 411, Value.bool true, Value.int 181 0, Value.ref 412, Value.none, Value.ref 413, Value.ref 414, Value.ref 415, Value.int 780 0, Value.int 249 0, Value.str (Str.ofString "/claim/cut.py") 781] } : Obj)) ::
      (nat_lit 417, ({ cls := Value.type "function", data := .func ?f417 } : Obj)) ::
      (nat_lit 418, ({ cls := Value.type "tuple", data := Data.seq #[] } : Obj)) ::
      (nat_lit 420, ({ cls := Value.type "tuple", data := Data.seq #[Value.str (Str.ofString "here") 786, Value.str (Str.ofString "rest") 787, Value.str (Str.ofString "at") 788, Value.str (Str.ofString "named") 789, Value.str (Str.ofString "pile") 790, Value.str (Str.ofString "kind") 791] } : Obj)) ::
      (nat_lit 421, ({ cls := Value.type "tuple", data := Data.seq #[] } : Obj)) ::
      (nat_lit 423, ({ cls := Value.type "code", data := Data.fields #[Value.str (Str.ofString "led_in") 783, Value.str (Str.ofString "led_in") 784, Value.str (Str.ofString "/claim/cut.py") 785, Value.int 264 0, Value.int 5 0, Value.int 0 0, Value.int 0 0, Value.int 3 0, Value.ref 418, Value.bool true, Value.int 181 0, Value.ref 419, Value.none, Value.ref 420, Value.ref 421, Value.ref 422, Value.int 792 0, Value.int 264 0, Value.str (Str.ofString "/claim/cut.py") 793] } : Obj)) ::
      (nat_lit 424, ({ cls := Value.type "function", data := .func ?f424 } : Obj)) ::
      (nat_lit 425, ({ cls := Value.type "tuple", data := Data.seq #[] } : Obj)) ::
      (nat_lit 427, ({ cls := Value.type "tuple", data := Data.seq #[Value.str (Str.ofString "here") 798, Value.str (Str.ofString "rest") 799, Value.str (Str.ofString "at") 800, Value.str (Str.ofString "named") 801, Value.str (Str.ofString "subject") 802, Value.str (Str.ofString "pile") 803, Value.str (Str.ofString "host") 804, Value.str (Str.ofString "kind") 805, Value.str (Str.ofString "told") 806, Value.str (Str.ofString "begin") 807] } : Obj)) ::
      (nat_lit 428, ({ cls := Value.type "tuple", data := Data.seq #[] } : Obj)) ::
      (nat_lit 430, ({ cls := Value.type "code", data := Data.fields #[Value.str (Str.ofString "led_out") 795, Value.str (Str.ofString "led_out") 796, Value.str (Str.ofString "/claim/cut.py") 797, Value.int 275 0, Value.int 7 0, Value.int 0 0, Value.int 0 0, Value.int 3 0, Value.ref 425, Value.bool true, Value.int 181 0, Value.ref 426, Value.none, Value.ref 427, Value.ref 428, Value.ref 429, Value.int 808 0, Value.int 275 0, Value.str (Str.ofString "/claim/cut.py") 809] } : Obj)) ::
      (nat_lit 431, ({ cls := Value.type "function", data := .func ?f431 } : Obj)) ::
      (nat_lit 432, ({ cls := Value.type "tuple", data := Data.seq #[] } : Obj)) ::
      (nat_lit 434, ({ cls := Value.type "tuple", data := Data.seq #[Value.str (Str.ofString "chain") 814, Value.str (Str.ofString "at") 815, Value.str (Str.ofString "named") 816, Value.str (Str.ofString "pile") 817, Value.str (Str.ofString "kind") 818, Value.str (Str.ofString "rest") 819] } : Obj)) ::
      (nat_lit 435, ({ cls := Value.type "tuple", data := Data.seq #[] } : Obj)) ::
      (nat_lit 437, ({ cls := Value.type "code", data := Data.fields #[Value.str (Str.ofString "steered") 811, Value.str (Str.ofString "steered") 812, Value.str (Str.ofString "/claim/cut.py") 813, Value.int 282 0, Value.int 4 0, Value.int 0 0, Value.int 0 0, Value.int 3 0, Value.ref 432, Value.bool true, Value.int 181 0, Value.ref 433, Value.none, Value.ref 434, Value.ref 435, Value.ref 436, Value.int 820 0, Value.int 282 0, Value.str (Str.ofString "/claim/cut.py") 821] } : Obj)) ::
      (nat_lit 438, ({ cls := Value.type "function", data := .func ?f438 } : Obj)) ::
      (nat_lit 439, ({ cls := Value.type "tuple", data := Data.seq #[] } : Obj)) ::
      (nat_lit 441, ({ cls := Value.type "tuple", data := Data.seq #[Value.str (Str.ofString "here") 826, Value.str (Str.ofString "rest") 827, Value.str (Str.ofString "at") 828, Value.str (Str.ofString "named") 829, Value.str (Str.ofString "subject") 830, Value.str (Str.ofString "pile") 831, Value.str (Str.ofString "host") 832, Value.str (Str.ofString "kind") 833, Value.str (Str.ofString "ends") 834, Value.str (Str.ofString "end") 835, Value.str (Str.ofString "plain") 836] } : Obj)) ::
      (nat_lit 442, ({ cls := Value.type "tuple", data := Data.seq #[] } : Obj)) ::
      (nat_lit 444, ({ cls := Value.type "code", data := Data.fields #[Value.str (Str.ofString "taken") 823, Value.str (Str.ofString "taken") 824, Value.str (Str.ofString "/claim/cut.py") 825, Value.int 290 0, Value.int 7 0, Value.int 0 0, Value.int 0 0, Value.int 3 0, Value.ref 439, Value.bool true, Value.int 181 0, Value.ref 440, Value.none, Value.ref 441, Value.ref 442, Value.ref 443, Value.int 837 0, Value.int 290 0, Value.str (Str.ofString "/claim/cut.py") 838] } : Obj)) ::
      (nat_lit 445, ({ cls := Value.type "function", data := .func ?f445 } : Obj)) ::
      (nat_lit 446, ({ cls := Value.type "tuple", data := Data.seq #[] } : Obj)) ::
      (nat_lit 449, ({ cls := Value.type "code", data := Data.fields #[Value.str (Str.ofString "_law_box") 842, Value.str (Str.ofString "_law_box") 843, Value.str (Str.ofString "/claim/cut.py") 844, Value.int 307 0, Value.int 1 0, Value.int 0 0, Value.int 0 0, Value.int 3 0, Value.ref 446, Value.bool true, Value.int 181 0, Value.ref 447, Value.none, Value.none, Value.none, Value.ref 448, Value.int 845 0, Value.int 307 0, Value.str (Str.ofString "/claim/cut.py") 846] } : Obj)) ::
      (nat_lit 450, ({ cls := Value.type "function", data := .func ?f450 } : Obj)) ::
      (nat_lit 451, ({ cls := Value.type "tuple", data := Data.seq #[] } : Obj)) ::
      (nat_lit 453, ({ cls := Value.type "tuple", data := Data.seq #[Value.str (Str.ofString "box") 851, Value.str (Str.ofString "many") 852] } : Obj)) ::
      (nat_lit 454, ({ cls := Value.type "tuple", data := Data.seq #[] } : Obj)) ::
      (nat_lit 456, ({ cls := Value.type "code", data := Data.fields #[Value.str (Str.ofString "_law_draw") 848, Value.str (Str.ofString "_law_draw") 849, Value.str (Str.ofString "/claim/cut.py") 850, Value.int 310 0, Value.int 2 0, Value.int 0 0, Value.int 0 0, Value.int 3 0, Value.ref 451, Value.bool true, Value.int 181 0, Value.ref 452, Value.none, Value.ref 453, Value.ref 454, Value.ref 455, Value.int 853 0, Value.int 310 0, Value.str (Str.ofString "/claim/cut.py") 854] } : Obj)) ::
      (nat_lit 457, ({ cls := Value.type "function", data := .func ?f457 } : Obj)) ::
      (nat_lit 458, ({ cls := Value.type "tuple", data := Data.seq #[] } : Obj)) ::
      (nat_lit 460, ({ cls := Value.type "tuple", data := Data.seq #[Value.str (Str.ofString "box") 859, Value.str (Str.ofString "refs") 860, Value.str (Str.ofString "part") 861, Value.str (Str.ofString "node") 862, Value.str (Str.ofString "form") 863] } : Obj)) ::
      (nat_lit 461, ({ cls := Value.type "tuple", data := Data.seq #[] } : Obj)) ::
      (nat_lit 463, ({ cls := Value.type "code", data := Data.fields #[Value.str (Str.ofString "_law_part") 856, Value.str (Str.ofString "_law_part") 857, Value.str (Str.ofString "/claim/cut.py") 858, Value.int 316 0, Value.int 2 0, Value.int 0 0, Value.int 0 0, Value.int 3 0, Value.ref 458, Value.bool true, Value.int 181 0, Value.ref 459, Value.none, Value.ref 460, Value.ref 461, Value.ref 462, Value.int 864 0, Value.int 316 0, Value.str (Str.ofString "/claim/cut.py") 865] } : Obj)) ::
      (nat_lit 464, ({ cls := Value.type "function", data := .func ?f464 } : Obj)) ::
      (nat_lit 465, ({ cls := Value.type "tuple", data := Data.seq #[] } : Obj)) ::
      (nat_lit 468, ({ cls := Value.type "code", data := Data.fields #[Value.str (Str.ofString "_law_row") 867, Value.str (Str.ofString "_law_row") 868, Value.str (Str.ofString "/claim/cut.py") 869, Value.int 322 0, Value.int 2 0, Value.int 0 0, Value.int 0 0, Value.int 3 0, Value.ref 465, Value.bool true, Value.int 181 0, Value.ref 466, Value.none, Value.none, Value.none, Value.ref 467, Value.int 870 0, Value.int 322 0, Value.str (Str.ofString "/claim/cut.py") 871] } : Obj)) ::
      (nat_lit 469, ({ cls := Value.type "function", data := .func ?f469 } : Obj)) ::
      (nat_lit 470, ({ cls := Value.type "tuple", data := Data.seq #[] } : Obj)) ::
      (nat_lit 472, ({ cls := Value.type "tuple", data := Data.seq #[Value.str (Str.ofString "row") 876, Value.str (Str.ofString "node") 877, Value.str (Str.ofString "part") 878] } : Obj)) ::
      (nat_lit 473, ({ cls := Value.type "tuple", data := Data.seq #[] } : Obj)) ::
      (nat_lit 475, ({ cls := Value.type "code", data := Data.fields #[Value.str (Str.ofString "_law_joined") 873, Value.str (Str.ofString "_law_joined") 874, Value.str (Str.ofString "/claim/cut.py") 875, Value.int 324 0, Value.int 1 0, Value.int 0 0, Value.int 0 0, Value.int 3 0, Value.ref 470, Value.bool true, Value.int 181 0, Value.ref 471, Value.none, Value.ref 472, Value.ref 473, Value.ref 474, Value.int 879 0, Value.int 324 0, Value.str (Str.ofString "/claim/cut.py") 880] } : Obj)) ::
      (nat_lit 476, ({ cls := Value.type "function", data := .func ?f476 } : Obj)) ::
      (nat_lit 477, ({ cls := Value.type "tuple", data := Data.seq #[] } : Obj)) ::
      (nat_lit 479, ({ cls := Value.type "tuple", data := Data.seq #[Value.str (Str.ofString "node") 885, Value.str (Str.ofString "subject") 886, Value.str (Str.ofString "at") 887, Value.str (Str.ofString "kind") 888, Value.str (Str.ofString "rest") 889, Value.str (Str.ofString "many") 890] } : Obj)) ::
      (nat_lit 480, ({ cls := Value.type "tuple", data := Data.seq #[] } : Obj)) ::
      (nat_lit 482, ({ cls := Value.type "code", data := Data.fields #[Value.str (Str.ofString "_law_end") 882, Value.str (Str.ofString "_law_end") 883, Value.str (Str.ofString "/claim/cut.py") 884, Value.int 329 0, Value.int 3 0, Value.int 0 0, Value.int 0 0, Value.int 3 0, Value.ref 477, Value.bool true, Value.int 181 0, Value.ref 478, Value.none, Value.ref 479, Value.ref 480, Value.ref 481, Value.int 891 0, Value.int 329 0, Value.str (Str.ofString "/claim/cut.py") 892] } : Obj)) ::
      (nat_lit 483, ({ cls := Value.type "function", data := .func ?f483 } : Obj)) ::
      (nat_lit 484, ({ cls := Value.type "tuple", data := Data.seq #[] } : Obj)) ::
      (nat_lit 486, ({ cls := Value.type "tuple", data := Data.seq #[Value.str (Str.ofString "row") 897, Value.str (Str.ofString "subject") 898, Value.str (Str.ofString "begin") 899, Value.str (Str.ofString "w") 900, Value.str (Str.ofString "at") 901, Value.str (Str.ofString "later") 902, Value.str (Str.ofString "part") 903, Value.str (Str.ofString "node") 904, Value.str (Str.ofString "end") 905] } : Obj)) ::
      (nat_lit 487, ({ cls := Value.type "tuple", data := Data.seq #[] } : Obj)) ::
      (nat_lit 489, ({ cls := Value.type "code", data := Data.fields #[Value.str (Str.ofString "_law_met") 894, Value.str (Str.ofString "_law_met") 895, Value.str (Str.ofString "/claim/cut.py") 896, Value.int 345 0, Value.int 4 0, Value.int 0 0, Value.int 0 0, Value.int 3 0, Value.ref 484, Value.bool true, Value.int 181 0, Value.ref 485, Value.none, Value.ref 486, Value.ref 487, Value.ref 488, Value.int 906 0, Value.int 345 0, Value.str (Str.ofString "/claim/cut.py") 907] } : Obj)) ::
      (nat_lit 490, ({ cls := Value.type "function", data := .func ?f490 } : Obj)) ::
      (nat_lit 491, ({ cls := Value.type "tuple", data := Data.seq #[] } : Obj)) ::
      (nat_lit 493, ({ cls := Value.type "tuple", data := Data.seq #[Value.str (Str.ofString "rows") 912, Value.str (Str.ofString "subject") 913, Value.str (Str.ofString "is_anchored") 914, Value.str (Str.ofString "w") 915, Value.str (Str.ofString "form") 916, Value.str (Str.ofString "begin") 917, Value.str (Str.ofString "row") 918, Value.str (Str.ofString "met") 919, Value.str (Str.ofString "key") 920, Value.str (Str.ofString "text") 921, Value.str (Str.ofString "told") 922] } : Obj)) ::
      (nat_lit 494, ({ cls := Value.type "tuple", data := Data.seq #[] } : Obj)) ::
      (nat_lit 496, ({ cls := Value.type "code", data := Data.fields #[Value.str (Str.ofString "_law_once") 909, Value.str (Str.ofString "_law_once") 910, Value.str (Str.ofString "/claim/cut.py") 911, Value.int 358 0, Value.int 5 0, Value.int 0 0, Value.int 0 0, Value.int 3 0, Value.ref 491, Value.bool true, Value.int 181 0, Value.ref 492, Value.none, Value.ref 493, Value.ref 494, Value.ref 495, Value.int 923 0, Value.int 358 0, Value.str (Str.ofString "/claim/cut.py") 924] } : Obj)) ::
      (nat_lit 497, ({ cls := Value.type "function", data := .func ?f497 } : Obj)) ::
      (nat_lit 498, ({ cls := Value.type "tuple", data := Data.seq #[] } : Obj)) ::
      (nat_lit 500, ({ cls := Value.type "tuple", data := Data.seq #[Value.str (Str.ofString "form") 929, Value.str (Str.ofString "told") 930] } : Obj)) ::
      (nat_lit 501, ({ cls := Value.type "tuple", data := Data.seq #[Value.str (Str.ofString "form") 931] } : Obj)) ::
      (nat_lit 503, ({ cls := Value.type "code", data := Data.fields #[Value.str (Str.ofString "_law_told") 926, Value.str (Str.ofString "_law_told") 927, Value.str (Str.ofString "/claim/cut.py") 928, Value.int 368 0, Value.int 1 0, Value.int 0 0, Value.int 0 0, Value.int 3 0, Value.ref 498, Value.bool true, Value.int 181 0, Value.ref 499, Value.none, Value.ref 500, Value.ref 501, Value.ref 502, Value.int 932 0, Value.int 368 0, Value.str (Str.ofString "/claim/cut.py") 933] } : Obj)) ::
      (nat_lit 504, ({ cls := Value.type "function", data := .func ?f504 } : Obj)) ::
      (nat_lit 505, ({ cls := Value.type "tuple", data := Data.seq #[] } : Obj)) ::
      (nat_lit 508, ({ cls := Value.type "code", data := Data.fields #[Value.str (Str.ofString "law") 935, Value.str (Str.ofString "law") 936, Value.str (Str.ofString "/claim/cut.py") 937, Value.int 373 0, Value.int 1 0, Value.int 0 0, Value.int 0 0, Value.int 3 0, Value.ref 505, Value.bool true, Value.int 181 0, Value.ref 506, Value.none, Value.none, Value.none, Value.ref 507, Value.int 938 0, Value.int 373 0, Value.str (Str.ofString "/claim/cut.py") 939] } : Obj)) ::
      (nat_lit 509, ({ cls := Value.type "function", data := .func ?f509 } : Obj)) :: []

/-! Base -/
noncomputable abbrev Led := List (Addr × Obj)
/-- a def's contract: called at any place with such a ledger, it comes back, and the ledger is then as Post says -/
noncomputable def Con (w : World) (tP : Program) (tL : List Str) (mean : ExcName → Option Value) (mg mb : Str → Option Value) (D U : Nat) (f : Addr) (news : Led) (vs : List Value) (Post : Value → Led → Prop) : Prop :=
  ∀ (dp un : Nat) (gd : Option (List Code)) (cn : Str) (cs : Scope) (a : Addr) (ccd : Value) (cl : List (Str × Addr)) (outer : List Env) (A₀ : Around) (base h₀ : Heap) (L : Addr) (m : Str → Option Value) (s : Shared) (R : Result → Shared → Prop),
    Below A₀ base outer h₀ → Fr h₀ L s.heap m → (Mine.K w.params).In h₀ → News h₀ L s.heap news →
    Top tP tL mean mg mb h₀ → cs.kind = .function → dp + D < recursionLimit → un + U < cLine →
    (∀ r news' h' tk', Fr h₀ L h' m → News h₀ L h' news' → Post r news' → R (.ok (.ret r)) { s with heap := h', toks := tk' }) →
    codeAny (model PySem.Challenge.rw_nz0411_01.row.prog w) (ktrTop dp un gd cn cs L a ccd cl outer) (.call (.ref f) ⟨vs, []⟩) R s
theorem Con.call {w : World} {tP : Program} {tL : List Str} {mean : ExcName → Option Value} {mg mb : Str → Option Value} {D U : Nat} {f : Addr} {news : Led} {vs : List Value} {Post : Value → Led → Prop}
    {dp un : Nat} {gd : Option (List Code)} {cn : Str} {cs : Scope} {a : Addr} {ccd : Value} {cl : List (Str × Addr)} {outer : List Env} {A₀ : Around} {base h₀ : Heap} {L : Addr} {m : Str → Option Value} {s : Shared} {Q E : Value → Shared → Prop}
    (B : Below A₀ base outer h₀) (F : Fr h₀ L s.heap m) (X : (Mine.K w.params).In h₀) (N : News h₀ L s.heap news)
    (T : Top tP tL mean mg mb h₀) (hk : cs.kind = .function) (C : Con w tP tL mean mg mb D U f news vs Post) (hd : dp + D < recursionLimit) (hu : un + U < cLine)
    (h : ∀ r news' h' tk', Fr h₀ L h' m → News h₀ L h' news' → Post r news' → Q r { s with heap := h', toks := tk' }) :
    wpAny (model PySem.Challenge.rw_nz0411_01.row.prog w) (ktrTop dp un gd cn cs L a ccd cl outer) (PySem.call (.ref f) vs) Q E s :=
  wpAny_call (C _ _ _ _ _ _ _ _ _ _ _ _ _ _ _ _ B F X N T hk hd hu h)
theorem newsTail {h₀ : Heap} {L : Addr} {h : Heap} {p : Addr × Obj} {l : List (Addr × Obj)} (N : News h₀ L h (p :: l)) : News h₀ L h l := fun q hq => N q (.tail _ hq)
theorem dle {a n m r : Nat} (h : a + n < r) (e : Nat.ble m n = true) : a + m < r := Nat.lt_of_le_of_lt (Nat.add_le_add_left (Nat.le_of_ble_eq_true e) a) h
/-- Con.call, its facts sought in the context -/
theorem Con.callA {w : World} {tP : Program} {tL : List Str} {mean : ExcName → Option Value} {mg mb : Str → Option Value} {D U : Nat} {f : Addr} {news : Led} {vs : List Value} {Post : Value → Led → Prop}
    {dp un : Nat} {gd : Option (List Code)} {cn : Str} {cs : Scope} {a : Addr} {ccd : Value} {cl : List (Str × Addr)} {outer : List Env} {A₀ : Around} {base h₀ : Heap} {L : Addr} {m : Str → Option Value} {s : Shared} {Q E : Value → Shared → Prop}
    (C : Con w tP tL mean mg mb D U f news vs Post)
    (h : ∀ r news' h' tk', Fr h₀ L h' m → News h₀ L h' news' → Post r news' → Q r { s with heap := h', toks := tk' })
    (B : Below A₀ base outer h₀ := by k_asm) (F : Fr h₀ L s.heap m := by k_asm) (X : (Mine.K w.params).In h₀ := by k_asm) (N : News h₀ L s.heap news := by first | k_asm | exact newsTail (by k_asm) | exact newsTail (newsTail (by k_asm)))
    (T : Top tP tL mean mg mb h₀ := by k_asm) (hk : cs.kind = .function := by rfl) (hd : dp + D < recursionLimit := by first | exact dle (by assumption) rfl | omega) (hu : un + U < cLine := by first | exact dle (by assumption) rfl | omega) :
    wpAny (model PySem.Challenge.rw_nz0411_01.row.prog w) (ktrTop dp un gd cn cs L a ccd cl outer) (PySem.call (.ref f) vs) Q E s :=
  Con.call B F X N T hk C hd hu h
/-- how a body ends -/
noncomputable def Done (g : Heap) (L : Addr) (Post : Value → Led → Prop) (s₀ : Shared) (fl : Flow) (s' : Shared) : Prop :=
  ∃ h' tk' m' news', s' = { s₀ with heap := h', toks := tk' } ∧ Fr g L h' m' ∧ News g L h' news' ∧ Post (match fl with | .ret v => v | _ => .none) news'
/-- a body, walked once -/
noncomputable def Body (w : World) (tP : Program) (tL : List Str) (mean : ExcName → Option Value) (mg mb : Str → Option Value) (D U : Nat) (qual : Str) (scope : Scope) (f : Addr) (cdv : Value) (cl : List (Str × Addr)) (body : List Stmt) (m : Str → Option Value) (news : Led) (Post : Value → Led → Prop) : Prop :=
  ∀ (dp un : Nat) (gd : Option (List Code)) (outer : List Env) (A₀ : Around) (base g : Heap) (L : Addr) (s : Shared) (Dn : Flow → Shared → Prop), (∀ fl s', Done g L Post s fl s' → Dn fl s') →
    Below A₀ base outer g → Fr g L s.heap m → (Mine.K w.params).In g → News g L s.heap news →
    Top tP tL mean mg mb g → (∀ p ∈ news, p.1 < L) → dp + D < recursionLimit → un + U < cLine →
    wpAny (model PySem.Challenge.rw_nz0411_01.row.prog w) (ktrTop dp un gd qual scope L f cdv cl outer) (execs body (envX qual scope L f cdv cl)) Dn (fun _ _ => False) s
theorem con_of {w : World} {tP : Program} {tL : List Str} {mean : ExcName → Option Value} {mg mb : Str → Option Value} {D U : Nat} {f : Addr} {news : Led} {vs : List Value} {Post : Value → Led → Prop}
    {name qual : Str} {params : Arguments} {body : List Stmt} {scope : Scope} {dV kV doc pm cdv ct oc : Value} {an od : Option Addr} {osl : Array (Option Value)} (binds : List (Str × Value))
    (ho : (Mine.K w.params).lookup f = some ⟨oc, od, .func (fnOf name qual params body scope dV kV doc pm an cdv ct), osl⟩) (hcd : codeIn (Mine.K w.params) cdv qual = true)
    (hbind : ∀ s, BindsTo s (fnOf name qual params body scope dV kV doc pm an cdv ct) ⟨vs, []⟩ binds) (hloc : ∀ y ∈ binds, scope.names.lookup y.1 = some .local)
    (hco : scope.isCoroutine = false) (hgen : scope.isGenerator = false) (hk : scope.kind = .function) (hcell : ∀ x ∈ scope.names, x.2 ≠ .cell)
    (h : Body w tP tL mean mg mb D U qual scope f cdv [] body (fun y => binds.reverse.lookup y) news Post) : Con w tP tL mean mg mb (D + 1) (U + 4) f news vs Post := by
  intro dp un gd cn cs a ccd cl outer A₀ base h₀ L m s R B F X N T hck hd hu hret
  refine callX_plain (cl := []) B F N T.nolimit rfl rfl hck ((X.keeps F.keep) _ _ ho) rfl (codeRec_of (X.keeps F.keep) hcd) (show dp < recursionLimit by omega) (hbind s) hloc
    (fun g L' h₁ FG F' N' B' st l => ?_) hcell hco hgen hk
  refine wpAny_mono (h (dp + 1) (un + 3) gd _ _ _ g L' { s with heap := h₁, toks := s.toks + binds.length } _ (fun _ _ h => h) B' F' (X.keeps st) N' (T.keeps st) l (by omega) (by omega)) (fun fl s' hd' => ?_) (fun _ _ e => e.elim)
  obtain ⟨h', tk', m', news', rfl, F₂, N₂, hp⟩ := hd'
  exact leaveK_ F₂ N₂ fun F₃ N₃ => hret _ _ _ _ F₃ N₃ hp
theorem Con.mono {w : World} {tP : Program} {tL : List Str} {mean : ExcName → Option Value} {mg mb : Str → Option Value} {D U D' U' : Nat} {f : Addr} {news : Led} {vs : List Value} {Post Post' : Value → Led → Prop}
    (C : Con w tP tL mean mg mb D U f news vs Post) (hd : D ≤ D') (hu : U ≤ U') (hp : ∀ r n, Post r n → Post' r n) : Con w tP tL mean mg mb D' U' f news vs Post' :=
  fun dp un gd cn cs a ccd cl outer A₀ base h₀ L m s R B F X N T hk hd' hu' hret => C dp un gd cn cs a ccd cl outer A₀ base h₀ L m s R B F X N T hk (by omega) (by omega) fun r n h t f' n' p => hret r n h t f' n' (hp r n p)
theorem done_ret {g : Heap} {L : Addr} {Post : Value → Led → Prop} {s₀ : Shared} {v : Value} {h' : Heap} {tk' : Nat} {m' : Str → Option Value} {news' : Led} (F : Fr g L h' m') (N : News g L h' news') (hp : Post v news') :
    Done g L Post s₀ (.ret v) { s₀ with heap := h', toks := tk' } := ⟨h', tk', m', news', rfl, F, N, hp⟩
theorem done_next {g : Heap} {L : Addr} {Post : Value → Led → Prop} {s₀ : Shared} {h' : Heap} {tk' : Nat} {m' : Str → Option Value} {news' : Led} (F : Fr g L h' m') (N : News g L h' news') (hp : Post .none news') :
    Done g L Post s₀ .next { s₀ with heap := h', toks := tk' } := ⟨h', tk', m', news', rfl, F, N, hp⟩
theorem fill : (Mine.K = Mine.K) ∧ (PySem.Challenge.rw_nz0411_01 = PySem.Challenge.rw_nz0411_01) := by
  k_fill
  exact ⟨rfl, rfl⟩

/-! Pure -/
/-! plain functions: what the matcher and the law compute, over lists of code points -/
noncomputable abbrev Cps := List Nat
noncomputable def tx (l : Cps) : Str := ⟨l.toArray⟩
noncomputable def cut (s : Cps) (i j : Nat) : Cps := (s.take j).drop i

inductive Prim where
  | chars (l : Cps) | len (n : Nat) | any (l : Cps) | span (l : Cps) | brk (l : Cps) | rem
inductive Form where
  | plain | later (k : Bool) | now (k : Bool)
structure Part where
  prim : Prim
  form : Form
inductive Node where
  | prim (p : Prim) | later (n : Node) (k : Bool) | now (n : Node) (k : Bool) | cat (a b : Node) | alt (a b : Node)
noncomputable abbrev W2 := Cps × Cps
noncomputable def setW (w : W2) (k : Bool) (t : Cps) : W2 := if k then (w.1, t) else (t, w.2)
noncomputable abbrev Named := List (Bool × Cps)

noncomputable def runTo (s : Cps) (i : Nat) (signs : Cps) (b : Bool) : Nat := i + ((s.drop i).takeWhile (fun c => signs.contains c == b)).length
noncomputable def anyAt (s : Cps) (i : Nat) (l : Cps) : Option Nat := match s[i]? with
  | some c => if l.contains c = true then some (i + 1) else none
  | none => none
noncomputable def primEnd (s : Cps) (i : Nat) : Prim → Option Nat
  | .chars l => if (s.drop i).take l.length = l then some (i + l.length) else none
  | .len n => if i + n ≤ s.length then some (i + n) else none
  | .any l => anyAt s i l
  | .span l => if i < runTo s i l true then some (runTo s i l true) else none
  | .brk l => if runTo s i l false < s.length then some (runTo s i l false) else none
  | .rem => some s.length

noncomputable def partNode (p : Part) : Node := match p.form with
  | .plain => .prim p.prim
  | .later k => .later (.prim p.prim) k
  | .now k => .now (.prim p.prim) k
noncomputable def joinNode (n : Node) (r : List Part) : Node := r.foldl (fun n p => .cat n (partNode p)) n
noncomputable def rowNode : List Part → Node
  | [] => .prim .rem
  | p :: r => joinNode (partNode p) r
noncomputable def rowsNode : List (List Part) → Node
  | [] => .prim .rem
  | [r] => rowNode r
  | r :: r' :: _ => .alt (rowNode r) (rowNode r')

/-! the law's reading -/
noncomputable def met (s : Cps) : List Part → Nat → Named → W2 → Option (Nat × Named) × W2
  | [], i, l, w => (some (i, l), w)
  | p :: r, i, l, w => match primEnd s i p.prim with
    | none => (none, w)
    | some e => match p.form with
      | .plain => met s r e l w
      | .later k => met s r e (l ++ [(k, cut s i e)]) w
      | .now k => met s r e l (setW w k (cut s i e))
noncomputable def atRows (s : Cps) (b : Nat) : List (List Part) → W2 → Option (Nat × Named) × W2
  | [], w => (none, w)
  | r :: rs, w => match met s r b [] w with
    | (some m, w') => (some m, w')
    | (none, w') => atRows s b rs w'
noncomputable abbrev Find := W2 → Option (Nat × Nat × Named) × W2
noncomputable def search (f : Nat → W2 → Option (Nat × Named) × W2) : List Nat → Find
  | [], w => (none, w)
  | b :: bs, w => match f b w with
    | (some m, w') => (some (b, m), w')
    | (none, w') => search f bs w'
noncomputable def begins (anch : Bool) (s : Cps) : List Nat := List.range (if anch then 1 else s.length + 1)
noncomputable def give (l : Named) (w : W2) : W2 := l.foldl (fun w p => setW w p.1 p.2) w
noncomputable def told (form : Nat) (w : W2) : Option Cps := match form with
  | 0 => some []
  | 1 => some [99]
  | 2 => some w.1
  | 3 => some w.2
  | _ => none
noncomputable def onceBy (find : Find) (s : Cps) (form : Nat) (w : W2) : Option Cps × W2 := match find w with
  | (none, w') => (none, w')
  | (some (b, e, l), w') => ((told form (give l w')).map fun t => s.take b ++ t ++ s.drop e, give l w')
noncomputable def once (rows : List (List Part)) (s : Cps) (anch : Bool) (form : Nat) (w : W2) : Option Cps × W2 := onceBy (search (fun b w => atRows s b rows w) (begins anch s)) s form w
noncomputable def often (f : Cps → W2 → Option Cps × W2) : Nat → Cps → Nat → W2 → (Cps × Nat) × W2
  | 0, s, n, w => ((s, n), w)
  | fuel + 1, s, n, w => match f s w with
    | (none, w') => ((s, n), w')
    | (some s', w') => often f fuel s' (n + 1) w'

/-! the matcher's reading -/
inductive CI where
  | node (n : Node) | later (k : Bool) (b : Nat) | now (k : Bool) (b : Nat)
noncomputable abbrev Way := List CI × Nat × Named
noncomputable abbrev Cont := Nat → Named → W2 → Option (Nat × Named) × W2
noncomputable def runN (s : Cps) : Node → Cont → Cont
  | .prim p, k => fun i l w => match primEnd s i p with
    | none => (none, w)
    | some e => k e l w
  | .later n key, k => fun i l w => runN s n (fun e l' w' => k e (l' ++ [(key, cut s i e)]) w') i l w
  | .now n key, k => fun i l w => runN s n (fun e l' w' => k e l' (setW w' key (cut s i e))) i l w
  | .cat a b, k => runN s a (runN s b k)
  | .alt a b, k => fun i l w => match runN s a k i l w with
    | (some m, w') => (some m, w')
    | (none, w') => runN s b k i l w'
noncomputable def runCh (s : Cps) : List CI → Cont
  | [] => fun i l w => (some (i, l), w)
  | .node n :: r => runN s n (runCh s r)
  | .later k b :: r => fun i l w => runCh s r i (l ++ [(k, cut s b i)]) w
  | .now k b :: r => fun i l w => runCh s r i l (setW w k (cut s b i))
noncomputable def runPile (s : Cps) : List Way → W2 → Option (Nat × Named) × W2
  | [], w => (none, w)
  | (c, i, l) :: r, w => match runCh s c i l w with
    | (some m, w') => (some m, w')
    | (none, w') => runPile s r w'
noncomputable def matchAt (s : Cps) (n : Node) (b : Nat) (w : W2) : Option (Nat × Named) × W2 := runPile s [([.node n], b, [])] w
noncomputable def onceM (n : Node) (s : Cps) (anch : Bool) (form : Nat) (w : W2) : Option Cps × W2 := onceBy (search (matchAt s n) (begins anch s)) s form w

/-- how many steps: a node, then what is behind it -/
noncomputable def costN : Node → Nat → Nat
  | .prim _, k => 1 + k
  | .later n _, k => 1 + costN n (1 + k)
  | .now n _, k => 1 + costN n (1 + k)
  | .cat a b, k => 1 + costN a (costN b k)
  | .alt a b, k => 2 + costN a k + costN b k
noncomputable def costCh : List CI → Nat
  | [] => 0
  | .node n :: r => costN n (costCh r)
  | .later _ _ :: r => 1 + costCh r
  | .now _ _ :: r => 1 + costCh r
noncomputable def costPile : List Way → Nat
  | [] => 0
  | (c, _, _) :: r => 1 + costCh c + costPile r

theorem costPile_len : ∀ ws : List Way, ws.length ≤ costPile ws
  | [] => Nat.le_refl _
  | (c, i, l) :: r => by have := costPile_len r; show r.length + 1 ≤ 1 + costCh c + costPile r; omega
/-! one step of the matcher -/
theorem runPile_cons (s : Cps) (c : List CI) (i : Nat) (l : Named) (r : List Way) (w : W2) :
    runPile s ((c, i, l) :: r) w = match runCh s c i l w with
      | (some m, w') => (some m, w')
      | (none, w') => runPile s r w' := rfl
theorem runPile_nil_chain (s : Cps) (i : Nat) (l : Named) (r : List Way) (w : W2) : runPile s (([], i, l) :: r) w = (some (i, l), w) := rfl
theorem runPile_cat (s : Cps) (a b : Node) (c : List CI) (i : Nat) (l : Named) (r : List Way) (w : W2) :
    runPile s ((.node (.cat a b) :: c, i, l) :: r) w = runPile s ((.node a :: .node b :: c, i, l) :: r) w := rfl
theorem runPile_alt (s : Cps) (a b : Node) (c : List CI) (i : Nat) (l : Named) (r : List Way) (w : W2) :
    runPile s ((.node (.alt a b) :: c, i, l) :: r) w = runPile s ((.node a :: c, i, l) :: (.node b :: c, i, l) :: r) w := by
  simp only [runPile, runCh, runN]
  rcases runN s a (runCh s c) i l w with ⟨_ | m, w'⟩ <;> rfl
theorem runPile_later (s : Cps) (a : Node) (k : Bool) (c : List CI) (i : Nat) (l : Named) (r : List Way) (w : W2) :
    runPile s ((.node (.later a k) :: c, i, l) :: r) w = runPile s ((.node a :: .later k i :: c, i, l) :: r) w := rfl
theorem runPile_now (s : Cps) (a : Node) (k : Bool) (c : List CI) (i : Nat) (l : Named) (r : List Way) (w : W2) :
    runPile s ((.node (.now a k) :: c, i, l) :: r) w = runPile s ((.node a :: .now k i :: c, i, l) :: r) w := rfl
theorem runPile_endLater (s : Cps) (k : Bool) (b : Nat) (c : List CI) (i : Nat) (l : Named) (r : List Way) (w : W2) :
    runPile s ((.later k b :: c, i, l) :: r) w = runPile s ((c, i, l ++ [(k, cut s b i)]) :: r) w := rfl
theorem runPile_endNow (s : Cps) (k : Bool) (b : Nat) (c : List CI) (i : Nat) (l : Named) (r : List Way) (w : W2) :
    runPile s ((.now k b :: c, i, l) :: r) w = runPile s ((c, i, l) :: r) (setW w k (cut s b i)) := rfl
theorem runPile_prim_some (s : Cps) (p : Prim) (c : List CI) (i e : Nat) (l : Named) (r : List Way) (w : W2) (h : primEnd s i p = some e) :
    runPile s ((.node (.prim p) :: c, i, l) :: r) w = runPile s ((c, e, l) :: r) w := by simp only [runPile, runCh, runN, h]
theorem runPile_prim_none (s : Cps) (p : Prim) (c : List CI) (i : Nat) (l : Named) (r : List Way) (w : W2) (h : primEnd s i p = none) :
    runPile s ((.node (.prim p) :: c, i, l) :: r) w = runPile s r w := by simp only [runPile, runCh, runN, h]

/-! the two readings are one -/
theorem runN_part (s : Cps) (p : Part) (k : Cont) (i : Nat) (l : Named) (w : W2) :
    runN s (partNode p) k i l w = match primEnd s i p.prim with
      | none => (none, w)
      | some e => match p.form with
        | .plain => k e l w
        | .later key => k e (l ++ [(key, cut s i e)]) w
        | .now key => k e l (setW w key (cut s i e)) := by
  obtain ⟨q, f⟩ := p
  cases f <;> simp only [partNode, runN] <;> cases primEnd s i q <;> rfl
/-- met, with something behind it -/
noncomputable def metK (s : Cps) : List Part → Cont → Cont
  | [], k => k
  | p :: r, k => runN s (partNode p) (metK s r k)
theorem runN_join (s : Cps) (k : Cont) : ∀ (r : List Part) (n : Node), runN s (joinNode n r) k = runN s n (metK s r k)
  | [], _ => rfl
  | p :: r, n => by
    show runN s (joinNode (.cat n (partNode p)) r) k = _
    rw [runN_join s k r]
    rfl
theorem metK_met (s : Cps) : ∀ (r : List Part) (i : Nat) (l : Named) (w : W2), metK s r (fun i l w => (some (i, l), w)) i l w = met s r i l w
  | [], _, _, _ => rfl
  | p :: r, i, l, w => by
    show runN s (partNode p) (metK s r _) i l w = _
    rw [runN_part]
    simp only [met]
    cases primEnd s i p.prim with
    | none => rfl
    | some e =>
      cases p.form with
      | plain => exact metK_met s r _ _ _
      | later k => exact metK_met s r _ _ _
      | now k => exact metK_met s r _ _ _
theorem runN_row (s : Cps) (r : List Part) (hr : r ≠ []) (i : Nat) (l : Named) (w : W2) : runN s (rowNode r) (fun i l w => (some (i, l), w)) i l w = met s r i l w := by
  cases r with
  | nil => exact absurd rfl hr
  | cons p r =>
    show runN s (joinNode (partNode p) r) _ i l w = _
    rw [runN_join]
    exact metK_met s (p :: r) i l w
theorem matchAt_eq (s : Cps) (n : Node) (b : Nat) (w : W2) : matchAt s n b w = runN s n (fun i l w => (some (i, l), w)) b [] w := by
  simp only [matchAt, runPile, runCh]
  rcases runN s n (fun i l w => (some (i, l), w)) b [] w with ⟨_ | m, w'⟩ <;> rfl
theorem matchAt_rows (s : Cps) (r₁ : List Part) (rs : List (List Part)) (h1 : r₁ ≠ []) (h2 : ∀ r ∈ rs, r ≠ []) (h3 : rs.length ≤ 1) (b : Nat) (w : W2) :
    matchAt s (rowsNode (r₁ :: rs)) b w = atRows s b (r₁ :: rs) w := by
  rw [matchAt_eq]
  match rs, h3 with
  | [], _ =>
    simp only [rowsNode, atRows]
    rw [runN_row s r₁ h1]
    rcases met s r₁ b [] w with ⟨_ | m, w'⟩ <;> rfl
  | [r₂], _ =>
    simp only [rowsNode, atRows, runN]
    rw [runN_row s r₁ h1]
    rcases met s r₁ b [] w with ⟨_ | m, w'⟩
    · show runN s (rowNode r₂) _ b [] w' = (match met s r₂ b [] w' with
        | (some m, w') => (some m, w')
        | (none, w') => (none, w'))
      rw [runN_row s r₂ (h2 r₂ (by simp))]
      rcases met s r₂ b [] w' with ⟨_ | m, w''⟩ <;> rfl
    · rfl
theorem onceM_eq (r₁ : List Part) (rs : List (List Part)) (h1 : r₁ ≠ []) (h2 : ∀ r ∈ rs, r ≠ []) (h3 : rs.length ≤ 1) (s : Cps) (anch : Bool) (form : Nat) (w : W2) :
    onceM (rowsNode (r₁ :: rs)) s anch form w = once (r₁ :: rs) s anch form w := by
  have e : matchAt s (rowsNode (r₁ :: rs)) = fun b w => atRows s b (r₁ :: rs) w := by
    funext b w
    exact matchAt_rows s r₁ rs h1 h2 h3 b w
  simp only [onceM, once, e]

/-! a step costs what it costs -/
theorem costN_mono (n : Node) : ∀ {a b : Nat}, a ≤ b → costN n a ≤ costN n b := by
  induction n with
  | prim p => intro a b h; simp only [costN]; omega
  | later n k ih => intro a b h; simp only [costN]; have := ih (show 1 + a ≤ 1 + b by omega); omega
  | now n k ih => intro a b h; simp only [costN]; have := ih (show 1 + a ≤ 1 + b by omega); omega
  | cat a b iha ihb => intro x y h; simp only [costN]; have := iha (ihb h); omega
  | alt a b iha ihb => intro x y h; simp only [costN]; have h1 := iha h; have h2 := ihb h; omega
theorem costN_part (p : Part) (k : Nat) : costN (partNode p) k ≤ 3 + k := by
  obtain ⟨q, f⟩ := p
  cases f <;> simp only [partNode, costN] <;> omega
theorem costN_join : ∀ (r : List Part) (n : Node) (k : Nat), costN (joinNode n r) k ≤ r.length + costN n (3 * r.length + k)
  | [], n, k => by show costN n k ≤ 0 + costN n (3 * 0 + k); simp
  | p :: r, n, k => by
    show costN (joinNode (.cat n (partNode p)) r) k ≤ _
    have h1 := costN_join r (.cat n (partNode p)) k
    have h2 : costN (.cat n (partNode p)) (3 * r.length + k) ≤ 1 + costN n (3 * (r.length + 1) + k) := by
      show 1 + costN n (costN (partNode p) (3 * r.length + k)) ≤ _
      have := costN_mono n (show costN (partNode p) (3 * r.length + k) ≤ 3 * (r.length + 1) + k by have := costN_part p (3 * r.length + k); omega)
      omega
    simp only [List.length_cons]
    omega
theorem costN_row (r : List Part) (hr : r ≠ []) (h3 : r.length ≤ 3) : costN (rowNode r) 0 ≤ 11 := by
  cases r with
  | nil => exact absurd rfl hr
  | cons p r =>
    show costN (joinNode (partNode p) r) 0 ≤ 11
    have h1 := costN_join r (partNode p) 0
    have h2 := costN_part p (3 * r.length + 0)
    simp only [List.length_cons] at h3
    omega
theorem costN_rows (r₁ : List Part) (rs : List (List Part)) (h1 : r₁ ≠ []) (h2 : ∀ r ∈ rs, r ≠ []) (h3 : rs.length ≤ 1) (h4 : r₁.length ≤ 3) (h5 : ∀ r ∈ rs, r.length ≤ 3) : costN (rowsNode (r₁ :: rs)) 0 ≤ 24 := by
  have a := costN_row r₁ h1 h4
  match rs, h3 with
  | [], _ => show costN (rowNode r₁) 0 ≤ 24; omega
  | [r₂], _ =>
    have b := costN_row r₂ (h2 r₂ (by simp)) (h5 r₂ (by simp))
    show 2 + costN (rowNode r₁) 0 + costN (rowNode r₂) 0 ≤ 24
    omega

/-! places and lengths -/
theorem runTo_le (s : Cps) (i : Nat) (l : Cps) (b : Bool) (h : i ≤ s.length) : runTo s i l b ≤ s.length := by
  have h1 : ((s.drop i).takeWhile (fun c => l.contains c == b)).length ≤ (s.drop i).length := (List.takeWhile_sublist _).length_le
  simp only [List.length_drop] at h1
  unfold runTo
  omega
theorem primEnd_le {s : Cps} {i e : Nat} {p : Prim} (hi : i ≤ s.length) (h : primEnd s i p = some e) : e ≤ s.length := by
  cases p with
  | chars l =>
    simp only [primEnd] at h
    split at h
    · rename_i q
      obtain rfl := Option.some.inj h
      have := congrArg List.length q
      simp only [List.length_take, List.length_drop] at this
      omega
    · cases h
  | len n =>
    simp only [primEnd] at h
    split at h
    · obtain rfl := Option.some.inj h; omega
    · cases h
  | any l =>
    simp only [primEnd, anyAt] at h
    split at h
    · rename_i c hc
      have := (List.getElem?_eq_some_iff.mp hc).1
      split at h
      · obtain rfl := Option.some.inj h; omega
      · cases h
    · cases h
  | span l =>
    simp only [primEnd] at h
    split at h
    · obtain rfl := Option.some.inj h; exact runTo_le s i l true hi
    · cases h
  | brk l =>
    simp only [primEnd] at h
    split at h
    · obtain rfl := Option.some.inj h; omega
    · cases h
  | rem => simp only [primEnd] at h; obtain rfl := Option.some.inj h; exact Nat.le_refl _
theorem cut_len (s : Cps) (i j : Nat) : (cut s i j).length ≤ s.length := by
  simp only [cut, List.length_drop, List.length_take]; omega
noncomputable def okW (M : Nat) (w : W2) : Prop := w.1.length ≤ M ∧ w.2.length ≤ M
noncomputable def okL (M : Nat) (l : Named) : Prop := ∀ p ∈ l, p.2.length ≤ M
theorem okW_set {M : Nat} {w : W2} {k : Bool} {t : Cps} (h : okW M w) (ht : t.length ≤ M) : okW M (setW w k t) := by
  unfold setW
  split
  · exact ⟨h.1, ht⟩
  · exact ⟨ht, h.2⟩
theorem okW_mono {M M' : Nat} {w : W2} (h : okW M w) (hm : M ≤ M') : okW M' w := ⟨Nat.le_trans h.1 hm, Nat.le_trans h.2 hm⟩
theorem okW_give {M : Nat} : ∀ (l : Named) {w : W2}, okW M w → okL M l → okW M (give l w)
  | [], _, h, _ => h
  | p :: r, w, h, hl => okW_give r (okW_set h (hl p (.head _))) fun q hq => hl q (.tail _ hq)
theorem okL_snoc {M : Nat} {l : Named} {k : Bool} {t : Cps} (h : okL M l) (ht : t.length ≤ M) : okL M (l ++ [(k, t)]) := by
  intro p hp
  rcases List.mem_append.mp hp with q | q
  · exact h p q
  · rw [List.mem_singleton.mp q]; exact ht
theorem met_ok {M : Nat} {s : Cps} (hs : s.length ≤ M) : ∀ (r : List Part) {i : Nat} {l : Named} {w : W2}, okW M w → okL M l →
    okW M (met s r i l w).2 ∧ ∀ m, (met s r i l w).1 = some m → okL M m.2
  | [], i, l, w, hw, hl => ⟨hw, fun m e => by cases e; exact hl⟩
  | p :: r, i, l, w, hw, hl => by
    simp only [met]
    cases primEnd s i p.prim with
    | none => exact ⟨hw, fun m e => nomatch e⟩
    | some e =>
      have hc := Nat.le_trans (cut_len s i e) hs
      cases p.form with
      | plain => exact met_ok hs r hw hl
      | later k => exact met_ok hs r hw (okL_snoc hl hc)
      | now k => exact met_ok hs r (okW_set hw hc) hl
theorem atRows_ok {M : Nat} {s : Cps} (hs : s.length ≤ M) (b : Nat) : ∀ (rs : List (List Part)) {w : W2}, okW M w → okW M (atRows s b rs w).2 ∧ ∀ m, (atRows s b rs w).1 = some m → okL M m.2
  | [], w, hw => ⟨hw, fun m e => nomatch e⟩
  | r :: rs, w, hw => by
    have h := met_ok hs r (i := b) hw (l := []) (fun p hp => nomatch hp)
    simp only [atRows]
    rcases hq : met s r b [] w with ⟨_ | m, w'⟩
    · rw [hq] at h; exact atRows_ok hs b rs h.1
    · rw [hq] at h; exact h
theorem search_ok {M : Nat} {f : Nat → W2 → Option (Nat × Named) × W2} (hf : ∀ b w, okW M w → okW M (f b w).2 ∧ ∀ m, (f b w).1 = some m → okL M m.2) : ∀ (bs : List Nat) {w : W2}, okW M w →
    okW M (search f bs w).2 ∧ ∀ m, (search f bs w).1 = some m → okL M m.2.2
  | [], w, hw => ⟨hw, fun m e => nomatch e⟩
  | b :: bs, w, hw => by
    have h := hf b w hw
    simp only [search]
    rcases hq : f b w with ⟨_ | m, w'⟩
    · rw [hq] at h; exact search_ok hf bs h.1
    · rw [hq] at h; exact ⟨h.1, fun m' e => by cases e; exact h.2 m rfl⟩
theorem told_len {M form : Nat} {w : W2} {t : Cps} (h1 : 1 ≤ M) (hw : okW M w) (h : told form w = some t) : t.length ≤ M := by
  unfold told at h
  split at h <;> cases h
  · exact Nat.zero_le _
  · exact h1
  · exact hw.1
  · exact hw.2
theorem once_ok {M : Nat} {rows : List (List Part)} {s : Cps} {anch : Bool} {form : Nat} {w : W2} (h1 : 1 ≤ M) (hs : s.length ≤ M) (hw : okW M w) :
    okW M (once rows s anch form w).2 ∧ ∀ t, (once rows s anch form w).1 = some t → t.length ≤ 3 * M := by
  have h := search_ok (fun b w hw => atRows_ok hs b rows hw) (begins anch s) hw
  simp only [once, onceBy]
  rcases hq : search (fun b w => atRows s b rows w) (begins anch s) w with ⟨_ | ⟨b, e, l⟩, w'⟩
  · rw [hq] at h; exact ⟨h.1, fun t e => nomatch e⟩
  · rw [hq] at h
    have hg := okW_give l h.1 (h.2 _ rfl)
    refine ⟨hg, fun t e' => ?_⟩
    simp only at e'
    rw [Option.map_eq_some_iff] at e'
    obtain ⟨u, hu, rfl⟩ := e'
    have := told_len h1 hg hu
    simp only [List.length_append, List.length_take, List.length_drop]
    omega

/-! an effect told twice is told once -/
theorem give_append (a b : Named) (w : W2) : give (a ++ b) w = give b (give a w) := by simp [give, List.foldl_append]
noncomputable def lastOf (k : Bool) (d : Cps) : Named → Cps
  | [] => d
  | p :: r => lastOf k (if p.1 = k then p.2 else d) r
theorem give_eq : ∀ (l : Named) (w : W2), give l w = (lastOf false w.1 l, lastOf true w.2 l)
  | [], _ => rfl
  | (k, t) :: r, w => by
    show give r (setW w k t) = _
    rw [give_eq r]
    cases k <;> simp [setW, lastOf]
theorem lastOf_again (k : Bool) : ∀ (l : Named) (d d' : Cps), lastOf k (lastOf k d l) l = lastOf k d l ∧ (lastOf k d' l = lastOf k d l ∨ (lastOf k d l = d ∧ lastOf k d' l = d'))
  | [], d, d' => ⟨rfl, .inr ⟨rfl, rfl⟩⟩
  | p :: r, d, d' => by
    simp only [lastOf]
    by_cases h : p.1 = k
    · simp only [h, if_true]; exact ⟨trivial, .inl trivial⟩
    · simp only [h, if_false]
      exact lastOf_again k r d d'
theorem give_twice (l : Named) (w : W2) : give l (give l w) = give l w := by
  rw [give_eq l (give l w), give_eq l w]
  simp only [(lastOf_again _ l _ []).1]
/-- what a reading does is a list of gifts that hangs on nothing of w -/
noncomputable def Fixed {α : Type} (f : W2 → Option α × W2) : Prop := ∃ (o : Option α) (g : Named), ∀ w, f w = (o, give g w)
theorem met_fixed (s : Cps) : ∀ (r : List Part) (i : Nat) (l : Named), Fixed (met s r i l)
  | [], i, l => ⟨some (i, l), [], fun _ => rfl⟩
  | p :: r, i, l => by
    cases h : primEnd s i p.prim with
    | none => exact ⟨none, [], fun w => by simp only [met, h]; rfl⟩
    | some e =>
      cases hf : p.form with
      | plain => obtain ⟨o, g, hg⟩ := met_fixed s r e l; exact ⟨o, g, fun w => by simp only [met, h, hf]; exact hg w⟩
      | later k => obtain ⟨o, g, hg⟩ := met_fixed s r e (l ++ [(k, cut s i e)]); exact ⟨o, g, fun w => by simp only [met, h, hf]; exact hg w⟩
      | now k => obtain ⟨o, g, hg⟩ := met_fixed s r e l; exact ⟨o, (k, cut s i e) :: g, fun w => by simp only [met, h, hf]; rw [hg]; rfl⟩
theorem atRows_fixed (s : Cps) (b : Nat) : ∀ rs : List (List Part), Fixed (atRows s b rs)
  | [] => ⟨none, [], fun _ => rfl⟩
  | r :: rs => by
    obtain ⟨o, g, hg⟩ := met_fixed s r b []
    cases o with
    | some m => exact ⟨some m, g, fun w => by simp only [atRows, hg]⟩
    | none =>
      obtain ⟨o', g', hg'⟩ := atRows_fixed s b rs
      exact ⟨o', g ++ g', fun w => by simp only [atRows, hg]; rw [hg', give_append]⟩
theorem search_fixed {f : Nat → W2 → Option (Nat × Named) × W2} (hf : ∀ b, Fixed (f b)) : ∀ bs : List Nat, Fixed (search f bs)
  | [] => ⟨none, [], fun _ => rfl⟩
  | b :: bs => by
    obtain ⟨o, g, hg⟩ := hf b
    cases o with
    | some m => exact ⟨some (b, m), g, fun w => by simp only [search, hg]⟩
    | none =>
      obtain ⟨o', g', hg'⟩ := search_fixed hf bs
      exact ⟨o', g ++ g', fun w => by simp only [search, hg]; rw [hg', give_append]⟩
theorem told_none {form : Nat} {w : W2} (h : told form w = none) (w' : W2) : told form w' = none := by
  match form, h with
  | 0, h => cases h
  | 1, h => cases h
  | 2, h => cases h
  | 3, h => cases h
  | n + 4, _ => rfl
theorem once_again {rows : List (List Part)} {s : Cps} {anch : Bool} {form : Nat} {w w' : W2} (h : once rows s anch form w = (none, w')) : once rows s anch form w' = (none, w') := by
  obtain ⟨o, g, hg⟩ := search_fixed (fun b => atRows_fixed s b rows) (begins anch s)
  simp only [once, onceBy, hg] at h ⊢
  cases o with
  | none =>
    simp only [Prod.mk.injEq, true_and] at h ⊢
    rw [← h, give_twice]
  | some m =>
    obtain ⟨b, e, l⟩ := m
    simp only [Prod.mk.injEq, Option.map_eq_none_iff] at h ⊢
    obtain ⟨h1, h2⟩ := h
    refine ⟨told_none h1 _, ?_⟩
    have e1 : ∀ v, give l (give g v) = give (g ++ l) v := fun v => (give_append g l v).symm
    rw [← h2, e1, e1]
    exact give_twice _ _
/-- how many names a whole row gives -/
theorem met_names (s : Cps) : ∀ (r : List Part) {i : Nat} {l : Named} {w : W2} {m : Nat × Named}, (met s r i l w).1 = some m → m.2.length ≤ l.length + r.length
  | [], i, l, w, m, h => by cases h; simp
  | p :: r, i, l, w, m, h => by
    simp only [met] at h
    cases hp : primEnd s i p.prim with
    | none => rw [hp] at h; cases h
    | some e =>
      rw [hp] at h
      simp only [List.length_cons]
      cases hf : p.form with
      | plain => rw [hf] at h; have := met_names s r h; omega
      | later k => rw [hf] at h; have := met_names s r h; simp only [List.length_append, List.length_cons, List.length_nil] at this; omega
      | now k => rw [hf] at h; have := met_names s r h; omega
theorem atRows_names {s : Cps} {b : Nat} : ∀ {rs : List (List Part)} {w : W2} {m : Nat × Named}, (∀ r ∈ rs, r.length ≤ 3) → (atRows s b rs w).1 = some m → m.2.length ≤ 3
  | [], w, m, _, h => nomatch h
  | r :: rs, w, m, hr, h => by
    simp only [atRows] at h
    rcases hq : met s r b [] w with ⟨_ | m', w'⟩
    · rw [hq] at h; exact atRows_names (fun q hq => hr q (.tail _ hq)) h
    · rw [hq] at h
      cases h
      have := met_names s r (i := b) (l := []) (w := w) (m := m) (by rw [hq])
      have h3 := hr r (.head _)
      simp only [List.length_nil] at this
      omega
theorem search_names {f : Nat → W2 → Option (Nat × Named) × W2} (hf : ∀ b w m, (f b w).1 = some m → m.2.length ≤ 3) : ∀ {bs : List Nat} {w : W2} {m : Nat × Nat × Named}, (search f bs w).1 = some m → m.2.2.length ≤ 3
  | [], w, m, h => nomatch h
  | b :: bs, w, m, h => by
    simp only [search] at h
    rcases hq : f b w with ⟨_ | m', w'⟩
    · rw [hq] at h; exact search_names hf h
    · rw [hq] at h; cases h; exact hf b w m' (by rw [hq])

/-! Rules -/
/-! texts as lists of code points -/
theorem tx_len (l : Cps) : (tx l).length = l.length := by simp [tx, Str.length]
theorem tx_cps (l : Cps) : (tx l).cps.toList = l := by simp [tx]
theorem tx_inj {a b : Cps} : tx a = tx b ↔ a = b := by
  constructor
  · intro h; have := congrArg (fun s : Str => s.cps.toList) h; simpa [tx] using this
  · rintro rfl; rfl
theorem tx_app (a b : Cps) : tx a ++ tx b = tx (a ++ b) := by
  show Str.mk (a.toArray ++ b.toArray) = _
  simp [tx]
theorem filterMap_get (l : Cps) : ∀ (n a : Nat), ((List.range n).map fun (k : Nat) => ((a : Int) + 1 * (k : Int)).toNat).filterMap (l.toArray[·]?) = (l.drop a).take n
  | 0, a => by simp
  | n + 1, a => by
    rw [List.range_succ, List.map_append, List.filterMap_append, filterMap_get l n a]
    have e : ((a : Int) + 1 * (n : Int)).toNat = a + n := by omega
    simp only [List.map_cons, List.map_nil, List.filterMap_cons, List.filterMap_nil, e]
    rw [List.take_add_one]
    congr 1
    simp only [List.getElem?_toArray, List.getElem?_drop]
    cases l[a + n]? <;> rfl
theorem slice_idx (l : Cps) (a b : Nat) : ((sliceRange (a : Int) (b : Int) 1).filterMap (l.toArray[·]?)) = (l.drop a).take (b - a) := by
  unfold sliceRange
  simp only [show (1 : Int) > 0 by decide, if_true, Int.ediv_one]
  by_cases h : (a : Int) < (b : Int)
  · rw [if_pos h]
    have e : ((b : Int) - (a : Int) + 1 - 1).toNat = b - a := by omega
    rw [e]
    exact filterMap_get l (b - a) a
  · rw [if_neg h]
    have e : b - a = 0 := by omega
    simp [e]
theorem slice_len_full (l : Cps) (a b : Nat) (hb : b ≤ l.length) (h : (sliceRange (a : Int) (b : Int) 1).length = l.length) : (l.drop a).take (b - a) = l := by
  unfold sliceRange at h
  simp only [show (1 : Int) > 0 by decide, if_true, Int.ediv_one, List.length_map, List.length_range] at h
  by_cases hab : (a : Int) < (b : Int)
  · rw [if_pos hab] at h
    have e : a = 0 ∧ b = l.length := by omega
    obtain ⟨rfl, rfl⟩ := e
    simp
  · rw [if_neg hab] at h
    have : l = [] := List.length_eq_zero_iff.mp (by simpa using h.symm)
    subst this
    simp
theorem slice_gen (l : Cps) (lo hi : Option Int) (a b : Nat) (hb : b ≤ l.length)
    (e : PySem.Builtin.Str.strSliceIndices lo hi 1 (tx l).length = sliceRange (a : Int) (b : Int) 1) : PySem.Txt.slice (tx l) lo hi = tx ((l.drop a).take (b - a)) := by
  unfold PySem.Txt.slice
  rw [e]
  split
  · rename_i h
    rw [tx_inj]
    refine (slice_len_full l a b hb ?_).symm
    simpa [tx_len] using h
  · show Str.mk _ = _
    rw [show (tx l).cps = l.toArray from rfl, slice_idx]
    rfl
theorem clipN (a n : Nat) : max (0 : Int) (min (if (a : Int) < 0 then (a : Int) + (n : Int) else (a : Int)) (n : Int)) = ((min a n : Nat) : Int) := by
  rw [if_neg (Int.not_lt.mpr (Int.natCast_nonneg a))]
  rcases Nat.le_total a n with h | h
  · rw [Nat.min_eq_left h, Int.min_eq_left (Int.ofNat_le.mpr h), Int.max_eq_right (Int.natCast_nonneg a)]
  · rw [Nat.min_eq_right h, Int.min_eq_right (Int.ofNat_le.mpr h), Int.max_eq_right (Int.natCast_nonneg n)]
theorem slice_ss (l : Cps) (i j : Int) (hi : 0 ≤ i) (hj : 0 ≤ j) : PySem.Txt.slice (tx l) (some i) (some j) = tx (cut l i.toNat j.toNat) := by
  obtain ⟨a, rfl⟩ := Int.eq_ofNat_of_zero_le hi
  obtain ⟨b, rfl⟩ := Int.eq_ofNat_of_zero_le hj
  have h := slice_gen l (some a) (some b) (min a l.length) (min b l.length) (Nat.min_le_right _ _) (by
    unfold PySem.Builtin.Str.strSliceIndices
    simp only [tx_len, show (1 : Int) > 0 by decide, if_true]
    rw [clipN, clipN])
  have e1 : l.drop (min a l.length) = l.drop a := List.drop_eq_drop_iff.mpr (by rw [Nat.min_assoc, Nat.min_self])
  rw [h, tx_inj, Int.toNat_natCast, Int.toNat_natCast, cut, List.drop_take, e1, List.take_eq_take_iff, List.length_drop]
  rcases Nat.le_total b l.length with hb | hb
  · rw [Nat.min_eq_left hb]
    rcases Nat.le_total a l.length with ha | ha
    · rw [Nat.min_eq_left ha]
    · rw [Nat.min_eq_right ha, Nat.sub_eq_zero_of_le ha, Nat.min_zero, Nat.min_zero]
  · rw [Nat.min_eq_right hb]
    rcases Nat.le_total a l.length with ha | ha
    · rw [Nat.min_eq_left ha, Nat.min_self, Nat.min_eq_right (Nat.sub_le_sub_right hb a)]
    · rw [Nat.min_eq_right ha, Nat.sub_eq_zero_of_le ha, Nat.min_zero, Nat.min_zero]
theorem slice_ns (l : Cps) (j : Int) (hj : 0 ≤ j) : PySem.Txt.slice (tx l) none (some j) = tx (l.take j.toNat) := by
  obtain ⟨b, rfl⟩ := Int.eq_ofNat_of_zero_le hj
  have h := slice_gen l none (some b) 0 (min b l.length) (Nat.min_le_right _ _) (by
    unfold PySem.Builtin.Str.strSliceIndices
    simp only [tx_len, show (1 : Int) > 0 by decide, if_true]
    rw [clipN]; rfl)
  rw [h, tx_inj, Int.toNat_natCast, List.drop_zero, Nat.sub_zero, List.take_eq_take_iff, Nat.min_assoc, Nat.min_self]
theorem slice_sn (l : Cps) (i : Int) (hi : 0 ≤ i) : PySem.Txt.slice (tx l) (some i) none = tx (l.drop i.toNat) := by
  obtain ⟨a, rfl⟩ := Int.eq_ofNat_of_zero_le hi
  have h := slice_gen l (some a) none (min a l.length) l.length (Nat.le_refl _) (by
    unfold PySem.Builtin.Str.strSliceIndices
    simp only [tx_len, show (1 : Int) > 0 by decide, if_true]
    rw [clipN])
  have e1 : l.drop (min a l.length) = l.drop a := List.drop_eq_drop_iff.mpr (by rw [Nat.min_assoc, Nat.min_self])
  rw [h, tx_inj, Int.toNat_natCast, e1]
  exact List.take_of_length_le (by rw [List.length_drop]; omega)
section
variable {prog : Program} {w : World} {A : Around} {E : Value → Shared → Prop} {s : Shared} {value slice : Expr} {l l' : Cps} {t u : Tok} {h₀ : Heap} {L : Addr} {m : Str → Option Value} {news : List (Addr × Obj)} {Q : Value → Shared → Prop}
theorem len_tx (hfit : l.length ≤ 16777216) (h : ∀ k t', Q (.int (l.length : Nat) t') { s with toks := k }) : wpAny (model prog w) A (call (.builtin "len") [.str (tx l) t]) Q E s := by
  refine P.len_str (by rw [tx_len]; omega) ?_
  rw [tx_len]
  exact h _ _
theorem eq_tx (h : Q (.bool (decide (l = l'))) s) : wpAny (model prog w) A (compareOp .Eq (.str (tx l) t) (.str (tx l') u)) Q E s := by
  refine P.eq_str ?_
  rw [tx_cps, tx_cps]
  have e : (l == l') = decide (l = l') := by
    by_cases q : l = l'
    · subst q; simp
    · simp [q]
  rw [e]; exact h
theorem ne_tx (h : Q (.bool (decide (l ≠ l'))) s) : wpAny (model prog w) A (compareOp .NotEq (.str (tx l) t) (.str (tx l') u)) Q E s := by
  refine P.ne_str ?_
  rw [tx_cps, tx_cps]
  have e : (l != l') = decide (l ≠ l') := by
    by_cases q : l = l'
    · subst q; simp
    · simp [q]
  rw [e]; exact h
theorem in_tx {c : Nat} (h : Q (.bool (l.contains c)) s) : wpAny (model prog w) A (compareOp .In (.str (tx [c]) u) (.str (tx l) t)) Q E s := by
  refine P.in_str ?_
  have e := StrLaws.found_one (tx l) c
  rw [show tx [c] = ⟨#[c]⟩ from rfl, e, tx_cps]
  have e2 : decide (c ∈ l) = l.contains c := by simp
  rw [e2]; exact h
theorem add_tx (hsz : l.length + l'.length ≤ 16777216) (h : ∀ t' k, Q (.str (tx (l ++ l')) t') { s with toks := k }) : wpAny (model prog w) A (binaryOp .Add (.str (tx l) t) (.str (tx l') u)) Q E s := by
  refine SB.add (hsz := by rw [tx_len, tx_len, sizeLine_eq]; exact hsz) fun t' k => ?_
  rw [tx_app]
  exact h t' k
theorem item_tx {i : Int} (h0 : 0 ≤ i) (h1 : i < (l.length : Int)) (hn : l.length ≤ 16777216) (h : ∀ c, l[i.toNat]? = some c → Q (.str (tx [c]) s.toks) { s with toks := s.toks + 1 })
    (hs : subscripted slice false (.str (tx l) t) (.int i u) = operate [.str (tx l) t, .int i u] (getItem (.str (tx l) t) (.int i u)) := by with_unfolding_all rfl)
    (ht : ∀ r, letTemporaryGo value (.str (tx l) t) r = pure () := by intro _; with_unfolding_all rfl) :
    wpAny (model prog w) A (subscriptTail value slice (.str (tx l) t) (.int i u)) Q E s := by
  refine item_str (fitsSsize_of (N := 9223372036854775808) (by omega) (by omega) (Int.le_refl _)) (by rw [tx_len]; omega) (by rw [tx_len]; omega) (fun _ => ?_) hs ht
  have hlt : i.toNat < l.length := by omega
  have e2 : PySem.Txt.item (tx l) i = tx [l[i.toNat]] := item_meets h0 (by simp [tx, hlt])
  rw [e2]
  exact h _ (by simp [hlt])
theorem slice_tx_ss {i j : Int} {ui uj : Tok} (hF : Fr h₀ L s.heap m) (hN : News h₀ L s.heap news) (hi : 0 ≤ i) (hj : 0 ≤ j) (hn : l.length ≤ 16777216) (h : ∀ h' t' k, Fr h₀ L h' m → News h₀ L h' news → Q (.str (tx (cut l i.toNat j.toNat)) t') { s with heap := h', toks := k })
    (hs : subscripted slice false (.str (tx l) t) (.ref s.heap.objs.size) = operate [.ref s.heap.objs.size, .str (tx l) t] (getItem (.str (tx l) t) (.ref s.heap.objs.size)) := by with_unfolding_all rfl)
    (ht : ∀ r, letTemporaryGo value (.str (tx l) t) r = pure () := by intro _; with_unfolding_all rfl) :
    wpAny (model prog w) A (subscriptTail value slice (.str (tx l) t) (.ref s.heap.objs.size)) Q E { s with heap := s.heap.push { cls := .type "slice", data := .fields #[.int i ui, .int j uj, .none] } } := by
  refine slice_strN_ss hF hN (fun h' t' k a b => ?_) hs ht (by rw [tx_len, sizeLine_eq]; exact hn)
  rw [slice_ss l i j hi hj]
  exact h h' t' k a b
theorem slice_tx_ns {j : Int} {uj : Tok} (hF : Fr h₀ L s.heap m) (hN : News h₀ L s.heap news) (hj : 0 ≤ j) (hn : l.length ≤ 16777216) (h : ∀ h' t' k, Fr h₀ L h' m → News h₀ L h' news → Q (.str (tx (l.take j.toNat)) t') { s with heap := h', toks := k })
    (hs : subscripted slice false (.str (tx l) t) (.ref s.heap.objs.size) = operate [.ref s.heap.objs.size, .str (tx l) t] (getItem (.str (tx l) t) (.ref s.heap.objs.size)) := by with_unfolding_all rfl)
    (ht : ∀ r, letTemporaryGo value (.str (tx l) t) r = pure () := by intro _; with_unfolding_all rfl) :
    wpAny (model prog w) A (subscriptTail value slice (.str (tx l) t) (.ref s.heap.objs.size)) Q E { s with heap := s.heap.push { cls := .type "slice", data := .fields #[.none, .int j uj, .none] } } := by
  refine slice_strN_ns hF hN (fun h' t' k a b => ?_) hs ht (by rw [tx_len, sizeLine_eq]; exact hn)
  rw [slice_ns l j hj]
  exact h h' t' k a b
theorem slice_tx_sn {i : Int} {ui : Tok} (hF : Fr h₀ L s.heap m) (hN : News h₀ L s.heap news) (hi : 0 ≤ i) (hn : l.length ≤ 16777216) (h : ∀ h' t' k, Fr h₀ L h' m → News h₀ L h' news → Q (.str (tx (l.drop i.toNat)) t') { s with heap := h', toks := k })
    (hs : subscripted slice false (.str (tx l) t) (.ref s.heap.objs.size) = operate [.ref s.heap.objs.size, .str (tx l) t] (getItem (.str (tx l) t) (.ref s.heap.objs.size)) := by with_unfolding_all rfl)
    (ht : ∀ r, letTemporaryGo value (.str (tx l) t) r = pure () := by intro _; with_unfolding_all rfl) :
    wpAny (model prog w) A (subscriptTail value slice (.str (tx l) t) (.ref s.heap.objs.size)) Q E { s with heap := s.heap.push { cls := .type "slice", data := .fields #[.int i ui, .none, .none] } } := by
  refine slice_strN_sn hF hN (fun h' t' k a b => ?_) hs ht (by rw [tx_len, sizeLine_eq]; exact hn)
  rw [slice_sn l i hi]
  exact h h' t' k a b
end

/-! Lines -/
theorem fac {α : Type} {p : α → Prop} {a : α} {l : List α} (h : p a) (t : ∀ x ∈ l, p x) : ∀ x ∈ a :: l, p x := List.forall_mem_cons.mpr ⟨h, t⟩
theorem facNil {α : Type} {p : α → Prop} : ∀ x ∈ ([] : List α), p x := fun _ h => nomatch h
local macro_rules | `(tactic| k_all) => `(tactic| first | exact facNil | (refine' fac ?a ?b; (case a => k_ne); (case b => k_all)))
theorem cj1 {x1 a b : Prop} (h : x1 ∧ a ∧ b) : a := h.2.1
theorem cj2 {x1 x2 a b : Prop} (h : x1 ∧ x2 ∧ a ∧ b) : a := h.2.2.1
theorem cj3 {x1 x2 x3 a b : Prop} (h : x1 ∧ x2 ∧ x3 ∧ a ∧ b) : a := h.2.2.2.1
theorem cj4 {x1 x2 x3 x4 a b : Prop} (h : x1 ∧ x2 ∧ x3 ∧ x4 ∧ a ∧ b) : a := h.2.2.2.2.1
theorem cj5 {x1 x2 x3 x4 x5 a b : Prop} (h : x1 ∧ x2 ∧ x3 ∧ x4 ∧ x5 ∧ a ∧ b) : a := h.2.2.2.2.2.1
theorem cj6 {x1 x2 x3 x4 x5 x6 a b : Prop} (h : x1 ∧ x2 ∧ x3 ∧ x4 ∧ x5 ∧ x6 ∧ a ∧ b) : a := h.2.2.2.2.2.2.1
theorem cj7 {x1 x2 x3 x4 x5 x6 x7 a b : Prop} (h : x1 ∧ x2 ∧ x3 ∧ x4 ∧ x5 ∧ x6 ∧ x7 ∧ a ∧ b) : a := h.2.2.2.2.2.2.2.1
theorem cj8 {x1 x2 x3 x4 x5 x6 x7 x8 a b : Prop} (h : x1 ∧ x2 ∧ x3 ∧ x4 ∧ x5 ∧ x6 ∧ x7 ∧ x8 ∧ a ∧ b) : a := h.2.2.2.2.2.2.2.2.1
theorem cj9 {x1 x2 x3 x4 x5 x6 x7 x8 x9 a b : Prop} (h : x1 ∧ x2 ∧ x3 ∧ x4 ∧ x5 ∧ x6 ∧ x7 ∧ x8 ∧ x9 ∧ a ∧ b) : a := h.2.2.2.2.2.2.2.2.2.1
theorem cj10 {x1 x2 x3 x4 x5 x6 x7 x8 x9 x10 a b : Prop} (h : x1 ∧ x2 ∧ x3 ∧ x4 ∧ x5 ∧ x6 ∧ x7 ∧ x8 ∧ x9 ∧ x10 ∧ a ∧ b) : a := h.2.2.2.2.2.2.2.2.2.2.1
theorem cj11 {x1 x2 x3 x4 x5 x6 x7 x8 x9 x10 x11 a b : Prop} (h : x1 ∧ x2 ∧ x3 ∧ x4 ∧ x5 ∧ x6 ∧ x7 ∧ x8 ∧ x9 ∧ x10 ∧ x11 ∧ a ∧ b) : a := h.2.2.2.2.2.2.2.2.2.2.2.1
theorem cj12 {x1 x2 x3 x4 x5 x6 x7 x8 x9 x10 x11 x12 a b : Prop} (h : x1 ∧ x2 ∧ x3 ∧ x4 ∧ x5 ∧ x6 ∧ x7 ∧ x8 ∧ x9 ∧ x10 ∧ x11 ∧ x12 ∧ a ∧ b) : a := h.2.2.2.2.2.2.2.2.2.2.2.2.1
theorem cj13 {x1 x2 x3 x4 x5 x6 x7 x8 x9 x10 x11 x12 x13 a b : Prop} (h : x1 ∧ x2 ∧ x3 ∧ x4 ∧ x5 ∧ x6 ∧ x7 ∧ x8 ∧ x9 ∧ x10 ∧ x11 ∧ x12 ∧ x13 ∧ a ∧ b) : a := h.2.2.2.2.2.2.2.2.2.2.2.2.2.1
theorem words1 : True := by
  k_with "ao" => (first | assumption | omega)
  k_with "aos" => (first | assumption | omega | (simp only [cut, List.length_take, List.length_drop, List.length_append]; omega))
  k_with "mylt" => (first | with_reducible assumption | exact And.left (by with_reducible assumption) | exact cj1 (by with_reducible assumption) | exact cj2 (by with_reducible assumption) | exact cj3 (by with_reducible assumption) | exact cj4 (by with_reducible assumption) | exact cj5 (by with_reducible assumption) | exact cj6 (by with_reducible assumption) | exact cj7 (by with_reducible assumption) | exact cj8 (by with_reducible assumption) | exact cj9 (by with_reducible assumption) | exact cj10 (by with_reducible assumption) | exact cj11 (by with_reducible assumption) | exact cj12 (by with_reducible assumption) | exact cj13 (by with_reducible assumption) | fail "mylt")
  k_with "myne" => (first | with_reducible assumption | exact Ne.symm (by with_reducible assumption) | exact Nat.ne_of_lt (by walk_at "mylt") | exact Nat.ne_of_gt (by walk_at "mylt") | omega)
  trivial

local macro_rules | `(tactic| k_ne) => `(tactic| (refine neN ?_; (try dsimp only); walk_at "myne"))
theorem words2 : True := by
  k_with "call builtin:len" => ((k_here; (with_reducible show wpAny _ _ (PySem.call (Value.builtin "len") [Value.str (Mine.tx _) _]) _ _ _); refine len_tx (by walk_at "aos") ?_; intro _ _; (try dsimp only)))
  k_with "compareOp Eq str str" => ((k_here; (with_reducible show wpAny _ _ (compareOp CmpOp.Eq (Value.str (Mine.tx _) _) (Value.str (Mine.tx _) _)) _ _ _); refine eq_tx ?_; (try dsimp only)))
  k_with "compareOp NotEq str str" => ((k_here; (with_reducible show wpAny _ _ (compareOp CmpOp.NotEq (Value.str (Mine.tx _) _) (Value.str (Mine.tx _) _)) _ _ _); refine ne_tx ?_))
  k_with "compareOp In str str" => ((k_here; (with_reducible show wpAny _ _ (compareOp CmpOp.In (Value.str (Mine.tx [_]) _) (Value.str (Mine.tx _) _)) _ _ _); refine in_tx ?_; (try dsimp only)))
  k_with "binaryOp Add str str" => ((k_here; (with_reducible show wpAny _ _ (binaryOp Operator.Add (Value.str (Mine.tx _) _) (Value.str (Mine.tx _) _)) _ _ _); refine add_tx (by walk_at "aos") ?_; intro _ _; (try dsimp only)))
  k_with "subscriptTail Name Name str int" => ((k_here; (with_reducible show wpAny _ _ (subscriptTail _ _ (Value.str (Mine.tx _) _) (Value.int _ _)) _ _ _); refine item_tx (by walk_at "ao") (by walk_at "ao") (by walk_at "ao") ?_; intro _ _; (try dsimp only)))
  k_with "subscriptTail Name Constant str int" => ((k_here; (with_reducible show wpAny _ _ (subscriptTail _ _ (Value.str (Mine.tx _) _) (Value.int _ _)) _ _ _); refine item_tx (by walk_at "ao") (by walk_at "ao") (by walk_at "ao") ?_; intro _ _; (try dsimp only)))
  trivial
local macro_rules | `(tactic| walk_at "subscriptTail Name Slice str ref") => `(tactic| (k_here; (with_reducible show wpAny _ _ (subscriptTail _ (Expr.Slice _ _ none _) (Value.str (Mine.tx _) _) (Value.ref _)) _ _ _); (with_reducible rename Fr _ _ _ _ => F'); (with_reducible rename News _ _ _ _ => N'); first
  | ((with_reducible show wpAny _ _ (subscriptTail _ (Expr.Slice none (some _) none _) _ _) _ _ _); refine slice_tx_ns (s := ⟨_, _, _, _, _⟩) F' N' (by walk_at "ao") (by walk_at "ao") ?_)
  | ((with_reducible show wpAny _ _ (subscriptTail _ (Expr.Slice (some _) none none _) _ _) _ _ _); refine slice_tx_sn (s := ⟨_, _, _, _, _⟩) F' N' (by walk_at "ao") (by walk_at "ao") ?_)
  | ((with_reducible show wpAny _ _ (subscriptTail _ (Expr.Slice (some _) (some _) none _) _ _) _ _ _); refine slice_tx_ss (s := ⟨_, _, _, _, _⟩) F' N' (by walk_at "ao") (by walk_at "ao") (by walk_at "ao") ?_); intro _ _ _ _ _; (try dsimp only)))
theorem words3 : True := by
  k_with "compareOp NotIn str ref" => ((k_here; k_dflt (first | (refine' notin_tuple_strs (tupK (Frag.In.keeps (by k_asm) (Fr.keep (by k_asm))) ?kl) ?ki ?_; (case kl => k_is); (case ki => repeat constructor)) | (refine' notin_tuple_strs ?kt ?ki ?_; (case kt => exact News.isTup (by k_asm) (by k_mem)); (case ki => repeat constructor)))))
  k_with "compareOp In str ref" => ((k_here; k_dflt (first | (refine' in_tuple_strs (tupK (Frag.In.keeps (by k_asm) (Fr.keep (by k_asm))) ?kl) ?ki ?_; (case kl => k_is); (case ki => repeat constructor)) | (refine' in_tuple_strs ?kt ?ki ?_; (case kt => exact News.isTup (by k_asm) (by k_mem)); (case ki => repeat constructor)))))
  trivial

noncomputable def IsOpt : Value → Option Nat → Prop
  | v, none => v = .none
  | v, some e => ∃ t, v = .int (e : Nat) t
theorem lk_set {x : Str} {v : Value} {l l' : List (Str × Value)} (h : ∀ y, (if y = x then some v else List.lookup y l) = List.lookup y l') : (fun y => if y = x then some v else List.lookup y l) = fun y => List.lookup y l' := funext h
/-- a name set in a frame written as a list -/
noncomputable def setL (x : Str) (v : Value) : List (Str × Value) → List (Str × Value)
  | [] => [(x, v)]
  | p :: r => if x = p.1 then (x, v) :: r else p :: setL x v r
theorem lk_setL (x : Str) (v : Value) : ∀ l : List (Str × Value), (fun y => if y = x then some v else List.lookup y l) = fun y => List.lookup y (setL x v l)
  | [] => by
    funext y
    by_cases h : y = x
    · subst h; simp [setL]
    · have e : (y == x) = false := by simpa using h
      simp only [setL, if_neg h, List.lookup, e]
  | p :: r => by
    have ih := lk_setL x v r
    funext y
    have ihy := congrFun ih y
    by_cases h : y = x
    · subst h
      by_cases h2 : y = p.1
      · simp [setL, h2]
      · have e : (y == p.1) = false := by simpa using h2
        simp only [setL, if_neg h2, List.lookup, e]
        simpa using ihy
    · by_cases h2 : x = p.1
      · have e : (y == x) = false := by simpa using h
        have e2 : (y == p.1) = false := by rw [← h2]; exact e
        simp only [setL, if_pos h2, List.lookup, e, e2, if_neg h]
      · simp only [setL, if_neg h2, List.lookup, if_neg h]
        cases hq : y == p.1 with
        | true => rfl
        | false => simpa [h] using ihy
theorem Fr.asL {h₀ h : Heap} {L : Addr} {x : Str} {v : Value} {l l' : List (Str × Value)} (F : Fr h₀ L h (fun y => if y = x then some v else List.lookup y l)) (e : setL x v l = l' := by rfl) : Fr h₀ L h (fun y => List.lookup y l') := by
  rw [lk_setL, e] at F; exact F
theorem ws2_next {g : Heap} {L : Addr} {s : Shared} {J : Nat → (Str → Option Value) → List (Addr × Obj) → Prop} {Q : Flow → Shared → Prop} {n n' : Nat} {h' : Heap} {tk : Nat} {m' : Str → Option Value} {news' : List (Addr × Obj)}
    (F : Fr g L h' m') (N : News g L h' news') (hn : n' < n) (hJ : J n' m' news') : WhileStep2 g L s J Q n .next { s with heap := h', toks := tk } := ⟨h', tk, m', news', n', rfl, F, N, hn, hJ⟩
section
variable {prog : Program} {w : World} {A : Around} {E : Value → Shared → Prop} {Q : Flow → Shared → Prop} {s : Shared} {env : Env} {h₀ : Heap} {L : Addr}
/-- a while, how a turn ends kept closed -/
theorem While_O {test : Expr} {body : List Stmt} {pos : Pos} {m : Str → Option Value} {news : List (Addr × Obj)} (J : Nat → (Str → Option Value) → List (Addr × Obj) → Prop) {n₀ : Nat}
    (F : Fr h₀ L s.heap m) (N : News h₀ L s.heap news) (hJ : J n₀ m news)
    (turn : ∀ n m₁ news₁ h₁ tk₁ (W : Flow → Shared → Prop), (∀ fl s', WhileStep2 h₀ L s J Q n fl s' → W fl s') → Fr h₀ L h₁ m₁ → News h₀ L h₁ news₁ → J n m₁ news₁ →
      wpAny (model prog w) A (isTrue test env (eval test env)) (fun b s₂ =>
        if b = true then wpAny (model prog w) A (execs body env) W E s₂ else Q .next s₂) E { s with heap := h₁, toks := tk₁ })
    (hE : PassesOwn (model prog w) A env E := by passes_own) :
    wpAny (model prog w) A (exec (.While test body [] pos) env) Q E s :=
  While_inv2 J F N hJ (fun n m₁ news₁ h₁ tk₁ a b c => turn n m₁ news₁ h₁ tk₁ _ (fun _ _ h => h) a b c) hE
end

/-! C1 -/
theorem cut_take (S : Cps) (i n : Nat) : cut S i (i + n) = (S.drop i).take n := by
  unfold cut; rw [List.drop_take]; congr 1; omega
theorem int_add (a b : Nat) : ((a : Int) + (b : Int)).toNat = a + b := by omega
set_option maxRecDepth 100000 in
set_option maxHeartbeats 8000000 in
theorem chars_end_con {w : World} {tP tL mean mg mb news} (S T : Cps) (i : Nat) (ts tt ti : Tok) (hS : S.length ≤ 1000000) (hT : T.length ≤ 1000000) :
    Con w tP tL mean mg mb 1 4 284 news [.str (tx S) ts, .int i ti, .str (tx T) tt] (fun r news' => news' = news ∧ IsOpt r (primEnd S i (.chars T))) := by
  refine' con_of [(Str.ofString "subject", .str (tx S) ts), (Str.ofString "at", .int i ti), (Str.ofString "text", .str (tx T) tt)] ?ho ?hcd ?hb ?hl ?hco ?hge ?hk ?hce ?_
  case ho => k_is
  case hcd => k_is
  case hb => exact fun _ => BindsTo.of_eq rfl
  case hl => exact locs rfl
  case hco => rfl
  case hge => rfl
  case hk => rfl
  case hce => decide
  intro dp un gd outer A₀ base g L s Dn hD B F X N T hlt hd hu
  k_steps
  all_goals ((try dsimp only); refine hD _ _ ?_; refine done_ret (by assumption) (by assumption) ⟨rfl, ?_⟩)
  · rename_i h
    rw [int_add, Int.toNat_natCast, cut_take] at h
    rw [primEnd, if_pos h]
    exact ⟨_, rfl⟩
  · rename_i h
    rw [int_add, Int.toNat_natCast, cut_take] at h
    rw [primEnd, if_neg h]
    rfl
set_option maxRecDepth 100000 in
set_option maxHeartbeats 8000000 in
theorem len_end_con {w : World} {tP tL mean mg mb news} (S : Cps) (i n : Nat) (ts tn ti : Tok) (hS : S.length ≤ 1000000) :
    Con w tP tL mean mg mb 1 4 291 news [.str (tx S) ts, .int i ti, .int n tn] (fun r news' => news' = news ∧ IsOpt r (primEnd S i (.len n))) := by
  refine' con_of [(Str.ofString "subject", .str (tx S) ts), (Str.ofString "at", .int i ti), (Str.ofString "many", .int n tn)] ?ho ?hcd ?hb ?hl ?hco ?hge ?hk ?hce ?_
  case ho => k_is
  case hcd => k_is
  case hb => exact fun _ => BindsTo.of_eq rfl
  case hl => exact locs rfl
  case hco => rfl
  case hge => rfl
  case hk => rfl
  case hce => decide
  intro dp un gd outer A₀ base g L s Dn hD B F X N T hlt hd hu
  k_steps
  all_goals ((try dsimp only); refine hD _ _ ?_; refine done_ret (by assumption) (by assumption) ⟨rfl, ?_⟩)
  · rename_i h
    rw [primEnd, if_pos (by omega)]
    exact ⟨_, rfl⟩
  · rename_i h
    rw [primEnd, if_neg (by omega)]
    rfl
set_option maxRecDepth 100000 in
set_option maxHeartbeats 8000000 in
theorem rem_end_con {w : World} {tP tL mean mg mb news} (S : Cps) (ts : Tok) (hS : S.length ≤ 1000000) :
    Con w tP tL mean mg mb 1 4 326 news [.str (tx S) ts] (fun r news' => news' = news ∧ IsOpt r (some S.length)) := by
  refine' con_of [(Str.ofString "subject", .str (tx S) ts)] ?ho ?hcd ?hb ?hl ?hco ?hge ?hk ?hce ?_
  case ho => k_is
  case hcd => k_is
  case hb => exact fun _ => BindsTo.of_eq rfl
  case hl => exact locs rfl
  case hco => rfl
  case hge => rfl
  case hk => rfl
  case hce => decide
  intro dp un gd outer A₀ base g L s Dn hD B F X N T hlt hd hu
  k_steps
  all_goals ((try dsimp only); refine hD _ _ ?_; exact done_ret (by assumption) (by assumption) ⟨rfl, _, rfl⟩)
set_option maxRecDepth 100000 in
set_option maxHeartbeats 8000000 in
theorem any_at_con {w : World} {tP tL mean mg mb news} (S G : Cps) (i : Nat) (ts tg ti : Tok) (hS : S.length ≤ 1000000) :
    Con w tP tL mean mg mb 1 4 333 news [.str (tx S) ts, .int i ti, .str (tx G) tg] (fun r news' => news' = news ∧ IsOpt r (primEnd S i (.any G))) := by
  refine' con_of [(Str.ofString "subject", .str (tx S) ts), (Str.ofString "at", .int i ti), (Str.ofString "signs", .str (tx G) tg)] ?ho ?hcd ?hb ?hl ?hco ?hge ?hk ?hce ?_
  case ho => k_is
  case hcd => k_is
  case hb => exact fun _ => BindsTo.of_eq rfl
  case hl => exact locs rfl
  case hco => rfl
  case hge => rfl
  case hk => rfl
  case hce => decide
  intro dp un gd outer A₀ base g L s Dn hD B F X N T hlt hd hu
  k_steps
  all_goals ((try dsimp only); refine hD _ _ ?_; refine done_ret (by assumption) (by assumption) ⟨rfl, ?_⟩)
  · rename_i hlt' c hc hin
    rw [Int.toNat_natCast] at hc
    simp only [primEnd, anyAt, hc, hin, if_true]
    exact ⟨_, rfl⟩
  · rename_i hlt' c hc hin
    rw [Int.toNat_natCast] at hc
    simp only [primEnd, anyAt, hc, hin, if_false]
    rfl
  · rename_i hlt'
    simp only [primEnd, anyAt]
    rw [List.getElem?_eq_none (by omega)]
    rfl
theorem runTo_stop {S G : Cps} {j c : Nat} {b : Bool} (h : S[j]? = some c) (hc : (G.contains c == b) = false) : runTo S j G b = j := by
  unfold runTo
  have e : S.drop j = c :: S.drop (j + 1) := by
    have h1 := (List.getElem?_eq_some_iff.mp h)
    rw [← h1.2]; exact List.drop_eq_getElem_cons h1.1
  rw [e, List.takeWhile_cons, hc]; simp
theorem runTo_end {S G : Cps} {j : Nat} {b : Bool} (h : S.length ≤ j) : runTo S j G b = j := by
  unfold runTo; rw [List.drop_of_length_le h]; rfl
theorem runTo_go {S G : Cps} {j c : Nat} {b : Bool} (h : S[j]? = some c) (hc : (G.contains c == b) = true) : runTo S (j + 1) G b = runTo S j G b := by
  unfold runTo
  have e : S.drop j = c :: S.drop (j + 1) := by
    have h1 := (List.getElem?_eq_some_iff.mp h)
    rw [← h1.2]; exact List.drop_eq_getElem_cons h1.1
  rw [e, List.takeWhile_cons, hc]; simp; omega
set_option maxRecDepth 100000 in
set_option maxHeartbeats 8000000 in
theorem run_end_con {w : World} {tP tL mean mg mb news} (S G : Cps) (i : Nat) (b : Bool) (ts tg ti : Tok) (hS : S.length ≤ 1000000) :
    Con w tP tL mean mg mb 1 4 347 news [.str (tx S) ts, .int i ti, .str (tx G) tg, .bool b] (fun r news' => news' = news ∧ ∃ t, r = .int (runTo S i G b : Nat) t) := by
  refine' con_of [(Str.ofString "subject", .str (tx S) ts), (Str.ofString "at", .int i ti), (Str.ofString "signs", .str (tx G) tg), (Str.ofString "is_in", .bool b)] ?ho ?hcd ?hb ?hl ?hco ?hge ?hk ?hce ?_
  case ho => k_is
  case hcd => k_is
  case hb => exact fun _ => BindsTo.of_eq rfl
  case hl => exact locs rfl
  case hco => rfl
  case hge => rfl
  case hk => rfl
  case hce => decide
  intro dp un gd outer A₀ base g L s Dn hD B F X N T hlt hd hu
  refine wpAny_execs_cons ?_
  refine While_O (fun n m' news' => ∃ (j : Nat) (t : Tok), m' = (fun y => List.lookup y [(Str.ofString "is_in", .bool b), (Str.ofString "signs", .str (tx G) tg), (Str.ofString "at", .int (j : Nat) t), (Str.ofString "subject", .str (tx S) ts)]) ∧ n = S.length - j ∧ runTo S j G b = runTo S i G b ∧ news' = news) F N ⟨i, ti, rfl, rfl, rfl, rfl⟩ ?_
  rintro n m₁ news₁ h₁ tk₁ Wa hWa F₁ N₁ ⟨j, t, rfl, rfl, hr, rfl⟩
  k_steps
  · rename_i hlt' c hc hin _ F' N'
    rw [Int.toNat_natCast] at hc
    refine hWa _ _ ?_; exact ws2_next (Fr.asL F') N' (n' := S.length - (j + 1)) (by omega) ⟨j + 1, _, rfl, rfl, (runTo_go hc hin).trans hr, rfl⟩
  · rename_i hlt' c hc hin
    rw [Int.toNat_natCast] at hc
    refine hD _ _ ?_; exact done_ret (by assumption) (by assumption) ⟨rfl, _, by rw [← hr, runTo_stop hc (by simpa using hin)]⟩
  · rename_i hlt'
    refine hD _ _ ?_; exact done_ret (by assumption) (by assumption) ⟨rfl, _, by rw [← hr, runTo_end (by omega)]⟩

/-! C2 -/
theorem words4 : True := by
  k_with "call ref" => ((k_here; (with_reducible show wpAny _ _ (PySem.call (Value.ref 347) _) _ _ _); k_dflt (refine' Con.callA (run_end_con _ _ _ _ _ _ _ ?p1) ?_; (case p1 => omega); intro _ _ _ _ _ _ P'; obtain ⟨e', _, r9⟩ := P'; subst e'; subst r9; (try dsimp only))))
  trivial

set_option maxRecDepth 100000 in
set_option maxHeartbeats 8000000 in
theorem span_end_con {w : World} {tP tL mean mg mb news} (S G : Cps) (i : Nat) (ts tg ti : Tok) (hS : S.length ≤ 1000000) :
    Con w tP tL mean mg mb 2 8 354 news [.str (tx S) ts, .int i ti, .str (tx G) tg] (fun r news' => news' = news ∧ IsOpt r (primEnd S i (.span G))) := by
  refine' con_of [(Str.ofString "subject", .str (tx S) ts), (Str.ofString "at", .int i ti), (Str.ofString "signs", .str (tx G) tg)] ?ho ?hcd ?hb ?hl ?hco ?hge ?hk ?hce ?_
  case ho => k_is
  case hcd => k_is
  case hb => exact fun _ => BindsTo.of_eq rfl
  case hl => exact locs rfl
  case hco => rfl
  case hge => rfl
  case hk => rfl
  case hce => decide
  intro dp un gd outer A₀ base g L s Dn hD B F X N T hlt hd hu
  k_steps
  all_goals ((try dsimp only); refine hD _ _ ?_; refine done_ret (by assumption) (by assumption) ⟨rfl, ?_⟩)
  · rename_i h
    rw [primEnd, if_pos (by omega)]
    exact ⟨_, rfl⟩
  · rename_i h
    rw [primEnd, if_neg (by omega)]
    rfl
set_option maxRecDepth 100000 in
set_option maxHeartbeats 8000000 in
theorem break_end_con {w : World} {tP tL mean mg mb news} (S G : Cps) (i : Nat) (ts tg ti : Tok) (hS : S.length ≤ 1000000) :
    Con w tP tL mean mg mb 2 8 361 news [.str (tx S) ts, .int i ti, .str (tx G) tg] (fun r news' => news' = news ∧ IsOpt r (primEnd S i (.brk G))) := by
  refine' con_of [(Str.ofString "subject", .str (tx S) ts), (Str.ofString "at", .int i ti), (Str.ofString "signs", .str (tx G) tg)] ?ho ?hcd ?hb ?hl ?hco ?hge ?hk ?hce ?_
  case ho => k_is
  case hcd => k_is
  case hb => exact fun _ => BindsTo.of_eq rfl
  case hl => exact locs rfl
  case hco => rfl
  case hge => rfl
  case hk => rfl
  case hce => decide
  intro dp un gd outer A₀ base g L s Dn hD B F X N T hlt hd hu
  k_steps
  all_goals ((try dsimp only); refine hD _ _ ?_; refine done_ret (by assumption) (by assumption) ⟨rfl, ?_⟩)
  · rename_i h
    rw [primEnd, if_pos (by omega)]
    exact ⟨_, rfl⟩
  · rename_i h
    rw [primEnd, if_neg (by omega)]
    rfl

theorem words5 : True := by
  k_with "call ref" => ((k_here; (with_reducible show wpAny _ _ (PySem.call (Value.ref 284) _) _ _ _); k_dflt (refine' Con.callA (chars_end_con _ _ _ _ _ _ ?p1 ?p2) ?_; (case p1 | p2 => omega); intro _ _ _ _ _ _ P'; obtain ⟨e', _⟩ := P'; subst e'; (try dsimp only))))
  k_with "call ref" => ((k_here; (with_reducible show wpAny _ _ (PySem.call (Value.ref 333) _) _ _ _); k_dflt (refine' Con.callA (any_at_con _ _ _ _ _ _ ?p1) ?_; (case p1 => omega); intro _ _ _ _ _ _ P'; obtain ⟨e', _⟩ := P'; subst e'; (try dsimp only))))
  k_with "call ref" => ((k_here; (with_reducible show wpAny _ _ (PySem.call (Value.ref 354) _) _ _ _); k_dflt (refine' Con.callA (span_end_con _ _ _ _ _ _ ?p1) ?_; (case p1 => omega); intro _ _ _ _ _ _ P'; obtain ⟨e', _⟩ := P'; subst e'; (try dsimp only))))
  k_with "call ref" => ((k_here; (with_reducible show wpAny _ _ (PySem.call (Value.ref 361) _) _ _ _); k_dflt (refine' Con.callA (break_end_con _ _ _ _ _ _ ?p1) ?_; (case p1 => omega); intro _ _ _ _ _ _ P'; obtain ⟨e', _⟩ := P'; subst e'; (try dsimp only))))
  k_with "call ref" => ((k_here; (with_reducible show wpAny _ _ (PySem.call (Value.ref 291) _) _ _ _); k_dflt (refine' Con.callA (len_end_con _ _ _ _ _ _ ?p1) ?_; (case p1 => omega); intro _ _ _ _ _ _ P'; obtain ⟨e', _⟩ := P'; subst e'; (try dsimp only))))
  k_with "call ref" => ((k_here; (with_reducible show wpAny _ _ (PySem.call (Value.ref 326) _) _ _ _); k_dflt (refine' Con.callA (rem_end_con _ _ ?p1) ?_; (case p1 => omega); intro _ _ _ _ _ _ P'; obtain ⟨e', _⟩ := P'; subst e'; (try dsimp only))))
  trivial

set_option maxRecDepth 100000 in
set_option maxHeartbeats 8000000 in
theorem one_end_chars {w : World} {tP tL mean mg mb news} (S : Cps) (T : Cps) (i : Nat) (tk ts tt ti : Tok) (hS : S.length ≤ 1000000) (hT : T.length ≤ 1000000) :
    Con w tP tL mean mg mb 3 12 382 news [.str (Str.ofString "chars") tk, .str (tx S) ts, .int i ti, .str (tx T) tt] (fun r news' => news' = news ∧ IsOpt r (primEnd S i (.chars T))) := by
  refine' con_of [(Str.ofString "kind", .str (Str.ofString "chars") tk), (Str.ofString "subject", .str (tx S) ts), (Str.ofString "at", .int i ti), (Str.ofString "told", .str (tx T) tt)] ?ho ?hcd ?hb ?hl ?hco ?hge ?hk ?hce ?_
  case ho => k_is
  case hcd => k_is
  case hb => exact fun _ => BindsTo.of_eq rfl
  case hl => exact locs rfl
  case hco => rfl
  case hge => rfl
  case hk => rfl
  case hce => decide
  intro dp un gd outer A₀ base g L s Dn hD B F X N T hlt hd hu
  k_steps
  all_goals ((try dsimp only); refine hD _ _ ?_; exact done_ret (by assumption) (by assumption) ⟨rfl, by assumption⟩)

set_option maxRecDepth 100000 in
set_option maxHeartbeats 8000000 in
theorem one_end_len {w : World} {tP tL mean mg mb news} (S : Cps) (n : Nat) (i : Nat) (tk ts tt ti : Tok) (hS : S.length ≤ 1000000) :
    Con w tP tL mean mg mb 3 12 382 news [.str (Str.ofString "len") tk, .str (tx S) ts, .int i ti, .int n tt] (fun r news' => news' = news ∧ IsOpt r (primEnd S i (.len n))) := by
  refine' con_of [(Str.ofString "kind", .str (Str.ofString "len") tk), (Str.ofString "subject", .str (tx S) ts), (Str.ofString "at", .int i ti), (Str.ofString "told", .int n tt)] ?ho ?hcd ?hb ?hl ?hco ?hge ?hk ?hce ?_
  case ho => k_is
  case hcd => k_is
  case hb => exact fun _ => BindsTo.of_eq rfl
  case hl => exact locs rfl
  case hco => rfl
  case hge => rfl
  case hk => rfl
  case hce => decide
  intro dp un gd outer A₀ base g L s Dn hD B F X N T hlt hd hu
  k_steps
  all_goals ((try dsimp only); refine hD _ _ ?_; exact done_ret (by assumption) (by assumption) ⟨rfl, by assumption⟩)

set_option maxRecDepth 100000 in
set_option maxHeartbeats 8000000 in
theorem one_end_any {w : World} {tP tL mean mg mb news} (S : Cps) (T : Cps) (i : Nat) (tk ts tt ti : Tok) (hS : S.length ≤ 1000000) :
    Con w tP tL mean mg mb 3 12 382 news [.str (Str.ofString "any") tk, .str (tx S) ts, .int i ti, .str (tx T) tt] (fun r news' => news' = news ∧ IsOpt r (primEnd S i (.any T))) := by
  refine' con_of [(Str.ofString "kind", .str (Str.ofString "any") tk), (Str.ofString "subject", .str (tx S) ts), (Str.ofString "at", .int i ti), (Str.ofString "told", .str (tx T) tt)] ?ho ?hcd ?hb ?hl ?hco ?hge ?hk ?hce ?_
  case ho => k_is
  case hcd => k_is
  case hb => exact fun _ => BindsTo.of_eq rfl
  case hl => exact locs rfl
  case hco => rfl
  case hge => rfl
  case hk => rfl
  case hce => decide
  intro dp un gd outer A₀ base g L s Dn hD B F X N T hlt hd hu
  k_steps
  all_goals ((try dsimp only); refine hD _ _ ?_; exact done_ret (by assumption) (by assumption) ⟨rfl, by assumption⟩)

set_option maxRecDepth 100000 in
set_option maxHeartbeats 8000000 in
theorem one_end_span {w : World} {tP tL mean mg mb news} (S : Cps) (T : Cps) (i : Nat) (tk ts tt ti : Tok) (hS : S.length ≤ 1000000) :
    Con w tP tL mean mg mb 3 12 382 news [.str (Str.ofString "span") tk, .str (tx S) ts, .int i ti, .str (tx T) tt] (fun r news' => news' = news ∧ IsOpt r (primEnd S i (.span T))) := by
  refine' con_of [(Str.ofString "kind", .str (Str.ofString "span") tk), (Str.ofString "subject", .str (tx S) ts), (Str.ofString "at", .int i ti), (Str.ofString "told", .str (tx T) tt)] ?ho ?hcd ?hb ?hl ?hco ?hge ?hk ?hce ?_
  case ho => k_is
  case hcd => k_is
  case hb => exact fun _ => BindsTo.of_eq rfl
  case hl => exact locs rfl
  case hco => rfl
  case hge => rfl
  case hk => rfl
  case hce => decide
  intro dp un gd outer A₀ base g L s Dn hD B F X N T hlt hd hu
  k_steps
  all_goals ((try dsimp only); refine hD _ _ ?_; exact done_ret (by assumption) (by assumption) ⟨rfl, by assumption⟩)

set_option maxRecDepth 100000 in
set_option maxHeartbeats 8000000 in
theorem one_end_break {w : World} {tP tL mean mg mb news} (S : Cps) (T : Cps) (i : Nat) (tk ts tt ti : Tok) (hS : S.length ≤ 1000000) :
    Con w tP tL mean mg mb 3 12 382 news [.str (Str.ofString "break") tk, .str (tx S) ts, .int i ti, .str (tx T) tt] (fun r news' => news' = news ∧ IsOpt r (primEnd S i (.brk T))) := by
  refine' con_of [(Str.ofString "kind", .str (Str.ofString "break") tk), (Str.ofString "subject", .str (tx S) ts), (Str.ofString "at", .int i ti), (Str.ofString "told", .str (tx T) tt)] ?ho ?hcd ?hb ?hl ?hco ?hge ?hk ?hce ?_
  case ho => k_is
  case hcd => k_is
  case hb => exact fun _ => BindsTo.of_eq rfl
  case hl => exact locs rfl
  case hco => rfl
  case hge => rfl
  case hk => rfl
  case hce => decide
  intro dp un gd outer A₀ base g L s Dn hD B F X N T hlt hd hu
  k_steps
  all_goals ((try dsimp only); refine hD _ _ ?_; exact done_ret (by assumption) (by assumption) ⟨rfl, by assumption⟩)


/-! Rep -/
/-! how the ledger bears the matcher's data -/
noncomputable abbrev tup (vs : List Value) : Obj := { cls := .type "tuple", data := .seq vs.toArray }
/-- a prim, at an address -/
noncomputable def PrimIn (im : Led) (a : Addr) : Prim → Prop
  | .chars l => (∃ t u, (a, tup [.str (Str.ofString "chars") t, .str (tx l) u]) ∈ im) ∧ l.length ≤ 1000000
  | .len n => ∃ t u, (a, tup [.str (Str.ofString "len") t, .int (n : Nat) u]) ∈ im
  | .any l => ∃ t u, (a, tup [.str (Str.ofString "any") t, .str (tx l) u]) ∈ im
  | .span l => ∃ t u, (a, tup [.str (Str.ofString "span") t, .str (tx l) u]) ∈ im
  | .brk l => ∃ t u, (a, tup [.str (Str.ofString "break") t, .str (tx l) u]) ∈ im
  | .rem => ∃ t, (a, tup [.str (Str.ofString "rem") t]) ∈ im
/-- the two names' references -/
structure Refs where
  x : Addr
  y : Addr
noncomputable def Refs.at (r : Refs) (k : Bool) : Addr := if k then r.y else r.x
noncomputable def keyOf (k : Bool) : Str := if k then Str.ofString "Y" else Str.ofString "X"
noncomputable def NodeIn (im : Led) (rf : Refs) : Addr → Node → Prop
  | a, .prim p => PrimIn im a p
  | a, .later n k => ∃ b t, (a, tup [.str (Str.ofString "later") t, .ref b, .ref (rf.at k)]) ∈ im ∧ NodeIn im rf b n
  | a, .now n k => ∃ b t, (a, tup [.str (Str.ofString "now") t, .ref b, .ref (rf.at k)]) ∈ im ∧ NodeIn im rf b n
  | a, .cat m n => ∃ b c t, (a, tup [.str (Str.ofString "cat") t, .ref b, .ref c]) ∈ im ∧ NodeIn im rf b m ∧ NodeIn im rf c n
  | a, .alt m n => ∃ b c t, (a, tup [.str (Str.ofString "alt") t, .ref b, .ref c]) ∈ im ∧ NodeIn im rf b m ∧ NodeIn im rf c n
noncomputable def CIIn (im : Led) (rf : Refs) (a : Addr) : CI → Prop
  | .node n => NodeIn im rf a n
  | .later k b => ∃ t u, (a, tup [.str (Str.ofString "end later") t, .ref (rf.at k), .int (b : Nat) u]) ∈ im
  | .now k b => ∃ t u, (a, tup [.str (Str.ofString "end now") t, .ref (rf.at k), .int (b : Nat) u]) ∈ im
noncomputable def ChainIn (im : Led) (rf : Refs) : Value → List CI → Prop
  | v, [] => v = .none
  | v, c :: r => ∃ a h rest, v = .ref a ∧ (a, tup [.ref h, rest]) ∈ im ∧ CIIn im rf h c ∧ ChainIn im rf rest r
noncomputable def NamesIn (im : Led) (rf : Refs) : List Value → Named → Prop
  | [], l => l = []
  | v :: vs, l => ∃ k t r b u, l = (k, t) :: r ∧ v = .ref b ∧ (b, tup [.ref (rf.at k), .str (tx t) u]) ∈ im ∧ NamesIn im rf vs r
noncomputable def NamedIn (im : Led) (rf : Refs) (a : Addr) (l : Named) : Prop := ∃ vs, (a, tup vs) ∈ im ∧ NamesIn im rf vs l
noncomputable def WayIn (im : Led) (rf : Refs) (v : Value) (wy : Way) : Prop :=
  ∃ a ch t nm, v = .ref a ∧ (a, tup [ch, .int (wy.2.1 : Nat) t, .ref nm]) ∈ im ∧ ChainIn im rf ch wy.1 ∧ NamedIn im rf nm wy.2.2
section
variable {im im' : Led} {rf : Refs} (hs : ∀ p ∈ im, p ∈ im')
include hs
theorem PrimIn.mono {a : Addr} {p : Prim} (h : PrimIn im a p) : PrimIn im' a p := by
  cases p <;> first
    | (obtain ⟨⟨t, u, m⟩, q⟩ := h; exact ⟨⟨t, u, hs _ m⟩, q⟩)
    | (obtain ⟨t, u, m⟩ := h; exact ⟨t, u, hs _ m⟩)
    | (obtain ⟨t, m⟩ := h; exact ⟨t, hs _ m⟩)
theorem NodeIn.mono : ∀ {n : Node} {a : Addr}, NodeIn im rf a n → NodeIn im' rf a n
  | .prim p, a, h => PrimIn.mono hs h
  | .later n k, a, ⟨b, t, m, h⟩ => ⟨b, t, hs _ m, NodeIn.mono h⟩
  | .now n k, a, ⟨b, t, m, h⟩ => ⟨b, t, hs _ m, NodeIn.mono h⟩
  | .cat m n, a, ⟨b, c, t, q, h1, h2⟩ => ⟨b, c, t, hs _ q, NodeIn.mono h1, NodeIn.mono h2⟩
  | .alt m n, a, ⟨b, c, t, q, h1, h2⟩ => ⟨b, c, t, hs _ q, NodeIn.mono h1, NodeIn.mono h2⟩
theorem CIIn.mono {c : CI} {a : Addr} (h : CIIn im rf a c) : CIIn im' rf a c := by
  cases c with
  | node n => exact NodeIn.mono hs h
  | later k b => obtain ⟨t, u, m⟩ := h; exact ⟨t, u, hs _ m⟩
  | now k b => obtain ⟨t, u, m⟩ := h; exact ⟨t, u, hs _ m⟩
theorem ChainIn.mono : ∀ {c : List CI} {v : Value}, ChainIn im rf v c → ChainIn im' rf v c
  | [], _, h => h
  | _ :: _, _, ⟨a, h, rest, e, m, h1, h2⟩ => ⟨a, h, rest, e, hs _ m, CIIn.mono hs h1, ChainIn.mono h2⟩
theorem NamesIn.mono : ∀ {vs : List Value} {l : Named}, NamesIn im rf vs l → NamesIn im' rf vs l
  | [], _, h => h
  | _ :: _, _, ⟨k, t, r, b, u, e1, e2, m, h⟩ => ⟨k, t, r, b, u, e1, e2, hs _ m, NamesIn.mono h⟩
theorem NamedIn.mono {a : Addr} {l : Named} (h : NamedIn im rf a l) : NamedIn im' rf a l := let ⟨vs, m, h⟩ := h; ⟨vs, hs _ m, NamesIn.mono hs h⟩
theorem WayIn.mono {v : Value} {wy : Way} (h : WayIn im rf v wy) : WayIn im' rf v wy := let ⟨a, ch, t, nm, e, m, h1, h2⟩ := h; ⟨a, ch, t, nm, e, hs _ m, ChainIn.mono hs h1, NamedIn.mono hs h2⟩
end
theorem NamesIn.snoc {im : Led} {rf : Refs} {k : Bool} {t : Cps} {b : Addr} {u : Tok} (hm : (b, tup [.ref (rf.at k), .str (tx t) u]) ∈ im) : ∀ {vs : List Value} {l : Named}, NamesIn im rf vs l → NamesIn im rf (vs ++ [.ref b]) (l ++ [(k, t)])
  | [], _, h => by cases h; exact ⟨k, t, [], b, u, rfl, rfl, hm, rfl⟩
  | _ :: _, _, ⟨k', t', r, b', u', e1, e2, m, h⟩ => by subst e1; exact ⟨k', t', r ++ [(k, t)], b', u', rfl, e2, m, NamesIn.snoc hm h⟩
theorem NamesIn.length {im : Led} {rf : Refs} : ∀ {vs : List Value} {l : Named}, NamesIn im rf vs l → vs.length = l.length
  | [], _, h => by cases h; rfl
  | _ :: _, _, ⟨_, _, _, _, _, e1, _, _, h⟩ => by subst e1; simp [NamesIn.length h]

/-! C3 -/

theorem words6 : True := by
  k_with "call ref" => ((k_here; (with_reducible show wpAny _ _ (PySem.call (Value.ref 382) _) _ _ _); k_dflt (refine' Con.callA (one_end_chars _ _ _ _ _ _ _ ?p1 ?p2) ?_; (case p1 | p2 => omega); intro _ _ _ _ _ _ P'; obtain ⟨e', _⟩ := P'; subst e'; (try dsimp only))))
  k_with "call ref" => ((k_here; (with_reducible show wpAny _ _ (PySem.call (Value.ref 382) _) _ _ _); k_dflt (refine' Con.callA (one_end_len _ _ _ _ _ _ _ ?p1) ?_; (case p1 => omega); intro _ _ _ _ _ _ P'; obtain ⟨e', _⟩ := P'; subst e'; (try dsimp only))))
  k_with "call ref" => ((k_here; (with_reducible show wpAny _ _ (PySem.call (Value.ref 382) _) _ _ _); k_dflt (refine' Con.callA (one_end_any _ _ _ _ _ _ _ ?p1) ?_; (case p1 => omega); intro _ _ _ _ _ _ P'; obtain ⟨e', _⟩ := P'; subst e'; (try dsimp only))))
  k_with "call ref" => ((k_here; (with_reducible show wpAny _ _ (PySem.call (Value.ref 382) _) _ _ _); k_dflt (refine' Con.callA (one_end_span _ _ _ _ _ _ _ ?p1) ?_; (case p1 => omega); intro _ _ _ _ _ _ P'; obtain ⟨e', _⟩ := P'; subst e'; (try dsimp only))))
  k_with "call ref" => ((k_here; (with_reducible show wpAny _ _ (PySem.call (Value.ref 382) _) _ _ _); k_dflt (refine' Con.callA (one_end_break _ _ _ _ _ _ _ ?p1) ?_; (case p1 => omega); intro _ _ _ _ _ _ P'; obtain ⟨e', _⟩ := P'; subst e'; (try dsimp only))))
  k_with "call ref" => ((k_here; (with_reducible show wpAny _ _ (PySem.call (Value.ref 326) _) _ _ _); k_dflt (refine' Con.callA (rem_end_con _ _ ?p1) ?_; (case p1 => omega); intro _ _ _ _ _ _ P'; obtain ⟨e', _⟩ := P'; subst e'; (try dsimp only))))
  trivial

set_option maxRecDepth 100000 in
set_option maxHeartbeats 8000000 in
theorem plain_end_con {w : World} {tP tL mean mg mb news} (p : Prim) (a : Addr) (S : Cps) (i : Nat) (ts ti : Tok) (hS : S.length ≤ 1000000) (hp : PrimIn news a p) :
    Con w tP tL mean mg mb 4 16 389 news [.ref a, .str (tx S) ts, .int i ti] (fun r news' => news' = news ∧ IsOpt r (primEnd S i p)) := by
  refine' con_of [(Str.ofString "node", .ref a), (Str.ofString "subject", .str (tx S) ts), (Str.ofString "at", .int i ti)] ?ho ?hcd ?hb ?hl ?hco ?hge ?hk ?hce ?_
  case ho => k_is
  case hcd => k_is
  case hb => exact fun _ => BindsTo.of_eq rfl
  case hl => exact locs rfl
  case hco => rfl
  case hge => rfl
  case hk => rfl
  case hce => decide
  intro dp un gd outer A₀ base g L s Dn hD B F X N T hlt hd hu
  cases p with
  | chars l =>
    obtain ⟨⟨t1, t2, hm⟩, hl⟩ := hp
    k_steps
    all_goals ((try dsimp only); refine hD _ _ ?_; exact done_ret (by assumption) (by assumption) ⟨rfl, by assumption⟩)
  | len n =>
    obtain ⟨t1, t2, hm⟩ := hp
    k_steps
    all_goals ((try dsimp only); refine hD _ _ ?_; exact done_ret (by assumption) (by assumption) ⟨rfl, by assumption⟩)
  | any l =>
    obtain ⟨t1, t2, hm⟩ := hp
    k_steps
    all_goals ((try dsimp only); refine hD _ _ ?_; exact done_ret (by assumption) (by assumption) ⟨rfl, by assumption⟩)
  | span l =>
    obtain ⟨t1, t2, hm⟩ := hp
    k_steps
    all_goals ((try dsimp only); refine hD _ _ ?_; exact done_ret (by assumption) (by assumption) ⟨rfl, by assumption⟩)
  | brk l =>
    obtain ⟨t1, t2, hm⟩ := hp
    k_steps
    all_goals ((try dsimp only); refine hD _ _ ?_; exact done_ret (by assumption) (by assumption) ⟨rfl, by assumption⟩)
  | rem =>
    obtain ⟨t1, hm⟩ := hp
    k_steps
    all_goals ((try dsimp only); refine hD _ _ ?_; exact done_ret (by assumption) (by assumption) ⟨rfl, by assumption⟩)
set_option maxRecDepth 100000 in
set_option maxHeartbeats 8000000 in
theorem is_delayed_int {w : World} {tP tL mean mg mb news} (n : Nat) (t : Tok) :
    Con w tP tL mean mg mb 1 4 270 news [.int (n : Nat) t] (fun r news' => news' = news ∧ r = .bool false) := by
  refine' con_of [(Str.ofString "told", .int (n : Nat) t)] ?ho ?hcd ?hb ?hl ?hco ?hge ?hk ?hce ?_
  case ho => k_is
  case hcd => k_is
  case hb => exact fun _ => BindsTo.of_eq rfl
  case hl => exact locs rfl
  case hco => rfl
  case hge => rfl
  case hk => rfl
  case hce => decide
  intro dp un gd outer A₀ base g L s Dn hD B F X N T hlt hd hu
  k_steps
  all_goals ((try dsimp only); refine hD _ _ ?_; exact done_ret (by assumption) (by assumption) ⟨rfl, rfl⟩)
set_option maxRecDepth 100000 in
set_option maxHeartbeats 8000000 in
theorem is_delayed_str {w : World} {tP tL mean mg mb news} (x : Str) (t : Tok) :
    Con w tP tL mean mg mb 1 4 270 news [.str x t] (fun r news' => news' = news ∧ r = .bool false) := by
  refine' con_of [(Str.ofString "told", .str x t)] ?ho ?hcd ?hb ?hl ?hco ?hge ?hk ?hce ?_
  case ho => k_is
  case hcd => k_is
  case hb => exact fun _ => BindsTo.of_eq rfl
  case hl => exact locs rfl
  case hco => rfl
  case hge => rfl
  case hk => rfl
  case hce => decide
  intro dp un gd outer A₀ base g L s Dn hD B F X N T hlt hd hu
  k_steps
  all_goals ((try dsimp only); refine hD _ _ ?_; exact done_ret (by assumption) (by assumption) ⟨rfl, rfl⟩)
theorem words7 : True := by
  k_with "call ref" => ((k_here; (with_reducible show wpAny _ _ (PySem.call (Value.ref 270) _) _ _ _); k_dflt (refine' Con.callA (is_delayed_int _ _) ?_; intro _ _ _ _ _ _ P'; obtain ⟨e', r9⟩ := P'; subst e'; subst r9; (try dsimp only))))
  k_with "call ref" => ((k_here; (with_reducible show wpAny _ _ (PySem.call (Value.ref 270) _) _ _ _); k_dflt (refine' Con.callA (is_delayed_str _ _) ?_; intro _ _ _ _ _ _ P'; obtain ⟨e', r9⟩ := P'; subst e'; subst r9; (try dsimp only))))
  trivial

set_option maxRecDepth 100000 in
set_option maxHeartbeats 8000000 in
theorem settled_con {w : World} {tP tL mean mg mb news} (p : Prim) (a hx : Addr) (hp : PrimIn news a p) :
    Con w tP tL mean mg mb 2 8 277 news [.ref a, .ref hx] (fun r news' => news' = news ∧ r = .ref a) := by
  refine' con_of [(Str.ofString "node", .ref a), (Str.ofString "host", .ref hx)] ?ho ?hcd ?hb ?hl ?hco ?hge ?hk ?hce ?_
  case ho => k_is
  case hcd => k_is
  case hb => exact fun _ => BindsTo.of_eq rfl
  case hl => exact locs rfl
  case hco => rfl
  case hge => rfl
  case hk => rfl
  case hce => decide
  intro dp un gd outer A₀ base g L s Dn hD B F X N T hlt hd hu
  cases p with
  | chars l =>
    obtain ⟨⟨t1, t2, hm⟩, hl⟩ := hp
    k_steps
    all_goals ((try dsimp only); refine hD _ _ ?_; exact done_ret (by assumption) (by assumption) ⟨rfl, rfl⟩)
  | len n =>
    obtain ⟨t1, t2, hm⟩ := hp
    k_steps
    all_goals ((try dsimp only); refine hD _ _ ?_; exact done_ret (by assumption) (by assumption) ⟨rfl, rfl⟩)
  | any l =>
    obtain ⟨t1, t2, hm⟩ := hp
    k_steps
    all_goals ((try dsimp only); refine hD _ _ ?_; exact done_ret (by assumption) (by assumption) ⟨rfl, rfl⟩)
  | span l =>
    obtain ⟨t1, t2, hm⟩ := hp
    k_steps
    all_goals ((try dsimp only); refine hD _ _ ?_; exact done_ret (by assumption) (by assumption) ⟨rfl, rfl⟩)
  | brk l =>
    obtain ⟨t1, t2, hm⟩ := hp
    k_steps
    all_goals ((try dsimp only); refine hD _ _ ?_; exact done_ret (by assumption) (by assumption) ⟨rfl, rfl⟩)
  | rem =>
    obtain ⟨t1, hm⟩ := hp
    k_steps
    all_goals ((try dsimp only); refine hD _ _ ?_; exact done_ret (by assumption) (by assumption) ⟨rfl, rfl⟩)

/-! Host -/
section
open PyProof.V PySem.Spec
noncomputable abbrev Prg : Program := PySem.Challenge.rw_nz0411_01.row.prog
/-- an object that is the dict of the two names' texts -/
noncomputable def VObj (w : World) (o : Obj) (v : W2) : Prop := ∃ t1 t2, o.IsDictOf (PySem.strKind Prg w) [(keyOf false, .str (tx v.1) t1), (keyOf true, .str (tx v.2) t2)]
theorem key_ne : (keyOf false = keyOf true) = False := by
  simp only [eq_iff_iff, iff_false]; decide
theorem key_ne' : (keyOf true = keyOf false) = False := by
  simp only [eq_iff_iff, iff_false]; decide
section
variable {w : World} {A : Around} {E : Value → Shared → Prop} {s : Shared} {h₀ : Heap} {L d : Addr} {m : Str → Option Value} {news : List (Addr × Obj)} {o : Obj} {v : W2} {g : Obj → List (Addr × Obj)}
theorem setItem_V {k : Bool} {t : Cps} {tk u : Tok} {Q : Unit → Shared → Prop} (F : Fr h₀ L s.heap m) (N : News h₀ L s.heap news) (U : UpdF d o news g) (hV : VObj w o v)
    (h : ∀ h' o', Fr h₀ L h' m → News h₀ L h' (g o') → VObj w o' (setW v k t) → Q () { s with heap := h', toks := s.toks + 1 }) :
    wpAny (model Prg w) A (setItem (.ref d) (.str (keyOf k) tk) (.str (tx t) u)) Q E s := by
  obtain ⟨t1, t2, hd⟩ := hV
  refine setItem_K PyProof.V.same_str (strKind_is Prg w (keyOf k) tk) (PyProof.V.Flat.str _ _) F N U hd (.cons (.str _ _) (.cons (.str _ _) .nil)) (fun h' o' F' N' hd' _ => h h' o' F' N' ?_) (by rw [sizeLine_eq]; simp)
  cases k with
  | false => exact ⟨u, t2, by simpa [stored, setW, key_ne, key_ne'] using hd'⟩
  | true => exact ⟨t1, u, by simpa [stored, setW, key_ne, key_ne'] using hd'⟩
noncomputable def getW (w : W2) (k : Bool) : Cps := if k then w.2 else w.1
theorem item_V {k : Bool} {tk : Tok} {value slice : Expr} {Q : Value → Shared → Prop} (N : News h₀ L s.heap news) (hm : (d, o) ∈ news) (hV : VObj w o v)
    (h : ∀ u, Q (.str (tx (getW v k)) u) { s with toks := s.toks + 1 })
    (hs : subscripted slice false (.ref d) (.str (keyOf k) tk) = operate [.ref d, .str (keyOf k) tk] (getItem (.ref d) (.str (keyOf k) tk)) := by with_unfolding_all rfl) :
    wpAny (model Prg w) A (subscriptTail value slice (.ref d) (.str (keyOf k) tk)) Q E s := by
  obtain ⟨t1, t2, hd⟩ := hV
  have hmap := (Heap.dictOf_iff.mpr ⟨o, N.get hm, hd⟩ : s.heap.DictOf (PySem.strKind Prg w) d _).mapOf
  refine tail_any hmap.typeIs slot_dict_getitem.lookup ?_ hs
  cases k with
  | false => exact wpAny_getItem_of (strKind_is Prg w (keyOf false) tk) hmap (by simp [valueAt]; rfl) (h t1)
  | true => exact wpAny_getItem_of (strKind_is Prg w (keyOf true) tk) hmap (by simp [valueAt, key_ne]; rfl) (h t2)
theorem ne_V {d' : Addr} {o' : Obj} {v' : W2} {Q : Value → Shared → Prop} (N : News h₀ L s.heap news) (hm : (d, o) ∈ news) (hm' : (d', o') ∈ news) (hV : VObj w o v) (hV' : VObj w o' v') (h1 : (d == sysModules) = false) (h2 : (d' == sysModules) = false) (hu : A.units < cLine)
    (h : Q (.bool (decide (v ≠ v'))) s) : wpAny (model Prg w) A (compareOp .NotEq (.ref d) (.ref d')) Q E s := by
  obtain ⟨t1, t2, hd⟩ := hV
  obtain ⟨t3, t4, hd'⟩ := hV'
  refine keq_ne h1 h2 (Heap.dictOf_iff.mpr ⟨o, N.get hm, hd⟩) (Heap.dictOf_iff.mpr ⟨o', N.get hm', hd'⟩) hu (fun _ =>
    .hit (y := .str (tx v'.1) t3) (by simp [valueAt]) (SeqAt.EqAt.str_str (tx v.1) t1 (tx v'.1) t3) (.hit (y := .str (tx v'.2) t4) (by simp [valueAt, key_ne]) (SeqAt.EqAt.str_str (tx v.2) t2 (tx v'.2) t4) .nil)) ?_
  have e : ∀ a b : Cps, (tx a == tx b) = decide (a = b) := fun a b => by
    by_cases q : a = b
    · subst q; simp
    · have : tx a ≠ tx b := fun z => q (tx_inj.mp z)
      simp [q, this]
  have e2 : (!([(keyOf false, Value.str (tx v.1) t1), (keyOf true, Value.str (tx v.2) t2)].length == [(keyOf false, Value.str (tx v'.1) t3), (keyOf true, Value.str (tx v'.2) t4)].length && (tx v.1 == tx v'.1 && (tx v.2 == tx v'.2 && true)))) = decide (v ≠ v') := by
    obtain ⟨a, b⟩ := v
    obtain ⟨a', b'⟩ := v'
    simp only [e]
    by_cases q1 : a = a' <;> by_cases q2 : b = b' <;> simp [q1, q2]
  rw [e2]; exact h
theorem in_nil {l : Addr} {n : Nat} {x : Str} {t : Tok} {Q : Value → Shared → Prop} (N : News h₀ L s.heap news) (hm : (l, listOf #[] n) ∈ news) (h : Q (.bool false) s) : wpAny (model Prg w) A (compareOp .In (.str x t) (.ref l)) Q E s :=
  in_list_strs (vs := []) (ys := []) (News.isList N hm) (by constructor) h
end
/-! the host -/
structure HostA where
  x : Addr
  dx : Addr
  vd : Addr
  lg : Addr
  rf : Addr
structure HostC where
  st : Nat
  w : W2
  ov : Obj
  items : Array Value
  n : Nat
  t1 : Tok
  t2 : Tok
  t3 : Tok
  t4 : Tok
  t5 : Tok
  t6 : Tok
  t7 : Tok
noncomputable abbrev hostD (P : Params) (H : HostA) (c : HostC) : Obj := dictOf [⟨PyData.keyHash P (Str.ofString "values"), .str (Str.ofString "values") c.t1, .ref H.vd⟩, ⟨PyData.keyHash P (Str.ofString "limit"), .str (Str.ofString "limit") c.t2, .int 9000 c.t3⟩,
  ⟨PyData.keyHash P (Str.ofString "refused"), .str (Str.ofString "refused") c.t4, .ref H.rf⟩, ⟨PyData.keyHash P (Str.ofString "steps"), .str (Str.ofString "steps") c.t5, .int (c.st : Nat) c.t6⟩, ⟨PyData.keyHash P (Str.ofString "log"), .str (Str.ofString "log") c.t7, .ref H.lg⟩] 5
noncomputable abbrev hostL (P : Params) (H : HostA) (c : HostC) (im : Led) : Led := (H.dx, hostD P H c) :: (H.vd, c.ov) :: (H.lg, listOf c.items c.n) :: im
inductive RefIn (P : Params) (im : Led) (a : Addr) (k : Bool) : Prop where
  | mk (da : _) (t1 : _) (t2 : _) (t3 : _) (t4 : _) (t5 : _) (h1 : (a, instObj 145 da) ∈ im) (h2 : (da, dictOf [⟨PyData.keyHash P (Str.ofString "kind"), .str (Str.ofString "kind") t1, .str (Str.ofString "var") t2⟩, ⟨PyData.keyHash P (Str.ofString "owner"), .str (Str.ofString "owner") t3, .none⟩, ⟨PyData.keyHash P (Str.ofString "key"), .str (Str.ofString "key") t4, .str (keyOf k) t5⟩] 3) ∈ im) : RefIn P im a k
theorem RefIn.mono {P : Params} {im im' : Led} {a : Addr} {k : Bool} (hs : ∀ p ∈ im, p ∈ im') (h : RefIn P im a k) : RefIn P im' a k :=
  let ⟨da, t1, t2, t3, t4, t5, h1, h2⟩ := h; ⟨da, t1, t2, t3, t4, t5, hs _ h1, hs _ h2⟩
structure HostIn (P : Params) (H : HostA) (rf : Refs) (im : Led) : Prop where
  x : (H.x, instObj 236 H.dx) ∈ im
  hrf : (H.rf, listOf #[] 0) ∈ im
  refs : ∀ k, RefIn P im (rf.at k) k
  d1 : @Ne Nat H.dx H.vd
  d2 : @Ne Nat H.dx H.lg
  d3 : @Ne Nat H.vd H.lg
  o1 : ∀ p ∈ im, p.1 ≠ H.dx
  o2 : ∀ p ∈ im, p.1 ≠ H.vd
  o3 : ∀ p ∈ im, p.1 ≠ H.lg
  sm : (H.vd == sysModules) = false
theorem HostIn.app {P : Params} {H : HostA} {rf : Refs} {im own : Led} (h : HostIn P H rf im) (h1 : ∀ p ∈ own, p.1 ≠ H.dx) (h2 : ∀ p ∈ own, p.1 ≠ H.vd) (h3 : ∀ p ∈ own, p.1 ≠ H.lg) : HostIn P H rf (own ++ im) where
  x := List.mem_append_right _ h.x
  hrf := List.mem_append_right _ h.hrf
  refs := fun k => (h.refs k).mono fun _ hp => List.mem_append_right _ hp
  d1 := h.d1
  d2 := h.d2
  d3 := h.d3
  o1 := fun p hp => (List.mem_append.mp hp).elim (h1 p) (h.o1 p)
  o2 := fun p hp => (List.mem_append.mp hp).elim (h2 p) (h.o2 p)
  o3 := fun p hp => (List.mem_append.mp hp).elim (h3 p) (h.o3 p)
  sm := h.sm
noncomputable def HostC.Le (c : HostC) (B : Nat) : Prop := c.st ≤ B ∧ c.items.size ≤ B

end
/-! C4 -/
local macro_rules | `(tactic| k_all) => `(tactic| assumption)
local macro_rules | `(tactic| k_mem) => `(tactic| assumption)
set_option maxRecDepth 100000 in
set_option maxHeartbeats 8000000 in
theorem step_con {w : World} {tP tL mean mg mb} (H : HostA) (rf : Refs) (c : HostC) (im : Led) (hH : HostIn w.params H rf im) (hB : c.st + 1 ≤ 9000) :
    Con w tP tL mean mg mb 1 4 233 (hostL w.params H c im) [.ref H.x] (fun r news' => r = .none ∧ ∃ t, news' = hostL w.params H { c with st := c.st + 1, t6 := t } im) := by
  refine' con_of [(Str.ofString "self", .ref H.x)] ?ho ?hcd ?hb ?hl ?hco ?hge ?hk ?hce ?_
  case ho => k_is
  case hcd => k_is
  case hb => exact fun _ => BindsTo.of_eq rfl
  case hl => exact locs rfl
  case hco => rfl
  case hge => rfl
  case hk => rfl
  case hce => decide
  intro dp un gd outer A₀ base g L s Dn hD B F X N T hlt hd hu
  obtain ⟨h1, h2, h3, d1, d2, d3, o1, o2, o3, sm⟩ := hH
  dsimp only [hostL, hostD] at N
  k_steps
  all_goals ((try dsimp only); refine hD _ _ ?_; exact done_next (by assumption) (by assumption) ⟨rfl, _, rfl⟩)
local macro_rules | `(tactic| walk_at "setItem ref str") => `(tactic| (k_here; k_dflt (refine' setItem_V ?F ?N ?U ?d ?_; (case F => k_asm); (case N => k_asm); (case U => k_updF); (case d => assumption)); intro h' o' F' N' V'; (try dsimp only at N'); (try k_sweep); (try dsimp only)))
theorem words8 : True := by
  k_with "compareOp In str ref" => ((k_here; k_dflt (refine' in_nil ?N ?m ?_; (case N => k_asm); (case m => k_mem); k_whole)))
  k_with "call builtin:list.append" => ((k_here; (with_reducible show wpAny _ _ (PySem.call (Value.builtin _) [Value.ref _, _]) _ _ _); k_dflt (refine' append_K ?k1 ?k2 ?k3 ?_ ?z; (case k1 => k_asm); (case k2 => k_asm); (case k3 => k_upd); (case z => (rw [sizeLine_eq]; omega)); k_whole); intro _ _ _; (try k_sweep); (try dsimp only)))
  trivial

set_option maxRecDepth 100000 in
set_option maxHeartbeats 8000000 in
theorem assign_con {w : World} {tP tL mean mg mb} (H : HostA) (rf : Refs) (c : HostC) (im : Led) (a : Addr) (k : Bool) (t : Cps) (tt : Tok) (hH : HostIn w.params H rf im) (hV : VObj w c.ov c.w) (hB : c.items.size ≤ 9000) (hr : RefIn w.params im a k) :
    Con w tP tL mean mg mb 1 4 226 (hostL w.params H c im) [.ref H.x, .ref a, .str (tx t) tt] (fun r news' => r = .bool true ∧ ∃ ov its n, VObj w ov (setW c.w k t) ∧ its.size = c.items.size + 1 ∧ news' = hostL w.params H { c with w := setW c.w k t, ov := ov, items := its, n := n } im) := by
  refine' con_of [(Str.ofString "self", .ref H.x), (Str.ofString "ref", .ref a), (Str.ofString "value", .str (tx t) tt)] ?ho ?hcd ?hb ?hl ?hco ?hge ?hk ?hce ?_
  case ho => k_is
  case hcd => k_is
  case hb => exact fun _ => BindsTo.of_eq rfl
  case hl => exact locs rfl
  case hco => rfl
  case hge => rfl
  case hk => rfl
  case hce => decide
  intro dp un gd outer A₀ base g L s Dn hD B F X N T hlt hd hu
  obtain ⟨h1, h2, h3, d1, d2, d3, o1, o2, o3, sm⟩ := hH
  obtain ⟨da, u1, u2, u3, u4, u5, m1, m2⟩ := hr
  dsimp only [hostL, hostD] at N
  k_steps
  all_goals ((try dsimp only); refine hD _ _ ?_; exact done_ret (by assumption) (newsTail (by assumption)) ⟨rfl, _, _, _, by assumption, by simp, rfl⟩)

/-! Mach -/
/-! one step of the matcher, and what the ledger is behind it -/
noncomputable abbrev Step := Option Way × List Way × W2
noncomputable def adv (S : Cps) : CI → List CI → Nat → Named → W2 → Step
  | .node (.prim p), r, i, l, w => match primEnd S i p with
    | none => (none, [], w)
    | some e => (some (r, e, l), [], w)
  | .node (.later n k), r, i, l, w => (some (.node n :: .later k i :: r, i, l), [], w)
  | .node (.now n k), r, i, l, w => (some (.node n :: .now k i :: r, i, l), [], w)
  | .node (.cat a b), r, i, l, w => (some (.node a :: .node b :: r, i, l), [], w)
  | .node (.alt a b), r, i, l, w => (some (.node a :: r, i, l), [(.node b :: r, i, l)], w)
  | .later k b, r, i, l, w => (some (r, i, l ++ [(k, cut S b i)]), [], w)
  | .now k b, r, i, l, w => (some (r, i, l), [], setW w k (cut S b i))
theorem adv_run (S : Cps) (c : CI) (r : List CI) (i : Nat) (l : Named) (p : List Way) (w : W2) :
    runPile S ((c :: r, i, l) :: p) w = match adv S c r i l w with
      | (some way, q, w') => runPile S (way :: (q ++ p)) w'
      | (none, q, w') => runPile S (q ++ p) w' := by
  match c with
  | .node (.prim q) =>
    cases h : primEnd S i q with
    | none => rw [runPile_prim_none S q r i l p w h]; simp only [adv, h, List.nil_append]
    | some e => rw [runPile_prim_some S q r i e l p w h]; simp only [adv, h, List.nil_append]
  | .node (.later n k) => rfl
  | .node (.now n k) => rfl
  | .node (.cat a b) => rfl
  | .node (.alt a b) => rw [runPile_alt]; rfl
  | .later k b => rfl
  | .now k b => rfl
theorem adv_cost (S : Cps) (c : CI) (r : List CI) (i : Nat) (l : Named) (p : List Way) (w : W2) :
    1 + (match (adv S c r i l w).1 with
      | some way => costPile (way :: ((adv S c r i l w).2.1 ++ p))
      | none => costPile ((adv S c r i l w).2.1 ++ p)) ≤ costPile ((c :: r, i, l) :: p) := by
  match c with
  | .node (.prim q) =>
    cases h : primEnd S i q with
    | none => simp only [adv, h]; show 1 + costPile p ≤ 1 + (1 + costCh r) + costPile p; omega
    | some e => simp only [adv, h]; show 1 + (1 + costCh r + costPile p) ≤ 1 + (1 + costCh r) + costPile p; omega
  | .node (.later n k) => show 1 + (1 + costN n (1 + costCh r) + costPile p) ≤ 1 + (1 + costN n (1 + costCh r)) + costPile p; omega
  | .node (.now n k) => show 1 + (1 + costN n (1 + costCh r) + costPile p) ≤ 1 + (1 + costN n (1 + costCh r)) + costPile p; omega
  | .node (.cat a b) => show 1 + (1 + costN a (costN b (costCh r)) + costPile p) ≤ 1 + (1 + costN a (costN b (costCh r))) + costPile p; omega
  | .node (.alt a b) => show 1 + (1 + costN a (costCh r) + (1 + costN b (costCh r) + costPile p)) ≤ 1 + (2 + costN a (costCh r) + costN b (costCh r)) + costPile p; omega
  | .later k b => show 1 + (1 + costCh r + costPile p) ≤ 1 + (1 + costCh r) + costPile p; omega
  | .now k b => show 1 + (1 + costCh r + costPile p) ≤ 1 + (1 + costCh r) + costPile p; omega
theorem adv_le {S : Cps} {c : CI} {r : List CI} {i : Nat} {l : Named} {w : W2} {way : Way} (hi : i ≤ S.length) (h : (adv S c r i l w).1 = some way) : way.2.1 ≤ S.length := by
  match c, h with
  | .node (.prim q), h =>
    simp only [adv] at h
    cases hq : primEnd S i q with
    | none => rw [hq] at h; cases h
    | some e => rw [hq] at h; cases h; exact primEnd_le hi hq
  | .node (.later n k), h => cases h; exact hi
  | .node (.now n k), h => cases h; exact hi
  | .node (.cat a b), h => cases h; exact hi
  | .node (.alt a b), h => cases h; exact hi
  | .later k b, h => cases h; exact hi
  | .now k b, h => cases h; exact hi
theorem adv_le2 {S : Cps} {c : CI} {r : List CI} {i : Nat} {l : Named} {w : W2} (hi : i ≤ S.length) : ∀ way ∈ (adv S c r i l w).2.1, way.2.1 ≤ S.length := by
  match c with
  | .node (.prim q) =>
    simp only [adv]
    cases hq : primEnd S i q with
    | none => intro _ h; cases h
    | some e => intro _ h; cases h
  | .node (.later n k) => intro _ h; cases h
  | .node (.now n k) => intro _ h; cases h
  | .node (.cat a b) => intro _ h; cases h
  | .node (.alt a b) => intro way h; simp only [adv, List.mem_singleton] at h; subst h; exact hi
  | .later k b => intro _ h; cases h
  | .now k b => intro _ h; cases h
theorem adv_len {S : Cps} {c : CI} {r : List CI} {i : Nat} {l : Named} {w : W2} {way : Way} (h : (adv S c r i l w).1 = some way) : way.2.2.length ≤ l.length + 1 := by
  match c, h with
  | .node (.prim q), h =>
    simp only [adv] at h
    cases hq : primEnd S i q with
    | none => rw [hq] at h; cases h
    | some e => rw [hq] at h; cases h; exact Nat.le_succ _
  | .node (.later n k), h => cases h; exact Nat.le_succ _
  | .node (.now n k), h => cases h; exact Nat.le_succ _
  | .node (.cat a b), h => cases h; exact Nat.le_succ _
  | .node (.alt a b), h => cases h; exact Nat.le_succ _
  | .later k b, h => cases h; simp
  | .now k b, h => cases h; exact Nat.le_succ _
theorem adv_len2 {S : Cps} {c : CI} {r : List CI} {i : Nat} {l : Named} {w : W2} : ∀ way ∈ (adv S c r i l w).2.1, way.2.2.length ≤ l.length := by
  match c with
  | .node (.prim q) =>
    simp only [adv]
    cases hq : primEnd S i q with
    | none => intro _ h; cases h
    | some e => intro _ h; cases h
  | .node (.later n k) => intro _ h; cases h
  | .node (.now n k) => intro _ h; cases h
  | .node (.cat a b) => intro _ h; cases h
  | .node (.alt a b) => intro way h; simp only [adv, List.mem_singleton] at h; subst h; exact Nat.le_refl _
  | .later k b => intro _ h; cases h
  | .now k b => intro _ h; cases h
/-- the pile: the last pushed stands last in the list, first in the ways -/
noncomputable def Ways (im : Led) (rf : Refs) : List Value → List Way → Prop
  | [], ws => ws = []
  | v :: vs, ws => ∃ wy r, ws = wy :: r ∧ WayIn im rf v wy ∧ Ways im rf vs r
noncomputable def PileIn (im : Led) (rf : Refs) (vs : List Value) (ws : List Way) : Prop := Ways im rf vs.reverse ws
theorem Ways.mono {im im' : Led} {rf : Refs} (hs : ∀ p ∈ im, p ∈ im') : ∀ {vs : List Value} {ws : List Way}, Ways im rf vs ws → Ways im' rf vs ws
  | [], _, h => h
  | _ :: _, _, ⟨wy, r, e, h1, h2⟩ => ⟨wy, r, e, h1.mono hs, h2.mono hs⟩
theorem PileIn.mono {im im' : Led} {rf : Refs} (hs : ∀ p ∈ im, p ∈ im') {vs : List Value} {ws : List Way} (h : PileIn im rf vs ws) : PileIn im' rf vs ws := Ways.mono hs h
theorem PileIn.push {im : Led} {rf : Refs} {vs : List Value} {ws : List Way} {v : Value} {wy : Way} (h : PileIn im rf vs ws) (hw : WayIn im rf v wy) : PileIn im rf (vs ++ [v]) (wy :: ws) := by
  unfold PileIn
  rw [List.reverse_append]
  exact ⟨wy, ws, rfl, hw, h⟩
theorem PileIn.pop {im : Led} {rf : Refs} {vs : List Value} {wy : Way} {ws : List Way} (h : PileIn im rf vs (wy :: ws)) : ∃ us v, vs = us ++ [v] ∧ WayIn im rf v wy ∧ PileIn im rf us ws := by
  unfold PileIn at h
  cases hr : vs.reverse with
  | nil => rw [hr] at h; cases h
  | cons v r =>
    rw [hr] at h
    obtain ⟨wy', r', e, h1, h2⟩ := h
    cases e
    refine ⟨r.reverse, v, ?_, h1, ?_⟩
    · have := congrArg List.reverse hr
      simpa using this
    · unfold PileIn; rw [List.reverse_reverse]; exact h2
theorem Ways.length {im : Led} {rf : Refs} : ∀ {vs : List Value} {ws : List Way}, Ways im rf vs ws → vs.length = ws.length
  | [], _, h => by cases h; rfl
  | _ :: _, _, ⟨_, _, e, _, h⟩ => by subst e; simp [h.length]
theorem PileIn.length {im : Led} {rf : Refs} {vs : List Value} {ws : List Way} (h : PileIn im rf vs ws) : vs.length = ws.length := by
  have := Ways.length h; simpa using this
structure MOk (P : Params) (H : HostA) (rf : Refs) (pl : Addr) (im : Led) : Prop where
  host : HostIn P H rf im
  p1 : @Ne Nat pl H.dx
  p2 : @Ne Nat pl H.vd
  p3 : @Ne Nat pl H.lg
  po : ∀ p ∈ im, p.1 ≠ pl
/-- new entries stand off the four that turn -/
noncomputable def Off4 (H : HostA) (pl : Addr) (a : Addr) : Prop := a ≠ H.dx ∧ a ≠ H.vd ∧ a ≠ H.lg ∧ a ≠ pl
theorem MOk.app {P : Params} {H : HostA} {rf : Refs} {pl : Addr} {im own : Led} (h : MOk P H rf pl im) (ho : ∀ p ∈ own, Off4 H pl p.1) : MOk P H rf pl (own ++ im) where
  host := h.host.app (fun p hp => (ho p hp).1) (fun p hp => (ho p hp).2.1) (fun p hp => (ho p hp).2.2.1)
  p1 := h.p1
  p2 := h.p2
  p3 := h.p3
  po := fun p hp => (List.mem_append.mp hp).elim (fun q => (ho p q).2.2.2) (h.po p)
noncomputable abbrev machL (P : Params) (H : HostA) (c : HostC) (pl : Addr) (vs : List Value) (n : Nat) (im : Led) : Led := hostL P H c ((pl, listOf vs.toArray n) :: im)
noncomputable def ResIn (im : Led) (rf : Refs) (r : Value) : Option Way → Prop
  | none => r = .none
  | some wy => WayIn im rf r wy
inductive AdvPost (w : World) (H : HostA) (rf : Refs) (pl : Addr) (c : HostC) (im : Led) (ws : List Way) (st : Step) (r : Value) (news' : Led) : Prop where
  | mk (c' : _) (vs' : _) (n' : _) (own : _) (h1 : news' = machL w.params H c' pl vs' n' (own ++ im)) (h2 : (∀ p ∈ own, Off4 H pl p.1)) (h3 : c'.st = c.st) (h4 : c'.items.size ≤ c.items.size + 1) (h5 : c'.w = st.2.2) (h6 : VObj w c'.ov c'.w) (h7 : PileIn (own ++ im) rf vs' (st.2.1 ++ ws)) (h8 : ResIn (own ++ im) rf r st.1) : AdvPost w H rf pl c im ws st r news'

/-! C5b -/
theorem newsMove {h₀ : Heap} {L : Addr} {h : Heap} {own : Led} {d1 d2 d3 d4 : Addr × Obj} {im : Led} (N : News h₀ L h (own ++ (d1 :: d2 :: d3 :: d4 :: im))) : News h₀ L h (d1 :: d2 :: d3 :: d4 :: (own ++ im)) := by
  intro q hq
  refine N q ?_
  simp only [List.mem_cons, List.mem_append] at hq ⊢
  rcases hq with h | h | h | h | h | h <;> simp [h]
theorem newsAlt {h₀ : Heap} {L : Addr} {h : Heap} {a b e f : Addr × Obj} {d1 d2 d3 d4 : Addr × Obj} {im : Led} (N : News h₀ L h (a :: b :: e :: f :: d1 :: d2 :: d3 :: d4 :: im)) : News h₀ L h (d1 :: d2 :: d3 :: d4 :: ([a, b, e, f] ++ im)) := newsMove (own := [a, b, e, f]) N
theorem end_later : Str.ofString "end " ++ Str.ofString "later" = Str.ofString "end later" := by decide
theorem end_now : Str.ofString "end " ++ Str.ofString "now" = Str.ofString "end now" := by decide
theorem add_later {prog : Program} {w : World} {A : Around} {E : Value → Shared → Prop} {s : Shared} {t u : Tok} {Q : Value → Shared → Prop} (h : ∀ t' k, Q (.str (Str.ofString "end later") t') { s with toks := k }) :
    wpAny (model prog w) A (binaryOp .Add (.str (Str.ofString "end ") t) (.str (Str.ofString "later") u)) Q E s :=
  SB.add (hsz := by rw [sizeLine_eq]; decide) fun t' k => end_later ▸ h t' k
theorem add_now {prog : Program} {w : World} {A : Around} {E : Value → Shared → Prop} {s : Shared} {t u : Tok} {Q : Value → Shared → Prop} (h : ∀ t' k, Q (.str (Str.ofString "end now") t') { s with toks := k }) :
    wpAny (model prog w) A (binaryOp .Add (.str (Str.ofString "end ") t) (.str (Str.ofString "now") u)) Q E s :=
  SB.add (hsz := by rw [sizeLine_eq]; decide) fun t' k => end_now ▸ h t' k
theorem off4 {H : HostA} {pl : Addr} {a : Addr} (h1 : @Ne Nat a H.dx) (h2 : @Ne Nat a H.vd) (h3 : @Ne Nat a H.lg) (h4 : @Ne Nat a pl) : Off4 H pl a := ⟨h1, h2, h3, h4⟩
theorem offNil {H : HostA} {pl : Addr} : ∀ p ∈ ([] : Led), Off4 H pl p.1 := fun _ h => nomatch h
theorem offCons {H : HostA} {pl : Addr} {x : Addr × Obj} {r : Led} (h : Off4 H pl x.1) (hr : ∀ p ∈ r, Off4 H pl p.1) : ∀ p ∈ x :: r, Off4 H pl p.1 := (fac h hr)
theorem subApp {own im : Led} : ∀ p ∈ im, p ∈ own ++ im := fun _ hp => List.mem_append_right _ hp
set_option maxRecDepth 100000 in
set_option maxHeartbeats 8000000 in
theorem led_in_cat {w : World} {tP tL mean mg mb} (H : HostA) (rf : Refs) (pl : Addr) (c : HostC) (im : Led) (vs : List Value) (n : Nat) (ws : List Way) (S : Cps) (hM : MOk w.params H rf pl im) (hV : VObj w c.ov c.w) (hP : PileIn im rf vs ws)
    (h nm b d : Addr) (t ti : Tok) (vr : Value) (i : Nat) (l : Named) (r : List CI) (na nb : Node) (hm : (h, tup [.str (Str.ofString "cat") t, .ref b, .ref d]) ∈ im) (h1 : NodeIn im rf b na) (h2 : NodeIn im rf d nb) (hr : ChainIn im rf vr r) (hn : NamedIn im rf nm l) :
    Con w tP tL mean mg mb 1 4 424 (machL w.params H c pl vs n im) [.ref h, vr, .int (i : Nat) ti, .ref nm, .ref pl] (AdvPost w H rf pl c im ws (adv S (.node (.cat na nb)) r i l c.w)) := by
  refine' con_of [(Str.ofString "here", .ref h), (Str.ofString "rest", vr), (Str.ofString "at", .int (i : Nat) ti), (Str.ofString "named", .ref nm), (Str.ofString "pile", .ref pl)] ?ho ?hcd ?hb ?hl ?hco ?hge ?hk ?hce ?_
  case ho => k_is
  case hcd => k_is
  case hb => exact fun _ => BindsTo.of_eq rfl
  case hl => exact locs rfl
  case hco => rfl
  case hge => rfl
  case hk => rfl
  case hce => decide
  intro dp un gd outer A₀ base g L s Dn hD B F X N T hlt hd hu
  obtain ⟨⟨q1, q2, q3, d1, d2, d3, o1, o2, o3, sm⟩, p1, p2, p3, po⟩ := hM
  dsimp only [machL, hostL, hostD] at N
  k_steps
  all_goals (try dsimp only)
  all_goals (with_reducible rename News _ _ _ _ => N9)
  refine hD _ _ ?_; refine done_ret (by assumption) (newsMove (own := [_, _, _]) N9) ⟨c, vs, n, [_, _, _], rfl, ?_, rfl, by omega, rfl, hV, hP.mono subApp, ?_⟩
  · exact offCons (off4 (by k_ne) (by k_ne) (by k_ne) (by k_ne)) (offCons (off4 (by k_ne) (by k_ne) (by k_ne) (by k_ne)) (offCons (off4 (by k_ne) (by k_ne) (by k_ne) (by k_ne)) offNil))
  · exact ⟨_, _, _, _, rfl, .head _, ⟨_, _, _, rfl, .tail _ (.head _), h1.mono subApp, ⟨_, _, _, rfl, .tail _ (.tail _ (.head _)), h2.mono subApp, hr.mono subApp⟩⟩, hn.mono subApp⟩
local macro_rules | `(tactic| walk_at "call builtin:list.append") => `(tactic| (k_here; (with_reducible show wpAny _ _ (PySem.call (Value.builtin _) [Value.ref _, _]) _ _ _); k_dflt (refine' append_K ?k1 ?k2 ?k3 ?_ ?z; (case k1 => k_asm); (case k2 => k_asm); (case k3 => k_upd); (case z => (rw [sizeLine_eq]; first | omega | (simp only [List.size_toArray]; omega))); k_whole); intro h' F' N'; (try simp only [List.push_toArray] at N'); (try k_sweep); (try dsimp only)))

set_option maxRecDepth 100000 in
set_option maxHeartbeats 8000000 in
theorem led_in_alt {w : World} {tP tL mean mg mb} (H : HostA) (rf : Refs) (pl : Addr) (c : HostC) (im : Led) (vs : List Value) (n : Nat) (ws : List Way) (S : Cps) (hM : MOk w.params H rf pl im) (hV : VObj w c.ov c.w) (hP : PileIn im rf vs ws) (hl : ws.length ≤ 9000)
    (h nm b d : Addr) (t ti : Tok) (vr : Value) (i : Nat) (l : Named) (r : List CI) (na nb : Node) (hm : (h, tup [.str (Str.ofString "alt") t, .ref b, .ref d]) ∈ im) (h1 : NodeIn im rf b na) (h2 : NodeIn im rf d nb) (hr : ChainIn im rf vr r) (hn : NamedIn im rf nm l) :
    Con w tP tL mean mg mb 1 4 424 (machL w.params H c pl vs n im) [.ref h, vr, .int (i : Nat) ti, .ref nm, .ref pl] (AdvPost w H rf pl c im ws (adv S (.node (.alt na nb)) r i l c.w)) := by
  refine' con_of [(Str.ofString "here", .ref h), (Str.ofString "rest", vr), (Str.ofString "at", .int (i : Nat) ti), (Str.ofString "named", .ref nm), (Str.ofString "pile", .ref pl)] ?ho ?hcd ?hb ?hl ?hco ?hge ?hk ?hce ?_
  case ho => k_is
  case hcd => k_is
  case hb => exact fun _ => BindsTo.of_eq rfl
  case hl => exact locs rfl
  case hco => rfl
  case hge => rfl
  case hk => rfl
  case hce => decide
  intro dp un gd outer A₀ base g L s Dn hD B F X N T hlt hd hu
  obtain ⟨⟨q1, q2, q3, d1, d2, d3, o1, o2, o3, sm⟩, p1, p2, p3, po⟩ := hM
  dsimp only [machL, hostL, hostD] at N
  have hlen := hP.length
  k_steps
  all_goals (try dsimp only)
  all_goals (with_reducible rename News _ _ _ _ => N9)
  refine hD _ _ ?_; refine done_ret (by assumption) (newsAlt N9) ⟨c, vs ++ [_], n + 1, [_, _, _, _], rfl, ?_, rfl, by omega, rfl, hV, ?_, ?_⟩
  · exact offCons (off4 (by k_ne) (by k_ne) (by k_ne) (by k_ne)) (offCons (off4 (by k_ne) (by k_ne) (by k_ne) (by k_ne)) (offCons (off4 (by k_ne) (by k_ne) (by k_ne) (by k_ne)) (offCons (off4 (by k_ne) (by k_ne) (by k_ne) (by k_ne)) (offNil))))
  · exact (hP.mono subApp).push ⟨_, _, _, _, rfl, .tail _ (.tail _ (.head _)), ⟨_, _, _, rfl, .tail _ (.tail _ (.tail _ (.head _))), h2.mono subApp, hr.mono subApp⟩, hn.mono subApp⟩
  · exact ⟨_, _, _, _, rfl, .head _, ⟨_, _, _, rfl, .tail _ (.head _), h1.mono subApp, hr.mono subApp⟩, hn.mono subApp⟩
theorem words9 : True := by
  k_with "binaryOp Add str str" => ((k_here; (with_reducible show wpAny _ _ (binaryOp Operator.Add (Value.str (PySem.Str.ofString "end ") _) (Value.str (PySem.Str.ofString "later") _)) _ _ _); refine add_later ?_; intro _ _; (try dsimp only)))
  trivial

set_option maxRecDepth 100000 in
set_option maxHeartbeats 8000000 in
theorem led_in_later {w : World} {tP tL mean mg mb} (H : HostA) (rf : Refs) (pl : Addr) (c : HostC) (im : Led) (vs : List Value) (n : Nat) (ws : List Way) (S : Cps) (hM : MOk w.params H rf pl im) (hV : VObj w c.ov c.w) (hP : PileIn im rf vs ws)
    (h nm b : Addr) (k : Bool) (t ti : Tok) (vr : Value) (i : Nat) (l : Named) (r : List CI) (na : Node) (hm : (h, tup [.str (Str.ofString "later") t, .ref b, .ref (rf.at k)]) ∈ im) (h1 : NodeIn im rf b na) (hr : ChainIn im rf vr r) (hn : NamedIn im rf nm l) :
    Con w tP tL mean mg mb 1 4 424 (machL w.params H c pl vs n im) [.ref h, vr, .int (i : Nat) ti, .ref nm, .ref pl] (AdvPost w H rf pl c im ws (adv S (.node (.later na k)) r i l c.w)) := by
  refine' con_of [(Str.ofString "here", .ref h), (Str.ofString "rest", vr), (Str.ofString "at", .int (i : Nat) ti), (Str.ofString "named", .ref nm), (Str.ofString "pile", .ref pl)] ?ho ?hcd ?hb ?hl ?hco ?hge ?hk ?hce ?_
  case ho => k_is
  case hcd => k_is
  case hb => exact fun _ => BindsTo.of_eq rfl
  case hl => exact locs rfl
  case hco => rfl
  case hge => rfl
  case hk => rfl
  case hce => decide
  intro dp un gd outer A₀ base g L s Dn hD B F X N T hlt hd hu
  obtain ⟨⟨q1, q2, q3, d1, d2, d3, o1, o2, o3, sm⟩, p1, p2, p3, po⟩ := hM
  dsimp only [machL, hostL, hostD] at N
  k_steps
  all_goals (try dsimp only)
  all_goals (with_reducible rename News _ _ _ _ => N9)
  refine hD _ _ ?_; refine done_ret (by assumption) (newsAlt N9) ⟨c, vs, n, [_, _, _, _], rfl, ?_, rfl, by omega, rfl, hV, hP.mono subApp, ?_⟩
  · exact offCons (off4 (by k_ne) (by k_ne) (by k_ne) (by k_ne)) (offCons (off4 (by k_ne) (by k_ne) (by k_ne) (by k_ne)) (offCons (off4 (by k_ne) (by k_ne) (by k_ne) (by k_ne)) (offCons (off4 (by k_ne) (by k_ne) (by k_ne) (by k_ne)) (offNil))))
  · exact ⟨_, _, _, _, rfl, .head _, ⟨_, _, _, rfl, .tail _ (.head _), h1.mono subApp, ⟨_, _, _, rfl, .tail _ (.tail _ (.head _)), ⟨_, _, .tail _ (.tail _ (.tail _ (.head _)))⟩, hr.mono subApp⟩⟩, hn.mono subApp⟩
theorem words10 : True := by
  k_with "binaryOp Add str str" => ((k_here; (with_reducible show wpAny _ _ (binaryOp Operator.Add (Value.str (PySem.Str.ofString "end ") _) (Value.str (PySem.Str.ofString "now") _)) _ _ _); refine add_now ?_; intro _ _; (try dsimp only)))
  trivial

set_option maxRecDepth 100000 in
set_option maxHeartbeats 8000000 in
theorem led_in_now {w : World} {tP tL mean mg mb} (H : HostA) (rf : Refs) (pl : Addr) (c : HostC) (im : Led) (vs : List Value) (n : Nat) (ws : List Way) (S : Cps) (hM : MOk w.params H rf pl im) (hV : VObj w c.ov c.w) (hP : PileIn im rf vs ws)
    (h nm b : Addr) (k : Bool) (t ti : Tok) (vr : Value) (i : Nat) (l : Named) (r : List CI) (na : Node) (hm : (h, tup [.str (Str.ofString "now") t, .ref b, .ref (rf.at k)]) ∈ im) (h1 : NodeIn im rf b na) (hr : ChainIn im rf vr r) (hn : NamedIn im rf nm l) :
    Con w tP tL mean mg mb 1 4 424 (machL w.params H c pl vs n im) [.ref h, vr, .int (i : Nat) ti, .ref nm, .ref pl] (AdvPost w H rf pl c im ws (adv S (.node (.now na k)) r i l c.w)) := by
  refine' con_of [(Str.ofString "here", .ref h), (Str.ofString "rest", vr), (Str.ofString "at", .int (i : Nat) ti), (Str.ofString "named", .ref nm), (Str.ofString "pile", .ref pl)] ?ho ?hcd ?hb ?hl ?hco ?hge ?hk ?hce ?_
  case ho => k_is
  case hcd => k_is
  case hb => exact fun _ => BindsTo.of_eq rfl
  case hl => exact locs rfl
  case hco => rfl
  case hge => rfl
  case hk => rfl
  case hce => decide
  intro dp un gd outer A₀ base g L s Dn hD B F X N T hlt hd hu
  obtain ⟨⟨q1, q2, q3, d1, d2, d3, o1, o2, o3, sm⟩, p1, p2, p3, po⟩ := hM
  dsimp only [machL, hostL, hostD] at N
  k_steps
  all_goals (try dsimp only)
  all_goals (with_reducible rename News _ _ _ _ => N9)
  refine hD _ _ ?_; refine done_ret (by assumption) (newsAlt N9) ⟨c, vs, n, [_, _, _, _], rfl, ?_, rfl, by omega, rfl, hV, hP.mono subApp, ?_⟩
  · exact offCons (off4 (by k_ne) (by k_ne) (by k_ne) (by k_ne)) (offCons (off4 (by k_ne) (by k_ne) (by k_ne) (by k_ne)) (offCons (off4 (by k_ne) (by k_ne) (by k_ne) (by k_ne)) (offCons (off4 (by k_ne) (by k_ne) (by k_ne) (by k_ne)) (offNil))))
  · exact ⟨_, _, _, _, rfl, .head _, ⟨_, _, _, rfl, .tail _ (.head _), h1.mono subApp, ⟨_, _, _, rfl, .tail _ (.tail _ (.head _)), ⟨_, _, .tail _ (.tail _ (.tail _ (.head _)))⟩, hr.mono subApp⟩⟩, hn.mono subApp⟩

/-! C6 -/
section
variable {prog : Program} {w : World} {A : Around} {E : Value → Shared → Prop} {s : Shared} {h₀ : Heap} {L : Addr} {m : Str → Option Value} {news : List (Addr × Obj)} {t b : Addr} {Q : Value → Shared → Prop}
theorem add_nilT {v : Value} (F : Fr h₀ L s.heap m) (N : News h₀ L s.heap news) (ht : (t, tup []) ∈ news) (hb : (b, tup [v]) ∈ news) (h : Q (.ref b) s) : wpAny (model prog w) A (binaryOp .Add (.ref t) (.ref b)) Q E s :=
  add_tuples F N (vs := []) (ws := [v]) (News.isTup N ht) (News.isTup N hb) (fun _ => h) (fun e => absurd rfl e) (fun e => absurd rfl e) (by rw [sizeLine_eq]; simp)
theorem add_consT {u v : Value} {us : List Value} (F : Fr h₀ L s.heap m) (N : News h₀ L s.heap news) (ht : (t, tup (u :: us)) ∈ news) (hb : (b, tup [v]) ∈ news) (hz : us.length ≤ 9000)
    (h : ∀ D h', Fr h₀ L h' m → News h₀ L h' ((D, tup (u :: us ++ [v])) :: news) → (∀ p ∈ news, p.1 < D) → Q (.ref D) { s with heap := h' }) : wpAny (model prog w) A (binaryOp .Add (.ref t) (.ref b)) Q E s :=
  add_tuples F N (vs := u :: us) (ws := [v]) (News.isTup N ht) (News.isTup N hb) (fun e => by cases e) (fun _ e => by cases e) (fun _ _ h' F' N' => h _ h' F' N' fun p hp => Heap.lt_size (N p hp).1) (by rw [sizeLine_eq]; simp; omega)
end
local macro_rules | `(tactic| walk_at "binaryOp Add ref ref") => `(tactic| (k_here; k_dflt (first
  | (refine' add_nilT ?F ?N ?t ?b ?_; (case F => k_asm); (case N => k_asm); (case t => k_mem); (case b => k_mem); k_whole)
  | (refine' add_consT ?F ?N ?t ?b ?z ?_; (case F => k_asm); (case N => k_asm); (case t => k_mem); (case b => k_mem); (case z => omega); k_whole; intro D' h' F' N' l1; (try k_lt l1); (try k_sweep); (try dsimp only)))))

set_option maxRecDepth 100000 in
set_option maxHeartbeats 8000000 in
theorem led_out_later {w : World} {tP tL mean mg mb} (H : HostA) (rf : Refs) (pl : Addr) (c : HostC) (im : Led) (vs : List Value) (n : Nat) (ws : List Way) (S : Cps) (hM : MOk w.params H rf pl im) (hV : VObj w c.ov c.w) (hP : PileIn im rf vs ws) (hS : S.length ≤ 1000000)
    (h nm : Addr) (k : Bool) (t tb ti ts : Tok) (vr : Value) (b i : Nat) (l : Named) (r : List CI) (hm : (h, tup [.str (Str.ofString "end later") t, .ref (rf.at k), .int (b : Nat) tb]) ∈ im) (hr : ChainIn im rf vr r) (hn : NamedIn im rf nm l) (hl : l.length ≤ 9000) :
    Con w tP tL mean mg mb 2 8 431 (machL w.params H c pl vs n im) [.ref h, vr, .int (i : Nat) ti, .ref nm, .str (tx S) ts, .ref pl, .ref H.x] (AdvPost w H rf pl c im ws (adv S (.later k b) r i l c.w)) := by
  refine' con_of [(Str.ofString "here", .ref h), (Str.ofString "rest", vr), (Str.ofString "at", .int (i : Nat) ti), (Str.ofString "named", .ref nm), (Str.ofString "subject", .str (tx S) ts), (Str.ofString "pile", .ref pl), (Str.ofString "host", .ref H.x)] ?ho ?hcd ?hb ?hl ?hco ?hge ?hk ?hce ?_
  case ho => k_is
  case hcd => k_is
  case hb => exact fun _ => BindsTo.of_eq rfl
  case hl => exact locs rfl
  case hco => rfl
  case hge => rfl
  case hk => rfl
  case hce => decide
  intro dp un gd outer A₀ base g L s Dn hD B F X N T hlt hd hu
  obtain ⟨⟨q1, q2, q3, d1, d2, d3, o1, o2, o3, sm⟩, p1, p2, p3, po⟩ := hM
  dsimp only [machL, hostL, hostD] at N
  obtain ⟨us, hu, hnn⟩ := hn
  have hlen := hnn.length
  cases us with
  | nil =>
    cases hnn
    k_steps
    all_goals (try dsimp only)
    all_goals (with_reducible rename News _ _ _ _ => N9)
    refine hD _ _ ?_; refine done_ret (by assumption) (newsMove (own := [_, _, _]) N9) ⟨c, vs, n, [_, _, _], rfl, ?_, rfl, by omega, rfl, hV, hP.mono subApp, ?_⟩
    · exact offCons (off4 (by k_ne) (by k_ne) (by k_ne) (by k_ne)) (offCons (off4 (by k_ne) (by k_ne) (by k_ne) (by k_ne)) (offCons (off4 (by k_ne) (by k_ne) (by k_ne) (by k_ne)) (offNil)))
    · exact ⟨_, _, _, _, rfl, .head _, hr.mono subApp, ⟨_, .tail _ (.head _), _, _, _, _, _, rfl, rfl, .tail _ (.tail _ (.head _)), rfl⟩⟩
  | cons u us =>
    simp only [List.length_cons] at hlen
    k_steps
    all_goals (try dsimp only)
    all_goals (with_reducible rename News _ _ _ _ => N9)
    refine hD _ _ ?_; refine done_ret (by assumption) (newsMove (own := [_, _, _, _]) N9) ⟨c, vs, n, [_, _, _, _], rfl, ?_, rfl, by omega, rfl, hV, hP.mono subApp, ?_⟩
    · exact offCons (off4 (by k_ne) (by k_ne) (by k_ne) (by k_ne)) (offCons (off4 (by k_ne) (by k_ne) (by k_ne) (by k_ne)) (offCons (off4 (by k_ne) (by k_ne) (by k_ne) (by k_ne)) (offCons (off4 (by k_ne) (by k_ne) (by k_ne) (by k_ne)) (offNil))))
    · exact ⟨_, _, _, _, rfl, .head _, hr.mono subApp, ⟨_, .tail _ (.head _), NamesIn.snoc (.tail _ (.tail _ (.tail _ (.head _)))) (hnn.mono fun _ hp => .tail _ (.tail _ (.tail _ (.tail _ hp))))⟩⟩
theorem words11 : True := by
  k_with "call ref" => ((k_here; (with_reducible show wpAny _ _ (PySem.call (Value.ref 226) _) _ _ _); k_dflt (refine' Con.callA (assign_con _ _ _ _ _ _ _ _ ?a1 ?a2 ?a3 ?a4) ?_; (case a1 | a2 => assumption); (case a3 => omega); (case a4 => first | assumption | exact RefIn.mono (by assumption) (by assumption)); intro _ _ _ _ _ _ P'; obtain ⟨r9, _, _, _, _, _, e'⟩ := P'; subst r9; subst e'; (try dsimp only))))
  trivial

set_option maxRecDepth 100000 in
set_option maxHeartbeats 8000000 in
theorem led_out_now {w : World} {tP tL mean mg mb} (H : HostA) (rf : Refs) (pl : Addr) (c : HostC) (im : Led) (vs : List Value) (n : Nat) (ws : List Way) (S : Cps) (hM : MOk w.params H rf pl im) (hV : VObj w c.ov c.w) (hP : PileIn im rf vs ws) (hS : S.length ≤ 1000000)
    (h nm : Addr) (k : Bool) (t tb ti ts : Tok) (vr : Value) (b i : Nat) (l : Named) (r : List CI) (hm : (h, tup [.str (Str.ofString "end now") t, .ref (rf.at k), .int (b : Nat) tb]) ∈ im) (hr : ChainIn im rf vr r) (hn : NamedIn im rf nm l) (hB : c.items.size ≤ 9000) :
    Con w tP tL mean mg mb 2 8 431 (machL w.params H c pl vs n im) [.ref h, vr, .int (i : Nat) ti, .ref nm, .str (tx S) ts, .ref pl, .ref H.x] (AdvPost w H rf pl c im ws (adv S (.now k b) r i l c.w)) := by
  refine' con_of [(Str.ofString "here", .ref h), (Str.ofString "rest", vr), (Str.ofString "at", .int (i : Nat) ti), (Str.ofString "named", .ref nm), (Str.ofString "subject", .str (tx S) ts), (Str.ofString "pile", .ref pl), (Str.ofString "host", .ref H.x)] ?ho ?hcd ?hb ?hl ?hco ?hge ?hk ?hce ?_
  case ho => k_is
  case hcd => k_is
  case hb => exact fun _ => BindsTo.of_eq rfl
  case hl => exact locs rfl
  case hco => rfl
  case hge => rfl
  case hk => rfl
  case hce => decide
  intro dp un gd outer A₀ base g L s Dn hD B F X N T hlt hd hu
  have hH : HostIn w.params H rf ((pl, listOf vs.toArray n) :: im) := hM.host.app (own := [(pl, listOf vs.toArray n)]) (by intro p hp; rw [List.mem_singleton.mp hp]; exact hM.p1) (by intro p hp; rw [List.mem_singleton.mp hp]; exact hM.p2) (by intro p hp; rw [List.mem_singleton.mp hp]; exact hM.p3)
  have hR : RefIn w.params ((pl, listOf vs.toArray n) :: im) (rf.at k) k := hH.refs k
  obtain ⟨⟨q1, q2, q3, d1, d2, d3, o1, o2, o3, sm⟩, p1, p2, p3, po⟩ := hM
  k_steps
  all_goals (try dsimp only)
  all_goals (with_reducible rename News _ _ _ _ => N9)
  refine hD _ _ ?_; refine done_ret (by assumption) (newsMove (own := [_]) N9) ⟨_, vs, n, [_], rfl, ?_, rfl, by dsimp only; omega, rfl, by assumption, hP.mono subApp, ?_⟩
  · exact offCons (off4 (by k_ne) (by k_ne) (by k_ne) (by k_ne)) offNil
  · exact ⟨_, _, _, _, rfl, .head _, hr.mono subApp, hn.mono subApp⟩

/-! C7 -/
/-- a prim's kind, by what it is not -/
structure PlainKind (kl : Cps) : Prop where
  len : kl.length ≤ 1000
  f1 : ¬ (List.any [Str.ofString "cat", Str.ofString "alt", Str.ofString "arbno", Str.ofString "later", Str.ofString "now"] (fun x => x == tx kl) = true)
  f2 : ¬ ((tx (kl.take (4 : Int).toNat) == Str.ofString "end ") = true)
  f3 : ¬ ((tx kl == Str.ofString "cursor") = true)
  f4 : ¬ ((tx kl == Str.ofString "delay") = true)
  f5 : ¬ (List.any [Str.ofString "fence", Str.ofString "abort", Str.ofString "fail", Str.ofString "succeed"] (fun x => x == tx kl) = true)
  f6 : ¬ ((tx kl == Str.ofString "arb") = true)
  f7 : ¬ ((tx kl == Str.ofString "bal") = true)
theorem plain_kind {im : Led} {a : Addr} {p : Prim} (h : PrimIn im a p) : ∃ kl t r, (a, tup (.str (tx kl) t :: r)) ∈ im ∧ PlainKind kl := by
  cases p with
  | chars l => obtain ⟨⟨t, u, m⟩, _⟩ := h; exact ⟨[99, 104, 97, 114, 115], t, _, m, by constructor <;> decide⟩
  | len n => obtain ⟨t, u, m⟩ := h; exact ⟨[108, 101, 110], t, _, m, by constructor <;> decide⟩
  | any l => obtain ⟨t, u, m⟩ := h; exact ⟨[97, 110, 121], t, _, m, by constructor <;> decide⟩
  | span l => obtain ⟨t, u, m⟩ := h; exact ⟨[115, 112, 97, 110], t, _, m, by constructor <;> decide⟩
  | brk l => obtain ⟨t, u, m⟩ := h; exact ⟨[98, 114, 101, 97, 107], t, _, m, by constructor <;> decide⟩
  | rem => obtain ⟨t, m⟩ := h; exact ⟨[114, 101, 109], t, _, m, by constructor <;> decide⟩
theorem item0T {prog : Program} {w : World} {A : Around} {E : Value → Shared → Prop} {s : Shared} {h₀ : Heap} {L : Addr} {news : List (Addr × Obj)} {value slice : Expr} {a : Addr} {v : Value} {r : List Value} {u : Tok} {Q : Value → Shared → Prop}
    (N : News h₀ L s.heap news) (hm : (a, tup (v :: r)) ∈ news) (h : Q v s)
    (hs : subscripted slice false (.ref a) (.int 0 u) = operate [.ref a, .int 0 u] (getItem (.ref a) (.int 0 u)) := by with_unfolding_all rfl) :
    wpAny (model prog w) A (subscriptTail value slice (.ref a) (.int 0 u)) Q E s :=
  item_tupleT (l := v :: r) (j := 0) (News.isTup N hm) (by decide) (by decide) (by simp [seqIndex?]) rfl h hs
theorem words12 : True := by
  k_with "subscriptTail Name Constant ref int" => ((k_here; (with_reducible show wpAny _ _ (subscriptTail _ _ (Value.ref _) (Value.int 0 _)) _ _ _); k_dflt (refine' item0T ?N ?m ?_; (case N => k_asm); (case m => k_mem); k_whole)))
  k_with "ite" => ((k_here; refine ite_neg (by with_reducible assumption) ?_))
  k_with "call ref" => ((k_here; (with_reducible show wpAny _ _ (PySem.call (Value.ref 277) _) _ _ _); k_dflt (refine' Con.callA (settled_con _ _ _ ?a1) ?_; (case a1 => first | assumption | exact PrimIn.mono (by assumption) (by assumption)); intro _ _ _ _ _ _ P'; obtain ⟨e', r9⟩ := P'; subst e'; subst r9; (try dsimp only))))
  trivial
local macro_rules | `(tactic| walk_at "call ref") => `(tactic| (k_here; (with_reducible show wpAny _ _ (PySem.call (Value.ref 389) _) _ _ _); k_dflt (refine' Con.callA (plain_end_con _ _ _ _ _ _ ?a0 ?a1) ?_; (case a0 => omega); (case a1 => first | assumption | exact PrimIn.mono (by assumption) (by assumption)); intro r' n' h' t' F' N' P'; obtain ⟨e', r9⟩ := P'; subst e'; (generalize hq : primEnd _ _ _ = oo at r9); (rcases oo with _ | e9) <;> (first | (have r8 : _ = Value.none := r9; subst r8; (try dsimp only)) | (obtain ⟨t9, r8⟩ := r9; subst r8; (try dsimp only))))))

set_option maxRecDepth 100000 in
set_option maxHeartbeats 8000000 in
theorem taken_con {w : World} {tP tL mean mg mb} (H : HostA) (rf : Refs) (pl : Addr) (c : HostC) (im : Led) (vs : List Value) (n : Nat) (ws : List Way) (S : Cps) (hM : MOk w.params H rf pl im) (hV : VObj w c.ov c.w) (hP : PileIn im rf vs ws) (hS : S.length ≤ 1000000)
    (h nm : Addr) (p : Prim) (ti ts : Tok) (vr : Value) (i : Nat) (l : Named) (r : List CI) (hm : PrimIn im h p) (hr : ChainIn im rf vr r) (hn : NamedIn im rf nm l) :
    Con w tP tL mean mg mb 5 20 445 (machL w.params H c pl vs n im) [.ref h, vr, .int (i : Nat) ti, .ref nm, .str (tx S) ts, .ref pl, .ref H.x] (AdvPost w H rf pl c im ws (adv S (.node (.prim p)) r i l c.w)) := by
  refine' con_of [(Str.ofString "here", .ref h), (Str.ofString "rest", vr), (Str.ofString "at", .int (i : Nat) ti), (Str.ofString "named", .ref nm), (Str.ofString "subject", .str (tx S) ts), (Str.ofString "pile", .ref pl), (Str.ofString "host", .ref H.x)] ?ho ?hcd ?hb ?hl ?hco ?hge ?hk ?hce ?_
  case ho => k_is
  case hcd => k_is
  case hb => exact fun _ => BindsTo.of_eq rfl
  case hl => exact locs rfl
  case hco => rfl
  case hge => rfl
  case hk => rfl
  case hce => decide
  intro dp un gd outer A₀ base g L s Dn hD B F X N T hlt hd hu
  have hPr : PrimIn (machL w.params H c pl vs n im) h p := hm.mono fun _ hp => .tail _ (.tail _ (.tail _ (.tail _ hp)))
  obtain ⟨kl, tk1, krest, hk, ⟨kn, f1, f2, f3, f4, f5, f6, f7⟩⟩ := plain_kind hm
  obtain ⟨⟨q1, q2, q3, d1, d2, d3, o1, o2, o3, sm⟩, p1, p2, p3, po⟩ := hM
  k_steps
  all_goals (try dsimp only)
  all_goals (with_reducible rename News _ _ _ _ => N9)
  · rename _ = none => hq
    refine hD _ _ ?_; refine done_ret (by assumption) N9 ⟨c, vs, n, [], rfl, offNil, rfl, by omega, ?_, hV, ?_, ?_⟩
    · simp only [adv, hq]
    · simp only [adv, hq]; exact hP
    · simp only [adv, hq]; rfl
  · rename _ = some _ => hq
    refine hD _ _ ?_; refine done_ret (by assumption) (newsMove (own := [_]) N9) ⟨c, vs, n, [_], rfl, ?_, rfl, by omega, ?_, hV, ?_, ?_⟩
    · exact offCons (off4 (by k_ne) (by k_ne) (by k_ne) (by k_ne)) offNil
    · simp only [adv, hq]
    · simp only [adv, hq]; exact hP.mono subApp
    · simp only [adv, hq]; exact ⟨_, _, _, _, rfl, .head _, hr.mono subApp, hn.mono subApp⟩
theorem words13 : True := by
  k_with "call ref" => ((k_here; (with_reducible show wpAny _ _ (PySem.call (Value.ref 424) _) _ _ _); k_dflt (refine' Con.callA (led_in_cat _ _ _ _ _ _ _ _ ?S9 ?a1 ?a2 ?a3 _ _ _ _ _ _ _ _ _ _ _ _ ?b1 ?b2 ?b3 ?b4 ?b5) ?_; (case S9 | a1 | a2 | a3 | b1 | b2 | b3 | b4 | b5 => assumption); intro _ _ _ _ _ _ _; (try dsimp only))))
  k_with "call ref" => ((k_here; (with_reducible show wpAny _ _ (PySem.call (Value.ref 424) _) _ _ _); k_dflt (refine' Con.callA (led_in_alt _ _ _ _ _ _ _ _ ?S9 ?a1 ?a2 ?a3 ?z1 _ _ _ _ _ _ _ _ _ _ _ _ ?b1 ?b2 ?b3 ?b4 ?b5) ?_; (case S9 | a1 | a2 | a3 | b1 | b2 | b3 | b4 | b5 => assumption); (case z1 => omega); intro _ _ _ _ _ _ _; (try dsimp only))))
  k_with "call ref" => ((k_here; (with_reducible show wpAny _ _ (PySem.call (Value.ref 424) _) _ _ _); k_dflt (refine' Con.callA (led_in_later _ _ _ _ _ _ _ _ ?S9 ?a1 ?a2 ?a3 _ _ _ _ _ _ _ _ _ _ _ ?b1 ?b2 ?b3 ?b4) ?_; (case S9 | a1 | a2 | a3 | b1 | b2 | b3 | b4 => assumption); intro _ _ _ _ _ _ _; (try dsimp only))))
  k_with "call ref" => ((k_here; (with_reducible show wpAny _ _ (PySem.call (Value.ref 424) _) _ _ _); k_dflt (refine' Con.callA (led_in_now _ _ _ _ _ _ _ _ ?S9 ?a1 ?a2 ?a3 _ _ _ _ _ _ _ _ _ _ _ ?b1 ?b2 ?b3 ?b4) ?_; (case S9 | a1 | a2 | a3 | b1 | b2 | b3 | b4 => assumption); intro _ _ _ _ _ _ _; (try dsimp only))))
  k_with "call ref" => ((k_here; (with_reducible show wpAny _ _ (PySem.call (Value.ref 431) _) _ _ _); k_dflt (refine' Con.callA (led_out_later _ _ _ _ _ _ _ _ _ ?a1 ?a2 ?a3 ?z1 _ _ _ _ _ _ _ _ _ _ _ _ ?b1 ?b2 ?b3 ?z2) ?_; (case a1 | a2 | a3 | b1 | b2 | b3 => assumption); (case z1 | z2 => omega); intro _ _ _ _ _ _ _; (try dsimp only))))
  k_with "call ref" => ((k_here; (with_reducible show wpAny _ _ (PySem.call (Value.ref 431) _) _ _ _); k_dflt (refine' Con.callA (led_out_now _ _ _ _ _ _ _ _ _ ?a1 ?a2 ?a3 ?z1 _ _ _ _ _ _ _ _ _ _ _ _ ?b1 ?b2 ?b3 ?z2) ?_; (case a1 | a2 | a3 | b1 | b2 | b3 => assumption); (case z1 | z2 => omega); intro _ _ _ _ _ _ _; (try dsimp only))))
  k_with "call ref" => ((k_here; (with_reducible show wpAny _ _ (PySem.call (Value.ref 445) _) _ _ _); k_dflt (refine' Con.callA (taken_con _ _ _ _ _ _ _ _ _ ?a1 ?a2 ?a3 ?z1 _ _ _ _ _ _ _ _ _ ?b1 ?b2 ?b3) ?_; (case a1 | a2 | a3 | b1 | b2 | b3 => assumption); (case z1 => omega); intro _ _ _ _ _ _ _; (try dsimp only))))
  trivial

set_option maxRecDepth 100000 in
set_option maxHeartbeats 8000000 in
theorem advanced_con {w : World} {tP tL mean mg mb} (H : HostA) (rf : Refs) (pl : Addr) (c : HostC) (im : Led) (vs : List Value) (n : Nat) (ws : List Way) (S : Cps) (hM : MOk w.params H rf pl im) (hV : VObj w c.ov c.w) (hP : PileIn im rf vs ws) (hS : S.length ≤ 1000000) (hws : ws.length ≤ 9000) (hB : c.items.size ≤ 9000)
    (ci : CI) (a h nm : Addr) (ti ts : Tok) (vr : Value) (i : Nat) (l : Named) (r : List CI) (hm : (a, tup [.ref h, vr]) ∈ im) (hc : CIIn im rf h ci) (hr : ChainIn im rf vr r) (hn : NamedIn im rf nm l) (hl : l.length ≤ 9000) :
    Con w tP tL mean mg mb 6 24 417 (machL w.params H c pl vs n im) [.ref a, .int (i : Nat) ti, .ref nm, .str (tx S) ts, .ref pl, .ref H.x] (AdvPost w H rf pl c im ws (adv S ci r i l c.w)) := by
  refine' con_of [(Str.ofString "chain", .ref a), (Str.ofString "at", .int (i : Nat) ti), (Str.ofString "named", .ref nm), (Str.ofString "subject", .str (tx S) ts), (Str.ofString "pile", .ref pl), (Str.ofString "host", .ref H.x)] ?ho ?hcd ?hb ?hl ?hco ?hge ?hk ?hce ?_
  case ho => k_is
  case hcd => k_is
  case hb => exact fun _ => BindsTo.of_eq rfl
  case hl => exact locs rfl
  case hco => rfl
  case hge => rfl
  case hk => rfl
  case hce => decide
  intro dp un gd outer A₀ base g L s Dn hD B F X N T hlt hd hu
  match ci, hc with
  | .node (.cat na nb), ⟨b, d, t, hk, h1, h2⟩ =>
    k_steps
    all_goals ((try dsimp only); refine hD _ _ ?_; exact done_ret (by assumption) (by assumption) (by assumption))
  | .node (.alt na nb), ⟨b, d, t, hk, h1, h2⟩ =>
    k_steps
    all_goals ((try dsimp only); refine hD _ _ ?_; exact done_ret (by assumption) (by assumption) (by assumption))
  | .node (.later na k), ⟨b, t, hk, h1⟩ =>
    k_steps
    all_goals ((try dsimp only); refine hD _ _ ?_; exact done_ret (by assumption) (by assumption) (by assumption))
  | .node (.now na k), ⟨b, t, hk, h1⟩ =>
    k_steps
    all_goals ((try dsimp only); refine hD _ _ ?_; exact done_ret (by assumption) (by assumption) (by assumption))
  | .later k b, ⟨t, u, hk⟩ =>
    k_steps
    all_goals ((try dsimp only); refine hD _ _ ?_; exact done_ret (by assumption) (by assumption) (by assumption))
  | .now k b, ⟨t, u, hk⟩ =>
    k_steps
    all_goals ((try dsimp only); refine hD _ _ ?_; exact done_ret (by assumption) (by assumption) (by assumption))
  | .node (.prim p), hp =>
    have hp' : PrimIn im h p := hp
    obtain ⟨kl, tk1, krest, hk, ⟨kn, f1, f2, f3, f4, f5, f6, f7⟩⟩ := plain_kind hp'
    k_steps
    all_goals ((try dsimp only); refine hD _ _ ?_; exact done_ret (by assumption) (by assumption) (by assumption))

/-! C8 -/
theorem kst_self {m : Str → Option Value} {ps : List (Str × Value)} (h : ∀ p ∈ ps, m p.1 = some p.2) : m = kstB m ps := (funext fun z => kstB_eq h (fun _ => rfl)).symm
theorem newsTried {h₀ : Heap} {L : Addr} {h : Heap} {own : Led} {p d1 d2 d3 : Addr × Obj} {im : Led} (N : News h₀ L h (p :: (own ++ (d1 :: d2 :: d3 :: im)))) : News h₀ L h (d1 :: d2 :: d3 :: p :: (own ++ im)) := by
  intro q hq
  refine N q ?_
  rcases List.mem_cons.mp hq with e | hq
  · exact .tail _ (List.mem_append_right _ (e ▸ .head _))
  rcases List.mem_cons.mp hq with e | hq
  · exact .tail _ (List.mem_append_right _ (.tail _ (e ▸ .head _)))
  rcases List.mem_cons.mp hq with e | hq
  · exact .tail _ (List.mem_append_right _ (.tail _ (.tail _ (e ▸ .head _))))
  rcases List.mem_cons.mp hq with e | hq
  · exact e ▸ .head _
  rcases List.mem_append.mp hq with hq | hq
  · exact .tail _ (List.mem_append_left _ hq)
  · exact .tail _ (List.mem_append_right _ (.tail _ (.tail _ (.tail _ hq))))
theorem allLt_ne {d : Addr} : ∀ l : List (Addr × Obj), AllLt d l → ∀ p ∈ l, p.1 ≠ d := by
  intro l
  induction l with
  | nil => intro _ p hp; cases hp
  | cons q r ih =>
    intro h p hp
    have h1 : @LT.lt Nat _ q.1 d := h.1
    rcases List.mem_cons.mp hp with rfl | hp
    · exact Nat.ne_of_lt h1
    · exact ih h.2 p hp
theorem ws2_ret {g : Heap} {L : Addr} {s s' : Shared} {J : Nat → (Str → Option Value) → List (Addr × Obj) → Prop} {Q : Flow → Shared → Prop} {n : Nat} {v : Value} (h : Q (.ret v) s') : WhileStep2 g L s J Q n (.ret v) s' := h
theorem ws2_brk {g : Heap} {L : Addr} {s s' : Shared} {J : Nat → (Str → Option Value) → List (Addr × Obj) → Prop} {Q : Flow → Shared → Prop} {n : Nat} (h : Q .next s') : WhileStep2 g L s J Q n .brk s' := h
theorem newsFound {h₀ : Heap} {L : Addr} {h : Heap} {a b p d1 d2 d3 : Addr × Obj} {own im : Led} (N : News h₀ L h (a :: b :: d1 :: d2 :: d3 :: p :: (own ++ im))) : News h₀ L h (d1 :: d2 :: d3 :: (([a, b, p] ++ own) ++ im)) := by
  intro q hq
  rcases List.mem_cons.mp hq with e | hq
  · exact N q (.tail _ (.tail _ (e ▸ .head _)))
  rcases List.mem_cons.mp hq with e | hq
  · exact N q (.tail _ (.tail _ (.tail _ (e ▸ .head _))))
  rcases List.mem_cons.mp hq with e | hq
  · exact N q (.tail _ (.tail _ (.tail _ (.tail _ (e ▸ .head _)))))
  rcases List.mem_cons.mp hq with e | hq
  · exact N q (e ▸ .head _)
  rcases List.mem_cons.mp hq with e | hq
  · exact N q (.tail _ (e ▸ .head _))
  rcases List.mem_cons.mp hq with e | hq
  · exact N q (.tail _ (.tail _ (.tail _ (.tail _ (.tail _ (e ▸ .head _))))))
  · exact N q (.tail _ (.tail _ (.tail _ (.tail _ (.tail _ (.tail _ hq))))))
theorem kun_lenL1 {prog : Program} {w : World} {A : Around} {E : Value → Shared → Prop} {s : Shared} {l : Addr} {items : Array Value} {Q : Value → Shared → Prop} (hl : s.heap.IsList l items) (hz : items.size ≤ 100000) (h : Q (.int (items.size : Nat) (s.toks + 1)) { s with toks := s.toks + 1 + 1 }) :
    wpAny (model prog w) A (PySem.call (.builtin "len") [.ref l]) Q E s := len_list hl (by omega) h
section
variable {prog : Program} {w : World} {A : Around} {E : Value → Shared → Prop} {s : Shared} {h₀ : Heap} {L l : Addr} {m : Str → Option Value} {news news' : List (Addr × Obj)} {its : List Value} {n : Nat} {Q : Value → Shared → Prop}
theorem len_L0 {items : Array Value} {k : Nat} (hl : s.heap.IsList l items) (hk : items.size = k) (hz : k ≤ 100000) (h : ∀ t k', Q (.int (k : Nat) t) { s with toks := k' }) : wpAny (model prog w) A (PySem.call (.builtin "len") [.ref l]) Q E s := by
  subst hk
  exact kun_lenL1 hl hz (h _ _)
theorem len_L (N : News h₀ L s.heap news) (hm : (l, listOf its.toArray n) ∈ news) (hz : its.length ≤ 100000) (h : ∀ t k, Q (.int (its.length : Nat) t) { s with toks := k }) : wpAny (model prog w) A (PySem.call (.builtin "len") [.ref l]) Q E s :=
  len_L0 (News.isList N hm) (by simp) hz h
theorem pop_L {v : Value} (F : Fr h₀ L s.heap m) (N : News h₀ L s.heap news) (U : Upd l (listOf (its ++ [v]).toArray n) (listOf its.toArray (n + 1)) news news') (hz : its.length ≤ 100000)
    (h : ∀ h', Fr h₀ L h' m → News h₀ L h' news' → Q v { s with heap := h' }) : wpAny (model prog w) A (PySem.call (.builtin "list.pop") [.ref l]) Q E s :=
  kl_pop F N (kpa_last v its) U (by rw [sizeLine_eq]; simp; omega) h
theorem list_T (F : Fr h₀ L s.heap m) (N : News h₀ L s.heap news) (hm : (l, tup its) ∈ news) (hz : its.length ≤ 100000)
    (h : ∀ D c h', Fr h₀ L h' m → News h₀ L h' ((D, listOf its.toArray c) :: news) → (∀ q ∈ news, q.1 < D) → Q (.ref D) { s with heap := h' }) : wpAny (model prog w) A (PySem.call (.type "list") [.ref l]) Q E s :=
  list_copyKT F N (News.isTup N hm) h (by rw [sizeLine_eq]; simp; omega)
end
theorem words14 : True := by
  k_with "call builtin:len" => ((k_here; (with_reducible show wpAny _ _ (PySem.call (Value.builtin "len") [Value.ref _]) _ _ _); k_dflt (refine' len_L ?N ?m ?z ?_; (case N => k_asm); (case m => k_mem); (case z => first | assumption | omega | (simp only [List.length_append, List.length_cons, List.length_nil]; omega)); k_whole); intro _ _; (try simp only [List.length_append, List.length_cons, List.length_nil]); (try dsimp only)))
  k_with "call builtin:list.pop" => ((k_here; (with_reducible show wpAny _ _ (PySem.call (Value.builtin _) [Value.ref _]) _ _ _); k_dflt (refine' pop_L ?F ?N ?U ?z ?_; (case F => k_asm); (case N => k_asm); (case U => k_upd); (case z => first | assumption | omega); k_whole); intro _ _ _; (try k_sweep); (try dsimp only)))
  trivial
local macro_rules | `(tactic| walk_at "call type:list") => `(tactic| (k_here; (with_reducible show wpAny _ _ (PySem.call (Value.type "list") [Value.ref _]) _ _ _); k_dflt (refine' list_T ?F ?N ?m ?z ?_; (case F => k_asm); (case N => k_asm); (case m => k_mem); (case z => first | assumption | omega); k_whole); intro D' c' h' F' N' l1; (try k_lt l1); (try k_sweep); (try dsimp only)))

theorem eq_tup_str {prog : Program} {w : World} {A : Around} {E : Value → Shared → Prop} {s : Shared} {h₀ : Heap} {L a : Addr} {news : List (Addr × Obj)} {vs : List Value} {x : Str} {u : Tok} {Q : Value → Shared → Prop}
    (N : News h₀ L s.heap news) (hm : (a, tup vs) ∈ news) (hu : A.units < cLine) (h : Q (.bool false) s) : wpAny (model prog w) A (compareOp .Eq (.ref a) (.str x u)) Q E s :=
  cmp_ofEq (SeqAt.RcAt.tuple_str x u ⟨_, N.get hm, rfl, _, rfl⟩ hu prog w E Q h)
theorem words15 : True := by
  k_with "compareOp Eq ref str" => ((k_here; k_dflt (refine' eq_tup_str ?N ?m ?u ?_; (case N => k_asm); (case m => k_mem); (case u => (dsimp only [ktrTop]; omega)); k_whole)))
  k_with "call ref" => ((k_here; (with_reducible show wpAny _ _ (PySem.call (Value.ref 233) _) _ _ _); k_dflt (refine' Con.callA (step_con _ _ _ _ ?a1 ?a2) ?_; (case a1 => assumption); (case a2 => omega); intro _ _ _ _ _ _ P'; obtain ⟨r9, _, e'⟩ := P'; subst r9; subst e'; (try dsimp only))))
  trivial

noncomputable def Off3 (H : HostA) (a : Addr) : Prop := a ≠ H.dx ∧ a ≠ H.vd ∧ a ≠ H.lg
noncomputable def FoundIn (im : Led) (rf : Refs) (r : Value) : Option (Nat × Named) → Prop
  | none => r = .none
  | some (e, l) => ∃ a ls t vs k, r = .ref a ∧ (a, tup [.int (e : Nat) t, .ref ls]) ∈ im ∧ (ls, listOf vs.toArray k) ∈ im ∧ NamesIn im rf vs l
inductive TriedPost (w : World) (H : HostA) (rf : Refs) (im : Led) (TT : Nat) (R : Option (Nat × Named) × W2) (r : Value) (news' : Led) : Prop where
  | mk (c' : _) (own : _) (h1 : news' = hostL w.params H c' (own ++ im)) (h2 : (∀ p ∈ own, Off3 H p.1)) (h3 : VObj w c'.ov c'.w) (h4 : c'.w = R.2) (h5 : c'.Le TT) (h6 : FoundIn (own ++ im) rf r R.1) : TriedPost w H rf im TT R r news'
noncomputable def WOk (S : Cps) (B : Nat) (wy : Way) : Prop := wy.2.1 ≤ S.length ∧ wy.2.2.length ≤ B
inductive JOut (w : World) (H : HostA) (rf : Refs) (im : Led) (S : Cps) (ts : Tok) (pl : Addr) (TT : Nat) (R : Option (Nat × Named) × W2) (n : Nat) (m' : Str → Option Value) (news' : Led) : Prop where
  | mk (u : _) (c : _) (vs : _) (k₁ : _) (own : _) (ways : _) (B' : _) (h1 : m' = kstB u [(Str.ofString "pile", .ref pl), (Str.ofString "subject", .str (tx S) ts), (Str.ofString "host", .ref H.x)]) (h2 : n = costPile ways) (h3 : news' = machL w.params H c pl vs k₁ (own ++ im)) (h4 : (∀ p ∈ own, Off4 H pl p.1)) (h5 : VObj w c.ov c.w) (h6 : PileIn (own ++ im) rf vs ways) (h7 : runPile S ways c.w = R) (h8 : c.Le B') (h9 : B' + costPile ways ≤ TT) (h10 : ∀ wy ∈ ways, WOk S B' wy) : JOut w H rf im S ts pl TT R n m' news'
inductive JIn (w : World) (H : HostA) (rf : Refs) (im : Led) (S : Cps) (ts : Tok) (pl : Addr) (TT : Nat) (R : Option (Nat × Named) × W2) (n₀ : Nat) (n : Nat) (m' : Str → Option Value) (news' : Led) : Prop where
  | mk (u : _) (c : _) (vs : _) (k₁ : _) (own : _) (ways : _) (B' : _) (ch : _) (i : _) (ti : _) (l : _) (vch : _) (nm : _) (h1 : m' = kstB u [(Str.ofString "chain", vch), (Str.ofString "at", .int (i : Nat) ti), (Str.ofString "named", .ref nm), (Str.ofString "pile", .ref pl), (Str.ofString "subject", .str (tx S) ts), (Str.ofString "host", .ref H.x)]) (h2 : n = costPile ((ch, i, l) :: ways)) (h3 : n ≤ n₀) (h4 : news' = machL w.params H c pl vs k₁ (own ++ im)) (h5 : (∀ p ∈ own, Off4 H pl p.1)) (h6 : VObj w c.ov c.w) (h7 : PileIn (own ++ im) rf vs ways) (h8 : ChainIn (own ++ im) rf vch ch) (h9 : NamedIn (own ++ im) rf nm l) (h10 : runPile S ((ch, i, l) :: ways) c.w = R) (h11 : c.Le B') (h12 : B' + costPile ((ch, i, l) :: ways) ≤ TT) (h13 : ∀ wy ∈ (ch, i, l) :: ways, WOk S B' wy) : JIn w H rf im S ts pl TT R n₀ n m' news'
theorem tz0 {B x y c : Nat} (h : B + (1 + x + y) ≤ 9000) (h2 : c ≤ B) : c + 1 ≤ 9000 := by omega
theorem tz1 {B x y l : Nat} (h : B + (1 + x + y) ≤ 9000) (h2 : l ≤ y) : l ≤ 9000 := by omega
theorem tz2 {B x y l : Nat} (h : B + (1 + x + y) ≤ 9000) (h2 : l ≤ B) : l ≤ 9000 := by omega
theorem tz4 {B a b : Nat} (h : 1 + a ≤ b) : B + 1 + a ≤ B + b := by omega
theorem tz5 {a b : Nat} (h : 1 + a ≤ b) : a < b := by omega
set_option maxRecDepth 100000 in
set_option maxHeartbeats 8000000 in
theorem tried_con {w : World} {tP tL mean mg mb} (H : HostA) (rf : Refs) (c : HostC) (im : Led) (S : Cps) (hH : HostIn w.params H rf im) (hV : VObj w c.ov c.w) (hS : S.length ≤ 1000000)
    (nd : Addr) (n : Node) (b K₀ : Nat) (ts tb : Tok) (hn : NodeIn im rf nd n) (hb : b ≤ S.length) (hLe : c.Le K₀) (hT : K₀ + (1 + costN n 0) ≤ 9000) :
    Con w tP tL mean mg mb 7 28 410 (hostL w.params H c im) [.ref nd, .str (tx S) ts, .int (b : Nat) tb, .ref H.x] (TriedPost w H rf im (K₀ + (1 + costN n 0)) (matchAt S n b c.w)) := by
  refine' con_of [(Str.ofString "node", .ref nd), (Str.ofString "subject", .str (tx S) ts), (Str.ofString "begin", .int (b : Nat) tb), (Str.ofString "host", .ref H.x)] ?ho ?hcd ?hb ?hl ?hco ?hge ?hk ?hce ?_
  case ho => k_is
  case hcd => k_is
  case hb => exact fun _ => BindsTo.of_eq rfl
  case hl => exact locs rfl
  case hco => rfl
  case hge => rfl
  case hk => rfl
  case hce => decide
  intro dp un gd outer A₀ base g L s Dn hD B F X N T hlt hd hu
  refine wpAny_execs_cons ?_
  repeat' (first | (fail_if_success (with_reducible show wpAny _ _ (exec (Stmt.While _ _ _ _) _) _ _ _)); walk1 | ((fail_if_success (with_reducible show wpAny _ _ (exec (Stmt.While _ _ _ _) _) _ _ _)); dsimp only; walk1))
  (with_reducible rename News _ _ _ _ => N1)
  (with_reducible rename Fr _ _ _ _ => F1)
  rename_i D1 _ l1 D2 _ l2 D3 _ l3 pl _ l4 _
  have hp1 : @Ne Nat pl H.dx := by k_ne
  have hp2 : @Ne Nat pl H.vd := by k_ne
  have hp3 : @Ne Nat pl H.lg := by k_ne
  have hM : MOk w.params H rf pl im := ⟨hH, hp1, hp2, hp3, allLt_ne _ (by exact l4.2.2.2.2.2.2)⟩
  refine While_O (JOut w H rf im S ts pl (K₀ + (1 + costN n 0)) (matchAt S n b c.w)) F1 (newsTried (own := [_, _, _]) N1) ⟨_, c, [_], 0, [_, _, _], [([.node n], b, [])], K₀, kst_self ?f1, rfl, rfl, ?o1, hV, ?P1, rfl, hLe, ?T1, ?W1⟩ ?_
  case f1 => exact (fac rfl (fac rfl (fac rfl facNil)))
  case o1 => exact offCons (off4 (by k_ne) (by k_ne) (by k_ne) (by k_ne)) (offCons (off4 (by k_ne) (by k_ne) (by k_ne) (by k_ne)) (offCons (off4 (by k_ne) (by k_ne) (by k_ne) (by k_ne)) offNil))
  case P1 => exact ⟨_, _, rfl, ⟨_, _, _, _, rfl, .head _, ⟨_, _, _, rfl, .tail _ (.tail _ (.head _)), NodeIn.mono subApp hn, rfl⟩, ⟨[], .tail _ (.head _), rfl⟩⟩, rfl⟩
  case T1 => exact Nat.le_refl _
  case W1 => exact (fac ⟨hb, Nat.zero_le _⟩ facNil)
  rintro n₁ m₁ news₁ h₁ tk₁ Wa hWa F₁ N₁ ⟨u, c1, vs, k1, own, ways, B1, rfl, rfl, rfl, hoff, hV1, hP1, hR, hLe1, hT1, hW1⟩
  clear N1 F1 l1 l2 l3 l4 hlt
  dsimp only [kstB] at F₁
  have hM1 : MOk w.params H rf pl (own ++ im) := hM.app hoff
  cases ways with
  | nil =>
    have hvs : vs = [] := by have := hP1.length; exact List.length_eq_zero_iff.mp this
    subst hvs
    k_steps
    all_goals (try dsimp only)
    refine hD _ _ ?_; refine done_ret (by assumption) N₁ ⟨c1, (pl, listOf [].toArray k1) :: own, rfl, ?_, hV1, ?_, ?_, ?_⟩
    · exact (fac ⟨hp1, hp2, hp3⟩ (fun p hp => ⟨(hoff p hp).1, (hoff p hp).2.1, (hoff p hp).2.2.1⟩))
    · rw [← hR]; rfl
    · exact ⟨Nat.le_trans hLe1.1 (by omega), Nat.le_trans hLe1.2 (by omega)⟩
    · rw [← hR]; exact rfl
  | cons wy ways =>
    obtain ⟨us, v, rfl, hw, hP2⟩ := hP1.pop
    obtain ⟨ch, i, l⟩ := wy
    obtain ⟨a, vch, ti, nm, rfl, hm, hch, hnm⟩ := hw
    have hlen := hP2.length
    have hcl := costPile_len ways
    have hcost : costPile ((ch, i, l) :: ways) = 1 + costCh ch + costPile ways := rfl
    have hH1 : HostIn w.params H rf ((pl, listOf us.toArray (k1 + 1)) :: (own ++ im)) := hM1.host.app (own := [(pl, listOf us.toArray (k1 + 1))]) (by intro p hp; rw [List.mem_singleton.mp hp]; exact hp1) (by intro p hp; rw [List.mem_singleton.mp hp]; exact hp2) (by intro p hp; rw [List.mem_singleton.mp hp]; exact hp3)
    obtain ⟨⟨q1, q2, q3, d1, d2, d3, o1, o2, o3, sm⟩, p1, p2, p3, po⟩ := id hM1
    repeat' (first | (fail_if_success (with_reducible show wpAny _ _ (exec (Stmt.While _ _ _ _) _) _ _ _)); walk1 | ((fail_if_success (with_reducible show wpAny _ _ (exec (Stmt.While _ _ _ _) _) _ _ _)); dsimp only; walk1))
    (with_reducible rename News _ _ _ _ => N2)
    (with_reducible rename Fr _ _ _ _ => F2)
    refine While_O (JIn w H rf im S ts pl (K₀ + (1 + costN n 0)) (matchAt S n b c.w) (costPile ((ch, i, l) :: ways))) F2 N2 ⟨_, c1, us, k1 + 1, own, ways, B1, ch, i, ti, l, vch, nm, kst_self ?f2, rfl, Nat.le_refl _, rfl, hoff, hV1, hP2, hch, hnm, hR, hLe1, hT1, hW1⟩ ?_
    case f2 => exact (fac rfl (fac rfl (fac rfl (fac rfl (fac rfl (fac rfl facNil))))))
    clear hM1 hH1 q1 q2 q3 d1 d2 d3 o1 o2 o3 sm p1 p2 p3 po hm hch hnm hP2 hP1 hlen hcl hcost
    rintro n₂ m₂ news₂ h₂ tk₂ Wb hWb F₃ N₃ ⟨u2, c2, vs2, k2, own2, ways2, B2, ch2, i2, ti2, l2, vch2, nm2, rfl, rfl, hn2, rfl, hoff2, hV2, hP3, hch2, hnm2, hR2, hLe2, hT2, hW2⟩
    dsimp only [kstB] at F₃
    have hM2 : MOk w.params H rf pl (own2 ++ im) := hM.app hoff2
    cases ch2 with
    | nil =>
      obtain rfl : vch2 = .none := hch2
      obtain ⟨us2, hu2, hnn2⟩ := hnm2
      have hll := hnn2.length
      have hl2 : l2.length ≤ B2 := (hW2 _ (.head _)).2
      k_steps
      (with_reducible rename News _ _ _ _ => N9)
      rename_i ls lsn _ _ fa _ _ _
      refine hWa _ _ ?_; refine ws2_ret (hD _ _ (done_ret (by assumption) (newsFound N9) ⟨c2, [(fa, tup [.int (i2 : Nat) ti2, .ref ls]), (ls, listOf us2.toArray lsn), (pl, listOf vs2.toArray k2)] ++ own2, rfl, ?_, hV2, ?_, ?_, ?_⟩))
      · intro p hp
        rcases List.mem_cons.mp hp with rfl | hp
        · exact ⟨by k_ne, by k_ne, by k_ne⟩
        rcases List.mem_cons.mp hp with rfl | hp
        · exact ⟨by k_ne, by k_ne, by k_ne⟩
        rcases List.mem_cons.mp hp with rfl | hp
        · exact ⟨hp1, hp2, hp3⟩
        · exact ⟨(hoff2 p hp).1, (hoff2 p hp).2.1, (hoff2 p hp).2.2.1⟩
      · rw [← hR2]; rfl
      · exact ⟨Nat.le_trans hLe2.1 (by omega), Nat.le_trans hLe2.2 (by omega)⟩
      · rw [← hR2]
        exact ⟨_, _, _, us2, _, rfl, .head _, .tail _ (.head _), hnn2.mono fun _ hp => .tail _ (.tail _ (.tail _ hp))⟩
    | cons ci r =>
      obtain ⟨a2, h2, rest, rfl, hm2, hci, hr2⟩ := hch2
      have hH2 : HostIn w.params H rf ((pl, listOf vs2.toArray k2) :: (own2 ++ im)) := hM2.host.app (own := [(pl, listOf vs2.toArray k2)]) (by intro p hp; rw [List.mem_singleton.mp hp]; exact hp1) (by intro p hp; rw [List.mem_singleton.mp hp]; exact hp2) (by intro p hp; rw [List.mem_singleton.mp hp]; exact hp3)
      obtain ⟨⟨q1, q2, q3, d1, d2, d3, o1, o2, o3, sm⟩, p1, p2, p3, po⟩ := id hM2
      have hco := adv_cost S ci r i2 l2 ways2 c2.w
      have hst := hLe2.1
      have hcl2 := costPile_len ways2
      have hcost2 : costPile ((ci :: r, i2, l2) :: ways2) = 1 + costCh (ci :: r) + costPile ways2 := rfl
      have hl2 : l2.length ≤ B2 := (hW2 _ (.head _)).2
      have hBT : B2 + (1 + costCh (ci :: r) + costPile ways2) ≤ 9000 := Nat.le_trans hT2 hT
      have hst1 : c2.st + 1 ≤ 9000 := tz0 hBT hst
      k_steps
      refine' Con.call ?k1 ?k2 ?k3 ?k4 ?k5 ?k6 (advanced_con H rf pl _ (own2 ++ im) vs2 k2 ways2 S hM2 ?hv hP3 hS ?z1 ?z2 ci a2 h2 nm2 ti2 ts rest i2 l2 r hm2 hci hr2 hnm2 ?z3) ?kd ?ku ?_
      case k1 => k_asm
      case k2 => k_asm
      case k3 => k_asm
      case k4 => k_asm
      case k5 => k_asm
      case k6 => rfl
      case hv => exact hV2
      case z1 => exact tz1 hBT hcl2
      case z2 => exact tz2 hBT hLe2.2
      case z3 => exact tz2 hBT hl2
      case kd => first | exact dle hd rfl | omega
      case ku => first | exact dle hu rfl | omega
      rintro r9 n9 h9 tk9 F9 N9 ⟨c3, vs3, k3, own3, rfl, hoff3, hs3, hz3, hw3, hV3, hP4, hR3⟩
      have hrun := adv_run S ci r i2 l2 ways2 c2.w
      have hle1 := fun wy => @adv_le S ci r i2 l2 c2.w wy (hW2 _ (.head _)).1
      have hle2 := adv_le2 (c := ci) (r := r) (l := l2) (w := c2.w) (hW2 _ (.head _)).1
      have hle3 := fun wy => @adv_len S ci r i2 l2 c2.w wy
      have hle4 := @adv_len2 S ci r i2 l2 c2.w
      have hoff4 : ∀ p ∈ own3 ++ own2, Off4 H pl p.1 := fun p hp => (List.mem_append.mp hp).elim (hoff3 p) (hoff2 p)
      have hLe3 : c3.Le (B2 + 1) := ⟨by have := hLe2.1; (try dsimp only at hs3); omega, by have := hLe2.2; (try dsimp only at hz3); omega⟩
      rw [← List.append_assoc] at hP4 hR3 N9
      have hold : ∀ wy ∈ ways2, WOk S (B2 + 1) wy := fun wy hw => ⟨(hW2 wy (.tail _ hw)).1, Nat.le_succ_of_le (hW2 wy (.tail _ hw)).2⟩
      (try dsimp only at hs3); (try dsimp only at hz3); (try dsimp only at hw3); (try dsimp only at hP4); (try dsimp only at hR3)
      rcases hq : adv S ci r i2 l2 c2.w with ⟨_ | ⟨ch4, i4, l4⟩, q4, w4⟩
      · rw [hq] at hrun hco hw3 hP4 hR3 hle2 hle4
        obtain rfl : r9 = .none := hR3
        dsimp only at hrun hco hw3 hP4 hle2 hle4
        k_steps
        dsimp only
        refine hWb _ _ ?_; refine ws2_brk ?_
        dsimp only
        k_steps
        (with_reducible rename News _ _ _ _ => N8)
        (with_reducible rename Fr _ _ _ _ => F8)
        refine hWa _ _ ?_; refine ws2_next F8 N8 (n' := costPile (q4 ++ ways2)) (Nat.lt_of_lt_of_le (tz5 hco) hn2) ⟨_, c3, vs3, k3, own3 ++ own2, q4 ++ ways2, B2 + 1, kst_self ?g1, rfl, rfl, hoff4, hV3, hP4, ?g2, hLe3, Nat.le_trans (tz4 hco) hT2, ?g3⟩
        case g1 => exact (fac rfl (fac rfl (fac rfl facNil)))
        case g2 => rw [hw3, ← hrun]; exact hR2
        case g3 => exact fun wy hw => (List.mem_append.mp hw).elim (fun q => ⟨hle2 wy q, Nat.le_trans (hle4 wy q) (by omega)⟩) (hold wy)
      · rw [hq] at hrun hco hw3 hP4 hR3 hle1 hle2 hle3 hle4
        dsimp only at hrun hco hw3 hP4 hR3 hle2 hle4
        obtain ⟨a5, ch5, t5, nm5, rfl, hm5, hch5, hnm5⟩ := hR3
        dsimp only at hm5 hch5 hnm5
        k_steps
        (with_reducible rename News _ _ _ _ => N8)
        (with_reducible rename Fr _ _ _ _ => F8)
        refine hWb _ _ ?_; refine ws2_next F8 N8 (n' := costPile ((ch4, i4, l4) :: (q4 ++ ways2))) (tz5 hco) ⟨_, c3, vs3, k3, own3 ++ own2, q4 ++ ways2, B2 + 1, ch4, i4, t5, l4, ch5, nm5, kst_self ?g1, rfl, Nat.le_trans (Nat.le_of_lt (tz5 hco)) hn2, rfl, hoff4, hV3, hP4, hch5, hnm5, ?g2, hLe3, Nat.le_trans (tz4 hco) hT2, ?g3⟩
        case g1 => exact (fac rfl (fac rfl (fac rfl (fac rfl (fac rfl (fac rfl facNil))))))
        case g2 => rw [hw3, ← hrun]; exact hR2
        case g3 => exact (fac ⟨hle1 _ rfl, Nat.le_trans (hle3 _ rfl) (by omega)⟩ (fun wy hw => (List.mem_append.mp hw).elim (fun q => ⟨hle2 wy q, Nat.le_trans (hle4 wy q) (by omega)⟩) (hold wy)))

/-! Loops -/
section
variable {prog : Program} {w : World} {A : Around} {E : Value → Shared → Prop} {s : Shared} {env : Env} {h₀ : Heap} {target : Expr} {body : List Stmt} {Q : Flow → Shared → Prop}
/-- how a turn of a for ends -/
noncomputable def EndG (h₀ : Heap) (L : Addr) (need : Led) (J : (Str → Option Value) → Led → Prop) (it : Addr × Obj) (s : Shared) (Q : Flow → Shared → Prop) (f : Flow) (s₂ : Shared) : Prop :=
  match f with
  | .ret v => Q (.ret v) s₂
  | .brk => Q .next s₂
  | _ => ∃ h' tk m' news', s₂ = { s with heap := h', toks := tk } ∧ Fr h₀ L h' m' ∧ News h₀ L h' (it :: news') ∧ (∀ p ∈ news', p.1 ≠ it.1) ∧ (∀ p ∈ need, p ∈ news') ∧ J m' news'
theorem endG_ret {L : Addr} {need : Led} {J : (Str → Option Value) → Led → Prop} {it : Addr × Obj} {s s₂ : Shared} {v : Value} (h : Q (.ret v) s₂) : EndG h₀ L need J it s Q (.ret v) s₂ := h
theorem endG_next {L : Addr} {need : Led} {J : (Str → Option Value) → Led → Prop} {it : Addr × Obj} {s : Shared} {h' : Heap} {tk : Nat} {m' : Str → Option Value} {news' : Led} (F : Fr h₀ L h' m') (N : News h₀ L h' (it :: news')) (ho : ∀ p ∈ news', p.1 ≠ it.1) (hn : ∀ p ∈ need, p ∈ news') (hJ : J m' news') :
    EndG h₀ L need J it s Q .next { s with heap := h', toks := tk } := ⟨h', tk, m', news', rfl, F, N, ho, hn, hJ⟩
theorem core_G {I : Addr} {fp : List Addr} {n : Nat} {P : Nat → Value → Prop} {St : Nat → Heap → Prop} {m₀ : Str → Option Value} {news need : Led} (J : Nat → (Str → Option Value) → Led → Prop)
    (W : Walks prog w A I fp [I] n P St) (hfp : ∀ b ∈ fp, b = I ∨ ∃ o, (b, o) ∈ need) (hget : ∀ i h, St i h → ∃ o, h.get? I = some o) (hI : h₀.get? I = none) (hIL : env.locals ≠ I)
    (hst : St 0 s.heap) (F : Fr h₀ env.locals s.heap m₀) (N : News h₀ env.locals s.heap news) (hoff : ∀ p ∈ news, p.1 ≠ I) (hneed : ∀ p ∈ need, p ∈ news) (hj : J 0 m₀ news)
    (turn : ∀ i v m₁ news₁ h tk o, i < n → P i v → J i m₁ news₁ → (∀ p ∈ need, p ∈ news₁) → (∀ p ∈ news₁, p.1 ≠ I) → Fr h₀ env.locals h m₁ → News h₀ env.locals h ((I, o) :: news₁) →
      wpAny (model prog w) A (assign target env v) (fun _ s₂ => wpAny (model prog w) A (execs body env) (EndG h₀ env.locals need (J (i + 1)) (I, o) s Q) E s₂) E { s with heap := h, toks := tk })
    (done : ∀ m₁ news₁ h tk, J n m₁ news₁ → (∀ p ∈ need, p ∈ news₁) → Fr h₀ env.locals h m₁ → News h₀ env.locals h news₁ → Q .next { s with heap := h, toks := tk })
    (ht : ∀ i v (s' : Shared) (Q' : Unit → Shared → Prop) (E' : Value → Shared → Prop), P i v → St (i + 1) s'.heap → Q' () s' → wpAny (model prog w) A (letOwnedTupleGo target (.ref I) v) Q' E' s') (hE : PassesOwn (model prog w) A env E) :
    codeAny (model prog w) A (.forLoop target (.ref I) body [] env) (fun r s' => match r with | .ok f => Q f s' | .error e => cameBackBy (model prog w) A env E e s') s := by
  refine codeAny_forLoop_any
    (fun k s' => ∃ h' tk m' news' i, s' = { s with heap := h', toks := tk } ∧ St i h' ∧ Fr h₀ env.locals h' m' ∧ News h₀ env.locals h' news' ∧ (∀ p ∈ news', p.1 ≠ I) ∧ (∀ p ∈ need, p ∈ news') ∧ J i m' news' ∧ i ≤ n ∧ k = n + 1 - i) ?_ (n + 1)
    ⟨s.heap, s.toks, m₀, news, 0, rfl, hst, F, N, hoff, hneed, hj, Nat.zero_le _, rfl⟩
  rintro k s' ⟨h', tk, m', news', i, rfl, hst', F', N', hoff', hneed', hJ, hi, rfl⟩
  have next : ∀ h₁ : Heap, (∀ b o, b ∉ [I] → h'.get? b = some o → h₁.get? b = some o) → Fr h₀ env.locals h₁ m' ∧ News h₀ env.locals h₁ news' := fun h₁ hk₁ =>
    ⟨⟨F'.ns.at' fun o e => hk₁ _ o (by simpa using hIL) e, fun b o e => hk₁ b o (by intro q; rw [List.mem_singleton.mp q, hI] at e; cases e) (F'.keep b o e), F'.above⟩, fun p hp => ⟨hk₁ _ _ (by simpa using hoff' p hp) (N' p hp).1, (N' p hp).2⟩⟩
  by_cases hlt : i < n
  · refine W.item i _ _ _ hlt hst' fun v h₁ tk₁ hP hst₁ hk₁ => ?_
    obtain ⟨F₁, N₁⟩ := next h₁ hk₁
    obtain ⟨o, ho⟩ := hget _ _ hst₁
    have NI : News h₀ env.locals h₁ ((I, o) :: news') := (fac ⟨ho, Ne.symm hIL, hI⟩ N₁)
    have T := turn i v m' news' h₁ tk₁ o hlt hP hJ hneed' hoff' F₁ NI
    refine ht i v _ _ _ hP hst₁ ?_
    refine wpAny_mono T (fun _ s₂ h₂ => ?_) hE
    refine wpAny_mono h₂ (fun f s₃ h₃ => ?_) hE
    have fin : (∃ h' tk m' news', s₃ = { s with heap := h', toks := tk } ∧ Fr h₀ env.locals h' m' ∧ News h₀ env.locals h' ((I, o) :: news') ∧ (∀ p ∈ news', p.1 ≠ I) ∧ (∀ p ∈ need, p ∈ news') ∧ J (i + 1) m' news') →
        ∃ m, m < n + 1 - i ∧ ∃ h' tk m' news' i, s₃ = { s with heap := h', toks := tk } ∧ St i h' ∧ Fr h₀ env.locals h' m' ∧ News h₀ env.locals h' news' ∧ (∀ p ∈ news', p.1 ≠ I) ∧ (∀ p ∈ need, p ∈ news') ∧ J i m' news' ∧ i ≤ n ∧ m = n + 1 - i := by
      rintro ⟨h₄, tk₄, m₄, news₄, rfl, F₄, N₄, ho₄, hn₄, hJ₄⟩
      refine ⟨n + 1 - (i + 1), by omega, h₄, tk₄, m₄, news₄, i + 1, rfl, ?_, F₄, fun p hp => N₄ p (.tail _ hp), ho₄, hn₄, hJ₄, hlt, rfl⟩
      refine W.frame _ _ _ hst₁ fun b hb o' e => ?_
      rcases hfp b hb with rfl | ⟨o₂, hm⟩
      · rw [ho] at e; cases e; exact (N₄ _ (.head _)).1
      · have e1 := (N₁ _ (hneed' _ hm)).1
        rw [e1] at e; cases e
        exact (N₄ _ (.tail _ (hn₄ _ hm))).1
    cases f with
    | ret v => exact h₃
    | brk => exact h₃
    | next => exact fin h₃
    | cont => exact fin h₃
  · have hin : i = n := by omega
    subst hin
    refine W.done _ _ _ hst' fun h₁ tk₁ hk₁ => wpAny_execs_nil ?_
    obtain ⟨F₁, N₁⟩ := next h₁ hk₁
    exact done m' news' h₁ tk₁ hJ hneed' F₁ N₁
theorem list_G {l : Addr} {vs : List Value} {nn : Nat} {m₀ : Str → Option Value} {news : Led} (J : Nat → (Str → Option Value) → Led → Prop)
    (hh : A.handled = none) (F : Fr h₀ env.locals s.heap m₀) (N : News h₀ env.locals s.heap news) (hl : (l, listOf vs.toArray nn) ∈ news) (hj : J 0 m₀ news)
    (turn : ∀ i v m₁ news₁ h tk it, vs[i]? = some v → J i m₁ news₁ → (l, listOf vs.toArray nn) ∈ news₁ → (∀ p ∈ news₁, p.1 ≠ it.1) → Fr h₀ env.locals h m₁ → News h₀ env.locals h (it :: news₁) →
      wpAny (model prog w) A (assign target env v) (fun _ s₂ => wpAny (model prog w) A (execs body env) (EndG h₀ env.locals [(l, listOf vs.toArray nn)] (J (i + 1)) it s Q) E s₂) E { s with heap := h, toks := tk })
    (done : ∀ m₁ news₁ h tk, J vs.length m₁ news₁ → (l, listOf vs.toArray nn) ∈ news₁ → Fr h₀ env.locals h m₁ → News h₀ env.locals h news₁ → Q .next { s with heap := h, toks := tk })
    (hE : PassesOwn (model prog w) A env E := by passes_own) (ht : ∀ I v, letOwnedTupleGo target (.ref I) v = pure () := by intro _ _; rfl) :
    wpAny (model prog w) A (pyIter (.ref l)) (fun it s₂ => codeAny (model prog w) A (.forLoop target it body [] env) (fun r s' => match r with | .ok f => Q f s' | .error e => cameBackBy (model prog w) A env E e s') s₂) E s := by
  have hol : s.heap.get? l = some (listOf vs.toArray nn) := (N _ hl).1
  have hls : s.heap.IsList l vs.toArray := ⟨_, hol, rfl, nn, rfl⟩
  have hne : l ≠ s.heap.objs.size := Nat.ne_of_lt (Heap.lt_size hol)
  refine wpAny_pyIter_list hls ?_
  have W := Walks.list (prog := prog) (w := w) hh s.heap.objs.size l hne vs.toArray
  rw [List.size_toArray] at W
  refine core_G (need := [(l, listOf vs.toArray nn)]) (m₀ := m₀) (news := news) J W ?_ ?_ ?_ ?_ ⟨⟨_, Heap.get?_push_size _ rfl, rfl, rfl⟩, hls.at fun o e => Heap.get?_push_of_some _ e⟩ (F.push _) (fun p hp => ⟨Heap.get?_push_of_some _ (N p hp).1, (N p hp).2⟩) ?_ ?_ hj ?_ ?_ (fun _ v _ _ _ _ _ hq => wpAny_of_eq (ht _ v) hq) hE
  · intro b hb
    rcases List.mem_cons.mp hb with h | h
    · exact .inl h
    · exact .inr ⟨_, by rw [List.mem_singleton.mp h]; exact .head _⟩
  · rintro i h ⟨⟨o, ho, _⟩, _⟩; exact ⟨o, ho⟩
  · exact next_is_new F
  · exact Nat.ne_of_lt F.ns.lt
  · intro p hp; exact Nat.ne_of_lt (Heap.lt_size (N p hp).1)
  · intro p hp; rw [List.mem_singleton.mp hp]; exact hl
  · intro i v m₁ news₁ h tk o hi hP hJ hn ho F₁ N₁
    exact turn i v m₁ news₁ h tk _ (by simpa using hP) hJ (hn _ (.head _)) ho F₁ N₁
  · intro m₁ news₁ h tk hJ hn F₁ N₁
    exact done m₁ news₁ h tk hJ (hn _ (.head _)) F₁ N₁
theorem list_GT {elts : List Expr} {x1 : Nat} {tpos : Pos} {l : Addr} {vs : List Value} {nn : Nat} {m₀ : Str → Option Value} {news : Led} (J : Nat → (Str → Option Value) → Led → Prop)
    (hh : A.handled = none) (hv : ∀ v ∈ vs, ∃ a, v = .ref a) (F : Fr h₀ env.locals s.heap m₀) (N : News h₀ env.locals s.heap news) (hl : (l, listOf vs.toArray nn) ∈ news) (hj : J 0 m₀ news)
    (turn : ∀ i v m₁ news₁ h tk it, vs[i]? = some v → J i m₁ news₁ → (l, listOf vs.toArray nn) ∈ news₁ → (∀ p ∈ news₁, p.1 ≠ it.1) → Fr h₀ env.locals h m₁ → News h₀ env.locals h (it :: news₁) →
      wpAny (model prog w) A (assign (.Tuple elts x1 tpos) env v) (fun _ s₂ => wpAny (model prog w) A (execs body env) (EndG h₀ env.locals [(l, listOf vs.toArray nn)] (J (i + 1)) it s Q) E s₂) E { s with heap := h, toks := tk })
    (done : ∀ m₁ news₁ h tk, J vs.length m₁ news₁ → (l, listOf vs.toArray nn) ∈ news₁ → Fr h₀ env.locals h m₁ → News h₀ env.locals h news₁ → Q .next { s with heap := h, toks := tk })
    (hE : PassesOwn (model prog w) A env E := by passes_own) :
    wpAny (model prog w) A (pyIter (.ref l)) (fun it s₂ => codeAny (model prog w) A (.forLoop (.Tuple elts x1 tpos) it body [] env) (fun r s' => match r with | .ok f => Q f s' | .error e => cameBackBy (model prog w) A env E e s') s₂) E s := by
  have hol : s.heap.get? l = some (listOf vs.toArray nn) := (N _ hl).1
  have hls : s.heap.IsList l vs.toArray := ⟨_, hol, rfl, nn, rfl⟩
  have hne : l ≠ s.heap.objs.size := Nat.ne_of_lt (Heap.lt_size hol)
  refine wpAny_pyIter_list hls ?_
  have W := Walks.list (prog := prog) (w := w) hh s.heap.objs.size l hne vs.toArray
  rw [List.size_toArray] at W
  refine core_G (need := [(l, listOf vs.toArray nn)]) (m₀ := m₀) (news := news) J W ?_ ?_ ?_ ?_ ⟨⟨_, Heap.get?_push_size _ rfl, rfl, rfl⟩, hls.at fun o e => Heap.get?_push_of_some _ e⟩ (F.push _) (fun p hp => ⟨Heap.get?_push_of_some _ (N p hp).1, (N p hp).2⟩) ?_ ?_ hj ?_ ?_ (fun i v s' Q' E' hP hst hq => by
      obtain ⟨a, rfl⟩ := hv v (List.mem_of_getElem? (by simpa using hP))
      exact wpAny_letOwnedTupleGo_listiter hst.1 hq) hE
  · intro b hb
    rcases List.mem_cons.mp hb with h | h
    · exact .inl h
    · exact .inr ⟨_, by rw [List.mem_singleton.mp h]; exact .head _⟩
  · rintro i h ⟨⟨o, ho, _⟩, _⟩; exact ⟨o, ho⟩
  · exact next_is_new F
  · exact Nat.ne_of_lt F.ns.lt
  · intro p hp; exact Nat.ne_of_lt (Heap.lt_size (N p hp).1)
  · intro p hp; rw [List.mem_singleton.mp hp]; exact hl
  · intro i v m₁ news₁ h tk o hi hP hJ hn ho F₁ N₁
    exact turn i v m₁ news₁ h tk _ (by simpa using hP) hJ (hn _ (.head _)) ho F₁ N₁
  · intro m₁ news₁ h tk hJ hn F₁ N₁
    exact done m₁ news₁ h tk hJ (hn _ (.head _)) F₁ N₁
theorem rangeIt_G {r : Addr} {n : Nat} {t₁ u₁ v₁ : Tok} {m₀ : Str → Option Value} {news : Led} (J : Nat → (Str → Option Value) → Led → Prop)
    (hh : A.handled = none) (hr : IsRange s.heap r 0 (n : Nat) 1 t₁ u₁ v₁) (F' : Fr h₀ env.locals s.heap m₀) (N' : News h₀ env.locals s.heap news) (hn : n ≤ 100000000) (hj : J 0 m₀ news)
    (turn : ∀ i t m₁ news₁ h tk it, i < n → J i m₁ news₁ → (∀ p ∈ news₁, p.1 ≠ it.1) → Fr h₀ env.locals h m₁ → News h₀ env.locals h (it :: news₁) →
      wpAny (model prog w) A (assign target env (.int (i : Nat) t)) (fun _ s₂ => wpAny (model prog w) A (execs body env) (EndG h₀ env.locals [] (J (i + 1)) it s Q) E s₂) E { s with heap := h, toks := tk })
    (done : ∀ m₁ news₁ h tk, J n m₁ news₁ → Fr h₀ env.locals h m₁ → News h₀ env.locals h news₁ → Q .next { s with heap := h, toks := tk })
    (hE : PassesOwn (model prog w) A env E := by passes_own) (ht : ∀ I v, letOwnedTupleGo target (.ref I) v = pure () := by intro _ _; rfl) :
    wpAny (model prog w) A (pyIter (.ref r)) (fun it s₂ => codeAny (model prog w) A (.forLoop target it body [] env) (fun r s' => match r with | .ok f => Q f s' | .error e => cameBackBy (model prog w) A env E e s') s₂) E s := by
  have hsz : Builtin.Range.rangeSize 0 (n : Int) 1 = (n : Int) := by
    unfold Builtin.Range.rangeSize
    simp
    omega
  refine wpAny_pyIter_range hr (small_one (by omega) (by omega) (by omega) (by omega)) ?_
  have W : Walks prog w A s.heap.objs.size [s.heap.objs.size] [s.heap.objs.size] n (fun i v => ∃ t, v = .int (0 + i * 1) t)
      (fun i h => IsRangeIter h s.heap.objs.size (0 + (i : Nat) * 1) ((n : Int) - (i : Nat)) 1) := Walks.range hh _ 0 1 n
  refine core_G (need := []) (m₀ := m₀) (news := news) J W ?_ ?_ ?_ ?_ (by show IsRangeIter _ _ _ _ _; rw [hsz]; simpa using Heap.get?_push_size _ rfl) (F'.push _) (fun p hp => ⟨Heap.get?_push_of_some _ (N' p hp).1, (N' p hp).2⟩) ?_ ?_ hj ?_ ?_ (fun _ v _ _ _ _ _ hq => wpAny_of_eq (ht _ v) hq) hE
  · intro b hb; exact .inl (List.mem_singleton.mp hb)
  · intro i h hst; exact ⟨_, hst⟩
  · exact next_is_new F'
  · exact Nat.ne_of_lt F'.ns.lt
  · intro p hp; exact Nat.ne_of_lt (Heap.lt_size (N' p hp).1)
  · intro p hp; cases hp
  · rintro i v m₁ news₁ h tk o hi ⟨t', rfl⟩ hJ _ ho F₁ N₁
    have e : (0 : Int) + (i : Int) * 1 = (i : Int) := by omega
    rw [e]
    exact turn i t' m₁ news₁ h tk _ hi hJ ho F₁ N₁
  · intro m₁ news₁ h tk hJ _ F₁ N₁
    exact done m₁ news₁ h tk hJ F₁ N₁
theorem list_O {l : Addr} {vs : List Value} {nn : Nat} {m₀ : Str → Option Value} {news : Led} (J : Nat → (Str → Option Value) → Led → Prop)
    (hh : A.handled = none) (F : Fr h₀ env.locals s.heap m₀) (N : News h₀ env.locals s.heap news) (hl : (l, listOf vs.toArray nn) ∈ news) (hj : J 0 m₀ news)
    (turn : ∀ i v m₁ news₁ h tk it (W : Flow → Shared → Prop), (∀ fl s', EndG h₀ env.locals [(l, listOf vs.toArray nn)] (J (i + 1)) it s Q fl s' → W fl s') → vs[i]? = some v → J i m₁ news₁ → (l, listOf vs.toArray nn) ∈ news₁ → (∀ p ∈ news₁, p.1 ≠ it.1) → Fr h₀ env.locals h m₁ → News h₀ env.locals h (it :: news₁) →
      wpAny (model prog w) A (assign target env v) (fun _ s₂ => wpAny (model prog w) A (execs body env) W E s₂) E { s with heap := h, toks := tk })
    (done : ∀ m₁ news₁ h tk, J vs.length m₁ news₁ → (l, listOf vs.toArray nn) ∈ news₁ → Fr h₀ env.locals h m₁ → News h₀ env.locals h news₁ → Q .next { s with heap := h, toks := tk })
    (hE : PassesOwn (model prog w) A env E := by passes_own) (ht : ∀ I v, letOwnedTupleGo target (.ref I) v = pure () := by intro _ _; rfl) :
    wpAny (model prog w) A (pyIter (.ref l)) (fun it s₂ => codeAny (model prog w) A (.forLoop target it body [] env) (fun r s' => match r with | .ok f => Q f s' | .error e => cameBackBy (model prog w) A env E e s') s₂) E s :=
  list_G J hh F N hl hj (fun i v m₁ news₁ h tk it a b c d e f => turn i v m₁ news₁ h tk it _ (fun _ _ h => h) a b c d e f) done hE ht
theorem list_OT {elts : List Expr} {x1 : Nat} {tpos : Pos} {l : Addr} {vs : List Value} {nn : Nat} {m₀ : Str → Option Value} {news : Led} (J : Nat → (Str → Option Value) → Led → Prop)
    (hh : A.handled = none) (hv : ∀ v ∈ vs, ∃ a, v = .ref a) (F : Fr h₀ env.locals s.heap m₀) (N : News h₀ env.locals s.heap news) (hl : (l, listOf vs.toArray nn) ∈ news) (hj : J 0 m₀ news)
    (turn : ∀ i v m₁ news₁ h tk it (W : Flow → Shared → Prop), (∀ fl s', EndG h₀ env.locals [(l, listOf vs.toArray nn)] (J (i + 1)) it s Q fl s' → W fl s') → vs[i]? = some v → J i m₁ news₁ → (l, listOf vs.toArray nn) ∈ news₁ → (∀ p ∈ news₁, p.1 ≠ it.1) → Fr h₀ env.locals h m₁ → News h₀ env.locals h (it :: news₁) →
      wpAny (model prog w) A (assign (.Tuple elts x1 tpos) env v) (fun _ s₂ => wpAny (model prog w) A (execs body env) W E s₂) E { s with heap := h, toks := tk })
    (done : ∀ m₁ news₁ h tk, J vs.length m₁ news₁ → (l, listOf vs.toArray nn) ∈ news₁ → Fr h₀ env.locals h m₁ → News h₀ env.locals h news₁ → Q .next { s with heap := h, toks := tk })
    (hE : PassesOwn (model prog w) A env E := by passes_own) :
    wpAny (model prog w) A (pyIter (.ref l)) (fun it s₂ => codeAny (model prog w) A (.forLoop (.Tuple elts x1 tpos) it body [] env) (fun r s' => match r with | .ok f => Q f s' | .error e => cameBackBy (model prog w) A env E e s') s₂) E s :=
  list_GT J hh hv F N hl hj (fun i v m₁ news₁ h tk it a b c d e f => turn i v m₁ news₁ h tk it _ (fun _ _ h => h) a b c d e f) done hE
theorem rangeIt_O {r : Addr} {n : Nat} {t₁ u₁ v₁ : Tok} {m₀ : Str → Option Value} {news : Led} (J : Nat → (Str → Option Value) → Led → Prop)
    (hh : A.handled = none) (hr : IsRange s.heap r 0 (n : Nat) 1 t₁ u₁ v₁) (F' : Fr h₀ env.locals s.heap m₀) (N' : News h₀ env.locals s.heap news) (hn : n ≤ 100000000) (hj : J 0 m₀ news)
    (turn : ∀ i t m₁ news₁ h tk it (W : Flow → Shared → Prop), (∀ fl s', EndG h₀ env.locals [] (J (i + 1)) it s Q fl s' → W fl s') → i < n → J i m₁ news₁ → (∀ p ∈ news₁, p.1 ≠ it.1) → Fr h₀ env.locals h m₁ → News h₀ env.locals h (it :: news₁) →
      wpAny (model prog w) A (assign target env (.int (i : Nat) t)) (fun _ s₂ => wpAny (model prog w) A (execs body env) W E s₂) E { s with heap := h, toks := tk })
    (done : ∀ m₁ news₁ h tk, J n m₁ news₁ → Fr h₀ env.locals h m₁ → News h₀ env.locals h news₁ → Q .next { s with heap := h, toks := tk })
    (hE : PassesOwn (model prog w) A env E := by passes_own) (ht : ∀ I v, letOwnedTupleGo target (.ref I) v = pure () := by intro _ _; rfl) :
    wpAny (model prog w) A (pyIter (.ref r)) (fun it s₂ => codeAny (model prog w) A (.forLoop target it body [] env) (fun r s' => match r with | .ok f => Q f s' | .error e => cameBackBy (model prog w) A env E e s') s₂) E s :=
  rangeIt_G J hh hr F' N' hn hj (fun i v m₁ news₁ h tk it a b c d e => turn i v m₁ news₁ h tk it _ (fun _ _ h => h) a b c d e) done hE ht
end

/-! C9 -/
noncomputable def Found3In (im : Led) (rf : Refs) (r : Value) : Option (Nat × Nat × Named) → Prop
  | none => r = .none
  | some (b, e, l) => ∃ a ls t0 t vs k, r = .ref a ∧ (a, tup [.int (b : Nat) t0, .int (e : Nat) t, .ref ls]) ∈ im ∧ (ls, listOf vs.toArray k) ∈ im ∧ NamesIn im rf vs l
inductive MatchPost (w : World) (H : HostA) (rf : Refs) (im : Led) (TT : Nat) (R : Option (Nat × Nat × Named) × W2) (r : Value) (news' : Led) : Prop where
  | mk (c' : _) (im' : _) (h1 : news' = hostL w.params H c' im') (h2 : HostIn w.params H rf im') (h3 : (∀ p ∈ im, p ∈ im')) (h4 : VObj w c'.ov c'.w) (h5 : c'.w = R.2) (h6 : c'.Le TT) (h7 : Found3In im' rf r R.1) : MatchPost w H rf im TT R r news'
theorem hostApp {P : Params} {H : HostA} {rf : Refs} {im own : Led} (h : HostIn P H rf im) (ho : ∀ p ∈ own, Off3 H p.1) : HostIn P H rf (own ++ im) := h.app (fun p hp => (ho p hp).1) (fun p hp => (ho p hp).2.1) (fun p hp => (ho p hp).2.2)
theorem hostOff {P : Params} {H : HostA} {c c' : HostC} {im : Led} {a : Addr} (h : ∀ p ∈ hostL P H c im, p.1 ≠ a) : ∀ p ∈ hostL P H c' im, p.1 ≠ a := by
  intro p hp
  rcases List.mem_cons.mp hp with rfl | hp
  · exact h (H.dx, hostD P H c) (.head _)
  rcases List.mem_cons.mp hp with rfl | hp
  · exact h (H.vd, c.ov) (.tail _ (.head _))
  rcases List.mem_cons.mp hp with rfl | hp
  · exact h (H.lg, listOf c.items c.n) (.tail _ (.tail _ (.head _)))
  · exact h p (.tail _ (.tail _ (.tail _ hp)))
theorem newsHost {h₀ : Heap} {L : Addr} {h : Heap} {own : Led} {d1 d2 d3 : Addr × Obj} {im : Led} (N : News h₀ L h (own ++ (d1 :: d2 :: d3 :: im))) : News h₀ L h (d1 :: d2 :: d3 :: (own ++ im)) := by
  intro q hq
  rcases List.mem_cons.mp hq with e | hq
  · exact N q (List.mem_append_right _ (e ▸ .head _))
  rcases List.mem_cons.mp hq with e | hq
  · exact N q (List.mem_append_right _ (.tail _ (e ▸ .head _)))
  rcases List.mem_cons.mp hq with e | hq
  · exact N q (List.mem_append_right _ (.tail _ (.tail _ (e ▸ .head _))))
  rcases List.mem_append.mp hq with hq | hq
  · exact N q (List.mem_append_left _ hq)
  · exact N q (List.mem_append_right _ (.tail _ (.tail _ (.tail _ hq))))
local macro_rules | `(tactic| walk_at "call ref") => `(tactic| (k_here; (with_reducible show wpAny _ _ (PySem.call (Value.ref 410) _) _ _ _); k_dflt (refine' Con.callA (tried_con _ _ _ _ _ ?a1 ?a2 ?a3 _ _ _ _ _ _ ?b1 ?b2 ?b3 ?b4) ?_; (case a1 | a2 | a3 | b1 | b2 | b3 => assumption); (case b4 => omega); intro r' n' h' t' F' N' P'; obtain ⟨c', own', e', off', V', w', le', R'⟩ := P'; subst e'; (generalize hq : matchAt _ _ _ _ = st9 at w' R'); (obtain ⟨o9, w9⟩ := st9); (rcases o9 with _ | ⟨e9, l9⟩) <;> (first | (have r8 : _ = Value.none := R'; subst r8; (try dsimp only)) | (obtain ⟨a9, ls9, t9, vs9, k9, r8, m8, m9, nn9⟩ := R'; subst r8; (try dsimp only))))))

set_option maxRecDepth 100000 in
set_option maxHeartbeats 8000000 in
theorem match_at_con {w : World} {tP tL mean mg mb} (H : HostA) (rf : Refs) (c : HostC) (im : Led) (S : Cps) (hH : HostIn w.params H rf im) (hV : VObj w c.ov c.w) (hS : S.length ≤ 1000000)
    (nd : Addr) (n : Node) (b K₀ : Nat) (ts tb : Tok) (hn : NodeIn im rf nd n) (hb : b ≤ S.length) (hLe : c.Le K₀) (hT : K₀ + (1 + costN n 0) ≤ 9000) :
    Con w tP tL mean mg mb 8 32 403 (hostL w.params H c im) [.ref nd, .str (tx S) ts, .int (b : Nat) tb, .ref H.x] (MatchPost w H rf im (K₀ + (1 + costN n 0)) ((matchAt S n b c.w).1.map fun m => (b, m), (matchAt S n b c.w).2)) := by
  refine' con_of [(Str.ofString "node", .ref nd), (Str.ofString "subject", .str (tx S) ts), (Str.ofString "begin", .int (b : Nat) tb), (Str.ofString "host", .ref H.x)] ?ho ?hcd ?hb ?hl ?hco ?hge ?hk ?hce ?_
  case ho => k_is
  case hcd => k_is
  case hb => exact fun _ => BindsTo.of_eq rfl
  case hl => exact locs rfl
  case hco => rfl
  case hge => rfl
  case hk => rfl
  case hce => decide
  intro dp un gd outer A₀ base g L s Dn hD B F X N T hlt hd hu
  k_steps
  all_goals (try dsimp only)
  all_goals (with_reducible rename News _ _ _ _ => N9)
  all_goals (rename ∀ p ∈ _, Off3 _ _ => hoff)
  all_goals (rename matchAt _ _ _ _ = _ => hq; rw [hq] at hD)
  · refine hD _ _ ?_; exact done_ret (by assumption) N9 ⟨_, _ ++ im, rfl, hostApp hH hoff, subApp, by assumption, by assumption, by assumption, rfl⟩
  · refine hD _ _ ?_; refine done_ret (by assumption) (newsHost (own := [_]) N9) ⟨_, (_ :: _) ++ im, rfl, hostApp hH ?_, subApp, by assumption, by assumption, by assumption, ?_⟩
    · exact (fac ⟨by k_ne, by k_ne, by k_ne⟩ hoff)
    · exact ⟨_, _, _, _, _, _, rfl, .head _, .tail _ (by assumption), NamesIn.mono (fun _ hp => .tail _ hp) (by assumption)⟩
theorem newsPick {h₀ : Heap} {L : Addr} {h : Heap} {im' : Led} {d1 d2 d3 it : Addr × Obj} {im : Led} (N : News h₀ L h (d1 :: d2 :: d3 :: im')) (hs : ∀ p ∈ it :: im, p ∈ im') : News h₀ L h (it :: d1 :: d2 :: d3 :: im) := by
  intro q hq
  rcases List.mem_cons.mp hq with e | hq
  · exact N q (.tail _ (.tail _ (.tail _ (hs q (e ▸ .head _)))))
  rcases List.mem_cons.mp hq with e | hq
  · exact N q (e ▸ .head _)
  rcases List.mem_cons.mp hq with e | hq
  · exact N q (.tail _ (e ▸ .head _))
  rcases List.mem_cons.mp hq with e | hq
  · exact N q (.tail _ (.tail _ (e ▸ .head _)))
  · exact N q (.tail _ (.tail _ (.tail _ (hs q (.tail _ hq)))))
inductive JPlain (w : World) (H : HostA) (rf : Refs) (c : HostC) (im : Led) (S : Cps) (nd : Addr) (n : Node) (ts : Tok) (K₀ K N : Nat) (i : Nat) (m' : Str → Option Value) (news' : Led) : Prop where
  | mk (u : _) (c' : _) (h1 : m' = kstB u [(Str.ofString "node", .ref nd), (Str.ofString "subject", .str (tx S) ts), (Str.ofString "host", .ref H.x)]) (h2 : news' = hostL w.params H c' im) (h3 : VObj w c'.ov c'.w) (h4 : c'.Le (K₀ + i * K)) (h5 : search (matchAt S n) ((List.range N).drop i) c'.w = search (matchAt S n) (List.range N) c.w) : JPlain w H rf c im S nd n ts K₀ K N i m' news'
local macro_rules | `(tactic| walk_at "call ref") => `(tactic| (k_here; (with_reducible show wpAny _ _ (PySem.call (Value.ref 403) _) _ _ _); k_dflt (refine' Con.callA (match_at_con _ _ _ _ _ ?a1 ?a2 ?a3 _ _ _ _ _ _ ?b1 ?b2 ?b3 ?b4) ?_; (case a1 | a2 | a3 | b1 => assumption); (case b2 => omega); (case b3 => assumption); (case b4 => omega); intro r' n' h' t' F' N' P'; obtain ⟨c', im', e', hH', sub', V', w', le', R'⟩ := P'; subst e'; (generalize hq : matchAt _ _ _ _ = st9 at w' R'); (obtain ⟨o9, w9⟩ := st9); (rcases o9 with _ | ⟨e9, l9⟩) <;> (first | (have r8 : _ = Value.none := R'; subst r8; (try dsimp only)) | (obtain ⟨a9, ls9, t8, t9, vs9, k9, r8, m8, m9, nn9⟩ := R'; subst r8; (try dsimp only))))))

set_option maxRecDepth 100000 in
set_option maxHeartbeats 8000000 in
theorem match_plain_con {w : World} {tP tL mean mg mb} (H : HostA) (rf : Refs) (c : HostC) (im : Led) (S : Cps) (hH : HostIn w.params H rf im) (hV : VObj w c.ov c.w) (hS : S.length ≤ 1000000)
    (nd : Addr) (n : Node) (anch : Bool) (K₀ : Nat) (ts : Tok) (hn : NodeIn im rf nd n) (hLe : c.Le K₀) (hT : K₀ + (S.length + 1) * (1 + costN n 0) ≤ 9000) :
    Con w tP tL mean mg mb 9 36 396 (hostL w.params H c im) [.ref nd, .str (tx S) ts, .bool anch, .ref H.x] (MatchPost w H rf im (K₀ + (S.length + 1) * (1 + costN n 0)) (search (matchAt S n) (begins anch S) c.w)) := by
  refine' con_of [(Str.ofString "node", .ref nd), (Str.ofString "subject", .str (tx S) ts), (Str.ofString "is_anchored", .bool anch), (Str.ofString "host", .ref H.x)] ?ho ?hcd ?hb ?hl ?hco ?hge ?hk ?hce ?_
  case ho => k_is
  case hcd => k_is
  case hb => exact fun _ => BindsTo.of_eq rfl
  case hl => exact locs rfl
  case hco => rfl
  case hge => rfl
  case hk => rfl
  case hce => decide
  intro dp un gd outer A₀ base g L s Dn hD B F X N T hlt hd hu
  generalize hK : 1 + costN n 0 = K at hT hD
  refine wpAny_execs_cons ?_
  refine wpAny_For ?_
  repeat' (first | (fail_if_success (with_reducible show wpAny _ _ (eval (Expr.IfExp _ _ _ _) _) _ _ _)); walk1 | ((fail_if_success (with_reducible show wpAny _ _ (eval (Expr.IfExp _ _ _ _) _) _ _ _)); dsimp only; walk1))
  refine wpAny_mono (Q := fun v s' => ∃ (n : Nat) (t : Tok) (k : Tok), n = (if anch = true then 1 else S.length + 1) ∧ v = .int (n : Nat) t ∧ s' = { s with toks := k }) ?ifx ?_ (fun _ _ e => e)
  case ifx =>
    cases anch
    all_goals k_steps
    all_goals first | exact ⟨S.length + 1, _, _, rfl, rfl, rfl⟩ | exact ⟨1, _, _, rfl, rfl, rfl⟩
  rintro _ _ ⟨nn, tn, kn, hnn, rfl, rfl⟩
  (try dsimp only)
  have hnl : nn ≤ S.length + 1 := by rw [hnn]; split <;> omega
  k_steps
  have hb : begins anch S = List.range nn := by rw [hnn]; rfl
  (with_reducible rename News _ _ _ _ => N1)
  (with_reducible rename Fr _ _ _ _ => F1)
  rename IsRange _ _ _ _ _ _ _ _ => hr
  refine rangeIt_O (n := nn) (JPlain w H rf c im S nd n ts K₀ K nn) (by rfl) hr F1 N1 (by omega) ⟨_, c, kst_self ?f1, rfl, hV, ⟨by have := hLe.1; omega, by have := hLe.2; omega⟩, rfl⟩ ?_ ?_
  case f1 => exact (fac rfl (fac rfl (fac rfl facNil)))
  · rintro i t m₁ news₁ h₁ tk it Wa hWa hi ⟨u, c1, rfl, rfl, hV1, hLe1, hR1⟩ ho F₁ N₁
    dsimp only [kstB] at F₁
    have N₂ : News g L h₁ (hostL w.params H c1 (it :: im)) := newsHost (own := [it]) N₁
    clear N₁ N1 F1 hr
    have hH2 : HostIn w.params H rf (it :: im) := hH.app (own := [it]) (by intro p hp; rw [List.mem_singleton.mp hp]; exact (ho _ (.head _)).symm) (by intro p hp; rw [List.mem_singleton.mp hp]; exact (ho _ (.tail _ (.head _))).symm) (by intro p hp; rw [List.mem_singleton.mp hp]; exact (ho _ (.tail _ (.tail _ (.head _)))).symm)
    have hn2 : NodeIn (it :: im) rf nd n := hn.mono fun _ hp => .tail _ hp
    have hKK : K₀ + i * K + K ≤ K₀ + (S.length + 1) * K := by
      have h1 : (i + 1) * K ≤ (S.length + 1) * K := Nat.mul_le_mul_right K (by omega)
      have h2 : (i + 1) * K = i * K + K := Nat.succ_mul i K
      omega
    have hdrop : (List.range nn).drop i = i :: (List.range nn).drop (i + 1) := by
      rw [List.drop_eq_getElem_cons (by simpa using hi)]; simp
    rw [hdrop] at hR1
    simp only [search] at hR1
    k_steps
    · rename matchAt _ _ _ _ = _ => hq
      rw [hq] at hR1
      (with_reducible rename News _ _ _ _ => N9)
      rename HostC.Le _ _ => hLe9
      rename ∀ p ∈ it :: im, p ∈ _ => hsub
      refine hWa _ _ ?_; refine endG_next (by assumption) (newsPick N9 hsub) (hostOff ho) (fun _ h => nomatch h) ⟨_, _, kst_self ?g1, rfl, by assumption, ?g2, ?g3⟩
      case g1 => exact (fac rfl (fac rfl (fac rfl facNil)))
      case g2 => have h2 : (i + 1) * K = i * K + K := Nat.succ_mul i K
                 exact ⟨by have := hLe9.1; omega, by have := hLe9.2; omega⟩
      case g3 => rw [← hR1]; congr 1
    · rename matchAt _ _ _ _ = _ => hq
      rw [hq] at hR1
      (with_reducible rename News _ _ _ _ => N9)
      rename HostC.Le _ _ => hLe9
      try dsimp only
      rename ∀ p ∈ it :: im, p ∈ _ => hsub
      refine hWa _ _ ?_; refine endG_ret (hD _ _ (done_ret (by assumption) N9 ⟨_, _, rfl, by assumption, fun p hp => hsub p (.tail _ hp), by assumption, ?h2, ⟨by have := hLe9.1; omega, by have := hLe9.2; omega⟩, ?h4⟩))
      case h2 => rw [hb, ← hR1]; assumption
      case h4 => rw [hb, ← hR1]; exact ⟨_, _, _, _, _, _, rfl, by assumption, by assumption, by assumption⟩
  · rintro m₁ news₁ h₁ tk ⟨u, c1, rfl, rfl, hV1, hLe1, hR1⟩ F₁ N₁
    k_steps
    all_goals (try dsimp only)
    rw [List.drop_of_length_le (by simp)] at hR1
    refine hD _ _ ?_; refine done_ret (by assumption) N₁ ⟨c1, im, rfl, hH, fun _ hp => hp, hV1, ?_, ?_, ?_⟩
    · rw [hb, ← hR1]; rfl
    · have hle : nn * K ≤ (S.length + 1) * K := Nat.mul_le_mul_right K (by omega)
      exact ⟨by have := hLe1.1; omega, by have := hLe1.2; omega⟩
    · rw [hb, ← hR1]; exact rfl

/-! C10 -/
theorem NamesIn.get {im : Led} {rf : Refs} {vs : List Value} : ∀ {l : Named} {i : Nat} {v : Value}, NamesIn im rf vs l → vs[i]? = some v → ∃ k t b u, l[i]? = some (k, t) ∧ v = .ref b ∧ (b, tup [.ref (rf.at k), .str (tx t) u]) ∈ im := by
  induction vs with
  | nil => intro l i v _ e; cases e
  | cons w ws ih =>
    intro l i v h e
    obtain ⟨k, t, r, b, u, rfl, rfl, m, h2⟩ := h
    cases i with
    | zero =>
      obtain rfl : v = .ref b := (Option.some.inj e).symm
      exact ⟨k, t, b, u, rfl, rfl, m⟩
    | succ i =>
      have q := ih h2 e
      exact q
theorem Con.meth {w : World} {tP : Program} {tL : List Str} {mean : ExcName → Option Value} {mg mb : Str → Option Value} {D U : Nat} {f q : Addr} {self : Value} {news : Led} {vs : List Value} {Post : Value → Led → Prop}
    {dp un : Nat} {gd : Option (List Code)} {cn : Str} {cs : Scope} {a : Addr} {ccd : Value} {cl : List (Str × Addr)} {outer : List Env} {A₀ : Around} {base h₀ : Heap} {L : Addr} {m : Str → Option Value} {s : Shared} {Q E : Value → Shared → Prop}
    (B : Below A₀ base outer h₀) (F : Fr h₀ L s.heap m) (X : (Mine.K w.params).In h₀) (N : News h₀ L s.heap news)
    (T : Top tP tL mean mg mb h₀) (hk : cs.kind = .function) (hq : (q, methodObj (.ref f) self) ∈ news) (C : Con w tP tL mean mg mb D U f news (self :: vs) Post) (hd : dp + D < recursionLimit) (hu : un + U < cLine)
    (h : ∀ r news' h' tk', Fr h₀ L h' m → News h₀ L h' news' → Post r news' → Q r { s with heap := h', toks := tk' }) :
    wpAny (model PySem.Challenge.rw_nz0411_01.row.prog w) (ktrTop dp un gd cn cs L a ccd cl outer) (PySem.call (.ref q) vs) Q E s :=
  wpAny_call (method_call (N _ hq).1 (C _ _ _ _ _ _ _ _ _ _ _ _ _ _ _ _ B F X N T hk hd hu h))
inductive JGive (w : World) (H : HostA) (c : HostC) (im : Led) (q : Addr) (l : Named) (K₀ : Nat) (i : Nat) (m' : Str → Option Value) (news' : Led) : Prop where
  | mk (u : _) (c' : _) (h1 : m' = kstB u [(Str.ofString "give", .ref q)]) (h2 : news' = hostL w.params H c' im) (h3 : VObj w c'.ov c'.w) (h4 : c'.Le (K₀ + i)) (h5 : c'.w = give (l.take i) c.w) : JGive w H c im q l K₀ i m' news'
set_option maxRecDepth 100000 in
set_option maxHeartbeats 8000000 in
theorem give_names_con {w : World} {tP tL mean mg mb} (H : HostA) (rf : Refs) (c : HostC) (im : Led) (hH : HostIn w.params H rf im) (hV : VObj w c.ov c.w)
    (fo q ls : Addr) (l : Named) (vs : List Value) (k b e K₀ : Nat) (t0 t1 : Tok) (hf : (fo, tup [.int (b : Nat) t0, .int (e : Nat) t1, .ref ls]) ∈ im) (hl : (ls, listOf vs.toArray k) ∈ im) (hn : NamesIn im rf vs l) (hq : (q, methodObj (.ref 226) (.ref H.x)) ∈ im)
    (hLe : c.Le K₀) (hT : K₀ + l.length ≤ 9000) :
    Con w tP tL mean mg mb 2 8 21 (hostL w.params H c im) [.ref fo, .ref q] (fun r news' => r = .none ∧ ∃ c', news' = hostL w.params H c' im ∧ VObj w c'.ov c'.w ∧ c'.w = give l c.w ∧ c'.Le (K₀ + l.length)) := by
  refine' con_of [(Str.ofString "found", .ref fo), (Str.ofString "give", .ref q)] ?ho ?hcd ?hb ?hl ?hco ?hge ?hk ?hce ?_
  case ho => k_is
  case hcd => k_is
  case hb => exact fun _ => BindsTo.of_eq rfl
  case hl => exact locs rfl
  case hco => rfl
  case hge => rfl
  case hk => rfl
  case hce => decide
  intro dp un gd outer A₀ base g L s Dn hD B F X N T hlt hd hu
  refine wpAny_execs_cons ?_
  refine wpAny_For ?_
  k_steps
  (with_reducible rename News _ _ _ _ => N1)
  (with_reducible rename Fr _ _ _ _ => F1)
  refine list_OT (JGive w H c im q l K₀) (by rfl) (fun v hv => by obtain ⟨i, hi⟩ := List.getElem?_of_mem hv; obtain ⟨_, _, _, _, _, e9, _⟩ := hn.get hi; exact ⟨_, e9⟩) F1 N1 (.tail _ (.tail _ (.tail _ hl))) ⟨_, c, kst_self ?f1, rfl, hV, hLe, rfl⟩ ?_ ?_
  case f1 => exact (fac rfl facNil)
  · rintro i v m₁ news₁ h₁ tk it Wa hWa hi ⟨u, c1, rfl, rfl, hV1, hLe1, hw1⟩ hl1 ho F₁ N₁
    dsimp only [kstB] at F₁
    have N₂ : News g L h₁ (hostL w.params H c1 (it :: im)) := newsHost (own := [it]) N₁
    clear N₁ N1 F1
    have hH2 : HostIn w.params H rf (it :: im) := hH.app (own := [it]) (by intro p hp; rw [List.mem_singleton.mp hp]; exact (ho _ (.head _)).symm) (by intro p hp; rw [List.mem_singleton.mp hp]; exact (ho _ (.tail _ (.head _))).symm) (by intro p hp; rw [List.mem_singleton.mp hp]; exact (ho _ (.tail _ (.tail _ (.head _)))).symm)
    obtain ⟨kk, t, b', u', hli, rfl, hm⟩ := hn.get hi
    have hR : RefIn w.params (it :: im) (rf.at kk) kk := hH2.refs kk
    have hil : i < l.length := (List.getElem?_eq_some_iff.mp hli).1
    have hb1 := hLe1.2
    have hq2 : (q, methodObj (.ref 226) (.ref H.x)) ∈ hostL w.params H c1 (it :: im) := .tail _ (.tail _ (.tail _ (.tail _ hq)))
    k_steps
    refine' Con.meth ?k1 ?k2 ?k3 ?k4 ?k5 ?k6 hq2 (assign_con H rf c1 (it :: im) _ kk t _ hH2 hV1 (by omega) hR) ?kd ?ku ?_
    case k1 => k_asm
    case k2 => k_asm
    case k3 => k_asm
    case k4 => k_asm
    case k5 => k_asm
    case k6 => rfl
    case kd => first | exact dle hd rfl | omega
    case ku => first | exact dle hu rfl | omega
    rintro r9 n9 h9 tk9 F9 N9 ⟨rfl, ov9, its9, nn9, hV9, hz9, rfl⟩
    (try dsimp only)
    k_steps
    (with_reducible rename News _ _ _ _ => N8)
    (with_reducible rename Fr _ _ _ _ => F8)
    refine hWa _ _ ?_; refine endG_next F8 (newsPick N8 fun _ h => h) (hostOff ho) (fun p hp => by rw [List.mem_singleton.mp hp]; exact .tail _ (.tail _ (.tail _ hl))) ⟨_, _, kst_self ?g1, rfl, hV9, ?g2, ?g3⟩
    case g1 => exact (fac rfl facNil)
    case g2 => exact ⟨Nat.le_trans hLe1.1 (by omega), by dsimp only; omega⟩
    case g3 =>
      rw [List.take_add_one, hli, give_append, ← hw1]
      rfl
  · rintro m₁ news₁ h₁ tk ⟨u, c1, rfl, rfl, hV1, hLe1, hw1⟩ hl1 F₁ N₁
    have hlen := hn.length
    rw [hlen, List.take_length] at hw1
    rw [hlen] at hLe1
    k_steps
    all_goals (try dsimp only)
    refine hD _ _ ?_; exact done_next (by assumption) (by assumption) ⟨rfl, c1, rfl, hV1, hw1, hLe1⟩
set_option maxRecDepth 100000 in
set_option maxHeartbeats 8000000 in
theorem three_pieces_con {w : World} {tP tL mean mg mb news} (S : Cps) (hS : S.length ≤ 1000000) (fo : Addr) (v : Value) (b e : Nat) (ts t0 t1 : Tok) (hf : (fo, tup [.int (b : Nat) t0, .int (e : Nat) t1, v]) ∈ news) :
    Con w tP tL mean mg mb 1 4 28 news [.str (tx S) ts, .ref fo] (fun r news' => ∃ a u1 u2 u3, r = .ref a ∧ news' = (a, tup [.str (tx (S.take b)) u1, .str (tx (cut S b e)) u2, .str (tx (S.drop e)) u3]) :: news ∧ ∀ p ∈ news, p.1 < a) := by
  refine' con_of [(Str.ofString "subject", .str (tx S) ts), (Str.ofString "found", .ref fo)] ?ho ?hcd ?hb ?hl ?hco ?hge ?hk ?hce ?_
  case ho => k_is
  case hcd => k_is
  case hb => exact fun _ => BindsTo.of_eq rfl
  case hl => exact locs rfl
  case hco => rfl
  case hge => rfl
  case hk => rfl
  case hce => decide
  intro dp un gd outer A₀ base g L s Dn hD B F X N T hlt hd hu
  k_steps
  all_goals (try dsimp only)
  refine hD _ _ ?_; exact done_ret (by assumption) (by assumption) ⟨_, _, _, _, rfl, rfl, by assumption⟩

/-! C11 -/
theorem words16 : True := by
  k_with "call ref" => ((k_here; (with_reducible show wpAny _ _ (PySem.call (Value.ref 28) _) _ _ _); k_dflt (refine' Con.callA (three_pieces_con _ ?a1 _ _ _ _ _ _ _ ?a2) ?_; (case a1 => assumption); (case a2 => k_mem); intro _ _ _ _ _ _ P'; obtain ⟨_, _, _, _, r9, e', _⟩ := P'; subst r9; subst e'; (try dsimp only))))
  trivial

set_option maxRecDepth 100000 in
set_option maxHeartbeats 8000000 in
theorem spliced_con {w : World} {tP tL mean mg mb news} (S t : Cps) (hS : S.length ≤ 1000000) (ht : t.length ≤ 1000000) (fo : Addr) (v : Value) (b e : Nat) (ts tt t0 t1 : Tok) (hf : (fo, tup [.int (b : Nat) t0, .int (e : Nat) t1, v]) ∈ news) :
    Con w tP tL mean mg mb 2 8 35 news [.str (tx S) ts, .ref fo, .str (tx t) tt] (fun r news' => news' = news ∧ ∃ u, r = .str (tx (S.take b ++ t ++ S.drop e)) u) := by
  refine' con_of [(Str.ofString "subject", .str (tx S) ts), (Str.ofString "found", .ref fo), (Str.ofString "text", .str (tx t) tt)] ?ho ?hcd ?hb ?hl ?hco ?hge ?hk ?hce ?_
  case ho => k_is
  case hcd => k_is
  case hb => exact fun _ => BindsTo.of_eq rfl
  case hl => exact locs rfl
  case hco => rfl
  case hge => rfl
  case hk => rfl
  case hce => decide
  intro dp un gd outer A₀ base g L s Dn hD B F X N T hlt hd hu
  k_steps
  all_goals (try dsimp only)
  all_goals (with_reducible rename News _ _ _ _ => N9)
  refine hD _ _ ?_; exact done_ret (by assumption) (newsTail N9) ⟨rfl, _, rfl⟩
theorem newsSub {h₀ : Heap} {L : Addr} {h : Heap} {d1 d2 d3 : Addr × Obj} {im im' : Led} (N : News h₀ L h (d1 :: d2 :: d3 :: im')) (hs : ∀ p ∈ im, p ∈ im') : News h₀ L h (d1 :: d2 :: d3 :: im) := by
  intro q hq
  rcases List.mem_cons.mp hq with e | hq
  · exact N q (e ▸ .head _)
  rcases List.mem_cons.mp hq with e | hq
  · exact N q (.tail _ (e ▸ .head _))
  rcases List.mem_cons.mp hq with e | hq
  · exact N q (.tail _ (.tail _ (e ▸ .head _)))
  · exact N q (.tail _ (.tail _ (.tail _ (hs q hq))))
noncomputable def ToldIs : Value → Option Cps → Prop
  | v, none => v = .none
  | v, some t => ∃ u, v = .str (tx t) u
noncomputable def ToldOk (w : World) (tP : Program) (tL : List Str) (mean : ExcName → Option Value) (mg mb : Str → Option Value) (H : HostA) (rf : Refs) (im : Led) (tf : Addr) (form : Nat) : Prop :=
  (∃ oc od fd sl, (tf, (⟨oc, od, .func fd, sl⟩ : Obj)) ∈ im) ∧ ∀ (c' : HostC) (im' : Led), (∀ p ∈ im, p ∈ im') → HostIn w.params H rf im' → VObj w c'.ov c'.w →
    Con w tP tL mean mg mb 3 12 tf (hostL w.params H c' im') [.ref H.x] (fun r news' => news' = hostL w.params H c' im' ∧ ToldIs r (told form c'.w))
inductive OncePost (w : World) (H : HostA) (im : Led) (TT : Nat) (R : Option Cps × W2) (r : Value) (news' : Led) : Prop where
  | mk (c' : _) (h1 : news' = hostL w.params H c' im) (h2 : VObj w c'.ov c'.w) (h3 : c'.w = R.2) (h4 : c'.Le TT) (h5 : ToldIs r R.1) : OncePost w H im TT R r news'
theorem words17 : True := by
  k_with "callWith ref" => ((k_here; k_dflt (refine' callWith_F ?k1 ?_; (case k1 => exact FnAt.of (by k_asm) (by k_mem)); k_whole)))
  trivial

set_option maxRecDepth 100000 in
set_option maxHeartbeats 8000000 in
theorem replace_once_con {w : World} {tP tL mean mg mb} (H : HostA) (rf : Refs) (c : HostC) (im : Led) (S : Cps) (hH : HostIn w.params H rf im) (hV : VObj w c.ov c.w) (hS : S.length ≤ 1000000)
    (nd tf : Addr) (n : Node) (anch : Bool) (form K₀ : Nat) (ts : Tok) (hn : NodeIn im rf nd n) (hTd : ToldOk w tP tL mean mg mb H rf im tf form) (hLe : c.Le K₀) (hT : K₀ + (S.length + 1) * (1 + costN n 0) + 3 ≤ 9000)
    (hnm : ∀ m, (search (matchAt S n) (begins anch S) c.w).1 = some m → m.2.2.length ≤ 3) (htl : ∀ t, told form (onceM n S anch form c.w).2 = some t → t.length ≤ 1000000) :
    Con w tP tL mean mg mb 10 40 42 (hostL w.params H c im) [.ref 396, .ref nd, .str (tx S) ts, .bool anch, .ref H.x, .ref tf] (OncePost w H im (K₀ + (S.length + 1) * (1 + costN n 0) + 3) (onceM n S anch form c.w)) := by
  refine' con_of [(Str.ofString "matcher", .ref 396), (Str.ofString "node", .ref nd), (Str.ofString "subject", .str (tx S) ts), (Str.ofString "is_anchored", .bool anch), (Str.ofString "host", .ref H.x), (Str.ofString "text_of", .ref tf)] ?ho ?hcd ?hb ?hl ?hco ?hge ?hk ?hce ?_
  case ho => k_is
  case hcd => k_is
  case hb => exact fun _ => BindsTo.of_eq rfl
  case hl => exact locs rfl
  case hco => rfl
  case hge => rfl
  case hk => rfl
  case hce => decide
  intro dp un gd outer A₀ base g L s Dn hD B F X N T hlt hd hu
  obtain ⟨⟨oc, od, fd, sl, hfm⟩, hcall⟩ := hTd
  k_steps
  refine' Con.call ?k1 ?k2 ?k3 ?k4 ?k5 ?k6 (match_plain_con H rf c im S hH hV hS nd n anch K₀ ts hn hLe (by omega)) ?kd ?ku ?_
  case k1 => k_asm
  case k2 => k_asm
  case k3 => k_asm
  case k4 => k_asm
  case k5 => k_asm
  case k6 => rfl
  case kd => first | exact dle hd rfl | omega
  case ku => first | exact dle hu rfl | omega
  rintro r1 n1 h1 tk1 F1 N1 ⟨c1, im1, rfl, hH1, hsub1, hV1, hw1, hLe1, hR1⟩
  (try dsimp only)
  rcases hq : search (matchAt S n) (begins anch S) c.w with ⟨_ | ⟨b9, e9, l9⟩, w9⟩
  · rw [hq] at hw1 hR1
    obtain rfl : r1 = .none := hR1
    have hO : onceM n S anch form c.w = (none, w9) := by simp only [onceM, onceBy, hq]
    rw [hO] at hD
    k_steps
    (try dsimp only)
    (with_reducible rename News _ _ _ _ => N9)
    refine hD _ _ ?_; exact done_ret (by assumption) (newsSub N9 hsub1) ⟨c1, rfl, hV1, hw1, ⟨Nat.le_trans hLe1.1 (by omega), Nat.le_trans hLe1.2 (by omega)⟩, rfl⟩
  · rw [hq] at hw1 hR1
    obtain ⟨a9, ls9, t8, t9, vs9, k9, rfl, m8, m9, nn9⟩ := hR1
    have hx9 := hH1.x
    have hl3 := hnm (b9, e9, l9) (by rw [hq])
    have hO : onceM n S anch form c.w = ((told form (give l9 w9)).map fun t => S.take b9 ++ t ++ S.drop e9, give l9 w9) := by simp only [onceM, onceBy, hq]
    rw [hO] at htl hD
    dsimp only at hw1 htl hl3
    k_steps
    (with_reducible rename News _ _ _ _ => N7)
    rename_i q7 _ F7 lq
    have N6 := newsHost (own := [(q7, methodObj (.ref 226) (.ref H.x))]) N7
    clear N7
    have hH2 : HostIn w.params H rf ((q7, methodObj (.ref 226) (.ref H.x)) :: im1) := hH1.app (own := [(q7, methodObj (.ref 226) (.ref H.x))]) (by intro p hp; rw [List.mem_singleton.mp hp]; refine neN ?_; dsimp only; omega) (by intro p hp; rw [List.mem_singleton.mp hp]; refine neN ?_; dsimp only; omega) (by intro p hp; rw [List.mem_singleton.mp hp]; refine neN ?_; dsimp only; omega)
    have hsub2 : ∀ p ∈ im, p ∈ (q7, methodObj (.ref 226) (.ref H.x)) :: im1 := fun p hp => .tail _ (hsub1 p hp)
    have hfm2 := hsub2 _ hfm
    refine' Con.call ?k1 ?k2 ?k3 ?k4 ?k5 ?k6 (give_names_con H rf c1 ((q7, methodObj (.ref 226) (.ref H.x)) :: im1) hH2 hV1 a9 q7 ls9 l9 vs9 k9 b9 e9 (K₀ + (S.length + 1) * (1 + costN n 0)) t8 t9 (.tail _ m8) (.tail _ m9) (nn9.mono fun _ hp => .tail _ hp) (.head _) hLe1 (by omega)) ?kd ?ku ?_
    case k1 => k_asm
    case k2 => k_asm
    case k3 => k_asm
    case k4 => k_asm
    case k5 => k_asm
    case k6 => rfl
    case kd => first | exact dle hd rfl | omega
    case ku => first | exact dle hu rfl | omega
    rintro r2 n2 h2 tk2 F2 N2 ⟨rfl, c2, rfl, hV2, hw2, hLe2⟩
    (try dsimp only)
    k_steps
    refine' Con.call ?k1 ?k2 ?k3 ?k4 ?k5 ?k6 (hcall c2 ((q7, methodObj (.ref 226) (.ref H.x)) :: im1) hsub2 hH2 hV2) ?kd ?ku ?_
    case k1 => k_asm
    case k2 => k_asm
    case k3 => k_asm
    case k4 => k_asm
    case k5 => k_asm
    case k6 => rfl
    case kd => first | exact dle hd rfl | omega
    case ku => first | exact dle hu rfl | omega
    rintro r3 n3 h3 tk3 F3 N3 ⟨rfl, hT3⟩
    (try dsimp only)
    rw [hw2, hw1] at hT3
    have hLe3 : c2.Le (K₀ + (S.length + 1) * (1 + costN n 0) + 3) := ⟨Nat.le_trans hLe2.1 (by omega), Nat.le_trans hLe2.2 (by omega)⟩
    have hw3 : c2.w = give l9 w9 := by rw [hw2, hw1]
    rcases ht : told form (give l9 w9) with _ | t
    · rw [ht] at hT3 hD
      obtain rfl : r3 = .none := hT3
      k_steps
      (try dsimp only)
      (with_reducible rename News _ _ _ _ => N9)
      refine hD _ _ ?_; exact done_ret (by assumption) (newsSub N9 hsub2) ⟨c2, rfl, hV2, hw3, hLe3, rfl⟩
    · rw [ht] at hT3 htl hD
      obtain ⟨u3, rfl⟩ := hT3
      have htl2 := htl t rfl
      have m82 : (a9, tup [.int (b9 : Nat) t8, .int (e9 : Nat) t9, .ref ls9]) ∈ hostL w.params H c2 ((q7, methodObj (.ref 226) (.ref H.x)) :: im1) := .tail _ (.tail _ (.tail _ (.tail _ m8)))
      k_steps
      refine' Con.call ?k1 ?k2 ?k3 ?k4 ?k5 ?k6 (spliced_con S t hS htl2 a9 (.ref ls9) b9 e9 _ _ t8 t9 m82) ?kd ?ku ?_
      case k1 => k_asm
      case k2 => k_asm
      case k3 => k_asm
      case k4 => k_asm
      case k5 => k_asm
      case k6 => rfl
      case kd => first | exact dle hd rfl | omega
      case ku => first | exact dle hu rfl | omega
      rintro r5 n5 h5 tk5 F5 N5 ⟨rfl, u5, rfl⟩
      (try dsimp only)
      k_steps
      refine hD _ _ ?_; exact done_ret (by assumption) (newsSub N5 hsub2) ⟨c2, rfl, hV2, hw3, hLe3, u5, rfl⟩

/-! C12 -/
structure RowsOk (r₁ : List Part) (rs : List (List Part)) : Prop where
  h1 : r₁ ≠ []
  h2 : ∀ r ∈ rs, r ≠ []
  h3 : rs.length ≤ 1
  h4 : r₁.length ≤ 3
  h5 : ∀ r ∈ rs, r.length ≤ 3
theorem once_rows_con {w : World} {tP tL mean mg mb} (H : HostA) (rf : Refs) (c : HostC) (im : Led) (S : Cps) (r₁ : List Part) (rs : List (List Part)) (hR : RowsOk r₁ rs) (hH : HostIn w.params H rf im) (hV : VObj w c.ov c.w)
    (nd tf : Addr) (anch : Bool) (form K₀ M : Nat) (ts : Tok) (hn : NodeIn im rf nd (rowsNode (r₁ :: rs))) (hTd : ToldOk w tP tL mean mg mb H rf im tf form) (hLe : c.Le K₀) (hM : 1 ≤ M) (hM2 : M ≤ 1000) (hS : S.length ≤ M) (hw : okW M c.w) (hT : K₀ + ((M + 1) * 25 + 3) ≤ 9000) :
    Con w tP tL mean mg mb 10 40 42 (hostL w.params H c im) [.ref 396, .ref nd, .str (tx S) ts, .bool anch, .ref H.x, .ref tf] (OncePost w H im (K₀ + ((M + 1) * 25 + 3)) (once (r₁ :: rs) S anch form c.w)) := by
  have hc := costN_rows r₁ rs hR.h1 hR.h2 hR.h3 hR.h4 hR.h5
  have hmul : (S.length + 1) * (1 + costN (rowsNode (r₁ :: rs)) 0) ≤ (M + 1) * 25 := Nat.mul_le_mul (by omega) (by omega)
  have he := onceM_eq r₁ rs hR.h1 hR.h2 hR.h3 S anch form c.w
  have hall : ∀ r ∈ r₁ :: rs, r.length ≤ 3 := (fac hR.h4 hR.h5)
  have hok := once_ok (rows := r₁ :: rs) (anch := anch) (form := form) hM hS hw
  have C := replace_once_con (tP := tP) (tL := tL) (mean := mean) (mg := mg) (mb := mb) H rf c im S hH hV (by omega) nd tf (rowsNode (r₁ :: rs)) anch form K₀ ts hn hTd hLe (by omega)
    (fun m hm => search_names (f := matchAt S (rowsNode (r₁ :: rs))) (fun b w m hm => by rw [matchAt_rows S r₁ rs hR.h1 hR.h2 hR.h3] at hm; exact atRows_names hall hm) hm)
    (fun t ht => by rw [he] at ht; have := told_len hM hok.1 ht; omega)
  rw [he] at C
  refine C.mono (Nat.le_refl _) (Nat.le_refl _) ?_
  rintro r n ⟨c', e1, e2, e3, e4, e5⟩
  exact ⟨c', e1, e2, e3, ⟨Nat.le_trans e4.1 (by omega), Nat.le_trans e4.2 (by omega)⟩, e5⟩
noncomputable def bM : Nat → Nat
  | 0 => 7
  | 1 => 21
  | 2 => 63
  | _ => 189
noncomputable def bK : Nat → Nat
  | 0 => 0
  | 1 => 203
  | 2 => 756
  | _ => 2359
theorem bM_ge (i : Nat) : 1 ≤ bM i ∧ bM i ≤ 1000 := by
  match i with
  | 0 => decide
  | 1 => decide
  | 2 => decide
  | n + 3 => exact ⟨by show 1 ≤ 189; decide, by show 189 ≤ 1000; decide⟩
theorem bM_succ {i : Nat} (h : i < 3) : 3 * bM i = bM (i + 1) := by
  match i, h with
  | 0, _ => rfl
  | 1, _ => rfl
  | 2, _ => rfl
theorem bK_succ {i : Nat} (h : i < 3) : bK i + ((bM i + 1) * 25 + 3) = bK (i + 1) := by
  match i, h with
  | 0, _ => rfl
  | 1, _ => rfl
  | 2, _ => rfl
theorem bK_le {i : Nat} (h : i ≤ 3) : bK i ≤ 2359 := by
  match i, h with
  | 0, _ => decide
  | 1, _ => decide
  | 2, _ => decide
  | 3, _ => decide
inductive OftenPost (w : World) (H : HostA) (im : Led) (TT : Nat) (R : (Cps × Nat) × W2) (r : Value) (news' : Led) : Prop where
  | mk (c' : _) (a : _) (u1 : _) (u2 : _) (h1 : r = .ref a) (h2 : news' = hostL w.params H c' ((a, tup [.str (tx R.1.1) u1, .int (R.1.2 : Nat) u2]) :: im)) (h3 : (∀ p ∈ im, p.1 ≠ a)) (h4 : Off3 H a) (h5 : VObj w c'.ov c'.w) (h6 : c'.w = R.2) (h7 : c'.Le TT) : OftenPost w H im TT R r news'
inductive JOften (w : World) (H : HostA) (im : Led) (nd tf : Addr) (anch : Bool) (tm : Tok) (f : Cps → W2 → Option Cps × W2) (K₀ : Nat) (R : (Cps × Nat) × W2) (n : Nat) (m' : Str → Option Value) (news' : Led) : Prop where
  | mk (u : _) (S : _) (i : _) (c : _) (ts : _) (ti : _) (h1 : m' = kstB u [(Str.ofString "matcher", .ref 396), (Str.ofString "node", .ref nd), (Str.ofString "subject", .str (tx S) ts), (Str.ofString "is_anchored", .bool anch), (Str.ofString "host", .ref H.x), (Str.ofString "text_of", .ref tf), (Str.ofString "most", .int 3 tm), (Str.ofString "many", .int (i : Nat) ti)]) (h2 : n = 3 - i) (h3 : i ≤ 3) (h4 : news' = hostL w.params H c im) (h5 : VObj w c.ov c.w) (h6 : often f (3 - i) S i c.w = R) (h7 : c.Le (K₀ + bK i)) (h8 : S.length ≤ bM i) (h9 : okW (bM i) c.w) : JOften w H im nd tf anch tm f K₀ R n m' news'
theorem words18 : True := by
  k_with "callWith ref" => ((k_here; k_dflt (refine' callWith_F ?k1 ?_; (case k1 => exact FnAt.of (by k_asm) (by k_mem)); k_whole)))
  trivial

set_option maxRecDepth 100000 in
set_option maxHeartbeats 8000000 in
theorem replace_often_con {w : World} {tP tL mean mg mb} (H : HostA) (rf : Refs) (c : HostC) (im : Led) (S : Cps) (r₁ : List Part) (rs : List (List Part)) (hR : RowsOk r₁ rs) (hH : HostIn w.params H rf im) (hV : VObj w c.ov c.w)
    (nd tf : Addr) (anch : Bool) (form K₀ : Nat) (ts tm : Tok) (hn : NodeIn im rf nd (rowsNode (r₁ :: rs))) (hTd : ToldOk w tP tL mean mg mb H rf im tf form) (hLe : c.Le K₀) (hS : S.length ≤ 7) (hw : okW 7 c.w) (hT : K₀ + 2359 ≤ 9000) :
    Con w tP tL mean mg mb 11 44 49 (hostL w.params H c im) [.ref 396, .ref nd, .str (tx S) ts, .bool anch, .ref H.x, .ref tf, .int 3 tm] (OftenPost w H im (K₀ + 2359) (often (fun s w => once (r₁ :: rs) s anch form w) 3 S 0 c.w)) := by
  refine' con_of [(Str.ofString "matcher", .ref 396), (Str.ofString "node", .ref nd), (Str.ofString "subject", .str (tx S) ts), (Str.ofString "is_anchored", .bool anch), (Str.ofString "host", .ref H.x), (Str.ofString "text_of", .ref tf), (Str.ofString "most", .int 3 tm)] ?ho ?hcd ?hb ?hl ?hco ?hge ?hk ?hce ?_
  case ho => k_is
  case hcd => k_is
  case hb => exact fun _ => BindsTo.of_eq rfl
  case hl => exact locs rfl
  case hco => rfl
  case hge => rfl
  case hk => rfl
  case hce => decide
  intro dp un gd outer A₀ base g L s Dn hD B F X N T hlt hd hu
  refine wpAny_execs_cons ?_
  repeat' (first | (fail_if_success (with_reducible show wpAny _ _ (exec (Stmt.While _ _ _ _) _) _ _ _)); walk1 | ((fail_if_success (with_reducible show wpAny _ _ (exec (Stmt.While _ _ _ _) _) _ _ _)); dsimp only; walk1))
  (with_reducible rename News _ _ _ _ => N1)
  (with_reducible rename Fr _ _ _ _ => F1)
  refine While_O (JOften w H im nd tf anch tm (fun s w => once (r₁ :: rs) s anch form w) K₀ (often (fun s w => once (r₁ :: rs) s anch form w) 3 S 0 c.w)) F1 N1 ⟨_, S, 0, c, ts, s.toks, kst_self ?f1, rfl, by omega, rfl, hV, rfl, hLe, hS, hw⟩ ?_
  case f1 => exact (fac rfl (fac rfl (fac rfl (fac rfl (fac rfl (fac rfl (fac rfl (fac rfl facNil))))))))
  rintro n₁ m₁ news₁ h₁ tk₁ Wa hWa F₁ N₁ ⟨u, S1, i, c1, ts1, ti1, rfl, rfl, hi, rfl, hV1, hO1, hLe1, hS1, hw1⟩
  clear N1 F1
  dsimp only [kstB] at F₁
  have hsuc : ∀ m, 3 - i = m + 1 → often (fun s w => once (r₁ :: rs) s anch form w) (3 - i) S1 i c1.w = match once (r₁ :: rs) S1 anch form c1.w with
      | (none, w') => ((S1, i), w')
      | (some s', w') => often (fun s w => once (r₁ :: rs) s anch form w) m s' (i + 1) w' := by
    intro m hm
    rw [hm]
    rfl
  k_steps
  · rename_i hlt3
    have hi3 : i < 3 := by omega
    have hb1 := bK_succ hi3
    have hb2 := bK_le (show i + 1 ≤ 3 by omega)
    have hok := once_ok (rows := r₁ :: rs) (anch := anch) (form := form) (bM_ge i).1 hS1 hw1
    refine' Con.call ?k1 ?k2 ?k3 ?k4 ?k5 ?k6 (once_rows_con H rf c1 im S1 r₁ rs hR hH hV1 nd tf anch form (K₀ + bK i) (bM i) ts1 hn hTd hLe1 (bM_ge i).1 (bM_ge i).2 hS1 hw1 (by omega)) ?kd ?ku ?_
    case k1 => k_asm
    case k2 => k_asm
    case k3 => k_asm
    case k4 => k_asm
    case k5 => k_asm
    case k6 => rfl
    case kd => first | exact dle hd rfl | omega
    case ku => first | exact dle hu rfl | omega
    rintro r1 n1 h2 tk2 F2 N2 ⟨c2, rfl, hV2, hw2, hLe2, hT2⟩
    (try dsimp only)
    have hs3 := hsuc (3 - i - 1) (by omega)
    rw [hO1] at hs3
    rw [Nat.add_assoc, hb1] at hLe2
    rcases hq : once (r₁ :: rs) S1 anch form c1.w with ⟨_ | S2, w2⟩
    · rw [hq] at hw2 hT2 hs3
      obtain rfl : r1 = .none := hT2
      dsimp only at hw2 hs3
      k_steps
      (try dsimp only)
      (with_reducible rename News _ _ _ _ => N9)
      rename_i D9 h9 F9 l9
      have hd9 : ∀ p ∈ im, p.1 ≠ D9 := allLt_ne _ l9.2.2.2
      refine hWa _ _ ?_; refine ws2_ret (hD _ _ (done_ret (by assumption) (newsHost (own := [_]) N9) ⟨c2, D9, ts1, ti1, rfl, ?_, hd9, ⟨by k_ne, by k_ne, by k_ne⟩, hV2, ?_, ⟨Nat.le_trans hLe2.1 (by omega), Nat.le_trans hLe2.2 (by omega)⟩⟩))
      · rw [hs3]; rfl
      · rw [hs3]; exact hw2
    · rw [hq] at hw2 hT2 hs3 hok
      obtain ⟨u2, rfl⟩ := hT2
      dsimp only at hw2 hs3 hok
      have h3m := bM_succ hi3
      have hl2 := hok.2 S2 rfl
      k_steps
      (with_reducible rename News _ _ _ _ => N8)
      (with_reducible rename Fr _ _ _ _ => F8)

      refine hWa _ _ ?_; refine ws2_next F8 (newsTail N8) (n' := 3 - (i + 1)) (by omega) ⟨_, S2, i + 1, c2, u2, _, kst_self ((fac rfl (fac rfl (fac rfl (fac rfl (fac rfl (fac rfl (fac rfl (fac rfl facNil))))))))), rfl, by omega, rfl, hV2, ?g2, hLe2, by omega, ?g3⟩
      case g2 => rw [hw2, hs3]; congr 1
      case g3 => rw [hw2]; exact okW_mono hok.1 (by omega)
  · rename_i hlt3 D9 h9 F9 N9 l9
    obtain rfl : i = 3 := by omega
    have hd9 : ∀ p ∈ im, p.1 ≠ D9 := allLt_ne _ l9.2.2.2
    refine hD _ _ ?_; refine done_ret (by assumption) (newsHost (own := [_]) N9) ⟨c1, D9, ts1, ti1, rfl, ?_, hd9, ⟨by k_ne, by k_ne, by k_ne⟩, hV1, ?_, ⟨Nat.le_trans hLe1.1 (by show K₀ + 2359 ≤ _; omega), Nat.le_trans hLe1.2 (by show K₀ + 2359 ≤ _; omega)⟩⟩
    · rw [← hO1]; rfl
    · rw [← hO1]; rfl

/-! D1 -/
theorem ne_tx0 {prog : Program} {w : World} {A : Around} {E : Value → Shared → Prop} {s : Shared} {l : Cps} {t u : Tok} {Q : Value → Shared → Prop} (h : Q (.bool (decide (l ≠ []))) s) : wpAny (model prog w) A (compareOp .NotEq (.str (tx l) t) (.str (Str.ofString "") u)) Q E s := by
  refine P.ne_str ?_
  have e2 : (Str.ofString "").cps.toList = [] := rfl
  rw [tx_cps, e2]
  have e : (l != []) = decide (l ≠ []) := by
    by_cases q : l = []
    · subst q; simp
    · simp [q]
  rw [e]; exact h
theorem words19 : True := by
  k_with "compareOp NotEq str str" => ((k_here; (with_reducible show wpAny _ _ (compareOp CmpOp.NotEq (Value.str (Mine.tx _) _) (Value.str (PySem.Str.ofString "") _)) _ _ _); refine ne_tx0 ?_; (try dsimp only)))
  trivial

theorem drop_get {S : Cps} {i j c : Nat} (h : (S.drop i)[j]? = some c) : S[i + j]? = some c := by rw [List.getElem?_drop] at h; exact h
inductive JEnd (S : Cps) (i : Nat) (kd : Str) (b : Bool) (a : Addr) (G : Cps) (news : Led) (ti tk : Tok) (n : Nat) (m' : Str → Option Value) (news' : Led) : Prop where
  | mk (u : Str → Option Value) (j : Nat) (tj tr : Tok) (h1 : m' = kstB u [(Str.ofString "node", .ref a), (Str.ofString "at", .int (i : Nat) ti), (Str.ofString "kind", .str kd tk), (Str.ofString "rest", .str (tx (S.drop (i : Int).toNat)) tr), (Str.ofString "many", .int (j : Nat) tj)]) (h2 : n = S.length - i - j) (h3 : runTo S (i + j) G b = runTo S i G b) (h4 : news' = news) (h5 : i + j ≤ S.length) : JEnd S i kd b a G news ti tk n m' news'
theorem words20 : True := by
  k_with "subscriptTail Name Constant str int" => ((k_here; (with_reducible show wpAny _ _ (subscriptTail _ _ (Value.str (Mine.tx (List.drop _ _)) _) (Value.int 0 _)) _ _ _); refine item_tx (by omega) (by have q := List.length_pos_iff.mpr (by assumption); omega) (by omega) ?_; intro _ _; (try dsimp only)))
  trivial

theorem kEq1 : (Str.ofString "span" == Str.ofString "span") = true := by decide
theorem kEq2 : (Str.ofString "break" == Str.ofString "span") = false := by decide
set_option maxRecDepth 100000 in
set_option maxHeartbeats 8000000 in
theorem law_end_con {w : World} {tP tL mean mg mb news} (p : Prim) (a : Addr) (S : Cps) (i : Nat) (ts ti : Tok) (hS : S.length ≤ 1000000) (hi : i ≤ S.length) (hp : PrimIn news a p) :
    Con w tP tL mean mg mb 1 4 483 news [.ref a, .str (tx S) ts, .int i ti] (fun r news' => news' = news ∧ IsOpt r (primEnd S i p)) := by
  refine' con_of [(Str.ofString "node", .ref a), (Str.ofString "subject", .str (tx S) ts), (Str.ofString "at", .int i ti)] ?ho ?hcd ?hb ?hl ?hco ?hge ?hk ?hce ?_
  case ho => k_is
  case hcd => k_is
  case hb => exact fun _ => BindsTo.of_eq rfl
  case hl => exact locs rfl
  case hco => rfl
  case hge => rfl
  case hk => rfl
  case hce => decide
  intro dp un gd outer A₀ base g L s Dn hD B F X N T hlt hd hu
  have hdl : (S.drop (i : Int).toNat).length = S.length - i := by rw [Int.toNat_natCast]; exact List.length_drop
  cases p with
  | chars l =>
    obtain ⟨⟨t1, t2, hm⟩, hl⟩ := hp
    k_steps
    all_goals (try dsimp only)
    all_goals (with_reducible rename News _ _ _ _ => N9)
    all_goals (refine hD _ _ ?_; refine done_ret (by assumption) (newsTail N9) ⟨rfl, ?_⟩)
    · rename List.take _ _ = _ => h
      (try simp only [Int.toNat_natCast] at h)
      rw [primEnd, if_pos h]
      exact ⟨_, rfl⟩
    · rename ¬ List.take _ _ = _ => h
      (try simp only [Int.toNat_natCast] at h)
      rw [primEnd, if_neg h]
      rfl
  | len n =>
    obtain ⟨t1, t2, hm⟩ := hp
    k_steps
    all_goals (try dsimp only)
    all_goals (with_reducible rename News _ _ _ _ => N9)
    all_goals (refine hD _ _ ?_; refine done_ret (by assumption) (newsTail N9) ⟨rfl, ?_⟩)
    · rename_i h
      rw [primEnd, if_pos (by omega)]
      exact ⟨_, rfl⟩
    · rename_i h
      rw [primEnd, if_neg (by omega)]
      rfl
  | any l =>
    obtain ⟨t1, t2, hm⟩ := hp
    k_steps
    all_goals (try dsimp only)
    all_goals (with_reducible rename News _ _ _ _ => N9)
    all_goals (refine hD _ _ ?_; refine done_ret (by assumption) (newsTail N9) ⟨rfl, ?_⟩)
    · rename_i hne c hc hin
      simp only [Int.toNat_natCast, Int.toNat_zero] at hc
      have hc := drop_get hc
      simp only [Nat.add_zero] at hc
      simp only [primEnd, anyAt, hc, hin, if_true]
      exact ⟨_, rfl⟩
    · rename_i hne c hc hin
      simp only [Int.toNat_natCast, Int.toNat_zero] at hc
      have hc := drop_get hc
      simp only [Nat.add_zero] at hc
      simp only [primEnd, anyAt, hc, hin, if_false]
      rfl
    · rename_i hne
      have h0 : (S.drop (i : Int).toNat).length = 0 := by rw [Decidable.not_not.mp hne]; rfl
      simp only [primEnd, anyAt]
      rw [List.getElem?_eq_none (by omega)]
      rfl
  | rem =>
    obtain ⟨t1, hm⟩ := hp
    k_steps
    all_goals (try dsimp only)
    all_goals (with_reducible rename News _ _ _ _ => N9)
    refine hD _ _ ?_; exact done_ret (by assumption) (newsTail N9) ⟨rfl, _, rfl⟩
  | span l =>
    obtain ⟨t1, t2, hm⟩ := hp
    repeat' (first | (fail_if_success (with_reducible show wpAny _ _ (exec (Stmt.While _ _ _ _) _) _ _ _)); walk1 | ((fail_if_success (with_reducible show wpAny _ _ (exec (Stmt.While _ _ _ _) _) _ _ _)); dsimp only; walk1))
    (with_reducible rename News _ _ _ _ => N1)
    (with_reducible rename Fr _ _ _ _ => F1)
    refine While_O (JEnd S i (Str.ofString "span") true a l news ti t1) F1 (newsTail N1) ⟨_, 0, _, _, kst_self ((fac rfl (fac rfl (fac rfl (fac rfl (fac rfl facNil)))))), by omega, rfl, rfl, by omega⟩ ?_
    clear N1 F1
    rintro n m₁ news₁ h₁ tk₁ Wa hWa F₁ N₁ ⟨u, j, tj, tr, rfl, rfl, hr, rfl, hj⟩
    dsimp only [kstB] at F₁
    k_steps
    · rename (List.contains _ _ == _) = true => hin
      rename _ = some _ => hc
      rw [kEq1] at hin
      simp only [Int.toNat_natCast] at hc
      have hc := drop_get hc
      (with_reducible rename News _ _ _ _ => N8)
      (with_reducible rename Fr _ _ _ _ => F8)
      refine hWa _ _ ?_; refine ws2_next F8 N8 (n' := S.length - i - (j + 1)) (by omega) ⟨_, j + 1, _, _, kst_self ((fac rfl (fac rfl (fac rfl (fac rfl (fac rfl facNil)))))), rfl, (runTo_go hc hin).trans hr, rfl, by omega⟩
    · rename (List.contains _ _ == _) = false => hin
      rename _ = some _ => hc
      rw [kEq1] at hin
      simp only [Int.toNat_natCast] at hc
      have hc := runTo_stop (drop_get hc) hin
      (try dsimp only)
      refine hD _ _ ?_; refine done_ret (by assumption) (by assumption) ⟨rfl, ?_⟩
      rw [primEnd, ← hr, hc, if_pos (by omega)]; exact ⟨_, rfl⟩
    · rename (List.contains _ _ == _) = false => hin
      rename _ = some _ => hc
      rw [kEq1] at hin
      simp only [Int.toNat_natCast] at hc
      have hc := runTo_stop (drop_get hc) hin
      (try dsimp only)
      refine hD _ _ ?_; refine done_ret (by assumption) (by assumption) ⟨rfl, ?_⟩
      rw [primEnd, ← hr, hc, if_neg (by omega)]; rfl
    · have hc := runTo_end (S := S) (G := l) (j := i + j) (b := true) (by omega)
      (try dsimp only)
      refine hD _ _ ?_; refine done_ret (by assumption) (by assumption) ⟨rfl, ?_⟩
      rw [primEnd, ← hr, hc, if_pos (by omega)]; exact ⟨_, rfl⟩
    · have hc := runTo_end (S := S) (G := l) (j := i + j) (b := true) (by omega)
      (try dsimp only)
      refine hD _ _ ?_; refine done_ret (by assumption) (by assumption) ⟨rfl, ?_⟩
      rw [primEnd, ← hr, hc, if_neg (by omega)]; rfl
  | brk l =>
    obtain ⟨t1, t2, hm⟩ := hp
    repeat' (first | (fail_if_success (with_reducible show wpAny _ _ (exec (Stmt.While _ _ _ _) _) _ _ _)); walk1 | ((fail_if_success (with_reducible show wpAny _ _ (exec (Stmt.While _ _ _ _) _) _ _ _)); dsimp only; walk1))
    (with_reducible rename News _ _ _ _ => N1)
    (with_reducible rename Fr _ _ _ _ => F1)
    refine While_O (JEnd S i (Str.ofString "break") false a l news ti t1) F1 (newsTail N1) ⟨_, 0, _, _, kst_self ((fac rfl (fac rfl (fac rfl (fac rfl (fac rfl facNil)))))), by omega, rfl, rfl, by omega⟩ ?_
    clear N1 F1
    rintro n m₁ news₁ h₁ tk₁ Wa hWa F₁ N₁ ⟨u, j, tj, tr, rfl, rfl, hr, rfl, hj⟩
    dsimp only [kstB] at F₁
    k_steps
    · rename (List.contains _ _ == _) = true => hin
      rename _ = some _ => hc
      rw [kEq2] at hin
      simp only [Int.toNat_natCast] at hc
      have hc := drop_get hc
      (with_reducible rename News _ _ _ _ => N8)
      (with_reducible rename Fr _ _ _ _ => F8)
      refine hWa _ _ ?_; refine ws2_next F8 N8 (n' := S.length - i - (j + 1)) (by omega) ⟨_, j + 1, _, _, kst_self ((fac rfl (fac rfl (fac rfl (fac rfl (fac rfl facNil)))))), rfl, (runTo_go hc hin).trans hr, rfl, by omega⟩
    · rename (List.contains _ _ == _) = false => hin
      rename _ = some _ => hc
      rw [kEq2] at hin
      simp only [Int.toNat_natCast] at hc
      have hc := runTo_stop (drop_get hc) hin
      (try dsimp only)
      refine hD _ _ ?_; refine done_ret (by assumption) (by assumption) ⟨rfl, ?_⟩
      rw [primEnd, ← hr, hc, if_pos (by omega)]; exact ⟨_, rfl⟩
    · have hc := runTo_end (S := S) (G := l) (j := i + j) (b := false) (by omega)
      (try dsimp only)
      refine hD _ _ ?_; refine done_ret (by assumption) (by assumption) ⟨rfl, ?_⟩
      rw [primEnd, ← hr, hc, if_neg (by omega)]; rfl

/-! D2 -/
noncomputable def RowIn (im : Led) (rf : Refs) : List Value → List Part → Prop
  | [], r => r = []
  | v :: vs, r => ∃ p r' a, r = p :: r' ∧ v = .ref a ∧ NodeIn im rf a (partNode p) ∧ RowIn im rf vs r'
noncomputable def KNamesIn (im : Led) : List Value → Named → Prop
  | [], l => l = []
  | v :: vs, l => ∃ k t r b t1 u, l = (k, t) :: r ∧ v = .ref b ∧ (b, tup [.str (keyOf k) t1, .str (tx t) u]) ∈ im ∧ KNamesIn im vs r
theorem RowIn.get {im : Led} {rf : Refs} {vs : List Value} : ∀ {r : List Part} {i : Nat} {v : Value}, RowIn im rf vs r → vs[i]? = some v → ∃ p a, r.drop i = p :: r.drop (i + 1) ∧ v = .ref a ∧ NodeIn im rf a (partNode p) := by
  induction vs with
  | nil => intro r i v _ e; cases e
  | cons w ws ih =>
    intro r i v h e
    obtain ⟨p, r', a, rfl, rfl, h1, h2⟩ := h
    cases i with
    | zero =>
      obtain rfl : v = .ref a := (Option.some.inj e).symm
      exact ⟨p, a, rfl, rfl, h1⟩
    | succ i =>
      have q := ih h2 e
      exact q
theorem RowIn.length {im : Led} {rf : Refs} : ∀ {vs : List Value} {r : List Part}, RowIn im rf vs r → vs.length = r.length
  | [], _, h => by cases h; rfl
  | _ :: _, _, ⟨_, _, _, e1, _, _, h⟩ => by subst e1; simp [RowIn.length h]
theorem RowIn.mono {im im' : Led} {rf : Refs} (hs : ∀ p ∈ im, p ∈ im') : ∀ {vs : List Value} {r : List Part}, RowIn im rf vs r → RowIn im' rf vs r
  | [], _, h => h
  | _ :: _, _, ⟨p, r', a, e1, e2, h1, h2⟩ => ⟨p, r', a, e1, e2, h1.mono hs, RowIn.mono hs h2⟩
theorem KNamesIn.mono {im im' : Led} (hs : ∀ p ∈ im, p ∈ im') : ∀ {vs : List Value} {l : Named}, KNamesIn im vs l → KNamesIn im' vs l
  | [], _, h => h
  | _ :: _, _, ⟨k, t, r, b, t1, u, e1, e2, m, h⟩ => ⟨k, t, r, b, t1, u, e1, e2, hs _ m, KNamesIn.mono hs h⟩
theorem KNamesIn.snoc {im : Led} {k : Bool} {t : Cps} {b : Addr} {t1 u : Tok} (hm : (b, tup [.str (keyOf k) t1, .str (tx t) u]) ∈ im) : ∀ {vs : List Value} {l : Named}, KNamesIn im vs l → KNamesIn im (vs ++ [.ref b]) (l ++ [(k, t)])
  | [], _, h => by cases h; exact ⟨k, t, [], b, t1, u, rfl, rfl, hm, rfl⟩
  | _ :: _, _, ⟨k', t', r, b', t1', u', e1, e2, m, h⟩ => by subst e1; exact ⟨k', t', r ++ [(k, t)], b', t1', u', rfl, e2, m, KNamesIn.snoc hm h⟩
theorem KNamesIn.length {im : Led} {vs : List Value} : ∀ {l : Named}, KNamesIn im vs l → vs.length = l.length := by
  induction vs with
  | nil => intro l h; cases h; rfl
  | cons w ws ih =>
    intro l h
    obtain ⟨_, _, _, _, _, _, rfl, _, _, h2⟩ := h
    exact congrArg Nat.succ (ih h2)
theorem KNamesIn.get {im : Led} {vs : List Value} : ∀ {l : Named} {i : Nat} {v : Value}, KNamesIn im vs l → vs[i]? = some v → ∃ k t b t1 u, l[i]? = some (k, t) ∧ v = .ref b ∧ (b, tup [.str (keyOf k) t1, .str (tx t) u]) ∈ im := by
  induction vs with
  | nil => intro l i v _ e; cases e
  | cons w ws ih =>
    intro l i v h e
    obtain ⟨k, t, r, b, t1, u, rfl, rfl, m, h2⟩ := h
    cases i with
    | zero =>
      obtain rfl : v = .ref b := (Option.some.inj e).symm
      exact ⟨k, t, b, t1, u, rfl, rfl, m⟩
    | succ i =>
      have q := ih h2 e
      exact q
theorem newsSub0 {h₀ : Heap} {L : Addr} {h : Heap} {A B : Led} (N : News h₀ L h A) (hs : ∀ p ∈ B, p ∈ A) : News h₀ L h B := fun p hp => N p (hs p hp)
/-- a prim's kind is no name's -/
structure PlainKind2 (kl : Cps) : Prop where
  g1 : ¬ (List.any [Str.ofString "later", Str.ofString "now"] (fun x => x == tx kl) = true)
  g2 : ¬ ((tx kl == Str.ofString "later") = true)
  g3 : ¬ ((tx kl == Str.ofString "now") = true)
theorem plain_kind2 {im : Led} {a : Addr} {p : Prim} (h : PrimIn im a p) : ∃ kl t r, (a, tup (.str (tx kl) t :: r)) ∈ im ∧ PlainKind2 kl := by
  cases p with
  | chars l => obtain ⟨⟨t, u, m⟩, _⟩ := h; exact ⟨[99, 104, 97, 114, 115], t, _, m, by constructor <;> decide⟩
  | len n => obtain ⟨t, u, m⟩ := h; exact ⟨[108, 101, 110], t, _, m, by constructor <;> decide⟩
  | any l => obtain ⟨t, u, m⟩ := h; exact ⟨[97, 110, 121], t, _, m, by constructor <;> decide⟩
  | span l => obtain ⟨t, u, m⟩ := h; exact ⟨[115, 112, 97, 110], t, _, m, by constructor <;> decide⟩
  | brk l => obtain ⟨t, u, m⟩ := h; exact ⟨[98, 114, 101, 97, 107], t, _, m, by constructor <;> decide⟩
  | rem => obtain ⟨t, m⟩ := h; exact ⟨[114, 101, 109], t, _, m, by constructor <;> decide⟩
noncomputable def MetIn (im : Led) (r : Value) : Option (Nat × Named) → Prop
  | none => r = .none
  | some (e, l) => e ≤ 1000000 ∧ ∃ a lt t vs k, r = .ref a ∧ (a, tup [.int (e : Nat) t, .ref lt]) ∈ im ∧ (lt, listOf vs.toArray k) ∈ im ∧ KNamesIn im vs l
inductive MetPost (w : World) (wd : Addr) (im : Led) (R : Option (Nat × Named) × W2) (r : Value) (news' : Led) : Prop where
  | mk (ov' : _) (own : _) (h1 : news' = (wd, ov') :: (own ++ im)) (h2 : (∀ p ∈ own, p.1 ≠ wd)) (h3 : VObj w ov' R.2) (h4 : MetIn (own ++ im) r R.1) : MetPost w wd im R r news'
inductive JMet (w : World) (S : Cps) (row : List Part) (b : Nat) (v0 : W2) (wd lt : Addr) (im : Led) (ts : Tok) (i : Nat) (m' : Str → Option Value) (news' : Led) : Prop where
  | mk (u : Str → Option Value) (e : Nat) (te : Tok) (l : Named) (vs : List Value) (k : Nat) (own : Led) (ov : Obj) (v : W2) (h1 : m' = kstB u [(Str.ofString "subject", .str (tx S) ts), (Str.ofString "w", .ref wd), (Str.ofString "at", .int (e : Nat) te), (Str.ofString "later", .ref lt)]) (h2 : news' = (wd, ov) :: (lt, listOf vs.toArray k) :: (own ++ im)) (h3 : VObj w ov v) (h4 : KNamesIn (own ++ im) vs l) (h5 : e ≤ S.length) (h6 : l.length ≤ i) (h7 : met S (row.drop i) e l v = met S row b [] v0) (h8 : (∀ p ∈ own ++ im, p.1 ≠ wd)) (h9 : (∀ p ∈ own ++ im, p.1 ≠ lt)) : JMet w S row b v0 wd lt im ts i m' news'
theorem words21 : True := by
  k_with "mymemD" => (first | exact List.Mem.head _ | (refine List.Mem.tail _ ?_; walk_at "mymemD") | (refine List.mem_append_right _ ?_; walk_at "mymemD") | assumption)
  k_with "mymem" => (first | (simp only [List.cons_append, List.nil_append, List.mem_cons, List.mem_append, true_or, or_true]; done) | walk_at "mymemD")
  trivial
local macro_rules | `(tactic| walk_at "mytail") => `(tactic| (intro p hp; (try simp only [List.nil_append, List.cons_append] at hp); first | (simp only [List.cons_append, List.nil_append, List.mem_cons, hp, true_or, or_true]; done) | (simp only [List.cons_append, List.nil_append, List.mem_cons, List.mem_append, hp, true_or, or_true]; done) | walk_at "mymemD"))
theorem words22 : True := by
  k_with "mysub2" => (first | exact facNil | (refine' (fac ?ha ?hb); (case ha => walk_at "mymem"); (case hb => walk_at "mysub2")) | walk_at "mytail")
  k_with "mysub" => (((try simp only [List.nil_append, List.cons_append]); walk_at "mysub2"))
  trivial
local macro_rules | `(tactic| walk_at "call ref") => `(tactic| (k_here; (with_reducible show wpAny _ _ (PySem.call (Value.ref 483) _) _ _ _); k_dflt (refine' Con.callA (law_end_con _ _ _ _ _ _ ?z1 ?z2 ?z3) ?_; (case z1 | z2 => omega); (case z3 => first | assumption | (refine' PrimIn.mono ?s1 ?s2; (case s2 => assumption); (case s1 => walk_at "mysub"))); intro r' n' h' t' F' N' P'; obtain ⟨e', r9⟩ := P'; subst e'; (generalize hq : primEnd _ _ _ = oo at r9); (rcases oo with _ | e9) <;> (first | (have r8 : _ = Value.none := r9; subst r8; (try dsimp only)) | (obtain ⟨t9, r8⟩ := r9; subst r8; (try dsimp only))))))

set_option maxRecDepth 100000 in
set_option maxHeartbeats 8000000 in
theorem law_met_con {w : World} {tP tL mean mg mb} (rf : Refs) (im : Led) (S : Cps) (row : List Part) (rw_ wd : Addr) (rvs : List Value) (rk b : Nat) (ov : Obj) (v : W2) (ts tb : Tok) (hS : S.length ≤ 1000000) (hb : b ≤ S.length) (hrl : row.length ≤ 3)
    (hV : VObj w ov v) (ho : ∀ p ∈ im, p.1 ≠ wd) (hrefs : ∀ k, RefIn w.params im (rf.at k) k) (hl : (rw_, listOf rvs.toArray rk) ∈ im) (hr : RowIn im rf rvs row) :
    Con w tP tL mean mg mb 2 8 490 ((wd, ov) :: im) [.ref rw_, .str (tx S) ts, .int (b : Nat) tb, .ref wd] (MetPost w wd im (met S row b [] v)) := by
  refine' con_of [(Str.ofString "row", .ref rw_), (Str.ofString "subject", .str (tx S) ts), (Str.ofString "begin", .int (b : Nat) tb), (Str.ofString "w", .ref wd)] ?ho ?hcd ?hb ?hl ?hco ?hge ?hk ?hce ?_
  case ho => k_is
  case hcd => k_is
  case hb => exact fun _ => BindsTo.of_eq rfl
  case hl => exact locs rfl
  case hco => rfl
  case hge => rfl
  case hk => rfl
  case hce => decide
  intro dp un gd outer A₀ base g L s Dn hD B F X N T hlt hd hu
  repeat' (first | (fail_if_success (with_reducible show wpAny _ _ (exec (Stmt.For _ _ _ _ _) _) _ _ _)); walk1 | ((fail_if_success (with_reducible show wpAny _ _ (exec (Stmt.For _ _ _ _ _) _) _ _ _)); dsimp only; walk1))
  refine wpAny_For ?_
  k_steps
  (with_reducible rename News _ _ _ _ => N1)
  (with_reducible rename Fr _ _ _ _ => F1)
  rename_i lt _ l1 D1 _ l2 _ _ _
  have hq1 : ∀ p ∈ im, p.1 ≠ lt := allLt_ne _ (by exact l1.2)
  have hwl : @Ne Nat wd lt := by k_ne
  have N2 : News g L _ ((wd, ov) :: (lt, listOf [].toArray 0) :: ([] ++ im)) := newsSub0 N1 (by walk_at "mysub")
  clear N1
  refine list_O (JMet w S row b v wd lt im ts) (by rfl) F1 N2 (.tail _ (.tail _ hl)) ⟨_, b, tb, [], [], 0, [], ov, v, kst_self ((fac rfl (fac rfl (fac rfl (fac rfl facNil))))), rfl, hV, rfl, hb, Nat.le_refl _, rfl, ho, hq1⟩ ?_ ?_
  · rintro i pv m₁ news₁ h₁ tk it Wa hWa hi ⟨u, e, te, l, vs, k, own, ov1, v1, rfl, rfl, hV1, hK1, he1, hl1, hR1, ho1, ho2⟩ hl2 hof F₁ N₁
    dsimp only [kstB] at F₁
    clear N2 F1
    obtain ⟨p, a, hd1, rfl, hN1⟩ := hr.get hi
    rw [hd1] at hR1
    simp only [met] at hR1
    have hN2 := hN1.mono (im' := own ++ im) subApp
    have hkl := hK1.length
    have hit1 : @Ne Nat wd it.1 := hof _ (.head _)
    have hit2 : @Ne Nat lt it.1 := hof _ (.tail _ (.head _))
    have hit3 : ∀ p ∈ own ++ im, p.1 ≠ it.1 := fun p hp => hof p (.tail _ (.tail _ hp))
    have hin : i < row.length := by rw [← hr.length]; exact (List.getElem?_eq_some_iff.mp hi).1
    obtain ⟨q, fm⟩ := p
    cases fm with
    | plain =>
      have hp1 : PrimIn (own ++ im) a q := hN2
      have hp2 : PrimIn (it :: (wd, ov1) :: (lt, listOf vs.toArray k) :: (own ++ im)) a q := hp1.mono (fun _ h => .tail _ (.tail _ (.tail _ h)))
      obtain ⟨kl, tk1, krest, hk, ⟨g1, g2, g3⟩⟩ := plain_kind2 hp1
      k_steps
      · rename _ = none => hq
        (with_reducible rename News _ _ _ _ => N8)
        dsimp only at hR1
        rw [hq] at hR1
        dsimp only
        refine hWa _ _ (endG_ret ?_); refine hD _ _ ?_; refine done_ret (by assumption) (newsSub0 N8 (by walk_at "mysub")) ⟨ov1, (lt, listOf vs.toArray k) :: own, rfl, ?_, ?_, ?_⟩
        · exact (fac (Ne.symm hwl) (fun p hp => ho1 p (List.mem_append_left _ hp)))
        · rw [← hR1]; exact hV1
        · rw [← hR1]; rfl
      · rename _ = some _ => hq
        (with_reducible rename News _ _ _ _ => N8)
        (with_reducible rename Fr _ _ _ _ => F8)
        dsimp only at hR1
        rw [hq] at hR1
        dsimp only at hR1
        refine hWa _ _ ?_; refine endG_next F8 (news' := (wd, ov1) :: (lt, listOf vs.toArray k) :: (own ++ im)) (newsSub0 N8 (by walk_at "mysub")) hof ((fac hl2 facNil)) ⟨_, _, _, l, vs, k, own, ov1, v1, kst_self ((fac rfl (fac rfl (fac rfl (fac rfl facNil))))), rfl, hV1, hK1, primEnd_le he1 hq, by omega, hR1, ho1, ho2⟩
    | later kk =>
      obtain ⟨bb, tt, hm1, hp1⟩ := hN2
      have hp2 : PrimIn (it :: (wd, ov1) :: (lt, listOf vs.toArray k) :: (own ++ im)) bb q := PrimIn.mono (fun _ h => .tail _ (.tail _ (.tail _ h))) hp1
      obtain ⟨da, u1, u2, u3, u4, u5, m1, m2⟩ := (hrefs kk).mono (im' := own ++ im) subApp
      k_steps
      · rename _ = none => hq
        (with_reducible rename News _ _ _ _ => N8)
        dsimp only at hR1
        rw [hq] at hR1
        dsimp only
        refine hWa _ _ (endG_ret ?_); refine hD _ _ ?_; refine done_ret (by assumption) (newsSub0 N8 (by walk_at "mysub")) ⟨ov1, (lt, listOf vs.toArray k) :: own, rfl, ?_, ?_, ?_⟩
        · exact (fac (Ne.symm hwl) (fun p hp => ho1 p (List.mem_append_left _ hp)))
        · rw [← hR1]; exact hV1
        · rw [← hR1]; rfl
      · rename _ = some _ => hq
        (with_reducible rename News _ _ _ _ => N8)
        (with_reducible rename Fr _ _ _ _ => F8)
        dsimp only at hR1
        rw [hq] at hR1
        dsimp only at hR1
        rename_i e9 te9 _ _ _ _ t9 _ D9 _ l9 _ _
        have hK9 : KNamesIn ((D9, tup [.str (keyOf kk) u5, .str (tx (cut S e e9)) t9]) :: (own ++ im)) (vs ++ [Value.ref D9]) (l ++ [(kk, cut S e e9)]) := KNamesIn.snoc (.head _) (hK1.mono fun _ h => .tail _ h)
        simp only [Int.toNat_natCast] at N8
        have hD1 : @Ne Nat D9 wd := by k_ne
        have hD2 : @Ne Nat D9 lt := by k_ne
        have hD3 : @Ne Nat D9 it.1 := by k_ne
        refine hWa _ _ ?_; refine endG_next F8 (news' := (wd, ov1) :: (lt, listOf (vs ++ [Value.ref D9]).toArray (k + 1)) :: (((D9, tup [.str (keyOf kk) u5, .str (tx (cut S e e9)) t9]) :: own) ++ im)) (newsSub0 N8 (by walk_at "mysub")) ?_ ((fac ?_ facNil)) ⟨_, _, _, l ++ [(kk, cut S e e9)], vs ++ [Value.ref D9], k + 1, (D9, tup [.str (keyOf kk) u5, .str (tx (cut S e e9)) t9]) :: own, ov1, v1, kst_self ((fac rfl (fac rfl (fac rfl (fac rfl facNil))))), rfl, hV1, hK9, primEnd_le he1 hq, ?_, hR1, ?_, ?_⟩
        · exact (fac hit1 (fac hit2 (fac hD3 hit3)))
        · exact .tail _ (.tail _ (.tail _ (List.mem_append_right _ hl)))
        · simp only [List.length_append, List.length_cons, List.length_nil]; omega
        · exact (fac hD1 ho1)
        · exact (fac hD2 ho2)
    | now kk =>
      obtain ⟨bb, tt, hm1, hp1⟩ := hN2
      have hp2 : PrimIn (it :: (wd, ov1) :: (lt, listOf vs.toArray k) :: (own ++ im)) bb q := PrimIn.mono (fun _ h => .tail _ (.tail _ (.tail _ h))) hp1
      obtain ⟨da, u1, u2, u3, u4, u5, m1, m2⟩ := (hrefs kk).mono (im' := own ++ im) subApp
      k_steps
      · rename _ = none => hq
        (with_reducible rename News _ _ _ _ => N8)
        dsimp only at hR1
        rw [hq] at hR1
        dsimp only
        refine hWa _ _ (endG_ret ?_); refine hD _ _ ?_; refine done_ret (by assumption) (newsSub0 N8 (by walk_at "mysub")) ⟨ov1, (lt, listOf vs.toArray k) :: own, rfl, ?_, ?_, ?_⟩
        · exact (fac (Ne.symm hwl) (fun p hp => ho1 p (List.mem_append_left _ hp)))
        · rw [← hR1]; exact hV1
        · rw [← hR1]; rfl
      · rename _ = some _ => hq
        (with_reducible rename News _ _ _ _ => N8)
        (with_reducible rename Fr _ _ _ _ => F8)
        rename VObj _ _ (setW _ _ _) => hV9
        dsimp only at hR1
        rw [hq] at hR1
        dsimp only at hR1
        simp only [Int.toNat_natCast] at hV9
        rename_i o9 _
        refine hWa _ _ ?_; refine endG_next F8 (news' := (wd, o9) :: (lt, listOf vs.toArray k) :: (own ++ im)) (newsSub0 N8 (by walk_at "mysub")) ?_ ((fac ?_ facNil)) ⟨_, _, _, l, vs, k, own, o9, _, kst_self ((fac rfl (fac rfl (fac rfl (fac rfl facNil))))), rfl, hV9, hK1, primEnd_le he1 hq, by omega, hR1, ho1, ho2⟩
        · exact (fac hit1 (fac hit2 hit3))
        · exact .tail _ (.tail _ (List.mem_append_right _ hl))
  · rintro m₁ news₁ h₁ tk ⟨u, e, te, l, vs, k, own, ov1, v1, rfl, rfl, hV1, hK1, he1, hl1, hR1, ho1, ho2⟩ hl2 F₁ N₁
    rw [hr.length, List.drop_length] at hR1
    dsimp only [kstB] at F₁
    clear N2 F1
    k_steps
    dsimp only
    (with_reducible rename News _ _ _ _ => N8)
    rename_i D9 _ l9 _
    have hD1 : @Ne Nat D9 wd := by k_ne
    refine hD _ _ ?_; refine done_ret (by assumption) (newsSub0 N8 (by walk_at "mysub")) ⟨ov1, (D9, _) :: (lt, listOf vs.toArray k) :: own, rfl, ?_, ?_, ?_⟩
    · exact (fac hD1 (fac (Ne.symm hwl) (fun p hp => ho1 p (List.mem_append_left _ hp))))
    · rw [← hR1]; exact hV1
    · rw [← hR1]
      exact ⟨by omega, D9, lt, te, vs, k, rfl, .head _, .tail _ (.head _), hK1.mono fun _ h => .tail _ (.tail _ h)⟩

/-! D3 -/
noncomputable def RowsIn (im : Led) (rf : Refs) : List Value → List (List Part) → Prop
  | [], r => r = []
  | v :: vs, r => ∃ row r' a rvs rk, r = row :: r' ∧ v = .ref a ∧ (a, listOf rvs.toArray rk) ∈ im ∧ RowIn im rf rvs row ∧ RowsIn im rf vs r'
theorem RowsIn.get {im : Led} {rf : Refs} {vs : List Value} : ∀ {r : List (List Part)} {i : Nat} {v : Value}, RowsIn im rf vs r → vs[i]? = some v → ∃ row a rvs rk, row ∈ r ∧ r.drop i = row :: r.drop (i + 1) ∧ v = .ref a ∧ (a, listOf (rvs : List Value).toArray rk) ∈ im ∧ RowIn im rf rvs row := by
  induction vs with
  | nil => intro r i v _ e; cases e
  | cons w ws ih =>
    intro r i v h e
    obtain ⟨row, r', a, rvs, rk, rfl, rfl, h1, h2, h3⟩ := h
    cases i with
    | zero =>
      obtain rfl : v = .ref a := (Option.some.inj e).symm
      exact ⟨row, a, rvs, rk, .head _, rfl, rfl, h1, h2⟩
    | succ i =>
      obtain ⟨row2, a2, rvs2, rk2, e0, e1, e2, e3, e4⟩ := ih h3 e
      exact ⟨row2, a2, rvs2, rk2, .tail _ e0, e1, e2, e3, e4⟩
theorem RowsIn.length {im : Led} {rf : Refs} : ∀ {vs : List Value} {r : List (List Part)}, RowsIn im rf vs r → vs.length = r.length
  | [], _, h => by cases h; rfl
  | _ :: _, _, ⟨_, _, _, _, _, e1, _, _, _, h⟩ => by subst e1; simp [RowsIn.length h]
theorem RowsIn.mono {im im' : Led} {rf : Refs} (hs : ∀ p ∈ im, p ∈ im') : ∀ {vs : List Value} {r : List (List Part)}, RowsIn im rf vs r → RowsIn im' rf vs r
  | [], _, h => h
  | _ :: _, _, ⟨row, r', a, rvs, rk, e1, e2, h1, h2, h3⟩ => ⟨row, r', a, rvs, rk, e1, e2, hs _ h1, h2.mono hs, RowsIn.mono hs h3⟩
theorem strE : Str.ofString "" = tx [] := rfl
theorem strC : Str.ofString "c" = tx [99] := by decide
section
variable {prog : Program} {w : World} {A : Around} {E : Value → Shared → Prop} {s : Shared} {h₀ : Heap} {L d : Addr} {news : List (Addr × Obj)} {o : Obj} {v : W2} {Q : Value → Shared → Prop}
theorem item_VX {tk : Tok} {value slice : Expr} (N : News h₀ L s.heap news) (hm : (d, o) ∈ news) (hV : VObj w o v) (h : ∀ u, Q (.str (tx v.1) u) { s with toks := s.toks + 1 })
    (hs : subscripted slice false (.ref d) (.str (Str.ofString "X") tk) = operate [.ref d, .str (Str.ofString "X") tk] (getItem (.ref d) (.str (Str.ofString "X") tk)) := by with_unfolding_all rfl) :
    wpAny (model Prg w) A (subscriptTail value slice (.ref d) (.str (Str.ofString "X") tk)) Q E s := item_V (k := false) N hm hV h hs
theorem item_VY {tk : Tok} {value slice : Expr} (N : News h₀ L s.heap news) (hm : (d, o) ∈ news) (hV : VObj w o v) (h : ∀ u, Q (.str (tx v.2) u) { s with toks := s.toks + 1 })
    (hs : subscripted slice false (.ref d) (.str (Str.ofString "Y") tk) = operate [.ref d, .str (Str.ofString "Y") tk] (getItem (.ref d) (.str (Str.ofString "Y") tk)) := by with_unfolding_all rfl) :
    wpAny (model Prg w) A (subscriptTail value slice (.ref d) (.str (Str.ofString "Y") tk)) Q E s := item_V (k := true) N hm hV h hs
theorem add_txE {l : Cps} {t u : Tok} (hsz : l.length ≤ 16777216) (h : ∀ t' k, Q (.str (tx (l ++ [])) t') { s with toks := k }) : wpAny (model prog w) A (binaryOp .Add (.str (tx l) t) (.str (Str.ofString "") u)) Q E s :=
  add_tx (l' := []) (by simpa using hsz) h
theorem add_txC {l : Cps} {t u : Tok} (hsz : l.length ≤ 1000000) (h : ∀ t' k, Q (.str (tx (l ++ [99])) t') { s with toks := k }) : wpAny (model prog w) A (binaryOp .Add (.str (tx l) t) (.str (Str.ofString "c") u)) Q E s := by
  rw [strC]
  exact add_tx (l' := [99]) (by simp; omega) h
end
theorem words23 : True := by
  k_with "subscriptTail Name Constant ref str" => ((k_here; (with_reducible show wpAny _ _ (subscriptTail _ _ (Value.ref _) (Value.str (PySem.Str.ofString "X") _)) _ _ _); k_dflt (refine' item_VX ?N ?m ?d ?_; (case N => k_asm); (case m => k_mem); (case d => assumption); k_whole); intro _; (try dsimp only)))
  k_with "subscriptTail Name Constant ref str" => ((k_here; (with_reducible show wpAny _ _ (subscriptTail _ _ (Value.ref _) (Value.str (PySem.Str.ofString "Y") _)) _ _ _); k_dflt (refine' item_VY ?N ?m ?d ?_; (case N => k_asm); (case m => k_mem); (case d => assumption); k_whole); intro _; (try dsimp only)))
  k_with "binaryOp Add str str" => ((k_here; (with_reducible show wpAny _ _ (binaryOp Operator.Add (Value.str (Mine.tx _) _) (Value.str (PySem.Str.ofString "") _)) _ _ _); refine add_txE (by walk_at "aos") ?_; intro _ _; (try dsimp only)))
  k_with "binaryOp Add str str" => ((k_here; (with_reducible show wpAny _ _ (binaryOp Operator.Add (Value.str (Mine.tx _) _) (Value.str (PySem.Str.ofString "c") _)) _ _ _); refine add_txC (by walk_at "aos") ?_; intro _ _; (try dsimp only)))
  k_with "binaryOp Add str str" => ((k_here; (with_reducible show wpAny _ _ (binaryOp Operator.Add (Value.str (Mine.tx (_ ++ _)) _) (Value.str (Mine.tx _) _)) _ _ _); refine add_tx (by first | assumption | omega | (simp only [cut, List.length_take, List.length_drop, List.length_append, List.length_nil, List.length_cons]; omega)) ?_; intro _ _; (try dsimp only)))
  trivial

theorem newsOnce {h₀ : Heap} {L : Addr} {h : Heap} {x d a b : Addr × Obj} {own im : Led} (N : News h₀ L h (x :: d :: (own ++ a :: b :: im))) : News h₀ L h (d :: im) := by
  intro q hq
  rcases List.mem_cons.mp hq with e | hq
  · exact N q (.tail _ (e ▸ .head _))
  · exact N q (.tail _ (.tail _ (List.mem_append_right _ (.tail _ (.tail _ hq)))))
inductive JB (w : World) (S : Cps) (rows : List (List Part)) (M N : Nat) (v0 : W2) (wd rl : Addr) (form : Nat) (ts tf : Tok) (im : Led) (i : Nat) (m' : Str → Option Value) (news' : Led) : Prop where
  | mk (u : Str → Option Value) (ov : Obj) (v : W2) (h1 : m' = kstB u [(Str.ofString "rows", .ref rl), (Str.ofString "subject", .str (tx S) ts), (Str.ofString "w", .ref wd), (Str.ofString "form", .int (form : Nat) tf)]) (h2 : news' = (wd, ov) :: im) (h3 : VObj w ov v) (h4 : okW M v) (h5 : search (fun b w => atRows S b rows w) ((List.range N).drop i) v = search (fun b w => atRows S b rows w) (List.range N) v0) : JB w S rows M N v0 wd rl form ts tf im i m' news'
inductive JR (w : World) (S : Cps) (rows : List (List Part)) (M b : Nat) (tb : Tok) (v0 : W2) (wd rl : Addr) (form : Nat) (ts tf : Tok) (im : Led) (j : Nat) (m' : Str → Option Value) (news' : Led) : Prop where
  | mk (u : Str → Option Value) (ov : Obj) (v : W2) (h1 : m' = kstB u [(Str.ofString "rows", .ref rl), (Str.ofString "subject", .str (tx S) ts), (Str.ofString "w", .ref wd), (Str.ofString "form", .int (form : Nat) tf), (Str.ofString "begin", .int (b : Nat) tb)]) (h2 : news' = (wd, ov) :: im) (h3 : VObj w ov v) (h4 : okW M v) (h5 : atRows S b (rows.drop j) v = atRows S b rows v0) : JR w S rows M b tb v0 wd rl form ts tf im j m' news'
inductive JN (w : World) (S : Cps) (l : Named) (b : Nat) (tb : Tok) (v0 : W2) (wd ma : Addr) (form : Nat) (ts tf : Tok) (im : Led) (k : Nat) (m' : Str → Option Value) (news' : Led) : Prop where
  | mk (u : Str → Option Value) (ov : Obj) (v : W2) (h1 : m' = kstB u [(Str.ofString "subject", .str (tx S) ts), (Str.ofString "w", .ref wd), (Str.ofString "form", .int (form : Nat) tf), (Str.ofString "begin", .int (b : Nat) tb), (Str.ofString "met", .ref ma)]) (h2 : news' = (wd, ov) :: im) (h3 : VObj w ov v) (h4 : v = give (l.take k) v0) : JN w S l b tb v0 wd ma form ts tf im k m' news'
theorem item_told {w : World} {A : Around} {E : Value → Shared → Prop} {s : Shared} {h₀ : Heap} {L l : Addr} {news : Led} {t1 t2 t3 t4 : Tok} {a b : Cps} {form n : Nat} {u : Tok} {value slice : Expr} {Q : Value → Shared → Prop}
    (N : News h₀ L s.heap news) (hm : (l, listOf #[.str (Str.ofString "") t1, .str (Str.ofString "c") t2, .str (tx a) t3, .str (tx b) t4, .none] n) ∈ news) (hf : form ≤ 4) (h : ∀ v, ToldIs v (told form (a, b)) → Q v s)
    (hs : subscripted slice false (.ref l) (.int (form : Nat) u) = operate [.ref l, .int (form : Nat) u] (getItem (.ref l) (.int (form : Nat) u)) := by with_unfolding_all rfl) :
    wpAny (model Prg w) A (subscriptTail value slice (.ref l) (.int (form : Nat) u)) Q E s := by
  have key : ∀ v, [Value.str (Str.ofString "") t1, .str (Str.ofString "c") t2, .str (tx a) t3, .str (tx b) t4, .none][form]? = some v → ToldIs v (told form (a, b)) := by
    intro v hv
    match form, hf, hv with
    | 0, _, hv => cases hv; exact ⟨t1, rfl⟩
    | 1, _, hv => cases hv; exact ⟨t2, by rw [strC]⟩
    | 2, _, hv => cases hv; exact ⟨t3, rfl⟩
    | 3, _, hv => cases hv; exact ⟨t4, rfl⟩
    | 4, _, hv => cases hv; exact rfl
  have hsome : ∃ v, [Value.str (Str.ofString "") t1, .str (Str.ofString "c") t2, .str (tx a) t3, .str (tx b) t4, .none][form]? = some v := ⟨_, List.getElem?_eq_getElem (by simpa using Nat.lt_succ_of_le hf)⟩
  obtain ⟨v, hv⟩ := hsome
  exact tail_any (News.isList N hm).typeIs slot_list_getitem.lookup (wpAny_getItem_list (News.isList N hm) (by omega) (by omega) (by simpa using hv) (h v (key v hv))) hs
set_option maxRecDepth 100000 in
set_option maxHeartbeats 8000000 in
theorem law_once_con {w : World} {tP tL mean mg mb} (rf : Refs) (im : Led) (S : Cps) (rows : List (List Part)) (rl wd : Addr) (rlvs : List Value) (rlk M form : Nat) (anch : Bool) (ov : Obj) (v : W2) (ts tf : Tok) (hM : 1 ≤ M) (hM2 : M ≤ 1000) (hS : S.length ≤ M)
    (hrl : ∀ r ∈ rows, r.length ≤ 3) (hfm : form ≤ 4) (hV : VObj w ov v) (hw : okW M v) (ho : ∀ p ∈ im, p.1 ≠ wd) (hrefs : ∀ k, RefIn w.params im (rf.at k) k) (hl : (rl, listOf rlvs.toArray rlk) ∈ im) (hr : RowsIn im rf rlvs rows) :
    Con w tP tL mean mg mb 3 12 497 ((wd, ov) :: im) [.ref rl, .str (tx S) ts, .bool anch, .ref wd, .int (form : Nat) tf] (fun r news' => ∃ ov', news' = (wd, ov') :: im ∧ VObj w ov' (once rows S anch form v).2 ∧ ToldIs r (once rows S anch form v).1) := by
  refine' con_of [(Str.ofString "rows", .ref rl), (Str.ofString "subject", .str (tx S) ts), (Str.ofString "is_anchored", .bool anch), (Str.ofString "w", .ref wd), (Str.ofString "form", .int (form : Nat) tf)] ?ho ?hcd ?hb ?hl ?hco ?hge ?hk ?hce ?_
  case ho => k_is
  case hcd => k_is
  case hb => exact fun _ => BindsTo.of_eq rfl
  case hl => exact locs rfl
  case hco => rfl
  case hge => rfl
  case hk => rfl
  case hce => decide
  intro dp un gd outer A₀ base g L s Dn hD B F X N T hlt hd hu






  have hok1 : ∀ {v2 : W2}, okW M v2 → ∀ (row : List Part) (i : Nat), okW M (met S row i [] v2).2 ∧ ∀ m, (met S row i [] v2).1 = some m → okL M m.2 := fun h row i => met_ok hS row h (fun p hp => nomatch hp)
  refine wpAny_execs_cons ?_
  refine wpAny_For ?_
  repeat' (first | (fail_if_success (with_reducible show wpAny _ _ (eval (Expr.IfExp _ _ _ _) _) _ _ _)); walk1 | ((fail_if_success (with_reducible show wpAny _ _ (eval (Expr.IfExp _ _ _ _) _) _ _ _)); dsimp only; walk1))
  refine wpAny_mono (Q := fun v s' => ∃ (n : Nat) (t : Tok) (k : Tok), n = (if anch = true then 1 else S.length + 1) ∧ v = .int (n : Nat) t ∧ s' = { s with toks := k }) ?ifx ?_ (fun _ _ e => e)
  case ifx =>
    cases anch
    all_goals k_steps
    all_goals first | exact ⟨S.length + 1, _, _, rfl, rfl, rfl⟩ | exact ⟨1, _, _, rfl, rfl, rfl⟩
  rintro _ _ ⟨n, tn, kn, hn, rfl, rfl⟩
  (try dsimp only)
  have hnl : n ≤ S.length + 1 := by rw [hn]; split <;> omega
  k_steps
  have hb : begins anch S = List.range n := by rw [hn]; rfl
  (with_reducible rename News _ _ _ _ => N1)
  (with_reducible rename Fr _ _ _ _ => F1)
  rename IsRange _ _ _ _ _ _ _ _ => hir
  refine rangeIt_O (n := n) (JB w S rows M n v wd rl form ts tf im) (by rfl) hir F1 N1 (by omega) ⟨_, ov, v, kst_self ((fac rfl (fac rfl (fac rfl (fac rfl facNil))))), rfl, hV, hw, rfl⟩ ?_ ?_
  · rintro i tb m₁ news₁ h₁ tk it Wa hWa hi ⟨u, ov1, v1, rfl, rfl, hV1, hw1, hR1⟩ hof F₁ N₁
    dsimp only [kstB] at F₁
    clear N1 F1 hir
    have hdrop : (List.range n).drop i = i :: (List.range n).drop (i + 1) := by
      rw [List.drop_eq_getElem_cons (by simpa using hi)]; simp
    rw [hdrop] at hR1
    simp only [search] at hR1
    repeat' (first | (fail_if_success (with_reducible show wpAny _ _ (exec (Stmt.For _ _ _ _ _) _) _ _ _)); walk1 | ((fail_if_success (with_reducible show wpAny _ _ (exec (Stmt.For _ _ _ _ _) _) _ _ _)); dsimp only; walk1))
    refine wpAny_For ?_
    k_steps
    (with_reducible rename News _ _ _ _ => N9)
    (with_reducible rename Fr _ _ _ _ => F9)
    have N2 : News g L _ ((wd, ov1) :: it :: im) := newsSub0 N9 (by walk_at "mysub")
    clear N9
    have hit : @Ne Nat it.1 wd := (hof _ (.head _)).symm
    have ho2 : ∀ p ∈ it :: im, p.1 ≠ wd := (fac hit ho)
    refine list_O (JR w S rows M i tb v1 wd rl form ts tf (it :: im)) (by rfl) F9 N2 (.tail _ (.tail _ hl)) ⟨_, ov1, v1, kst_self ((fac rfl (fac rfl (fac rfl (fac rfl (fac rfl facNil)))))), rfl, hV1, hw1, rfl⟩ ?_ ?_
    · rintro j rv m₂ news₂ h₂ tk2 it2 Wb hWb hj ⟨u2, ov2, v2, rfl, rfl, hV2, hw2, hR2⟩ hl2 hof2 F₂ N₂
      dsimp only [kstB] at F₂
      clear F9 N2
      obtain ⟨row, ra, rvs, rk, hrm, hd2, rfl, hm2, hrow⟩ := hr.get hj
      rw [hd2] at hR2
      simp only [atRows] at hR2
      have hit2 : @Ne Nat it2.1 wd := (hof2 _ (.head _)).symm
      have ho3 : ∀ p ∈ it2 :: it :: im, p.1 ≠ wd := (fac hit2 ho2)
      have N3 : News g L h₂ ((wd, ov2) :: it2 :: it :: im) := newsSub0 N₂ (by walk_at "mysub")
      clear N₂
      have hsub : ∀ p ∈ im, p ∈ it2 :: it :: im := fun _ h => .tail _ (.tail _ h)
      have hlM := hok1 hw2 row i
      k_steps
      refine' Con.call ?k1 ?k2 ?k3 ?k4 ?k5 ?k6 (law_met_con rf (it2 :: it :: im) S row ra wd rvs rk i ov2 v2 ts tb (by omega) (by omega) (hrl row hrm) hV2 ho3 (fun k => (hrefs k).mono hsub) (hsub _ hm2) (hrow.mono hsub)) ?kd ?ku ?_
      case k1 => k_asm
      case k2 => k_asm
      case k3 => k_asm
      case k4 => k_asm
      case k5 => k_asm
      case k6 => rfl
      case kd => first | exact dle hd rfl | omega
      case ku => first | exact dle hu rfl | omega
      rintro r3 n3 h3 tk3 F3 N4 ⟨ov3, own3, rfl, hoff3, hV3, hMet⟩
      (try dsimp only)
      rcases hq : met S row i [] v2 with ⟨_ | ⟨e9, l9⟩, w9⟩
      · rw [hq] at hR2 hV3 hMet hlM
        obtain rfl : r3 = .none := hMet
        dsimp only at hR2 hV3 hlM
        k_steps
        (with_reducible rename News _ _ _ _ => N8)
        (with_reducible rename Fr _ _ _ _ => F8)
        refine hWb _ _ ?_; refine endG_next F8 (news' := (wd, ov3) :: it :: im) (newsSub0 N8 (by walk_at "mysub")) ((fac (hof2 (wd, ov2) (.head _)) (fun p hp => hof2 p (.tail _ hp)))) ((fac (.tail _ (.tail _ hl)) facNil)) ⟨_, ov3, w9, kst_self ((fac rfl (fac rfl (fac rfl (fac rfl (fac rfl facNil)))))), rfl, hV3, hlM.1, hR2⟩
      · rw [hq] at hR2 hV3 hMet hlM
        obtain ⟨he9, ma, la, t9, vs9, k9, rfl, mm, ml, mk⟩ := hMet
        dsimp only at hR2 hV3 hlM
        have hlM2 := hlM.2 _ rfl
        have hR3 : search (fun b w => atRows S b rows w) (List.range n) v = (some (i, e9, l9), w9) := by rw [← hR1, ← hR2]
        have hO : once rows S anch form v = ((told form (give l9 w9)).map fun t => S.take i ++ t ++ S.drop e9, give l9 w9) := by simp only [once, onceBy, hb, hR3]
        have hgw := okW_give l9 hlM.1 hlM2
        have ho4 : ∀ p ∈ own3 ++ it2 :: it :: im, p.1 ≠ wd := fun p hp => (List.mem_append.mp hp).elim (hoff3 p) (ho3 p)
        repeat' (first | (fail_if_success (with_reducible show wpAny _ _ (exec (Stmt.For _ _ _ _ _) _) _ _ _)); walk1 | ((fail_if_success (with_reducible show wpAny _ _ (exec (Stmt.For _ _ _ _ _) _) _ _ _)); dsimp only; walk1))
        refine wpAny_For ?_
        k_steps
        (with_reducible rename News _ _ _ _ => N5)
        (with_reducible rename Fr _ _ _ _ => F5)
        refine list_OT (JN w S l9 i tb w9 wd ma form ts tf (own3 ++ it2 :: it :: im)) (by rfl) (fun v hv => by obtain ⟨i, hi⟩ := List.getElem?_of_mem hv; obtain ⟨_, _, _, _, _, _, e9, _⟩ := mk.get hi; exact ⟨_, e9⟩) F5 N5 (.tail _ ml) ⟨_, ov3, w9, kst_self ((fac rfl (fac rfl (fac rfl (fac rfl (fac rfl facNil)))))), rfl, hV3, rfl⟩ ?_ ?_
        · rintro k kv m₄ news₄ h₄ tk4 it4 Wc hWc hk ⟨u4, ov4, v4, rfl, rfl, hV4, hv4⟩ hl4 hof4 F₄ N₄
          dsimp only [kstB] at F₄
          clear F5 N5
          obtain ⟨kk, t, bq, t1, u1, hlk, rfl, hmk⟩ := mk.get hk
          have hit4 : @Ne Nat it4.1 wd := (hof4 _ (.head _)).symm
          k_steps
          (with_reducible rename News _ _ _ _ => N8)
          (with_reducible rename Fr _ _ _ _ => F8)
          rename VObj _ _ (setW _ _ _) => hV9
          rename_i o9
          refine hWc _ _ ?_; refine endG_next F8 (news' := (wd, o9) :: (own3 ++ it2 :: it :: im)) (newsSub0 N8 (by walk_at "mysub")) ((fac (hof4 (wd, ov4) (.head _)) (fun p hp => hof4 p (.tail _ hp)))) ((fac (.tail _ ml) facNil)) ⟨_, o9, _, kst_self ((fac rfl (fac rfl (fac rfl (fac rfl (fac rfl facNil)))))), rfl, hV9, ?_⟩
          rw [List.take_add_one, hlk, give_append, ← hv4]
          rfl
        · rintro m₄ news₄ h₄ tk4 ⟨u4, ov4, v4, rfl, rfl, hV4, hv4⟩ hl4 F₄ N₄
          dsimp only [kstB] at F₄
          clear F5 N5
          rw [mk.length, List.take_length] at hv4
          rw [← hv4] at hgw hO
          have hg1 := hgw.1
          have hg2 := hgw.2
          rw [hO] at hD
          repeat' (first | (fail_if_success (with_reducible show wpAny _ _ (subscriptTail _ _ (.ref _) (.int _ _)) _ _ _)); walk1 | ((fail_if_success (with_reducible show wpAny _ _ (subscriptTail _ _ (.ref _) (.int _ _)) _ _ _)); dsimp only; walk1))
          refine item_told (by k_asm) (by k_mem) hfm ?_
          intro v9 hT9
          have htl9 : ∀ t, told form v4 = some t → t.length ≤ M := fun t ht => told_len hM hgw ht
          rcases ht9 : told form v4 with _ | t
          · rw [ht9] at hD
            have hT8 : ToldIs v9 none := by rw [← ht9]; exact hT9
            obtain rfl : v9 = .none := hT8
            clear hT9
            k_steps
            (try dsimp only)
            (with_reducible rename News _ _ _ _ => N8)
            refine hWb _ _ (endG_ret (hWa _ _ (endG_ret (hD _ _ (done_ret (by assumption) (newsOnce N8) ⟨ov4, rfl, hV4, rfl⟩)))))
          · rw [ht9] at hD
            have hT8 : ToldIs v9 (some t) := by rw [← ht9]; exact hT9
            obtain ⟨u9, rfl⟩ := hT8
            have htl := htl9 t ht9
            clear hT9 htl9
            k_steps
            (try dsimp only)
            (with_reducible rename News _ _ _ _ => N8)
            refine hWb _ _ (endG_ret (hWa _ _ (endG_ret (hD _ _ (done_ret (by assumption) (newsOnce N8) ⟨ov4, rfl, hV4, _, rfl⟩)))))
    · rintro m₂ news₂ h₂ tk2 ⟨u2, ov2, v2, rfl, rfl, hV2, hw2, hR2⟩ hl2 F₂ N₂
      rw [hr.length, List.drop_length] at hR2
      dsimp only [kstB] at F₂
      clear F9 N2
      simp only [atRows] at hR2
      rw [← hR2] at hR1
      dsimp only at hR1
      k_steps
      (with_reducible rename News _ _ _ _ => N8)
      (with_reducible rename Fr _ _ _ _ => F8)
      refine hWa _ _ ?_; refine endG_next F8 (news' := (wd, ov2) :: im) (newsSub0 N8 (by walk_at "mysub")) ((fac (hof (wd, ov1) (.head _)) (fun p hp => hof p (.tail _ hp)))) (fun _ h => nomatch h) ⟨_, ov2, v2, kst_self ((fac rfl (fac rfl (fac rfl (fac rfl facNil))))), rfl, hV2, hw2, hR1⟩
  · rintro m₁ news₁ h₁ tk ⟨u, ov1, v1, rfl, rfl, hV1, hw1, hR1⟩ F₁ N₁
    clear N1 F1 hir
    rw [List.drop_of_length_le (by simp)] at hR1
    simp only [search] at hR1
    k_steps
    (try dsimp only)
    refine hD _ _ ?_; refine done_ret (by assumption) N₁ ⟨ov1, rfl, ?_, ?_⟩
    · simp only [once, onceBy, hb, ← hR1]; exact hV1
    · simp only [once, onceBy, hb, ← hR1]; rfl

/-! E1 -/
inductive BoxIn (im : Led) (bo : Obj) : Prop where
  | mk (gl : _) (gvs : _) (gk : _) (i : _) (sd : _) (n : _) (t1 : _) (t2 : _) (h1 : bo = listOf #[.ref gl, .int i t1, .int sd t2] n) (h2 : (gl, listOf (gvs : List Value).toArray gk) ∈ im) (h3 : (∀ v ∈ gvs, ∃ z t, v = .int z t)) (h4 : 0 ≤ i) (h5 : i ≤ (gvs.length : Int)) (h6 : gvs.length ≤ 24) (h7 : 0 ≤ sd) (h8 : sd ≤ 1000003) : BoxIn im bo
inductive DrawPost (bx : Addr) (imb im : Led) (many : Int) (r : Value) (news' : Led) : Prop where
  | mk (bo' : _) (z : _) (t : _) (h1 : news' = (bx, bo') :: im) (h2 : BoxIn imb bo') (h3 : r = .int ((z : Nat) : Int) t) (h4 : (z : Int) < many) : DrawPost bx imb im many r news'
theorem fmod_rng (z : Int) {m : Int} (h : 0 < m) : 0 ≤ z.fmod m ∧ z.fmod m < m := by
  rw [Int.fmod_eq_emod_of_nonneg z (by omega)]
  exact ⟨Int.emod_nonneg z (by omega), Int.emod_lt_of_pos z h⟩
theorem draw_post {bx : Addr} {imb im : Led} {bo' : Obj} {many : Int} {z : Int} {t : Tok} (hm : 1 ≤ many) (hB : BoxIn imb bo') : DrawPost bx imb im many (.int (z.fmod many) t) ((bx, bo') :: im) := by
  have h := fmod_rng z (show 0 < many by omega)
  exact ⟨bo', (z.fmod many).toNat, t, rfl, hB, by rw [Int.toNat_of_nonneg h.1], by omega⟩
theorem item_ints {prog : Program} {w : World} {A : Around} {E : Value → Shared → Prop} {s : Shared} {h₀ : Heap} {L l : Addr} {news : Led} {its : List Value} {n : Nat} {k : Int} {u : Tok} {value slice : Expr} {Q : Value → Shared → Prop}
    (N : News h₀ L s.heap news) (hm : (l, listOf its.toArray n) ∈ news) (ha : ∀ v ∈ its, ∃ z t, v = .int z t) (h0 : 0 ≤ k) (h1 : k < (its.length : Int)) (hz : its.length ≤ 1000) (h : ∀ z t, Q (.int z t) s)
    (hs : subscripted slice false (.ref l) (.int k u) = operate [.ref l, .int k u] (getItem (.ref l) (.int k u)) := by with_unfolding_all rfl) :
    wpAny (model prog w) A (subscriptTail value slice (.ref l) (.int k u)) Q E s := by
  have hlt : k.toNat < its.length := by omega
  obtain ⟨z, t, hv⟩ := ha its[k.toNat] (List.getElem_mem hlt)
  have hg : its.toArray[k.toNat]? = some (.int z t) := by simp [hlt, hv]
  exact tail_any (News.isList N hm).typeIs slot_list_getitem.lookup (wpAny_getItem_list (News.isList N hm) h0 (by omega) hg (h z t)) hs
theorem words24 : True := by
  k_with "subscriptTail" => ((k_here; (with_reducible show wpAny _ _ (subscriptTail _ _ (Value.ref _) (Value.int _ _)) _ _ _); k_dflt (refine' item_ints ?k1 ?k2 ?k3 ?k4 ?k5 ?k6 ?_; (case k1 => k_asm); (case k2 => k_mem); (case k3 => assumption); (case k4 => omega); (case k5 => omega); (case k6 => omega); k_whole); intro _ _; (try dsimp only)))
  trivial

theorem BoxIn.mono {im im' : Led} {bo : Obj} (hs : ∀ p ∈ im, p ∈ im') (h : BoxIn im bo) : BoxIn im' bo :=
  let ⟨gl, gvs, gk, i, sd, n, t1, t2, e, hg, r1, r2, r3, r4, r5, r6⟩ := h
  ⟨gl, gvs, gk, i, sd, n, t1, t2, e, hs _ hg, r1, r2, r3, r4, r5, r6⟩
set_option maxRecDepth 100000 in
set_option maxHeartbeats 8000000 in
theorem law_draw_con {w : World} {tP tL mean mg mb} (imb im : Led) (bx : Addr) (bo : Obj) (many : Int) (tm : Tok) (hs : ∀ p ∈ imb, p ∈ im) (hB : BoxIn imb bo) (ho : ∀ p ∈ im, p.1 ≠ bx) (hm : 1 ≤ many) (hm2 : many ≤ 1000) :
    Con w tP tL mean mg mb 1 4 457 ((bx, bo) :: im) [.ref bx, .int many tm] (DrawPost bx imb im many) := by
  refine' con_of [(Str.ofString "box", .ref bx), (Str.ofString "many", .int many tm)] ?ho ?hcd ?hb ?hl ?hco ?hge ?hk ?hce ?_
  case ho => k_is
  case hcd => k_is
  case hb => exact fun _ => BindsTo.of_eq rfl
  case hl => exact locs rfl
  case hco => rfl
  case hge => rfl
  case hk => rfl
  case hce => decide
  intro dp un gd outer A₀ base g L s Dn hD B F X N T hlt hd hu
  obtain ⟨gl, gvs, gk, i, sd, n, t1, t2, rfl, hgb, hgv, hi0, hi1, hgl, hs0, hs1⟩ := hB
  have hg := hs _ hgb
  have hm0 : 0 < many := by omega
  k_steps
  all_goals (try dsimp only)
  all_goals (with_reducible rename News _ _ _ _ => N9)
  · refine hD _ _ ?_; exact done_ret (by assumption) N9 (draw_post hm ⟨gl, gvs, gk, i + 1, sd, n, _, t2, rfl, hgb, hgv, by omega, by omega, hgl, hs0, hs1⟩)
  · have hs9 := fmod_rng (sd * 4021 + 577) (m := 1000003) (by decide)
    refine hD _ _ ?_; exact done_ret (by assumption) N9 (draw_post hm ⟨gl, gvs, gk, i, _, n, t1, _, rfl, hgb, hgv, hi0, hi1, hgl, hs9.1, by omega⟩)

/-! E2 -/
/-- the new stand off the old -/
noncomputable def Above (own im : Led) : Prop := ∀ p ∈ own, ∀ q ∈ im, @Ne Nat p.1 q.1
theorem allLt_lt {d : Addr} : ∀ l : List (Addr × Obj), AllLt d l → ∀ p ∈ l, @LT.lt Nat _ p.1 d := by
  intro l
  induction l with
  | nil => intro _ p hp; cases hp
  | cons q r ih =>
    intro h p hp
    rcases List.mem_cons.mp hp with rfl | hp
    · exact h.1
    · exact ih h.2 p hp
theorem above_nil {im : Led} : Above [] im := fun _ h => nomatch h
theorem above_cons {x : Addr × Obj} {own im : Led} (h1 : AllLt x.1 im) (h2 : Above own im) : Above (x :: own) im := (fac (fun q hq => Ne.symm (allLt_ne im h1 q hq)) h2)
theorem above_app {o1 o2 im : Led} (h1 : Above o1 im) (h2 : Above o2 im) : Above (o1 ++ o2) im := fun p hp => (List.mem_append.mp hp).elim (h1 p) (h2 p)
theorem above_sub {o1 im im' : Led} (h1 : Above o1 im) (h2 : ∀ p ∈ im', p ∈ im) : Above o1 im' := fun p hp q hq => h1 p hp q (h2 q hq)
theorem above_ne {own im : Led} {x : Addr × Obj} (h : Above own im) (hx : x ∈ im) : ∀ p ∈ own, p.1 ≠ x.1 := fun p hp => h p hp x hx
inductive PartPost (rf : Refs) (bx : Addr) (imb im : Led) (r : Value) (news' : Led) : Prop where
  | mk (own : _) (bo' : _) (p : _) (a : _) (h1 : news' = (bx, bo') :: (own ++ im)) (h2 : BoxIn imb bo') (h3 : Above own im) (h4 : (∀ p ∈ own, @Ne Nat p.1 bx)) (h5 : r = .ref a) (h6 : NodeIn own rf a (partNode p)) : PartPost rf bx imb im r news'
theorem item_any {prog : Program} {w : World} {A : Around} {E : Value → Shared → Prop} {s : Shared} {h₀ : Heap} {L l : Addr} {news : Led} {its : List Value} {n : Nat} {k : Int} {u : Tok} {value slice : Expr} {Q : Value → Shared → Prop}
    (N : News h₀ L s.heap news) (hm : (l, listOf its.toArray n) ∈ news) (h0 : 0 ≤ k) (h1 : k < (its.length : Int)) (hz : its.length ≤ 1000) (h : ∀ v, v ∈ its → Q v s)
    (hs : subscripted slice false (.ref l) (.int k u) = operate [.ref l, .int k u] (getItem (.ref l) (.int k u)) := by with_unfolding_all rfl) :
    wpAny (model prog w) A (subscriptTail value slice (.ref l) (.int k u)) Q E s := by
  have hlt : k.toNat < its.length := by omega
  have hg : its.toArray[k.toNat]? = some its[k.toNat] := by simp [hlt]
  exact tail_any (News.isList N hm).typeIs slot_list_getitem.lookup (wpAny_getItem_list (News.isList N hm) h0 (by omega) hg (h _ (List.getElem_mem hlt))) hs
theorem item_prim {prog : Program} {w : World} {A : Around} {E : Value → Shared → Prop} {s : Shared} {h₀ : Heap} {L l : Addr} {news im : Led} {its : List Value} {n : Nat} {k : Int} {u : Tok} {value slice : Expr} {Q : Value → Shared → Prop}
    (N : News h₀ L s.heap news) (hm : (l, listOf its.toArray n) ∈ news) (h0 : 0 ≤ k) (h1 : k < (its.length : Int)) (hz : its.length ≤ 1000) (ha : ∀ v ∈ its, ∃ a p, v = Value.ref a ∧ PrimIn im a p) (h : ∀ a p, PrimIn im a p → Q (.ref a) s)
    (hs : subscripted slice false (.ref l) (.int k u) = operate [.ref l, .int k u] (getItem (.ref l) (.int k u)) := by with_unfolding_all rfl) :
    wpAny (model prog w) A (subscriptTail value slice (.ref l) (.int k u)) Q E s :=
  item_any N hm h0 h1 hz (fun v hv => by obtain ⟨a, p, rfl, hp⟩ := ha v hv; exact h a p hp) hs
theorem item_ref {prog : Program} {w : World} {A : Around} {E : Value → Shared → Prop} {s : Shared} {h₀ : Heap} {L l : Addr} {news : Led} {rf : Refs} {n : Nat} {k : Int} {u : Tok} {value slice : Expr} {Q : Value → Shared → Prop}
    (N : News h₀ L s.heap news) (hm : (l, listOf #[.ref rf.x, .ref rf.y] n) ∈ news) (h0 : 0 ≤ k) (h1 : k < 2) (h : ∀ b, Q (.ref (rf.at b)) s)
    (hs : subscripted slice false (.ref l) (.int k u) = operate [.ref l, .int k u] (getItem (.ref l) (.int k u)) := by with_unfolding_all rfl) :
    wpAny (model prog w) A (subscriptTail value slice (.ref l) (.int k u)) Q E s :=
  item_any (its := [.ref rf.x, .ref rf.y]) N hm h0 h1 (by simp) (fun v hv => by
    rcases List.mem_cons.mp hv with rfl | hv
    · exact h false
    · rw [List.mem_singleton.mp hv]; exact h true) hs
theorem newsHead2 {h₀ : Heap} {L : Addr} {h : Heap} {a b : Addr × Obj} {own im : Led} (N : News h₀ L h (a :: b :: (own ++ im))) : News h₀ L h (b :: ((a :: own) ++ im)) := newsSub0 N (by walk_at "mysub")
theorem allLt_of2 {d : Addr} : ∀ {l : List (Addr × Obj)}, (∀ p ∈ l, @LT.lt Nat _ p.1 d) → AllLt d l
  | [], _ => trivial
  | _ :: _, h => ⟨h _ (.head _), allLt_of2 fun q hq => h q (.tail _ hq)⟩
theorem allLt_app {d : Addr} {own im : Led} (h : AllLt d (own ++ im)) : AllLt d im := allLt_of2 fun p hp => allLt_lt _ h p (List.mem_append_right _ hp)
noncomputable def formStr (b : Bool) : Str := if b then Str.ofString "now" else Str.ofString "later"
theorem item_form {prog : Program} {w : World} {A : Around} {E : Value → Shared → Prop} {s : Shared} {h₀ : Heap} {L l : Addr} {news : Led} {t1 t2 : Tok} {n : Nat} {k : Int} {u : Tok} {value slice : Expr} {Q : Value → Shared → Prop}
    (N : News h₀ L s.heap news) (hm : (l, listOf #[.str (Str.ofString "later") t1, .str (Str.ofString "now") t2] n) ∈ news) (h0 : 0 ≤ k) (h1 : k < 2) (h : ∀ b t, Q (.str (formStr b) t) s)
    (hs : subscripted slice false (.ref l) (.int k u) = operate [.ref l, .int k u] (getItem (.ref l) (.int k u)) := by with_unfolding_all rfl) :
    wpAny (model prog w) A (subscriptTail value slice (.ref l) (.int k u)) Q E s :=
  item_any (its := [.str (Str.ofString "later") t1, .str (Str.ofString "now") t2]) N hm h0 h1 (by simp) (fun v hv => by
    rcases List.mem_cons.mp hv with rfl | hv
    · exact h false t1
    · rw [List.mem_singleton.mp hv]; exact h true t2) hs
theorem newsPart {h₀ : Heap} {L : Addr} {h : Heap} {a1 a2 a3 a4 a5 a6 a7 a8 b : Addr × Obj} {im : Led} (N : News h₀ L h (a1 :: a2 :: a3 :: a4 :: a5 :: a6 :: a7 :: a8 :: b :: im)) : News h₀ L h (b :: ([a1, a2, a3, a4, a5, a6, a7, a8] ++ im)) := newsSub0 N (by walk_at "mysub")
theorem sA : Str.ofString "a" = tx [97] := by decide
theorem sAB : Str.ofString "ab" = tx [97, 98] := by decide
theorem sBC : Str.ofString "bc" = tx [98, 99] := by decide
theorem sC : Str.ofString "c" = tx [99] := by decide
theorem words25 : True := by
  k_with "call ref" => ((k_here; (with_reducible show wpAny _ _ (PySem.call (Value.ref 457) _) _ _ _); k_dflt (refine' Con.callA (law_draw_con _ _ _ _ _ _ ?z0 ?z1 ?z2 ?z3 ?z4) ?_; (case z3 => first | decide | omega); (case z4 => first | decide | omega); (case z1 | z0 | z2 => assumption); intro _ _ _ _ _ _ P'; obtain ⟨_, _, _, e', _, r9, _⟩ := P'; subst e'; subst r9; (try dsimp only))))
  k_with "subscriptTail" => ((k_here; (with_reducible show wpAny _ _ (subscriptTail (Expr.Name _ _) (Expr.Call _ _ _ _) (Value.ref _) (Value.int _ _)) _ _ _); k_dflt (refine' item_prim ?k1 ?k2 ?k4 ?k5 ?k6 ?k7 ?_; (case k1 => k_asm); (case k2 => exact List.Mem.tail _ (by assumption)); (case k4 => omega); (case k5 => omega); (case k6 => omega); (case k7 => assumption); k_whole); intro _ _ _; (try dsimp only)))
  k_with "subscriptTail" => ((k_here; (with_reducible show wpAny _ _ (subscriptTail (Expr.Name _ _) (Expr.Call _ _ _ _) (Value.ref _) (Value.int _ _)) _ _ _); k_dflt (refine' item_ref ?k1 ?k2 ?k4 ?k5 ?_; (case k1 => k_asm); (case k2 => exact List.Mem.tail _ (by assumption)); (case k4 => omega); (case k5 => omega); k_whole); intro _; (try dsimp only)))
  k_with "subscriptTail" => ((k_here; (with_reducible show wpAny _ _ (subscriptTail (Expr.Name _ _) (Expr.Name _ _) (Value.ref _) (Value.int _ _)) _ _ _); k_dflt (refine' item_form ?k1 ?k2 ?k4 ?k5 ?_; (case k1 => k_asm); (case k2 => exact List.Mem.head _); (case k4 => omega); (case k5 => omega); k_whole); intro _ _; (try dsimp only)))
  trivial

set_option maxRecDepth 100000 in
set_option maxHeartbeats 8000000 in
theorem law_part_con {w : World} {tP tL mean mg mb} (rf : Refs) (imb im : Led) (bx rl : Addr) (bo : Obj) (rk : Nat) (hs : ∀ p ∈ imb, p ∈ im) (hB : BoxIn imb bo) (ho : ∀ p ∈ im, p.1 ≠ bx) (hr : (rl, listOf #[.ref rf.x, .ref rf.y] rk) ∈ im) :
    Con w tP tL mean mg mb 2 8 464 ((bx, bo) :: im) [.ref bx, .ref rl] (PartPost rf bx imb im) := by
  refine' con_of [(Str.ofString "box", .ref bx), (Str.ofString "refs", .ref rl)] ?ho ?hcd ?hb ?hl ?hco ?hge ?hk ?hce ?_
  case ho => k_is
  case hcd => k_is
  case hb => exact fun _ => BindsTo.of_eq rfl
  case hl => exact locs rfl
  case hco => rfl
  case hge => rfl
  case hk => rfl
  case hce => decide
  intro dp un gd outer A₀ base g L s Dn hD B F X N T hlt hd hu
  repeat' (first | (fail_if_success (with_reducible show wpAny _ _ (call (Value.ref 457) _) _ _ _)); walk1 | ((fail_if_success (with_reducible show wpAny _ _ (call (Value.ref 457) _) _ _ _)); dsimp only; walk1))
  (with_reducible rename News _ _ _ _ => N1)
  (with_reducible rename Fr _ _ _ _ => F1)
  rename_i D1 _ l1 D2 _ l2 D3 _ l3 D4 _ l4 D5 _ l5 D6 _ l6 D7 _ l7 la _ l8 h1
  have hpack : ∃ (own : Led) (lvs : List Value), News g L h1 ((bx, bo) :: (own ++ im)) ∧ Above own im ∧ (∀ p ∈ own, @Ne Nat p.1 bx) ∧ (la, listOf lvs.toArray 0) ∈ own ∧ lvs.length = 7 ∧ (∀ v ∈ lvs, ∃ a p, v = Value.ref a ∧ PrimIn own a p) := by
    simp only [sA, sAB, sBC, sC] at N1
    refine ⟨[(la, _), (D7, _), (D6, _), (D5, _), (D4, _), (D3, _), (D2, _), (D1, _)], [.ref D1, .ref D2, .ref D3, .ref D4, .ref D5, .ref D6, .ref D7], newsPart N1, ?_, ?_, .head _, rfl, ?_⟩
    · exact above_cons l8.2.2.2.2.2.2.2.2 (above_cons l7.2.2.2.2.2.2.2 (above_cons l6.2.2.2.2.2.2 (above_cons l5.2.2.2.2.2 (above_cons l4.2.2.2.2 (above_cons l3.2.2.2 (above_cons l2.2.2 (above_cons l1.2 above_nil)))))))
    · refine (fac (by k_ne) (fac (by k_ne) (fac (by k_ne) (fac (by k_ne) (fac (by k_ne) (fac (by k_ne) (fac (by k_ne) (fac (by k_ne) facNil))))))))
    · refine (fac ⟨D1, .chars [97], rfl, ⟨⟨_, _, .tail _ (.tail _ (.tail _ (.tail _ (.tail _ (.tail _ (.tail _ (.head _)))))))⟩, by decide⟩⟩ ?_)
      refine (fac ⟨D2, .chars [97, 98], rfl, ⟨⟨_, _, .tail _ (.tail _ (.tail _ (.tail _ (.tail _ (.tail _ (.head _))))))⟩, by decide⟩⟩ ?_)
      refine (fac ⟨D3, .len 1, rfl, ⟨_, _, .tail _ (.tail _ (.tail _ (.tail _ (.tail _ (.head _)))))⟩⟩ ?_)
      refine (fac ⟨D4, .any [98, 99], rfl, ⟨_, _, .tail _ (.tail _ (.tail _ (.tail _ (.head _))))⟩⟩ ?_)
      refine (fac ⟨D5, .span [97, 98], rfl, ⟨_, _, .tail _ (.tail _ (.tail _ (.head _)))⟩⟩ ?_)
      refine (fac ⟨D6, .brk [99], rfl, ⟨_, _, .tail _ (.tail _ (.head _))⟩⟩ ?_)
      exact (fac ⟨D7, .rem, rfl, ⟨_, .tail _ (.head _)⟩⟩ facNil)
  clear N1 l1 l2 l3 l4 l5 l6 l7 l8
  obtain ⟨own, lvs, N2, hab, hbx, hla0, hlv, hall⟩ := hpack
  have hla : (la, listOf lvs.toArray 0) ∈ own ++ im := List.mem_append_left _ hla0
  have ho2 : ∀ p ∈ own ++ im, p.1 ≠ bx := fun p hp => (List.mem_append.mp hp).elim (fun h => hbx p h) (ho p)
  have hs2 : ∀ p ∈ imb, p ∈ own ++ im := fun p hp => subApp _ (hs p hp)
  have hr2 : (rl, listOf #[.ref rf.x, .ref rf.y] rk) ∈ own ++ im := subApp _ hr
  k_steps
  · (with_reducible rename News _ _ _ _ => N9)
    dsimp only
    rename PrimIn _ _ _ => hp9
    rename_i bo9 z9 t9 B9 hz9 D9 _ l9 _ _ _ _ _ _
    refine hD _ _ ?_; refine done_ret (by assumption) (newsHead2 N9) ⟨_ :: own, bo9, ⟨_, .plain⟩, _, rfl, B9, above_cons (allLt_app l9.2) hab, (fac (Nat.ne_of_gt l9.1) hbx), rfl, hp9.mono (fun _ h => .tail _ h)⟩
  · (with_reducible rename News _ _ _ _ => N9)
    rename PrimIn _ _ _ => hp9
    rename_i a8 p8 _ _ _ _ _ _ _ _ _ _ _ _ _ _ _ _ _ _ fb _ _ _ bo9 _ _ B9 _ kb D9 _ _ l9
    refine hD _ _ ?_; refine done_ret (by assumption) (newsHead2 N9) ⟨_ :: own, bo9, ⟨p8, if fb then .now kb else .later kb⟩, D9, rfl, B9, above_cons (allLt_app l9.2) hab, (fac (Nat.ne_of_gt l9.1) hbx), rfl, ?_⟩
    cases fb with
    | false => exact ⟨_, _, .head _, PrimIn.mono (fun _ h => .tail _ h) hp9⟩
    | true => exact ⟨_, _, .head _, PrimIn.mono (fun _ h => .tail _ h) hp9⟩

/-! E3 -/
section
variable {prog : Program} {w : World} {A : Around} {h₀ : Heap} {L : Addr} {m : Str → Option Value} {env : Env} {elt : Expr} {x : Str} {scope : Scope} {cl : List (Str × Addr)} {s : Shared} {S : Led → Prop} {P : Nat → Value → Prop} {Fin : List Value → Led → Prop}
theorem comp_inv (n : Nat) (J : Nat → List Value → Led → Prop) {news : Led} (h0 : J 0 [] news)
    (turn : ∀ i v I oI C oC D m₂ h tk ys news₁ (E' : Value → Shared → Prop), i < n → J i ys news₁ → P i v → LCg.NsObj oC m₂ → m₂ x = some v → Fr h₀ L h m → News h₀ L h ((I, oI) :: (C, oC) :: (D, LCg.lst ys) :: news₁) → LCg.Off3 I C D news₁ → ((@Ne Nat I C) ∧ (@Ne Nat I D) ∧ (@Ne Nat C D)) →
      wpAny (model prog w) A (eval elt (compEnvC scope cl C env)) (LCg.CompEnd h₀ L m { s with heap := h, toks := tk } I oI C oC D (LCg.lst ys) S (fun y news' => J (i + 1) (ys ++ [y]) news')) E' { s with heap := h, toks := tk })
    (fin : ∀ ys news', J n ys news' → Fin ys news') : LCg.CompRest prog w A h₀ L m env elt x scope cl s S P Fin n 0 [] news := by
  have key : ∀ (j i : Nat) (ys : List Value) (news : Led), i + j = n → J i ys news → LCg.CompRest prog w A h₀ L m env elt x scope cl s S P Fin j i ys news := by
    intro j
    induction j with
    | zero =>
      intro i ys news hi hJ
      have e : i = n := by omega
      subst e
      exact LCg.CompRest.zero (fin ys news hJ)
    | succ j ih =>
      intro i ys news hi hJ
      refine LCg.CompRest.succ ?_
      intro v I oI C oC D m₂ h tk E' hv hC hx F N off ne
      refine wpAny_mono (turn i v I oI C oC D m₂ h tk ys news E' (by omega) hJ hv hC hx F N off ne) (fun y s₂ hq => ?_) fun _ _ e => e
      obtain ⟨h', tk', nw, e, F', N', off', hS, hJ'⟩ := hq
      exact ⟨h', tk', nw, e, F', N', off', hS, ih (i + 1) _ nw (by omega) hJ'⟩
  exact key n 0 [] news (by omega) h0
end
theorem con_ofC {w : World} {tP : Program} {tL : List Str} {mean : ExcName → Option Value} {mg mb : Str → Option Value} {D U : Nat} {f : Addr} {news : Led} {vs : List Value} {Post : Value → Led → Prop}
    {name qual : Str} {params : Arguments} {body : List Stmt} {scope : Scope} {dV kV doc pm cdv ct oc : Value} {an od : Option Addr} {osl : Array (Option Value)} (binds : List (Str × Value))
    (ho : (Mine.K w.params).lookup f = some ⟨oc, od, .func (fnOf name qual params body scope dV kV doc pm an cdv ct), osl⟩) (hcd : codeIn (Mine.K w.params) cdv qual = true)
    (hbind : ∀ s, BindsTo s (fnOf name qual params body scope dV kV doc pm an cdv ct) ⟨vs, []⟩ binds)
    (hkind : (binds.all fun y => scope.names.lookup y.1 == some .local || scope.names.lookup y.1 == some .cell) = true)
    (hnd : ((cellsFrom 0 scope.names []).map (·.1)).Nodup)
    (hco : scope.isCoroutine = false) (hgen : scope.isGenerator = false) (hk : scope.kind = .function) (cl : Addr → List (Str × Addr)) (hcl : ∀ L, cellsFrom (L + 1) scope.names [] = cl L)
    (h : ∀ (dp un : Nat) (gd : Option (List Code)) (outer : List Env) (A₀ : Around) (base g : Heap) (L : Addr) (s : Shared) (cells : Led) (Dn : Flow → Shared → Prop), (∀ fl s', Done g L Post s fl s' → Dn fl s') →
      Below A₀ base outer g → Fr g L s.heap (bindL (envOfC qual scope L f cdv).kindOf binds fun _ => none) → (Mine.K w.params).In g → News g L s.heap (cells ++ news) →
      CellsAre (bindC (envOfC qual scope L f cdv).kindOf binds fun _ => none) (cl L) cells →
      Top tP tL mean mg mb g → (∀ p ∈ news, p.1 < L) → dp + D < recursionLimit → un + U < cLine →
      wpAny (model PySem.Challenge.rw_nz0411_01.row.prog w) (ktrTop dp un gd qual scope L f cdv (cl L) outer) (execs body (envX qual scope L f cdv (cl L))) Dn (fun _ _ => False) s) :
    Con w tP tL mean mg mb (D + 1) (U + 4) f news vs Post := by
  intro dp un gd cn cs a ccd cl outer A₀ base h₀ L m s R B F X N T hck hd hu hret
  refine callX_cells B F N T.nolimit rfl rfl hck ((X.keeps F.keep) _ _ ho) rfl (codeRec_of (X.keeps F.keep) hcd) (show dp < recursionLimit by omega) (hbind s) (kindsX hkind) hnd
    (fun g L' h₁ tk cells FG F' N' Y B' st l => ?_) hco hgen hk
  have e := hcl L'
  unfold envOfC
  rw [e] at Y ⊢
  refine wpAny_mono (h (dp + 1) (un + 3) gd _ _ _ g L' { s with heap := h₁, toks := tk } cells _ (fun _ _ h => h) B' F' (X.keeps st) N' Y (T.keeps st) l (by omega) (by omega)) (fun fl s' hd' => ?_) (fun _ _ e => e.elim)
  obtain ⟨h', tk', m', news', rfl, F₂, N₂, hp⟩ := hd'
  exact leaveK_ F₂ N₂ fun F₃ N₃ => hret _ _ _ _ F₃ N₃ hp
theorem RowIn.snoc {im : Led} {rf : Refs} {p : Part} {a : Addr} (hm : NodeIn im rf a (partNode p)) : ∀ {vs : List Value} {r : List Part}, RowIn im rf vs r → RowIn im rf (vs ++ [.ref a]) (r ++ [p])
  | [], _, h => by cases h; exact ⟨p, [], a, rfl, rfl, hm, rfl⟩
  | _ :: _, _, ⟨p', r', a', e1, e2, h1, h⟩ => by subst e1; exact ⟨p', r' ++ [p], a', rfl, e2, h1, RowIn.snoc hm h⟩
inductive RowPost (rf : Refs) (bx : Addr) (imb im : Led) (r : Value) (news' : Led) : Prop where
  | mk (own : _) (bo' : _) (row : _) (ls : _) (k : _) (vs : _) (h1 : news' = (bx, bo') :: (own ++ im)) (h2 : BoxIn imb bo') (h3 : Above own im) (h4 : (∀ p ∈ own, @Ne Nat p.1 bx)) (h5 : r = .ref ls) (h6 : (ls, listOf (vs : List Value).toArray k) ∈ own) (h7 : RowIn own rf vs row) (h8 : row ≠ []) (h9 : row.length ≤ 3) : RowPost rf bx imb im r news'
inductive JRow (rf : Refs) (bx : Addr) (imb im : Led) (i : Nat) (ys : List Value) (news' : Led) : Prop where
  | mk (own : _) (bo' : _) (row : _) (h1 : news' = (bx, bo') :: (own ++ im)) (h2 : BoxIn imb bo') (h3 : Above own im) (h4 : (∀ p ∈ own, @Ne Nat p.1 bx)) (h5 : RowIn own rf ys row) (h6 : row.length = i) : JRow rf bx imb im i ys news'
theorem range_size (n : Nat) : Builtin.Range.rangeSize 0 (n : Int) 1 = ((n : Nat) : Int) := by
  unfold Builtin.Range.rangeSize
  simp
  omega
theorem off1_mem {D : Addr} : ∀ {l : Led}, LCg.Off1 D l → ∀ p ∈ l, @Ne Nat p.1 D
  | [], _, _, h => nomatch h
  | _ :: _, x, p, h => by
    rcases List.mem_cons.mp h with rfl | h
    · exact x.1
    · exact off1_mem x.2 p h
theorem newsRow {h₀ : Heap} {L : Addr} {h : Heap} {a b c d : Addr × Obj} {own im : Led} (N : News h₀ L h (a :: b :: (own ++ c :: d :: im))) : News h₀ L h (b :: ((a :: (own ++ [c, d])) ++ im)) := by
  refine newsSub0 N ?_
  intro p hp
  simp only [List.mem_cons, List.mem_append, List.not_mem_nil, or_false] at hp ⊢
  rcases hp with h | (h | h | h | h) | h <;> simp [h]
theorem off3_mem {I C D : Addr} {l : Led} (h : LCg.Off3 I C D l) {p : Addr × Obj} (hp : p ∈ l) : @Ne Nat p.1 I ∧ @Ne Nat p.1 C ∧ @Ne Nat p.1 D := h.mem p hp
set_option maxRecDepth 100000 in
set_option maxHeartbeats 8000000 in
theorem law_row_con {w : World} {tP tL mean mg mb} (rf : Refs) (imb im : Led) (bx rl : Addr) (bo : Obj) (rk : Nat) (hs : ∀ p ∈ imb, p ∈ im) (hB : BoxIn imb bo) (ho : ∀ p ∈ im, p.1 ≠ bx) (hr : (rl, listOf #[.ref rf.x, .ref rf.y] rk) ∈ im) :
    Con w tP tL mean mg mb 3 12 469 ((bx, bo) :: im) [.ref bx, .ref rl] (RowPost rf bx imb im) := by
  refine' con_ofC [(Str.ofString "box", .ref bx), (Str.ofString "refs", .ref rl)] ?ho ?hcd ?hb ?hkd ?hnd ?hco ?hge ?hk (fun L => [(Str.ofString "refs", L + 1 + 1), (Str.ofString "box", L + 1)]) ?hcl ?_
  case ho => k_is
  case hcd => k_is
  case hb => exact fun _ => BindsTo.of_eq rfl
  case hkd => rfl
  case hnd => decide +kernel
  case hco => rfl
  case hge => rfl
  case hk => rfl
  case hcl => exact fun _ => rfl
  intro dp un gd outer A₀ base g L s cells Dn hD B F X N Y T hlt hd hu
  obtain ⟨o1, o2, rfl, d1, d2⟩ := CellsAre.two Y
  have d3 : o1.data = .cell (some (.ref rl)) := d1
  have d4 : o2.data = .cell (some (.ref bx)) := d2
  have F1 : Fr g L s.heap (fun _ => none) := F
  clear d1 d2 F Y
  have hcL : ∀ p ∈ (bx, bo) :: im, @Ne Nat (L + 1 + 1) p.1 ∧ @Ne Nat (L + 1) p.1 := fun p hp => ⟨Nat.ne_of_gt (Nat.lt_of_lt_of_le (hlt p hp) (Nat.le_add_right L 2)), Nat.ne_of_gt (Nat.lt_of_lt_of_le (hlt p hp) (Nat.le_add_right L 1))⟩
  generalize (L + 1 + 1 : Addr) = c1 at *
  generalize (L + 1 : Addr) = c2 at *
  have N1 : News g L s.heap ((bx, bo) :: (c1, o1) :: (c2, o2) :: im) := newsSub0 N (by walk_at "mysub")
  clear N
  have hcb := hcL (bx, bo) (.head _)
  have ho2 : ∀ p ∈ (c1, o1) :: (c2, o2) :: im, p.1 ≠ bx := (fac hcb.1 (fac hcb.2 ho))
  have hs2 : ∀ p ∈ imb, p ∈ (c1, o1) :: (c2, o2) :: im := fun p hp => .tail _ (.tail _ (hs p hp))
  repeat' (first | (fail_if_success (with_reducible show LCg.CompSrc _ _ _ _ _ _ _ _ _ _ _ _ _ _)); walk1 | ((fail_if_success (with_reducible show LCg.CompSrc _ _ _ _ _ _ _ _ _ _ _ _ _ _)); dsimp only; walk1))
  rename_i bo8 z8 _ B8 hz8 _ _ _ _ _ _ hir F2 N2 _
  refine LCg.CompSrc.range (a := 0) (b := 1 + (z8 : Int)) (n := 1 + z8) (by rfl) F2 N2 hir (small_one (by omega) (by omega) (by omega) (by omega)) (range_size (1 + z8)) (by rw [sizeLine_eq]; omega) ?_
  intro g9
  refine comp_inv (1 + z8) (JRow rf bx imb ((c1, o1) :: (c2, o2) :: im)) ⟨[], bo8, [], rfl, B8, above_nil, (fun _ h => nomatch h), rfl, rfl⟩ ?_ ?_
  · rintro i v I oI C oC D m₂ h tk ys news₁ E' hi ⟨own, bo9, row, rfl, B9, hab, hbx, hrw, hrl⟩ hv hC hx F3 N3 off ne
    clear N1 F1 F2 N2 hir
    have hoI := off3_mem off (p := (bx, bo9)) (.head _)
    have hoff : ∀ p ∈ own ++ (c1, o1) :: (c2, o2) :: im, @Ne Nat p.1 I ∧ @Ne Nat p.1 C ∧ @Ne Nat p.1 D := fun p hp => off3_mem off (.tail _ hp)
    have hm1 : (c1, o1) ∈ own ++ (c1, o1) :: (c2, o2) :: im := subApp _ (.head _)
    have hm2 : (c2, o2) ∈ own ++ (c1, o1) :: (c2, o2) :: im := subApp _ (.tail _ (.head _))
    have N4 : News g L h ((bx, bo9) :: (I, oI) :: (C, oC) :: (D, LCg.lst ys) :: (own ++ (c1, o1) :: (c2, o2) :: im)) := newsSub0 N3 (by walk_at "mysub")
    clear N3
    k_steps
    refine' Con.call ?k1 ?k2 ?k3 ?k4 ?k5 ?k6 (law_part_con rf imb ((I, oI) :: (C, oC) :: (D, LCg.lst ys) :: (own ++ (c1, o1) :: (c2, o2) :: im)) bx rl bo9 rk (fun p hp => .tail _ (.tail _ (.tail _ (subApp _ (hs2 p hp))))) B9 ?ho9 (.tail _ (.tail _ (.tail _ (subApp _ (.tail _ (.tail _ hr))))))) ?kd ?ku ?_
    case k1 => k_asm
    case k2 => k_asm
    case k3 => k_asm
    case k4 => k_asm
    case k5 => k_asm
    case k6 => rfl
    case kd => first | exact dle hd rfl | omega
    case ku => first | exact dle hu rfl | omega
    case ho9 => exact (fac (Ne.symm hoI.1) (fac (Ne.symm hoI.2.1) (fac (Ne.symm hoI.2.2) (fun p hp => (List.mem_append.mp hp).elim (hbx p) (ho2 p)))))
    rintro r5 n5 h5 tk5 F5 N5 ⟨own5, bo5, p5, a5, rfl, B5, hab5, hbx5, rfl, hn5⟩
    (try dsimp only)
    have hab6 : Above (own5 ++ own) ((c1, o1) :: (c2, o2) :: im) := above_app (above_sub hab5 fun _ h => .tail _ (.tail _ (.tail _ (subApp _ h)))) hab
    refine LCg.CompEnd.intro F5 N5 ((bx, bo5) :: ((own5 ++ own) ++ (c1, o1) :: (c2, o2) :: im)) ?_ ?_ True.intro ⟨own5 ++ own, bo5, row ++ [p5], rfl, B5, hab6, fun p hp => (List.mem_append.mp hp).elim (hbx5 p) (hbx p), RowIn.snoc (hn5.mono fun _ h => List.mem_append_left _ h) (hrw.mono subApp), by simp [hrl]⟩
    · rw [List.append_assoc]
      exact (fac (.tail _ (subApp _ (.head _))) (fac (.tail _ (subApp _ (.tail _ (.head _)))) (fac (.tail _ (subApp _ (.tail _ (.tail _ (.head _))))) (fac (.head _) (fun p hp => .tail _ ((List.mem_append.mp hp).elim (List.mem_append_left _) fun h => subApp _ (.tail _ (.tail _ (.tail _ h)))))))))
    · refine LCg.Off3.of ((fac hoI (fun p hp => ?_)))
      rw [List.append_assoc] at hp
      rcases List.mem_append.mp hp with hp | hp
      · exact ⟨hab5 p hp (I, oI) (.head _), hab5 p hp (C, oC) (.tail _ (.head _)), hab5 p hp (D, _) (.tail _ (.tail _ (.head _)))⟩
      · exact hoff p hp
  · rintro ys news₁ ⟨own, bo9, row, rfl, B9, hab, hbx, hrw, hrl⟩
    clear N1 F1 F2 N2 hir
    unfold LCg.FinE
    intro D h9 tk9 F9 N9 o9
    have o8 : ∀ p ∈ (bx, bo9) :: (own ++ (c1, o1) :: (c2, o2) :: im), @Ne Nat p.1 D := off1_mem o9
    refine hD _ _ ?_; refine done_ret F9 (newsRow N9) ⟨(D, LCg.lst ys) :: (own ++ [(c1, o1), (c2, o2)]), bo9, row, D, _, ys, rfl, B9, ?_, ?_, rfl, .head _, hrw.mono (fun _ h => .tail _ (List.mem_append_left _ h)), ?_, by omega⟩
    · refine (fac (fun q hq => Ne.symm (o8 q (.tail _ (subApp _ (.tail _ (.tail _ hq)))))) (above_app (above_sub hab fun _ h => .tail _ (.tail _ h)) ?_))
      exact (fac (fun q hq => (hcL q (.tail _ hq)).1) (fac (fun q hq => (hcL q (.tail _ hq)).2) facNil))
    · have h2 : ∀ p ∈ [(c1, o1), (c2, o2)], @Ne Nat p.1 bx := (fac hcb.1 (fac hcb.2 facNil))
      exact (fac (Ne.symm (o8 (bx, bo9) (.head _))) (fun p hp => (List.mem_append.mp hp).elim (hbx p) (h2 p)))
    · intro e
      rw [e] at hrl
      simp only [List.length_nil] at hrl
      omega

/-! E4 -/
inductive JoinedPost (rf : Refs) (imb im : Led) (row : List Part) (r : Value) (news' : Led) : Prop where
  | mk (own : _) (a : _) (h1 : news' = own ++ im) (h2 : Above own im) (h3 : r = .ref a) (h4 : NodeIn (own ++ imb) rf a (rowNode row)) : JoinedPost rf imb im row r news'
theorem newsDup {h₀ : Heap} {L : Addr} {h : Heap} {x : Addr × Obj} {im : Led} (N : News h₀ L h im) (hm : x ∈ im) : News h₀ L h (x :: im) := (fac (N x hm) N)
theorem pick_tail (v : Value) (vs : List Value) : slicePick (v :: vs).toArray (some 1) none none = vs.toArray := by
  have e : sliceBounds (some 1) none none (v :: vs).toArray.size = (((1 : Nat) : Int), (((v :: vs).toArray.size : Nat) : Int), 1) := by
    simp only [sliceBounds, Option.getD_none, show (1 : Int) > 0 by decide, if_true, if_neg (show ¬ ((1 : Int) < 0) by omega), List.size_toArray, List.length_cons]
    congr 1
    omega
  rw [kmk_pick_nat _ e]
  show ((vs.take ((v :: vs).toArray.size - 1)).toArray) = _
  rw [List.size_toArray, List.length_cons, Nat.add_sub_cancel, List.take_length]
theorem joinNode_snoc (n : Node) (r : List Part) (p : Part) : joinNode n (r ++ [p]) = .cat (joinNode n r) (partNode p) := by simp [joinNode]
inductive JJoin (rf : Refs) (imb im : Led) (p1 : Part) (row : List Part) (ls : Addr) (vs : List Value) (i : Nat) (m' : Str → Option Value) (news' : Led) : Prop where
  | mk (u : Str → Option Value) (a : Addr) (own : Led) (h1 : m' = kstB u [(Str.ofString "node", .ref a)]) (h2 : news' = (ls, listOf vs.toArray 0) :: (own ++ im)) (h3 : Above own im) (h4 : NodeIn (own ++ imb) rf a (joinNode (partNode p1) (row.take i))) : JJoin rf imb im p1 row ls vs i m' news'
set_option maxRecDepth 100000 in
set_option maxHeartbeats 8000000 in
theorem law_joined_con {w : World} {tP tL mean mg mb} (rf : Refs) (imb im : Led) (rl : Addr) (rk : Nat) (vs : List Value) (row : List Part) (hm : (rl, listOf vs.toArray rk) ∈ im) (hr : RowIn imb rf vs row) (h0 : row ≠ []) (h3 : row.length ≤ 3) :
    Con w tP tL mean mg mb 1 4 476 im [.ref rl] (JoinedPost rf imb im row) := by
  have hlen := hr.length
  refine' con_of [(Str.ofString "row", .ref rl)] ?ho ?hcd ?hb ?hl ?hco ?hge ?hk ?hce ?_
  case ho => k_is
  case hcd => k_is
  case hb => exact fun _ => BindsTo.of_eq rfl
  case hl => exact locs rfl
  case hco => rfl
  case hge => rfl
  case hk => rfl
  case hce => decide
  intro dp un gd outer A₀ base g L s Dn hD B F X N T hlt hd hu
  match row, vs, hlen, h0, h3 with
  | p1 :: row', v1 :: vs', hlen, _, h3 =>
    obtain ⟨q1, _, a1, e, rfl, n1, hr'⟩ := hr
    cases e
    simp only [List.length_cons] at hlen h3
    have N1 := newsDup N hm
    clear N
    repeat' (first | (fail_if_success (with_reducible show wpAny _ _ (exec (Stmt.For _ _ _ _ _) _) _ _ _)); walk1 | ((fail_if_success (with_reducible show wpAny _ _ (exec (Stmt.For _ _ _ _ _) _) _ _ _)); dsimp only; walk1))
    refine wpAny_For ?_
    k_steps
    (with_reducible rename News _ _ _ _ => N3)
    (with_reducible rename Fr _ _ _ _ => F3)
    (with_reducible rename News _ _ _ ((rl, _) :: im) => N2)
    have hsl := pick_tail (Value.ref a1) vs'
    rw [hsl] at N3
    have hsz : ∀ q ∈ im, @Ne Nat q.1 (_ + 1) := fun q hq => Nat.ne_of_lt (Nat.lt_succ_of_lt (Heap.lt_size (N2 q (.tail _ hq)).1))
    dsimp only at hsz N3 ⊢
    generalize (Array.size _ + 1 : Nat) = ls at hsz N3 ⊢
    have N4 : News g L _ ((ls, listOf vs'.toArray 0) :: ([] ++ im)) := newsSub0 N3 ((fac (.head _) (fun _ h => .tail _ (.tail _ h))))
    refine list_O (JJoin rf imb im p1 row' ls vs') (by rfl) F3 N4 (.head _) ⟨_, a1, [], kst_self ((fac rfl facNil)), rfl, above_nil, n1⟩ ?_ ?_
    · rintro i v m₁ news₁ h₁ tk it Wa hWa hi ⟨u, a, own, rfl, rfl, hab, hn⟩ hl2 hof F₁ N₁
      dsimp only [kstB] at F₁
      clear N3 N4 N2 F3
      obtain ⟨p2, a2, hd2, rfl, hn2⟩ := hr'.get hi
      have hget : row'[i]? = some p2 := by
        have := congrArg (fun l => l[0]?) hd2
        simpa using this
      k_steps
      (with_reducible rename News _ _ _ _ => N8)
      (with_reducible rename Fr _ _ _ _ => F8)
      rename_i tk9 D9 _ l9 _
      have hD : @Ne Nat D9 it.1 := by k_ne
      refine hWa _ _ ?_; refine endG_next F8 (news' := (ls, listOf vs'.toArray 0) :: (((D9, tup [.str (Str.ofString "cat") tk9, .ref a, .ref a2]) :: own) ++ im)) (newsSub0 N8 (by walk_at "mysub")) ?_ ((fac (.head _) facNil)) ⟨_, D9, (D9, tup [.str (Str.ofString "cat") tk9, .ref a, .ref a2]) :: own, kst_self ((fac rfl facNil)), rfl, above_cons (allLt_app l9.2.2) hab, ?_⟩
      · exact (fac (hof _ (.head _)) (fac hD (fun p hp => hof p (.tail _ hp))))
      · rw [List.take_add_one, hget]
        show NodeIn _ rf D9 (joinNode (partNode p1) (row'.take i ++ [p2]))
        rw [joinNode_snoc]
        exact ⟨a, a2, tk9, .head _, hn.mono fun _ h => .tail _ h, hn2.mono fun _ h => .tail _ (subApp _ h)⟩
    · rintro m₁ news₁ h₁ tk ⟨u, a, own, rfl, rfl, hab, hn⟩ hl2 F₁ N₁
      dsimp only [kstB] at F₁
      clear N3 N4 N2 F3
      rw [hr'.length, List.take_length] at hn
      k_steps
      (try dsimp only)
      refine hD _ _ ?_; exact done_ret (by assumption) N₁ ⟨(ls, _) :: own, a, rfl, (fac (fun q hq => Ne.symm (hsz q hq)) hab), rfl, hn.mono fun _ h => .tail _ h⟩

/-! E5 -/
theorem told_code {w : World} {g : Heap} (X : (Mine.K w.params).In g) : CodeHd g 503 499 := by
  have e : ∃ o, (Mine.K w.params).lookup 503 = some o ∧ o.cls = .type "code" ∧ ∃ vs, o.data = .fields vs ∧ vs[11]? = some (.ref 499) ∧ vs.getD 11 .none = .ref 499 ∧ (∃ file tf, vs.getD 18 .none = .str file tf) ∧
    (∃ flags tg, vs.getD 7 .none = .int flags tg) ∧ (∃ inF, vs.getD 9 .none = .bool inF) ∧ ∃ text tt, vs.getD 10 .none = .int text tt := by
    refine ⟨_, by k_is, rfl, _, rfl, rfl, rfl, ⟨_, _, rfl⟩, ⟨_, _, rfl⟩, ⟨_, rfl⟩, ⟨_, _, rfl⟩⟩
  obtain ⟨o, h1, h2, vs, h3, h4, h5, ⟨file, tf, h6⟩, ⟨flags, tg, h7⟩, ⟨inF, h8⟩, ⟨text, tt, h9⟩⟩ := e
  exact ⟨o, vs, file, tf, flags, tg, inF, text, tt, X _ _ h1, h2, h3, h4, h5, h6, h7, h8, h9, by decide⟩
theorem con_clos {w : World} {tP : Program} {tL : List Str} {mean : ExcName → Option Value} {mg mb : Str → Option Value} {D U : Nat} {f c' : Addr} {oc : Obj} {cvs : Array Value} {t : Tok} {news : Led} {vs : List Value} {Post : Value → Led → Prop}
    {name qual q2 : Str} {params : Arguments} {body : List Stmt} {scope : Scope} {cl : List (Str × Addr)} {doc pm ctv : Value} (binds : List (Str × Value))
    (hf : (f, fnMade name qual params body scope cl doc pm c' ctv) ∈ news) (hc : (c', oc) ∈ news) (hd : oc.data = .fields cvs) (hv : cvs[1]? = some (.str q2 t)) (hq : q2 = qual)
    (hbind : ∀ s, BindsTo s (fnX name qual params body scope cl .none .none doc pm none (.ref c') ctv) ⟨vs, []⟩ binds) (hloc : ∀ y ∈ binds, scope.names.lookup y.1 = some .local)
    (hco : scope.isCoroutine = false) (hgen : scope.isGenerator = false) (hk : scope.kind = .function) (hcell : ∀ x ∈ scope.names, x.2 ≠ .cell)
    (h : Body w tP tL mean mg mb D U qual scope f (.ref c') cl body (fun y => binds.reverse.lookup y) news Post) : Con w tP tL mean mg mb (D + 1) (U + 4) f news vs Post := by
  subst hq
  intro dp un gd cn cs a ccd cl' outer A₀ base h₀ L m s R B F X N T hck hd' hu hret
  refine callX_plain (cl := cl) B F N T.nolimit rfl rfl hck (N _ hf).1 rfl (codeRec_news N hc hd hv) (show dp < recursionLimit by omega) (hbind s) hloc
    (fun g L' h₁ FG F' N' B' st l => ?_) hcell hco hgen hk
  refine wpAny_mono (h (dp + 1) (un + 3) gd _ _ _ g L' { s with heap := h₁, toks := s.toks + binds.length } _ (fun _ _ h => h) B' F' (X.keeps st) N' (T.keeps st) l (by omega) (by omega)) (fun fl s' hd' => ?_) (fun _ _ e => e.elim)
  obtain ⟨h', tk', m', news', rfl, F₂, N₂, hp⟩ := hd'
  exact leaveK_ F₂ N₂ fun F₃ N₃ => hret _ _ _ _ F₃ N₃ hp
theorem newsTold1 {h₀ : Heap} {L : Addr} {h : Heap} {a b p c : Addr × Obj} {im : Led} (N : News h₀ L h (a :: b :: p :: c :: im)) : News h₀ L h (p :: ([a, b, c] ++ im)) := newsSub0 N (by walk_at "mysub")
theorem newsTold2 {h₀ : Heap} {L : Addr} {h : Heap} {a p c : Addr × Obj} {im : Led} (N : News h₀ L h (a :: p :: c :: im)) : News h₀ L h (p :: ([a, c] ++ im)) := newsSub0 N (by walk_at "mysub")
noncomputable abbrev toldQ : Str := Str.ofString "_law_told.<locals>.told"
noncomputable def tabGrown (c' : Addr) : Obj := tabObj #[rawInt 370, rawInt 4, .ref c']
inductive CodeOf (im : Led) (c' : Addr) : Prop where
  | mk (oc : _) (vs : _) (t : _) (h1 : (c', oc) ∈ im) (h2 : oc.data = .fields (vs : Array Value)) (h3 : vs[1]? = some (.str toldQ t)) : CodeOf im c'
theorem words26 : True := by
  k_with "eval Name" => ((k_here; (with_reducible show wpAny _ _ (eval (Expr.Name _ _) (envX _ _ _ _ _ _)) _ _ _); k_dflt (refine' nameX_F ?N ?c ?m ?d ?_ ?a ?b; (case a => rfl); (case b => rfl); (case N => k_asm); (case c => rfl); (case m => k_mem); (case d => assumption); k_whole)))
  trivial

structure FormOk (form : Nat) : Prop where
  le : form ≤ 4
structure ToldPost1 (w : World) (tP : Program) (tL : List Str) (mean : ExcName → Option Value) (mg mb : Str → Option Value) (im : Led) (form : Nat) (r : Value) (news' : Led) : Prop where
  out : ∃ f c' own, news' = (499, tabGrown c') :: (own ++ im) ∧ Above own im ∧ (∀ p ∈ own, @Ne Nat p.1 499) ∧ r = .ref f ∧ CodeOf own c' ∧ ∀ H rf, ToldOk w tP tL mean mg mb H rf own f form
structure ToldPost2 (w : World) (tP : Program) (tL : List Str) (mean : ExcName → Option Value) (mg mb : Str → Option Value) (im : Led) (form : Nat) (c' : Addr) (r : Value) (news' : Led) : Prop where
  out : ∃ f own, news' = (499, tabGrown c') :: (own ++ im) ∧ Above own im ∧ (∀ p ∈ own, @Ne Nat p.1 499) ∧ r = .ref f ∧ ∀ H rf im₀, CodeOf im₀ c' → ToldOk w tP tL mean mg mb H rf (own ++ im₀) f form
set_option maxRecDepth 100000 in
set_option maxHeartbeats 8000000 in
theorem law_told_con1 {w : World} {tP tL mean mg mb} (im : Led) (form : Nat) (tf : Tok) (ho : ∀ p ∈ im, p.1 ≠ 499) (hfm : FormOk form) :
    Con w tP tL mean mg mb 3 12 504 ((499, tabObj #[]) :: im) [.int (form : Nat) tf] (ToldPost1 w tP tL mean mg mb im form) := by
  refine' con_ofC [(Str.ofString "form", .int (form : Nat) tf)] ?ho ?hcd ?hb ?hkd ?hnd ?hco ?hge ?hk (fun L => [(Str.ofString "form", L + 1)]) ?hcl ?_
  case ho => k_is
  case hcd => k_is
  case hb => exact fun _ => BindsTo.of_eq rfl
  case hkd => rfl
  case hnd => decide +kernel
  case hco => rfl
  case hge => rfl
  case hk => rfl
  case hcl => exact fun _ => rfl
  intro dp un gd outer A₀ base g L s cells Dn hD B F X N Y T hlt hd hu
  obtain ⟨o1, rfl, d1⟩ := CellsAre.one Y
  have d3 : o1.data = .cell (some (.int (form : Nat) tf)) := d1
  have F1 : Fr g L s.heap (fun _ => none) := F
  clear d1 F Y
  have C := told_code X
  have hcL : ∀ p ∈ (499, tabObj #[]) :: im, @Ne Nat (L + 1) p.1 := fun p hp => Nat.ne_of_gt (Nat.lt_of_lt_of_le (hlt p hp) (Nat.le_add_right L 1))
  generalize (L + 1 : Addr) = c1 at *
  have hc9 : @Ne Nat c1 499 := hcL _ (.head _)
  have N1 : News g L s.heap ((499, tabObj #[]) :: (c1, o1) :: im) := newsSub0 N (by walk_at "mysub")
  clear N
  k_steps
  dsimp only
  (with_reducible rename News _ _ _ _ => N9)
  rename_i f9 c9 oc9 vs9 t9 _ _ _ _ dd1 dd2 l1 l2 _ _
  have hcm : ∀ q ∈ im, @Ne Nat c9 q.1 := fun q hq => Ne.symm (allLt_ne im l1.2.2 q hq)
  have hfm2 : ∀ q ∈ im, @Ne Nat f9 q.1 := fun q hq => Nat.ne_of_gt (Nat.lt_trans (allLt_lt im l1.2.2 q hq) l2)
  refine hD _ _ ?_; refine done_ret (by assumption) (newsTold1 N9) ⟨f9, c9, _, rfl, ?_, ?_, rfl, ⟨oc9, vs9, t9, .tail _ (.head _), dd1, dd2⟩, ?_⟩
  · exact (fac hfm2 (fac hcm (fac (fun q hq => hcL q (.tail _ hq)) facNil)))
  · exact (fac (by show @Ne Nat f9 499; omega) (fac (by show @Ne Nat c9 499; omega) (fac hc9 facNil)))
  · intro H rf
    refine ⟨⟨_, _, _, _, .head _⟩, fun c2 im2 hsub hH hV => ?_⟩
    have m1 := hsub _ (List.Mem.head _)
    have m2 := hsub _ (.tail _ (List.Mem.head _))
    have m3 : (c1, o1) ∈ im2 := hsub _ (.tail _ (.tail _ (.head _)))
    refine' Con.mono (con_clos [(Str.ofString "host", .ref H.x)] (.tail _ (.tail _ (.tail _ m1))) (.tail _ (.tail _ (.tail _ m2))) dd1 dd2 rfl ?hb ?hl ?hco ?hge ?hk ?hce ?_) (by decide : 1 ≤ 3) (by decide : 4 ≤ 12) (fun _ _ h => h)
    case hb => exact fun _ => BindsTo.of_eq rfl
    case hl => exact locs rfl
    case hco => rfl
    case hge => rfl
    case hk => rfl
    case hce => decide
    clear N9 B X T C hlt hd hu
    intro dp un gd outer A₀ base g L s Dn hD B F X N T hlt hd hu
    obtain ⟨q1, q2, q3, e1, e2, e3, r1, r2, r3, sm⟩ := hH
    dsimp only [hostL, hostD] at N
    repeat' (first | (fail_if_success (with_reducible show wpAny _ _ (subscriptTail _ _ (.ref _) (.int _ _)) _ _ _)); walk1 | ((fail_if_success (with_reducible show wpAny _ _ (subscriptTail _ _ (.ref _) (.int _ _)) _ _ _)); dsimp only; walk1))
    refine item_told (by k_asm) (by k_mem) hfm.le ?_
    intro v9 hT9
    k_steps
    (try dsimp only)
    (with_reducible rename News _ _ _ _ => N8)
    refine hD _ _ ?_; exact done_ret (by assumption) (newsTail N8) ⟨rfl, hT9⟩
set_option maxRecDepth 100000 in
set_option maxHeartbeats 8000000 in
theorem law_told_con2 {w : World} {tP tL mean mg mb} (im : Led) (form : Nat) (tf : Tok) (c' : Addr) (ho : ∀ p ∈ im, p.1 ≠ 499) (hfm : FormOk form) (hcode : CodeOf im c') :
    Con w tP tL mean mg mb 3 12 504 ((499, tabGrown c') :: im) [.int (form : Nat) tf] (ToldPost2 w tP tL mean mg mb im form c') := by
  unfold tabGrown
  refine' con_ofC [(Str.ofString "form", .int (form : Nat) tf)] ?ho ?hcd ?hb ?hkd ?hnd ?hco ?hge ?hk (fun L => [(Str.ofString "form", L + 1)]) ?hcl ?_
  case ho => k_is
  case hcd => k_is
  case hb => exact fun _ => BindsTo.of_eq rfl
  case hkd => rfl
  case hnd => decide +kernel
  case hco => rfl
  case hge => rfl
  case hk => rfl
  case hcl => exact fun _ => rfl
  intro dp un gd outer A₀ base g L s cells Dn hD B F X N Y T hlt hd hu
  obtain ⟨o1, rfl, d1⟩ := CellsAre.one Y
  have d3 : o1.data = .cell (some (.int (form : Nat) tf)) := d1
  have F1 : Fr g L s.heap (fun _ => none) := F
  clear d1 F Y
  have C := told_code X
  have hcL : ∀ p ∈ (499, tabObj #[rawInt 370, rawInt 4, .ref c']) :: im, @Ne Nat (L + 1) p.1 := fun p hp => Nat.ne_of_gt (Nat.lt_of_lt_of_le (hlt p hp) (Nat.le_add_right L 1))
  generalize (L + 1 : Addr) = c1 at *
  have hc9 : @Ne Nat c1 499 := hcL _ (.head _)
  have N1 : News g L s.heap ((499, tabObj #[rawInt 370, rawInt 4, .ref c']) :: (c1, o1) :: im) := newsSub0 N (by walk_at "mysub")
  clear N
  k_steps
  dsimp only
  (with_reducible rename News _ _ _ _ => N9)
  rename_i f9 _ _ _ _ l1 _ _
  have hfm2 : ∀ q ∈ im, @Ne Nat f9 q.1 := fun q hq => Ne.symm (allLt_ne im l1.2.2 q hq)
  refine hD _ _ ?_; refine done_ret (by assumption) (newsTold2 N9) ⟨f9, _, rfl, ?_, ?_, rfl, ?_⟩
  · exact (fac hfm2 (fac (fun q hq => hcL q (.tail _ hq)) facNil))
  · exact (fac (by show @Ne Nat f9 499; omega) (fac hc9 facNil))
  · intro H rf im₀ hcode0
    obtain ⟨oc9, vs9, t9, hcm9, dd1, dd2⟩ := hcode0
    refine ⟨⟨_, _, _, _, .head _⟩, fun c2 im2 hsub hH hV => ?_⟩
    have m1 := hsub _ (List.mem_append_left im₀ (List.Mem.head _))
    have m2 := hsub _ (List.mem_append_right _ hcm9)
    have m3 : (c1, o1) ∈ im2 := hsub _ (List.mem_append_left im₀ (.tail _ (.head _)))
    refine' Con.mono (con_clos [(Str.ofString "host", .ref H.x)] (.tail _ (.tail _ (.tail _ m1))) (.tail _ (.tail _ (.tail _ m2))) dd1 dd2 rfl ?hb ?hl ?hco ?hge ?hk ?hce ?_) (by decide : 1 ≤ 3) (by decide : 4 ≤ 12) (fun _ _ h => h)
    case hb => exact fun _ => BindsTo.of_eq rfl
    case hl => exact locs rfl
    case hco => rfl
    case hge => rfl
    case hk => rfl
    case hce => decide
    clear N9 B X T C hlt hd hu
    intro dp un gd outer A₀ base g L s Dn hD B F X N T hlt hd hu
    obtain ⟨q1, q2, q3, e1, e2, e3, r1, r2, r3, sm⟩ := hH
    dsimp only [hostL, hostD] at N
    repeat' (first | (fail_if_success (with_reducible show wpAny _ _ (subscriptTail _ _ (.ref _) (.int _ _)) _ _ _)); walk1 | ((fail_if_success (with_reducible show wpAny _ _ (subscriptTail _ _ (.ref _) (.int _ _)) _ _ _)); dsimp only; walk1))
    refine item_told (by k_asm) (by k_mem) hfm.le ?_
    intro v9 hT9
    k_steps
    (try dsimp only)
    (with_reducible rename News _ _ _ _ => N8)
    refine hD _ _ ?_; exact done_ret (by assumption) (newsTail N8) ⟨rfl, hT9⟩

/-! E6 -/
inductive BoxPost (im : Led) (r : Value) (news' : Led) : Prop where
  | mk (own : _) (bx : _) (bo : _) (h1 : news' = (bx, bo) :: (own ++ im)) (h2 : BoxIn own bo) (h3 : Above own im) (h4 : (∀ p ∈ own, @Ne Nat p.1 bx)) (h5 : (∀ p ∈ im, @Ne Nat p.1 bx)) (h6 : r = .ref bx) : BoxPost im r news'
noncomputable def JGiven (news : Led) (i : Nat) (ys : List Value) (news' : Led) : Prop := news' = news ∧ ys.length = i ∧ ∀ v ∈ ys, ∃ z t, v = Value.int z t
theorem ints_of : ∀ ys : List Value, (∀ v ∈ ys, ∃ z t, v = Value.int z t) → ∃ zs, IntsAre ys zs
  | [], _ => ⟨[], .nil⟩
  | y :: r, h => by
    obtain ⟨z, t, rfl⟩ := h y (.head _)
    obtain ⟨zs, hz⟩ := ints_of r fun v hv => h v (.tail _ hv)
    exact ⟨z :: zs, .cons z t hz⟩
theorem sum_rng : ∀ zs : List Int, (∀ z ∈ zs, 0 ≤ z ∧ z < 9973) → 0 ≤ zs.sum ∧ zs.sum ≤ 9973 * (zs.length : Int)
  | [], _ => by simp
  | z :: r, h => by
    have h1 := h z (.head _)
    have h2 := sum_rng r fun v hv => h v (.tail _ hv)
    simp only [List.sum_cons, List.length_cons]
    omega
theorem newsBox {h₀ : Heap} {L : Addr} {h : Heap} {a b c d e : Addr × Obj} {im : Led} (N : News h₀ L h (a :: b :: c :: d :: e :: im)) : News h₀ L h (a :: ([c] ++ im)) := newsSub0 N (by walk_at "mysub")
noncomputable def JSeed (news : Led) (i : Nat) (ys : List Value) (news' : Led) : Prop := news' = news ∧ ∃ zs, IntsAre ys zs ∧ zs.length = i ∧ ∀ z ∈ zs, 0 ≤ z ∧ z < 9973
set_option maxRecDepth 100000 in
set_option maxHeartbeats 8000000 in
theorem law_box_con {w : World} {tP tL mean mg mb} (im : Led) (sl : Addr) (vs : List Value) (ns : List Int) (k : Nat) (hm : (sl, listOf vs.toArray k) ∈ im) (hi : IntsAre vs ns) (hl : ns.length ≤ 63) :
    Con w tP tL mean mg mb 3 12 450 im [.ref sl] (BoxPost im) := by
  refine' con_of [(Str.ofString "script", .ref sl)] ?ho ?hcd ?hb ?hl ?hco ?hge ?hk ?hce ?_
  case ho => k_is
  case hcd => k_is
  case hb => exact fun _ => BindsTo.of_eq rfl
  case hl => exact locs rfl
  case hco => rfl
  case hge => rfl
  case hk => rfl
  case hce => decide
  intro dp un gd outer A₀ base g L s Dn hD B F X N T hlt hd hu
  have N1 := newsDup N hm
  clear N
  refine wpAny_execs_cons ?_
  k_dflt (refine LCg.Assign_ListComp_U (F₀ := F) (by rfl) (by with_unfolding_all rfl) (by rfl) (by decide) (by rfl) (by decide) (by rfl) (by rfl) (by rfl) ?_)
  repeat' (first | (fail_if_success (with_reducible show LCg.CompSrc _ _ _ _ _ _ _ _ _ _ _ _ _ _)); walk1 | ((fail_if_success (with_reducible show LCg.CompSrc _ _ _ _ _ _ _ _ _ _ _ _ _ _)); dsimp only; walk1))
  (with_reducible rename News _ _ _ _ => N2)
  (with_reducible rename Fr _ _ _ _ => F2)
  rename_i D2 ws _ hI hC hL l2
  have hwl : ws.length ≤ 24 := by rw [hI.length]; omega
  refine LCg.CompSrc.ledger (its := ws.toArray) (by rfl) F2 N2 (.head _) (by rw [sizeLine_eq, List.size_toArray]; omega) ?_
  intro g9
  refine comp_inv _ (JGiven ((D2, listOf ws.toArray 0) :: (sl, listOf vs.toArray k) :: im)) ⟨rfl, rfl, fun _ h => nomatch h⟩ ?_ ?_
  · rintro i v I oI C oC D m₂ h tk ys news₁ E' hi2 ⟨rfl, hyl, hys⟩ hv hC2 hx F3 N3 off ne
    obtain ⟨z, t, hz, rfl⟩ : ∃ z t, True ∧ v = Value.int z t := by
      obtain ⟨z, t, e, _⟩ := IntsAre.at hI i v (by simpa using hv)
      exact ⟨z, t, trivial, e⟩
    k_steps
    refine LCg.CompEnd.intro F3 N3 _ (fun _ h => h) off (.inr ⟨_, .head _, rfl, _, rfl⟩) ⟨rfl, by simp [hyl], ?_⟩
    intro v hv
    rcases List.mem_append.mp hv with hv | hv
    · exact hys v hv
    · rw [List.mem_singleton.mp hv]; exact ⟨_, _, rfl⟩
  · rintro ys news₁ ⟨rfl, hyl, hys⟩
    (try clear N2); (try clear F2); (try clear F); (try clear N1)
    unfold LCg.FinA
    intro D h9 tk9 F9 N9 o9
    dsimp only
    obtain ⟨zs, hzs⟩ := ints_of ys hys
    repeat' (first | (fail_if_success (with_reducible show wpAny _ _ (eval (Expr.ListComp _ _ _ _) _) _ _ _)); walk1 | ((fail_if_success (with_reducible show wpAny _ _ (eval (Expr.ListComp _ _ _ _) _) _ _ _)); dsimp only; walk1))
    k_dflt (refine LCg.ListComp_U (F₀ := F9) (by with_unfolding_all rfl) (by decide) (by rfl) (by decide) (by rfl) ?_)
    repeat' (first | (fail_if_success (with_reducible show LCg.CompSrc _ _ _ _ _ _ _ _ _ _ _ _ _ _)); walk1 | ((fail_if_success (with_reducible show LCg.CompSrc _ _ _ _ _ _ _ _ _ _ _ _ _ _)); dsimp only; walk1))
    have hyl2 : ys.length ≤ 24 := by rw [hyl, List.size_toArray]; exact hwl
    refine LCg.CompSrc.ledger (its := ys.toArray) (by rfl) F9 N9 (.head _) (by rw [sizeLine_eq, List.size_toArray]; omega) ?_
    intro g8
    refine comp_inv _ (JSeed ((D, LCg.lst ys) :: (D2, listOf ws.toArray 0) :: (sl, listOf vs.toArray k) :: im)) ⟨rfl, [], .nil, rfl, fun _ h => nomatch h⟩ ?_ ?_
    · rintro i v I oI C oC D5 m₂ h tk ys5 news₁ E' hi2 ⟨rfl, zs5, hz5, hl5, hb5⟩ hv hC2 hx F3 N3 off ne
      obtain ⟨z, t, hz, rfl⟩ : ∃ z t, True ∧ v = Value.int z t := by
        obtain ⟨z, t, e, _⟩ := IntsAre.at hzs i v (by simpa using hv)
        exact ⟨z, t, trivial, e⟩
      k_steps
      have hf := fmod_rng z (m := 9973) (by decide)
      refine LCg.CompEnd.intro F3 N3 _ (fun _ h => h) off (.inr ⟨_, .head _, rfl, _, rfl⟩) ⟨rfl, zs5 ++ [z.fmod 9973], hz5.append (.cons _ _ .nil), by simp [hl5], ?_⟩
      intro v hv
      rcases List.mem_append.mp hv with hv | hv
      · exact hb5 v hv
      · rw [List.mem_singleton.mp hv]; exact hf
    · rintro ys5 news₁ ⟨rfl, zs5, hz5, hl5, hb5⟩
      unfold LCg.FinE
      intro D5 h5 tk5 F5 N5 o5
      dsimp only
      have hlen5 := hz5.length
      rw [List.size_toArray] at hl5
      have hsum := sum_rng zs5 hb5
      k_steps
      (with_reducible rename News _ _ _ _ => N6)
      rename_i t6 l6 _ _ q6
      refine hD _ _ ?_; refine done_ret (by assumption) (newsBox N6) ⟨[(D, LCg.lst ys)], l6, _, rfl, ⟨D, ys, ys.length, 0, 17 + zs5.sum, 0, tk9, _, rfl, .head _, hys, by omega, by omega, hyl2, by omega, by omega⟩, ?_, ?_, ?_, rfl⟩
      · exact (fac (fun q hq => Ne.symm (off1_mem o9 q (.tail _ (.tail _ hq)))) facNil)
      · exact (fac (Nat.ne_of_lt q6.2.1) facNil)
      · exact allLt_ne im q6.2.2.2.2

/-! F2 -/
noncomputable def LawEnd (g : Heap) (L : Addr) (s₀ : Shared) (fl : Flow) (s' : Shared) : Prop :=
  ∃ h' tk' m' news' u, fl = .ret (.bool true) ∧ s' = { s₀ with heap := h', toks := tk' } ∧ Fr g L h' m' ∧ News g L h' news' ∧ (499, tabObj u) ∈ news'
/-- the law's body stands there -/
noncomputable def BodyIs (w : World) (body : List Stmt) (scope : Scope) : Prop :=
  ∃ (name qual : Str) (params : Arguments) (dV kV doc pm cdv ct oc : Value) (an od : Option Addr) (osl : Array (Option Value)), (Mine.K w.params).lookup 509 = some ⟨oc, od, .func (fnOf name qual params body scope dV kV doc pm an cdv ct), osl⟩
/-- what a state of the law's frame asks: the two cells' addresses, the frame, the ledger -/
noncomputable abbrev LawP := Heap → Addr → Addr → Addr → (Str → Option Value) → Led → Prop
noncomputable def Tail (w : World) (n : Nat) (P : LawP) (body : List Stmt) (scope : Scope) : Prop :=
  ∀ (tP : Program) (tL : List Str) (mean : ExcName → Option Value) (mg mb : Str → Option Value) (dp un : Nat) (gd : Option (List Code)) (outer : List Env) (A₀ : Around) (base g : Heap) (L f : Addr) (cdv : Value) (s : Shared) (c1 c2 : Addr) (m : Str → Option Value) (news : Led),
    Below A₀ base outer g → Fr g L s.heap m → (Mine.K w.params).In g → News g L s.heap news → Top tP tL mean mg mb g → P g L c1 c2 m news → dp + 20 < recursionLimit → un + 100 < cLine →
    wpAny (model PySem.Challenge.rw_nz0411_01.row.prog w) (ktrTop dp un gd (Str.ofString "law") scope L f cdv [(Str.ofString "refs", c1), (Str.ofString "box", c2)] outer)
      (execs (body.drop n) (envX (Str.ofString "law") scope L f cdv [(Str.ofString "refs", c1), (Str.ofString "box", c2)])) (LawEnd g L s) (fun _ _ => False) s
noncomputable def TailAt (w : World) (n : Nat) (P : LawP) : Prop := ∀ body scope, BodyIs w body scope → Tail w n P body scope
theorem tail_pack {w : World} {n : Nat} {P : LawP} {name qual : Str} {params : Arguments} {body : List Stmt} {scope : Scope} {dV kV doc pm cdv ct oc : Value} {an od : Option Addr} {osl : Array (Option Value)}
    (ho : (Mine.K w.params).lookup 509 = some ⟨oc, od, .func (fnOf name qual params body scope dV kV doc pm an cdv ct), osl⟩) (h2 : BodyIs w body scope → Tail w n P body scope) : TailAt w n P := by
  rintro body' scope' ⟨name', qual', params', dV', kV', doc', pm', cdv', ct', oc', an', od', osl', h1⟩
  have hB : BodyIs w body scope := ⟨_, _, _, _, _, _, _, _, _, _, _, _, _, ho⟩
  rw [ho] at h1
  have h3 := Option.some.inj h1
  cases h3
  exact h2 hB
/-- the script's list stands ahead -/
inductive P0 (g : Heap) (L c1 c2 : Addr) (m : Str → Option Value) (news : Led) : Prop where
  | mk (o1 o2 : Obj) (la : Addr) (vs : List Value) (ns : List Int) (h1 : m = (fun y => if y = Str.ofString "script" then some (.ref la) else none)) (h2 : news = [(c1, o1), (c2, o2), (499, tabObj #[])]) (h3 : o1.data = .cell none) (h4 : o2.data = .cell none) (h5 : g.IsList la vs.toArray) (h6 : IntsAre vs ns) (h7 : ns.length ≤ 63) (h8 : @LT.lt Nat _ 499 c2) (h9 : @LT.lt Nat _ 499 c1) (h10 : @LT.lt Nat _ c2 c1) : P0 g L c1 c2 m news
noncomputable abbrev baseL (c1 c2 bx : Addr) (o1 o2 tab bo : Obj) (im : Led) : Led := (c1, o1) :: (c2, o2) :: (499, tab) :: (bx, bo) :: im
structure St (w : World) (c1 c2 bx rl : Addr) (rf : Refs) (rk : Nat) (o1 o2 bo : Obj) (im : Led) : Prop where
  d1 : o1.data = .cell (some (.ref rl))
  d2 : o2.data = .cell (some (.ref bx))
  box : BoxIn im bo
  hrl : (rl, listOf #[.ref rf.x, .ref rf.y] rk) ∈ im
  refs : ∀ k, RefIn w.params im (rf.at k) k
  ap : ∀ p ∈ im, @Ne Nat p.1 c1 ∧ @Ne Nat p.1 c2 ∧ @Ne Nat p.1 499 ∧ @Ne Nat p.1 bx
  n1 : @Ne Nat c1 c2
  n2 : @Ne Nat c1 499
  n3 : @Ne Nat c2 499
  n4 : @Ne Nat bx c1
  n5 : @Ne Nat bx c2
  n6 : @Ne Nat bx 499
theorem newsRefs {h₀ : Heap} {L : Addr} {h : Heap} {a1 a2 a3 a4 a5 b1 b2 b3 b4 : Addr × Obj} {im : Led} (N : News h₀ L h (a1 :: a2 :: a3 :: a4 :: a5 :: b1 :: b2 :: b3 :: b4 :: im)) : News h₀ L h (b1 :: b2 :: b3 :: b4 :: ([a1, a2, a3, a4, a5] ++ im)) := newsSub0 N (by walk_at "mysub")
inductive P2 (w : World) (g₀ : Heap) (L₀ c1 c2 : Addr) (m₀ : Str → Option Value) (news : Led) : Prop where
  | mk (bx : _) (rl : _) (rf : _) (rk : _) (o1 : _) (o2 : _) (bo : _) (im : _) (h1 : news = baseL c1 c2 bx o1 o2 (tabObj #[]) bo im) (h2 : St w c1 c2 bx rl rf rk o1 o2 bo im) : P2 w g₀ L₀ c1 c2 m₀ news
theorem P2.make {w : World} {g : Heap} {L c1 c2 bx rl x y : Addr} {m : Str → Option Value} {rk : Nat} {o1 o2 bo : Obj} {a2 a3 a4 a5 : Addr × Obj} {own : Led}
    (h : St w c1 c2 bx rl ⟨x, y⟩ rk o1 o2 bo ([(rl, listOf #[.ref x, .ref y] rk), a2, a3, a4, a5] ++ own)) : P2 w g L c1 c2 m (baseL c1 c2 bx o1 o2 (tabObj #[]) bo ([(rl, listOf #[.ref x, .ref y] rk), a2, a3, a4, a5] ++ own)) := ⟨_, _, _, _, _, _, _, _, rfl, h⟩
local macro_rules | `(tactic| k_room) => `(tactic| ((try simp only [depth_under_make, depth_under_kw, depth_in1, depth_deeper, depth_caller]); (try dsimp only [ktrTop]); omega))
set_option maxRecDepth 100000 in
set_option maxHeartbeats 8000000 in
theorem tail0 (w : World) (hn : TailAt w 2 (P2 w)) : TailAt w 0 P0 := by
  refine' tail_pack ?h1 ?h2
  case h1 => k_is
  case h2 =>
    intro hB tP tL mean mg mb dp un gd outer A₀ base g L f cdv s c1 c2 m news B F X N T hP hd hu
    obtain ⟨o1, o2, la, vs, ns, rfl, rfl, d1, d2, hla, hI, hlen, h499, h499', h12⟩ := hP
    have hnx := @hn _ _ hB
    clear hB
    dsimp only [List.drop]
    repeat' (first | (fail_if_success (with_reducible show wpAny _ _ (call (Value.ref 450) _) _ _ _)); walk1 | ((fail_if_success (with_reducible show wpAny _ _ (call (Value.ref 450) _) _ _ _)); dsimp only; walk1))
    (with_reducible rename News _ _ _ _ => N1)
    rename_i D1 k1 _ _ l1
    refine' Con.call ?k1 ?k2 ?k3 ?k4 ?k5 ?k6 (law_box_con [(D1, listOf vs.toArray k1), (c1, o1), (c2, o2), (499, tabObj #[])] D1 vs ns k1 (.head _) hI hlen) ?kd ?ku ?_
    case k1 => k_asm
    case k2 => k_asm
    case k3 => k_asm
    case k4 => k_asm
    case k5 => k_asm
    case k6 => rfl
    case kd => first | exact dle hd rfl | omega
    case ku => first | exact dle hu rfl | omega
    rintro r1 n1 h1 tk1 F1 N2 ⟨own1, bx, bo, rfl, hB1, hab1, hbx1, him1, rfl⟩
    (try dsimp only)
    have hb := List.forall_mem_cons.mp him1
    have hb2 := List.forall_mem_cons.mp hb.2
    have hb3 := List.forall_mem_cons.mp hb2.2
    have hb4 := List.forall_mem_cons.mp hb3.2
    have q1 : @Ne Nat c1 bx := hb2.1
    have q2 : @Ne Nat c2 bx := hb3.1
    have q3 : @Ne Nat 499 bx := hb4.1
    have q4 : ∀ p ∈ own1, @Ne Nat p.1 c1 := fun p hp => hab1 p hp (c1, o1) (.tail _ (.head _))
    have q5 : ∀ p ∈ own1, @Ne Nat p.1 c2 := fun p hp => hab1 p hp (c2, o2) (.tail _ (.tail _ (.head _)))
    have q6 : ∀ p ∈ own1, @Ne Nat p.1 499 := fun p hp => hab1 p hp (499, tabObj #[]) (.tail _ (.tail _ (.tail _ (.head _))))
    have N3 : News g L h1 ((c1, o1) :: (c2, o2) :: (499, tabObj #[]) :: (bx, bo) :: own1) := newsSub0 N2 (by walk_at "mysub")
    clear N1 N2 hb hb2 hb3 hb4 him1 hab1
    repeat' (first | (fail_if_success (with_reducible show wpAny _ _ (execs (Stmt.Assign [Expr.Tuple _ _ _] _ _ :: _) _) _ _ _)); walk1 | ((fail_if_success (with_reducible show wpAny _ _ (execs (Stmt.Assign [Expr.Tuple _ _ _] _ _ :: _) _) _ _ _)); dsimp only; walk1))
    (with_reducible rename News _ _ _ _ => N9)
    (with_reducible rename Fr _ _ _ _ => F9)
    have N10 := newsRefs N9
    refine @hnx tP tL mean mg mb dp un gd outer A₀ base g L f cdv _ c1 c2 _ _ B F9 X N10 T (P2.make ⟨by assumption, by assumption, hB1.mono subApp, .head _, ?_, ?_, by k_ne, by k_ne, by k_ne, Ne.symm q1, Ne.symm q2, Ne.symm q3⟩) hd hu
    · intro k
      cases k with
      | false => exact ⟨_, _, _, _, _, _, .tail _ (.tail _ (.tail _ (.head _))), .tail _ (.tail _ (.tail _ (.tail _ (.head _))))⟩
      | true => exact ⟨_, _, _, _, _, _, .tail _ (.head _), .tail _ (.tail _ (.head _))⟩
    · refine (fac ⟨by k_ne, by k_ne, by k_ne, by k_ne⟩ (fac ⟨by k_ne, by k_ne, by k_ne, by k_ne⟩ (fac ⟨by k_ne, by k_ne, by k_ne, by k_ne⟩ (fac ⟨by k_ne, by k_ne, by k_ne, by k_ne⟩ (fac ⟨by k_ne, by k_ne, by k_ne, by k_ne⟩ (fun p hp => ⟨q4 p hp, q5 p hp, q6 p hp, hbx1 p hp⟩))))))

/-! F4 -/
theorem item_five {prog : Program} {w : World} {A : Around} {E : Value → Shared → Prop} {s : Shared} {h₀ : Heap} {L l : Addr} {news : Led} {t1 t2 t3 t4 t5 : Tok} {n : Nat} {k : Int} {u : Tok} {value slice : Expr} {Q : Value → Shared → Prop}
    (N : News h₀ L s.heap news) (hm : (l, listOf #[.int 2 t1, .int 3 t2, .int 0 t3, .int 1 t4, .int 4 t5] n) ∈ news) (h0 : 0 ≤ k) (h1 : k < 5) (h : ∀ (form : Nat) t, form ≤ 4 → Q (.int (form : Nat) t) s)
    (hs : subscripted slice false (.ref l) (.int k u) = operate [.ref l, .int k u] (getItem (.ref l) (.int k u)) := by with_unfolding_all rfl) :
    wpAny (model prog w) A (subscriptTail value slice (.ref l) (.int k u)) Q E s :=
  item_any (its := [.int 2 t1, .int 3 t2, .int 0 t3, .int 1 t4, .int 4 t5]) N hm h0 h1 (by simp) (fun v hv => by
    rcases List.mem_cons.mp hv with rfl | hv
    · exact h 2 t1 (by decide)
    rcases List.mem_cons.mp hv with rfl | hv
    · exact h 3 t2 (by decide)
    rcases List.mem_cons.mp hv with rfl | hv
    · exact h 0 t3 (by decide)
    rcases List.mem_cons.mp hv with rfl | hv
    · exact h 1 t4 (by decide)
    · rw [List.mem_singleton.mp hv]; exact h 4 t5 (by decide)) hs
theorem words27 : True := by
  k_with "subscriptTail" => ((k_here; (with_reducible show wpAny _ _ (subscriptTail _ (Expr.Call _ _ _ _) (Value.ref _) (Value.int _ _)) _ _ _); k_dflt (refine' item_five ?k1 ?k2 ?k4 ?k5 ?_; (case k1 => k_asm); (case k2 => k_mem); (case k4 => omega); (case k5 => omega); k_whole); intro _ _ _; (try dsimp only)))
  trivial

theorem newsSwap {h₀ : Heap} {L : Addr} {h : Heap} {a b : Addr × Obj} {im : Led} (N : News h₀ L h (a :: b :: im)) : News h₀ L h (b :: a :: im) := newsSub0 N (by walk_at "mysub")
theorem newsForm {h₀ : Heap} {L : Addr} {h : Heap} {t b a c1 c2 p : Addr × Obj} {im : Led} (N : News h₀ L h (t :: b :: a :: c1 :: c2 :: p :: im)) : News h₀ L h (c1 :: c2 :: p :: b :: im) := newsSub0 N (by walk_at "mysub")
inductive P3 (w : World) (g₀ : Heap) (L₀ c1 c2 : Addr) (m : Str → Option Value) (news : Led) : Prop where
  | mk (u : Str → Option Value) (anch : Bool) (form : Nat) (tf : Tok) (bx rl : Addr) (rf : Refs) (rk : Nat) (o1 o2 bo : Obj) (im : Led) (h1 : m = kstB u [(Str.ofString "is_anchored", .bool anch), (Str.ofString "form", .int (form : Nat) tf)]) (h2 : FormOk form) (h3 : news = baseL c1 c2 bx o1 o2 (tabObj #[]) bo im) (h4 : St w c1 c2 bx rl rf rk o1 o2 bo im) : P3 w g₀ L₀ c1 c2 m news
theorem St.boxed {w : World} {c1 c2 bx rl : Addr} {rf : Refs} {rk : Nat} {o1 o2 bo bo' : Obj} {im : Led} (h : St w c1 c2 bx rl rf rk o1 o2 bo im) (hb : BoxIn im bo') : St w c1 c2 bx rl rf rk o1 o2 bo' im := { h with box := hb }
theorem St.offBox {w : World} {c1 c2 bx rl : Addr} {rf : Refs} {rk : Nat} {o1 o2 bo tab : Obj} {im : Led} (h : St w c1 c2 bx rl rf rk o1 o2 bo im) : ∀ p ∈ (c1, o1) :: (c2, o2) :: (499, tab) :: im, p.1 ≠ bx :=
  (fac (Ne.symm h.n4) (fac (Ne.symm h.n5) (fac (Ne.symm h.n6) (fun p hp => (h.ap p hp).2.2.2))))
theorem sub4 {a b c : Addr × Obj} {im : Led} : ∀ p ∈ im, p ∈ a :: b :: c :: im := fun _ h => .tail _ (.tail _ (.tail _ h))
set_option maxRecDepth 100000 in
set_option maxHeartbeats 8000000 in
theorem tail2 (w : World) (hn : TailAt w 3 (P3 w)) : TailAt w 2 (P2 w) := by
  refine' tail_pack ?h1 ?h2
  case h1 => k_is
  case h2 =>
    intro hB tP tL mean mg mb dp un gd outer A₀ base g L f cdv s c1 c2 m news B F X N T hP hd hu
    obtain ⟨bx, rl, rf, rk, o1, o2, bo, im, rfl, hSt⟩ := hP
    dsimp only [List.drop]
    have d1 := hSt.d1
    have d2 := hSt.d2
    have hob := hSt.offBox (tab := tabObj #[])
    have N1 : News g L s.heap ((bx, bo) :: (c1, o1) :: (c2, o2) :: (499, tabObj #[]) :: im) := newsSub0 N (by walk_at "mysub")
    clear N
    repeat' (first | (fail_if_success (with_reducible show wpAny _ _ (call (Value.ref 457) _) _ _ _)); walk1 | ((fail_if_success (with_reducible show wpAny _ _ (call (Value.ref 457) _) _ _ _)); dsimp only; walk1))
    refine' Con.call ?k1 ?k2 ?k3 ?k4 ?k5 ?k6 (law_draw_con im ((c1, o1) :: (c2, o2) :: (499, tabObj #[]) :: im) bx bo 4 _ sub4 hSt.box hob (by decide) (by decide)) ?kd ?ku ?_
    case k1 => k_asm
    case k2 => k_asm
    case k3 => k_asm
    case k4 => k_asm
    case k5 => k_asm
    case k6 => rfl
    case kd => first | exact dle hd rfl | omega
    case ku => first | exact dle hu rfl | omega
    rintro r1 n1 h1 tk1 F1 N2 ⟨bo1, z1, t1, rfl, hB1, rfl, hz1⟩
    (try dsimp only)
    clear N1
    repeat' (first | (fail_if_success (with_reducible show wpAny _ _ (call (Value.ref 457) _) _ _ _)); walk1 | ((fail_if_success (with_reducible show wpAny _ _ (call (Value.ref 457) _) _ _ _)); dsimp only; walk1))
    (with_reducible rename News _ _ _ _ => N3)
    rename_i lf _ _ l3
    have N4 := newsSwap N3
    clear N3
    refine' Con.call ?k1 ?k2 ?k3 ?k4 ?k5 ?k6 (law_draw_con im (_ :: (c1, o1) :: (c2, o2) :: (499, tabObj #[]) :: im) bx bo1 5 _ (fun _ h => .tail _ (sub4 _ h)) hB1 ?hob2 (by decide) (by decide)) ?kd ?ku ?_
    case k1 => k_asm
    case k2 => k_asm
    case k3 => k_asm
    case k4 => k_asm
    case k5 => k_asm
    case k6 => rfl
    case kd => first | exact dle hd rfl | omega
    case ku => first | exact dle hu rfl | omega
    case hob2 => exact (fac (by show @Ne Nat lf bx; omega) hob)
    rintro r2 n2 h2 tk2 F2 N5 ⟨bo2, z2, t2, rfl, hB2, rfl, hz2⟩
    (try dsimp only)
    clear N4
    repeat' (first | (fail_if_success (with_reducible show wpAny _ _ (execs (Stmt.Assign _ (Expr.ListComp _ _ _ _) _ :: _) _) _ _ _)); walk1 | ((fail_if_success (with_reducible show wpAny _ _ (execs (Stmt.Assign _ (Expr.ListComp _ _ _ _) _ :: _) _) _ _ _)); dsimp only; walk1))
    (with_reducible rename News _ _ _ _ => N6)
    (with_reducible rename Fr _ _ _ _ => F6)
    rename _ ≤ 4 => hf4
    refine hn _ _ hB tP tL mean mg mb dp un gd outer A₀ base g L f cdv _ c1 c2 _ _ B F6 X (newsForm N6) T ⟨_, _, _, _, bx, rl, rf, rk, o1, o2, bo2, im, kst_self (fac rfl (fac rfl facNil)), ⟨hf4⟩, rfl, hSt.boxed hB2⟩ hd hu

/-! F5 -/
theorem RowsIn.snoc {im : Led} {rf : Refs} {row : List Part} {a : Addr} {rvs : List Value} {rk : Nat} (hm : (a, listOf rvs.toArray rk) ∈ im) (hr : RowIn im rf rvs row) : ∀ {vs : List Value} {r : List (List Part)}, RowsIn im rf vs r → RowsIn im rf (vs ++ [.ref a]) (r ++ [row])
  | [], _, h => by cases h; exact ⟨row, [], a, rvs, rk, rfl, rfl, hm, hr, rfl⟩
  | _ :: _, _, ⟨row', r', a', rvs', rk', e1, e2, h1, h2, h⟩ => by subst e1; exact ⟨row', r' ++ [row], a', rvs', rk', rfl, e2, h1, h2, RowsIn.snoc hm hr h⟩
theorem St.grow {w : World} {c1 c2 bx rl : Addr} {rf : Refs} {rk : Nat} {o1 o2 bo : Obj} {im : Led} (h : St w c1 c2 bx rl rf rk o1 o2 bo im) (own : Led) (ha : ∀ p ∈ own, @Ne Nat p.1 c1 ∧ @Ne Nat p.1 c2 ∧ @Ne Nat p.1 499 ∧ @Ne Nat p.1 bx) : St w c1 c2 bx rl rf rk o1 o2 bo (own ++ im) :=
  { h with box := h.box.mono subApp, hrl := subApp _ h.hrl, refs := fun k => (h.refs k).mono subApp, ap := fun p hp => (List.mem_append.mp hp).elim (ha p) (h.ap p) }
theorem above_ap {own : Led} {c1 c2 bx : Addr} {o1 o2 tab : Obj} {im : Led} (hab : Above own ((c1, o1) :: (c2, o2) :: (499, tab) :: im)) (hbx : ∀ p ∈ own, @Ne Nat p.1 bx) : ∀ p ∈ own, @Ne Nat p.1 c1 ∧ @Ne Nat p.1 c2 ∧ @Ne Nat p.1 499 ∧ @Ne Nat p.1 bx :=
  fun p hp => ⟨hab p hp (c1, o1) (.head _), hab p hp (c2, o2) (.tail _ (.head _)), hab p hp (499, tab) (.tail _ (.tail _ (.head _))), hbx p hp⟩
inductive P4 (w : World) (g₀ : Heap) (L₀ c1 c2 : Addr) (m : Str → Option Value) (news : Led) : Prop where
  | mk (u : Str → Option Value) (anch : Bool) (form : Nat) (tf : Tok) (rsl : Addr) (rsv : List Value) (rsk : Nat) (r₁ : List Part) (rs : List (List Part)) (bx rl : Addr) (rf : Refs) (rk : Nat) (o1 o2 bo : Obj) (im : Led) (h1 : m = kstB u [(Str.ofString "is_anchored", .bool anch), (Str.ofString "form", .int (form : Nat) tf), (Str.ofString "rows", .ref rsl)]) (h2 : FormOk form) (h3 : (rsl, listOf rsv.toArray rsk) ∈ im) (h4 : RowsIn im rf rsv (r₁ :: rs)) (h5 : RowsOk r₁ rs) (h6 : news = baseL c1 c2 bx o1 o2 (tabObj #[]) bo im) (h7 : St w c1 c2 bx rl rf rk o1 o2 bo im) : P4 w g₀ L₀ c1 c2 m news
inductive JRows (rf : Refs) (bx : Addr) (imb im : Led) (i : Nat) (ys : List Value) (news' : Led) : Prop where
  | mk (own : _) (bo' : _) (rows : _) (h1 : news' = (bx, bo') :: (own ++ im)) (h2 : BoxIn imb bo') (h3 : Above own im) (h4 : (∀ p ∈ own, @Ne Nat p.1 bx)) (h5 : RowsIn own rf ys rows) (h6 : rows.length = i) (h7 : ∀ r ∈ rows, r ≠ [] ∧ r.length ≤ 3) : JRows rf bx imb im i ys news'
theorem newsRows {h₀ : Heap} {L : Addr} {h : Heap} {d b c1 c2 p : Addr × Obj} {own im : Led} (N : News h₀ L h (d :: b :: (own ++ c1 :: c2 :: p :: im))) : News h₀ L h (c1 :: c2 :: p :: b :: ((d :: own) ++ im)) := by
  refine newsSub0 N ?_
  intro q hq
  simp only [List.mem_cons, List.mem_append] at hq ⊢
  rcases hq with h | h | h | h | (h | h) | h <;> simp [h]
set_option maxRecDepth 100000 in
set_option maxHeartbeats 8000000 in
theorem tail3 (w : World) (hn : TailAt w 4 (P4 w)) : TailAt w 3 (P3 w) := by
  refine' tail_pack ?h1 ?h2
  case h1 => k_is
  case h2 =>
    intro hB tP tL mean mg mb dp un gd outer A₀ base g L f cdv s c1 c2 m news B F X N T hP hd hu
    obtain ⟨u, anch, form, tf, bx, rl, rf, rk, o1, o2, bo, im, rfl, hfm, rfl, hSt⟩ := hP
    dsimp only [List.drop]
    have d1 := hSt.d1
    have d2 := hSt.d2
    have hob := hSt.offBox (tab := tabObj #[])
    have N1 : News g L s.heap ((bx, bo) :: (c1, o1) :: (c2, o2) :: (499, tabObj #[]) :: im) := newsSub0 N (by walk_at "mysub")
    clear N
    refine wpAny_execs_cons ?_
    k_dflt (refine LCg.Assign_ListComp_U (F₀ := F) (by rfl) (by with_unfolding_all rfl) (by with_unfolding_all rfl) (by decide) (by rfl) (by decide) (by rfl) (by rfl) (by rfl) ?_)
    repeat' (first | (fail_if_success (with_reducible show wpAny _ _ (call (Value.ref 457) _) _ _ _)); walk1 | ((fail_if_success (with_reducible show wpAny _ _ (call (Value.ref 457) _) _ _ _)); dsimp only; walk1))
    refine' Con.call ?k1 ?k2 ?k3 ?k4 ?k5 ?k6 (law_draw_con im ((c1, o1) :: (c2, o2) :: (499, tabObj #[]) :: im) bx bo 2 _ sub4 hSt.box hob (by decide) (by decide)) ?kd ?ku ?_
    case k1 => k_asm
    case k2 => k_asm
    case k3 => k_asm
    case k4 => k_asm
    case k5 => k_asm
    case k6 => rfl
    case kd => first | exact dle hd rfl | omega
    case ku => first | exact dle hu rfl | omega
    rintro r1 n1 h1 tk1 F1 N2 ⟨bo8, z8, t8, rfl, B8, rfl, hz8⟩
    (try dsimp only)
    clear N1
    repeat' (first | (fail_if_success (with_reducible show LCg.CompSrc _ _ _ _ _ _ _ _ _ _ _ _ _ _)); walk1 | ((fail_if_success (with_reducible show LCg.CompSrc _ _ _ _ _ _ _ _ _ _ _ _ _ _)); dsimp only; walk1))
    (with_reducible rename News _ _ _ _ => N3)
    (with_reducible rename Fr _ _ _ _ => F3)
    rename IsRange _ _ _ _ _ _ _ _ => hir
    refine LCg.CompSrc.range (a := 0) (b := 1 + (z8 : Int)) (n := 1 + z8) (by rfl) F3 N3 hir (small_one (by omega) (by omega) (by omega) (by omega)) (range_size (1 + z8)) (by rw [sizeLine_eq]; omega) ?_
    intro g9
    refine comp_inv (1 + z8) (JRows rf bx im ((c1, o1) :: (c2, o2) :: (499, tabObj #[]) :: im)) ⟨[], bo8, [], rfl, B8, above_nil, (fun _ h => nomatch h), rfl, rfl, (fun _ h => nomatch h)⟩ ?_ ?_
    · rintro i v I oI C oC D m₂ h tk ys news₁ E' hi ⟨own, bo9, rows, rfl, B9, hab, hbx, hrw, hrl, hall⟩ hv hC hx F4 N4 off ne
      (try clear F3); (try clear N3); (try clear hir); (try clear F1); (try clear N2)
      have hoI := off3_mem off (p := (bx, bo9)) (.head _)
      have hoff : ∀ p ∈ own ++ (c1, o1) :: (c2, o2) :: (499, tabObj #[]) :: im, @Ne Nat p.1 I ∧ @Ne Nat p.1 C ∧ @Ne Nat p.1 D := fun p hp => off3_mem off (.tail _ hp)
      have hm1 : (c1, o1) ∈ own ++ (c1, o1) :: (c2, o2) :: (499, tabObj #[]) :: im := subApp _ (.head _)
      have hm2 : (c2, o2) ∈ own ++ (c1, o1) :: (c2, o2) :: (499, tabObj #[]) :: im := subApp _ (.tail _ (.head _))
      have N5 : News g L h ((bx, bo9) :: (I, oI) :: (C, oC) :: (D, LCg.lst ys) :: (own ++ (c1, o1) :: (c2, o2) :: (499, tabObj #[]) :: im)) := newsSub0 N4 (by walk_at "mysub")
      clear N4
      repeat' (first | (fail_if_success (with_reducible show wpAny _ _ (call (Value.ref 469) _) _ _ _)); walk1 | ((fail_if_success (with_reducible show wpAny _ _ (call (Value.ref 469) _) _ _ _)); dsimp only; walk1))
      refine' Con.call ?k1 ?k2 ?k3 ?k4 ?k5 ?k6 (law_row_con rf im ((I, oI) :: (C, oC) :: (D, LCg.lst ys) :: (own ++ (c1, o1) :: (c2, o2) :: (499, tabObj #[]) :: im)) bx rl bo9 rk (fun p hp => .tail _ (.tail _ (.tail _ (subApp _ (sub4 _ hp))))) B9 ?ho9 (.tail _ (.tail _ (.tail _ (subApp _ (sub4 _ hSt.hrl)))))) ?kd ?ku ?_
      case k1 => k_asm
      case k2 => k_asm
      case k3 => k_asm
      case k4 => k_asm
      case k5 => k_asm
      case k6 => rfl
      case kd => first | exact dle hd rfl | omega
      case ku => first | exact dle hu rfl | omega
      case ho9 => exact (fac (Ne.symm hoI.1) (fac (Ne.symm hoI.2.1) (fac (Ne.symm hoI.2.2) (fun p hp => (List.mem_append.mp hp).elim (hbx p) (hob p)))))
      rintro r5 n5 h5 tk5 F5 N6 ⟨own5, bo5, row5, ls5, k5, vs5, rfl, B5, hab5, hbx5, rfl, hm5, hr5, hne5, hl5⟩
      (try dsimp only)
      have hab6 : Above (own5 ++ own) ((c1, o1) :: (c2, o2) :: (499, tabObj #[]) :: im) := above_app (above_sub hab5 fun _ h => .tail _ (.tail _ (.tail _ (subApp _ h)))) hab
      refine LCg.CompEnd.intro F5 N6 ((bx, bo5) :: ((own5 ++ own) ++ (c1, o1) :: (c2, o2) :: (499, tabObj #[]) :: im)) ?_ ?_ True.intro ⟨own5 ++ own, bo5, rows ++ [row5], rfl, B5, hab6, fun p hp => (List.mem_append.mp hp).elim (hbx5 p) (hbx p), RowsIn.snoc (List.mem_append_left _ hm5) (hr5.mono fun _ h => List.mem_append_left _ h) (hrw.mono subApp), by simp [hrl], ?_⟩
      · rw [List.append_assoc]
        exact (fac (.tail _ (subApp _ (.head _))) (fac (.tail _ (subApp _ (.tail _ (.head _)))) (fac (.tail _ (subApp _ (.tail _ (.tail _ (.head _))))) (fac (.head _) (fun p hp => .tail _ ((List.mem_append.mp hp).elim (List.mem_append_left _) fun h => subApp _ (.tail _ (.tail _ (.tail _ h)))))))))
      · refine LCg.Off3.of ((fac hoI (fun p hp => ?_)))
        rw [List.append_assoc] at hp
        rcases List.mem_append.mp hp with hp | hp
        · exact ⟨hab5 p hp (I, oI) (.head _), hab5 p hp (C, oC) (.tail _ (.head _)), hab5 p hp (D, _) (.tail _ (.tail _ (.head _)))⟩
        · exact hoff p hp
      · intro r hr
        rcases List.mem_append.mp hr with hr | hr
        · exact hall r hr
        · rw [List.mem_singleton.mp hr]; exact ⟨hne5, hl5⟩
    · rintro ys news₁ ⟨own, bo9, rows, rfl, B9, hab, hbx, hrw, hrl, hall⟩
      (try clear F3); (try clear N3); (try clear hir); (try clear F1); (try clear N2)
      unfold LCg.FinA
      intro D h9 tk9 F9 N9 o9
      dsimp only
      have o8 : ∀ p ∈ (bx, bo9) :: (own ++ (c1, o1) :: (c2, o2) :: (499, tabObj #[]) :: im), @Ne Nat p.1 D := off1_mem o9
      cases rows with
      | nil => simp only [List.length_nil] at hrl; omega
      | cons r₁ rs =>
        simp only [List.length_cons] at hrl
        have hall2 := List.forall_mem_cons.mp hall
        have hok : RowsOk r₁ rs := ⟨hall2.1.1, fun r hr => (hall2.2 r hr).1, by omega, hall2.1.2, fun r hr => (hall2.2 r hr).2⟩
        refine hn _ _ hB tP tL mean mg mb dp un gd outer A₀ base g L f cdv _ c1 c2 _ _ B F9 X (newsRows N9) T ⟨_, anch, form, tf, D, ys, _, r₁, rs, bx, rl, rf, rk, o1, o2, bo9, (D, LCg.lst ys) :: (own ++ im), kst_self (fac rfl (fac rfl (fac rfl facNil))), hfm, .head _, hrw.mono (fun _ h => .tail _ (List.mem_append_left _ h)), hok, rfl, ?_⟩ hd hu
        refine (hSt.boxed B9).grow ((D, LCg.lst ys) :: own) ((fac ⟨?_, ?_, ?_, ?_⟩ (above_ap hab hbx)))
        · exact Ne.symm (o8 (c1, o1) (.tail _ (subApp _ (.head _))))
        · exact Ne.symm (o8 (c2, o2) (.tail _ (subApp _ (.tail _ (.head _)))))
        · exact Ne.symm (o8 (499, tabObj #[]) (.tail _ (subApp _ (.tail _ (.tail _ (.head _))))))
        · exact Ne.symm (o8 (bx, bo9) (.head _))

/-! F6 -/
theorem join_tx : ∀ cs : Cps, Str.join (Str.ofString "") (cs.map fun c => tx [c]) = tx cs
  | [] => rfl
  | [c] => rfl
  | c :: d :: r => by
    show tx [c] ++ Str.ofString "" ++ Str.join (Str.ofString "") ((d :: r).map fun c => tx [c]) = tx (c :: d :: r)
    rw [join_tx (d :: r), strE, tx_app, tx_app]
    rfl
theorem sum_ones : ∀ cs : Cps, ((cs.map fun c => tx [c]).map (·.length)).sum = cs.length
  | [] => rfl
  | c :: r => by
    simp only [List.map_cons, List.sum_cons, List.length_cons, sum_ones r, tx_len, List.length_nil]
    omega
theorem sABC : Str.ofString "abc" = tx [97, 98, 99] := by decide
section
variable {prog : Program} {w : World} {A : Around} {E : Value → Shared → Prop} {s : Shared} {h₀ : Heap} {L D : Addr} {news : Led} {Q : Value → Shared → Prop}
theorem item_abc {i : Int} {t u : Tok} {value slice : Expr} (h0 : 0 ≤ i) (h1 : i < 3) (h : ∀ c t k, Q (.str (tx [c]) t) { s with toks := k })
    (hs : ∀ x, subscripted slice false (.str x t) (.int i u) = operate [.str x t, .int i u] (getItem (.str x t) (.int i u)) := by intro _; with_unfolding_all rfl)
    (ht : ∀ x r, letTemporaryGo value (.str x t) r = pure () := by intro _ _; with_unfolding_all rfl) : wpAny (model prog w) A (subscriptTail value slice (.str (Str.ofString "abc") t) (.int i u)) Q E s := by
  rw [sABC]
  exact item_tx h0 (by show i < 3; exact h1) (by decide) (fun c _ => h c _ _) (hs _) (ht _)
theorem join_abc {ys : List Value} {cs : Cps} {n : Nat} {t : Tok} (N : News h₀ L s.heap news) (hm : (D, listOf ys.toArray n) ∈ news) (hi : StrsAre ys (cs.map fun c => tx [c])) (hl : cs.length ≤ 1000)
    (h : ∀ t' k, Q (.str (tx cs) t') { s with toks := k }) : wpAny (model prog w) A (PySem.call (.builtin "str.join") [.str (Str.ofString "") t, .ref D]) Q E s := by
  refine join_listW (News.isList N hm) (by simpa using hi) (by decide) (by rw [sum_ones, List.length_map]; omega) fun t' k => ?_
  have e : PySem.Txt.join (Str.ofString "") (cs.map fun c => tx [c]) = tx cs := by
    show Builtin.Str.glued (Str.ofString "") _ = _
    rw [StrLaws.glued_eq_join, join_tx]
  rw [e]
  exact h t' k
end
theorem strs_snoc {c : Nat} {t : Tok} : ∀ {vs : List Value} {cs : Cps}, StrsAre vs (cs.map fun c => tx [c]) → StrsAre (vs ++ [.str (tx [c]) t]) ((cs ++ [c]).map fun c => tx [c])
  | [], [], _ => .cons _ _ .nil
  | _ :: _, [], h => nomatch h
  | [], _ :: _, h => nomatch h
  | v :: vs, d :: cs, h => by
    cases h with
    | cons y t h => exact .cons _ _ (strs_snoc h)
theorem words28 : True := by
  k_with "subscriptTail" => ((k_here; (with_reducible show wpAny _ _ (subscriptTail _ _ (Value.str (PySem.Str.ofString "abc") _) (Value.int _ _)) _ _ _); k_dflt (refine item_abc (by omega) (by omega) ?_); intro _ _ _; (try dsimp only)))
  k_with "call builtin:str.join" => ((k_here; (with_reducible show wpAny _ _ (PySem.call (Value.builtin _) [Value.str (PySem.Str.ofString "") _, Value.ref _]) _ _ _); k_dflt (refine' join_abc ?N ?m ?i ?l ?_; (case N => k_asm); (case m => exact List.Mem.head _); (case i => assumption); (case l => assumption); k_whole); intro _ _; (try dsimp only)))
  trivial

inductive P5 (w : World) (g₀ : Heap) (L₀ c1 c2 : Addr) (m : Str → Option Value) (news : Led) : Prop where
  | mk (u : Str → Option Value) (anch : Bool) (form : Nat) (tf ts : Tok) (S : Cps) (rsl : Addr) (rsv : List Value) (rsk : Nat) (r₁ : List Part) (rs : List (List Part)) (bx rl : Addr) (rf : Refs) (rk : Nat) (o1 o2 bo : Obj) (im : Led) (h1 : m = kstB u [(Str.ofString "is_anchored", .bool anch), (Str.ofString "form", .int (form : Nat) tf), (Str.ofString "rows", .ref rsl), (Str.ofString "subject", .str (tx S) ts)]) (h2 : S.length ≤ 7) (h3 : FormOk form) (h4 : (rsl, listOf rsv.toArray rsk) ∈ im) (h5 : RowsIn im rf rsv (r₁ :: rs)) (h6 : RowsOk r₁ rs) (h7 : news = baseL c1 c2 bx o1 o2 (tabObj #[]) bo im) (h8 : St w c1 c2 bx rl rf rk o1 o2 bo im) : P5 w g₀ L₀ c1 c2 m news
inductive JSubj (bx : Addr) (imb im : Led) (i : Nat) (ys : List Value) (news' : Led) : Prop where
  | mk (bo' : _) (cs : _) (h1 : news' = (bx, bo') :: im) (h2 : BoxIn imb bo') (h3 : StrsAre ys ((cs : Cps).map fun c => tx [c])) (h4 : cs.length = i) : JSubj bx imb im i ys news'
theorem newsSubj {h₀ : Heap} {L : Addr} {h : Heap} {d b c1 c2 p : Addr × Obj} {im : Led} (N : News h₀ L h (d :: b :: c1 :: c2 :: p :: im)) : News h₀ L h (c1 :: c2 :: p :: b :: im) := newsSub0 N (by walk_at "mysub")
set_option maxRecDepth 100000 in
set_option maxHeartbeats 8000000 in
theorem tail4 (w : World) (hn : TailAt w 5 (P5 w)) : TailAt w 4 (P4 w) := by
  refine' tail_pack ?h1 ?h2
  case h1 => k_is
  case h2 =>
    intro hB tP tL mean mg mb dp un gd outer A₀ base g L f cdv s c1 c2 m news B F X N T hP hd hu
    obtain ⟨u, anch, form, tf, rsl, rsv, rsk, r₁, rs, bx, rl, rf, rk, o1, o2, bo, im, rfl, hfm, hrs, hrow, hok, rfl, hSt⟩ := hP
    dsimp only [List.drop]
    have d1 := hSt.d1
    have d2 := hSt.d2
    have hob := hSt.offBox (tab := tabObj #[])
    have N1 : News g L s.heap ((bx, bo) :: (c1, o1) :: (c2, o2) :: (499, tabObj #[]) :: im) := newsSub0 N (by walk_at "mysub")
    clear N
    repeat' (first | (fail_if_success (with_reducible show wpAny _ _ (eval (Expr.ListComp _ _ _ _) _) _ _ _)); walk1 | ((fail_if_success (with_reducible show wpAny _ _ (eval (Expr.ListComp _ _ _ _) _) _ _ _)); dsimp only; walk1))
    (with_reducible rename Fr _ _ _ _ => F0)
    k_dflt (refine LCg.ListComp_U (F₀ := F0) (by with_unfolding_all rfl) (by decide) (by rfl) (by decide) (by rfl) ?_)
    repeat' (first | (fail_if_success (with_reducible show wpAny _ _ (call (Value.ref 457) _) _ _ _)); walk1 | ((fail_if_success (with_reducible show wpAny _ _ (call (Value.ref 457) _) _ _ _)); dsimp only; walk1))
    (with_reducible rename News _ _ _ _ => N1)
    refine' Con.call ?k1 ?k2 ?k3 ?k4 ?k5 ?k6 (law_draw_con im ((c1, o1) :: (c2, o2) :: (499, tabObj #[]) :: im) bx bo 8 _ sub4 hSt.box hob (by decide) (by decide)) ?kd ?ku ?_
    case k1 => k_asm
    case k2 => k_asm
    case k3 => k_asm
    case k4 => k_asm
    case k5 => k_asm
    case k6 => rfl
    case kd => first | exact dle hd rfl | omega
    case ku => first | exact dle hu rfl | omega
    rintro r1 n1 h1 tk1 F1 N2 ⟨bo8, z8, t8, rfl, B8, rfl, hz8⟩
    (try dsimp only)
    clear N1
    repeat' (first | (fail_if_success (with_reducible show LCg.CompSrc _ _ _ _ _ _ _ _ _ _ _ _ _ _)); walk1 | ((fail_if_success (with_reducible show LCg.CompSrc _ _ _ _ _ _ _ _ _ _ _ _ _ _)); dsimp only; walk1))
    (with_reducible rename News _ _ _ _ => N3)
    (with_reducible rename Fr _ _ _ _ => F3)
    rename IsRange _ _ _ _ _ _ _ _ => hir
    refine LCg.CompSrc.range (a := 0) (b := (z8 : Int)) (n := z8) (by rfl) F3 N3 hir (small_one (by omega) (by omega) (by omega) (by omega)) (range_size z8) (by rw [sizeLine_eq]; omega) ?_
    intro g9
    refine comp_inv z8 (JSubj bx im ((c1, o1) :: (c2, o2) :: (499, tabObj #[]) :: im)) ⟨bo8, [], rfl, B8, .nil, rfl⟩ ?_ ?_
    · rintro i v I oI C oC D m₂ h tk ys news₁ E' hi ⟨bo9, cs, rfl, B9, hys, hcl⟩ hv hC hx F4 N4 off ne
      (try clear F3); (try clear N3); (try clear hir); (try clear F1); (try clear N2)
      have hoI := off3_mem off (p := (bx, bo9)) (.head _)
      have N5 : News g L h ((bx, bo9) :: (I, oI) :: (C, oC) :: (D, LCg.lst ys) :: (c1, o1) :: (c2, o2) :: (499, tabObj #[]) :: im) := newsSub0 N4 (by walk_at "mysub")
      clear N4
      repeat' (first | (fail_if_success (with_reducible show wpAny _ _ (call (Value.ref 457) _) _ _ _)); walk1 | ((fail_if_success (with_reducible show wpAny _ _ (call (Value.ref 457) _) _ _ _)); dsimp only; walk1))
      refine' Con.call ?k1 ?k2 ?k3 ?k4 ?k5 ?k6 (law_draw_con im ((I, oI) :: (C, oC) :: (D, LCg.lst ys) :: (c1, o1) :: (c2, o2) :: (499, tabObj #[]) :: im) bx bo9 3 _ (fun _ h => .tail _ (.tail _ (.tail _ (sub4 _ h)))) B9 ?ho9 (by decide) (by decide)) ?kd ?ku ?_
      case k1 => k_asm
      case k2 => k_asm
      case k3 => k_asm
      case k4 => k_asm
      case k5 => k_asm
      case k6 => rfl
      case kd => first | exact dle hd rfl | omega
      case ku => first | exact dle hu rfl | omega
      case ho9 => exact (fac (Ne.symm hoI.1) (fac (Ne.symm hoI.2.1) (fac (Ne.symm hoI.2.2) hob)))
      rintro r5 n5 h5 tk5 F5 N6 ⟨bo5, z5, t5, rfl, B5, rfl, hz5⟩
      (try dsimp only)
      (first | walk1 | (dsimp only; walk1))
      rename_i c5 t6 k6
      refine LCg.CompEnd.intro F5 N6 ((bx, bo5) :: (c1, o1) :: (c2, o2) :: (499, tabObj #[]) :: im) (by walk_at "mysub") off True.intro ⟨bo5, cs ++ [c5], rfl, B5, strs_snoc hys, by simp [hcl]⟩
    · rintro ys news₁ ⟨bo9, cs, rfl, B9, hys, hcl⟩
      (try clear F3); (try clear N3); (try clear hir); (try clear F1); (try clear N2)
      unfold LCg.FinE
      intro D h9 tk9 F9 N9 o9
      (try dsimp only)
      have hcl7 : cs.length ≤ 7 := by omega
      have hcl8 : cs.length ≤ 1000 := by omega
      repeat' (first | (fail_if_success (with_reducible show wpAny _ _ (execs (Stmt.Assign _ (Expr.Call (Expr.Name _ _) _ _ _) _ :: _) _) _ _ _)); walk1 | ((fail_if_success (with_reducible show wpAny _ _ (execs (Stmt.Assign _ (Expr.Call (Expr.Name _ _) _ _ _) _ :: _) _) _ _ _)); dsimp only; walk1))
      (with_reducible rename News _ _ _ _ => N7)
      (with_reducible rename Fr _ _ _ _ => F7)
      refine hn _ _ hB tP tL mean mg mb dp un gd outer A₀ base g L f cdv _ c1 c2 _ _ B F7 X (newsSubj N7) T ⟨_, anch, form, tf, _, cs, rsl, rsv, rsk, r₁, rs, bx, rl, rf, rk, o1, o2, bo9, im, kst_self (fac rfl (fac rfl (fac rfl (fac rfl facNil)))), hcl7, hfm, hrs, hrow, hok, rfl, hSt.boxed B9⟩ hd hu

/-! F7 -/
inductive P7 (w : World) (g₀ : Heap) (L₀ c1 c2 : Addr) (m : Str → Option Value) (news : Led) : Prop where
  | mk (u : Str → Option Value) (anch : Bool) (form : Nat) (tf ts : Tok) (S : Cps) (nd rsl : Addr) (rsv : List Value) (rsk : Nat) (r₁ : List Part) (rs : List (List Part)) (bx rl : Addr) (rf : Refs) (rk : Nat) (o1 o2 bo : Obj) (im : Led) (h1 : m = kstB u [(Str.ofString "is_anchored", .bool anch), (Str.ofString "form", .int (form : Nat) tf), (Str.ofString "rows", .ref rsl), (Str.ofString "subject", .str (tx S) ts), (Str.ofString "node", .ref nd)]) (h2 : S.length ≤ 7) (h3 : FormOk form) (h4 : (rsl, listOf rsv.toArray rsk) ∈ im) (h5 : RowsIn im rf rsv (r₁ :: rs)) (h6 : RowsOk r₁ rs) (h7 : NodeIn im rf nd (rowsNode (r₁ :: rs))) (h8 : news = baseL c1 c2 bx o1 o2 (tabObj #[]) bo im) (h9 : St w c1 c2 bx rl rf rk o1 o2 bo im) : P7 w g₀ L₀ c1 c2 m news
theorem RowsIn.one {im : Led} {rf : Refs} {vs : List Value} {r : List Part} (h : RowsIn im rf vs [r]) : ∃ a rvs rk, vs = [.ref a] ∧ (a, listOf (rvs : List Value).toArray rk) ∈ im ∧ RowIn im rf rvs r := by
  cases vs with
  | nil => cases h
  | cons v vs =>
    obtain ⟨_, _, a, rvs, rk, e, rfl, hm, hr, h2⟩ := h
    cases e
    cases vs with
    | nil => exact ⟨a, rvs, rk, rfl, hm, hr⟩
    | cons v vs => obtain ⟨_, _, _, _, _, e, _⟩ := h2; cases e
theorem RowsIn.two {im : Led} {rf : Refs} {vs : List Value} {r q : List Part} (h : RowsIn im rf vs [r, q]) : ∃ a rvs rk a2 rvs2 rk2, vs = [.ref a, .ref a2] ∧ (a, listOf (rvs : List Value).toArray rk) ∈ im ∧ RowIn im rf rvs r ∧ (a2, listOf (rvs2 : List Value).toArray rk2) ∈ im ∧ RowIn im rf rvs2 q := by
  cases vs with
  | nil => cases h
  | cons v vs =>
    obtain ⟨_, _, a, rvs, rk, e, rfl, hm, hr, h2⟩ := h
    cases e
    obtain ⟨a2, rvs2, rk2, rfl, hm2, hr2⟩ := RowsIn.one h2
    exact ⟨a, rvs, rk, a2, rvs2, rk2, rfl, hm, hr, hm2, hr2⟩
theorem item_lit {prog : Program} {w : World} {A : Around} {E : Value → Shared → Prop} {s : Shared} {h₀ : Heap} {L l : Addr} {news : Led} {its : List Value} {n : Nat} {k : Int} {u : Tok} {v : Value} {value slice : Expr} {Q : Value → Shared → Prop}
    (N : News h₀ L s.heap ((l, listOf its.toArray n) :: news)) (hk : its[k.toNat]? = some v) (h0 : 0 ≤ k) (h1 : k < 9) (h : Q v s)
    (hs : subscripted slice false (.ref l) (.int k u) = operate [.ref l, .int k u] (getItem (.ref l) (.int k u)) := by with_unfolding_all rfl) :
    wpAny (model prog w) A (subscriptTail value slice (.ref l) (.int k u)) Q E s :=
  tail_any (News.isList N (.head _)).typeIs slot_list_getitem.lookup (wpAny_getItem_list (News.isList N (.head _)) h0 (by omega) (by simpa using hk) h) hs
theorem words29 : True := by
  k_with "subscriptTail Name Constant ref int" => ((k_here; (with_reducible show wpAny _ _ (subscriptTail _ _ (Value.ref _) (Value.int _ _)) _ _ _); k_dflt (refine' item_lit ?k1 ?k2 ?k3 ?k4 ?_; (case k1 => k_asm); (case k2 => rfl); (case k3 => decide); (case k4 => decide); k_whole)))
  k_with "exec If" => ((k_here; refine wpAny_If ?_))
  k_with "execs nil" => ((k_here; with_reducible refine wpAny_execs_nil ?_))
  trivial

theorem newsJ {h₀ : Heap} {L : Addr} {h : Heap} {a b1 b2 b3 b4 : Addr × Obj} {own im : Led} (N : News h₀ L h (own ++ (a :: b1 :: b2 :: b3 :: b4 :: im))) : News h₀ L h (a :: b1 :: b2 :: b3 :: b4 :: (own ++ im)) := by
  refine newsSub0 N ?_
  intro q hq
  simp only [List.mem_cons, List.mem_append] at hq ⊢
  rcases hq with h | h | h | h | h | h | h <;> simp [h]
theorem newsAlt7 {h₀ : Heap} {L : Addr} {h : Heap} {t a b1 b2 b3 b4 : Addr × Obj} {im : Led} (N : News h₀ L h (t :: a :: b1 :: b2 :: b3 :: b4 :: im)) : News h₀ L h (b1 :: b2 :: b3 :: b4 :: (t :: im)) := newsSub0 N (by walk_at "mysub")
theorem above_ap5 {own : Led} {x : Addr × Obj} {c1 c2 bx : Addr} {o1 o2 tab bo : Obj} {im : Led} (hab : Above own (x :: baseL c1 c2 bx o1 o2 tab bo im)) : ∀ p ∈ own, @Ne Nat p.1 c1 ∧ @Ne Nat p.1 c2 ∧ @Ne Nat p.1 499 ∧ @Ne Nat p.1 bx :=
  fun p hp => ⟨hab p hp (c1, o1) (.tail _ (.head _)), hab p hp (c2, o2) (.tail _ (.tail _ (.head _))), hab p hp (499, tab) (.tail _ (.tail _ (.tail _ (.head _)))), hab p hp (bx, bo) (.tail _ (.tail _ (.tail _ (.tail _ (.head _)))))⟩
theorem sub5 {x b1 b2 b3 b4 : Addr × Obj} {im : Led} : ∀ p ∈ im, p ∈ x :: b1 :: b2 :: b3 :: b4 :: im := fun _ h => .tail _ (.tail _ (.tail _ (.tail _ (.tail _ h))))
set_option maxRecDepth 100000 in
set_option maxHeartbeats 8000000 in
theorem tail5 (w : World) (hn : TailAt w 7 (P7 w)) : TailAt w 5 (P5 w) := by
  refine' tail_pack ?h1 ?h2
  case h1 => k_is
  case h2 =>
    intro hB tP tL mean mg mb dp un gd outer A₀ base g L f cdv s c1 c2 m news B F X N T hP hd hu
    obtain ⟨u, anch, form, tf, ts, S, rsl, rsv, rsk, r₁, rs, bx, rl, rf, rk, o1, o2, bo, im, rfl, hS, hfm, hrs, hrow, hok, rfl, hSt⟩ := hP
    have hnx := @hn _ _ hB
    clear hB
    dsimp only [List.drop]
    dsimp only [kstB] at F
    cases rs with
    | nil =>
        obtain ⟨a1, rvs1, rk1, rfl, hm1, hr1⟩ := RowsIn.one hrow
        have N1 := newsDup N (show (rsl, listOf [Value.ref a1].toArray rsk) ∈ _ from .tail _ (.tail _ (.tail _ (.tail _ hrs))))
        clear N
        repeat' (first | (fail_if_success (with_reducible show wpAny _ _ (call (Value.ref 476) _) _ _ _)); walk1 | ((fail_if_success (with_reducible show wpAny _ _ (call (Value.ref 476) _) _ _ _)); dsimp only; walk1))
        refine' Con.call ?k1 ?k2 ?k3 ?k4 ?k5 ?k6 (law_joined_con rf im ((rsl, listOf [Value.ref a1].toArray rsk) :: baseL c1 c2 bx o1 o2 (tabObj #[]) bo im) a1 rk1 rvs1 r₁ (sub5 _ hm1) hr1 hok.h1 hok.h4) ?kd ?ku ?_
        case k1 => k_asm
        case k2 => k_asm
        case k3 => k_asm
        case k4 => k_asm
        case k5 => k_asm
        case k6 => rfl
        case kd => first | exact dle hd rfl | omega
        case ku => first | exact dle hu rfl | omega
        rintro r1 n1 h1 tk1 F1 N2 ⟨own, nd, rfl, hab, rfl, hn1⟩
        (try dsimp only)
        have N3 := newsJ N2
        clear N2 N1
        repeat' (first | (fail_if_success (with_reducible show wpAny _ _ (truthy _) _ _ _)); walk1 | ((fail_if_success (with_reducible show wpAny _ _ (truthy _) _ _ _)); dsimp only; walk1))
        walk1
        (try dsimp only)
        with_reducible refine' ite_neg ?hc ?_
        case hc => first | (simp only [List.length_cons, List.length_nil]; omega) | decide | omega
        repeat' (first | (fail_if_success (with_reducible show wpAny _ _ (execs (Stmt.Assign [Expr.Tuple _ _ _] _ _ :: _) _) _ _ _)); walk1 | ((fail_if_success (with_reducible show wpAny _ _ (execs (Stmt.Assign [Expr.Tuple _ _ _] _ _ :: _) _) _ _ _)); dsimp only; walk1))
        (with_reducible rename News _ _ _ _ => N7)
        (with_reducible rename Fr _ _ _ _ => F7)
        refine @hnx tP tL mean mg mb dp un gd outer A₀ base g L f cdv _ c1 c2 _ _ B F7 X (newsTail N7) T ⟨_, anch, form, tf, ts, S, nd, rsl, [Value.ref a1], rsk, r₁, [], bx, rl, rf, rk, o1, o2, bo, own ++ im, kst_self (fac rfl (fac rfl (fac rfl (fac rfl (fac rfl facNil))))), hS, hfm, subApp _ hrs, ?_, hok, hn1, rfl, hSt.grow own (above_ap5 hab)⟩ hd hu
        exact hrow.mono subApp
    | cons r₂ rs' =>
      have hrs' : rs' = [] := by have := hok.h3; cases rs' with | nil => rfl | cons _ _ => simp at this
      subst hrs'
      obtain ⟨a1, rvs1, rk1, a2, rvs2, rk2, rfl, hm1, hr1, hm2, hr2⟩ := RowsIn.two hrow
      have N1 := newsDup N (show (rsl, listOf [Value.ref a1, Value.ref a2].toArray rsk) ∈ _ from .tail _ (.tail _ (.tail _ (.tail _ hrs))))
      clear N
      repeat' (first | (fail_if_success (with_reducible show wpAny _ _ (call (Value.ref 476) _) _ _ _)); walk1 | ((fail_if_success (with_reducible show wpAny _ _ (call (Value.ref 476) _) _ _ _)); dsimp only; walk1))
      refine' Con.call ?k1 ?k2 ?k3 ?k4 ?k5 ?k6 (law_joined_con rf im ((rsl, listOf [Value.ref a1, Value.ref a2].toArray rsk) :: baseL c1 c2 bx o1 o2 (tabObj #[]) bo im) a1 rk1 rvs1 r₁ (sub5 _ hm1) hr1 hok.h1 hok.h4) ?kd ?ku ?_
      case k1 => k_asm
      case k2 => k_asm
      case k3 => k_asm
      case k4 => k_asm
      case k5 => k_asm
      case k6 => rfl
      case kd => first | exact dle hd rfl | omega
      case ku => first | exact dle hu rfl | omega
      rintro r1 n1 h1 tk1 F1 N2 ⟨own, nd, rfl, hab, rfl, hn1⟩
      (try dsimp only)
      have N3 := newsJ N2
      clear N2 N1
      repeat' (first | (fail_if_success (with_reducible show wpAny _ _ (truthy _) _ _ _)); walk1 | ((fail_if_success (with_reducible show wpAny _ _ (truthy _) _ _ _)); dsimp only; walk1))
      walk1
      (try dsimp only)
      with_reducible refine' ite_pos ?hc ?_
      case hc => first | (simp only [List.length_cons, List.length_nil]; omega) | decide | omega
      repeat' (first | (fail_if_success (with_reducible show wpAny _ _ (call (Value.ref 476) _) _ _ _)); walk1 | ((fail_if_success (with_reducible show wpAny _ _ (call (Value.ref 476) _) _ _ _)); dsimp only; walk1))
      (with_reducible rename News _ _ _ _ => N4)
      refine' Con.call ?k1 ?k2 ?k3 ?k4 ?k5 ?k6 (law_joined_con rf im ((rsl, listOf [Value.ref a1, Value.ref a2].toArray rsk) :: baseL c1 c2 bx o1 o2 (tabObj #[]) bo (own ++ im)) a2 rk2 rvs2 r₂ (sub5 _ (subApp _ hm2)) hr2 (hok.h2 r₂ (.head _)) (hok.h5 r₂ (.head _))) ?kd ?ku ?_
      case k1 => k_asm
      case k2 => k_asm
      case k3 => k_asm
      case k4 => k_asm
      case k5 => k_asm
      case k6 => rfl
      case kd => first | exact dle hd rfl | omega
      case ku => first | exact dle hu rfl | omega
      rintro r2 n2 h2 tk2 F2 N5 ⟨own2, nd2, rfl, hab2, rfl, hn2⟩
      (try dsimp only)
      have N6 := newsJ N5
      clear N5 N4
      repeat' (first | (fail_if_success (with_reducible show wpAny _ _ (execs (Stmt.Assign [Expr.Tuple _ _ _] _ _ :: _) _) _ _ _)); walk1 | ((fail_if_success (with_reducible show wpAny _ _ (execs (Stmt.Assign [Expr.Tuple _ _ _] _ _ :: _) _) _ _ _)); dsimp only; walk1))
      (with_reducible rename News _ _ _ _ => N7)
      (with_reducible rename Fr _ _ _ _ => F7)
      dsimp only
      rename_i tk9 _ _ D9 _ l9 _
      refine @hnx tP tL mean mg mb dp un gd outer A₀ base g L f cdv _ c1 c2 _ _ B F7 X (newsAlt7 N7) T ⟨_, anch, form, tf, ts, S, D9, rsl, [Value.ref a1, Value.ref a2], rsk, r₁, [r₂], bx, rl, rf, rk, o1, o2, bo, _ :: (own2 ++ (own ++ im)), kst_self (fac rfl (fac rfl (fac rfl (fac rfl (fac rfl facNil))))), hS, hfm, .tail _ (subApp _ (subApp _ hrs)), ?_, hok, ⟨nd, nd2, _, .head _, ?_, ?_⟩, rfl, ?_⟩ hd hu
      · exact hrow.mono fun _ h => .tail _ (subApp _ (subApp _ h))
      · exact hn1.mono fun _ h => .tail _ (subApp _ h)
      · exact hn2.mono fun p h => .tail _ ((List.mem_append.mp h).elim (List.mem_append_left _) fun h => subApp _ (subApp _ h))
      · exact ((hSt.grow own (above_ap5 hab)).grow own2 (above_ap5 hab2)).grow [_] ((fac ⟨by k_ne, by k_ne, by k_ne, by k_ne⟩ facNil))

/-! F8 -/
noncomputable abbrev v0 : W2 := ([120], [121])
/-- w's dict, the host, and the rest of the law's ledger -/
structure St9 (w : World) (c1 c2 bx wd : Addr) (H : HostA) (rf : Refs) (c : HostC) (ov : Obj) (W : W2) (im : Led) : Prop where
  hv : VObj w ov W
  hc : VObj w c.ov c.w
  host : HostIn w.params H rf im
  q1 : @Ne Nat H.dx c1 ∧ @Ne Nat H.dx c2 ∧ @Ne Nat H.dx 499 ∧ @Ne Nat H.dx bx ∧ @Ne Nat H.dx wd
  q2 : @Ne Nat H.vd c1 ∧ @Ne Nat H.vd c2 ∧ @Ne Nat H.vd 499 ∧ @Ne Nat H.vd bx ∧ @Ne Nat H.vd wd
  q3 : @Ne Nat H.lg c1 ∧ @Ne Nat H.lg c2 ∧ @Ne Nat H.lg 499 ∧ @Ne Nat H.lg bx ∧ @Ne Nat H.lg wd
  q4 : @Ne Nat wd c1 ∧ @Ne Nat wd c2 ∧ @Ne Nat wd 499 ∧ @Ne Nat wd bx
  q5 : ∀ p ∈ im, @Ne Nat p.1 wd
  sm : (wd == sysModules) = false
inductive P9 (w : World) (g₀ : Heap) (L₀ c1 c2 : Addr) (m : Str → Option Value) (news : Led) : Prop where
  | mk (u : Str → Option Value) (anch : Bool) (form : Nat) (tf ts : Tok) (S : Cps) (nd rsl : Addr) (rsv : List Value) (rsk : Nat) (r₁ : List Part) (rs : List (List Part)) (bx rl : Addr) (rf : Refs) (rk : Nat) (o1 o2 bo : Obj) (im : Led) (wd : Addr) (ov : Obj) (H : HostA) (c : HostC) (dv : Value) (h1 : m = kstB u [(Str.ofString "is_anchored", .bool anch), (Str.ofString "form", .int (form : Nat) tf), (Str.ofString "rows", .ref rsl), (Str.ofString "subject", .str (tx S) ts), (Str.ofString "node", .ref nd), (Str.ofString "w", .ref wd), (Str.ofString "host", .ref H.x), (Str.ofString "due", dv)]) (h2 : S.length ≤ 7) (h3 : FormOk form) (h4 : (rsl, listOf rsv.toArray rsk) ∈ im) (h5 : RowsIn im rf rsv (r₁ :: rs)) (h6 : RowsOk r₁ rs) (h7 : NodeIn im rf nd (rowsNode (r₁ :: rs))) (h8 : news = (wd, ov) :: hostL w.params H c (baseL c1 c2 bx o1 o2 (tabObj #[]) bo im)) (h9 : St w c1 c2 bx rl rf rk o1 o2 bo im) (h10 : St9 w c1 c2 bx wd H rf c ov (once (r₁ :: rs) S anch form v0).2 im) (h11 : ToldIs dv (once (r₁ :: rs) S anch form v0).1) (h12 : c.w = v0) (h13 : c.Le 0) : P9 w g₀ L₀ c1 c2 m news
theorem newsHost9 {h₀ : Heap} {L : Addr} {h : Heap} {t lg x d rfu vd wdp b1 b2 b3 b4 : Addr × Obj} {im : Led} (N : News h₀ L h (t :: lg :: x :: d :: rfu :: vd :: wdp :: b1 :: b2 :: b3 :: b4 :: im)) :
    News h₀ L h (wdp :: d :: vd :: lg :: b1 :: b2 :: b3 :: b4 :: (x :: rfu :: t :: im)) := newsSub0 N (by walk_at "mysub")
theorem sX : Str.ofString "x" = tx [120] := by decide
theorem sY : Str.ofString "y" = tx [121] := by decide
set_option maxRecDepth 100000 in
set_option maxHeartbeats 8000000 in
theorem tail7 (w : World) (hn : TailAt w 9 (P9 w)) : TailAt w 7 (P7 w) := by
  refine' tail_pack ?h1 ?h2
  case h1 => k_is
  case h2 =>
    intro hB tP tL mean mg mb dp un gd outer A₀ base g L f cdv s c1 c2 m news B F X N T hP hd hu
    have hnx := @hn _ _ hB
    clear hB
    obtain ⟨u, anch, form, tf, ts, S, nd, rsl, rsv, rsk, r₁, rs, bx, rl, rf, rk, o1, o2, bo, im, rfl, hS, hfm, hrs, hrow, hok, hnd, rfl, hSt⟩ := hP
    dsimp only [List.drop]
    dsimp only [kstB] at F
    obtain ⟨d1, d2, hbox, hrl, hrefs, hap, n1, n2, n3, n4, n5, n6⟩ := hSt
    repeat' (first | (fail_if_success (with_reducible show wpAny _ _ (call (Value.ref 497) _) _ _ _)); walk1 | ((fail_if_success (with_reducible show wpAny _ _ (call (Value.ref 497) _) _ _ _)); dsimp only; walk1))
    (with_reducible rename News _ _ _ _ => N1)
    (with_reducible rename Fr _ _ _ _ => F1)
    rename Obj.IsDictOf _ _ _ => hv2
    have hV2 : VObj w _ v0 := ⟨_, _, hv2⟩
    clear hv2
    rename Obj.IsDictOf _ _ _ => hv1
    have hV1 : VObj w _ v0 := ⟨_, _, hv1⟩
    clear hv1
    have N2 := newsHost9 N1
    clear N1
    rename_i h14 ow lo1 hf1 ap1 l5 h13 ovl lo2 hf2 ap2 l4 rfa h12 l3 xa da h11 l22 l2x g9 L9 h10 B9 X9 T9 tk9 h9 h8 h7 h6 lga h5 l11 h4 F9 N9 Tc9 kX9 Da h3 l1x h2 h1 h0
    clear hf1 hf2 N9 F9 B9 X9 T9
    have k1 : @LT.lt Nat _ c1 s.heap.objs.size ∧ @LT.lt Nat _ c2 s.heap.objs.size ∧ @LT.lt Nat _ 499 s.heap.objs.size ∧ @LT.lt Nat _ bx s.heap.objs.size := ⟨l5.1, l5.2.1, l5.2.2.1, l5.2.2.2.1⟩
    have k2 : @LT.lt Nat _ s.heap.objs.size rfa := l3.2.1
    have k3 : @LT.lt Nat _ s.heap.objs.size da := l22.2.2.1
    have k4 : @LT.lt Nat _ s.heap.objs.size h14.objs.size ∧ @LT.lt Nat _ c1 h14.objs.size ∧ @LT.lt Nat _ c2 h14.objs.size ∧ @LT.lt Nat _ 499 h14.objs.size ∧ @LT.lt Nat _ bx h14.objs.size := ⟨l4.1, l4.2.1, l4.2.2.1, l4.2.2.2.1, l4.2.2.2.2.1⟩
    obtain ⟨wd, hwd⟩ : ∃ wd : Nat, wd = s.heap.objs.size := ⟨_, rfl⟩
    have l5' := l5.2.2.2.2
    refine' Con.call ?k1 ?k2 ?k3 ?k4 ?k5 ?k6 (law_once_con rf _ S (r₁ :: rs) rsl _ rsv rsk 7 form anch ow v0 ts tf (by decide) (by decide) hS ((fac hok.h4 hok.h5)) hfm.le hV1 ⟨by decide, by decide⟩ ?ho9 ?hrf9 ?hl9 ?hr9) ?kd ?ku ?_
    case k1 => k_asm
    case k2 => k_asm
    case k3 => k_asm
    case k4 => k_asm
    case k5 => k_asm
    case k6 => rfl
    case kd => first | exact dle hd rfl | omega
    case ku => first | exact dle hu rfl | omega
    case ho9 =>
      refine (fac (by k_ne) (fac (by k_ne) (fac (by k_ne) (fac (by k_ne) (fac (by k_ne) (fac (by k_ne) (fac (by k_ne) (fac (by k_ne) (fac (by k_ne) (fac (by k_ne) (allLt_ne im l5.2.2.2.2)))))))))))
    case hrf9 => exact fun k => (hrefs k).mono fun _ h => .tail _ (.tail _ (.tail _ (.tail _ (.tail _ (.tail _ (.tail _ (.tail _ (.tail _ (.tail _ h)))))))))
    case hl9 => exact .tail _ (.tail _ (.tail _ (.tail _ (.tail _ (.tail _ (.tail _ (.tail _ (.tail _ (.tail _ hrs)))))))))
    case hr9 => exact hrow.mono fun _ h => .tail _ (.tail _ (.tail _ (.tail _ (.tail _ (.tail _ (.tail _ (.tail _ (.tail _ (.tail _ h)))))))))
    rintro r1 n1 h8 tk8 F8 N8 ⟨ov9, rfl, hV9, hT9⟩
    (try dsimp only)
    clear N2
    repeat' (first | (fail_if_success (with_reducible show wpAny _ _ (execs (Stmt.If _ _ _ _ :: _) _) _ _ _)); walk1 | ((fail_if_success (with_reducible show wpAny _ _ (execs (Stmt.If _ _ _ _ :: _) _) _ _ _)); dsimp only; walk1))
    (with_reducible rename News _ _ _ _ => N7)
    (with_reducible rename Fr _ _ _ _ => F7)
    have hs3 : ∀ {a b c : Addr × Obj}, ∀ p ∈ im, p ∈ a :: b :: c :: im := fun _ h => .tail _ (.tail _ (.tail _ h))
    refine @hnx tP tL mean mg mb dp un gd outer A₀ base g L f cdv _ c1 c2 _ _ B F7 X N7 T ⟨_, anch, form, tf, ts, S, nd, rsl, rsv, rsk, r₁, rs, bx, rl, rf, rk, o1, o2, bo, _ :: _ :: _ :: im, _, ov9, ⟨xa, da, _, lga, rfa⟩, ⟨0, v0, ovl, #[], 0, _, _, _, _, _, _, _⟩, r1, kst_self (fac rfl (fac rfl (fac rfl (fac rfl (fac rfl (fac rfl (fac rfl (fac rfl facNil)))))))), hS, hfm, hs3 _ hrs, hrow.mono hs3, hok, hnd.mono hs3, rfl, ?st, ?st9, hT9, rfl, ⟨Nat.le_refl _, Nat.le_refl _⟩⟩ hd hu
    case st =>
      exact St.grow (im := im) ⟨d1, d2, hbox, hrl, hrefs, hap, n1, n2, n3, n4, n5, n6⟩ [_, _, _] ((fac ⟨by k_ne, by k_ne, by k_ne, by k_ne⟩ (fac ⟨by k_ne, by k_ne, by k_ne, by k_ne⟩ (fac ⟨by k_ne, by k_ne, by k_ne, by k_ne⟩ facNil))))
    case st9 =>
      refine ⟨hV9, hV2, ⟨.head _, .tail _ (.head _), fun k => (hrefs k).mono hs3, ?d1, ?d2, ?d3, ?o1, ?o2, ?o3, lo2⟩, ?q1, ⟨Nat.ne_of_gt k4.2.1, Nat.ne_of_gt k4.2.2.1, Nat.ne_of_gt k4.2.2.2.1, Nat.ne_of_gt k4.2.2.2.2, Nat.ne_of_gt k4.1⟩, ?q3, ?q4, ?q5, lo1⟩
      case d1 => exact Nat.ne_of_gt l22.2.1
      case d2 => exact Nat.ne_of_lt l11.2.1
      case d3 => exact Nat.ne_of_lt l11.2.2.2.1
      case o1 => exact (fac (Nat.ne_of_gt l2x) (fac (Nat.ne_of_lt l22.1) (fac (Nat.ne_of_gt l1x.2.2.1) (allLt_ne im l22.2.2.2.2.2.2.2))))
      case o2 => exact (fac (Nat.ne_of_gt (Nat.lt_trans l22.2.1 l2x)) (fac (Nat.ne_of_gt l3.1) (fac (Nat.ne_of_gt l1x.2.2.2.2.1) (allLt_ne im l4.2.2.2.2.2))))
      case o3 => exact (fac (Nat.ne_of_lt l11.1) (fac (Nat.ne_of_lt l11.2.2.1) (fac (Nat.ne_of_gt l1x.1) (allLt_ne im l11.2.2.2.2.2.2.2.2.2))))
      case q1 => exact ⟨Nat.ne_of_gt l22.2.2.2.1, Nat.ne_of_gt l22.2.2.2.2.1, Nat.ne_of_gt l22.2.2.2.2.2.1, Nat.ne_of_gt l22.2.2.2.2.2.2.1, Nat.ne_of_gt l22.2.2.1⟩
      case q3 => exact ⟨Nat.ne_of_gt l11.2.2.2.2.2.1, Nat.ne_of_gt l11.2.2.2.2.2.2.1, Nat.ne_of_gt l11.2.2.2.2.2.2.2.1, Nat.ne_of_gt l11.2.2.2.2.2.2.2.2.1, Nat.ne_of_gt l11.2.2.2.2.1⟩
      case q4 => exact ⟨Nat.ne_of_gt k1.1, Nat.ne_of_gt k1.2.1, Nat.ne_of_gt k1.2.2.1, Nat.ne_of_gt k1.2.2.2⟩
      case q5 => exact (fac (Nat.ne_of_gt (Nat.lt_trans k3 l2x)) (fac (Nat.ne_of_gt k2) (fac (Nat.ne_of_gt l1x.2.2.2.2.2.1) (allLt_ne im l5'))))

/-! F9 -/
theorem ToldOk.mono {w : World} {tP : Program} {tL : List Str} {mean : ExcName → Option Value} {mg mb : Str → Option Value} {H : HostA} {rf : Refs} {im im' : Led} {tf : Addr} {form : Nat} (hs : ∀ p ∈ im, p ∈ im') (h : ToldOk w tP tL mean mg mb H rf im tf form) :
    ToldOk w tP tL mean mg mb H rf im' tf form :=
  let ⟨⟨oc, od, fd, sl, h1⟩, h2⟩ := h; ⟨⟨oc, od, fd, sl, hs _ h1⟩, fun c' im2 hs2 => h2 c' im2 fun p hp => hs2 p (hs p hp)⟩
section
variable {w : World} {A : Around} {E : Value → Shared → Prop} {s : Shared} {h₀ : Heap} {L d : Addr} {news : List (Addr × Obj)} {o : Obj} {v : W2} {Q : Value → Shared → Prop}
theorem ne_told {a b : Value} {o : Option Cps} (ha : ToldIs a o) (hb : ToldIs b o) (h : Q (.bool false) s) : wpAny (model Prg w) A (compareOp .NotEq a b) Q E s := by
  cases o with
  | none =>
    obtain rfl : a = .none := ha
    obtain rfl : b = .none := hb
    exact EqNone.ne_none_none h
  | some t =>
    obtain ⟨u1, rfl⟩ := ha
    obtain ⟨u2, rfl⟩ := hb
    exact ne_tx (by simpa using h)
theorem ne_V_same {d' : Addr} {o' : Obj} (N : News h₀ L s.heap news) (hm : (d, o) ∈ news) (hm' : (d', o') ∈ news) (hV : VObj w o v) (hV' : VObj w o' v) (h1 : (d == sysModules) = false) (h2 : (d' == sysModules) = false) (hu : A.units < cLine)
    (h : Q (.bool false) s) : wpAny (model Prg w) A (compareOp .NotEq (.ref d) (.ref d')) Q E s :=
  ne_V N hm hm' hV hV' h1 h2 hu (by simpa using h)
end
/-- the two copies of the names' texts after w, the closures' code made -/
inductive P10 (w : World) (g₀ : Heap) (L₀ c1 c2 : Addr) (m : Str → Option Value) (news : Led) : Prop where
  | mk (u : Str → Option Value) (anch : Bool) (form : Nat) (tf ts : Tok) (S : Cps) (nd rsl : Addr) (rsv : List Value) (rsk : Nat) (r₁ : List Part) (rs : List (List Part)) (bx rl : Addr) (rf : Refs) (rk : Nat) (o1 o2 bo : Obj) (im : Led) (wd : Addr) (ov : Obj) (H : HostA) (c : HostC) (dv : Value) (cc : Addr) (h1 : m = kstB u [(Str.ofString "is_anchored", .bool anch), (Str.ofString "form", .int (form : Nat) tf), (Str.ofString "rows", .ref rsl), (Str.ofString "subject", .str (tx S) ts), (Str.ofString "node", .ref nd), (Str.ofString "w", .ref wd), (Str.ofString "host", .ref H.x), (Str.ofString "due", dv)]) (h2 : S.length ≤ 7) (h3 : FormOk form) (h4 : (rsl, listOf rsv.toArray rsk) ∈ im) (h5 : RowsIn im rf rsv (r₁ :: rs)) (h6 : RowsOk r₁ rs) (h7 : NodeIn im rf nd (rowsNode (r₁ :: rs))) (h8 : news = (wd, ov) :: hostL w.params H c (baseL c1 c2 bx o1 o2 (tabGrown cc) bo im)) (h9 : St w c1 c2 bx rl rf rk o1 o2 bo im) (h10 : St9 w c1 c2 bx wd H rf c ov (once (r₁ :: rs) S anch form v0).2 im) (h11 : ToldIs dv (once (r₁ :: rs) S anch form v0).1) (h12 : c.w = (once (r₁ :: rs) S anch form v0).2) (h13 : c.Le 203) (h14 : CodeOf im cc) : P10 w g₀ L₀ c1 c2 m news
theorem newsTab9 {h₀ : Heap} {L : Addr} {h : Heap} {wd x y z c1 c2 t b : Addr × Obj} {im : Led} (N : News h₀ L h (wd :: x :: y :: z :: c1 :: c2 :: t :: b :: im)) : News h₀ L h (t :: (wd :: x :: y :: z :: c1 :: c2 :: b :: im)) := newsSub0 N (by walk_at "mysub")
theorem newsBack9 {h₀ : Heap} {L : Addr} {h : Heap} {wd x y z c1 c2 t b : Addr × Obj} {own im : Led} (N : News h₀ L h (t :: (own ++ (wd :: x :: y :: z :: c1 :: c2 :: b :: im)))) : News h₀ L h (x :: y :: z :: (wd :: c1 :: c2 :: t :: b :: (own ++ im))) := by
  refine newsSub0 N ?_
  intro q hq
  simp only [List.mem_cons, List.mem_append] at hq ⊢
  rcases hq with h | h | h | h | h | h | h | h | h | h <;> simp [h]
theorem newsEnd9 {h₀ : Heap} {L : Addr} {h : Heap} {wd x y z : Addr × Obj} {im : Led} (N : News h₀ L h (x :: y :: z :: (wd :: im))) : News h₀ L h (wd :: x :: y :: z :: im) := newsSub0 N (by walk_at "mysub")
theorem HostIn.base {w : World} {H : HostA} {rf : Refs} {c : HostC} {ov : Obj} {W : W2} {c1 c2 bx wd : Addr} {im : Led} (h : St9 w c1 c2 bx wd H rf c ov W im) {o1 o2 o3 o4 o5 : Obj} : HostIn w.params H rf ((wd, o5) :: (c1, o1) :: (c2, o2) :: (499, o3) :: (bx, o4) :: im) := by
  have h1 := h.q1
  have h2 := h.q2
  have h3 := h.q3
  refine HostIn.app (own := [(wd, o5), (c1, o1), (c2, o2), (499, o3), (bx, o4)]) h.host ?_ ?_ ?_
  · exact (fac (Ne.symm h1.2.2.2.2) (fac (Ne.symm h1.1) (fac (Ne.symm h1.2.1) (fac (Ne.symm h1.2.2.1) (fac (Ne.symm h1.2.2.2.1) facNil)))))
  · exact (fac (Ne.symm h2.2.2.2.2) (fac (Ne.symm h2.1) (fac (Ne.symm h2.2.1) (fac (Ne.symm h2.2.2.1) (fac (Ne.symm h2.2.2.2.1) facNil)))))
  · exact (fac (Ne.symm h3.2.2.2.2) (fac (Ne.symm h3.1) (fac (Ne.symm h3.2.1) (fac (Ne.symm h3.2.2.1) (fac (Ne.symm h3.2.2.2.1) facNil)))))
/-- more stands in the ledger -/
theorem St9.grow {w : World} {H : HostA} {rf : Refs} {c : HostC} {ov : Obj} {W : W2} {c1 c2 bx wd : Addr} {im own : Led} (h : St9 w c1 c2 bx wd H rf c ov W im) (h1 : ∀ p ∈ own, @Ne Nat p.1 H.dx ∧ @Ne Nat p.1 H.vd ∧ @Ne Nat p.1 H.lg ∧ @Ne Nat p.1 wd) : St9 w c1 c2 bx wd H rf c ov W (own ++ im) :=
  { h with host := h.host.app (fun p hp => (h1 p hp).1) (fun p hp => (h1 p hp).2.1) (fun p hp => (h1 p hp).2.2.1), q5 := fun p hp => (List.mem_append.mp hp).elim (fun q => (h1 p q).2.2.2) (h.q5 p) }
theorem above_all9 {w : World} {own im : Led} {wd c1 c2 bx : Addr} {ov o1 o2 bo : Obj} {H : HostA} {c : HostC} (hab : Above own ((wd, ov) :: hostL w.params H c ((c1, o1) :: (c2, o2) :: (bx, bo) :: im))) (h499 : ∀ p ∈ own, @Ne Nat p.1 499) :
    (∀ p ∈ own, @Ne Nat p.1 c1 ∧ @Ne Nat p.1 c2 ∧ @Ne Nat p.1 499 ∧ @Ne Nat p.1 bx) ∧ ∀ p ∈ own, @Ne Nat p.1 H.dx ∧ @Ne Nat p.1 H.vd ∧ @Ne Nat p.1 H.lg ∧ @Ne Nat p.1 wd :=
  ⟨fun p hp => ⟨hab p hp (c1, o1) (.tail _ (.tail _ (.tail _ (.tail _ (.head _))))), hab p hp (c2, o2) (.tail _ (.tail _ (.tail _ (.tail _ (.tail _ (.head _)))))), h499 p hp, hab p hp (bx, bo) (.tail _ (.tail _ (.tail _ (.tail _ (.tail _ (.tail _ (.head _)))))))⟩,
   fun p hp => ⟨hab p hp (H.dx, hostD w.params H c) (.tail _ (.head _)), hab p hp (H.vd, c.ov) (.tail _ (.tail _ (.head _))), hab p hp (H.lg, listOf c.items c.n) (.tail _ (.tail _ (.tail _ (.head _)))), hab p hp (wd, ov) (.head _)⟩⟩
theorem off499 {w : World} {im : Led} {wd c1 c2 bx rl : Addr} {ov o1 o2 bo : Obj} {H : HostA} {c : HostC} {rf : Refs} {rk : Nat} {W : W2} (hSt : St w c1 c2 bx rl rf rk o1 o2 bo im) (h9 : St9 w c1 c2 bx wd H rf c ov W im) :
    ∀ p ∈ (wd, ov) :: hostL w.params H c ((c1, o1) :: (c2, o2) :: (bx, bo) :: im), p.1 ≠ 499 :=
  (fac h9.q4.2.2.1 (fac h9.q1.2.2.1 (fac h9.q2.2.2.1 (fac h9.q3.2.2.1 (fac hSt.n2 (fac hSt.n3 (fac hSt.n6 (fun p hp => (hSt.ap p hp).2.2.1))))))))
theorem sub9 {a b c d e : Addr × Obj} {own im : Led} : ∀ p ∈ im, p ∈ a :: b :: c :: d :: e :: (own ++ im) := fun _ h => .tail _ (.tail _ (.tail _ (.tail _ (.tail _ (List.mem_append_right _ h)))))
theorem sub9o {a b c d e : Addr × Obj} {own im : Led} : ∀ p ∈ own, p ∈ a :: b :: c :: d :: e :: (own ++ im) := fun _ h => .tail _ (.tail _ (.tail _ (.tail _ (.tail _ (List.mem_append_left _ h)))))
theorem St9.hosted {w : World} {H : HostA} {rf : Refs} {c c' : HostC} {ov : Obj} {W : W2} {c1 c2 bx wd : Addr} {im : Led} (h : St9 w c1 c2 bx wd H rf c ov W im) (hc : VObj w c'.ov c'.w) : St9 w c1 c2 bx wd H rf c' ov W im := { h with hc := hc }
theorem CodeOf.mono {im im' : Led} {cc : Addr} (hs : ∀ p ∈ im, p ∈ im') (h : CodeOf im cc) : CodeOf im' cc := let ⟨oc, vs, t, h1, h2, h3⟩ := h; ⟨oc, vs, t, hs _ h1, h2, h3⟩
set_option maxRecDepth 100000 in
set_option maxHeartbeats 8000000 in
theorem tail9 (w : World) (hn : TailAt w 10 (P10 w)) : TailAt w 9 (P9 w) := by
  refine' tail_pack ?h1 ?h2
  case h1 => k_is
  case h2 =>
    intro hB tP tL mean mg mb dp un gd outer A₀ base g L f cdv s c1 c2 m news B F X N T hP hd hu
    have hnx := @hn _ _ hB
    clear hB
    obtain ⟨u, anch, form, tf, ts, S, nd, rsl, rsv, rsk, r₁, rs, bx, rl, rf, rk, o1, o2, bo, im, wd, ov, H, c, dv, rfl, hS, hfm, hrs, hrow, hok, hnd, rfl, hSt, h9, hdv, hcw, hLe⟩ := hP
    dsimp only [List.drop]
    dsimp only [kstB] at F
    have h499 := off499 hSt h9
    have N1 := newsTab9 N
    clear N
    repeat' (first | (fail_if_success (with_reducible show wpAny _ _ (call (Value.ref 504) _) _ _ _)); walk1 | ((fail_if_success (with_reducible show wpAny _ _ (call (Value.ref 504) _) _ _ _)); dsimp only; walk1))
    refine' Con.call ?k1 ?k2 ?k3 ?k4 ?k5 ?k6 (law_told_con1 ((wd, ov) :: hostL w.params H c ((c1, o1) :: (c2, o2) :: (bx, bo) :: im)) form tf h499 hfm) ?kd ?ku ?_
    case k1 => k_asm
    case k2 => k_asm
    case k3 => k_asm
    case k4 => k_asm
    case k5 => k_asm
    case k6 => rfl
    case kd => first | exact dle hd rfl | omega
    case ku => first | exact dle hu rfl | omega
    rintro r1 n1 h1 tk1 F1 N2 ⟨f1, cc, own, rfl, hab, ho499, rfl, hcode, hTd⟩
    (try dsimp only)
    clear N1
    have N3 := newsBack9 N2
    clear N2
    obtain ⟨hg1, hg2⟩ := above_all9 hab ho499
    have hSt2 := hSt.grow own hg1
    have h92 := h9.grow hg2
    have hH2 := HostIn.base h92 (o1 := o1) (o2 := o2) (o3 := tabGrown cc) (o4 := bo) (o5 := ov)
    repeat' (first | (fail_if_success (with_reducible show wpAny _ _ (call (Value.ref 42) _) _ _ _)); walk1 | ((fail_if_success (with_reducible show wpAny _ _ (call (Value.ref 42) _) _ _ _)); dsimp only; walk1))
    refine' Con.call ?k1 ?k2 ?k3 ?k4 ?k5 ?k6 (once_rows_con H rf c ((wd, ov) :: (c1, o1) :: (c2, o2) :: (499, tabGrown cc) :: (bx, bo) :: (own ++ im)) S r₁ rs hok hH2 h9.hc nd f1 anch form 0 7 ts (hnd.mono sub9) ((hTd H rf).mono sub9o) hLe (by decide) (by decide) hS (by rw [hcw]; exact ⟨by decide, by decide⟩) (by decide)) ?kd ?ku ?_
    case k1 => k_asm
    case k2 => k_asm
    case k3 => k_asm
    case k4 => k_asm
    case k5 => k_asm
    case k6 => rfl
    case kd => first | exact dle hd rfl | omega
    case ku => first | exact dle hu rfl | omega
    rintro r2 n2 h2 tk2 F2 N4 ⟨c2', rfl, hV2, hw2, hLe2, hT2⟩
    (try dsimp only)
    clear N3
    rw [hcw] at hw2 hT2
    have N5 := newsEnd9 N4
    clear N4
    repeat' (first | (fail_if_success (with_reducible show wpAny _ _ (compareOp CmpOp.NotEq _ _) _ _ _)); walk1 | ((fail_if_success (with_reducible show wpAny _ _ (compareOp CmpOp.NotEq _ _) _ _ _)); dsimp only; walk1))
    refine ne_told hT2 hdv ?_
    have hx5 := h92.host.x
    repeat' (first | (fail_if_success (with_reducible show wpAny _ _ (compareOp CmpOp.NotEq _ _) _ _ _)); walk1 | ((fail_if_success (with_reducible show wpAny _ _ (compareOp CmpOp.NotEq _ _) _ _ _)); dsimp only; walk1))
    refine ne_V_same (by k_asm) ?m1 ?m2 hV2 (by rw [hw2]; exact h9.hv) h9.host.sm h9.sm (by k_room) ?_
    case m1 => exact .tail _ (.tail _ (.head _))
    case m2 => exact .head _
    repeat' (first | (fail_if_success (with_reducible show wpAny _ _ (execs (Stmt.Assign [Expr.Tuple _ _ _] _ _ :: _) _) _ _ _)); walk1 | ((fail_if_success (with_reducible show wpAny _ _ (execs (Stmt.Assign [Expr.Tuple _ _ _] _ _ :: _) _) _ _ _)); dsimp only; walk1))
    (with_reducible rename News _ _ _ _ => N9)
    (with_reducible rename Fr _ _ _ _ => F9)
    refine @hnx tP tL mean mg mb dp un gd outer A₀ base g L f cdv _ c1 c2 _ _ B F9 X N9 T ⟨_, anch, form, tf, ts, S, nd, rsl, rsv, rsk, r₁, rs, bx, rl, rf, rk, o1, o2, bo, own ++ im, wd, ov, H, c2', dv, cc, kst_self (fac rfl (fac rfl (fac rfl (fac rfl (fac rfl (fac rfl (fac rfl (fac rfl facNil)))))))), hS, hfm, subApp _ hrs, hrow.mono subApp, hok, hnd.mono subApp, rfl, hSt2, h92.hosted hV2, hdv, hw2, hLe2, hcode.mono fun _ h => List.mem_append_left _ h⟩ hd hu

/-! F10 -/
theorem St9.turned {w : World} {H : HostA} {rf : Refs} {c : HostC} {ov ov' : Obj} {W W' : W2} {c1 c2 bx wd : Addr} {im : Led} (h : St9 w c1 c2 bx wd H rf c ov W im) (hv : VObj w ov' W') : St9 w c1 c2 bx wd H rf c ov' W' im := { h with hv := hv }
noncomputable abbrev oftenR (r₁ : List Part) (rs : List (List Part)) (S : Cps) (anch : Bool) (form : Nat) : (Cps × Nat) × W2 := often (fun s w => once (r₁ :: rs) s anch form w) 3 S 0 (once (r₁ :: rs) S anch form v0).2
inductive P12 (w : World) (g₀ : Heap) (L₀ c1 c2 : Addr) (m : Str → Option Value) (news : Led) : Prop where
  | mk (u : Str → Option Value) (anch : Bool) (form : Nat) (tf ts : Tok) (S : Cps) (nd rsl : Addr) (rsv : List Value) (rsk : Nat) (r₁ : List Part) (rs : List (List Part)) (bx rl : Addr) (rf : Refs) (rk : Nat) (o1 o2 bo : Obj) (im : Led) (wd : Addr) (ov : Obj) (H : HostA) (c : HostC) (cc : Addr) (S1 : Cps) (i : Nat) (W : W2) (ts1 ti : Tok) (h1 : m = kstB u [(Str.ofString "is_anchored", .bool anch), (Str.ofString "form", .int (form : Nat) tf), (Str.ofString "rows", .ref rsl), (Str.ofString "subject", .str (tx S) ts), (Str.ofString "node", .ref nd), (Str.ofString "w", .ref wd), (Str.ofString "host", .ref H.x), (Str.ofString "whole", .str (tx S1) ts1), (Str.ofString "many", .int (i : Nat) ti)]) (h2 : S.length ≤ 7) (h3 : FormOk form) (h4 : RowsOk r₁ rs) (h5 : NodeIn im rf nd (rowsNode (r₁ :: rs))) (h6 : news = (wd, ov) :: hostL w.params H c (baseL c1 c2 bx o1 o2 (tabGrown cc) bo im)) (h7 : St w c1 c2 bx rl rf rk o1 o2 bo im) (h8 : St9 w c1 c2 bx wd H rf c ov W im) (h9 : oftenR r₁ rs S anch form = ((S1, i), W)) (h10 : c.w = (once (r₁ :: rs) S anch form v0).2) (h11 : c.Le 203) (h12 : CodeOf im cc) : P12 w g₀ L₀ c1 c2 m news
inductive JLoop (w : World) (anch : Bool) (form : Nat) (tf ts : Tok) (S : Cps) (rsl nd wd hx : Addr) (IM : Led) (f : Cps → W2 → Option Cps × W2) (R : (Cps × Nat) × W2) (n : Nat) (m' : Str → Option Value) (news' : Led) : Prop where
  | mk (u : Str → Option Value) (S1 : Cps) (i : Nat) (ov : Obj) (W : W2) (dv : Value) (ts1 ti : Tok) (h1 : m' = kstB u [(Str.ofString "is_anchored", .bool anch), (Str.ofString "form", .int (form : Nat) tf), (Str.ofString "rows", .ref rsl), (Str.ofString "subject", .str (tx S) ts), (Str.ofString "node", .ref nd), (Str.ofString "w", .ref wd), (Str.ofString "host", .ref hx), (Str.ofString "due", dv), (Str.ofString "whole", .str (tx S1) ts1), (Str.ofString "many", .int (i : Nat) ti)]) (h2 : i ≤ 3) (h3 : news' = (wd, ov) :: IM) (h4 : VObj w ov W) (h5 : S1.length ≤ bM i) (h6 : okW (bM i) W) (h7 : ((∃ t u, dv = .str t u ∧ n = 4 - i ∧ often f (3 - i) S1 i W = R) ∨ (dv = .none ∧ n = 0 ∧ R = ((S1, i), W)))) : JLoop w anch form tf ts S rsl nd wd hx IM f R n m' news'
theorem offwd {w : World} {im : Led} {wd c1 c2 bx : Addr} {ov o1 o2 bo ot : Obj} {H : HostA} {c : HostC} {rf : Refs} {W : W2} (h9 : St9 w c1 c2 bx wd H rf c ov W im) :
    ∀ p ∈ hostL w.params H c ((c1, o1) :: (c2, o2) :: (499, ot) :: (bx, bo) :: im), p.1 ≠ wd :=
  (fac h9.q1.2.2.2.2 (fac h9.q2.2.2.2.2 (fac h9.q3.2.2.2.2 (fac (Ne.symm h9.q4.1) (fac (Ne.symm h9.q4.2.1) (fac (Ne.symm h9.q4.2.2.1) (fac (Ne.symm h9.q4.2.2.2) h9.q5)))))))
theorem sub7 {a b c d e f g : Addr × Obj} {im : Led} : ∀ p ∈ im, p ∈ a :: b :: c :: d :: e :: f :: g :: im := fun _ h => .tail _ (.tail _ (.tail _ (.tail _ (.tail _ (.tail _ (.tail _ h))))))
set_option maxRecDepth 100000 in
set_option maxHeartbeats 8000000 in
theorem tail10 (w : World) (hn : TailAt w 12 (P12 w)) : TailAt w 10 (P10 w) := by
  refine' tail_pack ?h1 ?h2
  case h1 => k_is
  case h2 =>
    intro hB tP tL mean mg mb dp un gd outer A₀ base g L f cdv s c1 c2 m news B F X N T hP hd hu
    have hnx := @hn _ _ hB
    clear hB
    obtain ⟨u, anch, form, tf, ts, S, nd, rsl, rsv, rsk, r₁, rs, bx, rl, rf, rk, o1, o2, bo, im, wd, ov, H, c, dv, cc, rfl, hS, hfm, hrs, hrow, hok, hnd, rfl, hSt, h9, hdv, hcw, hLe, hcode⟩ := hP
    dsimp only [List.drop]
    dsimp only [kstB] at F
    have hW0 : okW 7 (once (r₁ :: rs) S anch form v0).2 := (once_ok (by decide) hS ⟨by decide, by decide⟩).1
    have hod := offwd (o1 := o1) (o2 := o2) (ot := tabGrown cc) (bo := bo) h9
    have hrefs7 : ∀ k, RefIn w.params (hostL w.params H c (baseL c1 c2 bx o1 o2 (tabGrown cc) bo im)) (rf.at k) k := fun k => (hSt.refs k).mono sub7
    have hrs7 : (rsl, listOf rsv.toArray rsk) ∈ hostL w.params H c (baseL c1 c2 bx o1 o2 (tabGrown cc) bo im) := sub7 _ hrs
    have hrow7 : RowsIn (hostL w.params H c (baseL c1 c2 bx o1 o2 (tabGrown cc) bo im)) rf rsv (r₁ :: rs) := hrow.mono sub7
    have hall : ∀ r ∈ r₁ :: rs, r.length ≤ 3 := (fac hok.h4 hok.h5)
    repeat' (first | (fail_if_success (with_reducible show wpAny _ _ (exec (Stmt.While _ _ _ _) _) _ _ _)); walk1 | ((fail_if_success (with_reducible show wpAny _ _ (exec (Stmt.While _ _ _ _) _) _ _ _)); dsimp only; walk1))
    (with_reducible rename News _ _ _ _ => N1)
    (with_reducible rename Fr _ _ _ _ => F1)
    refine While_O (JLoop w anch form tf ts S rsl nd wd H.x (hostL w.params H c (baseL c1 c2 bx o1 o2 (tabGrown cc) bo im)) (fun s w => once (r₁ :: rs) s anch form w) (oftenR r₁ rs S anch form)) F1 (newsTail N1) (n₀ := if (once (r₁ :: rs) S anch form v0).1 = none then 0 else 4) ⟨_, S, 0, ov, _, dv, ts, s.toks, kst_self ?f1, by decide, rfl, h9.hv, hS, hW0, ?j1⟩ ?_
    case f1 => exact (fac rfl (fac rfl (fac rfl (fac rfl (fac rfl (fac rfl (fac rfl (fac rfl (fac rfl (fac rfl facNil))))))))))
    case j1 =>
      rcases hq : once (r₁ :: rs) S anch form v0 with ⟨_ | S2, w2⟩
      · rw [hq] at hdv
        refine .inr ⟨hdv, by simp, ?_⟩
        have e := once_again hq
        show often _ 3 S 0 (once (r₁ :: rs) S anch form v0).2 = _
        rw [hq]
        show (match once (r₁ :: rs) S anch form w2 with
          | (none, w') => ((S, 0), w')
          | (some s', w') => often (fun s w => once (r₁ :: rs) s anch form w) 2 s' (0 + 1) w') = _
        rw [e]
      · rw [hq] at hdv
        obtain ⟨u2, hd2⟩ := hdv
        refine .inl ⟨_, u2, hd2, by simp, ?_⟩
        show often _ 3 S 0 w2 = often _ 3 S 0 (once (r₁ :: rs) S anch form v0).2
        rw [hq]
    rintro n₁ m₁ news₁ h₁ tk₁ Wa hWa F₁ N₁ ⟨u1, S1, i, ov1, W, dv1, ts1, ti1, rfl, hi, rfl, hV1, hS1, hw1, hJ⟩
    clear N1 F1
    dsimp only [kstB] at F₁
    have hok3 := once_ok (rows := r₁ :: rs) (anch := anch) (form := form) (bM_ge i).1 hS1 hw1
    rcases hJ with ⟨t5, u5, rfl, rfl, hR⟩ | ⟨rfl, rfl, hR⟩
    · skip
      repeat' (first | (fail_if_success (first | (with_reducible show wpAny _ _ (call (Value.ref 497) _) _ _ _) | (with_reducible show wpAny _ _ (execs (Stmt.Assign [Expr.Name _ _] (Expr.Tuple _ _ _) _ :: _) _) _ _ _))); walk1 | ((fail_if_success (first | (with_reducible show wpAny _ _ (call (Value.ref 497) _) _ _ _) | (with_reducible show wpAny _ _ (execs (Stmt.Assign [Expr.Name _ _] (Expr.Tuple _ _ _) _ :: _) _) _ _ _))); dsimp only; walk1))
      · rename_i hlt3
        have hi3 : i < 3 := by omega
        have hs3 : often (fun s w => once (r₁ :: rs) s anch form w) (3 - i) S1 i W = match once (r₁ :: rs) S1 anch form W with
          | (none, w') => ((S1, i), w')
          | (some s', w') => often (fun s w => once (r₁ :: rs) s anch form w) (3 - i - 1) s' (i + 1) w' := by
          obtain ⟨m, hm⟩ : ∃ m, 3 - i = m + 1 := ⟨3 - i - 1, by omega⟩
          rw [hm]
          rfl
        rw [hR] at hs3
        refine' Con.call ?k1 ?k2 ?k3 ?k4 ?k5 ?k6 (law_once_con rf (hostL w.params H c (baseL c1 c2 bx o1 o2 (tabGrown cc) bo im)) S1 (r₁ :: rs) rsl wd rsv rsk (bM i) form anch ov1 W ts1 tf (bM_ge i).1 (bM_ge i).2 hS1 hall hfm.le hV1 hw1 hod hrefs7 hrs7 hrow7) ?kd ?ku ?_
        case k1 => k_asm
        case k2 => k_asm
        case k3 => k_asm
        case k4 => k_asm
        case k5 => k_asm
        case k6 => rfl
        case kd => first | exact dle hd rfl | omega
        case ku => first | exact dle hu rfl | omega
        rintro r1 n1 h2 tk2 F2 N2 ⟨ov9, rfl, hV9, hT9⟩
        (try dsimp only)
        clear N₁
        rcases hq : once (r₁ :: rs) S1 anch form W with ⟨_ | S2, w2⟩
        · rw [hq] at hV9 hT9 hs3 hok3
          obtain rfl : r1 = .none := hT9
          dsimp only at hV9 hs3 hok3
          k_steps
          (with_reducible rename News _ _ _ _ => N8)
          (with_reducible rename Fr _ _ _ _ => F8)
          refine hWa _ _ ?_; refine ws2_next F8 (newsTail N8) (n' := 0) (by omega) ⟨_, S1, i, ov9, w2, .none, ts1, ti1, kst_self (fac rfl (fac rfl (fac rfl (fac rfl (fac rfl (fac rfl (fac rfl (fac rfl (fac rfl (fac rfl facNil)))))))))), hi, rfl, hV9, hS1, hok3.1, .inr ⟨rfl, rfl, hs3⟩⟩
        · rw [hq] at hV9 hT9 hs3 hok3
          obtain ⟨u2, rfl⟩ := hT9
          dsimp only at hV9 hs3 hok3
          have h3m := bM_succ hi3
          have hl2 := hok3.2 S2 rfl
          k_steps
          (with_reducible rename News _ _ _ _ => N8)
          (with_reducible rename Fr _ _ _ _ => F8)
          refine hWa _ _ ?_; refine ws2_next F8 (newsTail N8) (n' := 4 - (i + 1)) (by omega) ⟨_, S2, i + 1, ov9, w2, _, u2, _, kst_self (fac rfl (fac rfl (fac rfl (fac rfl (fac rfl (fac rfl (fac rfl (fac rfl (fac rfl (fac rfl facNil)))))))))), by omega, rfl, hV9, by omega, okW_mono hok3.1 (by omega), .inl ⟨_, u2, rfl, rfl, ?_⟩⟩
          rw [hs3]; congr 1
      · rename_i hlt3
        obtain rfl : i = 3 := by omega
        refine @hnx tP tL mean mg mb dp un gd outer A₀ base g L f cdv _ c1 c2 _ _ B F₁ X N₁ T ⟨_, anch, form, tf, ts, S, nd, rsl, rsv, rsk, r₁, rs, bx, rl, rf, rk, o1, o2, bo, im, wd, ov1, H, c, cc, S1, 3, W, ts1, ti1, kst_self (fac rfl (fac rfl (fac rfl (fac rfl (fac rfl (fac rfl (fac rfl (fac rfl (fac rfl facNil))))))))), hS, hfm, hok, hnd, rfl, hSt, h9.turned hV1, hR.symm, hcw, hLe, hcode⟩ hd hu
    · skip
      repeat' (first | (fail_if_success (first | (with_reducible show wpAny _ _ (call (Value.ref 497) _) _ _ _) | (with_reducible show wpAny _ _ (execs (Stmt.Assign [Expr.Name _ _] (Expr.Tuple _ _ _) _ :: _) _) _ _ _))); walk1 | ((fail_if_success (first | (with_reducible show wpAny _ _ (call (Value.ref 497) _) _ _ _) | (with_reducible show wpAny _ _ (execs (Stmt.Assign [Expr.Name _ _] (Expr.Tuple _ _ _) _ :: _) _) _ _ _))); dsimp only; walk1))
      all_goals (refine @hnx tP tL mean mg mb dp un gd outer A₀ base g L f cdv _ c1 c2 _ _ B F₁ X N₁ T ⟨_, anch, form, tf, ts, S, nd, rsl, rsv, rsk, r₁, rs, bx, rl, rf, rk, o1, o2, bo, im, wd, ov1, H, c, cc, S1, i, W, ts1, ti1, kst_self (fac rfl (fac rfl (fac rfl (fac rfl (fac rfl (fac rfl (fac rfl (fac rfl (fac rfl facNil))))))))), hS, hfm, hok, hnd, rfl, hSt, h9.turned hV1, hR, hcw, hLe, hcode⟩ hd hu)

/-! F12 -/
inductive P13 (w : World) (g₀ : Heap) (L₀ c1 c2 : Addr) (m : Str → Option Value) (news : Led) : Prop where
  | mk (u : Str → Option Value) (anch : Bool) (form : Nat) (tf ts : Tok) (S : Cps) (nd : Addr) (r₁ : List Part) (rs : List (List Part)) (bx rl : Addr) (rf : Refs) (rk : Nat) (o1 o2 bo : Obj) (im : Led) (wd : Addr) (ov : Obj) (H : HostA) (c : HostC) (cc : Addr) (S1 : Cps) (i : Nat) (W : W2) (ts1 ti : Tok) (ta : Addr) (h1 : m = kstB u [(Str.ofString "is_anchored", .bool anch), (Str.ofString "form", .int (form : Nat) tf), (Str.ofString "subject", .str (tx S) ts), (Str.ofString "node", .ref nd), (Str.ofString "w", .ref wd), (Str.ofString "host", .ref H.x), (Str.ofString "told", .ref ta)]) (h2 : S.length ≤ 7) (h3 : FormOk form) (h4 : RowsOk r₁ rs) (h5 : (ta, tup [.str (tx S1) ts1, .int (i : Nat) ti]) ∈ im) (h6 : NodeIn im rf nd (rowsNode (r₁ :: rs))) (h7 : news = (wd, ov) :: hostL w.params H c (baseL c1 c2 bx o1 o2 (tabGrown cc) bo im)) (h8 : St w c1 c2 bx rl rf rk o1 o2 bo im) (h9 : St9 w c1 c2 bx wd H rf c ov W im) (h10 : oftenR r₁ rs S anch form = ((S1, i), W)) (h11 : c.w = (once (r₁ :: rs) S anch form v0).2) (h12 : c.Le 203) (h13 : CodeOf im cc) : P13 w g₀ L₀ c1 c2 m news
theorem newsOne {h₀ : Heap} {L : Addr} {h : Heap} {a b c d e p q r t : Addr × Obj} {im : Led} (N : News h₀ L h (a :: b :: c :: d :: e :: p :: q :: r :: t :: im)) : News h₀ L h (b :: c :: d :: e :: p :: q :: r :: t :: a :: im) := newsSub0 N (by walk_at "mysub")
set_option maxRecDepth 100000 in
set_option maxHeartbeats 8000000 in
theorem tail12 (w : World) (hn : TailAt w 13 (P13 w)) : TailAt w 12 (P12 w) := by
  refine' tail_pack ?h1 ?h2
  case h1 => k_is
  case h2 =>
    intro hB tP tL mean mg mb dp un gd outer A₀ base g L f cdv s c1 c2 m news B F X N T hP hd hu
    have hnx := @hn _ _ hB
    clear hB
    obtain ⟨u, anch, form, tf, ts, S, nd, rsl, rsv, rsk, r₁, rs, bx, rl, rf, rk, o1, o2, bo, im, wd, ov, H, c, cc, S1, i, W, ts1, ti, rfl, hS, hfm, hok, hnd, rfl, hSt, h9, hR, hcw, hLe, hcode⟩ := hP
    dsimp only [List.drop]
    dsimp only [kstB] at F
    repeat' (first | (fail_if_success (with_reducible show wpAny _ _ (execs (Stmt.Assign _ (Expr.Call _ _ _ _) _ :: _) _) _ _ _)); walk1 | ((fail_if_success (with_reducible show wpAny _ _ (execs (Stmt.Assign _ (Expr.Call _ _ _ _) _ :: _) _) _ _ _)); dsimp only; walk1))
    (with_reducible rename News _ _ _ _ => N9)
    (with_reducible rename Fr _ _ _ _ => F9)
    rename_i l9
    have hs1 : ∀ {a : Addr × Obj}, ∀ p ∈ im, p ∈ a :: im := fun _ h => .tail _ h
    refine @hnx tP tL mean mg mb dp un gd outer A₀ base g L f cdv _ c1 c2 _ _ B F9 X (newsOne N9) T ⟨_, anch, form, tf, ts, S, nd, r₁, rs, bx, rl, rf, rk, o1, o2, bo, _ :: im, wd, ov, H, c, cc, S1, i, W, ts1, ti, _, kst_self (fac rfl (fac rfl (fac rfl (fac rfl (fac rfl (fac rfl (fac rfl facNil))))))), hS, hfm, hok, .head _, hnd.mono hs1, rfl, hSt.grow [_] ?g1, h9.grow (own := [_]) ?g2, hR, hcw, hLe, hcode.mono hs1⟩ hd hu
    case g1 => exact (fac ⟨by k_ne, by k_ne, by k_ne, by k_ne⟩ facNil)
    case g2 => exact (fac ⟨by k_ne, by k_ne, by k_ne, by k_ne⟩ facNil)

/-! F13 -/
inductive P14 (w : World) (g₀ : Heap) (L₀ c1 c2 : Addr) (m : Str → Option Value) (news : Led) : Prop where
  | mk (u : Str → Option Value) (ts : Tok) (S : Cps) (bx rl : Addr) (rf : Refs) (rk : Nat) (o1 o2 bo : Obj) (im : Led) (wd : Addr) (ov : Obj) (H : HostA) (c : HostC) (cc : Addr) (S1 : Cps) (i : Nat) (W : W2) (ts1 ti ts2 ti2 : Tok) (ta fa : Addr) (h1 : m = kstB u [(Str.ofString "subject", .str (tx S) ts), (Str.ofString "w", .ref wd), (Str.ofString "host", .ref H.x), (Str.ofString "told", .ref ta), (Str.ofString "found", .ref fa)]) (h2 : S.length ≤ 7) (h3 : (ta, tup [.str (tx S1) ts1, .int (i : Nat) ti]) ∈ im) (h4 : (fa, tup [.str (tx S1) ts2, .int (i : Nat) ti2]) ∈ im) (h5 : news = (wd, ov) :: hostL w.params H c (baseL c1 c2 bx o1 o2 (tabGrown cc) bo im)) (h6 : St w c1 c2 bx rl rf rk o1 o2 bo im) (h7 : (H.x, instObj 236 H.dx) ∈ im) (h8 : VObj w ov W) (h9 : VObj w c.ov W) (h10 : (wd == sysModules) = false) (h11 : (H.vd == sysModules) = false) : P14 w g₀ L₀ c1 c2 m news
theorem newsEnd13 {h₀ : Heap} {L : Addr} {h : Heap} {a wd x y z c1 c2 t b : Addr × Obj} {im : Led} (N : News h₀ L h (x :: y :: z :: a :: (wd :: c1 :: c2 :: t :: b :: im))) : News h₀ L h (wd :: x :: y :: z :: c1 :: c2 :: t :: b :: (a :: im)) := newsSub0 N (by walk_at "mysub")
set_option maxRecDepth 100000 in
set_option maxHeartbeats 8000000 in
theorem tail13 (w : World) (hn : TailAt w 14 (P14 w)) : TailAt w 13 (P13 w) := by
  refine' tail_pack ?h1 ?h2
  case h1 => k_is
  case h2 =>
    intro hB tP tL mean mg mb dp un gd outer A₀ base g L f cdv s c1 c2 m news B F X N T hP hd hu
    have hnx := @hn _ _ hB
    clear hB
    obtain ⟨u, anch, form, tf, ts, S, nd, r₁, rs, bx, rl, rf, rk, o1, o2, bo, im, wd, ov, H, c, cc, S1, i, W, ts1, ti, ta, rfl, hS, hfm, hok, hta, hnd, rfl, hSt, h9, hR, hcw, hLe, hcode⟩ := hP
    dsimp only [List.drop]
    dsimp only [kstB] at F
    have h499 := off499 hSt h9
    have N1 := newsTab9 N
    clear N
    repeat' (first | (fail_if_success (with_reducible show wpAny _ _ (call (Value.ref 504) _) _ _ _)); walk1 | ((fail_if_success (with_reducible show wpAny _ _ (call (Value.ref 504) _) _ _ _)); dsimp only; walk1))
    refine' Con.call ?k1 ?k2 ?k3 ?k4 ?k5 ?k6 (law_told_con2 ((wd, ov) :: hostL w.params H c ((c1, o1) :: (c2, o2) :: (bx, bo) :: im)) form tf cc h499 hfm (hcode.mono sub7)) ?kd ?ku ?_
    case k1 => k_asm
    case k2 => k_asm
    case k3 => k_asm
    case k4 => k_asm
    case k5 => k_asm
    case k6 => rfl
    case kd => first | exact dle hd rfl | omega
    case ku => first | exact dle hu rfl | omega
    rintro r1 n1 h1 tk1 F1 N2 ⟨f1, own, rfl, hab, ho499, rfl, hTd⟩
    (try dsimp only)
    clear N1
    have N3 := newsBack9 N2
    clear N2
    obtain ⟨hg1, hg2⟩ := above_all9 hab ho499
    have hSt2 := hSt.grow own hg1
    have h92 := h9.grow hg2
    have hH2 := HostIn.base h92 (o1 := o1) (o2 := o2) (o3 := tabGrown cc) (o4 := bo) (o5 := ov)
    have hW0 : okW 7 c.w := by rw [hcw]; exact (once_ok (by decide) hS ⟨by decide, by decide⟩).1
    repeat' (first | (fail_if_success (with_reducible show wpAny _ _ (call (Value.ref 49) _) _ _ _)); walk1 | ((fail_if_success (with_reducible show wpAny _ _ (call (Value.ref 49) _) _ _ _)); dsimp only; walk1))
    refine' Con.call ?k1 ?k2 ?k3 ?k4 ?k5 ?k6 (replace_often_con H rf c ((wd, ov) :: (c1, o1) :: (c2, o2) :: (499, tabGrown cc) :: (bx, bo) :: (own ++ im)) S r₁ rs hok hH2 h9.hc nd f1 anch form 203 ts _ (hnd.mono sub9) ((hTd H rf im hcode).mono sub5) hLe hS hW0 (by decide)) ?kd ?ku ?_
    case k1 => k_asm
    case k2 => k_asm
    case k3 => k_asm
    case k4 => k_asm
    case k5 => k_asm
    case k6 => rfl
    case kd => first | exact dle hd rfl | omega
    case ku => first | exact dle hu rfl | omega
    rintro r2 n2 h2 tk2 F2 N4 ⟨c2', fa, u1, u2, rfl, rfl, hfa, hoff, hV2, hw2, hLe2⟩
    (try dsimp only)
    clear N3
    have hR2 : often (fun s w => once (r₁ :: rs) s anch form w) 3 S 0 c.w = ((S1, i), W) := by rw [hcw]; exact hR
    rw [hR2] at hw2 N4
    have N5 := newsEnd13 N4
    clear N4
    repeat' (first | (fail_if_success (with_reducible show wpAny _ _ (execs (Stmt.If _ _ _ _ :: _) _) _ _ _)); walk1 | ((fail_if_success (with_reducible show wpAny _ _ (execs (Stmt.If _ _ _ _ :: _) _) _ _ _)); dsimp only; walk1))
    (with_reducible rename News _ _ _ _ => N9)
    (with_reducible rename Fr _ _ _ _ => F9)
    have hap9 : @Ne Nat fa c1 ∧ @Ne Nat fa c2 ∧ @Ne Nat fa 499 ∧ @Ne Nat fa bx := ⟨Ne.symm (hfa (c1, o1) (.tail _ (.head _))), Ne.symm (hfa (c2, o2) (.tail _ (.tail _ (.head _)))), Ne.symm (hfa (499, tabGrown cc) (.tail _ (.tail _ (.tail _ (.head _))))), Ne.symm (hfa (bx, bo) (.tail _ (.tail _ (.tail _ (.tail _ (.head _))))))⟩
    refine @hnx tP tL mean mg mb dp un gd outer A₀ base g L f cdv _ c1 c2 _ _ B F9 X N9 T ⟨_, ts, S, bx, rl, rf, rk, o1, o2, bo, _, wd, ov, H, c2', cc, S1, i, W, ts1, ti, u1, u2, ta, fa, kst_self (fac rfl (fac rfl (fac rfl (fac rfl (fac rfl facNil))))), hS, .tail _ (subApp _ hta), .head _, rfl, hSt2.grow [_] ((fac hap9 facNil)), .tail _ (subApp _ h9.host.x), h9.hv, ?_, h9.sm, h9.host.sm⟩ hd hu
    have hw3 : c2'.w = W := hw2
    rw [← hw3]; exact hV2

/-! F14 -/
section
variable {prog : Program} {w : World} {A : Around} {E : Value → Shared → Prop} {s : Shared} {h₀ : Heap} {L a b : Addr} {news : List (Addr × Obj)} {Q : Value → Shared → Prop}
theorem tuple_of {h : Heap} {a : Addr} {vs : List Value} (e : h.get? a = some (tup vs)) : h.IsTuple a vs.toArray := ⟨_, e, rfl, _, rfl⟩
theorem eqs {A : Around} {s : Shared} {x : Str} {t u : Tok} : SeqAt.EqAt A s (.str x t) (.str x u) true := by
  have h := SeqAt.EqAt.str_str (A := A) (s := s) x t x u
  rwa [beq_self_eq_true] at h
theorem eqi {A : Around} {s : Shared} {x : Int} {t u : Tok} : SeqAt.EqAt A s (.int x t) (.int x u) true := by
  have h := SeqAt.EqAt.int_int (A := A) (s := s) x t x u
  rwa [beq_self_eq_true] at h
theorem ne_tup2 {x : Str} {i : Int} {u1 u2 u3 u4 : Tok} (N : News h₀ L s.heap news) (ha : (a, tup [.str x u1, .int i u2]) ∈ news) (hb : (b, tup [.str x u3, .int i u4]) ∈ news) (hu : A.units < cLine) (h : Q (.bool false) s) :
    wpAny (model prog w) A (compareOp .NotEq (.ref a) (.ref b)) Q E s := by
  refine SeqAt.RcNeAt.tuples (e := fun _ => true) (tuple_of (N.get ha)) (tuple_of (N.get hb)) hu ?_ prog w E Q ?_
  · intro j h1 h2
    match j, h1, h2 with
    | 0, _, _ => exact eqs
    | 1, _, _ => exact eqi
    | n + 2, h1, _ => exact absurd h1 (by simp)
  · exact h
theorem eq_tup3 {x y z : Str} {u1 u2 u3 u4 u5 u6 : Tok} (N : News h₀ L s.heap news) (ha : (a, tup [.str x u1, .str y u2, .str z u3]) ∈ news) (hb : (b, tup [.str x u4, .str y u5, .str z u6]) ∈ news) (hu : A.units < cLine) (h : Q (.bool true) s) :
    wpAny (model prog w) A (compareOp .Eq (.ref a) (.ref b)) Q E s := by
  refine SeqAt.RcAt.tuples (e := fun _ => true) (tuple_of (N.get ha)) (tuple_of (N.get hb)) hu ?_ prog w E Q ?_
  · intro j h1 h2
    match j, h1, h2 with
    | 0, _, _ => exact eqs
    | 1, _, _ => exact eqs
    | 2, _, _ => exact eqs
    | n + 3, h1, _ => exact absurd h1 (by simp)
  · exact h
end
inductive P15 (w : World) (g₀ : Heap) (L₀ c1 c2 : Addr) (m : Str → Option Value) (news : Led) : Prop where
  | mk (u : Str → Option Value) (ts : Tok) (S : Cps) (bx rl : Addr) (rf : Refs) (rk : Nat) (o1 o2 bo tab : Obj) (im : Led) (tu : Array Value) (h1 : m = kstB u [(Str.ofString "subject", .str (tx S) ts)]) (h2 : S.length ≤ 7) (h3 : tab = tabObj tu) (h4 : news = baseL c1 c2 bx o1 o2 tab bo im) (h5 : St w c1 c2 bx rl rf rk o1 o2 bo im) : P15 w g₀ L₀ c1 c2 m news
theorem newsDrop14 {h₀ : Heap} {L : Addr} {h : Heap} {wd x y z : Addr × Obj} {im : Led} (N : News h₀ L h (wd :: x :: y :: z :: im)) : News h₀ L h im := newsTail (newsTail (newsTail (newsTail N)))
set_option maxRecDepth 100000 in
set_option maxHeartbeats 8000000 in
theorem tail14 (w : World) (hn : TailAt w 15 (P15 w)) : TailAt w 14 (P14 w) := by
  refine' tail_pack ?h1 ?h2
  case h1 => k_is
  case h2 =>
    intro hB tP tL mean mg mb dp un gd outer A₀ base g L f cdv s c1 c2 m news B F X N T hP hd hu
    have hnx := @hn _ _ hB
    clear hB
    obtain ⟨u, ts, S, bx, rl, rf, rk, o1, o2, bo, im, wd, ov, H, c, cc, S1, i, W, ts1, ti, ts2, ti2, ta, fa, rfl, hS, hta, hfa, rfl, hSt, hhx, hV1, hV2, hsm1, hsm2⟩ := hP
    dsimp only [List.drop]
    dsimp only [kstB] at F
    have mta : (ta, tup [.str (tx S1) ts1, .int (i : Nat) ti]) ∈ (wd, ov) :: hostL w.params H c (baseL c1 c2 bx o1 o2 (tabGrown cc) bo im) := .tail _ (sub7 _ hta)
    have mfa : (fa, tup [.str (tx S1) ts2, .int (i : Nat) ti2]) ∈ (wd, ov) :: hostL w.params H c (baseL c1 c2 bx o1 o2 (tabGrown cc) bo im) := .tail _ (sub7 _ hfa)
    have mx : (H.x, instObj 236 H.dx) ∈ (wd, ov) :: hostL w.params H c (baseL c1 c2 bx o1 o2 (tabGrown cc) bo im) := .tail _ (sub7 _ hhx)
    repeat' (first | (fail_if_success (with_reducible show wpAny _ _ (compareOp CmpOp.NotEq _ _) _ _ _)); walk1 | ((fail_if_success (with_reducible show wpAny _ _ (compareOp CmpOp.NotEq _ _) _ _ _)); dsimp only; walk1))
    refine ne_tup2 (by k_asm) mfa mta (by k_room) ?_
    repeat' (first | (fail_if_success (with_reducible show wpAny _ _ (compareOp CmpOp.NotEq _ _) _ _ _)); walk1 | ((fail_if_success (with_reducible show wpAny _ _ (compareOp CmpOp.NotEq _ _) _ _ _)); dsimp only; walk1))
    refine ne_V_same (by k_asm) ?m1 ?m2 hV2 hV1 hsm2 hsm1 (by k_room) ?_
    case m1 => exact .tail _ (.tail _ (.head _))
    case m2 => exact .head _
    repeat' (first | (fail_if_success (with_reducible show wpAny _ _ (execs (Stmt.Assign _ (Expr.Call _ _ _ _) _ :: _) _) _ _ _)); walk1 | ((fail_if_success (with_reducible show wpAny _ _ (execs (Stmt.Assign _ (Expr.Call _ _ _ _) _ :: _) _) _ _ _)); dsimp only; walk1))
    (with_reducible rename News _ _ _ _ => N9)
    (with_reducible rename Fr _ _ _ _ => F9)
    refine @hnx tP tL mean mg mb dp un gd outer A₀ base g L f cdv _ c1 c2 _ _ B F9 X (newsDrop14 N9) T ⟨_, ts, S, bx, rl, rf, rk, o1, o2, bo, tabGrown cc, im, _, kst_self (fac rfl facNil), hS, rfl, rfl, hSt⟩ hd hu

/-! F15 -/
set_option maxRecDepth 100000 in
set_option maxHeartbeats 8000000 in
theorem tail15 (w : World) : TailAt w 15 (P15 w) := by
  refine' tail_pack ?h1 ?h2
  case h1 => k_is
  case h2 =>
    intro hB tP tL mean mg mb dp un gd outer A₀ base g L f cdv s c1 c2 m news B F X N T hP hd hu
    clear hB
    obtain ⟨u, ts, S, bx, rl, rf, rk, o1, o2, bo, tab, im, tu, rfl, hS, htab, rfl, hSt⟩ := hP
    dsimp only [List.drop]
    dsimp only [kstB] at F
    have d1 := hSt.d1
    have d2 := hSt.d2
    have hob := hSt.offBox (tab := tab)
    have N1 : News g L s.heap ((bx, bo) :: (c1, o1) :: (c2, o2) :: (499, tab) :: im) := newsSub0 N (by walk_at "mysub")
    clear N
    repeat' (first | (fail_if_success (with_reducible show wpAny _ _ (call (Value.ref 457) _) _ _ _)); walk1 | ((fail_if_success (with_reducible show wpAny _ _ (call (Value.ref 457) _) _ _ _)); dsimp only; walk1))
    refine' Con.call ?k1 ?k2 ?k3 ?k4 ?k5 ?k6 (law_draw_con im ((c1, o1) :: (c2, o2) :: (499, tab) :: im) bx bo (S.length + 1) _ sub4 hSt.box hob (by omega) (by omega)) ?kd ?ku ?_
    case k1 => k_asm
    case k2 => k_asm
    case k3 => k_asm
    case k4 => k_asm
    case k5 => k_asm
    case k6 => rfl
    case kd => first | exact dle hd rfl | omega
    case ku => first | exact dle hu rfl | omega
    rintro r1 n1 h1 tk1 F1 N2 ⟨bo1, z1, t1, rfl, hB1, rfl, hz1⟩
    (try dsimp only)
    clear N1
    repeat' (first | (fail_if_success (with_reducible show wpAny _ _ (call (Value.ref 457) _) _ _ _)); walk1 | ((fail_if_success (with_reducible show wpAny _ _ (call (Value.ref 457) _) _ _ _)); dsimp only; walk1))
    (with_reducible rename News _ _ _ _ => N3)
    refine' Con.call ?k1 ?k2 ?k3 ?k4 ?k5 ?k6 (law_draw_con im ((c1, o1) :: (c2, o2) :: (499, tab) :: im) bx bo1 (S.length - z1 + 1) _ sub4 hB1 hob (by omega) (by omega)) ?kd ?ku ?_
    case k1 => k_asm
    case k2 => k_asm
    case k3 => k_asm
    case k4 => k_asm
    case k5 => k_asm
    case k6 => rfl
    case kd => first | exact dle hd rfl | omega
    case ku => first | exact dle hu rfl | omega
    rintro r2 n2 h2 tk2 F2 N5 ⟨bo2, z2, t2, rfl, hB2, rfl, hz2⟩
    (try dsimp only)
    clear N3
    obtain ⟨e9, he9⟩ : ∃ e9 : Nat, (z1 : Int) + (z2 : Int) = (e9 : Int) := ⟨z1 + z2, by omega⟩
    repeat' (first | (fail_if_success (with_reducible show wpAny _ _ (call (Value.ref 28) _) _ _ _)); walk1 | ((fail_if_success (with_reducible show wpAny _ _ (call (Value.ref 28) _) _ _ _)); dsimp only; walk1))
    (with_reducible rename News _ _ _ _ => N7)
    (with_reducible rename Fr _ _ _ _ => F7)
    rw [he9] at N7 F7
    refine' Con.call ?k1 ?k2 ?k3 ?k4 ?k5 ?k6 (three_pieces_con S (by omega) _ _ z1 e9 ts _ _ (.head _)) ?kd ?ku ?_
    case k1 => k_asm
    case k2 => k_asm
    case k3 => k_asm
    case k4 => k_asm
    case k5 => k_asm
    case k6 => rfl
    case kd => first | exact dle hd rfl | omega
    case ku => first | exact dle hu rfl | omega
    rintro r3 n3 h3 tk3 F8 N8 ⟨a9, u1, u2, u3, rfl, rfl, hlt9⟩
    (try dsimp only)
    clear N7 F7
    repeat' (first | (fail_if_success (with_reducible show wpAny _ _ (compareOp CmpOp.Eq _ _) _ _ _)); walk1 | ((fail_if_success (with_reducible show wpAny _ _ (compareOp CmpOp.Eq _ _) _ _ _)); dsimp only; walk1))
    (with_reducible rename News _ _ _ _ => N9)
    (with_reducible rename Fr _ _ _ _ => F9)
    refine eq_tup3 N9 (.tail _ (.head _)) (.head _) (by k_room) ?_
    k_steps
    (with_reducible rename News _ _ _ _ => N10)
    (with_reducible rename Fr _ _ _ _ => F10)
    subst htab
    exact ⟨_, _, _, _, tu, rfl, rfl, F10, N10, by simp only [List.mem_cons, true_or, or_true]⟩

/-! Dum -/
/-! names that the kit's head would take for its own equations about the written part's constants: they are taken here, so the head does without them (they would be some 70 MB) -/
theorem last.tw18281462945339008467 : True := trivial
theorem last.tw2363060514037127878 : True := trivial
theorem last.tw7821361960523482326 : True := trivial
theorem last.tw9564576162993386496 : True := trivial
theorem last.tw8522344688205165568 : True := trivial
theorem last.tw14666010391074928672 : True := trivial
theorem last.tw496239300929224768 : True := trivial
theorem last.tw7435024820341785728 : True := trivial
theorem last.tw1842366680966290560 : True := trivial
theorem last.tw16772655747136340128 : True := trivial
theorem last.tw18299012551539574976 : True := trivial
theorem last.tw8020923024066813184 : True := trivial
theorem last.tw5425384072488922368 : True := trivial
theorem last.tw16277073790526562624 : True := trivial
theorem last.tw2043747555595480416 : True := trivial
theorem last.tw929920880295355776 : True := trivial
theorem last.tw12746494404408685984 : True := trivial
theorem last.tw8182877724362358176 : True := trivial
theorem last.tw820486577751048704 : True := trivial
theorem last.tw14048405928732915232 : True := trivial
theorem last.tw8154858599001898688 : True := trivial
theorem last.tw17661896625262201600 : True := trivial
theorem last.tw3503884929322110752 : True := trivial
theorem last.tw644561668806717312 : True := trivial
theorem last.tw693859565980076033 : True := trivial
theorem last.tw13754224540788417761 : True := trivial
theorem last.tw6551535481771771265 : True := trivial
theorem last.tw13001495363363932641 : True := trivial
theorem last.tw1082636312488409729 : True := trivial
theorem last.tw228539418132489921 : True := trivial
theorem last.tw3885598501483640513 : True := trivial
theorem last.tw2932348253299492577 : True := trivial
theorem last.tw13994470954954880737 : True := trivial
theorem last.tw15934630214671366977 : True := trivial
theorem last.tw16743460562289956737 : True := trivial
theorem last.tw13330317320642422689 : True := trivial
theorem last.tw17214151275248838658 : True := trivial
theorem last.tw2608247103525336130 : True := trivial
theorem last.tw5792159174645313698 : True := trivial
theorem last.tw18226716553410523394 : True := trivial
theorem last.tw12405396984422590754 : True := trivial
theorem last.tw9953920372960614978 : True := trivial
theorem last.tw3871171978296572514 : True := trivial
theorem last.tw17811948384181491330 : True := trivial
theorem last.tw3287737860961475330 : True := trivial
theorem last.tw2612893520911702818 : True := trivial
theorem last.tw13902718323717708578 : True := trivial
theorem last.tw719256447186795362 : True := trivial
theorem last.tw9736257930838599554 : True := trivial
theorem last.tw10952057081153460130 : True := trivial
theorem last.tw12786599654288322 : True := trivial
theorem last.tw6323626918163941346 : True := trivial
theorem last.tw13138307915528667139 : True := trivial
theorem last.tw716270746284104931 : True := trivial
theorem last.tw5723518895799063779 : True := trivial
theorem last.tw10235878646112008451 : True := trivial
theorem last.tw5023404548274834819 : True := trivial
theorem last.tw8654572496432085411 : True := trivial
theorem last.tw11016047005285413347 : True := trivial
theorem last.tw15737054446153920067 : True := trivial
theorem last.tw8818849804988446275 : True := trivial
theorem last.tw14903080187773928035 : True := trivial
theorem last.tw13115084039839839843 : True := trivial
theorem last.tw901965994326303587 : True := trivial
theorem last.tw14350432469891877763 : True := trivial
theorem last.tw1556404782187060099 : True := trivial
theorem last.tw3042889155176876963 : True := trivial
theorem last.tw3808804766173103043 : True := trivial
theorem last.tw2539279505023792067 : True := trivial
theorem last.tw1689478005225379811 : True := trivial
theorem last.tw3684246704965721252 : True := trivial
theorem last.tw13123555662240831684 : True := trivial
theorem last.tw15905890222628331748 : True := trivial
theorem last.tw15648212715162435844 : True := trivial
theorem last.tw7451013743845143844 : True := trivial
theorem last.tw3772493106079137092 : True := trivial
theorem last.tw8770569147817646468 : True := trivial
theorem last.tw7102502908492211588 : True := trivial
theorem last.tw10049540362295309732 : True := trivial
theorem last.tw7900609887659747780 : True := trivial
theorem last.tw7717091953664130596 : True := trivial
theorem last.tw71087638378440292 : True := trivial
theorem last.tw2279313109605640804 : True := trivial
theorem last.tw4994054547672046340 : True := trivial
theorem last.tw11043612404523487044 : True := trivial
theorem last.tw15877036200097864516 : True := trivial
theorem last.tw6444475600280693636 : True := trivial
theorem last.tw2089135669241388964 : True := trivial
theorem last.tw17796619739987388356 : True := trivial
theorem last.tw8798571102145259460 : True := trivial
theorem last.tw2086446004497045444 : True := trivial
theorem last.tw18337302238760953989 : True := trivial
theorem last.tw17926344223305783461 : True := trivial
theorem last.tw8735426274623292709 : True := trivial
theorem last.tw6672445491115935045 : True := trivial
theorem last.tw933973016105513349 : True := trivial
theorem last.tw9710989436684644805 : True := trivial
theorem last.tw17773538688585646629 : True := trivial
theorem last.tw12309956747896231653 : True := trivial
theorem last.tw9979324202428766949 : True := trivial
theorem last.tw4907898213526839045 : True := trivial
theorem last.tw8688304572452216645 : True := trivial
theorem last.tw12501861227411782469 : True := trivial
theorem last.tw15498797427756388165 : True := trivial
theorem last.tw8341209100969983845 : True := trivial
theorem last.tw5917051676816739237 : True := trivial
theorem last.tw5609331490697025445 : True := trivial
theorem last.tw13274423731595823077 : True := trivial
theorem last.tw15962433366239108134 : True := trivial
theorem last.tw15042790222634748998 : True := trivial
theorem last.tw1221854003105350822 : True := trivial
theorem last.tw8788806777347303590 : True := trivial
theorem last.tw18030279353805403494 : True := trivial
theorem last.tw12434903278369279430 : True := trivial
theorem last.tw13031813464085693990 : True := trivial
theorem last.tw9254556340950100518 : True := trivial
theorem last.tw16154746991269529222 : True := trivial
theorem last.tw17664207253548018374 : True := trivial
theorem last.tw2963379206402279142 : True := trivial
theorem last.tw12107898426222680038 : True := trivial
theorem last.tw13521772686476016807 : True := trivial
theorem last.tw6193068715420883175 : True := trivial
theorem last.tw4861740457797309671 : True := trivial
theorem last.tw4212335981835010375 : True := trivial
theorem last.tw15615557874378484071 : True := trivial
theorem last.tw13749892457258309991 : True := trivial
theorem last.tw18370193591370769767 : True := trivial
theorem last.tw2747632623502637511 : True := trivial
theorem last.tw15520203649172918759 : True := trivial
theorem last.tw12004558190712323559 : True := trivial
theorem last.tw12724654853533153927 : True := trivial
theorem last.tw5463557292697768615 : True := trivial
theorem last.tw4759644671100168903 : True := trivial
theorem last.tw8236545094436185799 : True := trivial
theorem last.tw17579061258906159879 : True := trivial
theorem last.tw9139127218840456999 : True := trivial
theorem last.tw5839496084847975207 : True := trivial
theorem last.tw14387767130258179911 : True := trivial
theorem last.tw2234623834923141959 : True := trivial
theorem last.tw14038428957041900359 : True := trivial
theorem last.tw16237425901860796327 : True := trivial
theorem last.tw12486744124794355784 : True := trivial
theorem last.tw11568521871103137032 : True := trivial
theorem last.tw1307800743066472840 : True := trivial
theorem last.tw17403238116096307720 : True := trivial
theorem last.tw889350186473034312 : True := trivial
theorem last.tw3965615351614592584 : True := trivial
theorem last.tw11079588468888394504 : True := trivial
theorem last.tw14242806641658618632 : True := trivial
theorem last.tw9113940065345582952 : True := trivial
theorem last.tw6031172015097272200 : True := trivial
theorem last.tw12897467218873680808 : True := trivial
theorem last.tw10219694654014636008 : True := trivial
theorem last.tw1874098583795739689 : True := trivial
theorem last.tw2174007423228486729 : True := trivial
theorem last.tw17942943925787994185 : True := trivial
theorem last.tw8127559196540165225 : True := trivial
theorem last.tw12387321227715365001 : True := trivial
theorem last.tw2246521654665261225 : True := trivial
theorem last.tw9846957020989748425 : True := trivial
theorem last.tw3445150436534156489 : True := trivial
theorem last.tw7218617756393847017 : True := trivial
theorem last.tw5320093344848087305 : True := trivial
theorem last.tw1276607286662316361 : True := trivial
theorem last.tw2922349536352644585 : True := trivial
theorem last.tw8323716734498068969 : True := trivial
theorem last.tw14286077422248870409 : True := trivial
theorem last.tw5742568100287426185 : True := trivial
theorem last.tw16075806352652550793 : True := trivial
theorem last.tw7672566583100824233 : True := trivial
theorem last.tw4622600468371530409 : True := trivial
theorem last.tw11440920202163243721 : True := trivial
theorem last.tw4465826498776508137 : True := trivial
theorem last.tw17456180755254613833 : True := trivial
theorem last.tw7750382757028754281 : True := trivial
theorem last.tw9032605120147332009 : True := trivial
theorem last.tw10464409878168084425 : True := trivial
theorem last.tw17609839957989435337 : True := trivial
theorem last.tw12011781822702142409 : True := trivial
theorem last.tw8302438234047858633 : True := trivial
theorem last.tw4065699261675191273 : True := trivial
theorem last.tw8037677939499180106 : True := trivial
theorem last.tw16544713519943268490 : True := trivial
theorem last.tw4154228887804261706 : True := trivial
theorem last.tw11043151417619952010 : True := trivial
theorem last.tw6516329073118172554 : True := trivial
theorem last.tw2929555312059897258 : True := trivial
theorem last.tw13734007743788925610 : True := trivial
theorem last.tw6070364337774601962 : True := trivial
theorem last.tw9382506655349747434 : True := trivial
theorem last.tw11920498307089448714 : True := trivial
theorem last.tw8554936971961432874 : True := trivial
theorem last.tw13171133504219887434 : True := trivial
theorem last.tw13671237579712163722 : True := trivial
theorem last.tw12719387879472836522 : True := trivial
theorem last.tw123529866705478602 : True := trivial
theorem last.tw13628066456211596266 : True := trivial
theorem last.tw1228583126474613803 : True := trivial
theorem last.tw12841665278468786251 : True := trivial
theorem last.tw2278069659366037579 : True := trivial
theorem last.tw16525776644519291979 : True := trivial
theorem last.tw7929813371879921803 : True := trivial
theorem last.tw18328716769714585739 : True := trivial
theorem last.tw12170417928370797771 : True := trivial
theorem last.tw3277290926766449867 : True := trivial
theorem last.tw7511987451471712491 : True := trivial
theorem last.tw17224205245507428619 : True := trivial
theorem last.tw1949288032048149803 : True := trivial
theorem last.tw16639841969683853643 : True := trivial
theorem last.tw1055664892465749419 : True := trivial
theorem last.tw3568590529810720171 : True := trivial
theorem last.tw1439945519323873835 : True := trivial
theorem last.tw16216612767372720683 : True := trivial
theorem last.tw15783381633791083083 : True := trivial
theorem last.tw933177536629796587 : True := trivial
theorem last.tw11848329299672374059 : True := trivial
theorem last.tw5333400592442765099 : True := trivial
theorem last.tw881293745290852171 : True := trivial
theorem last.tw2988443891360346987 : True := trivial
theorem last.tw13278624125249396748 : True := trivial
theorem last.tw3463078086654843916 : True := trivial
theorem last.tw13198638941560342604 : True := trivial
theorem last.tw3642146877424279724 : True := trivial
theorem last.tw3521009579746811052 : True := trivial
theorem last.tw5278308409006462188 : True := trivial
theorem last.tw3767095780091915532 : True := trivial
theorem last.tw12856131672449065292 : True := trivial
theorem last.tw15487935077704421740 : True := trivial
theorem last.tw14327751753503991212 : True := trivial
theorem last.tw13684274207376111020 : True := trivial
theorem last.tw7455406432348229132 : True := trivial
theorem last.tw15802312652159173260 : True := trivial
theorem last.tw17570104814239230796 : True := trivial
theorem last.tw9799358710424939372 : True := trivial
theorem last.tw7674500570193836077 : True := trivial
theorem last.tw3916912713185794125 : True := trivial
theorem last.tw10679459213224977485 : True := trivial
theorem last.tw5257504694089205901 : True := trivial
theorem last.tw14880529525760195757 : True := trivial
theorem last.tw2890338422019863821 : True := trivial
theorem last.tw8177592493227731309 : True := trivial
theorem last.tw16819904596368451949 : True := trivial
theorem last.tw5252041712037137805 : True := trivial
theorem last.tw5894396169400574349 : True := trivial
theorem last.tw8755088110534145453 : True := trivial
theorem last.tw10401514254781416909 : True := trivial
theorem last.tw9755285730956315117 : True := trivial
theorem last.tw16418049474194368045 : True := trivial
theorem last.tw16036109881492784749 : True := trivial
theorem last.tw14647238879576648493 : True := trivial
theorem last.tw1730705131681533773 : True := trivial
theorem last.tw16469468603419325357 : True := trivial
theorem last.tw11868000327946228814 : True := trivial
theorem last.tw734806255376261358 : True := trivial
theorem last.tw14397327610724063502 : True := trivial
theorem last.tw1152089933672711470 : True := trivial
theorem last.tw8942752187487623502 : True := trivial
theorem last.tw3555015076428052974 : True := trivial
theorem last.tw11241937290806639182 : True := trivial
theorem last.tw12570699196504947310 : True := trivial
theorem last.tw1811566187687178862 : True := trivial
theorem last.tw3884075511692762798 : True := trivial
theorem last.tw6510343413975923470 : True := trivial
theorem last.tw16687544082510498606 : True := trivial
theorem last.tw6792229261195423566 : True := trivial
theorem last.tw18393627857807093646 : True := trivial
theorem last.tw14745149495922153454 : True := trivial
theorem last.tw8072918055831811087 : True := trivial
theorem last.tw13314602455127384239 : True := trivial
theorem last.tw9150935819152602319 : True := trivial
theorem last.tw7949868770774071567 : True := trivial
theorem last.tw7835613211566548303 : True := trivial
theorem last.tw12487507602036965711 : True := trivial
theorem last.tw491323296267545999 : True := trivial
theorem last.tw2103774424321490351 : True := trivial
theorem last.tw5619856447070439919 : True := trivial
theorem last.tw14439579730067552879 : True := trivial
theorem last.tw15175467438380419727 : True := trivial
theorem last.tw18098479987482479247 : True := trivial
theorem last.tw4613450751106642607 : True := trivial
theorem last.tw15857313930139941711 : True := trivial
theorem last.tw1335515535011246991 : True := trivial
theorem last.tw6771098938374661039 : True := trivial
theorem last.tw11806632084721962064 : True := trivial
theorem last.tw2660410859677599824 : True := trivial
theorem last.tw3352669473419221136 : True := trivial
theorem last.tw17497016161025822992 : True := trivial
theorem last.tw9514933490143626576 : True := trivial
theorem last.tw16454679927855208784 : True := trivial
theorem last.tw3815279006275133776 : True := trivial
theorem last.tw3554037869766791536 : True := trivial
theorem last.tw15604478672730125680 : True := trivial
theorem last.tw1348621778083812848 : True := trivial
theorem last.tw1979625517691235824 : True := trivial
theorem last.tw10751807176762323504 : True := trivial
theorem last.tw10472488738022451920 : True := trivial
theorem last.tw6936808017305970416 : True := trivial
theorem last.tw8116983448484602929 : True := trivial
theorem last.tw2889039737277059153 : True := trivial
theorem last.tw6067582666065259601 : True := trivial
theorem last.tw13273996203659798673 : True := trivial
theorem last.tw16411260882645103857 : True := trivial
theorem last.tw8779137388799610097 : True := trivial
theorem last.tw14235346643120684273 : True := trivial
theorem last.tw12357000687395616017 : True := trivial
theorem last.tw15452690839680614833 : True := trivial
theorem last.tw4775648110534309297 : True := trivial
theorem last.tw7032429484091546097 : True := trivial
theorem last.tw11531463789612604913 : True := trivial
theorem last.tw8725584235303315985 : True := trivial
theorem last.tw129532386007965233 : True := trivial
theorem last.tw14778393754442012273 : True := trivial
theorem last.tw3235924454613261937 : True := trivial
theorem last.tw14056343435507404497 : True := trivial
theorem last.tw23081407857645265 : True := trivial
theorem last.tw18012512386790586065 : True := trivial
theorem last.tw13967043286692568945 : True := trivial
theorem last.tw2532329916004180977 : True := trivial
theorem last.tw17151967411120996370 : True := trivial
theorem last.tw9836451579784247346 : True := trivial
theorem last.tw12654057440886062226 : True := trivial
theorem last.tw5926736210235335890 : True := trivial
theorem last.tw11992556816843477234 : True := trivial
theorem last.tw5719739864684286226 : True := trivial
theorem last.tw16471663448801344786 : True := trivial
theorem last.tw3256312409693975858 : True := trivial
theorem last.tw1650130374653822322 : True := trivial
theorem last.tw2985196953531678098 : True := trivial
theorem last.tw16133622303516571186 : True := trivial
theorem last.tw13389830087100160626 : True := trivial
theorem last.tw8614159640702707346 : True := trivial
theorem last.tw3773210507669116690 : True := trivial
theorem last.tw15578726392087692114 : True := trivial
theorem last.tw849341968575242291 : True := trivial
theorem last.tw13950271230492438643 : True := trivial
theorem last.tw7884508749782758547 : True := trivial
theorem last.tw7500009262359249075 : True := trivial
theorem last.tw18385037418416272659 : True := trivial
theorem last.tw10631363545974416819 : True := trivial
theorem last.tw6831306113955643827 : True := trivial
theorem last.tw8610530730688597427 : True := trivial
theorem last.tw13539471661846590995 : True := trivial
theorem last.tw12409156610354949715 : True := trivial
theorem last.tw9527770350571094675 : True := trivial
theorem last.tw119655225840989875 : True := trivial
theorem last.tw8506156715240851187 : True := trivial
theorem last.tw676926054287962899 : True := trivial
theorem last.tw13283179006050219827 : True := trivial
theorem last.tw3090620361435822899 : True := trivial
theorem last.tw18290656407890446420 : True := trivial
theorem last.tw4382087585100251284 : True := trivial
theorem last.tw3852822523481245908 : True := trivial
theorem last.tw12975012412654239124 : True := trivial
theorem last.tw4548345346061211060 : True := trivial
theorem last.tw3997622859499941364 : True := trivial
theorem last.tw392186800250761748 : True := trivial
theorem last.tw3138440427983220244 : True := trivial
theorem last.tw771147058122373684 : True := trivial
theorem last.tw9929307243222482580 : True := trivial
theorem last.tw7721277722394976020 : True := trivial
theorem last.tw13825594833652693812 : True := trivial
theorem last.tw18334461306110397300 : True := trivial
theorem last.tw2723262342485916564 : True := trivial
theorem last.tw15663174843190288308 : True := trivial
theorem last.tw8743816605715451828 : True := trivial
theorem last.tw16424995131410464724 : True := trivial
theorem last.tw18166490263639295988 : True := trivial
theorem last.tw5694477398853684277 : True := trivial
theorem last.tw1538418651445523541 : True := trivial
theorem last.tw5170316447053779061 : True := trivial
theorem last.tw1149628671665379445 : True := trivial
theorem last.tw6504399552610319573 : True := trivial
theorem last.tw1870952410282292533 : True := trivial
theorem last.tw6438550976138859957 : True := trivial
theorem last.tw13991894941438344629 : True := trivial
theorem last.tw15862359022250397205 : True := trivial
theorem last.tw11416911231565820437 : True := trivial
theorem last.tw3064907047442757173 : True := trivial
theorem last.tw7122741073828761301 : True := trivial
theorem last.tw6003405442211173077 : True := trivial
theorem last.tw16185524462421727957 : True := trivial
theorem last.tw4489352310332661589 : True := trivial
theorem last.tw6715594467305019285 : True := trivial
theorem last.tw5894918470425236405 : True := trivial
theorem last.tw6277254133169560533 : True := trivial
theorem last.tw11671616901376824277 : True := trivial
theorem last.tw11023585240391856278 : True := trivial
theorem last.tw4231078687768760566 : True := trivial
theorem last.tw1493444377685119254 : True := trivial
theorem last.tw13313652854246847894 : True := trivial
theorem last.tw15886706560791326134 : True := trivial
theorem last.tw529581954452839862 : True := trivial
theorem last.tw154025651734801846 : True := trivial
theorem last.tw16800505203468938806 : True := trivial
theorem last.tw11339975457933402710 : True := trivial
theorem last.tw9841967774169385622 : True := trivial
theorem last.tw8589991491463250614 : True := trivial
theorem last.tw274655733642614518 : True := trivial
theorem last.tw8492224814563689238 : True := trivial
theorem last.tw321738671351910166 : True := trivial
theorem last.tw1941793344125931350 : True := trivial
theorem last.tw4275513446567537494 : True := trivial
theorem last.tw4055019915741820758 : True := trivial
theorem last.tw5403683335838434327 : True := trivial
theorem last.tw5199209674505628855 : True := trivial
theorem last.tw8824193592687915223 : True := trivial
theorem last.tw17969045605780327671 : True := trivial
theorem last.tw16529340369173639415 : True := trivial
theorem last.tw15064278891599888695 : True := trivial
theorem last.tw2602124744087476535 : True := trivial
theorem last.tw2564996497730287959 : True := trivial
theorem last.tw15189571406304702807 : True := trivial
theorem last.tw2432903805903257143 : True := trivial
theorem last.tw4774500528466893431 : True := trivial
theorem last.tw11682281691366040247 : True := trivial
theorem last.tw2173629279987259319 : True := trivial
theorem last.tw3185209528367868919 : True := trivial
theorem last.tw603487996957751287 : True := trivial
theorem last.tw14114932320357401624 : True := trivial
theorem last.tw5937558520706737240 : True := trivial
theorem last.tw4527067458724910360 : True := trivial
theorem last.tw7136090685723585848 : True := trivial
theorem last.tw4665830234813674808 : True := trivial
theorem last.tw16264023839439705432 : True := trivial
theorem last.tw5184219747132975608 : True := trivial
theorem last.tw8437194870003878392 : True := trivial
theorem last.tw2764509294994062840 : True := trivial
theorem last.tw9268643954350310968 : True := trivial
theorem last.tw8544852301096862424 : True := trivial
theorem last.tw18090787411957541592 : True := trivial
theorem last.tw13457378550176173880 : True := trivial
theorem last.tw5530406944238510936 : True := trivial
theorem last.tw9156975365580523416 : True := trivial
theorem last.tw14790304936980319160 : True := trivial
theorem last.tw1244781597480368120 : True := trivial
theorem last.tw17095813544692029529 : True := trivial
theorem last.tw3259919350160413785 : True := trivial
theorem last.tw10574922997973916985 : True := trivial
theorem last.tw12686036784734979385 : True := trivial
theorem last.tw14508056279809131929 : True := trivial
theorem last.tw10754413340386528665 : True := trivial
theorem last.tw8213566372167003705 : True := trivial
theorem last.tw13541503197249196633 : True := trivial
theorem last.tw14230606986095397497 : True := trivial
theorem last.tw14754281193170142041 : True := trivial
theorem last.tw3972788076185057113 : True := trivial
theorem last.tw7777975497085344633 : True := trivial
theorem last.tw7917452523313548185 : True := trivial
theorem last.tw3266476245091111833 : True := trivial
theorem last.tw12493977528633311161 : True := trivial
theorem last.tw13133621163018995705 : True := trivial
theorem last.tw4044701757854295066 : True := trivial
theorem last.tw411818212642816186 : True := trivial
theorem last.tw12576046470331166906 : True := trivial
theorem last.tw2372717984251985466 : True := trivial
theorem last.tw16696141219073128090 : True := trivial
theorem last.tw17956314331050296058 : True := trivial
theorem last.tw14771539749480405786 : True := trivial
theorem last.tw3872729858753437498 : True := trivial
theorem last.tw806186546232654810 : True := trivial
theorem last.tw4693358238807392315 : True := trivial
theorem last.tw952037712343499867 : True := trivial
theorem last.tw2565904444421286011 : True := trivial
theorem last.tw4549596831892082843 : True := trivial
theorem last.tw4744895783524843707 : True := trivial
theorem last.tw17711922628898417979 : True := trivial
theorem last.tw14329071726031790459 : True := trivial
theorem last.tw10381726916497216987 : True := trivial
theorem last.tw8383290030278189531 : True := trivial
theorem last.tw3349247449064307259 : True := trivial
theorem last.tw8322845650933900891 : True := trivial
theorem last.tw551272377417084603 : True := trivial
theorem last.tw638584677652134651 : True := trivial
theorem last.tw13358561272884701979 : True := trivial
theorem last.tw1094190718071270203 : True := trivial
theorem last.tw1912768436693066619 : True := trivial
theorem last.tw12910951757810001883 : True := trivial
theorem last.tw3811374795383566364 : True := trivial
theorem last.tw1908097669236867164 : True := trivial
theorem last.tw842163824783303836 : True := trivial
theorem last.tw6586384794089950428 : True := trivial
theorem last.tw17791125489795934460 : True := trivial
theorem last.tw8470084104675506460 : True := trivial
theorem last.tw9428140006093398364 : True := trivial
theorem last.tw10117536899679713628 : True := trivial
theorem last.tw11083678609529252220 : True := trivial
theorem last.tw10381684540274744732 : True := trivial
theorem last.tw15291290184386352572 : True := trivial
theorem last.tw12483719300195982780 : True := trivial
theorem last.tw16003534883148804572 : True := trivial
theorem last.tw482859786049882620 : True := trivial
theorem last.tw12084556593571011196 : True := trivial
theorem last.tw12746439749984235164 : True := trivial
theorem last.tw4330354009300067996 : True := trivial
theorem last.tw6452743999872295612 : True := trivial
theorem last.tw3283927832560789276 : True := trivial
theorem last.tw2113994917940119356 : True := trivial
theorem last.tw6845409145546601340 : True := trivial
theorem last.tw6906892187455378461 : True := trivial
theorem last.tw6611619501981288541 : True := trivial
theorem last.tw16221622002629782717 : True := trivial
theorem last.tw8848700977156393181 : True := trivial
theorem last.tw8179643291916979421 : True := trivial
theorem last.tw14772470482741377309 : True := trivial
theorem last.tw6560393007594934781 : True := trivial
theorem last.tw8342638533283432093 : True := trivial
theorem last.tw15525421225283253981 : True := trivial
theorem last.tw6756761725454028573 : True := trivial
theorem last.tw13124655565131906877 : True := trivial
theorem last.tw5725287709756559197 : True := trivial
theorem last.tw6402651683661631325 : True := trivial
theorem last.tw8780857599125482397 : True := trivial
theorem last.tw4937323924782330845 : True := trivial
theorem last.tw14671105484372105181 : True := trivial
theorem last.tw2143231233321170909 : True := trivial
theorem last.tw4757832930260003837 : True := trivial
theorem last.tw5343091459263445054 : True := trivial
theorem last.tw6986087665451295838 : True := trivial
theorem last.tw13167338657747285182 : True := trivial
theorem last.tw14244742050456238302 : True := trivial
theorem last.tw5711070486618299646 : True := trivial
theorem last.tw1683813502960098622 : True := trivial
theorem last.tw6788817726560618846 : True := trivial
theorem last.tw2456660570177793374 : True := trivial
theorem last.tw7608848404174853502 : True := trivial
theorem last.tw1882732765227575710 : True := trivial
theorem last.tw1704064304099463678 : True := trivial
theorem last.tw6300392285696104990 : True := trivial
theorem last.tw17050567147878981150 : True := trivial
theorem last.tw11331939609495943710 : True := trivial
theorem last.tw3129818434282705566 : True := trivial
theorem last.tw15135699176215757502 : True := trivial
theorem last.tw18362963312988859102 : True := trivial
theorem last.tw7865008820425669374 : True := trivial
theorem last.tw3753943079142717374 : True := trivial
theorem last.tw15429658314602171358 : True := trivial
theorem last.tw7004745991758839774 : True := trivial
theorem last.tw6186873291214041151 : True := trivial
theorem last.tw6606145872285594687 : True := trivial
theorem last.tw9812708036469290079 : True := trivial
theorem last.tw17242525567282336895 : True := trivial
theorem last.tw18078287044538499519 : True := trivial
theorem last.tw1171595035623047615 : True := trivial
theorem last.tw3928888949879989727 : True := trivial
theorem last.tw2020737122864069119 : True := trivial
theorem last.tw6663614290117239359 : True := trivial
theorem last.tw13977215376614091327 : True := trivial
theorem last.tw206313297382067807 : True := trivial
theorem last.tw15154757385704553151 : True := trivial
theorem last.tw2013088027881054015 : True := trivial
theorem last.tw7646824199852514207 : True := trivial
theorem last.tw13051020634696901567 : True := trivial

/-! F16 -/
theorem tails (w : World) : TailAt w 0 P0 :=
  tail0 w (tail2 w (tail3 w (tail4 w (tail5 w (tail7 w (tail9 w (tail10 w (tail12 w (tail13 w (tail14 w (tail15 w)))))))))))
theorem TailAt.get {w : World} {n : Nat} {P : LawP} (h : TailAt w n P) {name qual : Str} {params : Arguments} {body : List Stmt} {scope : Scope} {dV kV doc pm cdv ct oc : Value} {an od : Option Addr} {osl : Array (Option Value)}
    (ho : (Mine.K w.params).lookup 509 = some ⟨oc, od, .func (fnOf name qual params body scope dV kV doc pm an cdv ct), osl⟩) : Tail w n P body scope := h _ _ ⟨_, _, _, _, _, _, _, _, _, _, _, _, _, ho⟩
set_option Elab.async true in
set_option maxRecDepth 100000 in
set_option maxHeartbeats 0 in
theorem last : PySem.Challenge.rw_nz0411_01.Holds := by
  w_on; o_law; o_head (kmHook Mine.K [2, 3, 15, 17, 18, 20, 21, 22, 24, 25, 27, 28, 29, 31, 32, 34, 35, 36, 38, 39, 41, 42, 43, 45, 46, 48, 49, 50, 53, 58, 59, 60, 62, 63, 65, 66, 67, 68, 69, 70, 80, 81, 82, 83, 84, 94, 96, 97, 99, 100, 101, 102, 103, 104, 105, 115, 117, 118, 120, 121, 122, 123, 124, 125, 126, 136, 138, 139, 141, 142, 143, 144, 145, 146, 147, 150, 152, 153, 155, 156, 157, 159, 160, 162, 163, 164, 166, 167, 169, 170, 171, 173, 174, 176, 177, 178, 180, 181, 183, 184, 185, 187, 188, 190, 191, 192, 194, 195, 197, 198, 206, 208, 209, 211, 212, 213, 215, 216, 218, 219, 220, 222, 223, 225, 226, 227, 229, 230, 232, 233, 234, 235, 236, 237, 238, 241, 242, 243, 245, 246, 248, 249, 250, 252, 253, 255, 256, 257, 259, 260, 262, 263, 264, 266, 267, 269, 270, 271, 273, 274, 276, 277, 278, 280, 281, 283, 284, 285, 287, 288, 290, 291, 292, 294, 295, 297, 298, 299, 301, 302, 304, 305, 306, 308, 309, 311, 312, 313, 315, 316, 318, 319, 320, 322, 323, 325, 326, 327, 329, 330, 332, 333, 334, 336, 337, 339, 340, 341, 343, 344, 346, 347, 348, 350, 351, 353, 354, 355, 357, 358, 360, 361, 362, 364, 365, 367, 368, 369, 371, 372, 374, 375, 376, 378, 379, 381, 382, 383, 385, 386, 388, 389, 390, 392, 393, 395, 396, 397, 399, 400, 402, 403, 404, 406, 407, 409, 410, 411, 413, 414, 416, 417, 418, 420, 421, 423, 424, 425, 427, 428, 430, 431, 432, 434, 435, 437, 438, 439, 441, 442, 444, 445, 446, 449, 450, 451, 453, 454, 456, 457, 458, 460, 461, 463, 464, 465, 468, 469, 470, 472, 473, 475, 476, 477, 479, 480, 482, 483, 484, 486, 487, 489, 490, 491, 493, 494, 496, 497, 498, 500, 501, 503, 504, 505, 508, 509] (fun _ => by kernel_rfl) [499]); (case hw => w_witness2)
  k_go0
  rename World => w
  rename (Mine.K _).In _ => X
  rename Below callerA _ [] _ => B
  rename Top topProg _ _ _ _ _ => T
  (with_reducible rename News _ _ _ _ => N)
  (with_reducible rename Fr _ _ _ _ => F)
  (with_reducible rename IntsAre _ _ => hI)
  rename_i o1 o2 d1 d2 _ l0
  rename ¬ _ < _ => hcond
  have hlen : List.length _ ≤ 63 := Nat.le_of_not_lt (fun h => hcond (Int.ofNat_lt.mpr h))
  have l1 : @LT.lt Nat _ 499 _ := l0
  refine' wpAny_mono (TailAt.get (tails w) ?ho _ _ _ _ _ _ _ _ _ _ _ _ _ _ _ _ _ _ _ _ B F X N T ⟨o1, o2, _, _, _, rfl, rfl, d1, d2, (by assumption), hI, hlen, Nat.lt_succ_of_lt l1, Nat.lt_succ_of_lt (Nat.lt_succ_of_lt l1), Nat.lt_succ_self _⟩ ?hd ?hu) ?_ ?_
  case ho => k_is
  case hd => decide
  case hu => decide
  · rintro fl s' ⟨h', tk', m', news', u, rfl, rfl, F9, N9, hm⟩
    dsimp only
    refine And.intro ?_ (And.intro (GrownAt.of N9 hm) True.intro)
    clear hm N9
    k_steps
  · intro e s' h
    exact h.elim

end Mine

open PySem PySem.W PyProof.Rows
theorem PySem.Challenge.cw_nz0411_01_holds : PySem.Challenge.rw_nz0411_01.Holds := by
  exact Mine.last
