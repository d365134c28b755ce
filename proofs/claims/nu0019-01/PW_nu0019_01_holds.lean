import PyProof.Rows.All
import PyProof.ZipIter
import KE.KItemsList
import Wide.All
import OpenK.AllK
import Wide.FinOn
import PySem.Challenge.RW_nu0019_01
open PySem PySem.W PyProof.Rows PySem.Calls
set_option Elab.async false
set_option genInjectivity false
set_option genSizeOf false
set_option compiler.extract_closed false
set_option maxRecDepth 100000
set_option maxHeartbeats 8000000
set_option linter.all false
set_option rowWalk.seconds 0
namespace Mine
noncomputable abbrev PG : Program := Challenge.rw_nu0019_01.row.prog
noncomputable def stAt (i : Nat) : Stmt := PG.main.body.getD i (.Pass default)
noncomputable def fnAt (i c j : Nat) : Stmt := match c, stAt i with
  | 0, s => s
  | _, .ClassDef _ _ _ b _ _ _ _ _ _ _ => b.getD j (.Pass default)
  | _, s => s
noncomputable def fnParts : Stmt → Option (Arguments × List Stmt × Scope)
  | .FunctionDef _ a b _ _ _ s _ _ _ => some (a, b, s)
  | _ => none
noncomputable def viewX : Program := by
  refine' (fun (s0 : Stmt) (_ : s0 = stAt 0) (s2 : Stmt) (_ : s2 = stAt 2) (s3 : Stmt) (_ : s3 = stAt 3) (s5 : Stmt) (_ : s5 = stAt 5) (s6 : Stmt) (_ : s6 = stAt 6) (s7 : Stmt) (_ : s7 = stAt 7) (s8 : Stmt) (_ : s8 = stAt 8) (s9 : Stmt) (_ : s9 = stAt 9) (s10 : Stmt) (_ : s10 = stAt 10) (s11 : Stmt) (_ : s11 = stAt 11) (s12 : Stmt) (_ : s12 = stAt 12) (s13 : Stmt) (_ : s13 = stAt 13) (s15 : Stmt) (_ : s15 = stAt 15) (s16 : Stmt) (_ : s16 = stAt 16) (s17 : Stmt) (_ : s17 = stAt 17) (s19 : Stmt) (_ : s19 = stAt 19) (s21 : Stmt) (_ : s21 = stAt 21) (s22 : Stmt) (_ : s22 = stAt 22) (s23 : Stmt) (_ : s23 = stAt 23) (s24 : Stmt) (_ : s24 = stAt 24) (s26 : Stmt) (_ : s26 = stAt 26) (s27 : Stmt) (_ : s27 = stAt 27) (s28 : Stmt) (_ : s28 = stAt 28) (s29 : Stmt) (_ : s29 = stAt 29) (s30 : Stmt) (_ : s30 = stAt 30) (s31 : Stmt) (_ : s31 = stAt 31) (s32 : Stmt) (_ : s32 = stAt 32) (s33 : Stmt) (_ : s33 = stAt 33) => { PG with main := { PG.main with body := [s0, s2, s3, s5, s6, s7, s8, s9, s10, s11, s12, s13, s15, s16, s17, s19, s21, s22, s23, s24, s26, s27, s28, s29, s30, s31, s32, s33] } }) _ ?h0 _ ?h2 _ ?h3 _ ?h5 _ ?h6 _ ?h7 _ ?h8 _ ?h9 _ ?h10 _ ?h11 _ ?h12 _ ?h13 _ ?h15 _ ?h16 _ ?h17 _ ?h19 _ ?h21 _ ?h22 _ ?h23 _ ?h24 _ ?h26 _ ?h27 _ ?h28 _ ?h29 _ ?h30 _ ?h31 _ ?h32 _ ?h33
  case h0 =>
    conv =>
      rhs
      whnf
  case h2 =>
    conv =>
      rhs
      whnf
  case h3 =>
    conv =>
      rhs
      whnf
  case h5 =>
    conv =>
      rhs
      whnf
  case h6 =>
    conv =>
      rhs
      whnf
  case h7 =>
    conv =>
      rhs
      whnf
  case h8 =>
    conv =>
      rhs
      whnf
  case h9 =>
    conv =>
      rhs
      whnf
  case h10 =>
    conv =>
      rhs
      whnf
  case h11 =>
    conv =>
      rhs
      whnf
  case h12 =>
    conv =>
      rhs
      whnf
  case h13 =>
    conv =>
      rhs
      whnf
  case h15 =>
    conv =>
      rhs
      whnf
  case h16 =>
    conv =>
      rhs
      whnf
  case h17 =>
    conv =>
      rhs
      whnf
  case h19 =>
    conv =>
      rhs
      whnf
  case h21 =>
    conv =>
      rhs
      whnf
  case h22 =>
    conv =>
      rhs
      whnf
  case h23 =>
    conv =>
      rhs
      whnf
  case h24 =>
    conv =>
      rhs
      whnf
  case h26 =>
    conv =>
      rhs
      whnf
  case h27 =>
    conv =>
      rhs
      whnf
  case h28 =>
    conv =>
      rhs
      whnf
  case h29 =>
    conv =>
      rhs
      whnf
  case h30 =>
    conv =>
      rhs
      whnf
  case h31 =>
    conv =>
      rhs
      whnf
  case h32 =>
    conv =>
      rhs
      whnf
  case h33 =>
    conv =>
      rhs
      whnf
noncomputable def heapY : Params → Frag := by
  intro PPP
  refine' (fun (p21 : Arguments) (b21 : List Stmt) (s21 : Scope) (_ : fnParts (fnAt 0 0 0) = some (p21, b21, s21)) (p35 : Arguments) (b35 : List Stmt) (s35 : Scope) (_ : fnParts (fnAt 2 1 0) = some (p35, b35, s35)) (p61 : Arguments) (b61 : List Stmt) (s61 : Scope) (_ : fnParts (fnAt 6 0 0) = some (p61, b61, s61)) (p68 : Arguments) (b68 : List Stmt) (s68 : Scope) (_ : fnParts (fnAt 7 0 0) = some (p68, b68, s68)) (p75 : Arguments) (b75 : List Stmt) (s75 : Scope) (_ : fnParts (fnAt 8 0 0) = some (p75, b75, s75)) (p82 : Arguments) (b82 : List Stmt) (s82 : Scope) (_ : fnParts (fnAt 9 0 0) = some (p82, b82, s82)) (p89 : Arguments) (b89 : List Stmt) (s89 : Scope) (_ : fnParts (fnAt 10 0 0) = some (p89, b89, s89)) (p96 : Arguments) (b96 : List Stmt) (s96 : Scope) (_ : fnParts (fnAt 11 0 0) = some (p96, b96, s96)) (p103 : Arguments) (b103 : List Stmt) (s103 : Scope) (_ : fnParts (fnAt 12 0 0) = some (p103, b103, s103)) (p110 : Arguments) (b110 : List Stmt) (s110 : Scope) (_ : fnParts (fnAt 13 0 0) = some (p110, b110, s110)) (p124 : Arguments) (b124 : List Stmt) (s124 : Scope) (_ : fnParts (fnAt 15 1 0) = some (p124, b124, s124)) (p131 : Arguments) (b131 : List Stmt) (s131 : Scope) (_ : fnParts (fnAt 15 1 1) = some (p131, b131, s131)) (p138 : Arguments) (b138 : List Stmt) (s138 : Scope) (_ : fnParts (fnAt 15 1 2) = some (p138, b138, s138)) (p145 : Arguments) (b145 : List Stmt) (s145 : Scope) (_ : fnParts (fnAt 15 1 3) = some (p145, b145, s145)) (p159 : Arguments) (b159 : List Stmt) (s159 : Scope) (_ : fnParts (fnAt 16 0 0) = some (p159, b159, s159)) (p166 : Arguments) (b166 : List Stmt) (s166 : Scope) (_ : fnParts (fnAt 17 0 0) = some (p166, b166, s166)) (p174 : Arguments) (b174 : List Stmt) (s174 : Scope) (_ : fnParts (fnAt 18 0 0) = some (p174, b174, s174)) (p179 : Arguments) (b179 : List Stmt) (s179 : Scope) (_ : fnParts (fnAt 19 0 0) = some (p179, b179, s179)) (p186 : Arguments) (b186 : List Stmt) (s186 : Scope) (_ : fnParts (fnAt 22 0 0) = some (p186, b186, s186)) (p200 : Arguments) (b200 : List Stmt) (s200 : Scope) (_ : fnParts (fnAt 23 1 0) = some (p200, b200, s200)) (p207 : Arguments) (b207 : List Stmt) (s207 : Scope) (_ : fnParts (fnAt 23 1 1) = some (p207, b207, s207)) (p214 : Arguments) (b214 : List Stmt) (s214 : Scope) (_ : fnParts (fnAt 23 1 2) = some (p214, b214, s214)) (p221 : Arguments) (b221 : List Stmt) (s221 : Scope) (_ : fnParts (fnAt 23 1 3) = some (p221, b221, s221)) (p228 : Arguments) (b228 : List Stmt) (s228 : Scope) (_ : fnParts (fnAt 23 1 4) = some (p228, b228, s228)) (p235 : Arguments) (b235 : List Stmt) (s235 : Scope) (_ : fnParts (fnAt 23 1 5) = some (p235, b235, s235)) (p242 : Arguments) (b242 : List Stmt) (s242 : Scope) (_ : fnParts (fnAt 23 1 6) = some (p242, b242, s242)) (p249 : Arguments) (b249 : List Stmt) (s249 : Scope) (_ : fnParts (fnAt 23 1 7) = some (p249, b249, s249)) (p256 : Arguments) (b256 : List Stmt) (s256 : Scope) (_ : fnParts (fnAt 23 1 8) = some (p256, b256, s256)) (p270 : Arguments) (b270 : List Stmt) (s270 : Scope) (_ : fnParts (fnAt 24 0 0) = some (p270, b270, s270)) (p277 : Arguments) (b277 : List Stmt) (s277 : Scope) (_ : fnParts (fnAt 26 0 0) = some (p277, b277, s277)) (p284 : Arguments) (b284 : List Stmt) (s284 : Scope) (_ : fnParts (fnAt 27 0 0) = some (p284, b284, s284)) (p291 : Arguments) (b291 : List Stmt) (s291 : Scope) (_ : fnParts (fnAt 28 0 0) = some (p291, b291, s291)) (p298 : Arguments) (b298 : List Stmt) (s298 : Scope) (_ : fnParts (fnAt 29 0 0) = some (p298, b298, s298)) (p305 : Arguments) (b305 : List Stmt) (s305 : Scope) (_ : fnParts (fnAt 30 0 0) = some (p305, b305, s305)) (p312 : Arguments) (b312 : List Stmt) (s312 : Scope) (_ : fnParts (fnAt 31 0 0) = some (p312, b312, s312)) (p319 : Arguments) (b319 : List Stmt) (s319 : Scope) (_ : fnParts (fnAt 32 0 0) = some (p319, b319, s319)) (p324 : Arguments) (b324 : List Stmt) (s324 : Scope) (_ : fnParts (fnAt 33 0 0) = some (p324, b324, s324)) => ((
    (nat_lit 2, ({ cls := PySem.Value.none, data := PySem.Data.dict #[{ hash := PySem.PyData.keyHash PPP (PySem.Str.ofString "type.__subclasses__.Exception.0"), key := PySem.Value.str (PySem.Str.ofString "type.__subclasses__.Exception.0") 221, val := PySem.Value.int 38 0 }, { hash := PySem.PyData.keyHash PPP (PySem.Str.ofString "type.__subclasses__.Exception.n"), key := PySem.Value.str (PySem.Str.ofString "type.__subclasses__.Exception.n") 222, val := PySem.Value.int 1 0 }] 2 } : Obj)) ::
    (nat_lit 3, ({ cls := PySem.Value.type "dict", data := PySem.Data.dict #[{ hash := PySem.PyData.keyHash PPP (PySem.Str.ofString "__name__"), key := PySem.Value.str (PySem.Str.ofString "__name__") 165, val := PySem.Value.str (PySem.Str.ofString "law_nu0019_01") 574 }, { hash := PySem.PyData.keyHash PPP (PySem.Str.ofString "__doc__"), key := PySem.Value.str (PySem.Str.ofString "__doc__") 166, val := PySem.Value.none }, { hash := PySem.PyData.keyHash PPP (PySem.Str.ofString "__package__"), key := PySem.Value.str (PySem.Str.ofString "__package__") 167, val := PySem.Value.none }, { hash := PySem.PyData.keyHash PPP (PySem.Str.ofString "__loader__"), key := PySem.Value.str (PySem.Str.ofString "__loader__") 168, val := PySem.Value.builtin "__main__.__loader__#opaque" }, { hash := PySem.PyData.keyHash PPP (PySem.Str.ofString "__spec__"), key := PySem.Value.str (PySem.Str.ofString "__spec__") 169, val := PySem.Value.none }, { hash := PySem.PyData.keyHash PPP (PySem.Str.ofString "__annotations__"), key := PySem.Value.str (PySem.Str.ofString "__annotations__") 170, val := PySem.Value.ref 6 }, { hash := PySem.PyData.keyHash PPP (PySem.Str.ofString "__builtins__"), key := PySem.Value.str (PySem.Str.ofString "__builtins__") 171, val := PySem.Value.ref 4 }, { hash := PySem.PyData.keyHash PPP (PySem.Str.ofString "__file__"), key := PySem.Value.str (PySem.Str.ofString "__file__") 173, val := PySem.Value.str (PySem.Str.ofString "/claim/cut.py") 172 }, { hash := PySem.PyData.keyHash PPP (PySem.Str.ofString "__cached__"), key := PySem.Value.str (PySem.Str.ofString "__cached__") 174, val := PySem.Value.none }, { hash := PySem.PyData.keyHash PPP (PySem.Str.ofString "_wall"), key := PySem.Value.str (PySem.Str.ofString "_wall") 193, val := PySem.Value.ref 21 }, { hash := PySem.PyData.keyHash PPP (PySem.Str.ofString "MillError"), key := PySem.Value.str (PySem.Str.ofString "MillError") 224, val := PySem.Value.ref 38 }, { hash := PySem.PyData.keyHash PPP (PySem.Str.ofString "SizeFault"), key := PySem.Value.str (PySem.Str.ofString "SizeFault") 240, val := PySem.Value.ref 51 }, { hash := PySem.PyData.keyHash PPP (PySem.Str.ofString "RULES"), key := PySem.Value.str (PySem.Str.ofString "RULES") 245, val := PySem.Value.ref 54 }, { hash := PySem.PyData.keyHash PPP (PySem.Str.ofString "is_inside"), key := PySem.Value.str (PySem.Str.ofString "is_inside") 253, val := PySem.Value.ref 61 }, { hash := PySem.PyData.keyHash PPP (PySem.Str.ofString "step_of"), key := PySem.Value.str (PySem.Str.ofString "step_of") 261, val := PySem.Value.ref 68 }, { hash := PySem.PyData.keyHash PPP (PySem.Str.ofString "ceiling"), key := PySem.Value.str (PySem.Str.ofString "ceiling") 269, val := PySem.Value.ref 75 }, { hash := PySem.PyData.keyHash PPP (PySem.Str.ofString "column_behind"), key := PySem.Value.str (PySem.Str.ofString "column_behind") 279, val := PySem.Value.ref 82 }, { hash := PySem.PyData.keyHash PPP (PySem.Str.ofString "check_rule"), key := PySem.Value.str (PySem.Str.ofString "check_rule") 286, val := PySem.Value.ref 89 }, { hash := PySem.PyData.keyHash PPP (PySem.Str.ofString "steps_of_row"), key := PySem.Value.str (PySem.Str.ofString "steps_of_row") 297, val := PySem.Value.ref 96 }, { hash := PySem.PyData.keyHash PPP (PySem.Str.ofString "spans_by"), key := PySem.Value.str (PySem.Str.ofString "spans_by") 311, val := PySem.Value.ref 103 }, { hash := PySem.PyData.keyHash PPP (PySem.Str.ofString "sample_spans"), key := PySem.Value.str (PySem.Str.ofString "sample_spans") 323, val := PySem.Value.ref 110 }, { hash := PySem.PyData.keyHash PPP (PySem.Str.ofString "Side"), key := PySem.Value.str (PySem.Str.ofString "Side") 386, val := PySem.Value.ref 148 }, { hash := PySem.PyData.keyHash PPP (PySem.Str.ofString "side_between"), key := PySem.Value.str (PySem.Str.ofString "side_between") 394, val := PySem.Value.ref 159 }, { hash := PySem.PyData.keyHash PPP (PySem.Str.ofString "sides_of_contour"), key := PySem.Value.str (PySem.Str.ofString "sides_of_contour") 407, val := PySem.Value.ref 166 }, { hash := PySem.PyData.keyHash PPP (PySem.Str.ofString "sides_of"), key := PySem.Value.str (PySem.Str.ofString "sides_of") 418, val := PySem.Value.ref 174 }, { hash := PySem.PyData.keyHash PPP (PySem.Str.ofString "sides_between"), key := PySem.Value.str (PySem.Str.ofString "sides_between") 424, val := PySem.Value.ref 179 }, { hash := PySem.PyData.keyHash PPP (PySem.Str.ofString "FULL_ALPHA"), key := PySem.Value.str (PySem.Str.ofString "FULL_ALPHA") 428, val := PySem.Value.int 255 427 }, { hash := PySem.PyData.keyHash PPP (PySem.Str.ofString "rounded_share"), key := PySem.Value.str (PySem.Str.ofString "rounded_share") 436, val := PySem.Value.ref 186 }, { hash := PySem.PyData.keyHash PPP (PySem.Str.ofString "Mask"), key := PySem.Value.str (PySem.Str.ofString "Mask") 556, val := PySem.Value.ref 259 }, { hash := PySem.PyData.keyHash PPP (PySem.Str.ofString "mask_of"), key := PySem.Value.str (PySem.Str.ofString "mask_of") 573, val := PySem.Value.ref 270 }, { hash := PySem.PyData.keyHash PPP (PySem.Str.ofString "_law_pool"), key := PySem.Value.str (PySem.Str.ofString "_law_pool") 586, val := PySem.Value.ref 277 }, { hash := PySem.PyData.keyHash PPP (PySem.Str.ofString "_law_take"), key := PySem.Value.str (PySem.Str.ofString "_law_take") 595, val := PySem.Value.ref 284 }, { hash := PySem.PyData.keyHash PPP (PySem.Str.ofString "_law_one"), key := PySem.Value.str (PySem.Str.ofString "_law_one") 603, val := PySem.Value.ref 291 }, { hash := PySem.PyData.keyHash PPP (PySem.Str.ofString "_law_winding"), key := PySem.Value.str (PySem.Str.ofString "_law_winding") 620, val := PySem.Value.ref 298 }, { hash := PySem.PyData.keyHash PPP (PySem.Str.ofString "_law_count"), key := PySem.Value.str (PySem.Str.ofString "_law_count") 637, val := PySem.Value.ref 305 }, { hash := PySem.PyData.keyHash PPP (PySem.Str.ofString "_law_alpha"), key := PySem.Value.str (PySem.Str.ofString "_law_alpha") 646, val := PySem.Value.ref 312 }, { hash := PySem.PyData.keyHash PPP (PySem.Str.ofString "_law_by_hand"), key := PySem.Value.str (PySem.Str.ofString "_law_by_hand") 661, val := PySem.Value.ref 319 }, { hash := PySem.PyData.keyHash PPP (PySem.Str.ofString "law"), key := PySem.Value.str (PySem.Str.ofString "law") 667, val := PySem.Value.ref 324 }] 38 } : Obj)) ::
    (nat_lit 15, ({ cls := PySem.Value.type "tuple", data := PySem.Data.seq #[] } : Obj)) ::
    (nat_lit 17, ({ cls := PySem.Value.type "tuple", data := PySem.Data.seq #[PySem.Value.str (PySem.Str.ofString "k") 190] } : Obj)) ::
    (nat_lit 18, ({ cls := PySem.Value.type "tuple", data := PySem.Data.seq #[] } : Obj)) ::
    (nat_lit 20, ({ cls := PySem.Value.type "code", data := PySem.Data.fields #[PySem.Value.str (PySem.Str.ofString "_wall") 187, PySem.Value.str (PySem.Str.ofString "_wall") 188, PySem.Value.str (PySem.Str.ofString "/claim/cut.py") 189, PySem.Value.int 1 0, PySem.Value.int 1 0, PySem.Value.int 0 0, PySem.Value.int 0 0, PySem.Value.int 3 0, PySem.Value.ref 15, PySem.Value.bool Bool.true, PySem.Value.int 181 0, PySem.Value.ref 16, PySem.Value.none, PySem.Value.ref 17, PySem.Value.ref 18, PySem.Value.ref 19, PySem.Value.int 191 0, PySem.Value.int 1 0, PySem.Value.str (PySem.Str.ofString "/claim/cut.py") 192] } : Obj)) ::
    (nat_lit 21, ({ cls := PySem.Value.type "function", data := PySem.Data.func { name := PySem.Str.ofString "_wall", qualname := PySem.Str.ofString "_wall", params := p21, body := PySem.FuncBody.stmts b21, scope := s21, globals := 3, closure := [], defaults := PySem.Value.none, kwdefaults := PySem.Value.none, pyModule := PySem.Value.str (PySem.Str.ofString "__main__") 164, code := PySem.Value.ref 20 } } : Obj)) ::
    (nat_lit 22, ({ cls := PySem.Value.type "tuple", data := PySem.Data.seq #[PySem.Value.type "Exception"] } : Obj)) ::
    (nat_lit 29, ({ cls := PySem.Value.type "tuple", data := PySem.Data.seq #[] } : Obj)) ::
    (nat_lit 31, ({ cls := PySem.Value.type "tuple", data := PySem.Data.seq #[PySem.Value.str (PySem.Str.ofString "self") 211, PySem.Value.str (PySem.Str.ofString "message") 212] } : Obj)) ::
    (nat_lit 32, ({ cls := PySem.Value.type "tuple", data := PySem.Data.seq #[] } : Obj)) ::
    (nat_lit 34, ({ cls := PySem.Value.type "code", data := PySem.Data.fields #[PySem.Value.str (PySem.Str.ofString "__init__") 208, PySem.Value.str (PySem.Str.ofString "MillError.__init__") 209, PySem.Value.str (PySem.Str.ofString "/claim/cut.py") 210, PySem.Value.int 7 0, PySem.Value.int 2 0, PySem.Value.int 0 0, PySem.Value.int 0 0, PySem.Value.int 3 0, PySem.Value.ref 29, PySem.Value.bool Bool.true, PySem.Value.int 181 0, PySem.Value.ref 30, PySem.Value.none, PySem.Value.ref 31, PySem.Value.ref 32, PySem.Value.ref 33, PySem.Value.int 213 0, PySem.Value.int 7 0, PySem.Value.str (PySem.Str.ofString "/claim/cut.py") 214] } : Obj)) ::
    (nat_lit 35, ({ cls := PySem.Value.type "function", data := PySem.Data.func { name := PySem.Str.ofString "__init__", qualname := PySem.Str.ofString "MillError.__init__", params := p35, body := PySem.FuncBody.stmts b35, scope := s35, globals := 3, closure := [], defaults := PySem.Value.none, kwdefaults := PySem.Value.none, pyModule := PySem.Value.str (PySem.Str.ofString "outlinemill.errors") 194, code := PySem.Value.ref 34 } } : Obj)) ::
    (nat_lit 36, ({ cls := PySem.Value.type "tuple", data := PySem.Data.seq #[PySem.Value.str (PySem.Str.ofString "message") 216] } : Obj)) ::
    (nat_lit 37, ({ cls := PySem.Value.type "dict", data := PySem.Data.dict #[{ hash := PySem.PyData.keyHash PPP (PySem.Str.ofString "__module__"), key := PySem.Value.str (PySem.Str.ofString "__module__") 203, val := PySem.Value.str (PySem.Str.ofString "outlinemill.errors") 194 }, { hash := PySem.PyData.keyHash PPP (PySem.Str.ofString "__firstlineno__"), key := PySem.Value.str (PySem.Str.ofString "__firstlineno__") 207, val := PySem.Value.int 5 206 }, { hash := PySem.PyData.keyHash PPP (PySem.Str.ofString "__init__"), key := PySem.Value.str (PySem.Str.ofString "__init__") 215, val := PySem.Value.ref 35 }, { hash := PySem.PyData.keyHash PPP (PySem.Str.ofString "__static_attributes__"), key := PySem.Value.str (PySem.Str.ofString "__static_attributes__") 217, val := PySem.Value.ref 36 }, { hash := PySem.PyData.keyHash PPP (PySem.Str.ofString "__weakref__"), key := PySem.Value.str (PySem.Str.ofString "__weakref__") 219, val := PySem.Value.ref 39 }, { hash := PySem.PyData.keyHash PPP (PySem.Str.ofString "__doc__"), key := PySem.Value.str (PySem.Str.ofString "__doc__") 220, val := PySem.Value.none }] 3 } : Obj)) ::
    (nat_lit 38, ({ cls := PySem.Value.type "type", data := PySem.Data.cls { name := PySem.Str.ofString "MillError", bases := [PySem.Value.type "Exception"], mro := [PySem.Value.ref 38, PySem.Value.type "Exception", PySem.Value.type "BaseException", PySem.Value.type "object"], ns := 37, qualname := PySem.Str.ofString "MillError", subclasses := [PySem.Value.ref 51] }, slots := #[Option.some (PySem.Value.ref 22), Option.none, Option.some (PySem.Value.str (PySem.Str.ofString "MillError") 196), Option.some (PySem.Value.str (PySem.Str.ofString "MillError") 204), Option.some (PySem.Value.builtin "Exception.__new__"), Option.some (PySem.Value.bool Bool.true)] } : Obj)) ::
    (nat_lit 39, ({ cls := PySem.Value.type "getset_descriptor", data := PySem.Data.fields #[PySem.Value.str (PySem.Str.ofString "__weakref__") 218, PySem.Value.ref 38, PySem.Value.builtin "ExceptionGroup.__weakref__", PySem.Value.none] } : Obj)) ::
    (nat_lit 42, ({ cls := PySem.Value.type "tuple", data := PySem.Data.seq #[PySem.Value.ref 38] } : Obj)) ::
    (nat_lit 49, ({ cls := PySem.Value.type "tuple", data := PySem.Data.seq #[] } : Obj)) ::
    (nat_lit 50, ({ cls := PySem.Value.type "dict", data := PySem.Data.dict #[{ hash := PySem.PyData.keyHash PPP (PySem.Str.ofString "__module__"), key := PySem.Value.str (PySem.Str.ofString "__module__") 232, val := PySem.Value.str (PySem.Str.ofString "outlinemill.errors") 194 }, { hash := PySem.PyData.keyHash PPP (PySem.Str.ofString "__firstlineno__"), key := PySem.Value.str (PySem.Str.ofString "__firstlineno__") 236, val := PySem.Value.int 9 235 }, { hash := PySem.PyData.keyHash PPP (PySem.Str.ofString "__static_attributes__"), key := PySem.Value.str (PySem.Str.ofString "__static_attributes__") 237, val := PySem.Value.ref 49 }, { hash := PySem.PyData.keyHash PPP (PySem.Str.ofString "__doc__"), key := PySem.Value.str (PySem.Str.ofString "__doc__") 238, val := PySem.Value.none }] 2 } : Obj)) ::
    (nat_lit 51, ({ cls := PySem.Value.type "type", data := PySem.Data.cls { name := PySem.Str.ofString "SizeFault", bases := [PySem.Value.ref 38], mro := [PySem.Value.ref 51, PySem.Value.ref 38, PySem.Value.type "Exception", PySem.Value.type "BaseException", PySem.Value.type "object"], ns := 50, qualname := PySem.Str.ofString "SizeFault" }, slots := #[Option.some (PySem.Value.ref 42), Option.none, Option.some (PySem.Value.str (PySem.Str.ofString "SizeFault") 225), Option.some (PySem.Value.str (PySem.Str.ofString "SizeFault") 233), Option.some (PySem.Value.builtin "Exception.__new__"), Option.some (PySem.Value.bool Bool.true)] } : Obj)) ::
    (nat_lit 54, ({ cls := PySem.Value.type "tuple", data := PySem.Data.seq #[PySem.Value.str (PySem.Str.ofString "nonzero") 243, PySem.Value.str (PySem.Str.ofString "evenodd") 244] } : Obj)) ::
    (nat_lit 55, ({ cls := PySem.Value.type "tuple", data := PySem.Data.seq #[] } : Obj)) ::
    (nat_lit 57, ({ cls := PySem.Value.type "tuple", data := PySem.Data.seq #[PySem.Value.str (PySem.Str.ofString "winding") 249, PySem.Value.str (PySem.Str.ofString "rule") 250] } : Obj)) ::
    (nat_lit 58, ({ cls := PySem.Value.type "tuple", data := PySem.Data.seq #[] } : Obj)) ::
    (nat_lit 60, ({ cls := PySem.Value.type "code", data := PySem.Data.fields #[PySem.Value.str (PySem.Str.ofString "is_inside") 246, PySem.Value.str (PySem.Str.ofString "is_inside") 247, PySem.Value.str (PySem.Str.ofString "/claim/cut.py") 248, PySem.Value.int 13 0, PySem.Value.int 2 0, PySem.Value.int 0 0, PySem.Value.int 0 0, PySem.Value.int 3 0, PySem.Value.ref 55, PySem.Value.bool Bool.true, PySem.Value.int 181 0, PySem.Value.ref 56, PySem.Value.none, PySem.Value.ref 57, PySem.Value.ref 58, PySem.Value.ref 59, PySem.Value.int 251 0, PySem.Value.int 13 0, PySem.Value.str (PySem.Str.ofString "/claim/cut.py") 252] } : Obj)) ::
    (nat_lit 61, ({ cls := PySem.Value.type "function", data := PySem.Data.func { name := PySem.Str.ofString "is_inside", qualname := PySem.Str.ofString "is_inside", params := p61, body := PySem.FuncBody.stmts b61, scope := s61, globals := 3, closure := [], defaults := PySem.Value.none, kwdefaults := PySem.Value.none, pyModule := PySem.Value.str (PySem.Str.ofString "outlinemill.scan") 241, code := PySem.Value.ref 60 } } : Obj)) ::
    (nat_lit 62, ({ cls := PySem.Value.type "tuple", data := PySem.Data.seq #[] } : Obj)) ::
    (nat_lit 64, ({ cls := PySem.Value.type "tuple", data := PySem.Data.seq #[PySem.Value.str (PySem.Str.ofString "fine") 257, PySem.Value.str (PySem.Str.ofString "grain") 258] } : Obj)) ::
    (nat_lit 65, ({ cls := PySem.Value.type "tuple", data := PySem.Data.seq #[] } : Obj)) ::
    (nat_lit 67, ({ cls := PySem.Value.type "code", data := PySem.Data.fields #[PySem.Value.str (PySem.Str.ofString "step_of") 254, PySem.Value.str (PySem.Str.ofString "step_of") 255, PySem.Value.str (PySem.Str.ofString "/claim/cut.py") 256, PySem.Value.int 15 0, PySem.Value.int 2 0, PySem.Value.int 0 0, PySem.Value.int 0 0, PySem.Value.int 3 0, PySem.Value.ref 62, PySem.Value.bool Bool.true, PySem.Value.int 181 0, PySem.Value.ref 63, PySem.Value.none, PySem.Value.ref 64, PySem.Value.ref 65, PySem.Value.ref 66, PySem.Value.int 259 0, PySem.Value.int 15 0, PySem.Value.str (PySem.Str.ofString "/claim/cut.py") 260] } : Obj)) ::
    (nat_lit 68, ({ cls := PySem.Value.type "function", data := PySem.Data.func { name := PySem.Str.ofString "step_of", qualname := PySem.Str.ofString "step_of", params := p68, body := PySem.FuncBody.stmts b68, scope := s68, globals := 3, closure := [], defaults := PySem.Value.none, kwdefaults := PySem.Value.none, pyModule := PySem.Value.str (PySem.Str.ofString "outlinemill.scan") 241, code := PySem.Value.ref 67 } } : Obj)) ::
    (nat_lit 69, ({ cls := PySem.Value.type "tuple", data := PySem.Data.seq #[] } : Obj)) ::
    (nat_lit 71, ({ cls := PySem.Value.type "tuple", data := PySem.Data.seq #[PySem.Value.str (PySem.Str.ofString "top") 265, PySem.Value.str (PySem.Str.ofString "bottom") 266] } : Obj)) ::
    (nat_lit 72, ({ cls := PySem.Value.type "tuple", data := PySem.Data.seq #[] } : Obj)) ::
    (nat_lit 74, ({ cls := PySem.Value.type "code", data := PySem.Data.fields #[PySem.Value.str (PySem.Str.ofString "ceiling") 262, PySem.Value.str (PySem.Str.ofString "ceiling") 263, PySem.Value.str (PySem.Str.ofString "/claim/cut.py") 264, PySem.Value.int 19 0, PySem.Value.int 2 0, PySem.Value.int 0 0, PySem.Value.int 0 0, PySem.Value.int 3 0, PySem.Value.ref 69, PySem.Value.bool Bool.true, PySem.Value.int 181 0, PySem.Value.ref 70, PySem.Value.none, PySem.Value.ref 71, PySem.Value.ref 72, PySem.Value.ref 73, PySem.Value.int 267 0, PySem.Value.int 19 0, PySem.Value.str (PySem.Str.ofString "/claim/cut.py") 268] } : Obj)) ::
    (nat_lit 75, ({ cls := PySem.Value.type "function", data := PySem.Data.func { name := PySem.Str.ofString "ceiling", qualname := PySem.Str.ofString "ceiling", params := p75, body := PySem.FuncBody.stmts b75, scope := s75, globals := 3, closure := [], defaults := PySem.Value.none, kwdefaults := PySem.Value.none, pyModule := PySem.Value.str (PySem.Str.ofString "outlinemill.scan") 241, code := PySem.Value.ref 74 } } : Obj)) ::
    (nat_lit 76, ({ cls := PySem.Value.type "tuple", data := PySem.Data.seq #[] } : Obj)) ::
    (nat_lit 78, ({ cls := PySem.Value.type "tuple", data := PySem.Data.seq #[PySem.Value.str (PySem.Str.ofString "place") 273, PySem.Value.str (PySem.Str.ofString "step") 274, PySem.Value.str (PySem.Str.ofString "top") 275, PySem.Value.str (PySem.Str.ofString "bottom") 276] } : Obj)) ::
    (nat_lit 79, ({ cls := PySem.Value.type "tuple", data := PySem.Data.seq #[] } : Obj)) ::
    (nat_lit 81, ({ cls := PySem.Value.type "code", data := PySem.Data.fields #[PySem.Value.str (PySem.Str.ofString "column_behind") 270, PySem.Value.str (PySem.Str.ofString "column_behind") 271, PySem.Value.str (PySem.Str.ofString "/claim/cut.py") 272, PySem.Value.int 21 0, PySem.Value.int 2 0, PySem.Value.int 0 0, PySem.Value.int 0 0, PySem.Value.int 3 0, PySem.Value.ref 76, PySem.Value.bool Bool.true, PySem.Value.int 181 0, PySem.Value.ref 77, PySem.Value.none, PySem.Value.ref 78, PySem.Value.ref 79, PySem.Value.ref 80, PySem.Value.int 277 0, PySem.Value.int 21 0, PySem.Value.str (PySem.Str.ofString "/claim/cut.py") 278] } : Obj)) ::
    (nat_lit 82, ({ cls := PySem.Value.type "function", data := PySem.Data.func { name := PySem.Str.ofString "column_behind", qualname := PySem.Str.ofString "column_behind", params := p82, body := PySem.FuncBody.stmts b82, scope := s82, globals := 3, closure := [], defaults := PySem.Value.none, kwdefaults := PySem.Value.none, pyModule := PySem.Value.str (PySem.Str.ofString "outlinemill.scan") 241, code := PySem.Value.ref 81 } } : Obj)) ::
    (nat_lit 83, ({ cls := PySem.Value.type "tuple", data := PySem.Data.seq #[] } : Obj)) ::
    (nat_lit 85, ({ cls := PySem.Value.type "tuple", data := PySem.Data.seq #[PySem.Value.str (PySem.Str.ofString "rule") 283] } : Obj)) ::
    (nat_lit 86, ({ cls := PySem.Value.type "tuple", data := PySem.Data.seq #[] } : Obj)) ::
    (nat_lit 88, ({ cls := PySem.Value.type "code", data := PySem.Data.fields #[PySem.Value.str (PySem.Str.ofString "check_rule") 280, PySem.Value.str (PySem.Str.ofString "check_rule") 281, PySem.Value.str (PySem.Str.ofString "/claim/cut.py") 282, PySem.Value.int 24 0, PySem.Value.int 1 0, PySem.Value.int 0 0, PySem.Value.int 0 0, PySem.Value.int 3 0, PySem.Value.ref 83, PySem.Value.bool Bool.true, PySem.Value.int 181 0, PySem.Value.ref 84, PySem.Value.none, PySem.Value.ref 85, PySem.Value.ref 86, PySem.Value.ref 87, PySem.Value.int 284 0, PySem.Value.int 24 0, PySem.Value.str (PySem.Str.ofString "/claim/cut.py") 285] } : Obj)) ::
    (nat_lit 89, ({ cls := PySem.Value.type "function", data := PySem.Data.func { name := PySem.Str.ofString "check_rule", qualname := PySem.Str.ofString "check_rule", params := p89, body := PySem.FuncBody.stmts b89, scope := s89, globals := 3, closure := [], defaults := PySem.Value.none, kwdefaults := PySem.Value.none, pyModule := PySem.Value.str (PySem.Str.ofString "outlinemill.scan") 241, code := PySem.Value.ref 88 } } : Obj)) ::
    (nat_lit 90, ({ cls := PySem.Value.type "tuple", data := PySem.Data.seq #[] } : Obj)) ::
    (nat_lit 92, ({ cls := PySem.Value.type "tuple", data := PySem.Data.seq #[PySem.Value.str (PySem.Str.ofString "sides") 290, PySem.Value.str (PySem.Str.ofString "y") 291, PySem.Value.str (PySem.Str.ofString "step") 292, PySem.Value.str (PySem.Str.ofString "found") 293, PySem.Value.str (PySem.Str.ofString "side") 294] } : Obj)) ::
    (nat_lit 93, ({ cls := PySem.Value.type "tuple", data := PySem.Data.seq #[] } : Obj)) ::
    (nat_lit 95, ({ cls := PySem.Value.type "code", data := PySem.Data.fields #[PySem.Value.str (PySem.Str.ofString "steps_of_row") 287, PySem.Value.str (PySem.Str.ofString "steps_of_row") 288, PySem.Value.str (PySem.Str.ofString "/claim/cut.py") 289, PySem.Value.int 27 0, PySem.Value.int 3 0, PySem.Value.int 0 0, PySem.Value.int 0 0, PySem.Value.int 3 0, PySem.Value.ref 90, PySem.Value.bool Bool.true, PySem.Value.int 181 0, PySem.Value.ref 91, PySem.Value.none, PySem.Value.ref 92, PySem.Value.ref 93, PySem.Value.ref 94, PySem.Value.int 295 0, PySem.Value.int 27 0, PySem.Value.str (PySem.Str.ofString "/claim/cut.py") 296] } : Obj)) ::
    (nat_lit 96, ({ cls := PySem.Value.type "function", data := PySem.Data.func { name := PySem.Str.ofString "steps_of_row", qualname := PySem.Str.ofString "steps_of_row", params := p96, body := PySem.FuncBody.stmts b96, scope := s96, globals := 3, closure := [], defaults := PySem.Value.none, kwdefaults := PySem.Value.none, pyModule := PySem.Value.str (PySem.Str.ofString "outlinemill.scan") 241, code := PySem.Value.ref 95 } } : Obj)) ::
    (nat_lit 97, ({ cls := PySem.Value.type "tuple", data := PySem.Data.seq #[] } : Obj)) ::
    (nat_lit 99, ({ cls := PySem.Value.type "tuple", data := PySem.Data.seq #[PySem.Value.str (PySem.Str.ofString "changes") 301, PySem.Value.str (PySem.Str.ofString "rule") 302, PySem.Value.str (PySem.Str.ofString "found") 303, PySem.Value.str (PySem.Str.ofString "winding") 304, PySem.Value.str (PySem.Str.ofString "begin") 305, PySem.Value.str (PySem.Str.ofString "at") 306, PySem.Value.str (PySem.Str.ofString "column") 307, PySem.Value.str (PySem.Str.ofString "way") 308] } : Obj)) ::
    (nat_lit 100, ({ cls := PySem.Value.type "tuple", data := PySem.Data.seq #[] } : Obj)) ::
    (nat_lit 102, ({ cls := PySem.Value.type "code", data := PySem.Data.fields #[PySem.Value.str (PySem.Str.ofString "spans_by") 298, PySem.Value.str (PySem.Str.ofString "spans_by") 299, PySem.Value.str (PySem.Str.ofString "/claim/cut.py") 300, PySem.Value.int 33 0, PySem.Value.int 2 0, PySem.Value.int 0 0, PySem.Value.int 0 0, PySem.Value.int 3 0, PySem.Value.ref 97, PySem.Value.bool Bool.true, PySem.Value.int 181 0, PySem.Value.ref 98, PySem.Value.none, PySem.Value.ref 99, PySem.Value.ref 100, PySem.Value.ref 101, PySem.Value.int 309 0, PySem.Value.int 33 0, PySem.Value.str (PySem.Str.ofString "/claim/cut.py") 310] } : Obj)) ::
    (nat_lit 103, ({ cls := PySem.Value.type "function", data := PySem.Data.func { name := PySem.Str.ofString "spans_by", qualname := PySem.Str.ofString "spans_by", params := p103, body := PySem.FuncBody.stmts b103, scope := s103, globals := 3, closure := [], defaults := PySem.Value.none, kwdefaults := PySem.Value.none, pyModule := PySem.Value.str (PySem.Str.ofString "outlinemill.scan") 241, code := PySem.Value.ref 102 } } : Obj)) ::
    (nat_lit 104, ({ cls := PySem.Value.type "tuple", data := PySem.Data.seq #[] } : Obj)) ::
    (nat_lit 106, ({ cls := PySem.Value.type "tuple", data := PySem.Data.seq #[PySem.Value.str (PySem.Str.ofString "sides") 315, PySem.Value.str (PySem.Str.ofString "row") 316, PySem.Value.str (PySem.Str.ofString "rule") 317, PySem.Value.str (PySem.Str.ofString "fine") 318, PySem.Value.str (PySem.Str.ofString "grain") 319, PySem.Value.str (PySem.Str.ofString "step") 320] } : Obj)) ::
    (nat_lit 107, ({ cls := PySem.Value.type "tuple", data := PySem.Data.seq #[] } : Obj)) ::
    (nat_lit 109, ({ cls := PySem.Value.type "code", data := PySem.Data.fields #[PySem.Value.str (PySem.Str.ofString "sample_spans") 312, PySem.Value.str (PySem.Str.ofString "sample_spans") 313, PySem.Value.str (PySem.Str.ofString "/claim/cut.py") 314, PySem.Value.int 45 0, PySem.Value.int 5 0, PySem.Value.int 0 0, PySem.Value.int 0 0, PySem.Value.int 3 0, PySem.Value.ref 104, PySem.Value.bool Bool.true, PySem.Value.int 181 0, PySem.Value.ref 105, PySem.Value.none, PySem.Value.ref 106, PySem.Value.ref 107, PySem.Value.ref 108, PySem.Value.int 321 0, PySem.Value.int 45 0, PySem.Value.str (PySem.Str.ofString "/claim/cut.py") 322] } : Obj)) ::
    (nat_lit 110, ({ cls := PySem.Value.type "function", data := PySem.Data.func { name := PySem.Str.ofString "sample_spans", qualname := PySem.Str.ofString "sample_spans", params := p110, body := PySem.FuncBody.stmts b110, scope := s110, globals := 3, closure := [], defaults := PySem.Value.none, kwdefaults := PySem.Value.none, pyModule := PySem.Value.str (PySem.Str.ofString "outlinemill.scan") 241, code := PySem.Value.ref 109 } } : Obj)) ::
    (nat_lit 118, ({ cls := PySem.Value.type "tuple", data := PySem.Data.seq #[] } : Obj)) ::
    (nat_lit 120, ({ cls := PySem.Value.type "tuple", data := PySem.Data.seq #[PySem.Value.str (PySem.Str.ofString "self") 341, PySem.Value.str (PySem.Str.ofString "x1") 342, PySem.Value.str (PySem.Str.ofString "y1") 343, PySem.Value.str (PySem.Str.ofString "x2") 344, PySem.Value.str (PySem.Str.ofString "y2") 345, PySem.Value.str (PySem.Str.ofString "way") 346] } : Obj)) ::
    (nat_lit 121, ({ cls := PySem.Value.type "tuple", data := PySem.Data.seq #[] } : Obj)) ::
    (nat_lit 123, ({ cls := PySem.Value.type "code", data := PySem.Data.fields #[PySem.Value.str (PySem.Str.ofString "__init__") 338, PySem.Value.str (PySem.Str.ofString "Side.__init__") 339, PySem.Value.str (PySem.Str.ofString "/claim/cut.py") 340, PySem.Value.int 52 0, PySem.Value.int 6 0, PySem.Value.int 0 0, PySem.Value.int 0 0, PySem.Value.int 3 0, PySem.Value.ref 118, PySem.Value.bool Bool.true, PySem.Value.int 181 0, PySem.Value.ref 119, PySem.Value.none, PySem.Value.ref 120, PySem.Value.ref 121, PySem.Value.ref 122, PySem.Value.int 347 0, PySem.Value.int 52 0, PySem.Value.str (PySem.Str.ofString "/claim/cut.py") 348] } : Obj)) ::
    (nat_lit 124, ({ cls := PySem.Value.type "function", data := PySem.Data.func { name := PySem.Str.ofString "__init__", qualname := PySem.Str.ofString "Side.__init__", params := p124, body := PySem.FuncBody.stmts b124, scope := s124, globals := 3, closure := [], defaults := PySem.Value.none, kwdefaults := PySem.Value.none, pyModule := PySem.Value.str (PySem.Str.ofString "outlinemill.sides") 324, code := PySem.Value.ref 123 } } : Obj)) ::
    (nat_lit 125, ({ cls := PySem.Value.type "tuple", data := PySem.Data.seq #[] } : Obj)) ::
    (nat_lit 127, ({ cls := PySem.Value.type "tuple", data := PySem.Data.seq #[PySem.Value.str (PySem.Str.ofString "self") 353] } : Obj)) ::
    (nat_lit 128, ({ cls := PySem.Value.type "tuple", data := PySem.Data.seq #[] } : Obj)) ::
    (nat_lit 130, ({ cls := PySem.Value.type "code", data := PySem.Data.fields #[PySem.Value.str (PySem.Str.ofString "row") 350, PySem.Value.str (PySem.Str.ofString "Side.row") 351, PySem.Value.str (PySem.Str.ofString "/claim/cut.py") 352, PySem.Value.int 59 0, PySem.Value.int 1 0, PySem.Value.int 0 0, PySem.Value.int 0 0, PySem.Value.int 3 0, PySem.Value.ref 125, PySem.Value.bool Bool.true, PySem.Value.int 181 0, PySem.Value.ref 126, PySem.Value.none, PySem.Value.ref 127, PySem.Value.ref 128, PySem.Value.ref 129, PySem.Value.int 354 0, PySem.Value.int 59 0, PySem.Value.str (PySem.Str.ofString "/claim/cut.py") 355] } : Obj)) ::
    (nat_lit 131, ({ cls := PySem.Value.type "function", data := PySem.Data.func { name := PySem.Str.ofString "row", qualname := PySem.Str.ofString "Side.row", params := p131, body := PySem.FuncBody.stmts b131, scope := s131, globals := 3, closure := [], defaults := PySem.Value.none, kwdefaults := PySem.Value.none, pyModule := PySem.Value.str (PySem.Str.ofString "outlinemill.sides") 324, code := PySem.Value.ref 130 } } : Obj)) ::
    (nat_lit 132, ({ cls := PySem.Value.type "tuple", data := PySem.Data.seq #[] } : Obj)) ::
    (nat_lit 134, ({ cls := PySem.Value.type "tuple", data := PySem.Data.seq #[PySem.Value.str (PySem.Str.ofString "self") 360, PySem.Value.str (PySem.Str.ofString "y") 361] } : Obj)) ::
    (nat_lit 135, ({ cls := PySem.Value.type "tuple", data := PySem.Data.seq #[] } : Obj)) ::
    (nat_lit 137, ({ cls := PySem.Value.type "code", data := PySem.Data.fields #[PySem.Value.str (PySem.Str.ofString "covers") 357, PySem.Value.str (PySem.Str.ofString "Side.covers") 358, PySem.Value.str (PySem.Str.ofString "/claim/cut.py") 359, PySem.Value.int 62 0, PySem.Value.int 2 0, PySem.Value.int 0 0, PySem.Value.int 0 0, PySem.Value.int 3 0, PySem.Value.ref 132, PySem.Value.bool Bool.true, PySem.Value.int 181 0, PySem.Value.ref 133, PySem.Value.none, PySem.Value.ref 134, PySem.Value.ref 135, PySem.Value.ref 136, PySem.Value.int 362 0, PySem.Value.int 62 0, PySem.Value.str (PySem.Str.ofString "/claim/cut.py") 363] } : Obj)) ::
    (nat_lit 138, ({ cls := PySem.Value.type "function", data := PySem.Data.func { name := PySem.Str.ofString "covers", qualname := PySem.Str.ofString "Side.covers", params := p138, body := PySem.FuncBody.stmts b138, scope := s138, globals := 3, closure := [], defaults := PySem.Value.none, kwdefaults := PySem.Value.none, pyModule := PySem.Value.str (PySem.Str.ofString "outlinemill.sides") 324, code := PySem.Value.ref 137 } } : Obj)) ::
    (nat_lit 139, ({ cls := PySem.Value.type "tuple", data := PySem.Data.seq #[] } : Obj)) ::
    (nat_lit 141, ({ cls := PySem.Value.type "tuple", data := PySem.Data.seq #[PySem.Value.str (PySem.Str.ofString "self") 368, PySem.Value.str (PySem.Str.ofString "y") 369, PySem.Value.str (PySem.Str.ofString "high") 370] } : Obj)) ::
    (nat_lit 142, ({ cls := PySem.Value.type "tuple", data := PySem.Data.seq #[] } : Obj)) ::
    (nat_lit 144, ({ cls := PySem.Value.type "code", data := PySem.Data.fields #[PySem.Value.str (PySem.Str.ofString "place_at") 365, PySem.Value.str (PySem.Str.ofString "Side.place_at") 366, PySem.Value.str (PySem.Str.ofString "/claim/cut.py") 367, PySem.Value.int 65 0, PySem.Value.int 2 0, PySem.Value.int 0 0, PySem.Value.int 0 0, PySem.Value.int 3 0, PySem.Value.ref 139, PySem.Value.bool Bool.true, PySem.Value.int 181 0, PySem.Value.ref 140, PySem.Value.none, PySem.Value.ref 141, PySem.Value.ref 142, PySem.Value.ref 143, PySem.Value.int 371 0, PySem.Value.int 65 0, PySem.Value.str (PySem.Str.ofString "/claim/cut.py") 372] } : Obj)) ::
    (nat_lit 145, ({ cls := PySem.Value.type "function", data := PySem.Data.func { name := PySem.Str.ofString "place_at", qualname := PySem.Str.ofString "Side.place_at", params := p145, body := PySem.FuncBody.stmts b145, scope := s145, globals := 3, closure := [], defaults := PySem.Value.none, kwdefaults := PySem.Value.none, pyModule := PySem.Value.str (PySem.Str.ofString "outlinemill.sides") 324, code := PySem.Value.ref 144 } } : Obj)) ::
    (nat_lit 146, ({ cls := PySem.Value.type "tuple", data := PySem.Data.seq #[PySem.Value.str (PySem.Str.ofString "way") 374, PySem.Value.str (PySem.Str.ofString "x1") 375, PySem.Value.str (PySem.Str.ofString "x2") 376, PySem.Value.str (PySem.Str.ofString "y1") 377, PySem.Value.str (PySem.Str.ofString "y2") 378] } : Obj)) ::
    (nat_lit 147, ({ cls := PySem.Value.type "dict", data := PySem.Data.dict #[{ hash := PySem.PyData.keyHash PPP (PySem.Str.ofString "__module__"), key := PySem.Value.str (PySem.Str.ofString "__module__") 333, val := PySem.Value.str (PySem.Str.ofString "outlinemill.sides") 324 }, { hash := PySem.PyData.keyHash PPP (PySem.Str.ofString "__firstlineno__"), key := PySem.Value.str (PySem.Str.ofString "__firstlineno__") 337, val := PySem.Value.int 50 336 }, { hash := PySem.PyData.keyHash PPP (PySem.Str.ofString "__init__"), key := PySem.Value.str (PySem.Str.ofString "__init__") 349, val := PySem.Value.ref 124 }, { hash := PySem.PyData.keyHash PPP (PySem.Str.ofString "row"), key := PySem.Value.str (PySem.Str.ofString "row") 356, val := PySem.Value.ref 131 }, { hash := PySem.PyData.keyHash PPP (PySem.Str.ofString "covers"), key := PySem.Value.str (PySem.Str.ofString "covers") 364, val := PySem.Value.ref 138 }, { hash := PySem.PyData.keyHash PPP (PySem.Str.ofString "place_at"), key := PySem.Value.str (PySem.Str.ofString "place_at") 373, val := PySem.Value.ref 145 }, { hash := PySem.PyData.keyHash PPP (PySem.Str.ofString "__static_attributes__"), key := PySem.Value.str (PySem.Str.ofString "__static_attributes__") 379, val := PySem.Value.ref 146 }, { hash := PySem.PyData.keyHash PPP (PySem.Str.ofString "__dict__"), key := PySem.Value.str (PySem.Str.ofString "__dict__") 381, val := PySem.Value.ref 149 }, { hash := PySem.PyData.keyHash PPP (PySem.Str.ofString "__weakref__"), key := PySem.Value.str (PySem.Str.ofString "__weakref__") 383, val := PySem.Value.ref 150 }, { hash := PySem.PyData.keyHash PPP (PySem.Str.ofString "__doc__"), key := PySem.Value.str (PySem.Str.ofString "__doc__") 384, val := PySem.Value.none }] 4 } : Obj)) ::
    (nat_lit 148, ({ cls := PySem.Value.type "type", data := PySem.Data.cls { name := PySem.Str.ofString "Side", bases := [PySem.Value.type "object"], mro := [PySem.Value.ref 148, PySem.Value.type "object"], ns := 147, qualname := PySem.Str.ofString "Side" }, slots := #[Option.none, Option.none, Option.some (PySem.Value.str (PySem.Str.ofString "Side") 326), Option.some (PySem.Value.str (PySem.Str.ofString "Side") 334), Option.some (PySem.Value.builtin "object.__new__"), Option.some (PySem.Value.bool Bool.true)] } : Obj)) ::
    (nat_lit 149, ({ cls := PySem.Value.type "getset_descriptor", data := PySem.Data.fields #[PySem.Value.str (PySem.Str.ofString "__dict__") 380, PySem.Value.ref 148, PySem.Value.builtin "function.__dict__", PySem.Value.builtin "function.__dict__#set"] } : Obj)) ::
    (nat_lit 150, ({ cls := PySem.Value.type "getset_descriptor", data := PySem.Data.fields #[PySem.Value.str (PySem.Str.ofString "__weakref__") 382, PySem.Value.ref 148, PySem.Value.builtin "ExceptionGroup.__weakref__", PySem.Value.none] } : Obj)) ::
    (nat_lit 153, ({ cls := PySem.Value.type "tuple", data := PySem.Data.seq #[] } : Obj)) ::
    (nat_lit 155, ({ cls := PySem.Value.type "tuple", data := PySem.Data.seq #[PySem.Value.str (PySem.Str.ofString "one") 390, PySem.Value.str (PySem.Str.ofString "other") 391] } : Obj)) ::
    (nat_lit 156, ({ cls := PySem.Value.type "tuple", data := PySem.Data.seq #[] } : Obj)) ::
    (nat_lit 158, ({ cls := PySem.Value.type "code", data := PySem.Data.fields #[PySem.Value.str (PySem.Str.ofString "side_between") 387, PySem.Value.str (PySem.Str.ofString "side_between") 388, PySem.Value.str (PySem.Str.ofString "/claim/cut.py") 389, PySem.Value.int 68 0, PySem.Value.int 2 0, PySem.Value.int 0 0, PySem.Value.int 0 0, PySem.Value.int 3 0, PySem.Value.ref 153, PySem.Value.bool Bool.true, PySem.Value.int 181 0, PySem.Value.ref 154, PySem.Value.none, PySem.Value.ref 155, PySem.Value.ref 156, PySem.Value.ref 157, PySem.Value.int 392 0, PySem.Value.int 68 0, PySem.Value.str (PySem.Str.ofString "/claim/cut.py") 393] } : Obj)) ::
    (nat_lit 159, ({ cls := PySem.Value.type "function", data := PySem.Data.func { name := PySem.Str.ofString "side_between", qualname := PySem.Str.ofString "side_between", params := p159, body := PySem.FuncBody.stmts b159, scope := s159, globals := 3, closure := [], defaults := PySem.Value.none, kwdefaults := PySem.Value.none, pyModule := PySem.Value.str (PySem.Str.ofString "outlinemill.sides") 324, code := PySem.Value.ref 158 } } : Obj)) ::
    (nat_lit 160, ({ cls := PySem.Value.type "tuple", data := PySem.Data.seq #[] } : Obj)) ::
    (nat_lit 162, ({ cls := PySem.Value.type "tuple", data := PySem.Data.seq #[PySem.Value.str (PySem.Str.ofString "spots") 398, PySem.Value.str (PySem.Str.ofString "is_closed") 399, PySem.Value.str (PySem.Str.ofString "pairs") 400, PySem.Value.str (PySem.Str.ofString "found") 401, PySem.Value.str (PySem.Str.ofString "one") 402, PySem.Value.str (PySem.Str.ofString "other") 403, PySem.Value.str (PySem.Str.ofString "side") 404] } : Obj)) ::
    (nat_lit 163, ({ cls := PySem.Value.type "tuple", data := PySem.Data.seq #[] } : Obj)) ::
    (nat_lit 165, ({ cls := PySem.Value.type "code", data := PySem.Data.fields #[PySem.Value.str (PySem.Str.ofString "sides_of_contour") 395, PySem.Value.str (PySem.Str.ofString "sides_of_contour") 396, PySem.Value.str (PySem.Str.ofString "/claim/cut.py") 397, PySem.Value.int 74 0, PySem.Value.int 2 0, PySem.Value.int 0 0, PySem.Value.int 0 0, PySem.Value.int 3 0, PySem.Value.ref 160, PySem.Value.bool Bool.true, PySem.Value.int 181 0, PySem.Value.ref 161, PySem.Value.none, PySem.Value.ref 162, PySem.Value.ref 163, PySem.Value.ref 164, PySem.Value.int 405 0, PySem.Value.int 74 0, PySem.Value.str (PySem.Str.ofString "/claim/cut.py") 406] } : Obj)) ::
    (nat_lit 166, ({ cls := PySem.Value.type "function", data := PySem.Data.func { name := PySem.Str.ofString "sides_of_contour", qualname := PySem.Str.ofString "sides_of_contour", params := p166, body := PySem.FuncBody.stmts b166, scope := s166, globals := 3, closure := [], defaults := PySem.Value.none, kwdefaults := PySem.Value.none, pyModule := PySem.Value.str (PySem.Str.ofString "outlinemill.sides") 324, code := PySem.Value.ref 165 } } : Obj)) ::
    (nat_lit 167, ({ cls := PySem.Value.type "tuple", data := PySem.Data.seq #[PySem.Value.bool Bool.true] } : Obj)) ::
    (nat_lit 168, ({ cls := PySem.Value.type "tuple", data := PySem.Data.seq #[] } : Obj)) ::
    (nat_lit 170, ({ cls := PySem.Value.type "tuple", data := PySem.Data.seq #[PySem.Value.str (PySem.Str.ofString "contours") 411, PySem.Value.str (PySem.Str.ofString "is_closing") 412, PySem.Value.str (PySem.Str.ofString "found") 413, PySem.Value.str (PySem.Str.ofString "spots") 414, PySem.Value.str (PySem.Str.ofString "is_closed") 415] } : Obj)) ::
    (nat_lit 171, ({ cls := PySem.Value.type "tuple", data := PySem.Data.seq #[] } : Obj)) ::
    (nat_lit 173, ({ cls := PySem.Value.type "code", data := PySem.Data.fields #[PySem.Value.str (PySem.Str.ofString "sides_of") 408, PySem.Value.str (PySem.Str.ofString "sides_of") 409, PySem.Value.str (PySem.Str.ofString "/claim/cut.py") 410, PySem.Value.int 84 0, PySem.Value.int 2 0, PySem.Value.int 0 0, PySem.Value.int 0 0, PySem.Value.int 3 0, PySem.Value.ref 168, PySem.Value.bool Bool.true, PySem.Value.int 181 0, PySem.Value.ref 169, PySem.Value.none, PySem.Value.ref 170, PySem.Value.ref 171, PySem.Value.ref 172, PySem.Value.int 416 0, PySem.Value.int 84 0, PySem.Value.str (PySem.Str.ofString "/claim/cut.py") 417] } : Obj)) ::
    (nat_lit 174, ({ cls := PySem.Value.type "function", data := PySem.Data.func { name := PySem.Str.ofString "sides_of", qualname := PySem.Str.ofString "sides_of", params := p174, body := PySem.FuncBody.stmts b174, scope := s174, globals := 3, closure := [], defaults := PySem.Value.ref 167, kwdefaults := PySem.Value.none, pyModule := PySem.Value.str (PySem.Str.ofString "outlinemill.sides") 324, code := PySem.Value.ref 173 } } : Obj)) ::
    (nat_lit 175, ({ cls := PySem.Value.type "tuple", data := PySem.Data.seq #[] } : Obj)) ::
    (nat_lit 178, ({ cls := PySem.Value.type "code", data := PySem.Data.fields #[PySem.Value.str (PySem.Str.ofString "sides_between") 419, PySem.Value.str (PySem.Str.ofString "sides_between") 420, PySem.Value.str (PySem.Str.ofString "/claim/cut.py") 421, PySem.Value.int 89 0, PySem.Value.int 3 0, PySem.Value.int 0 0, PySem.Value.int 0 0, PySem.Value.int 3 0, PySem.Value.ref 175, PySem.Value.bool Bool.true, PySem.Value.int 181 0, PySem.Value.ref 176, PySem.Value.none, PySem.Value.none, PySem.Value.none, PySem.Value.ref 177, PySem.Value.int 422 0, PySem.Value.int 89 0, PySem.Value.str (PySem.Str.ofString "/claim/cut.py") 423] } : Obj)) ::
    (nat_lit 179, ({ cls := PySem.Value.type "function", data := PySem.Data.func { name := PySem.Str.ofString "sides_between", qualname := PySem.Str.ofString "sides_between", params := p179, body := PySem.FuncBody.stmts b179, scope := s179, globals := 3, closure := [], defaults := PySem.Value.none, kwdefaults := PySem.Value.none, pyModule := PySem.Value.str (PySem.Str.ofString "outlinemill.sides") 324, code := PySem.Value.ref 178 } } : Obj)) ::
    (nat_lit 180, ({ cls := PySem.Value.type "tuple", data := PySem.Data.seq #[] } : Obj)) ::
    (nat_lit 182, ({ cls := PySem.Value.type "tuple", data := PySem.Data.seq #[PySem.Value.str (PySem.Str.ofString "top") 432, PySem.Value.str (PySem.Str.ofString "bottom") 433] } : Obj)) ::
    (nat_lit 183, ({ cls := PySem.Value.type "tuple", data := PySem.Data.seq #[] } : Obj)) ::
    (nat_lit 185, ({ cls := PySem.Value.type "code", data := PySem.Data.fields #[PySem.Value.str (PySem.Str.ofString "rounded_share") 429, PySem.Value.str (PySem.Str.ofString "rounded_share") 430, PySem.Value.str (PySem.Str.ofString "/claim/cut.py") 431, PySem.Value.int 93 0, PySem.Value.int 2 0, PySem.Value.int 0 0, PySem.Value.int 0 0, PySem.Value.int 3 0, PySem.Value.ref 180, PySem.Value.bool Bool.true, PySem.Value.int 181 0, PySem.Value.ref 181, PySem.Value.none, PySem.Value.ref 182, PySem.Value.ref 183, PySem.Value.ref 184, PySem.Value.int 434 0, PySem.Value.int 93 0, PySem.Value.str (PySem.Str.ofString "/claim/cut.py") 435] } : Obj)) ::
    (nat_lit 186, ({ cls := PySem.Value.type "function", data := PySem.Data.func { name := PySem.Str.ofString "rounded_share", qualname := PySem.Str.ofString "rounded_share", params := p186, body := PySem.FuncBody.stmts b186, scope := s186, globals := 3, closure := [], defaults := PySem.Value.none, kwdefaults := PySem.Value.none, pyModule := PySem.Value.str (PySem.Str.ofString "outlinemill.mask") 425, code := PySem.Value.ref 185 } } : Obj)) ::
    (nat_lit 194, ({ cls := PySem.Value.type "tuple", data := PySem.Data.seq #[] } : Obj)) ::
    (nat_lit 196, ({ cls := PySem.Value.type "tuple", data := PySem.Data.seq #[PySem.Value.str (PySem.Str.ofString "self") 452, PySem.Value.str (PySem.Str.ofString "left") 453, PySem.Value.str (PySem.Str.ofString "top") 454, PySem.Value.str (PySem.Str.ofString "width") 455, PySem.Value.str (PySem.Str.ofString "height") 456, PySem.Value.str (PySem.Str.ofString "fine") 457] } : Obj)) ::
    (nat_lit 197, ({ cls := PySem.Value.type "tuple", data := PySem.Data.seq #[] } : Obj)) ::
    (nat_lit 199, ({ cls := PySem.Value.type "code", data := PySem.Data.fields #[PySem.Value.str (PySem.Str.ofString "__init__") 449, PySem.Value.str (PySem.Str.ofString "Mask.__init__") 450, PySem.Value.str (PySem.Str.ofString "/claim/cut.py") 451, PySem.Value.int 97 0, PySem.Value.int 6 0, PySem.Value.int 0 0, PySem.Value.int 0 0, PySem.Value.int 3 0, PySem.Value.ref 194, PySem.Value.bool Bool.true, PySem.Value.int 181 0, PySem.Value.ref 195, PySem.Value.none, PySem.Value.ref 196, PySem.Value.ref 197, PySem.Value.ref 198, PySem.Value.int 458 0, PySem.Value.int 97 0, PySem.Value.str (PySem.Str.ofString "/claim/cut.py") 459] } : Obj)) ::
    (nat_lit 200, ({ cls := PySem.Value.type "function", data := PySem.Data.func { name := PySem.Str.ofString "__init__", qualname := PySem.Str.ofString "Mask.__init__", params := p200, body := PySem.FuncBody.stmts b200, scope := s200, globals := 3, closure := [], defaults := PySem.Value.none, kwdefaults := PySem.Value.none, pyModule := PySem.Value.str (PySem.Str.ofString "outlinemill.mask") 425, code := PySem.Value.ref 199 } } : Obj)) ::
    (nat_lit 201, ({ cls := PySem.Value.type "tuple", data := PySem.Data.seq #[] } : Obj)) ::
    (nat_lit 203, ({ cls := PySem.Value.type "tuple", data := PySem.Data.seq #[PySem.Value.str (PySem.Str.ofString "self") 464] } : Obj)) ::
    (nat_lit 204, ({ cls := PySem.Value.type "tuple", data := PySem.Data.seq #[] } : Obj)) ::
    (nat_lit 206, ({ cls := PySem.Value.type "code", data := PySem.Data.fields #[PySem.Value.str (PySem.Str.ofString "most") 461, PySem.Value.str (PySem.Str.ofString "Mask.most") 462, PySem.Value.str (PySem.Str.ofString "/claim/cut.py") 463, PySem.Value.int 107 0, PySem.Value.int 1 0, PySem.Value.int 0 0, PySem.Value.int 0 0, PySem.Value.int 3 0, PySem.Value.ref 201, PySem.Value.bool Bool.true, PySem.Value.int 181 0, PySem.Value.ref 202, PySem.Value.none, PySem.Value.ref 203, PySem.Value.ref 204, PySem.Value.ref 205, PySem.Value.int 465 0, PySem.Value.int 107 0, PySem.Value.str (PySem.Str.ofString "/claim/cut.py") 466] } : Obj)) ::
    (nat_lit 207, ({ cls := PySem.Value.type "function", data := PySem.Data.func { name := PySem.Str.ofString "most", qualname := PySem.Str.ofString "Mask.most", params := p207, body := PySem.FuncBody.stmts b207, scope := s207, globals := 3, closure := [], defaults := PySem.Value.none, kwdefaults := PySem.Value.none, pyModule := PySem.Value.str (PySem.Str.ofString "outlinemill.mask") 425, code := PySem.Value.ref 206 } } : Obj)) ::
    (nat_lit 208, ({ cls := PySem.Value.type "tuple", data := PySem.Data.seq #[] } : Obj)) ::
    (nat_lit 210, ({ cls := PySem.Value.type "tuple", data := PySem.Data.seq #[PySem.Value.str (PySem.Str.ofString "self") 471, PySem.Value.str (PySem.Str.ofString "x") 472, PySem.Value.str (PySem.Str.ofString "y") 473, PySem.Value.str (PySem.Str.ofString "column") 474, PySem.Value.str (PySem.Str.ofString "row") 475] } : Obj)) ::
    (nat_lit 211, ({ cls := PySem.Value.type "tuple", data := PySem.Data.seq #[] } : Obj)) ::
    (nat_lit 213, ({ cls := PySem.Value.type "code", data := PySem.Data.fields #[PySem.Value.str (PySem.Str.ofString "place") 468, PySem.Value.str (PySem.Str.ofString "Mask.place") 469, PySem.Value.str (PySem.Str.ofString "/claim/cut.py") 470, PySem.Value.int 110 0, PySem.Value.int 3 0, PySem.Value.int 0 0, PySem.Value.int 0 0, PySem.Value.int 3 0, PySem.Value.ref 208, PySem.Value.bool Bool.true, PySem.Value.int 181 0, PySem.Value.ref 209, PySem.Value.none, PySem.Value.ref 210, PySem.Value.ref 211, PySem.Value.ref 212, PySem.Value.int 476 0, PySem.Value.int 110 0, PySem.Value.str (PySem.Str.ofString "/claim/cut.py") 477] } : Obj)) ::
    (nat_lit 214, ({ cls := PySem.Value.type "function", data := PySem.Data.func { name := PySem.Str.ofString "place", qualname := PySem.Str.ofString "Mask.place", params := p214, body := PySem.FuncBody.stmts b214, scope := s214, globals := 3, closure := [], defaults := PySem.Value.none, kwdefaults := PySem.Value.none, pyModule := PySem.Value.str (PySem.Str.ofString "outlinemill.mask") 425, code := PySem.Value.ref 213 } } : Obj)) ::
    (nat_lit 215, ({ cls := PySem.Value.type "tuple", data := PySem.Data.seq #[] } : Obj)) ::
    (nat_lit 217, ({ cls := PySem.Value.type "tuple", data := PySem.Data.seq #[PySem.Value.str (PySem.Str.ofString "self") 482, PySem.Value.str (PySem.Str.ofString "x") 483, PySem.Value.str (PySem.Str.ofString "y") 484, PySem.Value.str (PySem.Str.ofString "at") 485] } : Obj)) ::
    (nat_lit 218, ({ cls := PySem.Value.type "tuple", data := PySem.Data.seq #[] } : Obj)) ::
    (nat_lit 220, ({ cls := PySem.Value.type "code", data := PySem.Data.fields #[PySem.Value.str (PySem.Str.ofString "count") 479, PySem.Value.str (PySem.Str.ofString "Mask.count") 480, PySem.Value.str (PySem.Str.ofString "/claim/cut.py") 481, PySem.Value.int 116 0, PySem.Value.int 3 0, PySem.Value.int 0 0, PySem.Value.int 0 0, PySem.Value.int 3 0, PySem.Value.ref 215, PySem.Value.bool Bool.true, PySem.Value.int 181 0, PySem.Value.ref 216, PySem.Value.none, PySem.Value.ref 217, PySem.Value.ref 218, PySem.Value.ref 219, PySem.Value.int 486 0, PySem.Value.int 116 0, PySem.Value.str (PySem.Str.ofString "/claim/cut.py") 487] } : Obj)) ::
    (nat_lit 221, ({ cls := PySem.Value.type "function", data := PySem.Data.func { name := PySem.Str.ofString "count", qualname := PySem.Str.ofString "Mask.count", params := p221, body := PySem.FuncBody.stmts b221, scope := s221, globals := 3, closure := [], defaults := PySem.Value.none, kwdefaults := PySem.Value.none, pyModule := PySem.Value.str (PySem.Str.ofString "outlinemill.mask") 425, code := PySem.Value.ref 220 } } : Obj)) ::
    (nat_lit 222, ({ cls := PySem.Value.type "tuple", data := PySem.Data.seq #[] } : Obj)) ::
    (nat_lit 224, ({ cls := PySem.Value.type "tuple", data := PySem.Data.seq #[PySem.Value.str (PySem.Str.ofString "self") 492, PySem.Value.str (PySem.Str.ofString "x") 493, PySem.Value.str (PySem.Str.ofString "y") 494] } : Obj)) ::
    (nat_lit 225, ({ cls := PySem.Value.type "tuple", data := PySem.Data.seq #[] } : Obj)) ::
    (nat_lit 227, ({ cls := PySem.Value.type "code", data := PySem.Data.fields #[PySem.Value.str (PySem.Str.ofString "alpha") 489, PySem.Value.str (PySem.Str.ofString "Mask.alpha") 490, PySem.Value.str (PySem.Str.ofString "/claim/cut.py") 491, PySem.Value.int 120 0, PySem.Value.int 3 0, PySem.Value.int 0 0, PySem.Value.int 0 0, PySem.Value.int 3 0, PySem.Value.ref 222, PySem.Value.bool Bool.true, PySem.Value.int 181 0, PySem.Value.ref 223, PySem.Value.none, PySem.Value.ref 224, PySem.Value.ref 225, PySem.Value.ref 226, PySem.Value.int 495 0, PySem.Value.int 120 0, PySem.Value.str (PySem.Str.ofString "/claim/cut.py") 496] } : Obj)) ::
    (nat_lit 228, ({ cls := PySem.Value.type "function", data := PySem.Data.func { name := PySem.Str.ofString "alpha", qualname := PySem.Str.ofString "Mask.alpha", params := p228, body := PySem.FuncBody.stmts b228, scope := s228, globals := 3, closure := [], defaults := PySem.Value.none, kwdefaults := PySem.Value.none, pyModule := PySem.Value.str (PySem.Str.ofString "outlinemill.mask") 425, code := PySem.Value.ref 227 } } : Obj)) ::
    (nat_lit 229, ({ cls := PySem.Value.type "tuple", data := PySem.Data.seq #[] } : Obj)) ::
    (nat_lit 231, ({ cls := PySem.Value.type "tuple", data := PySem.Data.seq #[PySem.Value.str (PySem.Str.ofString "self") 501, PySem.Value.str (PySem.Str.ofString "row") 502, PySem.Value.str (PySem.Str.ofString "spans") 503, PySem.Value.str (PySem.Str.ofString "y") 504, PySem.Value.str (PySem.Str.ofString "first") 505, PySem.Value.str (PySem.Str.ofString "last") 506, PySem.Value.str (PySem.Str.ofString "base") 507, PySem.Value.str (PySem.Str.ofString "begin") 508, PySem.Value.str (PySem.Str.ofString "end") 509, PySem.Value.str (PySem.Str.ofString "column") 510, PySem.Value.str (PySem.Str.ofString "limit") 511, PySem.Value.str (PySem.Str.ofString "x") 512, PySem.Value.str (PySem.Str.ofString "behind") 513] } : Obj)) ::
    (nat_lit 232, ({ cls := PySem.Value.type "tuple", data := PySem.Data.seq #[] } : Obj)) ::
    (nat_lit 234, ({ cls := PySem.Value.type "code", data := PySem.Data.fields #[PySem.Value.str (PySem.Str.ofString "add") 498, PySem.Value.str (PySem.Str.ofString "Mask.add") 499, PySem.Value.str (PySem.Str.ofString "/claim/cut.py") 500, PySem.Value.int 123 0, PySem.Value.int 3 0, PySem.Value.int 0 0, PySem.Value.int 0 0, PySem.Value.int 3 0, PySem.Value.ref 229, PySem.Value.bool Bool.true, PySem.Value.int 181 0, PySem.Value.ref 230, PySem.Value.none, PySem.Value.ref 231, PySem.Value.ref 232, PySem.Value.ref 233, PySem.Value.int 514 0, PySem.Value.int 123 0, PySem.Value.str (PySem.Str.ofString "/claim/cut.py") 515] } : Obj)) ::
    (nat_lit 235, ({ cls := PySem.Value.type "function", data := PySem.Data.func { name := PySem.Str.ofString "add", qualname := PySem.Str.ofString "Mask.add", params := p235, body := PySem.FuncBody.stmts b235, scope := s235, globals := 3, closure := [], defaults := PySem.Value.none, kwdefaults := PySem.Value.none, pyModule := PySem.Value.str (PySem.Str.ofString "outlinemill.mask") 425, code := PySem.Value.ref 234 } } : Obj)) ::
    (nat_lit 236, ({ cls := PySem.Value.type "tuple", data := PySem.Data.seq #[] } : Obj)) ::
    (nat_lit 238, ({ cls := PySem.Value.type "tuple", data := PySem.Data.seq #[PySem.Value.str (PySem.Str.ofString "self") 520] } : Obj)) ::
    (nat_lit 239, ({ cls := PySem.Value.type "tuple", data := PySem.Data.seq #[] } : Obj)) ::
    (nat_lit 241, ({ cls := PySem.Value.type "code", data := PySem.Data.fields #[PySem.Value.str (PySem.Str.ofString "full") 517, PySem.Value.str (PySem.Str.ofString "Mask.full") 518, PySem.Value.str (PySem.Str.ofString "/claim/cut.py") 519, PySem.Value.int 137 0, PySem.Value.int 1 0, PySem.Value.int 0 0, PySem.Value.int 0 0, PySem.Value.int 3 0, PySem.Value.ref 236, PySem.Value.bool Bool.true, PySem.Value.int 181 0, PySem.Value.ref 237, PySem.Value.none, PySem.Value.ref 238, PySem.Value.ref 239, PySem.Value.ref 240, PySem.Value.int 521 0, PySem.Value.int 137 0, PySem.Value.str (PySem.Str.ofString "/claim/cut.py") 522] } : Obj)) ::
    (nat_lit 242, ({ cls := PySem.Value.type "function", data := PySem.Data.func { name := PySem.Str.ofString "full", qualname := PySem.Str.ofString "Mask.full", params := p242, body := PySem.FuncBody.stmts b242, scope := s242, globals := 3, closure := [], defaults := PySem.Value.none, kwdefaults := PySem.Value.none, pyModule := PySem.Value.str (PySem.Str.ofString "outlinemill.mask") 425, code := PySem.Value.ref 241 } } : Obj)) ::
    (nat_lit 243, ({ cls := PySem.Value.type "tuple", data := PySem.Data.seq #[] } : Obj)) ::
    (nat_lit 245, ({ cls := PySem.Value.type "tuple", data := PySem.Data.seq #[PySem.Value.str (PySem.Str.ofString "self") 527, PySem.Value.str (PySem.Str.ofString "other") 528, PySem.Value.str (PySem.Str.ofString "found") 529, PySem.Value.str (PySem.Str.ofString "at") 530, PySem.Value.str (PySem.Str.ofString "x") 531, PySem.Value.str (PySem.Str.ofString "y") 532] } : Obj)) ::
    (nat_lit 246, ({ cls := PySem.Value.type "tuple", data := PySem.Data.seq #[] } : Obj)) ::
    (nat_lit 248, ({ cls := PySem.Value.type "code", data := PySem.Data.fields #[PySem.Value.str (PySem.Str.ofString "multiplied") 524, PySem.Value.str (PySem.Str.ofString "Mask.multiplied") 525, PySem.Value.str (PySem.Str.ofString "/claim/cut.py") 526, PySem.Value.int 141 0, PySem.Value.int 2 0, PySem.Value.int 0 0, PySem.Value.int 0 0, PySem.Value.int 3 0, PySem.Value.ref 243, PySem.Value.bool Bool.true, PySem.Value.int 181 0, PySem.Value.ref 244, PySem.Value.none, PySem.Value.ref 245, PySem.Value.ref 246, PySem.Value.ref 247, PySem.Value.int 533 0, PySem.Value.int 141 0, PySem.Value.str (PySem.Str.ofString "/claim/cut.py") 534] } : Obj)) ::
    (nat_lit 249, ({ cls := PySem.Value.type "function", data := PySem.Data.func { name := PySem.Str.ofString "multiplied", qualname := PySem.Str.ofString "Mask.multiplied", params := p249, body := PySem.FuncBody.stmts b249, scope := s249, globals := 3, closure := [], defaults := PySem.Value.none, kwdefaults := PySem.Value.none, pyModule := PySem.Value.str (PySem.Str.ofString "outlinemill.mask") 425, code := PySem.Value.ref 248 } } : Obj)) ::
    (nat_lit 250, ({ cls := PySem.Value.type "tuple", data := PySem.Data.seq #[] } : Obj)) ::
    (nat_lit 252, ({ cls := PySem.Value.type "tuple", data := PySem.Data.seq #[PySem.Value.str (PySem.Str.ofString "self") 539] } : Obj)) ::
    (nat_lit 253, ({ cls := PySem.Value.type "tuple", data := PySem.Data.seq #[] } : Obj)) ::
    (nat_lit 255, ({ cls := PySem.Value.type "code", data := PySem.Data.fields #[PySem.Value.str (PySem.Str.ofString "is_empty") 536, PySem.Value.str (PySem.Str.ofString "Mask.is_empty") 537, PySem.Value.str (PySem.Str.ofString "/claim/cut.py") 538, PySem.Value.int 150 0, PySem.Value.int 1 0, PySem.Value.int 0 0, PySem.Value.int 0 0, PySem.Value.int 3 0, PySem.Value.ref 250, PySem.Value.bool Bool.true, PySem.Value.int 181 0, PySem.Value.ref 251, PySem.Value.none, PySem.Value.ref 252, PySem.Value.ref 253, PySem.Value.ref 254, PySem.Value.int 540 0, PySem.Value.int 150 0, PySem.Value.str (PySem.Str.ofString "/claim/cut.py") 541] } : Obj)) ::
    (nat_lit 256, ({ cls := PySem.Value.type "function", data := PySem.Data.func { name := PySem.Str.ofString "is_empty", qualname := PySem.Str.ofString "Mask.is_empty", params := p256, body := PySem.FuncBody.stmts b256, scope := s256, globals := 3, closure := [], defaults := PySem.Value.none, kwdefaults := PySem.Value.none, pyModule := PySem.Value.str (PySem.Str.ofString "outlinemill.mask") 425, code := PySem.Value.ref 255 } } : Obj)) ::
    (nat_lit 257, ({ cls := PySem.Value.type "tuple", data := PySem.Data.seq #[PySem.Value.str (PySem.Str.ofString "counts") 543, PySem.Value.str (PySem.Str.ofString "fine") 544, PySem.Value.str (PySem.Str.ofString "height") 545, PySem.Value.str (PySem.Str.ofString "left") 546, PySem.Value.str (PySem.Str.ofString "top") 547, PySem.Value.str (PySem.Str.ofString "width") 548] } : Obj)) ::
    (nat_lit 258, ({ cls := PySem.Value.type "dict", data := PySem.Data.dict #[{ hash := PySem.PyData.keyHash PPP (PySem.Str.ofString "__module__"), key := PySem.Value.str (PySem.Str.ofString "__module__") 444, val := PySem.Value.str (PySem.Str.ofString "outlinemill.mask") 425 }, { hash := PySem.PyData.keyHash PPP (PySem.Str.ofString "__firstlineno__"), key := PySem.Value.str (PySem.Str.ofString "__firstlineno__") 448, val := PySem.Value.int 95 447 }, { hash := PySem.PyData.keyHash PPP (PySem.Str.ofString "__init__"), key := PySem.Value.str (PySem.Str.ofString "__init__") 460, val := PySem.Value.ref 200 }, { hash := PySem.PyData.keyHash PPP (PySem.Str.ofString "most"), key := PySem.Value.str (PySem.Str.ofString "most") 467, val := PySem.Value.ref 207 }, { hash := PySem.PyData.keyHash PPP (PySem.Str.ofString "place"), key := PySem.Value.str (PySem.Str.ofString "place") 478, val := PySem.Value.ref 214 }, { hash := PySem.PyData.keyHash PPP (PySem.Str.ofString "count"), key := PySem.Value.str (PySem.Str.ofString "count") 488, val := PySem.Value.ref 221 }, { hash := PySem.PyData.keyHash PPP (PySem.Str.ofString "alpha"), key := PySem.Value.str (PySem.Str.ofString "alpha") 497, val := PySem.Value.ref 228 }, { hash := PySem.PyData.keyHash PPP (PySem.Str.ofString "add"), key := PySem.Value.str (PySem.Str.ofString "add") 516, val := PySem.Value.ref 235 }, { hash := PySem.PyData.keyHash PPP (PySem.Str.ofString "full"), key := PySem.Value.str (PySem.Str.ofString "full") 523, val := PySem.Value.ref 242 }, { hash := PySem.PyData.keyHash PPP (PySem.Str.ofString "multiplied"), key := PySem.Value.str (PySem.Str.ofString "multiplied") 535, val := PySem.Value.ref 249 }, { hash := PySem.PyData.keyHash PPP (PySem.Str.ofString "is_empty"), key := PySem.Value.str (PySem.Str.ofString "is_empty") 542, val := PySem.Value.ref 256 }, { hash := PySem.PyData.keyHash PPP (PySem.Str.ofString "__static_attributes__"), key := PySem.Value.str (PySem.Str.ofString "__static_attributes__") 549, val := PySem.Value.ref 257 }, { hash := PySem.PyData.keyHash PPP (PySem.Str.ofString "__dict__"), key := PySem.Value.str (PySem.Str.ofString "__dict__") 551, val := PySem.Value.ref 260 }, { hash := PySem.PyData.keyHash PPP (PySem.Str.ofString "__weakref__"), key := PySem.Value.str (PySem.Str.ofString "__weakref__") 553, val := PySem.Value.ref 261 }, { hash := PySem.PyData.keyHash PPP (PySem.Str.ofString "__doc__"), key := PySem.Value.str (PySem.Str.ofString "__doc__") 554, val := PySem.Value.none }] 4 } : Obj)) ::
    (nat_lit 259, ({ cls := PySem.Value.type "type", data := PySem.Data.cls { name := PySem.Str.ofString "Mask", bases := [PySem.Value.type "object"], mro := [PySem.Value.ref 259, PySem.Value.type "object"], ns := 258, qualname := PySem.Str.ofString "Mask" }, slots := #[Option.none, Option.none, Option.some (PySem.Value.str (PySem.Str.ofString "Mask") 437), Option.some (PySem.Value.str (PySem.Str.ofString "Mask") 445), Option.some (PySem.Value.builtin "object.__new__"), Option.some (PySem.Value.bool Bool.true)] } : Obj)) ::
    (nat_lit 260, ({ cls := PySem.Value.type "getset_descriptor", data := PySem.Data.fields #[PySem.Value.str (PySem.Str.ofString "__dict__") 550, PySem.Value.ref 259, PySem.Value.builtin "function.__dict__", PySem.Value.builtin "function.__dict__#set"] } : Obj)) ::
    (nat_lit 261, ({ cls := PySem.Value.type "getset_descriptor", data := PySem.Data.fields #[PySem.Value.str (PySem.Str.ofString "__weakref__") 552, PySem.Value.ref 259, PySem.Value.builtin "ExceptionGroup.__weakref__", PySem.Value.none] } : Obj)) ::
    (nat_lit 264, ({ cls := PySem.Value.type "tuple", data := PySem.Data.seq #[] } : Obj)) ::
    (nat_lit 266, ({ cls := PySem.Value.type "tuple", data := PySem.Data.seq #[PySem.Value.str (PySem.Str.ofString "contours") 560, PySem.Value.str (PySem.Str.ofString "rule") 561, PySem.Value.str (PySem.Str.ofString "left") 562, PySem.Value.str (PySem.Str.ofString "top") 563, PySem.Value.str (PySem.Str.ofString "width") 564, PySem.Value.str (PySem.Str.ofString "height") 565, PySem.Value.str (PySem.Str.ofString "fine") 566, PySem.Value.str (PySem.Str.ofString "grain") 567, PySem.Value.str (PySem.Str.ofString "found") 568, PySem.Value.str (PySem.Str.ofString "sides") 569, PySem.Value.str (PySem.Str.ofString "row") 570] } : Obj)) ::
    (nat_lit 267, ({ cls := PySem.Value.type "tuple", data := PySem.Data.seq #[] } : Obj)) ::
    (nat_lit 269, ({ cls := PySem.Value.type "code", data := PySem.Data.fields #[PySem.Value.str (PySem.Str.ofString "mask_of") 557, PySem.Value.str (PySem.Str.ofString "mask_of") 558, PySem.Value.str (PySem.Str.ofString "/claim/cut.py") 559, PySem.Value.int 152 0, PySem.Value.int 8 0, PySem.Value.int 0 0, PySem.Value.int 0 0, PySem.Value.int 3 0, PySem.Value.ref 264, PySem.Value.bool Bool.true, PySem.Value.int 181 0, PySem.Value.ref 265, PySem.Value.none, PySem.Value.ref 266, PySem.Value.ref 267, PySem.Value.ref 268, PySem.Value.int 571 0, PySem.Value.int 152 0, PySem.Value.str (PySem.Str.ofString "/claim/cut.py") 572] } : Obj)) ::
    (nat_lit 270, ({ cls := PySem.Value.type "function", data := PySem.Data.func { name := PySem.Str.ofString "mask_of", qualname := PySem.Str.ofString "mask_of", params := p270, body := PySem.FuncBody.stmts b270, scope := s270, globals := 3, closure := [], defaults := PySem.Value.none, kwdefaults := PySem.Value.none, pyModule := PySem.Value.str (PySem.Str.ofString "outlinemill.mask") 425, code := PySem.Value.ref 269 } } : Obj)) ::
    (nat_lit 271, ({ cls := PySem.Value.type "tuple", data := PySem.Data.seq #[] } : Obj)) ::
    (nat_lit 273, ({ cls := PySem.Value.type "tuple", data := PySem.Data.seq #[PySem.Value.str (PySem.Str.ofString "script") 579, PySem.Value.str (PySem.Str.ofString "k") 580, PySem.Value.str (PySem.Str.ofString "cell") 581, PySem.Value.str (PySem.Str.ofString "big") 582, PySem.Value.str (PySem.Str.ofString "mixed") 583] } : Obj)) ::
    (nat_lit 274, ({ cls := PySem.Value.type "tuple", data := PySem.Data.seq #[] } : Obj)) ::
    (nat_lit 276, ({ cls := PySem.Value.type "code", data := PySem.Data.fields #[PySem.Value.str (PySem.Str.ofString "_law_pool") 576, PySem.Value.str (PySem.Str.ofString "_law_pool") 577, PySem.Value.str (PySem.Str.ofString "/claim/cut.py") 578, PySem.Value.int 159 0, PySem.Value.int 2 0, PySem.Value.int 0 0, PySem.Value.int 0 0, PySem.Value.int 3 0, PySem.Value.ref 271, PySem.Value.bool Bool.true, PySem.Value.int 181 0, PySem.Value.ref 272, PySem.Value.none, PySem.Value.ref 273, PySem.Value.ref 274, PySem.Value.ref 275, PySem.Value.int 584 0, PySem.Value.int 159 0, PySem.Value.str (PySem.Str.ofString "/claim/cut.py") 585] } : Obj)) ::
    (nat_lit 277, ({ cls := PySem.Value.type "function", data := PySem.Data.func { name := PySem.Str.ofString "_law_pool", qualname := PySem.Str.ofString "_law_pool", params := p277, body := PySem.FuncBody.stmts b277, scope := s277, globals := 3, closure := [], defaults := PySem.Value.none, kwdefaults := PySem.Value.none, pyModule := PySem.Value.str (PySem.Str.ofString "law_nu0019_01") 574, code := PySem.Value.ref 276 } } : Obj)) ::
    (nat_lit 278, ({ cls := PySem.Value.type "tuple", data := PySem.Data.seq #[] } : Obj)) ::
    (nat_lit 280, ({ cls := PySem.Value.type "tuple", data := PySem.Data.seq #[PySem.Value.str (PySem.Str.ofString "source") 590, PySem.Value.str (PySem.Str.ofString "top") 591, PySem.Value.str (PySem.Str.ofString "drawn") 592] } : Obj)) ::
    (nat_lit 281, ({ cls := PySem.Value.type "tuple", data := PySem.Data.seq #[] } : Obj)) ::
    (nat_lit 283, ({ cls := PySem.Value.type "code", data := PySem.Data.fields #[PySem.Value.str (PySem.Str.ofString "_law_take") 587, PySem.Value.str (PySem.Str.ofString "_law_take") 588, PySem.Value.str (PySem.Str.ofString "/claim/cut.py") 589, PySem.Value.int 166 0, PySem.Value.int 2 0, PySem.Value.int 0 0, PySem.Value.int 0 0, PySem.Value.int 3 0, PySem.Value.ref 278, PySem.Value.bool Bool.true, PySem.Value.int 181 0, PySem.Value.ref 279, PySem.Value.none, PySem.Value.ref 280, PySem.Value.ref 281, PySem.Value.ref 282, PySem.Value.int 593 0, PySem.Value.int 166 0, PySem.Value.str (PySem.Str.ofString "/claim/cut.py") 594] } : Obj)) ::
    (nat_lit 284, ({ cls := PySem.Value.type "function", data := PySem.Data.func { name := PySem.Str.ofString "_law_take", qualname := PySem.Str.ofString "_law_take", params := p284, body := PySem.FuncBody.stmts b284, scope := s284, globals := 3, closure := [], defaults := PySem.Value.none, kwdefaults := PySem.Value.none, pyModule := PySem.Value.str (PySem.Str.ofString "law_nu0019_01") 574, code := PySem.Value.ref 283 } } : Obj)) ::
    (nat_lit 285, ({ cls := PySem.Value.type "tuple", data := PySem.Data.seq #[] } : Obj)) ::
    (nat_lit 287, ({ cls := PySem.Value.type "tuple", data := PySem.Data.seq #[PySem.Value.str (PySem.Str.ofString "source") 599, PySem.Value.str (PySem.Str.ofString "things") 600] } : Obj)) ::
    (nat_lit 288, ({ cls := PySem.Value.type "tuple", data := PySem.Data.seq #[] } : Obj)) ::
    (nat_lit 290, ({ cls := PySem.Value.type "code", data := PySem.Data.fields #[PySem.Value.str (PySem.Str.ofString "_law_one") 596, PySem.Value.str (PySem.Str.ofString "_law_one") 597, PySem.Value.str (PySem.Str.ofString "/claim/cut.py") 598, PySem.Value.int 173 0, PySem.Value.int 2 0, PySem.Value.int 0 0, PySem.Value.int 0 0, PySem.Value.int 3 0, PySem.Value.ref 285, PySem.Value.bool Bool.true, PySem.Value.int 181 0, PySem.Value.ref 286, PySem.Value.none, PySem.Value.ref 287, PySem.Value.ref 288, PySem.Value.ref 289, PySem.Value.int 601 0, PySem.Value.int 173 0, PySem.Value.str (PySem.Str.ofString "/claim/cut.py") 602] } : Obj)) ::
    (nat_lit 291, ({ cls := PySem.Value.type "function", data := PySem.Data.func { name := PySem.Str.ofString "_law_one", qualname := PySem.Str.ofString "_law_one", params := p291, body := PySem.FuncBody.stmts b291, scope := s291, globals := 3, closure := [], defaults := PySem.Value.none, kwdefaults := PySem.Value.none, pyModule := PySem.Value.str (PySem.Str.ofString "law_nu0019_01") 574, code := PySem.Value.ref 290 } } : Obj)) ::
    (nat_lit 292, ({ cls := PySem.Value.type "tuple", data := PySem.Data.seq #[] } : Obj)) ::
    (nat_lit 294, ({ cls := PySem.Value.type "tuple", data := PySem.Data.seq #[PySem.Value.str (PySem.Str.ofString "spots") 607, PySem.Value.str (PySem.Str.ofString "x") 608, PySem.Value.str (PySem.Str.ofString "y") 609, PySem.Value.str (PySem.Str.ofString "found") 610, PySem.Value.str (PySem.Str.ofString "at") 611, PySem.Value.str (PySem.Str.ofString "one") 612, PySem.Value.str (PySem.Str.ofString "other") 613, PySem.Value.str (PySem.Str.ofString "upper") 614, PySem.Value.str (PySem.Str.ofString "lower") 615, PySem.Value.str (PySem.Str.ofString "high") 616, PySem.Value.str (PySem.Str.ofString "wide") 617] } : Obj)) ::
    (nat_lit 295, ({ cls := PySem.Value.type "tuple", data := PySem.Data.seq #[] } : Obj)) ::
    (nat_lit 297, ({ cls := PySem.Value.type "code", data := PySem.Data.fields #[PySem.Value.str (PySem.Str.ofString "_law_winding") 604, PySem.Value.str (PySem.Str.ofString "_law_winding") 605, PySem.Value.str (PySem.Str.ofString "/claim/cut.py") 606, PySem.Value.int 175 0, PySem.Value.int 3 0, PySem.Value.int 0 0, PySem.Value.int 0 0, PySem.Value.int 3 0, PySem.Value.ref 292, PySem.Value.bool Bool.true, PySem.Value.int 181 0, PySem.Value.ref 293, PySem.Value.none, PySem.Value.ref 294, PySem.Value.ref 295, PySem.Value.ref 296, PySem.Value.int 618 0, PySem.Value.int 175 0, PySem.Value.str (PySem.Str.ofString "/claim/cut.py") 619] } : Obj)) ::
    (nat_lit 298, ({ cls := PySem.Value.type "function", data := PySem.Data.func { name := PySem.Str.ofString "_law_winding", qualname := PySem.Str.ofString "_law_winding", params := p298, body := PySem.FuncBody.stmts b298, scope := s298, globals := 3, closure := [], defaults := PySem.Value.none, kwdefaults := PySem.Value.none, pyModule := PySem.Value.str (PySem.Str.ofString "law_nu0019_01") 574, code := PySem.Value.ref 297 } } : Obj)) ::
    (nat_lit 299, ({ cls := PySem.Value.type "tuple", data := PySem.Data.seq #[] } : Obj)) ::
    (nat_lit 301, ({ cls := PySem.Value.type "tuple", data := PySem.Data.seq #[PySem.Value.str (PySem.Str.ofString "spots") 624, PySem.Value.str (PySem.Str.ofString "rule") 625, PySem.Value.str (PySem.Str.ofString "x") 626, PySem.Value.str (PySem.Str.ofString "y") 627, PySem.Value.str (PySem.Str.ofString "fine") 628, PySem.Value.str (PySem.Str.ofString "grain") 629, PySem.Value.str (PySem.Str.ofString "step") 630, PySem.Value.str (PySem.Str.ofString "found") 631, PySem.Value.str (PySem.Str.ofString "row") 632, PySem.Value.str (PySem.Str.ofString "column") 633, PySem.Value.str (PySem.Str.ofString "winding") 634] } : Obj)) ::
    (nat_lit 302, ({ cls := PySem.Value.type "tuple", data := PySem.Data.seq #[] } : Obj)) ::
    (nat_lit 304, ({ cls := PySem.Value.type "code", data := PySem.Data.fields #[PySem.Value.str (PySem.Str.ofString "_law_count") 621, PySem.Value.str (PySem.Str.ofString "_law_count") 622, PySem.Value.str (PySem.Str.ofString "/claim/cut.py") 623, PySem.Value.int 184 0, PySem.Value.int 6 0, PySem.Value.int 0 0, PySem.Value.int 0 0, PySem.Value.int 3 0, PySem.Value.ref 299, PySem.Value.bool Bool.true, PySem.Value.int 181 0, PySem.Value.ref 300, PySem.Value.none, PySem.Value.ref 301, PySem.Value.ref 302, PySem.Value.ref 303, PySem.Value.int 635 0, PySem.Value.int 184 0, PySem.Value.str (PySem.Str.ofString "/claim/cut.py") 636] } : Obj)) ::
    (nat_lit 305, ({ cls := PySem.Value.type "function", data := PySem.Data.func { name := PySem.Str.ofString "_law_count", qualname := PySem.Str.ofString "_law_count", params := p305, body := PySem.FuncBody.stmts b305, scope := s305, globals := 3, closure := [], defaults := PySem.Value.none, kwdefaults := PySem.Value.none, pyModule := PySem.Value.str (PySem.Str.ofString "law_nu0019_01") 574, code := PySem.Value.ref 304 } } : Obj)) ::
    (nat_lit 306, ({ cls := PySem.Value.type "tuple", data := PySem.Data.seq #[] } : Obj)) ::
    (nat_lit 308, ({ cls := PySem.Value.type "tuple", data := PySem.Data.seq #[PySem.Value.str (PySem.Str.ofString "count") 641, PySem.Value.str (PySem.Str.ofString "most") 642, PySem.Value.str (PySem.Str.ofString "found") 643] } : Obj)) ::
    (nat_lit 309, ({ cls := PySem.Value.type "tuple", data := PySem.Data.seq #[] } : Obj)) ::
    (nat_lit 311, ({ cls := PySem.Value.type "code", data := PySem.Data.fields #[PySem.Value.str (PySem.Str.ofString "_law_alpha") 638, PySem.Value.str (PySem.Str.ofString "_law_alpha") 639, PySem.Value.str (PySem.Str.ofString "/claim/cut.py") 640, PySem.Value.int 191 0, PySem.Value.int 2 0, PySem.Value.int 0 0, PySem.Value.int 0 0, PySem.Value.int 3 0, PySem.Value.ref 306, PySem.Value.bool Bool.true, PySem.Value.int 181 0, PySem.Value.ref 307, PySem.Value.none, PySem.Value.ref 308, PySem.Value.ref 309, PySem.Value.ref 310, PySem.Value.int 644 0, PySem.Value.int 191 0, PySem.Value.str (PySem.Str.ofString "/claim/cut.py") 645] } : Obj)) ::
    (nat_lit 312, ({ cls := PySem.Value.type "function", data := PySem.Data.func { name := PySem.Str.ofString "_law_alpha", qualname := PySem.Str.ofString "_law_alpha", params := p312, body := PySem.FuncBody.stmts b312, scope := s312, globals := 3, closure := [], defaults := PySem.Value.none, kwdefaults := PySem.Value.none, pyModule := PySem.Value.str (PySem.Str.ofString "law_nu0019_01") 574, code := PySem.Value.ref 311 } } : Obj)) ::
    (nat_lit 313, ({ cls := PySem.Value.type "tuple", data := PySem.Data.seq #[] } : Obj)) ::
    (nat_lit 315, ({ cls := PySem.Value.type "tuple", data := PySem.Data.seq #[PySem.Value.str (PySem.Str.ofString "source") 650, PySem.Value.str (PySem.Str.ofString "fine") 651, PySem.Value.str (PySem.Str.ofString "mask") 652, PySem.Value.str (PySem.Str.ofString "counts") 653, PySem.Value.str (PySem.Str.ofString "row") 654, PySem.Value.str (PySem.Str.ofString "begin") 655, PySem.Value.str (PySem.Str.ofString "end") 656, PySem.Value.str (PySem.Str.ofString "column") 657, PySem.Value.str (PySem.Str.ofString "dot") 658] } : Obj)) ::
    (nat_lit 316, ({ cls := PySem.Value.type "tuple", data := PySem.Data.seq #[] } : Obj)) ::
    (nat_lit 318, ({ cls := PySem.Value.type "code", data := PySem.Data.fields #[PySem.Value.str (PySem.Str.ofString "_law_by_hand") 647, PySem.Value.str (PySem.Str.ofString "_law_by_hand") 648, PySem.Value.str (PySem.Str.ofString "/claim/cut.py") 649, PySem.Value.int 194 0, PySem.Value.int 2 0, PySem.Value.int 0 0, PySem.Value.int 0 0, PySem.Value.int 3 0, PySem.Value.ref 313, PySem.Value.bool Bool.true, PySem.Value.int 181 0, PySem.Value.ref 314, PySem.Value.none, PySem.Value.ref 315, PySem.Value.ref 316, PySem.Value.ref 317, PySem.Value.int 659 0, PySem.Value.int 194 0, PySem.Value.str (PySem.Str.ofString "/claim/cut.py") 660] } : Obj)) ::
    (nat_lit 319, ({ cls := PySem.Value.type "function", data := PySem.Data.func { name := PySem.Str.ofString "_law_by_hand", qualname := PySem.Str.ofString "_law_by_hand", params := p319, body := PySem.FuncBody.stmts b319, scope := s319, globals := 3, closure := [], defaults := PySem.Value.none, kwdefaults := PySem.Value.none, pyModule := PySem.Value.str (PySem.Str.ofString "law_nu0019_01") 574, code := PySem.Value.ref 318 } } : Obj)) ::
    (nat_lit 320, ({ cls := PySem.Value.type "tuple", data := PySem.Data.seq #[] } : Obj)) ::
    (nat_lit 323, ({ cls := PySem.Value.type "code", data := PySem.Data.fields #[PySem.Value.str (PySem.Str.ofString "law") 662, PySem.Value.str (PySem.Str.ofString "law") 663, PySem.Value.str (PySem.Str.ofString "/claim/cut.py") 664, PySem.Value.int 204 0, PySem.Value.int 1 0, PySem.Value.int 0 0, PySem.Value.int 0 0, PySem.Value.int 3 0, PySem.Value.ref 320, PySem.Value.bool Bool.true, PySem.Value.int 181 0, PySem.Value.ref 321, PySem.Value.none, PySem.Value.none, PySem.Value.none, PySem.Value.ref 322, PySem.Value.int 665 0, PySem.Value.int 204 0, PySem.Value.str (PySem.Str.ofString "/claim/cut.py") 666] } : Obj)) ::
    (nat_lit 324, ({ cls := PySem.Value.type "function", data := PySem.Data.func { name := PySem.Str.ofString "law", qualname := PySem.Str.ofString "law", params := p324, body := PySem.FuncBody.stmts b324, scope := s324, globals := 3, closure := [], defaults := PySem.Value.none, kwdefaults := PySem.Value.none, pyModule := PySem.Value.str (PySem.Str.ofString "law_nu0019_01") 574, code := PySem.Value.ref 323 } } : Obj)) :: []) : List (Nat × Obj))) _ _ _ ?h21 _ _ _ ?h35 _ _ _ ?h61 _ _ _ ?h68 _ _ _ ?h75 _ _ _ ?h82 _ _ _ ?h89 _ _ _ ?h96 _ _ _ ?h103 _ _ _ ?h110 _ _ _ ?h124 _ _ _ ?h131 _ _ _ ?h138 _ _ _ ?h145 _ _ _ ?h159 _ _ _ ?h166 _ _ _ ?h174 _ _ _ ?h179 _ _ _ ?h186 _ _ _ ?h200 _ _ _ ?h207 _ _ _ ?h214 _ _ _ ?h221 _ _ _ ?h228 _ _ _ ?h235 _ _ _ ?h242 _ _ _ ?h249 _ _ _ ?h256 _ _ _ ?h270 _ _ _ ?h277 _ _ _ ?h284 _ _ _ ?h291 _ _ _ ?h298 _ _ _ ?h305 _ _ _ ?h312 _ _ _ ?h319 _ _ _ ?h324
  case h21 => exact rfl
  case h35 => exact rfl
  case h61 => exact rfl
  case h68 => exact rfl
  case h75 => exact rfl
  case h82 => exact rfl
  case h89 => exact rfl
  case h96 => exact rfl
  case h103 => exact rfl
  case h110 => exact rfl
  case h124 => exact rfl
  case h131 => exact rfl
  case h138 => exact rfl
  case h145 => exact rfl
  case h159 => exact rfl
  case h166 => exact rfl
  case h174 => exact rfl
  case h179 => exact rfl
  case h186 => exact rfl
  case h200 => exact rfl
  case h207 => exact rfl
  case h214 => exact rfl
  case h221 => exact rfl
  case h228 => exact rfl
  case h235 => exact rfl
  case h242 => exact rfl
  case h249 => exact rfl
  case h256 => exact rfl
  case h270 => exact rfl
  case h277 => exact rfl
  case h284 => exact rfl
  case h291 => exact rfl
  case h298 => exact rfl
  case h305 => exact rfl
  case h312 => exact rfl
  case h319 => exact rfl
  case h324 => exact rfl
noncomputable def heapX : Params → Frag := by
  intro PPP
  refine' (fun (x : Frag) (_ : x = heapY PPP) => x) _ ?h
  case h =>
    conv =>
      rhs
      whnf
noncomputable abbrev asX : List Addr := [2, 3, 15, 17, 18, 20, 21, 22, 29, 31, 32, 34, 35, 36, 37, 38, 39, 42, 49, 50, 51, 54, 55, 57, 58, 60, 61, 62, 64, 65, 67, 68, 69, 71, 72, 74, 75, 76, 78, 79, 81, 82, 83, 85, 86, 88, 89, 90, 92, 93, 95, 96, 97, 99, 100, 102, 103, 104, 106, 107, 109, 110, 118, 120, 121, 123, 124, 125, 127, 128, 130, 131, 132, 134, 135, 137, 138, 139, 141, 142, 144, 145, 146, 147, 148, 149, 150, 153, 155, 156, 158, 159, 160, 162, 163, 165, 166, 167, 168, 170, 171, 173, 174, 175, 178, 179, 180, 182, 183, 185, 186, 194, 196, 197, 199, 200, 201, 203, 204, 206, 207, 208, 210, 211, 213, 214, 215, 217, 218, 220, 221, 222, 224, 225, 227, 228, 229, 231, 232, 234, 235, 236, 238, 239, 241, 242, 243, 245, 246, 248, 249, 250, 252, 253, 255, 256, 257, 258, 259, 260, 261, 264, 266, 267, 269, 270, 271, 273, 274, 276, 277, 278, 280, 281, 283, 284, 285, 287, 288, 290, 291, 292, 294, 295, 297, 298, 299, 301, 302, 304, 305, 306, 308, 309, 311, 312, 313, 315, 316, 318, 319, 320, 323, 324]
noncomputable abbrev HK : Hook := kHook heapX asX (fun _ => by kernel_rfl)
noncomputable abbrev rwW : RowW := OpenRow.toRowW PySem.Challenge.rw_nu0019_01.row
noncomputable def hdFn (i c j : Nat) (f : Arguments → List Stmt → Scope → Obj) : Obj := match fnParts (fnAt i c j) with
  | some (a, b, s) => f a b s
  | none => default
noncomputable def hdOx (P : Params) (a : Nat) : Obj := ((heapX P).lookup a).getD default
noncomputable def hdSeg0 (P : Params) : List Obj := [hdOx P 15, ({ cls := Value.none, data := Data.fields #[] } : Obj), hdOx P 17, hdOx P 18, (hdFn 0 0 0 fun pa bo sc => { cls := Value.none, data := Data.func { name := Str.ofString "_wall", qualname := Str.ofString "_wall", params := pa, body := FuncBody.stmts bo, scope := sc, globals := 0, closure := [], defaults := Value.none, kwdefaults := Value.none } }), hdOx P 20, hdOx P 21, hdOx P 22, ({ cls := Value.type "builtin_function_or_method", data := Data.fields #[Value.builtin "type.__prepare__", Value.type "type"] } : Obj), ({ cls := Value.type "dict", data := Data.dict #[{ hash := PyData.keyHash P (Str.ofString "__module__"), key := Value.str (Str.ofString "__module__") 203, val := Value.str (Str.ofString "outlinemill.errors") 194 }, { hash := PyData.keyHash P (Str.ofString "__qualname__"), key := Value.str (Str.ofString "__qualname__") 205, val := Value.str (Str.ofString "MillError") 204 }, { hash := PyData.keyHash P (Str.ofString "__firstlineno__"), key := Value.str (Str.ofString "__firstlineno__") 207, val := Value.int 5 206 }, { hash := PyData.keyHash P (Str.ofString "__init__"), key := Value.str (Str.ofString "__init__") 215, val := Value.ref 35 }, { hash := PyData.keyHash P (Str.ofString "__static_attributes__"), key := Value.str (Str.ofString "__static_attributes__") 217, val := Value.ref 36 }] 5 } : Obj), ({ cls := Value.type "tuple", data := Data.seq #[] } : Obj), ({ cls := Value.none, data := Data.fields #[Value.int 7 0, Value.int 4 0, Value.ref 34] } : Obj), ({ cls := Value.type "code", data := Data.fields #[Value.str (Str.ofString "MillError") 198, Value.str (Str.ofString "MillError") 199, Value.str (Str.ofString "/claim/cut.py") 200, Value.int 5 0, Value.int 0 0, Value.int 0 0, Value.int 0 0, Value.int 0 0, Value.ref 25, Value.bool Bool.false, Value.int 181 0, Value.ref 26, Value.none, Value.none, Value.none, Value.none, Value.int 201 0, Value.int 5 0, Value.str (Str.ofString "/claim/cut.py") 202] } : Obj), ({ cls := Value.type "frame", slots := #[Option.some (Value.ref 27), Option.some (Value.ref 3), Option.some (Value.ref 24), Option.none, Option.some (Value.str (Str.ofString "outlinemill.errors") 194), Option.none, Option.some (Value.ref 0)] } : Obj), hdOx P 29, ({ cls := Value.none, data := Data.fields #[] } : Obj), hdOx P 31, hdOx P 32, (hdFn 2 1 0 fun pa bo sc => { cls := Value.none, data := Data.func { name := Str.ofString "__init__", qualname := Str.ofString "MillError.__init__", params := pa, body := FuncBody.stmts bo, scope := sc, globals := 0, closure := [], defaults := Value.none, kwdefaults := Value.none } }), hdOx P 34, hdOx P 35, hdOx P 36, hdOx P 37, hdOx P 38, hdOx P 39, ({ cls := Value.type "super", data := Data.fields #[Value.ref 38, Value.ref 38, Value.ref 38] } : Obj), ({ cls := Value.type "builtin_function_or_method", data := Data.fields #[Value.builtin "object.__init_subclass__", Value.ref 38] } : Obj), hdOx P 42, ({ cls := Value.type "builtin_function_or_method", data := Data.fields #[Value.builtin "type.__prepare__", Value.type "type"] } : Obj), ({ cls := Value.type "dict", data := Data.dict #[{ hash := PyData.keyHash P (Str.ofString "__module__"), key := Value.str (Str.ofString "__module__") 232, val := Value.str (Str.ofString "outlinemill.errors") 194 }, { hash := PyData.keyHash P (Str.ofString "__qualname__"), key := Value.str (Str.ofString "__qualname__") 234, val := Value.str (Str.ofString "SizeFault") 233 }, { hash := PyData.keyHash P (Str.ofString "__firstlineno__"), key := Value.str (Str.ofString "__firstlineno__") 236, val := Value.int 9 235 }, { hash := PyData.keyHash P (Str.ofString "__static_attributes__"), key := Value.str (Str.ofString "__static_attributes__") 237, val := Value.ref 49 }] 4 } : Obj), ({ cls := Value.type "tuple", data := Data.seq #[] } : Obj), ({ cls := Value.none, data := Data.fields #[] } : Obj), ({ cls := Value.type "code", data := Data.fields #[Value.str (Str.ofString "SizeFault") 227, Value.str (Str.ofString "SizeFault") 228, Value.str (Str.ofString "/claim/cut.py") 229, Value.int 9 0, Value.int 0 0, Value.int 0 0, Value.int 0 0, Value.int 0 0, Value.ref 45, Value.bool Bool.false, Value.int 181 0, Value.ref 46, Value.none, Value.none, Value.none, Value.none, Value.int 230 0, Value.int 9 0, Value.str (Str.ofString "/claim/cut.py") 231] } : Obj), ({ cls := Value.type "frame", slots := #[Option.some (Value.ref 47), Option.some (Value.ref 3), Option.some (Value.ref 44), Option.none, Option.some (Value.str (Str.ofString "outlinemill.errors") 194), Option.none, Option.some (Value.ref 0)] } : Obj), hdOx P 49, hdOx P 50, hdOx P 51, ({ cls := Value.type "super", data := Data.fields #[Value.ref 51, Value.ref 51, Value.ref 51] } : Obj), ({ cls := Value.type "builtin_function_or_method", data := Data.fields #[Value.builtin "object.__init_subclass__", Value.ref 51] } : Obj)]
noncomputable def hdSeg1 (P : Params) : List Obj := [hdOx P 54, hdOx P 55, ({ cls := Value.none, data := Data.fields #[] } : Obj), hdOx P 57, hdOx P 58, (hdFn 6 0 0 fun pa bo sc => { cls := Value.none, data := Data.func { name := Str.ofString "is_inside", qualname := Str.ofString "is_inside", params := pa, body := FuncBody.stmts bo, scope := sc, globals := 0, closure := [], defaults := Value.none, kwdefaults := Value.none } }), hdOx P 60, hdOx P 61, hdOx P 62, ({ cls := Value.none, data := Data.fields #[] } : Obj), hdOx P 64, hdOx P 65, (hdFn 7 0 0 fun pa bo sc => { cls := Value.none, data := Data.func { name := Str.ofString "step_of", qualname := Str.ofString "step_of", params := pa, body := FuncBody.stmts bo, scope := sc, globals := 0, closure := [], defaults := Value.none, kwdefaults := Value.none } }), hdOx P 67, hdOx P 68, hdOx P 69, ({ cls := Value.none, data := Data.fields #[] } : Obj), hdOx P 71, hdOx P 72, (hdFn 8 0 0 fun pa bo sc => { cls := Value.none, data := Data.func { name := Str.ofString "ceiling", qualname := Str.ofString "ceiling", params := pa, body := FuncBody.stmts bo, scope := sc, globals := 0, closure := [], defaults := Value.none, kwdefaults := Value.none } }), hdOx P 74, hdOx P 75, hdOx P 76, ({ cls := Value.none, data := Data.fields #[] } : Obj), hdOx P 78, hdOx P 79, (hdFn 9 0 0 fun pa bo sc => { cls := Value.none, data := Data.func { name := Str.ofString "column_behind", qualname := Str.ofString "column_behind", params := pa, body := FuncBody.stmts bo, scope := sc, globals := 0, closure := [], defaults := Value.none, kwdefaults := Value.none } }), hdOx P 81, hdOx P 82, hdOx P 83, ({ cls := Value.none, data := Data.fields #[] } : Obj), hdOx P 85, hdOx P 86, (hdFn 10 0 0 fun pa bo sc => { cls := Value.none, data := Data.func { name := Str.ofString "check_rule", qualname := Str.ofString "check_rule", params := pa, body := FuncBody.stmts bo, scope := sc, globals := 0, closure := [], defaults := Value.none, kwdefaults := Value.none } }), hdOx P 88, hdOx P 89, hdOx P 90, ({ cls := Value.none, data := Data.fields #[] } : Obj), hdOx P 92, hdOx P 93, (hdFn 11 0 0 fun pa bo sc => { cls := Value.none, data := Data.func { name := Str.ofString "steps_of_row", qualname := Str.ofString "steps_of_row", params := pa, body := FuncBody.stmts bo, scope := sc, globals := 0, closure := [], defaults := Value.none, kwdefaults := Value.none } }), hdOx P 95, hdOx P 96, hdOx P 97, ({ cls := Value.none, data := Data.fields #[] } : Obj), hdOx P 99, hdOx P 100, (hdFn 12 0 0 fun pa bo sc => { cls := Value.none, data := Data.func { name := Str.ofString "spans_by", qualname := Str.ofString "spans_by", params := pa, body := FuncBody.stmts bo, scope := sc, globals := 0, closure := [], defaults := Value.none, kwdefaults := Value.none } }), hdOx P 102, hdOx P 103, hdOx P 104, ({ cls := Value.none, data := Data.fields #[] } : Obj), hdOx P 106, hdOx P 107, (hdFn 13 0 0 fun pa bo sc => { cls := Value.none, data := Data.func { name := Str.ofString "sample_spans", qualname := Str.ofString "sample_spans", params := pa, body := FuncBody.stmts bo, scope := sc, globals := 0, closure := [], defaults := Value.none, kwdefaults := Value.none } }), hdOx P 109, hdOx P 110]
noncomputable def hdSeg2 (P : Params) : List Obj := [({ cls := Value.type "tuple", data := Data.seq #[] } : Obj), ({ cls := Value.type "builtin_function_or_method", data := Data.fields #[Value.builtin "type.__prepare__", Value.type "type"] } : Obj), ({ cls := Value.type "dict", data := Data.dict #[{ hash := PyData.keyHash P (Str.ofString "__module__"), key := Value.str (Str.ofString "__module__") 333, val := Value.str (Str.ofString "outlinemill.sides") 324 }, { hash := PyData.keyHash P (Str.ofString "__qualname__"), key := Value.str (Str.ofString "__qualname__") 335, val := Value.str (Str.ofString "Side") 334 }, { hash := PyData.keyHash P (Str.ofString "__firstlineno__"), key := Value.str (Str.ofString "__firstlineno__") 337, val := Value.int 50 336 }, { hash := PyData.keyHash P (Str.ofString "__init__"), key := Value.str (Str.ofString "__init__") 349, val := Value.ref 124 }, { hash := PyData.keyHash P (Str.ofString "row"), key := Value.str (Str.ofString "row") 356, val := Value.ref 131 }, { hash := PyData.keyHash P (Str.ofString "covers"), key := Value.str (Str.ofString "covers") 364, val := Value.ref 138 }, { hash := PyData.keyHash P (Str.ofString "place_at"), key := Value.str (Str.ofString "place_at") 373, val := Value.ref 145 }, { hash := PyData.keyHash P (Str.ofString "__static_attributes__"), key := Value.str (Str.ofString "__static_attributes__") 379, val := Value.ref 146 }] 8 } : Obj), ({ cls := Value.type "tuple", data := Data.seq #[] } : Obj), ({ cls := Value.none, data := Data.fields #[Value.int 52 0, Value.int 4 0, Value.ref 123, Value.int 59 0, Value.int 4 0, Value.ref 130, Value.int 62 0, Value.int 4 0, Value.ref 137, Value.int 65 0, Value.int 4 0, Value.ref 144] } : Obj), ({ cls := Value.type "code", data := Data.fields #[Value.str (Str.ofString "Side") 328, Value.str (Str.ofString "Side") 329, Value.str (Str.ofString "/claim/cut.py") 330, Value.int 50 0, Value.int 0 0, Value.int 0 0, Value.int 0 0, Value.int 0 0, Value.ref 114, Value.bool Bool.false, Value.int 181 0, Value.ref 115, Value.none, Value.none, Value.none, Value.none, Value.int 331 0, Value.int 50 0, Value.str (Str.ofString "/claim/cut.py") 332] } : Obj), ({ cls := Value.type "frame", slots := #[Option.some (Value.ref 116), Option.some (Value.ref 3), Option.some (Value.ref 113), Option.none, Option.some (Value.str (Str.ofString "outlinemill.sides") 324), Option.none, Option.some (Value.ref 0)] } : Obj), hdOx P 118, ({ cls := Value.none, data := Data.fields #[] } : Obj), hdOx P 120, hdOx P 121, (hdFn 15 1 0 fun pa bo sc => { cls := Value.none, data := Data.func { name := Str.ofString "__init__", qualname := Str.ofString "Side.__init__", params := pa, body := FuncBody.stmts bo, scope := sc, globals := 0, closure := [], defaults := Value.none, kwdefaults := Value.none } }), hdOx P 123, hdOx P 124, hdOx P 125, ({ cls := Value.none, data := Data.fields #[] } : Obj), hdOx P 127, hdOx P 128, (hdFn 15 1 1 fun pa bo sc => { cls := Value.none, data := Data.func { name := Str.ofString "row", qualname := Str.ofString "Side.row", params := pa, body := FuncBody.stmts bo, scope := sc, globals := 0, closure := [], defaults := Value.none, kwdefaults := Value.none } }), hdOx P 130, hdOx P 131, hdOx P 132, ({ cls := Value.none, data := Data.fields #[] } : Obj), hdOx P 134, hdOx P 135, (hdFn 15 1 2 fun pa bo sc => { cls := Value.none, data := Data.func { name := Str.ofString "covers", qualname := Str.ofString "Side.covers", params := pa, body := FuncBody.stmts bo, scope := sc, globals := 0, closure := [], defaults := Value.none, kwdefaults := Value.none } }), hdOx P 137, hdOx P 138, hdOx P 139, ({ cls := Value.none, data := Data.fields #[] } : Obj), hdOx P 141, hdOx P 142, (hdFn 15 1 3 fun pa bo sc => { cls := Value.none, data := Data.func { name := Str.ofString "place_at", qualname := Str.ofString "Side.place_at", params := pa, body := FuncBody.stmts bo, scope := sc, globals := 0, closure := [], defaults := Value.none, kwdefaults := Value.none } }), hdOx P 144, hdOx P 145, hdOx P 146, hdOx P 147, hdOx P 148, hdOx P 149, hdOx P 150, ({ cls := Value.type "super", data := Data.fields #[Value.ref 148, Value.ref 148, Value.ref 148] } : Obj), ({ cls := Value.type "builtin_function_or_method", data := Data.fields #[Value.builtin "object.__init_subclass__", Value.ref 148] } : Obj), hdOx P 153, ({ cls := Value.none, data := Data.fields #[] } : Obj), hdOx P 155, hdOx P 156, (hdFn 16 0 0 fun pa bo sc => { cls := Value.none, data := Data.func { name := Str.ofString "side_between", qualname := Str.ofString "side_between", params := pa, body := FuncBody.stmts bo, scope := sc, globals := 0, closure := [], defaults := Value.none, kwdefaults := Value.none } }), hdOx P 158, hdOx P 159, hdOx P 160, ({ cls := Value.none, data := Data.fields #[] } : Obj), hdOx P 162, hdOx P 163, (hdFn 17 0 0 fun pa bo sc => { cls := Value.none, data := Data.func { name := Str.ofString "sides_of_contour", qualname := Str.ofString "sides_of_contour", params := pa, body := FuncBody.stmts bo, scope := sc, globals := 0, closure := [], defaults := Value.none, kwdefaults := Value.none } }), hdOx P 165, hdOx P 166, hdOx P 167, hdOx P 168, ({ cls := Value.none, data := Data.fields #[] } : Obj), hdOx P 170, hdOx P 171, (hdFn 18 0 0 fun pa bo sc => { cls := Value.none, data := Data.func { name := Str.ofString "sides_of", qualname := Str.ofString "sides_of", params := pa, body := FuncBody.stmts bo, scope := sc, globals := 0, closure := [], defaults := Value.none, kwdefaults := Value.none } }), hdOx P 173, hdOx P 174, hdOx P 175, ({ cls := Value.none, data := Data.fields #[] } : Obj), (hdFn 19 0 0 fun pa bo sc => { cls := Value.none, data := Data.func { name := Str.ofString "sides_between", qualname := Str.ofString "sides_between", params := pa, body := FuncBody.stmts bo, scope := sc, globals := 0, closure := [], defaults := Value.none, kwdefaults := Value.none } }), hdOx P 178, hdOx P 179, hdOx P 180, ({ cls := Value.none, data := Data.fields #[] } : Obj), hdOx P 182, hdOx P 183, (hdFn 22 0 0 fun pa bo sc => { cls := Value.none, data := Data.func { name := Str.ofString "rounded_share", qualname := Str.ofString "rounded_share", params := pa, body := FuncBody.stmts bo, scope := sc, globals := 0, closure := [], defaults := Value.none, kwdefaults := Value.none } }), hdOx P 185, hdOx P 186]
noncomputable def hdSeg3 (P : Params) : List Obj := [({ cls := Value.type "tuple", data := Data.seq #[] } : Obj), ({ cls := Value.type "builtin_function_or_method", data := Data.fields #[Value.builtin "type.__prepare__", Value.type "type"] } : Obj), ({ cls := Value.type "dict", data := Data.dict #[{ hash := PyData.keyHash P (Str.ofString "__module__"), key := Value.str (Str.ofString "__module__") 444, val := Value.str (Str.ofString "outlinemill.mask") 425 }, { hash := PyData.keyHash P (Str.ofString "__qualname__"), key := Value.str (Str.ofString "__qualname__") 446, val := Value.str (Str.ofString "Mask") 445 }, { hash := PyData.keyHash P (Str.ofString "__firstlineno__"), key := Value.str (Str.ofString "__firstlineno__") 448, val := Value.int 95 447 }, { hash := PyData.keyHash P (Str.ofString "__init__"), key := Value.str (Str.ofString "__init__") 460, val := Value.ref 200 }, { hash := PyData.keyHash P (Str.ofString "most"), key := Value.str (Str.ofString "most") 467, val := Value.ref 207 }, { hash := PyData.keyHash P (Str.ofString "place"), key := Value.str (Str.ofString "place") 478, val := Value.ref 214 }, { hash := PyData.keyHash P (Str.ofString "count"), key := Value.str (Str.ofString "count") 488, val := Value.ref 221 }, { hash := PyData.keyHash P (Str.ofString "alpha"), key := Value.str (Str.ofString "alpha") 497, val := Value.ref 228 }, { hash := PyData.keyHash P (Str.ofString "add"), key := Value.str (Str.ofString "add") 516, val := Value.ref 235 }, { hash := PyData.keyHash P (Str.ofString "full"), key := Value.str (Str.ofString "full") 523, val := Value.ref 242 }, { hash := PyData.keyHash P (Str.ofString "multiplied"), key := Value.str (Str.ofString "multiplied") 535, val := Value.ref 249 }, { hash := PyData.keyHash P (Str.ofString "is_empty"), key := Value.str (Str.ofString "is_empty") 542, val := Value.ref 256 }, { hash := PyData.keyHash P (Str.ofString "__static_attributes__"), key := Value.str (Str.ofString "__static_attributes__") 549, val := Value.ref 257 }] 13 } : Obj), ({ cls := Value.type "tuple", data := Data.seq #[] } : Obj), ({ cls := Value.none, data := Data.fields #[Value.int 97 0, Value.int 4 0, Value.ref 199, Value.int 107 0, Value.int 4 0, Value.ref 206, Value.int 110 0, Value.int 4 0, Value.ref 213, Value.int 116 0, Value.int 4 0, Value.ref 220, Value.int 120 0, Value.int 4 0, Value.ref 227, Value.int 123 0, Value.int 4 0, Value.ref 234, Value.int 137 0, Value.int 4 0, Value.ref 241, Value.int 141 0, Value.int 4 0, Value.ref 248, Value.int 150 0, Value.int 4 0, Value.ref 255] } : Obj), ({ cls := Value.type "code", data := Data.fields #[Value.str (Str.ofString "Mask") 439, Value.str (Str.ofString "Mask") 440, Value.str (Str.ofString "/claim/cut.py") 441, Value.int 95 0, Value.int 0 0, Value.int 0 0, Value.int 0 0, Value.int 0 0, Value.ref 190, Value.bool Bool.false, Value.int 181 0, Value.ref 191, Value.none, Value.none, Value.none, Value.none, Value.int 442 0, Value.int 95 0, Value.str (Str.ofString "/claim/cut.py") 443] } : Obj), ({ cls := Value.type "frame", slots := #[Option.some (Value.ref 192), Option.some (Value.ref 3), Option.some (Value.ref 189), Option.none, Option.some (Value.str (Str.ofString "outlinemill.mask") 425), Option.none, Option.some (Value.ref 0)] } : Obj), hdOx P 194, ({ cls := Value.none, data := Data.fields #[] } : Obj), hdOx P 196, hdOx P 197, (hdFn 23 1 0 fun pa bo sc => { cls := Value.none, data := Data.func { name := Str.ofString "__init__", qualname := Str.ofString "Mask.__init__", params := pa, body := FuncBody.stmts bo, scope := sc, globals := 0, closure := [], defaults := Value.none, kwdefaults := Value.none } }), hdOx P 199, hdOx P 200, hdOx P 201, ({ cls := Value.none, data := Data.fields #[] } : Obj), hdOx P 203, hdOx P 204, (hdFn 23 1 1 fun pa bo sc => { cls := Value.none, data := Data.func { name := Str.ofString "most", qualname := Str.ofString "Mask.most", params := pa, body := FuncBody.stmts bo, scope := sc, globals := 0, closure := [], defaults := Value.none, kwdefaults := Value.none } }), hdOx P 206, hdOx P 207, hdOx P 208, ({ cls := Value.none, data := Data.fields #[] } : Obj), hdOx P 210, hdOx P 211, (hdFn 23 1 2 fun pa bo sc => { cls := Value.none, data := Data.func { name := Str.ofString "place", qualname := Str.ofString "Mask.place", params := pa, body := FuncBody.stmts bo, scope := sc, globals := 0, closure := [], defaults := Value.none, kwdefaults := Value.none } }), hdOx P 213, hdOx P 214, hdOx P 215, ({ cls := Value.none, data := Data.fields #[] } : Obj), hdOx P 217, hdOx P 218, (hdFn 23 1 3 fun pa bo sc => { cls := Value.none, data := Data.func { name := Str.ofString "count", qualname := Str.ofString "Mask.count", params := pa, body := FuncBody.stmts bo, scope := sc, globals := 0, closure := [], defaults := Value.none, kwdefaults := Value.none } }), hdOx P 220, hdOx P 221, hdOx P 222, ({ cls := Value.none, data := Data.fields #[] } : Obj), hdOx P 224, hdOx P 225, (hdFn 23 1 4 fun pa bo sc => { cls := Value.none, data := Data.func { name := Str.ofString "alpha", qualname := Str.ofString "Mask.alpha", params := pa, body := FuncBody.stmts bo, scope := sc, globals := 0, closure := [], defaults := Value.none, kwdefaults := Value.none } }), hdOx P 227, hdOx P 228, hdOx P 229, ({ cls := Value.none, data := Data.fields #[] } : Obj), hdOx P 231, hdOx P 232, (hdFn 23 1 5 fun pa bo sc => { cls := Value.none, data := Data.func { name := Str.ofString "add", qualname := Str.ofString "Mask.add", params := pa, body := FuncBody.stmts bo, scope := sc, globals := 0, closure := [], defaults := Value.none, kwdefaults := Value.none } }), hdOx P 234, hdOx P 235, hdOx P 236, ({ cls := Value.none, data := Data.fields #[] } : Obj), hdOx P 238, hdOx P 239, (hdFn 23 1 6 fun pa bo sc => { cls := Value.none, data := Data.func { name := Str.ofString "full", qualname := Str.ofString "Mask.full", params := pa, body := FuncBody.stmts bo, scope := sc, globals := 0, closure := [], defaults := Value.none, kwdefaults := Value.none } }), hdOx P 241, hdOx P 242, hdOx P 243, ({ cls := Value.none, data := Data.fields #[] } : Obj), hdOx P 245, hdOx P 246, (hdFn 23 1 7 fun pa bo sc => { cls := Value.none, data := Data.func { name := Str.ofString "multiplied", qualname := Str.ofString "Mask.multiplied", params := pa, body := FuncBody.stmts bo, scope := sc, globals := 0, closure := [], defaults := Value.none, kwdefaults := Value.none } }), hdOx P 248, hdOx P 249, hdOx P 250, ({ cls := Value.none, data := Data.fields #[] } : Obj), hdOx P 252, hdOx P 253, (hdFn 23 1 8 fun pa bo sc => { cls := Value.none, data := Data.func { name := Str.ofString "is_empty", qualname := Str.ofString "Mask.is_empty", params := pa, body := FuncBody.stmts bo, scope := sc, globals := 0, closure := [], defaults := Value.none, kwdefaults := Value.none } }), hdOx P 255, hdOx P 256, hdOx P 257, hdOx P 258, hdOx P 259, hdOx P 260, hdOx P 261, ({ cls := Value.type "super", data := Data.fields #[Value.ref 259, Value.ref 259, Value.ref 259] } : Obj), ({ cls := Value.type "builtin_function_or_method", data := Data.fields #[Value.builtin "object.__init_subclass__", Value.ref 259] } : Obj)]
noncomputable def hdSeg4 (P : Params) : List Obj := [hdOx P 264, ({ cls := Value.none, data := Data.fields #[] } : Obj), hdOx P 266, hdOx P 267, (hdFn 24 0 0 fun pa bo sc => { cls := Value.none, data := Data.func { name := Str.ofString "mask_of", qualname := Str.ofString "mask_of", params := pa, body := FuncBody.stmts bo, scope := sc, globals := 0, closure := [], defaults := Value.none, kwdefaults := Value.none } }), hdOx P 269, hdOx P 270, hdOx P 271, ({ cls := Value.none, data := Data.fields #[] } : Obj), hdOx P 273, hdOx P 274, (hdFn 26 0 0 fun pa bo sc => { cls := Value.none, data := Data.func { name := Str.ofString "_law_pool", qualname := Str.ofString "_law_pool", params := pa, body := FuncBody.stmts bo, scope := sc, globals := 0, closure := [], defaults := Value.none, kwdefaults := Value.none } }), hdOx P 276, hdOx P 277, hdOx P 278, ({ cls := Value.none, data := Data.fields #[] } : Obj), hdOx P 280, hdOx P 281, (hdFn 27 0 0 fun pa bo sc => { cls := Value.none, data := Data.func { name := Str.ofString "_law_take", qualname := Str.ofString "_law_take", params := pa, body := FuncBody.stmts bo, scope := sc, globals := 0, closure := [], defaults := Value.none, kwdefaults := Value.none } }), hdOx P 283, hdOx P 284, hdOx P 285, ({ cls := Value.none, data := Data.fields #[] } : Obj), hdOx P 287, hdOx P 288, (hdFn 28 0 0 fun pa bo sc => { cls := Value.none, data := Data.func { name := Str.ofString "_law_one", qualname := Str.ofString "_law_one", params := pa, body := FuncBody.stmts bo, scope := sc, globals := 0, closure := [], defaults := Value.none, kwdefaults := Value.none } }), hdOx P 290, hdOx P 291, hdOx P 292, ({ cls := Value.none, data := Data.fields #[] } : Obj), hdOx P 294, hdOx P 295, (hdFn 29 0 0 fun pa bo sc => { cls := Value.none, data := Data.func { name := Str.ofString "_law_winding", qualname := Str.ofString "_law_winding", params := pa, body := FuncBody.stmts bo, scope := sc, globals := 0, closure := [], defaults := Value.none, kwdefaults := Value.none } }), hdOx P 297, hdOx P 298, hdOx P 299, ({ cls := Value.none, data := Data.fields #[] } : Obj), hdOx P 301, hdOx P 302, (hdFn 30 0 0 fun pa bo sc => { cls := Value.none, data := Data.func { name := Str.ofString "_law_count", qualname := Str.ofString "_law_count", params := pa, body := FuncBody.stmts bo, scope := sc, globals := 0, closure := [], defaults := Value.none, kwdefaults := Value.none } }), hdOx P 304, hdOx P 305, hdOx P 306, ({ cls := Value.none, data := Data.fields #[] } : Obj), hdOx P 308, hdOx P 309, (hdFn 31 0 0 fun pa bo sc => { cls := Value.none, data := Data.func { name := Str.ofString "_law_alpha", qualname := Str.ofString "_law_alpha", params := pa, body := FuncBody.stmts bo, scope := sc, globals := 0, closure := [], defaults := Value.none, kwdefaults := Value.none } }), hdOx P 311, hdOx P 312, hdOx P 313, ({ cls := Value.none, data := Data.fields #[] } : Obj), hdOx P 315, hdOx P 316, (hdFn 32 0 0 fun pa bo sc => { cls := Value.none, data := Data.func { name := Str.ofString "_law_by_hand", qualname := Str.ofString "_law_by_hand", params := pa, body := FuncBody.stmts bo, scope := sc, globals := 0, closure := [], defaults := Value.none, kwdefaults := Value.none } }), hdOx P 318, hdOx P 319, hdOx P 320, ({ cls := Value.none, data := Data.fields #[] } : Obj), (hdFn 33 0 0 fun pa bo sc => { cls := Value.none, data := Data.func { name := Str.ofString "law", qualname := Str.ofString "law", params := pa, body := FuncBody.stmts bo, scope := sc, globals := 0, closure := [], defaults := Value.none, kwdefaults := Value.none } }), hdOx P 323, hdOx P 324]
noncomputable def hdLow (P : Params) (a2 a3 a12 : Obj) (r : List Obj) : Heap := { objs := ⟨boot_o_0 P :: boot_o_1 P :: a2 :: a3 :: boot_o_4 P :: boot_o_5 P :: boot_o_6 P :: boot_o_7 P :: boot_o_8 P :: boot_o_9 P :: boot_o_10 P :: ({ cls := Value.type "tuple", data := Data.seq #[] } : Obj) :: a12 :: ({ cls := Value.type "code", data := Data.fields #[Value.str (Str.ofString "<module>") 182, Value.str (Str.ofString "<module>") 183, Value.str (Str.ofString "/claim/cut.py") 184, Value.int 1 0, Value.int 0 0, Value.int 0 0, Value.int 0 0, Value.int 0 0, Value.ref 11, Value.bool Bool.false, Value.int 181 0, Value.ref 12, Value.none, Value.none, Value.none, Value.none, Value.int 185 0, Value.int 1 0, Value.str (Str.ofString "/claim/cut.py") 186] } : Obj) :: ({ cls := Value.type "frame", slots := #[Option.some (Value.ref 13), Option.some (Value.ref 3), Option.some (Value.ref 3), Option.none, Option.some (Value.str (Str.ofString "__main__") 164), Option.none, Option.some (Value.ref 0)] } : Obj) :: r⟩ }
noncomputable def hdH1 (P : Params) : Heap := hdLow P (hdOx P 2) ({ cls := Value.type "dict", data := Data.dict #[{ hash := PyData.keyHash P (Str.ofString "__name__"), key := Value.str (Str.ofString "__name__") 165, val := Value.str (Str.ofString "outlinemill.errors") 194 }, { hash := PyData.keyHash P (Str.ofString "__doc__"), key := Value.str (Str.ofString "__doc__") 166, val := Value.none }, { hash := PyData.keyHash P (Str.ofString "__package__"), key := Value.str (Str.ofString "__package__") 167, val := Value.none }, { hash := PyData.keyHash P (Str.ofString "__loader__"), key := Value.str (Str.ofString "__loader__") 168, val := Value.builtin "__main__.__loader__#opaque" }, { hash := PyData.keyHash P (Str.ofString "__spec__"), key := Value.str (Str.ofString "__spec__") 169, val := Value.none }, { hash := PyData.keyHash P (Str.ofString "__annotations__"), key := Value.str (Str.ofString "__annotations__") 170, val := Value.ref 6 }, { hash := PyData.keyHash P (Str.ofString "__builtins__"), key := Value.str (Str.ofString "__builtins__") 171, val := Value.ref 4 }, { hash := PyData.keyHash P (Str.ofString "__file__"), key := Value.str (Str.ofString "__file__") 173, val := Value.str (Str.ofString "/claim/cut.py") 172 }, { hash := PyData.keyHash P (Str.ofString "__cached__"), key := Value.str (Str.ofString "__cached__") 174, val := Value.none }, { hash := PyData.keyHash P (Str.ofString "_wall"), key := Value.str (Str.ofString "_wall") 193, val := Value.ref 21 }, { hash := PyData.keyHash P (Str.ofString "MillError"), key := Value.str (Str.ofString "MillError") 224, val := Value.ref 38 }, { hash := PyData.keyHash P (Str.ofString "SizeFault"), key := Value.str (Str.ofString "SizeFault") 240, val := Value.ref 51 }] 12 } : Obj) ({ cls := Value.none, data := Data.fields #[Value.int 1 0, Value.int 0 0, Value.ref 20, Value.int 5 0, Value.int 0 0, Value.ref 27, Value.int 9 0, Value.int 0 0, Value.ref 47] } : Obj) (hdSeg0 P)
noncomputable def hdH2 (P : Params) : Heap := hdLow P (hdOx P 2) ({ cls := Value.type "dict", data := Data.dict #[{ hash := PyData.keyHash P (Str.ofString "__name__"), key := Value.str (Str.ofString "__name__") 165, val := Value.str (Str.ofString "outlinemill.sides") 324 }, { hash := PyData.keyHash P (Str.ofString "__doc__"), key := Value.str (Str.ofString "__doc__") 166, val := Value.none }, { hash := PyData.keyHash P (Str.ofString "__package__"), key := Value.str (Str.ofString "__package__") 167, val := Value.none }, { hash := PyData.keyHash P (Str.ofString "__loader__"), key := Value.str (Str.ofString "__loader__") 168, val := Value.builtin "__main__.__loader__#opaque" }, { hash := PyData.keyHash P (Str.ofString "__spec__"), key := Value.str (Str.ofString "__spec__") 169, val := Value.none }, { hash := PyData.keyHash P (Str.ofString "__annotations__"), key := Value.str (Str.ofString "__annotations__") 170, val := Value.ref 6 }, { hash := PyData.keyHash P (Str.ofString "__builtins__"), key := Value.str (Str.ofString "__builtins__") 171, val := Value.ref 4 }, { hash := PyData.keyHash P (Str.ofString "__file__"), key := Value.str (Str.ofString "__file__") 173, val := Value.str (Str.ofString "/claim/cut.py") 172 }, { hash := PyData.keyHash P (Str.ofString "__cached__"), key := Value.str (Str.ofString "__cached__") 174, val := Value.none }, { hash := PyData.keyHash P (Str.ofString "_wall"), key := Value.str (Str.ofString "_wall") 193, val := Value.ref 21 }, { hash := PyData.keyHash P (Str.ofString "MillError"), key := Value.str (Str.ofString "MillError") 224, val := Value.ref 38 }, { hash := PyData.keyHash P (Str.ofString "SizeFault"), key := Value.str (Str.ofString "SizeFault") 240, val := Value.ref 51 }, { hash := PyData.keyHash P (Str.ofString "RULES"), key := Value.str (Str.ofString "RULES") 245, val := Value.ref 54 }, { hash := PyData.keyHash P (Str.ofString "is_inside"), key := Value.str (Str.ofString "is_inside") 253, val := Value.ref 61 }, { hash := PyData.keyHash P (Str.ofString "step_of"), key := Value.str (Str.ofString "step_of") 261, val := Value.ref 68 }, { hash := PyData.keyHash P (Str.ofString "ceiling"), key := Value.str (Str.ofString "ceiling") 269, val := Value.ref 75 }, { hash := PyData.keyHash P (Str.ofString "column_behind"), key := Value.str (Str.ofString "column_behind") 279, val := Value.ref 82 }, { hash := PyData.keyHash P (Str.ofString "check_rule"), key := Value.str (Str.ofString "check_rule") 286, val := Value.ref 89 }, { hash := PyData.keyHash P (Str.ofString "steps_of_row"), key := Value.str (Str.ofString "steps_of_row") 297, val := Value.ref 96 }, { hash := PyData.keyHash P (Str.ofString "spans_by"), key := Value.str (Str.ofString "spans_by") 311, val := Value.ref 103 }, { hash := PyData.keyHash P (Str.ofString "sample_spans"), key := Value.str (Str.ofString "sample_spans") 323, val := Value.ref 110 }] 21 } : Obj) ({ cls := Value.none, data := Data.fields #[Value.int 1 0, Value.int 0 0, Value.ref 20, Value.int 5 0, Value.int 0 0, Value.ref 27, Value.int 9 0, Value.int 0 0, Value.ref 47, Value.int 13 0, Value.int 0 0, Value.ref 60, Value.int 15 0, Value.int 0 0, Value.ref 67, Value.int 19 0, Value.int 0 0, Value.ref 74, Value.int 21 0, Value.int 0 0, Value.ref 81, Value.int 24 0, Value.int 0 0, Value.ref 88, Value.int 27 0, Value.int 0 0, Value.ref 95, Value.int 33 0, Value.int 0 0, Value.ref 102, Value.int 45 0, Value.int 0 0, Value.ref 109] } : Obj) (hdSeg0 P ++ (hdSeg1 P))
noncomputable def hdH3 (P : Params) : Heap := hdLow P (hdOx P 2) ({ cls := Value.type "dict", data := Data.dict #[{ hash := PyData.keyHash P (Str.ofString "__name__"), key := Value.str (Str.ofString "__name__") 165, val := Value.str (Str.ofString "outlinemill.mask") 425 }, { hash := PyData.keyHash P (Str.ofString "__doc__"), key := Value.str (Str.ofString "__doc__") 166, val := Value.none }, { hash := PyData.keyHash P (Str.ofString "__package__"), key := Value.str (Str.ofString "__package__") 167, val := Value.none }, { hash := PyData.keyHash P (Str.ofString "__loader__"), key := Value.str (Str.ofString "__loader__") 168, val := Value.builtin "__main__.__loader__#opaque" }, { hash := PyData.keyHash P (Str.ofString "__spec__"), key := Value.str (Str.ofString "__spec__") 169, val := Value.none }, { hash := PyData.keyHash P (Str.ofString "__annotations__"), key := Value.str (Str.ofString "__annotations__") 170, val := Value.ref 6 }, { hash := PyData.keyHash P (Str.ofString "__builtins__"), key := Value.str (Str.ofString "__builtins__") 171, val := Value.ref 4 }, { hash := PyData.keyHash P (Str.ofString "__file__"), key := Value.str (Str.ofString "__file__") 173, val := Value.str (Str.ofString "/claim/cut.py") 172 }, { hash := PyData.keyHash P (Str.ofString "__cached__"), key := Value.str (Str.ofString "__cached__") 174, val := Value.none }, { hash := PyData.keyHash P (Str.ofString "_wall"), key := Value.str (Str.ofString "_wall") 193, val := Value.ref 21 }, { hash := PyData.keyHash P (Str.ofString "MillError"), key := Value.str (Str.ofString "MillError") 224, val := Value.ref 38 }, { hash := PyData.keyHash P (Str.ofString "SizeFault"), key := Value.str (Str.ofString "SizeFault") 240, val := Value.ref 51 }, { hash := PyData.keyHash P (Str.ofString "RULES"), key := Value.str (Str.ofString "RULES") 245, val := Value.ref 54 }, { hash := PyData.keyHash P (Str.ofString "is_inside"), key := Value.str (Str.ofString "is_inside") 253, val := Value.ref 61 }, { hash := PyData.keyHash P (Str.ofString "step_of"), key := Value.str (Str.ofString "step_of") 261, val := Value.ref 68 }, { hash := PyData.keyHash P (Str.ofString "ceiling"), key := Value.str (Str.ofString "ceiling") 269, val := Value.ref 75 }, { hash := PyData.keyHash P (Str.ofString "column_behind"), key := Value.str (Str.ofString "column_behind") 279, val := Value.ref 82 }, { hash := PyData.keyHash P (Str.ofString "check_rule"), key := Value.str (Str.ofString "check_rule") 286, val := Value.ref 89 }, { hash := PyData.keyHash P (Str.ofString "steps_of_row"), key := Value.str (Str.ofString "steps_of_row") 297, val := Value.ref 96 }, { hash := PyData.keyHash P (Str.ofString "spans_by"), key := Value.str (Str.ofString "spans_by") 311, val := Value.ref 103 }, { hash := PyData.keyHash P (Str.ofString "sample_spans"), key := Value.str (Str.ofString "sample_spans") 323, val := Value.ref 110 }, { hash := PyData.keyHash P (Str.ofString "Side"), key := Value.str (Str.ofString "Side") 386, val := Value.ref 148 }, { hash := PyData.keyHash P (Str.ofString "side_between"), key := Value.str (Str.ofString "side_between") 394, val := Value.ref 159 }, { hash := PyData.keyHash P (Str.ofString "sides_of_contour"), key := Value.str (Str.ofString "sides_of_contour") 407, val := Value.ref 166 }, { hash := PyData.keyHash P (Str.ofString "sides_of"), key := Value.str (Str.ofString "sides_of") 418, val := Value.ref 174 }, { hash := PyData.keyHash P (Str.ofString "sides_between"), key := Value.str (Str.ofString "sides_between") 424, val := Value.ref 179 }, { hash := PyData.keyHash P (Str.ofString "FULL_ALPHA"), key := Value.str (Str.ofString "FULL_ALPHA") 428, val := Value.int 255 427 }, { hash := PyData.keyHash P (Str.ofString "rounded_share"), key := Value.str (Str.ofString "rounded_share") 436, val := Value.ref 186 }] 28 } : Obj) ({ cls := Value.none, data := Data.fields #[Value.int 1 0, Value.int 0 0, Value.ref 20, Value.int 5 0, Value.int 0 0, Value.ref 27, Value.int 9 0, Value.int 0 0, Value.ref 47, Value.int 13 0, Value.int 0 0, Value.ref 60, Value.int 15 0, Value.int 0 0, Value.ref 67, Value.int 19 0, Value.int 0 0, Value.ref 74, Value.int 21 0, Value.int 0 0, Value.ref 81, Value.int 24 0, Value.int 0 0, Value.ref 88, Value.int 27 0, Value.int 0 0, Value.ref 95, Value.int 33 0, Value.int 0 0, Value.ref 102, Value.int 45 0, Value.int 0 0, Value.ref 109, Value.int 50 0, Value.int 0 0, Value.ref 116, Value.int 68 0, Value.int 0 0, Value.ref 158, Value.int 74 0, Value.int 0 0, Value.ref 165, Value.int 84 0, Value.int 0 0, Value.ref 173, Value.int 89 0, Value.int 0 0, Value.ref 178, Value.int 93 0, Value.int 0 0, Value.ref 185] } : Obj) (hdSeg0 P ++ (hdSeg1 P ++ (hdSeg2 P)))
noncomputable def hdH4 (P : Params) : Heap := hdLow P (hdOx P 2) ({ cls := Value.type "dict", data := Data.dict #[{ hash := PyData.keyHash P (Str.ofString "__name__"), key := Value.str (Str.ofString "__name__") 165, val := Value.str (Str.ofString "outlinemill.mask") 425 }, { hash := PyData.keyHash P (Str.ofString "__doc__"), key := Value.str (Str.ofString "__doc__") 166, val := Value.none }, { hash := PyData.keyHash P (Str.ofString "__package__"), key := Value.str (Str.ofString "__package__") 167, val := Value.none }, { hash := PyData.keyHash P (Str.ofString "__loader__"), key := Value.str (Str.ofString "__loader__") 168, val := Value.builtin "__main__.__loader__#opaque" }, { hash := PyData.keyHash P (Str.ofString "__spec__"), key := Value.str (Str.ofString "__spec__") 169, val := Value.none }, { hash := PyData.keyHash P (Str.ofString "__annotations__"), key := Value.str (Str.ofString "__annotations__") 170, val := Value.ref 6 }, { hash := PyData.keyHash P (Str.ofString "__builtins__"), key := Value.str (Str.ofString "__builtins__") 171, val := Value.ref 4 }, { hash := PyData.keyHash P (Str.ofString "__file__"), key := Value.str (Str.ofString "__file__") 173, val := Value.str (Str.ofString "/claim/cut.py") 172 }, { hash := PyData.keyHash P (Str.ofString "__cached__"), key := Value.str (Str.ofString "__cached__") 174, val := Value.none }, { hash := PyData.keyHash P (Str.ofString "_wall"), key := Value.str (Str.ofString "_wall") 193, val := Value.ref 21 }, { hash := PyData.keyHash P (Str.ofString "MillError"), key := Value.str (Str.ofString "MillError") 224, val := Value.ref 38 }, { hash := PyData.keyHash P (Str.ofString "SizeFault"), key := Value.str (Str.ofString "SizeFault") 240, val := Value.ref 51 }, { hash := PyData.keyHash P (Str.ofString "RULES"), key := Value.str (Str.ofString "RULES") 245, val := Value.ref 54 }, { hash := PyData.keyHash P (Str.ofString "is_inside"), key := Value.str (Str.ofString "is_inside") 253, val := Value.ref 61 }, { hash := PyData.keyHash P (Str.ofString "step_of"), key := Value.str (Str.ofString "step_of") 261, val := Value.ref 68 }, { hash := PyData.keyHash P (Str.ofString "ceiling"), key := Value.str (Str.ofString "ceiling") 269, val := Value.ref 75 }, { hash := PyData.keyHash P (Str.ofString "column_behind"), key := Value.str (Str.ofString "column_behind") 279, val := Value.ref 82 }, { hash := PyData.keyHash P (Str.ofString "check_rule"), key := Value.str (Str.ofString "check_rule") 286, val := Value.ref 89 }, { hash := PyData.keyHash P (Str.ofString "steps_of_row"), key := Value.str (Str.ofString "steps_of_row") 297, val := Value.ref 96 }, { hash := PyData.keyHash P (Str.ofString "spans_by"), key := Value.str (Str.ofString "spans_by") 311, val := Value.ref 103 }, { hash := PyData.keyHash P (Str.ofString "sample_spans"), key := Value.str (Str.ofString "sample_spans") 323, val := Value.ref 110 }, { hash := PyData.keyHash P (Str.ofString "Side"), key := Value.str (Str.ofString "Side") 386, val := Value.ref 148 }, { hash := PyData.keyHash P (Str.ofString "side_between"), key := Value.str (Str.ofString "side_between") 394, val := Value.ref 159 }, { hash := PyData.keyHash P (Str.ofString "sides_of_contour"), key := Value.str (Str.ofString "sides_of_contour") 407, val := Value.ref 166 }, { hash := PyData.keyHash P (Str.ofString "sides_of"), key := Value.str (Str.ofString "sides_of") 418, val := Value.ref 174 }, { hash := PyData.keyHash P (Str.ofString "sides_between"), key := Value.str (Str.ofString "sides_between") 424, val := Value.ref 179 }, { hash := PyData.keyHash P (Str.ofString "FULL_ALPHA"), key := Value.str (Str.ofString "FULL_ALPHA") 428, val := Value.int 255 427 }, { hash := PyData.keyHash P (Str.ofString "rounded_share"), key := Value.str (Str.ofString "rounded_share") 436, val := Value.ref 186 }, { hash := PyData.keyHash P (Str.ofString "Mask"), key := Value.str (Str.ofString "Mask") 556, val := Value.ref 259 }] 29 } : Obj) ({ cls := Value.none, data := Data.fields #[Value.int 1 0, Value.int 0 0, Value.ref 20, Value.int 5 0, Value.int 0 0, Value.ref 27, Value.int 9 0, Value.int 0 0, Value.ref 47, Value.int 13 0, Value.int 0 0, Value.ref 60, Value.int 15 0, Value.int 0 0, Value.ref 67, Value.int 19 0, Value.int 0 0, Value.ref 74, Value.int 21 0, Value.int 0 0, Value.ref 81, Value.int 24 0, Value.int 0 0, Value.ref 88, Value.int 27 0, Value.int 0 0, Value.ref 95, Value.int 33 0, Value.int 0 0, Value.ref 102, Value.int 45 0, Value.int 0 0, Value.ref 109, Value.int 50 0, Value.int 0 0, Value.ref 116, Value.int 68 0, Value.int 0 0, Value.ref 158, Value.int 74 0, Value.int 0 0, Value.ref 165, Value.int 84 0, Value.int 0 0, Value.ref 173, Value.int 89 0, Value.int 0 0, Value.ref 178, Value.int 93 0, Value.int 0 0, Value.ref 185, Value.int 95 0, Value.int 0 0, Value.ref 192] } : Obj) (hdSeg0 P ++ (hdSeg1 P ++ (hdSeg2 P ++ (hdSeg3 P))))
noncomputable def hdH5 (P : Params) : Heap := hdLow P (hdOx P 2) ({ cls := Value.type "dict", data := Data.dict #[{ hash := PyData.keyHash P (Str.ofString "__name__"), key := Value.str (Str.ofString "__name__") 165, val := Value.str (Str.ofString "law_nu0019_01") 574 }, { hash := PyData.keyHash P (Str.ofString "__doc__"), key := Value.str (Str.ofString "__doc__") 166, val := Value.none }, { hash := PyData.keyHash P (Str.ofString "__package__"), key := Value.str (Str.ofString "__package__") 167, val := Value.none }, { hash := PyData.keyHash P (Str.ofString "__loader__"), key := Value.str (Str.ofString "__loader__") 168, val := Value.builtin "__main__.__loader__#opaque" }, { hash := PyData.keyHash P (Str.ofString "__spec__"), key := Value.str (Str.ofString "__spec__") 169, val := Value.none }, { hash := PyData.keyHash P (Str.ofString "__annotations__"), key := Value.str (Str.ofString "__annotations__") 170, val := Value.ref 6 }, { hash := PyData.keyHash P (Str.ofString "__builtins__"), key := Value.str (Str.ofString "__builtins__") 171, val := Value.ref 4 }, { hash := PyData.keyHash P (Str.ofString "__file__"), key := Value.str (Str.ofString "__file__") 173, val := Value.str (Str.ofString "/claim/cut.py") 172 }, { hash := PyData.keyHash P (Str.ofString "__cached__"), key := Value.str (Str.ofString "__cached__") 174, val := Value.none }, { hash := PyData.keyHash P (Str.ofString "_wall"), key := Value.str (Str.ofString "_wall") 193, val := Value.ref 21 }, { hash := PyData.keyHash P (Str.ofString "MillError"), key := Value.str (Str.ofString "MillError") 224, val := Value.ref 38 }, { hash := PyData.keyHash P (Str.ofString "SizeFault"), key := Value.str (Str.ofString "SizeFault") 240, val := Value.ref 51 }, { hash := PyData.keyHash P (Str.ofString "RULES"), key := Value.str (Str.ofString "RULES") 245, val := Value.ref 54 }, { hash := PyData.keyHash P (Str.ofString "is_inside"), key := Value.str (Str.ofString "is_inside") 253, val := Value.ref 61 }, { hash := PyData.keyHash P (Str.ofString "step_of"), key := Value.str (Str.ofString "step_of") 261, val := Value.ref 68 }, { hash := PyData.keyHash P (Str.ofString "ceiling"), key := Value.str (Str.ofString "ceiling") 269, val := Value.ref 75 }, { hash := PyData.keyHash P (Str.ofString "column_behind"), key := Value.str (Str.ofString "column_behind") 279, val := Value.ref 82 }, { hash := PyData.keyHash P (Str.ofString "check_rule"), key := Value.str (Str.ofString "check_rule") 286, val := Value.ref 89 }, { hash := PyData.keyHash P (Str.ofString "steps_of_row"), key := Value.str (Str.ofString "steps_of_row") 297, val := Value.ref 96 }, { hash := PyData.keyHash P (Str.ofString "spans_by"), key := Value.str (Str.ofString "spans_by") 311, val := Value.ref 103 }, { hash := PyData.keyHash P (Str.ofString "sample_spans"), key := Value.str (Str.ofString "sample_spans") 323, val := Value.ref 110 }, { hash := PyData.keyHash P (Str.ofString "Side"), key := Value.str (Str.ofString "Side") 386, val := Value.ref 148 }, { hash := PyData.keyHash P (Str.ofString "side_between"), key := Value.str (Str.ofString "side_between") 394, val := Value.ref 159 }, { hash := PyData.keyHash P (Str.ofString "sides_of_contour"), key := Value.str (Str.ofString "sides_of_contour") 407, val := Value.ref 166 }, { hash := PyData.keyHash P (Str.ofString "sides_of"), key := Value.str (Str.ofString "sides_of") 418, val := Value.ref 174 }, { hash := PyData.keyHash P (Str.ofString "sides_between"), key := Value.str (Str.ofString "sides_between") 424, val := Value.ref 179 }, { hash := PyData.keyHash P (Str.ofString "FULL_ALPHA"), key := Value.str (Str.ofString "FULL_ALPHA") 428, val := Value.int 255 427 }, { hash := PyData.keyHash P (Str.ofString "rounded_share"), key := Value.str (Str.ofString "rounded_share") 436, val := Value.ref 186 }, { hash := PyData.keyHash P (Str.ofString "Mask"), key := Value.str (Str.ofString "Mask") 556, val := Value.ref 259 }, { hash := PyData.keyHash P (Str.ofString "mask_of"), key := Value.str (Str.ofString "mask_of") 573, val := Value.ref 270 }, { hash := PyData.keyHash P (Str.ofString "_law_pool"), key := Value.str (Str.ofString "_law_pool") 586, val := Value.ref 277 }, { hash := PyData.keyHash P (Str.ofString "_law_take"), key := Value.str (Str.ofString "_law_take") 595, val := Value.ref 284 }, { hash := PyData.keyHash P (Str.ofString "_law_one"), key := Value.str (Str.ofString "_law_one") 603, val := Value.ref 291 }, { hash := PyData.keyHash P (Str.ofString "_law_winding"), key := Value.str (Str.ofString "_law_winding") 620, val := Value.ref 298 }, { hash := PyData.keyHash P (Str.ofString "_law_count"), key := Value.str (Str.ofString "_law_count") 637, val := Value.ref 305 }, { hash := PyData.keyHash P (Str.ofString "_law_alpha"), key := Value.str (Str.ofString "_law_alpha") 646, val := Value.ref 312 }, { hash := PyData.keyHash P (Str.ofString "_law_by_hand"), key := Value.str (Str.ofString "_law_by_hand") 661, val := Value.ref 319 }, { hash := PyData.keyHash P (Str.ofString "law"), key := Value.str (Str.ofString "law") 667, val := Value.ref 324 }] 38 } : Obj) ({ cls := Value.none, data := Data.fields #[Value.int 1 0, Value.int 0 0, Value.ref 20, Value.int 5 0, Value.int 0 0, Value.ref 27, Value.int 9 0, Value.int 0 0, Value.ref 47, Value.int 13 0, Value.int 0 0, Value.ref 60, Value.int 15 0, Value.int 0 0, Value.ref 67, Value.int 19 0, Value.int 0 0, Value.ref 74, Value.int 21 0, Value.int 0 0, Value.ref 81, Value.int 24 0, Value.int 0 0, Value.ref 88, Value.int 27 0, Value.int 0 0, Value.ref 95, Value.int 33 0, Value.int 0 0, Value.ref 102, Value.int 45 0, Value.int 0 0, Value.ref 109, Value.int 50 0, Value.int 0 0, Value.ref 116, Value.int 68 0, Value.int 0 0, Value.ref 158, Value.int 74 0, Value.int 0 0, Value.ref 165, Value.int 84 0, Value.int 0 0, Value.ref 173, Value.int 89 0, Value.int 0 0, Value.ref 178, Value.int 93 0, Value.int 0 0, Value.ref 185, Value.int 95 0, Value.int 0 0, Value.ref 192, Value.int 152 0, Value.int 0 0, Value.ref 269, Value.int 159 0, Value.int 0 0, Value.ref 276, Value.int 166 0, Value.int 0 0, Value.ref 283, Value.int 173 0, Value.int 0 0, Value.ref 290, Value.int 175 0, Value.int 0 0, Value.ref 297, Value.int 184 0, Value.int 0 0, Value.ref 304, Value.int 191 0, Value.int 0 0, Value.ref 311, Value.int 194 0, Value.int 0 0, Value.ref 318, Value.int 204 0, Value.int 0 0, Value.ref 323] } : Obj) (hdSeg0 P ++ (hdSeg1 P ++ (hdSeg2 P ++ (hdSeg3 P ++ (hdSeg4 P)))))
noncomputable def hdH0 (P : Params) : Heap := hdLow P (boot_o_2 P) (boot_o_3 P) ({ cls := Value.none, data := Data.fields #[] } : Obj) []
noncomputable abbrev hdSh (H : Params → Heap) (tk : Nat) (w : World) (os : OsState) : Shared := ⟨H w.params, Array.mk [], boot_drawn, tk, os⟩
noncomputable def hdB : List Stmt := behindTheImports (RowW.prog rwW)
noncomputable def hdEnv : Env := { scope := (RowW.prog rwW).main.scope, locals := mainNs, globals := mainNs, cells := [], code := .ref 13, frame := some 14 }
noncomputable abbrev hdC : Code := Code.body hdB hdEnv
noncomputable abbrev hdP0 : Pos := { line := 0, col := 0, endLine := 0, endCol := 0 }
noncomputable abbrev hdF : List Frame := [topFrame hdP0]
theorem hd_pre (w : World) (os : OsState) : topGo treeTable (RowW.prog rwW) w 11 (some (.ref 6)) 12 (hdSh boot_heap boot_toks w os) (topStub (RowW.prog rwW)) = some (hdSh hdH0 187 w os, ⟨denote treeTable hdC, hdC, hdP0, hdF⟩) := by kernel_rfl
theorem hd_block (w : World) (os : OsState) : segRun treeTable (RowW.prog rwW) w 11 (some (.ref 6)) 1 1 (hdSh hdH0 187 w os) (blockOf hdB hdEnv hdC hdP0 hdF) = some (.next, hdSh hdH0 187 w os, hdC, hdP0) := by rw [PySem.W.Fast.te14374325043358763698, PySem.W.Fast.te14364793385576792824]; kernel_rfl
noncomputable def hdS1 : List Stmt := (hdB.drop 0).take 4
noncomputable abbrev hdP1 : Pos := { line := 9, col := 0, endLine := 10, endCol := 8 }
theorem hd_1 (w : World) (os : OsState) : segRun treeTable (RowW.prog rwW) w 11 (some (.ref 6)) 1 480 (hdSh hdH0 187 w os) (piecesOf hdS1 hdEnv hdC hdP0 hdF) = some (.next, hdSh hdH1 241 w os, hdC, hdP1) := by rw [PySem.W.Fast.te14374325043358763698, PySem.W.Fast.te14364793385576792824]; kernel_rfl
noncomputable def hdS2 : List Stmt := (hdB.drop 4).take 11
noncomputable abbrev hdP2 : Pos := { line := 49, col := 0, endLine := 49, endCol := 8 }
theorem hd_2 (w : World) (os : OsState) : segRun treeTable (RowW.prog rwW) w 11 (some (.ref 6)) 1 285 (hdSh hdH1 241 w os) (piecesOf hdS2 hdEnv hdC hdP1 hdF) = some (.next, hdSh hdH2 326 w os, hdC, hdP2) := by rw [PySem.W.Fast.te14374325043358763698, PySem.W.Fast.te14364793385576792824]; kernel_rfl
noncomputable def hdS3 : List Stmt := (hdB.drop 15).take 8
noncomputable abbrev hdP3 : Pos := { line := 93, col := 0, endLine := 94, endCol := 45 }
theorem hd_3 (w : World) (os : OsState) : segRun treeTable (RowW.prog rwW) w 11 (some (.ref 6)) 1 500 (hdSh hdH2 326 w os) (piecesOf hdS3 hdEnv hdC hdP2 hdF) = some (.next, hdSh hdH3 437 w os, hdC, hdP3) := by rw [PySem.W.Fast.te14374325043358763698, PySem.W.Fast.te14364793385576792824]; kernel_rfl
noncomputable def hdS4 : List Stmt := (hdB.drop 23).take 1
noncomputable abbrev hdP4 : Pos := { line := 95, col := 0, endLine := 151, endCol := 16 }
theorem hd_4 (w : World) (os : OsState) : segRun treeTable (RowW.prog rwW) w 11 (some (.ref 6)) 1 506 (hdSh hdH3 437 w os) (piecesOf hdS4 hdEnv hdC hdP3 hdF) = some (.next, hdSh hdH4 557 w os, hdC, hdP4) := by rw [PySem.W.Fast.te14374325043358763698, PySem.W.Fast.te14364793385576792824]; kernel_rfl
noncomputable def hdS5 : List Stmt := (hdB.drop 24).take 10
noncomputable abbrev hdP5 : Pos := { line := 204, col := 0, endLine := 227, endCol := 122 }
theorem hd_5 (w : World) (os : OsState) : segRun treeTable (RowW.prog rwW) w 11 (some (.ref 6)) 1 315 (hdSh hdH4 557 w os) (piecesOf hdS5 hdEnv hdC hdP4 hdF) = some (.next, hdSh hdH5 668 w os, hdC, hdP5) := by rw [PySem.W.Fast.te14374325043358763698, PySem.W.Fast.te14364793385576792824]; kernel_rfl
theorem hd_fin (w : World) (os : OsState) : topRun treeTable (RowW.prog rwW) w 11 (some (.ref 6)) 2 (hdSh hdH5 668 w os) ⟨doneF .next, hdC, hdP5, hdF⟩ = some (hdSh hdH5 668 w os) := by rw [PySem.W.Fast.te14082659384304107361, PySem.W.Fast.te14364793385576792824]; kernel_rfl
theorem hd_all : hdB = hdS1 ++ (hdS2 ++ (hdS3 ++ (hdS4 ++ (hdS5 ++ [])))) := by kernel_rfl
theorem hd_run (w : World) (os : OsState) : topRun treeTable (RowW.prog rwW) w 11 (some (.ref 6)) (12 + (1 + (480 + (285 + (500 + (506 + (315 + 2))))))) (hdSh boot_heap boot_toks w os) (topStub (RowW.prog rwW)) = some (hdSh hdH5 668 w os) := by
  refine go_top (hd_pre w os) (piece_block (hd_block w os) ?_)
  have h := piece_app (rest := hdS2 ++ (hdS3 ++ (hdS4 ++ (hdS5 ++ [])))) (hd_1 w os) (piece_app (rest := hdS3 ++ (hdS4 ++ (hdS5 ++ []))) (hd_2 w os) (piece_app (rest := hdS4 ++ (hdS5 ++ [])) (hd_3 w os) (piece_app (rest := hdS5 ++ []) (hd_4 w os) (piece_app (rest := []) (hd_5 w os) (piece_nil (hd_fin w os))))))
  rw [← hd_all] at h
  exact h
theorem hd_open : ∀ w : World, (fencedOpening treeTable (RowW.prog rwW) w 4288).map (fun s => (s.heap, s.gens, s.drawn, s.toks)) = some (boot_heap w.params, Array.mk [], boot_drawn, boot_toks) :=
  boot_open (by kernel_rfl) (by kernel_rfl) (fun s => by kernel_rfl)
theorem hd_size (w : World) : ((boot_heap w.params).isNs mainGlobals && (Array.mk [] : Array GenState).size == 0, (boot_heap w.params).objs.size, (boot_heap w.params).nsMap mainGlobals "__annotations__") = (true, 11, some (.ref 6)) := by kernel_rfl
theorem hd_look1 (w : World) (os : OsState) : (staticsOk (importedModules (RowW.prog rwW).main.body) (boot_heap w.params) (hdH5 w.params) && namesBound (RowW.prog rwW) (hdH5 w.params) && gensDone (hdSh hdH5 668 w os) && laidKept (boot_heap w.params) (hdH5 w.params)) = true := by kernel_rfl
theorem hd_look2 (w : World) (os : OsState) : openSeen viewX [Str.ofString "sides_of"] (importedModules (RowW.prog rwW).main.body) (fun s => xlAt viewX [] s && recOk (RowW.records rwW) s) true (hdSh hdH5 668 w os) = openGood viewX [Str.ofString "sides_of"] := by rw [PySem.W.Fast.te4187177175401517315]; kernel_rfl
theorem hd_look3 (w : World) (os : OsState) : Hook.obs HK (hdSh hdH5 668 w os) = Hook.val HK w := by kernel_rfl
theorem leftW : LeftO (RowW.prog rwW) viewX [Str.ofString "sides_of"] (fun s => xlAt viewX [] s && recOk (RowW.records rwW) s) (Hook.obs HK) (Hook.val HK) 4288 :=
  LeftO.of_pieces (H₀ := boot_heap) (H₁ := hdH5) (gs₀ := Array.mk []) (gs₁ := Array.mk []) (d₀ := boot_drawn) (d₁ := boot_drawn) (k₀ := boot_toks) (k₁ := 668) (m₀ := 11) (ann := some (.ref 6))
    hd_open hd_size hd_run (by kernel_rfl) (fun w => funext fun os => looks_pair (hd_look1 w os) (looks_pair (hd_look2 w os) (hd_look3 w os)))
theorem saidX : OpenLaw.wellSaid PySem.Challenge.rw_nu0019_01 = true := by
  delta OpenLaw.wellSaid
  repeat' (with_reducible refine look_both ?_ ?_)
  all_goals (try (delta OpenRow.wellSaid; repeat' (with_reducible refine look_both ?_ ?_)))
  all_goals (try (delta OpenRow.partSaid; repeat' (with_reducible refine look_both ?_ ?_)))
  all_goals (try (delta looksOpen; repeat' (with_reducible refine look_both ?_ ?_)))
  all_goals decide +kernel
noncomputable abbrev TP (mean : ExcName → Option Value) (mg mb : Str → Option Value) (h : Heap) : Prop := Top viewX (looseW viewX [Str.ofString "sides_of"]) mean mg mb h
noncomputable abbrev tupOf (vs : List Value) : Obj := { cls := .type "tuple", data := .seq vs.toArray }
noncomputable def Ext (X : List Addr) (h h' : Heap) : Prop := ∀ b o, h.get? b = some o → b ∉ X → h'.get? b = some o
theorem Ext.refl {X : List Addr} {h : Heap} : Ext X h h := fun _ _ e _ => e
theorem Ext.trans {X : List Addr} {h h' h'' : Heap} (a : Ext X h h') (b : Ext X h' h'') : Ext X h h'' := fun c o e n => b c o (a c o e n) n
theorem Ext.mono {X Y : List Addr} {h h' : Heap} (a : Ext X h h') (hs : ∀ x ∈ X, x ∈ Y) : Ext Y h h' := fun c o e n => a c o e fun q => n (hs c q)
theorem Ext.fr {X : List Addr} {h₀ h h' : Heap} {L : Addr} {m : Str → Option Value} (E : Ext X h h') (F : Fr h₀ L h m) (hX : ∀ x ∈ X, x ≠ L ∧ h₀.get? x = none) : Fr h₀ L h' m := by
  refine ⟨F.ns.at' fun o e => E _ o e fun q => (hX _ q).1 rfl, fun b o e => E b o (F.keep b o e) fun q => ?_, F.above⟩
  rw [(hX _ q).2] at e; cases e
theorem Ext.fr0 {h₀ h h' : Heap} {L : Addr} {m : Str → Option Value} (E : Ext [] h h') (F : Fr h₀ L h m) : Fr h₀ L h' m := E.fr F fun _ q => nomatch q
theorem Ext.news0 {h₀ h h' : Heap} {L : Addr} {news : List (Addr × Obj)} (E : Ext [] h h') (N : News h₀ L h news) : News h₀ L h' news :=
  fun p hp => ⟨E _ _ (N p hp).1 (fun q => nomatch q), (N p hp).2⟩
theorem Ext.newsX {X : List Addr} {h₀ h h' : Heap} {L : Addr} {news : List (Addr × Obj)} (E : Ext X h h') (N : News h₀ L h news) (hX : ∀ p ∈ news, p.1 ∉ X) : News h₀ L h' news :=
  fun p hp => ⟨E _ _ (N p hp).1 (hX p hp), (N p hp).2⟩
theorem news_put {h₀ h : Heap} {L a : Addr} {o : Obj} {news : List (Addr × Obj)} (N : News h₀ L h news) (e : h.get? a = some o) (hn : a ≠ L ∧ h₀.get? a = none) : News h₀ L h ((a, o) :: news) :=
  fun p hp => by
    rcases List.mem_cons.mp hp with rfl | hp
    · exact ⟨e, hn⟩
    · exact N p hp
theorem fresh_of {h₀ h : Heap} {L a : Addr} {m : Str → Option Value} (F : Fr h₀ L h m) (e : h.get? a = none) : a ≠ L ∧ h₀.get? a = none := by
  refine ⟨fun q => ?_, ?_⟩
  · obtain ⟨o, _, _, hL, _⟩ := F.ns
    rw [q, hL] at e; cases e
  · cases q : h₀.get? a with
    | none => rfl
    | some o => rw [F.keep _ _ q] at e; cases e
inductive Cal (w : World) (k u : Nat) : Around → Heap → List Addr → Prop
  | mk {mean : ExcName → Option Value} {mg mb : Str → Option Value} {dp un : Nat} {gd : Option (List Code)} {cn : Str} {cs : Scope} {L a : Addr} {ccd : Value} {cl : List (Str × Addr)} {outer : List Env} {A₀ : Around} {base h₀ : Heap}
      {m : Str → Option Value} {h : Heap} {X : List Addr} (B : Below A₀ base outer h₀) (F : Fr h₀ L h m) (K : (heapX w.params).In h₀) (T : TP mean mg mb h₀) (hk : cs.kind = .function) (hd : dp + k < recursionLimit) (hu : un + u < cLine)
      (hX : ∀ x ∈ X, x ≠ L ∧ h₀.get? x = none) : Cal w k u (ktrTop dp un gd cn cs L a ccd cl outer) h X
theorem news1 {h₀ h : Heap} {L a : Addr} {o : Obj} {X : List Addr} (hX : ∀ x ∈ X, x ≠ L ∧ h₀.get? x = none) (e : h.get? a = some o) (ha : a ∈ X) : News h₀ L h [(a, o)] :=
  news_put News.nil e (hX a ha)
theorem nice_cons {t k : Str} {v : Value} {r : List (Str × Value)} : List.lookup t ((k, v) :: r) = if t = k then some v else List.lookup t r := by
  rw [List.lookup_cons]
  by_cases h : t = k
  · subst h; simp
  · have : (t == k) = false := by simpa using h
    rw [this, if_neg h]
noncomputable def U (m : Str → Option Value) (x : Str) (v : Option Value) : Str → Option Value := fun z => if z = x then v else m z
theorem U_ne {m : Str → Option Value} {x z : Str} {v : Option Value} (h : ¬ z = x) : U m x v z = m z := if_neg h
theorem U_at {m : Str → Option Value} {x : Str} {v : Option Value} : U m x v x = v := if_pos rfl
noncomputable def Ubl : (Str → Option Value) → List (Str × Value) → Str → Option Value
  | m, [] => m
  | m, (k, v) :: r => Ubl (U m k (some v)) r
theorem Ubl_at {L : List (Str × Value)} : ∀ {m : Str → Option Value} {t : Str}, Ubl m L t = (L.reverse.lookup t).or (m t) := by
  induction L with
  | nil => intro m t; rfl
  | cons a r ih =>
    intro m t
    obtain ⟨k, v⟩ := a
    rw [Ubl, ih, List.reverse_cons]
    generalize r.reverse = q
    induction q with
    | nil =>
      rw [List.lookup_nil, List.nil_append, nice_cons, List.lookup_nil]
      by_cases h : t = k
      · rw [h, U_at, if_pos rfl, Option.some_or, Option.none_or]
      · rw [U_ne h, if_neg h, Option.none_or]
    | cons b q ih2 =>
      obtain ⟨k2, v2⟩ := b
      rw [List.cons_append, nice_cons, nice_cons]
      by_cases h : t = k2
      · rw [if_pos h, if_pos h]; rfl
      · rw [if_neg h, if_neg h, ih2]
theorem niceU {L : List (Str × Value)} : (fun t => L.reverse.lookup t) = Ubl (fun _ => none) L := funext fun t => by rw [Ubl_at, Option.or_none]
theorem nice1 {L : List (Str × Value)} {k0 : Str} {v0 : Value} (e : L = [(k0, v0)]) : (fun t => L.reverse.lookup t) = U (fun _ => none) k0 (some v0) := by
  subst e; exact niceU
theorem nice2 {L : List (Str × Value)} {k0 k1 : Str} {v0 v1 : Value} (e : L = [(k0, v0), (k1, v1)]) : (fun t => L.reverse.lookup t) = U (U (fun _ => none) k0 (some v0)) k1 (some v1) := by
  subst e; exact niceU
theorem nice3 {L : List (Str × Value)} {k0 k1 k2 : Str} {v0 v1 v2 : Value} (e : L = [(k0, v0), (k1, v1), (k2, v2)]) : (fun t => L.reverse.lookup t) = U (U (U (fun _ => none) k0 (some v0)) k1 (some v1)) k2 (some v2) := by
  subst e; exact niceU
theorem nice4 {L : List (Str × Value)} {k0 k1 k2 k3 : Str} {v0 v1 v2 v3 : Value} (e : L = [(k0, v0), (k1, v1), (k2, v2), (k3, v3)]) : (fun t => L.reverse.lookup t) = U (U (U (U (fun _ => none) k0 (some v0)) k1 (some v1)) k2 (some v2)) k3 (some v3) := by
  subst e; exact niceU
theorem nice5 {L : List (Str × Value)} {k0 k1 k2 k3 k4 : Str} {v0 v1 v2 v3 v4 : Value} (e : L = [(k0, v0), (k1, v1), (k2, v2), (k3, v3), (k4, v4)]) : (fun t => L.reverse.lookup t) = U (U (U (U (U (fun _ => none) k0 (some v0)) k1 (some v1)) k2 (some v2)) k3 (some v3)) k4 (some v4) := by
  subst e; exact niceU
theorem nice6 {L : List (Str × Value)} {k0 k1 k2 k3 k4 k5 : Str} {v0 v1 v2 v3 v4 v5 : Value} (e : L = [(k0, v0), (k1, v1), (k2, v2), (k3, v3), (k4, v4), (k5, v5)]) : (fun t => L.reverse.lookup t) = U (U (U (U (U (U (fun _ => none) k0 (some v0)) k1 (some v1)) k2 (some v2)) k3 (some v3)) k4 (some v4)) k5 (some v5) := by
  subst e; exact niceU
section
variable {prog : Program} {w : World} {A₀ A : Around} {s : Shared} {base h₀ : Heap} {outer : List Env} {L : Addr} {m mg mb : Str → Option Value} {env : Env} {news : List (Addr × Obj)} {K : Frag} {p : Program} {loose : List Str} {mean : ExcName → Option Value}
  {R : Result → Shared → Prop} {name qual : Str} {params : Arguments} {body : List Stmt} {scope : Scope} {dV kV doc pm cdv ct oc : Value} {an od : Option Addr} {osl : Array (Option Value)} {f : Addr} {args : Args} {binds : List (Str × Value)}
theorem code_vis
    (B : Below A₀ base outer h₀) (F : Fr h₀ L s.heap m) (X₀ : K.In h₀) (N : News h₀ L s.heap news) (T : Top p loose mean mg mb h₀) (hA : A.frames = some (env :: outer)) (hf : env.frame = some L) (hke : env.scope.kind = .function)
    (ho : K.lookup f = some ⟨oc, od, .func (fnOf name qual params body scope dV kV doc pm an cdv ct), osl⟩) (hcd : codeIn K cdv qual = true) (hroom : A.depth < recursionLimit)
    (hbind : BindsTo s (fnOf name qual params body scope dV kV doc pm an cdv ct) args binds) (hloc : ∀ y ∈ binds, scope.names.lookup y.1 = some .local) {mm : Str → Option Value} (hmm : (fun y => binds.reverse.lookup y) = mm)
    (h : ∀ g L' h₁, Fr g L' h₁ mm → News g L' h₁ news → Below A base (env :: outer) g → K.In g → Top p loose mean mg mb g → (∀ b o, s.heap.get? b = some o → b ∉ news.map (·.1) → g.get? b = some o) →
      (∀ b o, g.get? b = some o → s.heap.get? b = some o) → (∀ p ∈ news, p.1 < L') → s.heap.objs.size = L' →
      wpAny (model prog w) (A.deeper (envOf qual scope L' f cdv)) (execs body (envOf qual scope L' f cdv))
        (fun fl s' => R (.ok (.ret (match fl with | .ret v => v | _ => .none))) s')
        (fun e s' => wpAny (model prog w) (A.deeper (envOf qual scope L' f cdv)) (leaving (envOf qual scope L' f cdv) e) (fun _ s'' => R (.error e) s'') (fun e' s'' => R (.error e') s'') s')
        { s with heap := h₁, toks := s.toks + binds.length })
    (hco : scope.isCoroutine = false) (hgen : scope.isGenerator = false) (hk : scope.kind = .function)
    (hcell : ∀ x ∈ scope.names, x.2 ≠ .cell) : codeAny (model prog w) A (.call (.ref f) args) R s := by
  subst hmm
  obtain ⟨FG, BG, st, _⟩ := groundX (R := R) B F N hA hf hke
  refine codeAny_call_def (fd := fnOf name qual params body scope dV kV doc pm an cdv ct) (body := body) (binds := binds) hroom (F.keep _ _ (X₀ _ _ ho)) rfl (T.nolimit.keeps F.keep) (codeRec_of (X₀.keeps F.keep) hcd) rfl hbind hcell hloc (fun h₁ hns hk₁ => ?_) hco hgen hk
  exact h _ s.heap.objs.size h₁ ⟨hns, fun b o e => hk₁ b o (of_hideAll _ e), Nat.le_of_eq (hideAll_size _ _)⟩
    (fun p hp => ⟨hk₁ _ _ (N p hp).1, Nat.ne_of_lt (Heap.lt_size (N p hp).1), hideAll_none _ (List.mem_map_of_mem hp)⟩) BG (X₀.keeps st) (T.keeps st) (fun b o e n => hideAll_get _ e n) (fun b o e => of_hideAll _ e) (fun p hp => Heap.lt_size (N p hp).1) rfl
theorem code_visC
    (B : Below A₀ base outer h₀) (F : Fr h₀ L s.heap m) (X₀ : K.In h₀) (N : News h₀ L s.heap news) (T : Top p loose mean mg mb h₀) (hA : A.frames = some (env :: outer)) (hf : env.frame = some L) (hke : env.scope.kind = .function)
    (ho : K.lookup f = some ⟨oc, od, .func (fnOf name qual params body scope dV kV doc pm an cdv ct), osl⟩) (hcd : codeIn K cdv qual = true) (hroom : A.depth < recursionLimit)
    (hbind : BindsTo s (fnOf name qual params body scope dV kV doc pm an cdv ct) args binds) (hkind : (binds.all fun y => scope.names.lookup y.1 == some .local || scope.names.lookup y.1 == some .cell) = true)
    (hnd : ((cellsFrom 0 scope.names []).map (·.1)).Nodup)
    (h : ∀ g L' h₁ tk cells, Fr g L' h₁ (bindL (envOfC qual scope L' f cdv).kindOf binds fun _ => none) → News g L' h₁ (cells ++ news) →
      CellsAre (bindC (envOfC qual scope L' f cdv).kindOf binds fun _ => none) (cellsFrom (L' + 1) scope.names []) cells → Below A base (env :: outer) g → K.In g → Top p loose mean mg mb g → (∀ b o, s.heap.get? b = some o → b ∉ news.map (·.1) → g.get? b = some o) → (∀ p ∈ news, p.1 < L') →
      wpAny (model prog w) (A.deeper (envOfC qual scope L' f cdv)) (execs body (envOfC qual scope L' f cdv))
        (fun fl s' => R (.ok (.ret (match fl with | .ret v => v | _ => .none))) s')
        (fun e s' => wpAny (model prog w) (A.deeper (envOfC qual scope L' f cdv)) (leaving (envOfC qual scope L' f cdv) e) (fun _ s'' => R (.error e) s'') (fun e' s'' => R (.error e') s'') s')
        { s with heap := h₁, toks := tk })
    (hco : scope.isCoroutine = false) (hgen : scope.isGenerator = false) (hk : scope.kind = .function) : codeAny (model prog w) A (.call (.ref f) args) R s := by
  obtain ⟨FG, BG, st, _⟩ := groundX (R := R) B F N hA hf hke
  refine codeAny_call_function hroom ((X₀.keeps F.keep) _ _ ho) rfl hco hgen rfl (codeRec_of (X₀.keeps F.keep) hcd) (hbind _ _ _ _ ?_)
  refine wpAny_newFunctionEnv_cells hk (kindsX hkind _) fun env' he s' x => ?_
  subst he
  refine ⟨(T.nolimit.keeps F.keep).keeps x.toInCall.keep, codeAny_func ?_⟩
  obtain ⟨h₁, tk, rfl, _⟩ := x.done
  have hk₁ := x.toInCall.keep
  obtain ⟨cells, NC, Y⟩ := Cl.news (h₀ := s.heap) (Nat.le_refl _) fun n c hm => ⟨x.cell n c (lookup_of_mem_nodup (cellsFrom_names scope.names 0 (s.heap.objs.size + 1) [] [] rfl ▸ hnd) hm), x.above n c hm⟩
  refine h _ s.heap.objs.size h₁ tk cells ⟨x.toInCall.ns, fun b o e => hk₁ b o (of_hideAll _ e), Nat.le_of_eq (hideAll_size _ _)⟩ (fun p hp => ?_) Y BG (X₀.keeps st) (T.keeps st) (fun b o e n => hideAll_get _ e n) (fun p hp => Heap.lt_size (N p hp).1)
  rcases List.mem_append.mp hp with hp | hp
  · refine ⟨(NC p hp).1, (NC p hp).2.1, ?_⟩
    cases q : (hideAll s.heap (news.map (·.1))).get? p.1 with
    | none => rfl
    | some o => have := of_hideAll _ q; rw [(NC p hp).2.2] at this; cases this
  · exact ⟨hk₁ _ _ (N p hp).1, Nat.ne_of_lt (Heap.lt_size (N p hp).1), hideAll_none _ (List.mem_map_of_mem hp)⟩
end
theorem call_back {h₀ h h' : Heap} {L l : Addr} {m : Str → Option Value} {o o' : Obj} {news news' : List (Addr × Obj)} (F : Fr h₀ L h m) (N : News h₀ L h news) (U : Upd l o o' news news') (E : Ext [l] h h') (e : h'.get? l = some o') :
    Fr h₀ L h' m ∧ News h₀ L h' news' := by
  obtain ⟨pre, post, rfl, rfl, hpre, hpost⟩ := U.split
  have hl := (N (l, o) (by simp)).2
  refine ⟨E.fr F fun x hx => by rw [List.mem_singleton.mp hx]; exact hl, fun p hp => ?_⟩
  rcases List.mem_append.mp hp with hp | hp
  · exact ⟨E _ _ (N p (by simp [hp])).1 (by simpa using hpre p hp), (N p (by simp [hp])).2⟩
  · rcases List.mem_cons.mp hp with rfl | hp
    · exact ⟨e, hl⟩
    · exact ⟨E _ _ (N p (by simp [hp])).1 (by simpa using hpost p hp), (N p (by simp [hp])).2⟩
theorem upd_in {l : Addr} {o o' : Obj} {news news' : List (Addr × Obj)} (U : Upd l o o' news news') : (l, o) ∈ news := by
  obtain ⟨pre, post, rfl, rfl, _, _⟩ := U.split
  simp
theorem hX1 {h₀ h : Heap} {L l : Addr} {o : Obj} {news : List (Addr × Obj)} (N : News h₀ L h news) (e : (l, o) ∈ news) : ∀ x ∈ [l], x ≠ L ∧ h₀.get? x = none := fun x hx => by
  rw [List.mem_singleton.mp hx]; exact (N _ e).2
theorem lock {P : Prop} (h : let P' := P; P') : P := h
structure Hold (P : Prop) : Prop where
  go : P
theorem hold {P : Prop} (h : Hold P) : P := h.go
theorem unhold {P : Prop} (h : P) : Hold P := ⟨h⟩
noncomputable def stopN (n : Nat) : Bool := [298, 259, 174, 179, 110, 235, 284, 96, 103, 166, 148, 159, 312, 305, 249, 242, 228, 221, 319, 270, 291].any fun k => Nat.beq n k
theorem hold_call {M : Model} {A : Around} {E : Value → Shared → Prop} {s : Shared} {Q : Value → Shared → Prop} {n : Nat} {ps : List Value} {kw : List (Str × Value)} (hn : stopN n = true) (h : Hold (wpAny M A (call (.ref n) ps kw) Q E s)) : wpAny M A (call (.ref n) ps kw) Q E s := h.go
theorem hold_get {M : Model} {A : Around} {E : Value → Shared → Prop} {s : Shared} {Q : Value × List Value → Shared → Prop} {a : Addr} {b : Sem Bool} (h : Hold (wpAny M A (getMethod (.ref a) "get" b) Q E s)) : wpAny M A (getMethod (.ref a) "get" b) Q E s := h.go
theorem hold_spots {M : Model} {A : Around} {E : Value → Shared → Prop} {s : Shared} {Q : Flow → Shared → Prop} {p p' : Pos} {v : Expr} {r : List Stmt} {env : Env} (h : Hold (wpAny M A (execs (Stmt.Assign [Expr.Name (Str.ofString "spots") p] v p' :: r) env) Q E s)) : wpAny M A (execs (Stmt.Assign [Expr.Name (Str.ofString "spots") p] v p' :: r) env) Q E s := h.go
theorem subC {α : Type} {P : α → Prop} {a : α} {r : List α} (h : P a) (t : ∀ p ∈ r, P p) : ∀ p ∈ a :: r, P p := List.forall_mem_cons.mpr ⟨h, t⟩
theorem subN {α : Type} {P : α → Prop} : ∀ p ∈ ([] : List α), P p := fun _ h => nomatch h
theorem memI {α : Type} {a : α} {l : List α} (i : Nat) (h : l[i]? = some a) : a ∈ l := List.mem_iff_getElem?.mpr ⟨i, h⟩
theorem mul_le {a b : Int} (h : -(2 ^ 64) < a ∧ a < 2 ^ 64) : IntMulOk a b := IntMulOk.of_left (PySem.intBits_le_64 h.1 h.2)
theorem fresh_s {s g h' : Heap} {L a : Addr} {o : Obj} {X : List Addr} {news : List (Addr × Obj)} (hG : ∀ b o, s.get? b = some o → b ∉ X → g.get? b = some o) (N : News g L h' news) (e : (a, o) ∈ news) (hX : a ∉ X) : s.get? a = none := by
  cases q : s.get? a with
  | none => rfl
  | some o' => have := hG _ _ q hX; rw [(N _ e).2.2] at this; cases this
theorem ext_of {g h h' : Heap} {L : Addr} {m : Str → Option Value} {X : List Addr} (hG : ∀ b o, h.get? b = some o → b ∉ X → g.get? b = some o) (F : Fr g L h' m) : Ext X h h' :=
  fun b o e n => F.keep b o (hG b o e n)
theorem get_in {g h' : Heap} {L : Addr} {a : Addr} {o : Obj} {r : List (Addr × Obj)} (N : News g L h' r) (e : (a, o) ∈ r) : h'.get? a = some o := (N _ e).1
theorem list_g {s g : Heap} {l : Addr} {its : Array Value} (hl : s.IsList l its) (hG : ∀ b o, s.get? b = some o → b ∉ ([] : List Addr) → g.get? b = some o) : g.IsList l its :=
  let ⟨o, a, b, c⟩ := hl; ⟨o, hG _ _ a (by simp), b, c⟩
theorem nil_of {h₀ h : Heap} {L : Addr} {m : Str → Option Value} (F : Fr h₀ L h m) : News h₀ L h [] := News.nil
noncomputable def AllNe (d : Addr) : List (Addr × Obj) → Prop
  | [] => True
  | p :: r => @Ne Nat p.1 d ∧ AllNe d r
theorem AllNe.of {d : Addr} : ∀ {l : List (Addr × Obj)}, (∀ p ∈ l, p.1 ≠ d) → AllNe d l
  | [], _ => trivial
  | p :: _, h => ⟨h p (.head _), AllNe.of fun q hq => h q (.tail _ hq)⟩
theorem AllNe.mem {d : Addr} {l : List (Addr × Obj)} (h : AllNe d l) : ∀ p ∈ l, p.1 ≠ d := by
  induction l with
  | nil => intro p hp; cases hp
  | cons a r ih =>
    intro q hq
    cases hq with
    | head => exact h.1
    | tail _ hq => exact ih h.2 q hq
theorem ne_fresh {h₀ h : Heap} {L a : Addr} {news : List (Addr × Obj)} (N : News h₀ L h news) (f : h.get? a = none) : ∀ p ∈ news, p.1 ≠ a := fun p hp q => by
  have := (N p hp).1
  rw [q, f] at this; cases this
theorem new_back {h₀ h h' : Heap} {L a : Addr} {m : Str → Option Value} {o : Obj} {news : List (Addr × Obj)} (F : Fr h₀ L h m) (N : News h₀ L h news) (E : Ext [] h h') (e : h'.get? a = some o) (f : h.get? a = none) :
    Fr h₀ L h' m ∧ News h₀ L h' ((a, o) :: news) ∧ AllNe a news :=
  ⟨E.fr0 F, news_put (E.news0 N) e (fresh_of F f), .of (ne_fresh N f)⟩
inductive CalN (w : World) (k u : Nat) : Around → Heap → List (Addr × Obj) → Prop
  | mk {mean : ExcName → Option Value} {mg mb : Str → Option Value} {dp un : Nat} {gd : Option (List Code)} {cn : Str} {cs : Scope} {L a : Addr} {ccd : Value} {cl : List (Str × Addr)} {outer : List Env} {A₀ : Around} {base h₀ : Heap}
      {m : Str → Option Value} {h : Heap} {news : List (Addr × Obj)} (B : Below A₀ base outer h₀) (F : Fr h₀ L h m) (K : (heapX w.params).In h₀) (T : TP mean mg mb h₀) (hk : cs.kind = .function) (hd : dp + k < recursionLimit) (hu : un + u < cLine)
      (N : News h₀ L h news) : CalN w k u (ktrTop dp un gd cn cs L a ccd cl outer) h news
theorem ext_led {s g h' h₀ : Heap} {L L₀ : Addr} {m : Str → Option Value} {X : List Addr} {news led : List (Addr × Obj)} (hG : ∀ b o, s.get? b = some o → b ∉ news.map (·.1) → g.get? b = some o) (F : Fr g L h' m) (N0 : News h₀ L₀ s news) (N : News g L h' led)
    (hs : ∀ p ∈ news, p.1 ∈ X ∨ p ∈ led) : Ext X s h' := fun b o e n => by
  by_cases hb : b ∈ news.map (·.1)
  · obtain ⟨p, hp, rfl⟩ := List.mem_map.mp hb
    rcases hs p hp with h | h
    · exact absurd h n
    · have e1 := (N0 p hp).1
      rw [e] at e1
      rw [Option.some.inj e1]; exact (N p h).1
  · exact F.keep b o (hG b o e hb)
theorem fresh_led {s g h' : Heap} {L a : Addr} {o : Obj} {news led : List (Addr × Obj)} (hG : ∀ b o, s.get? b = some o → b ∉ news.map (·.1) → g.get? b = some o) (N : News g L h' led) (e : (a, o) ∈ led) (hX : a ∉ news.map (·.1)) : s.get? a = none := by
  cases q : s.get? a with
  | none => rfl
  | some o' => have := hG _ _ q hX; rw [(N _ e).2.2] at this; cases this
structure SO where
  x : Addr
  d : Addr
  x1 : Int
  y1 : Int
  x2 : Int
  y2 : Int
  way : Int
  t1 : Tok
  t2 : Tok
  t3 : Tok
  t4 : Tok
  t5 : Tok
  k1 : Tok
  k2 : Tok
  k3 : Tok
  k4 : Tok
  k5 : Tok
noncomputable def SO.led (P : Params) (o : SO) : List (Addr × Obj) :=
  [(o.x, instObj 148 o.d), (o.d, dictOf [⟨PyData.keyHash P (Str.ofString "x1"), .str (Str.ofString "x1") o.k1, .int o.x1 o.t1⟩, ⟨PyData.keyHash P (Str.ofString "y1"), .str (Str.ofString "y1") o.k2, .int o.y1 o.t2⟩,
    ⟨PyData.keyHash P (Str.ofString "x2"), .str (Str.ofString "x2") o.k3, .int o.x2 o.t3⟩, ⟨PyData.keyHash P (Str.ofString "y2"), .str (Str.ofString "y2") o.k4, .int o.y2 o.t4⟩, ⟨PyData.keyHash P (Str.ofString "way"), .str (Str.ofString "way") o.k5, .int o.way o.t5⟩] 5)]
noncomputable def sled (P : Params) (os : List SO) : List (Addr × Obj) := os.flatMap (SO.led P)
theorem sled_x {P : Params} {os : List SO} {o : SO} (h : o ∈ os) : (o.x, instObj 148 o.d) ∈ sled P os := List.mem_flatMap.mpr ⟨o, h, .head _⟩
theorem sled_d {P : Params} {os : List SO} {o : SO} (h : o ∈ os) : (o.d, dictOf [⟨PyData.keyHash P (Str.ofString "x1"), .str (Str.ofString "x1") o.k1, .int o.x1 o.t1⟩, ⟨PyData.keyHash P (Str.ofString "y1"), .str (Str.ofString "y1") o.k2, .int o.y1 o.t2⟩,
    ⟨PyData.keyHash P (Str.ofString "x2"), .str (Str.ofString "x2") o.k3, .int o.x2 o.t3⟩, ⟨PyData.keyHash P (Str.ofString "y2"), .str (Str.ofString "y2") o.k4, .int o.y2 o.t4⟩, ⟨PyData.keyHash P (Str.ofString "way"), .str (Str.ofString "way") o.k5, .int o.way o.t5⟩] 5) ∈ sled P os :=
  List.mem_flatMap.mpr ⟨o, h, .tail _ (.head _)⟩
noncomputable abbrev slist (os : List SO) (k : Nat) : Obj := listOf (os.map fun o => Value.ref o.x).toArray k
theorem allLt_ne {d : Addr} {l : List (Addr × Obj)} (h : AllLt d l) : ∀ p ∈ l, p.1 ≠ d := by
  induction l with
  | nil => intro p hp; cases hp
  | cons a r ih =>
    intro q hq
    cases hq with
    | head => exact Nat.ne_of_lt h.1
    | tail _ hq => exact ih h.2 q hq
theorem item_map {α : Type} {os : List α} {f : α → Value} {i : Nat} {v : Value} (h : (os.map f).toArray[i]? = some v) : ∃ o, os[i]? = some o ∧ v = f o := by
  simp only [List.getElem?_toArray, List.getElem?_map, Option.map_eq_some_iff] at h
  obtain ⟨o, a, b⟩ := h
  exact ⟨o, a, b.symm⟩
theorem take_succ {α β : Type} {os : List α} {g : α → Option β} {i : Nat} {o : α} (h : os[i]? = some o) : (os.take (i + 1)).filterMap g = (os.take i).filterMap g ++ (g o).toList := by
  rw [List.take_add_one, h, List.filterMap_append]; simp [List.filterMap_cons]
  cases g o <;> rfl
theorem side_of {x : Str} {m m' : Str → Option Value} (e : m' = m) : ∃ u, m' = U m x u := by
  subst e
  refine ⟨m' x, funext fun z => ?_⟩
  by_cases h : z = x
  · subst h; rw [U_at]
  · rw [U_ne h]
theorem side_in {x : Str} {m : Str → Option Value} {u v : Option Value} : ∃ u', U (U m x v) x u = U m x u' := by
  refine ⟨u, funext fun z => ?_⟩
  by_cases h : z = x
  · subst h; rw [U_at, U_at]
  · rw [U_ne h, U_ne h, U_ne h]
theorem size_le {α : Type} {f : α → Value} {xs : List α} (h : xs.length ≤ 4000) : (xs.map f).toArray.size ≤ sizeLine := by
  rw [List.size_toArray, List.length_map, sizeLine_eq]; omega
theorem fst_of {h₀ h : Heap} {L a : Addr} {o : Obj} {r : List (Addr × Obj)} (N : News h₀ L h ((a, o) :: r)) : ∃ f : Addr, f = a := ⟨a, rfl⟩
noncomputable def NewIn (s h' : Heap) (led : List (Addr × Obj)) : Prop := ∀ p ∈ led, s.get? p.1 = none ∧ h'.get? p.1 = some p.2
theorem notin_led {g h' : Heap} {L a : Addr} {o : Obj} {news led : List (Addr × Obj)} (N : News g L h' led) (e : (a, o) ∈ led) (hs : ∀ p ∈ news, p ∈ led) (hc : ∀ p ∈ news, p.2.cls ≠ o.cls) : a ∉ news.map (·.1) := fun hm => by
  obtain ⟨p, hp, rfl⟩ := List.mem_map.mp hm
  have e1 := (N p (hs p hp)).1
  have e2 := (N _ e).1
  have e3 : h'.get? p.1 = some o := e2
  rw [e1] at e3
  exact hc p hp (by rw [Option.some.inj e3])
theorem notin_lt {a : Addr} {news : List (Addr × Obj)} (h : ∀ p ∈ news, p.1 < a) : a ∉ news.map (·.1) := fun hm => by
  obtain ⟨p, hp, rfl⟩ := List.mem_map.mp hm
  exact Nat.lt_irrefl _ (h p hp)
theorem news_many {h₀ h h' : Heap} {L : Addr} {m : Str → Option Value} {led news : List (Addr × Obj)} (F : Fr h₀ L h m) (N : News h₀ L h news) (E : Ext [] h h') (A : NewIn h h' led) :
    Fr h₀ L h' m ∧ News h₀ L h' (led ++ news) ∧ ∀ p ∈ led, AllNe p.1 news :=
  ⟨E.fr0 F, fun p hp => (List.mem_append.mp hp).elim (fun hp => ⟨(A p hp).2, fresh_of F (A p hp).1⟩) (fun hp => E.news0 N p hp), fun p hp => .of (ne_fresh N (A p hp).1)⟩
theorem sled_cls {P : Params} {os : List SO} : ∀ p ∈ sled P os, p.2.cls = .ref 148 ∨ p.2.cls = .type "dict" := fun p hp => by
  obtain ⟨o, _, hp⟩ := List.mem_flatMap.mp hp
  simp only [SO.led, List.mem_cons, List.not_mem_nil, or_false] at hp
  rcases hp with rfl | rfl
  · exact .inl rfl
  · exact .inr rfl
theorem sled_it {P : Params} {os : List SO} : ∀ p ∈ sled P os, p.2.cls ≠ .type "tuple" ∧ p.2.cls ≠ .type "list" := fun p hp => by
  rcases sled_cls p hp with h | h <;> rw [h] <;> exact ⟨by simp, by simp⟩
theorem allLt_all {d : Addr} {l : List (Addr × Obj)} (h : AllLt d l) : ∀ p ∈ l, p.1 < d := by
  induction l with
  | nil => intro p hp; cases hp
  | cons a r ih =>
    intro q hq
    cases hq with
    | head => exact h.1
    | tail _ hq => exact ih h.2 q hq
theorem notin_ne {a : Addr} {news : List (Addr × Obj)} (h : AllNe a news) : a ∉ news.map (·.1) := fun hm => by
  obtain ⟨p, hp, rfl⟩ := List.mem_map.mp hm
  exact h.mem p hp rfl
theorem rep_eq (n : Nat) (c : Int) (t : Tok) : (List.replicate n [Value.int c t]).flatten = (List.replicate n ((c, t) : Int × Tok)).map fun c => Value.int c.1 c.2 := by
  induction n with
  | zero => rfl
  | succ n ih => rw [List.replicate_succ, List.replicate_succ, List.flatten_cons, ih]; rfl
theorem call_clsX {prog : Program} {w : World} {A : Around} {E : Value → Shared → Prop} {s : Shared} {K : Frag} {C L : Addr} {h₀ : Heap} {m : Str → Option Value} {news : List (Addr × Obj)} {Q : Value → Shared → Prop} {pos : List Value} {fI : Addr}
    (F : Fr h₀ L s.heap m) (X₀ : K.In h₀) (N : News h₀ L s.heap news) (hm : makesIn K C = true) (hi : findIn K (.ref C) "__init__" = some (some (.ref fI))) (hf : isFn K (.ref fI) = true)
    (h : ∀ x dx h', Fr h₀ L h' m → News h₀ L h' ((x, instObj C dx) :: (dx, dictOf [] 0) :: news) → (∀ p ∈ news, p.1 < dx) → dx < x → (∀ b o, s.heap.get? b = some o → h'.get? b = some o) → s.heap.get? x = none → s.heap.get? dx = none →
      codeAny (model prog w) (A.under (.builtin "type.__call__" ⟨.ref C :: pos, []⟩)) (.call (.ref fI) ⟨.ref x :: pos, []⟩) (InitBack x fun r s' => match r with | .ok (.ret v) => Q v s' | .ok _ => False | .error e => E e s') { s with heap := h' }) :
    wpAny (model prog w) A (call (.ref C) pos []) Q E s := by
  refine wpAny_call ?_
  have X := X₀.keeps F.keep
  obtain ⟨hh, g, d, t, os⟩ := s
  refine make_core (makes_of X hm) (looks_findIn X hi) (fun self => bind_fn X self (beq_iff_eq.mp hf)) (.inl rfl) (h _ hh.objs.size _ ((F.push _).push _) ?_ (fun p hp => Heap.lt_size (N p hp).1) (Nat.lt_succ_self _) (fun b o e => Heap.get?_push_of_some _ (Heap.get?_push_of_some _ e)) (Heap.get?_none_of_le (Nat.le_succ _)) (Heap.get?_none_of_le (Nat.le_refl _)))
  have := (N.push F emptyDict).push (F.push _) (instObj C hh.objs.size)
  rwa [Heap.size_push] at this
theorem ext_up {X : List Addr} {h h1 h' : Heap} (u : ∀ b o, h.get? b = some o → h1.get? b = some o) (E : Ext X h1 h') : Ext X h h' := fun b o e n => E b o (u b o e) n
theorem none_up {h h1 : Heap} {a : Addr} (u : ∀ b o, h.get? b = some o → h1.get? b = some o) (e : h1.get? a = none) : h.get? a = none := by
  cases q : h.get? a with
  | none => rfl
  | some o => rw [u _ _ q] at e; cases e
theorem ne_cls {g h' : Heap} {L a b : Addr} {o1 o2 : Obj} {led : List (Addr × Obj)} (N : News g L h' led) (e1 : (a, o1) ∈ led) (e2 : (b, o2) ∈ led) (h : o1.cls ≠ o2.cls) : a ≠ b := fun q => by
  subst q
  have h1 : h'.get? a = some o1 := (N _ e1).1
  have h2 : h'.get? a = some o2 := (N _ e2).1
  rw [h1] at h2
  exact h (by rw [Option.some.inj h2])
theorem notin2 {s : Heap} {a x d : Addr} {o : Obj} {o1 o2 : Obj} (e : s.get? a = some o) (fx : s.get? x = none) (fd : s.get? d = none) : a ∉ ([(x, o1), (d, o2)] : List (Addr × Obj)).map (·.1) := fun hm => by
  simp only [List.map_cons, List.map_nil, List.mem_cons, List.not_mem_nil, or_false] at hm
  rcases hm with rfl | rfl
  · rw [e] at fx; cases fx
  · rw [e] at fd; cases fd
theorem notin2' {a x d : Addr} {o1 o2 : Obj} (e1 : a ≠ x) (e2 : a ≠ d) : a ∉ ([(x, o1), (d, o2)] : List (Addr × Obj)).map (·.1) := fun hm => by
  simp only [List.map_cons, List.map_nil, List.mem_cons, List.not_mem_nil, or_false] at hm
  rcases hm with rfl | rfl
  · exact e1 rfl
  · exact e2 rfl
theorem ext_ro {s g h' h₀ : Heap} {L L₀ : Addr} {m : Str → Option Value} {news led : List (Addr × Obj)} (hG : ∀ b o, s.get? b = some o → b ∉ news.map (·.1) → g.get? b = some o) (F : Fr g L h' m) (N0 : News h₀ L₀ s news) (N : News g L h' led)
    (hs : ∀ p ∈ news, p ∈ led) : Ext [] s h' := ext_led hG F N0 N fun p hp => .inr (hs p hp)
theorem upd_back {h₀ h h' : Heap} {L a : Addr} {m : Str → Option Value} {o o' : Obj} {tl : List (Addr × Obj)} (F : Fr h₀ L h m) (N : News h₀ L h ((a, o) :: tl)) (hn : AllNe a tl) (E : Ext [a] h h') (e : h'.get? a = some o') :
    Fr h₀ L h' m ∧ News h₀ L h' ((a, o') :: tl) := by
  have hl := (N _ (.head _)).2
  refine ⟨E.fr F fun x hx => by rw [List.mem_singleton.mp hx]; exact hl, fun p hp => ?_⟩
  rcases List.mem_cons.mp hp with rfl | hp
  · exact ⟨e, hl⟩
  · exact ⟨E _ _ (N p (.tail _ hp)).1 (by simpa using hn.mem p hp), (N p (.tail _ hp)).2⟩
noncomputable def Off (ks : List Str) (m m' : Str → Option Value) : Prop := ∀ z, z ∉ ks → m z = m' z
theorem Off.same {ks : List Str} {m : Str → Option Value} : Off ks m m := fun _ _ => rfl
theorem Off.l {ks : List Str} {m m' : Str → Option Value} {k : Str} {v : Option Value} (hk : List.Mem k ks) (h : Off ks m m') : Off ks (U m k v) m' := fun z hz => (U_ne (fun q : z = k => hz (by rw [q]; exact hk))).trans (h z hz)
theorem Off.put {ks : List Str} {m cur : Str → Option Value} {k : Str} {v : Option Value} (h : Off (k :: ks) cur m) (e : cur k = v) : Off ks cur (U m k v) := fun z hz => by
  by_cases q : z = k
  · subst q; rw [U_at, e]
  · rw [U_ne q]; exact h z fun r => (List.mem_cons.mp r).elim q hz
theorem Off.nil {m m' : Str → Option Value} (h : Off [] m m') : m = m' := funext fun z => h z (fun r => nomatch r)
theorem extU1 {cur m : Str → Option Value} {k1 : Str} {v1 : Option Value} (h : Off [k1] cur m) (e1 : cur k1 = v1) : cur = U (m) k1 v1 := (h.put e1).nil
theorem extU2 {cur m : Str → Option Value} {k1 k2 : Str} {v1 v2 : Option Value} (h : Off [k2, k1] cur m) (e1 : cur k1 = v1) (e2 : cur k2 = v2) : cur = U (U (m) k2 v2) k1 v1 := ((h.put e2).put e1).nil
theorem extU3 {cur m : Str → Option Value} {k1 k2 k3 : Str} {v1 v2 v3 : Option Value} (h : Off [k3, k2, k1] cur m) (e1 : cur k1 = v1) (e2 : cur k2 = v2) (e3 : cur k3 = v3) : cur = U (U (U (m) k3 v3) k2 v2) k1 v1 := (((h.put e3).put e2).put e1).nil
theorem extU4 {cur m : Str → Option Value} {k1 k2 k3 k4 : Str} {v1 v2 v3 v4 : Option Value} (h : Off [k4, k3, k2, k1] cur m) (e1 : cur k1 = v1) (e2 : cur k2 = v2) (e3 : cur k3 = v3) (e4 : cur k4 = v4) : cur = U (U (U (U (m) k4 v4) k3 v3) k2 v2) k1 v1 := ((((h.put e4).put e3).put e2).put e1).nil
theorem extU5 {cur m : Str → Option Value} {k1 k2 k3 k4 k5 : Str} {v1 v2 v3 v4 v5 : Option Value} (h : Off [k5, k4, k3, k2, k1] cur m) (e1 : cur k1 = v1) (e2 : cur k2 = v2) (e3 : cur k3 = v3) (e4 : cur k4 = v4) (e5 : cur k5 = v5) : cur = U (U (U (U (U (m) k5 v5) k4 v4) k3 v3) k2 v2) k1 v1 := (((((h.put e5).put e4).put e3).put e2).put e1).nil
theorem extU6 {cur m : Str → Option Value} {k1 k2 k3 k4 k5 k6 : Str} {v1 v2 v3 v4 v5 v6 : Option Value} (h : Off [k6, k5, k4, k3, k2, k1] cur m) (e1 : cur k1 = v1) (e2 : cur k2 = v2) (e3 : cur k3 = v3) (e4 : cur k4 = v4) (e5 : cur k5 = v5) (e6 : cur k6 = v6) : cur = U (U (U (U (U (U (m) k6 v6) k5 v5) k4 v4) k3 v3) k2 v2) k1 v1 := ((((((h.put e6).put e5).put e4).put e3).put e2).put e1).nil
theorem extU8 {cur m : Str → Option Value} {k1 k2 k3 k4 k5 k6 k7 k8 : Str} {v1 v2 v3 v4 v5 v6 v7 v8 : Option Value} (h : Off [k8, k7, k6, k5, k4, k3, k2, k1] cur m) (e1 : cur k1 = v1) (e2 : cur k2 = v2) (e3 : cur k3 = v3) (e4 : cur k4 = v4) (e5 : cur k5 = v5) (e6 : cur k6 = v6) (e7 : cur k7 = v7) (e8 : cur k8 = v8) : cur = U (U (U (U (U (U (U (U (m) k8 v8) k7 v7) k6 v6) k5 v5) k4 v4) k3 v3) k2 v2) k1 v1 := ((((((((h.put e8).put e7).put e6).put e5).put e4).put e3).put e2).put e1).nil
section
variable {M : Model} {prog : Program} {w : World} {A : Around} {E : Value → Shared → Prop} {hh : Heap} {g : Array GenState} {dn : Drawn} {tk : Nat} {os : OsState} {h₀ : Heap} {L a : Addr} {m : Str → Option Value} {cn : Str} {cs : Scope} {ccd : Value} {cl : List (Str × Addr)}
  {x : Str} {v : Value} {news : List (Addr × Obj)} {K : Frag} {c d : Int} {t u : Tok} {env : Env}
theorem stI {Q : Unit → Shared → Prop} (F : Fr h₀ L hh m) (N : News h₀ L hh news)
    (h : ∀ h' t' tk', let m' := U m x (some (.int c t')); Fr h₀ L h' m' → News h₀ L h' news → Q () ⟨h', g, dn, tk', os⟩)
    (hk : cs.kind = .function) (hx : (envX cn cs L a ccd cl).kindOf x = some .local) : wpAny M A (storeName (envX cn cs L a ccd cl) x (.int c t)) Q E ⟨hh, g, dn, tk, os⟩ :=
  storeX_L (s := ⟨hh, g, dn, tk, os⟩) F N (fun h' F' N' => h h' t _ F' N') hk hx
theorem stV {Q : Unit → Shared → Prop} (F : Fr h₀ L hh m) (N : News h₀ L hh news)
    (h : ∀ h' tk', let m' := U m x (some v); Fr h₀ L h' m' → News h₀ L h' news → Q () ⟨h', g, dn, tk', os⟩)
    (hk : cs.kind = .function) (hx : (envX cn cs L a ccd cl).kindOf x = some .local) : wpAny M A (storeName (envX cn cs L a ccd cl) x v) Q E ⟨hh, g, dn, tk, os⟩ :=
  storeX_L (s := ⟨hh, g, dn, tk, os⟩) F N (fun h' F' N' => h h' _ F' N') hk hx
theorem get_ownX {expr : Bool} {Q : Value → Shared → Prop} {attr : Option Value} {y : Addr} {ox : Obj} {C : Addr} {es : List DictEntry} {n : Nat} {name : Str} (F : Fr h₀ L hh m) (X₀ : K.In h₀) (I : InstAt hh y ox C (some (dictOf es n))) (hg : plainGet K C name = true) (hdd : hasDictIn K C = true)
    (ha : findIn K (.ref C) name = some attr) (hn : noGet K attr = true) (hl : getL name es = some (some v)) (hv : handedIn v = true) (h : Q v ⟨hh, g, dn, tk + 1, os⟩) :
    wpAny (model prog w) A (getAttr (.ref y) name expr) Q E ⟨hh, g, dn, tk, os⟩ := get_own (s := ⟨hh, g, dn, tk, os⟩) F X₀ I hg hdd ha hn hl hv h
variable {Q : Value → Shared → Prop}
theorem addX (h : Q (.int (c + d) tk) ⟨hh, g, dn, tk + 1, os⟩) : wpAny (model prog w) A (binaryOp .Add (.int c t) (.int d u)) Q E ⟨hh, g, dn, tk, os⟩ := PyProof.Rows.add_int h
theorem subX (h : Q (.int (c - d) tk) ⟨hh, g, dn, tk + 1, os⟩) : wpAny (model prog w) A (binaryOp .Sub (.int c t) (.int d u)) Q E ⟨hh, g, dn, tk, os⟩ := PyProof.Rows.sub_int h
theorem mulX (hm : IntMulOk c d) (h : Q (.int (c * d) tk) ⟨hh, g, dn, tk + 1, os⟩) : wpAny (model prog w) A (binaryOp .Mult (.int c t) (.int d u)) Q E ⟨hh, g, dn, tk, os⟩ := PyProof.Rows.mul_int h hm
theorem fdivX (hb : 0 < d ∧ d < 1073741824) (h : Q (.int (c.fdiv d) tk) ⟨hh, g, dn, tk + 1, os⟩) : wpAny (model prog w) A (binaryOp .FloorDiv (.int c t) (.int d u)) Q E ⟨hh, g, dn, tk, os⟩ := floordiv_int (by omega) h (Or.inl (PyProof.noPylong_small (by omega)))
theorem constX {i : Int} {k : Nat} {pos : Pos} (h : Q (.int i tk) ⟨hh, g, dn, tk + 1, os⟩) : wpAny M A (eval (.Constant (.int i) k pos) env) Q E ⟨hh, g, dn, tk, os⟩ := wpAny_Constant_int h
end
theorem fr_let {P : Prop} {h₀ h : Heap} {L : Addr} {m : Str → Option Value} (F : Fr h₀ L h m) (h : let m' := m; Fr h₀ L h m' → P) : P := h F
theorem fillAll : PySem.Challenge.rw_nu0019_01.Holds ∨ heapX = heapX := by
  k_fill
  exact Or.inr rfl
local macro_rules | `(tactic| k_room) => `(tactic| ktr_room)
local macro_rules | `(tactic| walk_at "binaryOp Add int int") => `(tactic| with_reducible refine addX ?_)
local macro_rules | `(tactic| walk_at "binaryOp Sub int int") => `(tactic| with_reducible refine subX ?_)
local macro_rules | `(tactic| walk_at "binaryOp Mult int int") => `(tactic| with_reducible refine mulX (by mul_fits) ?_)
local macro_rules | `(tactic| walk_at "eval Constant int") => `(tactic| with_reducible refine constX ?_)
local macro_rules | `(tactic| walk_at "storeName") => `(tactic| (k_here; (try dsimp only); k_dflt (first | refine' stI (by k_asm) (by k_asm) ?_ (by rfl) (by rfl) | refine' stV (by k_asm) (by k_asm) ?_ (by rfl) (by rfl)); k_whole; intros; (try k_sweep)))
local macro_rules | `(tactic| walk_at "getAttr ref") => `(tactic| (k_here; k_dflt refine' get_ownX (by k_asm) (by k_asm) (by first | k_inst | fail) (by k_is) (by k_is) (by k_is) (by k_is) (by k_get) (by k_handed) ?_; k_whole))
section
theorem offLoop : True := by
  w_top off
  trivial
open PySem.Spec
theorem News.subs {h₀ h : Heap} {L : Addr} {a b : List (Addr × Obj)} (N : News h₀ L h b) (hs : ∀ p ∈ a, p ∈ b) : News h₀ L h a := fun p hp => N p (hs p hp)
noncomputable def isIter (o : Obj) : Bool := o.cls == .type "list_iterator" || o.cls == .type "range_iterator" || o.cls == .type "enumerate"
noncomputable def MyPost (Q : Flow → Shared → Prop) (h₀ : Heap) (L : Addr) (tl : List (Addr × Obj)) (R : (Str → Option Value) → List (Addr × Obj) → Prop) (s₁ : Shared) (f : Flow) (s₂ : Shared) : Prop :=
  match f with
  | .ret v => Q (.ret v) s₂
  | .brk => Q .next s₂
  | _ => ∃ h' tk m' W led, s₂ = { s₁ with heap := h', toks := tk } ∧ Fr h₀ L h' m' ∧ News h₀ L h' led ∧ (∀ p ∈ W ++ tl, p ∈ led) ∧ R m' W
theorem MyPost.intro {Q : Flow → Shared → Prop} {h₀ h' : Heap} {L : Addr} {tl : List (Addr × Obj)} {R : (Str → Option Value) → List (Addr × Obj) → Prop} {s₁ : Shared} {tk : Nat} {m' : Str → Option Value} {led : List (Addr × Obj)}
    (F : Fr h₀ L h' m') (N : News h₀ L h' led) (W : List (Addr × Obj)) (hs : ∀ p ∈ W ++ tl, p ∈ led) (hR : R m' W) : MyPost Q h₀ L tl R s₁ .next { s₁ with heap := h', toks := tk } :=
  ⟨h', tk, m', W, led, rfl, F, N, hs, hR⟩
theorem MyPost.introC {Q : Flow → Shared → Prop} {h₀ h' : Heap} {L : Addr} {tl : List (Addr × Obj)} {R : (Str → Option Value) → List (Addr × Obj) → Prop} {s₁ : Shared} {tk : Nat} {m' : Str → Option Value} {led : List (Addr × Obj)}
    (F : Fr h₀ L h' m') (N : News h₀ L h' led) (W : List (Addr × Obj)) (hs : ∀ p ∈ W ++ tl, p ∈ led) (hR : R m' W) : MyPost Q h₀ L tl R s₁ .cont { s₁ with heap := h', toks := tk } :=
  ⟨h', tk, m', W, led, rfl, F, N, hs, hR⟩
structure TO where
  a : Addr
  c : Int
  e : Int
  tc : Tok
  te : Tok
noncomputable def tled (ts : List TO) : List (Addr × Obj) := ts.map fun t => (t.a, tupOf [.int t.c t.tc, .int t.e t.te])
noncomputable abbrev tlist (ts : List TO) (k : Nat) : Obj := listOf (ts.map fun t => Value.ref t.a).toArray k
theorem iter_tled {ts : List TO} : ∀ p ∈ tled ts, isIter p.2 = false := fun p hp => by
  obtain ⟨t, _, rfl⟩ := List.mem_map.mp hp; rfl
section
variable {prog : Program} {w : World} {A : Around} {E : Value → Shared → Prop} {s : Shared} {env : Env} {h₀ : Heap} {target : Expr} {body : List Stmt} {Q : Flow → Shared → Prop} {m : Str → Option Value}
theorem my_turns {I : Addr} {fp wr : List Addr} {n : Nat} {P Md : Nat → Value → Heap → Prop} {St : Nat → Heap → Prop} {hp : Heap} {tk0 : Nat} (sl W0 : List (Addr × Obj)) (ds : List Addr) (R : Nat → (Str → Option Value) → List (Addr × Obj) → Prop)
    (W : KTurns prog w A target I fp wr n P Md St) (hL : env.locals ∉ fp) (hwr : ∀ b ∈ wr, h₀.get? b = none)
    (hobj : ∀ i h, St i h → ∀ b ∈ wr, ∃ o, h.get? b = some o ∧ isIter o = true)
    (hst : St 0 hp) (F : Fr h₀ env.locals hp m) (N : News h₀ env.locals hp (W0 ++ sl)) (hnw : ∀ p ∈ W0 ++ sl, p.1 ∉ wr)
    (h0 : R 0 m W0) (hds : ∀ d ∈ ds, d ∉ fp ∧ ∀ p ∈ sl, p.1 ≠ d) (noit : ∀ i m W, R i m W → ∀ p ∈ W, isIter p.2 = false)
    (turn : ∀ i v m₁ W1 h₁ tk₁ tl, i < n → P i v h₁ → R i m₁ W1 → (∀ p ∈ sl, p ∈ tl) → (∀ d ∈ ds, AllNe d tl) → Fr h₀ env.locals h₁ m₁ → News h₀ env.locals h₁ (W1 ++ tl) →
      wpAny (model prog w) A (assign target env v) (fun _ s₃ => wpAny (model prog w) A (execs body env) (MyPost Q h₀ env.locals tl (R (i + 1)) { s with heap := h₁, toks := tk₁ }) E s₃) E { s with heap := h₁, toks := tk₁ })
    (done : ∀ h' tk m' W1, R n m' W1 → Fr h₀ env.locals h' m' → News h₀ env.locals h' (W1 ++ sl) → Q .next { s with heap := h', toks := tk }) :
    TurnsAt prog w A h₀ env target body Q E (.ref I) { s with heap := hp, toks := tk0 } := by
  refine ⟨I, fp, wr, n, P, Md, St, m, W0 ++ sl, fun i m news => ∃ W1, news = W1 ++ sl ∧ R i m W1, rfl, W, hL, hwr, hnw, hst, F, N, ⟨W0, rfl, h0⟩, ?_, ?_⟩
  · rintro i v m₁ news₁ h₁ tk₁ own hi hP ⟨W1, rfl, hR⟩ hnw₁ hof hog hin hst₁ F₁ N₁
    have hfw : ∀ b ∈ wr, ∃ o, (b, o) ∈ own ∧ isIter o = true := fun b hb => by
      obtain ⟨o, ho, hi⟩ := hobj _ _ hst₁ b hb
      exact ⟨o, hin b (W.sub b hb) (hwr b hb) o ho, hi⟩
    refine wpAny_mono (turn i v m₁ W1 h₁ tk₁ (sl ++ own) hi hP hR (fun p hp => List.mem_append_left _ hp) (fun d hd => AllNe.of fun p hp => ?_) F₁ (News.subs N₁ fun p hp => ?_)) (fun _ s₃ h₃ => wpAny_mono h₃ (fun f s₄ h₄ => ?_) fun _ _ e => e) fun _ _ e => e
    · rcases List.mem_append.mp hp with hp | hp
      · exact (hds d hd).2 p hp
      · exact fun q => (hds d hd).1 (q ▸ hof p hp)
    · rcases List.mem_append.mp hp with hp | hp
      · exact List.mem_append_right _ (List.mem_append_left _ hp)
      · rcases List.mem_append.mp hp with hp | hp
        · exact List.mem_append_right _ (List.mem_append_right _ hp)
        · exact List.mem_append_left _ hp
    · have fin : (∃ h' tk m' W' led, s₄ = { ({ s with heap := h₁, toks := tk₁ } : Shared) with heap := h', toks := tk } ∧ Fr h₀ env.locals h' m' ∧ News h₀ env.locals h' led ∧ (∀ p ∈ W' ++ (sl ++ own), p ∈ led) ∧ R (i + 1) m' W') →
          LoopStepU h₀ env.locals wr own (fun m news => ∃ W1, news = W1 ++ sl ∧ R (i + 1) m W1) { s with heap := h₁, toks := tk₁ } .next s₄ := by
        rintro ⟨h', tk, m', W', led, rfl, F', N', hs, hR'⟩
        refine ⟨rfl, h', tk, m', W' ++ sl, rfl, F', News.subs N' fun p hp => hs p ?_, fun p hp hb => ?_, W', rfl, hR'⟩
        · rcases List.mem_append.mp hp with hp | hp
          · exact List.mem_append_right _ (List.mem_append_right _ hp)
          · rcases List.mem_append.mp hp with hp | hp
            · exact List.mem_append_left _ hp
            · exact List.mem_append_right _ (List.mem_append_left _ hp)
        · rcases List.mem_append.mp hp with hp | hp
          · obtain ⟨o, ho, hi⟩ := hfw _ hb
            have e1 := (N' p (hs p (List.mem_append_left _ hp))).1
            have e2 := (N' _ (hs _ (List.mem_append_right _ (List.mem_append_right _ ho)))).1
            have e3 : p.2 = o := by
              have e2' : h'.get? p.1 = some o := e2
              rw [e1] at e2'; exact Option.some.inj e2'
            have := noit _ _ _ hR' p hp
            rw [e3, hi] at this
            cases this
          · exact hnw p (List.mem_append_right _ hp) hb
      cases f with
      | ret v => exact h₄
      | brk => exact h₄
      | next => exact LoopStepV.next (fin h₄)
      | cont => exact LoopStepV.cont (fin h₄)
  · rintro h' tk m' news' F' N' _ ⟨W1, rfl, hR⟩
    exact done h' tk m' W1 hR F' N'
theorem my_list {l : Addr} {its : Array Value} {k : Nat} (sl W0 : List (Addr × Obj)) (ds : List Addr) (R : Nat → (Str → Option Value) → List (Addr × Obj) → Prop)
    (hh : A.handled = none) (F : Fr h₀ env.locals s.heap m) (N : News h₀ env.locals s.heap (W0 ++ sl)) (hl : (l, listOf its k) ∈ sl)
    (h0 : R 0 m W0) (hds : ∀ d ∈ ds, (∃ o, (d, o) ∈ W0) ∧ ∀ p ∈ sl, p.1 ≠ d) (noit : ∀ i m W, R i m W → ∀ p ∈ W, isIter p.2 = false)
    (turn : ∀ (S : Nat → (Str → Option Value) → List (Addr × Obj) → Prop), (∀ i m W, R i m W → S i m W) → ∀ i v m₁ W1 h₁ tk₁ tl, i < its.size → its[i]? = some v → R i m₁ W1 → (∀ p ∈ sl, p ∈ tl) → (∀ d ∈ ds, AllNe d tl) → Fr h₀ env.locals h₁ m₁ → News h₀ env.locals h₁ (W1 ++ tl) →
      let P' := MyPost Q h₀ env.locals tl (S (i + 1)) { s with heap := h₁, toks := tk₁ };
      wpAny (model prog w) A (assign target env v) (fun _ s₃ => wpAny (model prog w) A (execs body env) P' E s₃) E { s with heap := h₁, toks := tk₁ })
    (done : ∀ h' tk m' W1, R its.size m' W1 → Fr h₀ env.locals h' m' → News h₀ env.locals h' (W1 ++ sl) → Q .next { s with heap := h', toks := tk }) :
    wpAny (model prog w) A (pyIter (.ref l)) (fun it s₂ => TurnsAt prog w A h₀ env target body Q E it s₂) E s := by
  have hl' := N _ (List.mem_append_right _ hl)
  have hls : s.heap.IsList l its := ⟨_, hl'.1, rfl, _, rfl⟩
  have hlt : l < s.heap.objs.size := Heap.lt_size hl'.1
  have hLlt : env.locals < s.heap.objs.size := F.ns.lt
  refine wpAny_pyIter_list hls ?_
  refine my_turns (s := s) (tk0 := s.toks) sl W0 ds R (KTurns.ofWalks (Walks.list hh s.heap.objs.size l (Nat.ne_of_lt hlt) its) fun i v s' Q' E' st hq => letGo_listiter st.1 hq) (fun hm => ?_) (fun b hb => ?_)
    (fun i h st b hb => ?_) ⟨⟨_, Heap.get?_push_size _ rfl, rfl, rfl⟩, hls.push _⟩ (F.push _) (fun p hp => ⟨Heap.get?_push_of_some _ (N p hp).1, (N p hp).2⟩) (fun p hp hI => ?_) h0 (fun d hd => ⟨fun hm => ?_, (hds d hd).2⟩) noit (turn R fun _ _ _ h => h) done
  · rcases List.mem_cons.mp hm with e | hm
    · exact absurd hLlt (e ▸ Nat.lt_irrefl _)
    · exact absurd (List.mem_singleton.mp hm).symm hl'.2.1
  · rw [List.mem_singleton.mp hb]; exact next_is_new F
  · obtain ⟨⟨o, e, hc, _⟩, _⟩ := st
    rw [List.mem_singleton.mp hb]
    exact ⟨o, e, by simp [isIter, hc]⟩
  · exact absurd (Heap.lt_size (N p hp).1) ((List.mem_singleton.mp hI) ▸ Nat.lt_irrefl _)
  · obtain ⟨⟨o, ho⟩, hs⟩ := hds d hd
    rcases List.mem_cons.mp hm with e | hm
    · exact absurd (Heap.lt_size (N _ (List.mem_append_left _ ho)).1) (e ▸ Nat.lt_irrefl _)
    · exact hs _ hl (List.mem_singleton.mp hm).symm
theorem my_range {r : Addr} {a₀ b₀ : Int} {t₀ u₀ v₀ : Tok} {n : Nat} (sl W0 : List (Addr × Obj)) (ds : List Addr) (R : Nat → (Str → Option Value) → List (Addr × Obj) → Prop)
    (hh : A.handled = none) (F : Fr h₀ env.locals s.heap m) (N : News h₀ env.locals s.heap (W0 ++ sl)) (hr : IsRange s.heap r a₀ b₀ 1 t₀ u₀ v₀) (hsmall : Builtin.Range.small a₀ b₀ 1 = true) (hn : Builtin.Range.rangeSize a₀ b₀ 1 = (n : Int))
    (hgo : ∀ v, letOwnedTupleGo target (.ref s.heap.objs.size) v = pure ())
    (h0 : R 0 m W0) (hds : ∀ d ∈ ds, (∃ o, (d, o) ∈ W0) ∧ ∀ p ∈ sl, p.1 ≠ d) (noit : ∀ i m W, R i m W → ∀ p ∈ W, isIter p.2 = false)
    (turn : ∀ (S : Nat → (Str → Option Value) → List (Addr × Obj) → Prop), (∀ i m W, R i m W → S i m W) → ∀ (i : Nat) t m₁ W1 h₁ tk₁ tl, i < n → R i m₁ W1 → (∀ p ∈ sl, p ∈ tl) → (∀ d ∈ ds, AllNe d tl) → Fr h₀ env.locals h₁ m₁ → News h₀ env.locals h₁ (W1 ++ tl) →
      let P' := MyPost Q h₀ env.locals tl (S (i + 1)) { s with heap := h₁, toks := tk₁ };
      wpAny (model prog w) A (assign target env (.int (a₀ + (i : Int)) t)) (fun _ s₃ => wpAny (model prog w) A (execs body env) P' E s₃) E { s with heap := h₁, toks := tk₁ })
    (done : ∀ h' tk m' W1, R n m' W1 → Fr h₀ env.locals h' m' → News h₀ env.locals h' (W1 ++ sl) → Q .next { s with heap := h', toks := tk }) :
    wpAny (model prog w) A (pyIter (.ref r)) (fun it s₂ => TurnsAt prog w A h₀ env target body Q E it s₂) E s := by
  have hLlt : env.locals < s.heap.objs.size := F.ns.lt
  refine wpAny_pyIter_range hr hsmall ?_
  refine my_turns (s := s) (tk0 := s.toks) (P := fun i v _ => ∃ t, v = .int (a₀ + i * 1) t) (St := fun i h => IsRangeIter h s.heap.objs.size (a₀ + (i : Nat) * 1) ((n : Int) - (i : Nat)) 1) sl W0 ds R (KTurns.ofWalks (Walks.range hh s.heap.objs.size a₀ 1 n) fun i v s' Q' E' st hq => wpAny_of_eq (hgo v) hq) (fun hm => ?_) (fun b hb => ?_)
    (fun i h st b hb => ?_) (by show IsRangeIter _ _ _ _ _; rw [hn]; simpa using Heap.get?_push_size _ rfl) (F.push _) (fun p hp => ⟨Heap.get?_push_of_some _ (N p hp).1, (N p hp).2⟩) (fun p hp hI => ?_) h0 (fun d hd => ⟨fun hm => ?_, (hds d hd).2⟩) noit ?_ done
  · exact absurd hLlt ((List.mem_singleton.mp hm) ▸ Nat.lt_irrefl _)
  · rw [List.mem_singleton.mp hb]; exact next_is_new F
  · rw [List.mem_singleton.mp hb]
    exact ⟨_, st, by rfl⟩
  · exact absurd (Heap.lt_size (N p hp).1) ((List.mem_singleton.mp hI) ▸ Nat.lt_irrefl _)
  · obtain ⟨⟨o, ho⟩, hs⟩ := hds d hd
    exact absurd (Heap.lt_size (N _ (List.mem_append_left _ ho)).1) ((List.mem_singleton.mp hm) ▸ Nat.lt_irrefl _)
  · rintro i v m₁ W1 h₁ tk₁ tl hi ⟨t, rfl⟩ hR a b F₁ N₁
    rw [Int.mul_one]
    exact turn R (fun _ _ _ h => h) i t m₁ W1 h₁ tk₁ tl hi hR a b F₁ N₁

theorem my_enum {elts : List Expr} {kk : Nat} {pos : Pos} {l : Addr} {its : Array Value} {k : Nat} (sl W0 : List (Addr × Obj)) (ds : List Addr) (R : Nat → (Str → Option Value) → List (Addr × Obj) → Prop)
    (hh : A.handled = none) (F : Fr h₀ env.locals s.heap m) (N : News h₀ env.locals s.heap (W0 ++ sl)) (hl : (l, listOf its k) ∈ sl)
    (h0 : R 0 m W0) (hds : ∀ d ∈ ds, (∃ o, (d, o) ∈ W0) ∧ ∀ p ∈ sl, p.1 ≠ d) (noit : ∀ i m W, R i m W → ∀ p ∈ W, isIter p.2 = false)
    (turn : ∀ (S : Nat → (Str → Option Value) → List (Addr × Obj) → Prop), (∀ i m W, R i m W → S i m W) → ∀ (i : Nat) v t T m₁ W1 h₁ tk₁ tl, i < its.size → its[i]? = some v → IsTup h₁ T #[.int (i : Int) t, v] → R i m₁ W1 → (∀ p ∈ sl, p ∈ tl) → (∀ d ∈ ds, AllNe d tl) → Fr h₀ env.locals h₁ m₁ → News h₀ env.locals h₁ (W1 ++ tl) →
      let P' := MyPost Q h₀ env.locals tl (S (i + 1)) { s with heap := h₁, toks := tk₁ };
      wpAny (model prog w) A (assign (.Tuple elts kk pos) env (.ref T)) (fun _ s₃ => wpAny (model prog w) A (execs body env) P' E s₃) E { s with heap := h₁, toks := tk₁ })
    (done : ∀ h' tk m' W1, R its.size m' W1 → Fr h₀ env.locals h' m' → News h₀ env.locals h' (W1 ++ sl) → Q .next { s with heap := h', toks := tk }) :
    wpAny (model prog w) A (call (.type "enumerate") [.ref l]) (fun xv s₁ => wpAny (model prog w) A (pyIter xv) (fun it s₂ => TurnsAt prog w A h₀ env (.Tuple elts kk pos) body Q E it s₂) E s₁) E s := by
  have hax := N _ (List.mem_append_right _ hl)
  have hls : s.heap.IsList l its := ⟨_, hax.1, rfl, _, rfl⟩
  have hlt : l < s.heap.objs.size := Heap.lt_size hax.1
  have hLs : env.locals < s.heap.objs.size := F.ns.lt
  refine call_enumerate_list hls fun h' hE hI hsz hk => ?_
  refine wpAny_pyIter_enum hE ?_
  refine my_turns (s := s) (tk0 := s.toks) sl W0 ds R (KTurns.ofWalksU (WalksT.enumerate hh (s.heap.objs.size + 1) s.heap.objs.size l (Nat.succ_ne_self _) (ktu_ne 1 hlt) (Nat.ne_of_lt hlt) its).toU) (fun hI' => ?_) (fun b hb => ?_) (fun i h st b hb => ?_) ⟨⟨.none, hE⟩, hI, hls.at fun o e => hk l o e⟩ (F.keeps hk) (N.grown hk)
    (fun p hp hI' => ?_) h0 (fun d hd => ⟨fun hI' => ?_, (hds d hd).2⟩) noit ?_ done
  · have hb' : env.locals = s.heap.objs.size + 1 ∨ env.locals = s.heap.objs.size ∨ env.locals = l := by simpa using hI'
    rcases hb' with e | e | e
    · exact ktu_ne 1 hLs e
    · exact Nat.ne_of_lt hLs e
    · exact hax.2.1 e.symm
  · have hb' : b = s.heap.objs.size + 1 ∨ b = s.heap.objs.size := by simpa using hb
    rcases hb' with rfl | rfl
    · exact ktu_new F (Nat.le_add_right _ _)
    · exact ktu_new F (Nat.le_refl _)
  · obtain ⟨⟨old, he⟩, ⟨oi, hoi, hic, _⟩, _⟩ := st
    have hb' : b = s.heap.objs.size + 1 ∨ b = s.heap.objs.size := by simpa using hb
    rcases hb' with rfl | rfl
    · exact ⟨_, he, rfl⟩
    · exact ⟨oi, hoi, by simp [isIter, hic]⟩
  · have hb' : p.1 = s.heap.objs.size + 1 ∨ p.1 = s.heap.objs.size := by simpa using hI'
    have hlp := Heap.lt_size (N p hp).1
    rcases hb' with e | e
    · exact ktu_ne 1 hlp e
    · exact Nat.ne_of_lt hlp e
  · obtain ⟨⟨o, ho⟩, hs⟩ := hds d hd
    have hlp := Heap.lt_size (N _ (List.mem_append_left _ ho)).1
    have hb' : d = s.heap.objs.size + 1 ∨ d = s.heap.objs.size ∨ d = l := by simpa using hI'
    rcases hb' with e | e | e
    · exact ktu_ne 1 hlp e
    · exact Nat.ne_of_lt hlp e
    · exact hs _ hl e.symm
  · rintro i v m₁ W1 h₁ tk₁ tl hi ⟨T, vals, rfl, ⟨t, x, hx, rfl⟩, hT⟩ hR a b F₁ N₁
    exact turn R (fun _ _ _ h => h) i x t T m₁ W1 h₁ tk₁ tl hi hx hT hR a b F₁ N₁
end

section
variable {prog : Program} {w : World} {A : Around} {E : Value → Shared → Prop} {s : Shared} {h₀ : Heap} {L l : Addr} {news : List (Addr × Obj)} {α : Type} {xs : List α} {f : α → Value} {k : Nat}
theorem my_len {Q : Value → Shared → Prop} (N : News h₀ L s.heap news) (hm : (l, listOf (xs.map f).toArray k) ∈ news) (hz : xs.length ≤ 4000) (h : Q (.int (xs.length : Int) (s.toks + 1)) { s with toks := s.toks + 1 + 1 }) :
    wpAny (model prog w) A (call (.builtin "len") [.ref l]) Q E s :=
  kun_lenL (k := (xs.length : Int)) ⟨_, (N _ hm).1, rfl, _, rfl⟩ (by simp) (by omega) h
theorem my_item {value slice : PySem.Expr} {i : Int} {u : Tok} {x : α} {Q : Value → Shared → Prop} (N : News h₀ L s.heap news) (hm : (l, listOf (xs.map f).toArray k) ∈ news) (h0 : 0 ≤ i) (hhi : i < 2 ^ 63) (hx : xs[i.toNat]? = some x) (h : Q (f x) s)
    (hs : subscripted slice false (.ref l) (.int i u) = operate [.ref l, .int i u] (getItem (.ref l) (.int i u)) := by with_unfolding_all rfl) :
    wpAny (model prog w) A (subscriptTail value slice (.ref l) (.int i u)) Q E s := by
  have hl : s.heap.IsList l (xs.map f).toArray := ⟨_, (N _ hm).1, rfl, _, rfl⟩
  exact tail_any hl.typeIs slot_list_getitem.lookup (wpAny_getItem_list hl h0 hhi (by simp [hx]) h) hs
end
theorem push_post {Q : Flow → Shared → Prop} {h₀ h' : Heap} {L : Addr} {tl : List (Addr × Obj)} {R : (Str → Option Value) → List (Addr × Obj) → Prop} {s₁ : Shared} {tk : Nat} {m' : Str → Option Value} {led : List (Addr × Obj)} {tos : List TO} {a : Addr} {c e : Int} {tc te : Tok} {k' : Nat} (f : Addr)
    (F : Fr h₀ L h' m') (N : News h₀ L h' led) (hf : (f, listOf ((tos.map fun t => Value.ref t.a).toArray.push (.ref a)) k') ∈ led) (ha : (a, tupOf [.int c tc, .int e te]) ∈ led) (hs : ∀ p ∈ tled tos ++ tl, p ∈ led) (hne : AllNe f (tled tos)) (hna : @Ne Nat a f)
    (hR : ∀ tos', tos' = tos ++ [⟨a, c, e, tc, te⟩] → AllNe f (tled tos') → R m' ((f, tlist tos' k') :: tled tos')) : MyPost Q h₀ L tl R s₁ .next { s₁ with heap := h', toks := tk } := by
  refine MyPost.intro F N _ (fun p hp => ?_) (hR _ rfl (.of fun p hp => ?_))
  · rcases List.mem_append.mp hp with hp | hp
    · rcases List.mem_cons.mp hp with rfl | hp
      · have : listOf ((tos.map fun t => Value.ref t.a).toArray.push (.ref a)) k' = tlist (tos ++ [⟨a, c, e, tc, te⟩]) k' := by simp [tlist]
        rw [← this]; exact hf
      · simp only [tled, List.map_append, List.map_cons, List.map_nil, List.mem_append, List.mem_singleton] at hp
        rcases hp with hp | rfl
        · exact hs p (List.mem_append_left _ hp)
        · exact ha
    · exact hs p (List.mem_append_right _ hp)
  · simp only [tled, List.map_append, List.map_cons, List.map_nil, List.mem_append, List.mem_singleton] at hp
    rcases hp with hp | rfl
    · exact hne.mem p hp
    · exact hna
theorem keep_post {Q : Flow → Shared → Prop} {h₀ h' : Heap} {L : Addr} {tl W : List (Addr × Obj)} {R : (Str → Option Value) → List (Addr × Obj) → Prop} {s₁ : Shared} {tk : Nat} {m' : Str → Option Value} {led : List (Addr × Obj)}
    (F : Fr h₀ L h' m') (N : News h₀ L h' led) (hs : ∀ p ∈ W ++ tl, p ∈ led) (hR : R m' W) : MyPost Q h₀ L tl R s₁ .next { s₁ with heap := h', toks := tk } := MyPost.intro F N W hs hR
theorem sub_cons {a b : List (Addr × Obj)} {p : Addr × Obj} (h : ∀ q ∈ a, q ∈ b) : ∀ q ∈ a, q ∈ p :: b := fun q hq => .tail _ (h q hq)

structure PT where
  a : Addr
  x : Int
  y : Int
  tx : Tok
  ty : Tok
noncomputable def pled (ps : List PT) : List (Addr × Obj) := ps.map fun p => (p.a, tupOf [.int p.x p.tx, .int p.y p.ty])
noncomputable abbrev ptup (ps : List PT) (k : Nat) : Obj := { cls := .type "tuple", data := .seq (ps.map fun p => Value.ref p.a).toArray k }
section
variable {prog : Program} {w : World} {A : Around} {E : Value → Shared → Prop} {s : Shared} {h₀ : Heap} {L l : Addr} {news : List (Addr × Obj)} {ps : List PT} {k : Nat}
theorem my_lenT {Q : Value → Shared → Prop} (N : News h₀ L s.heap news) (hm : (l, ptup ps k) ∈ news) (hz : ps.length ≤ 4000) (h : Q (.int (ps.length : Int) (s.toks + 1)) { s with toks := s.toks + 1 + 1 }) :
    wpAny (model prog w) A (call (.builtin "len") [.ref l]) Q E s :=
  kun_lenT (k := (ps.length : Int)) (items := (ps.map fun p => Value.ref p.a).toArray) ⟨_, (N _ hm).1, rfl, _, rfl⟩ (by simp) (by omega) h
end

section
variable {prog : Program} {w : World} {A : Around} {E : Value → Shared → Prop} {s : Shared} {h₀ : Heap} {L l : Addr} {news : List (Addr × Obj)} {ps : List PT} {k : Nat}
theorem my_itemT {value slice : PySem.Expr} {i : Int} {j : Nat} {u : Tok} {p : PT} {Q : Value → Shared → Prop} (N : News h₀ L s.heap news) (hm : (l, ptup ps k) ∈ news) (h0 : -1000 ≤ i) (h1 : i ≤ 1000) (hj : seqIndex? i ps.length = some j) (hx : ps[j]? = some p) (h : Q (.ref p.a) s)
    (hs : subscripted slice false (.ref l) (.int i u) = operate [.ref l, .int i u] (getItem (.ref l) (.int i u)) := by with_unfolding_all rfl) :
    wpAny (model prog w) A (subscriptTail value slice (.ref l) (.int i u)) Q E s :=
  item_tupleT (l := ps.map fun p => Value.ref p.a) ⟨_, (N _ hm).1, rfl, _, rfl⟩ (by omega) (by omega) (by rw [List.length_map]; exact hj) (by rw [List.getElem?_map, hx]; rfl) h hs
end

theorem my_while {prog : Program} {w : World} {A : Around} {E : Value → Shared → Prop} {s : Shared} {env : Env} {h₀ : Heap} {L : Addr} {Q : Flow → Shared → Prop} {test : Expr} {body : List Stmt} {pos : Pos} {m : Str → Option Value} {news : List (Addr × Obj)} (J : Nat → (Str → Option Value) → List (Addr × Obj) → Prop) {n₀ : Nat}
    (F : Fr h₀ L s.heap m) (N : News h₀ L s.heap news) (hJ : J n₀ m news)
    (turn : ∀ n m₁ news₁ h₁ tk₁, Fr h₀ L h₁ m₁ → News h₀ L h₁ news₁ → J n m₁ news₁ →
      let P' := WhileStep h₀ L s J n; let Q' := Q;
      wpAny (model prog w) A (isTrue test env (eval test env)) (fun b s₂ =>
        if b = true then wpAny (model prog w) A (execs body env) P' E s₂ else Q' .next s₂) E { s with heap := h₁, toks := tk₁ })
    (hE : PassesOwn (model prog w) A env E := by passes_own) :
    wpAny (model prog w) A (exec (.While test body [] pos) env) Q E s := While_inv J F N hJ turn hE
noncomputable abbrev clist (cv : List (Int × Tok)) (k : Nat) : Obj := listOf (cv.map fun c => Value.int c.1 c.2).toArray k
section
variable {prog : Program} {w : World} {A : Around} {E : Value → Shared → Prop} {s : Shared} {h₀ : Heap} {L D : Addr} {m : Str → Option Value} {news news' : List (Addr × Obj)} {cv : List (Int × Tok)} {n : Nat} {k x : Int} {t u : Tok}
theorem ints_map : ∀ cv : List (Int × Tok), IntsAre (cv.map fun c => Value.int c.1 c.2) (cv.map (·.1))
  | [] => .nil
  | c :: r => .cons c.1 c.2 (ints_map r)
theorem my_set {Q : Unit → Shared → Prop} (F : Fr h₀ L s.heap m) (N : News h₀ L s.heap news) (U : Upd D (clist cv n) (clist (cv.set k.toNat (x, u)) n) news news') (h0 : 0 ≤ k) (h1 : k < (cv.length : Int)) (hfit : k < 2 ^ 63)
    (h : ∀ h', Fr h₀ L h' m → News h₀ L h' news' → Q () { s with heap := h' }) : wpAny (model prog w) A (setItem (.ref D) (.int k t) (.int x u)) Q E s := by
  have e : ((cv.set k.toNat (x, u)).map fun c => Value.int c.1 c.2) = (cv.map fun c => Value.int c.1 c.2).set k.toNat (.int x u) := by rw [List.map_set]
  have U' : Upd D (listOf (cv.map fun c => Value.int c.1 c.2).toArray n) (listOf ((cv.map fun c => Value.int c.1 c.2).set k.toNat (.int x u)).toArray n) news news' := e ▸ U
  exact ksa_set F N U' (ints_map cv) h0 (by simpa using h1) hfit fun h' F' N' _ _ _ => h h' F' N'
end
section
variable {prog : Program} {w : World} {A : Around} {E : Value → Shared → Prop} {s : Shared} {h₀ : Heap} {L l : Addr} {m : Str → Option Value} {news : List (Addr × Obj)} {c x : Int} {t u : Tok} {Q : Value → Shared → Prop}
theorem my_mul (Fm : Fr h₀ L s.heap m) (N : News h₀ L s.heap news) (hl : s.heap.IsList l [Value.int c t].toArray) (hx : 0 ≤ x ∧ x ≤ 256)
    (h : ∀ D h', Fr h₀ L h' m → News h₀ L h' ((D, listOf ((List.replicate x.toNat ((c, t) : Int × Tok)).map fun c => Value.int c.1 c.2).toArray 0) :: news) → (∀ p ∈ news, p.1 < D) → Q (.ref D) { s with heap := h' }) :
    wpAny (model prog w) A (binaryOp .Mult (.ref l) (.int x u)) Q E s :=
  KMa.mul Fm N hl (by omega) (by omega) (by simp only [List.length_cons, List.length_nil]; omega) (rep_eq _ _ _) h
end
end
section
theorem offTSort : True := by
  w_top off
  trivial
theorem getD_in {α : Type} (l : List α) (d : α) {i : Nat} (h : i < l.length) : l.getD i d = l[i] := by simp [List.getD, h]
noncomputable def KTrun {α : Type} (lt : Nat → Nat → Bool) : KasT α → α
  | .ret a => a
  | .ask i j k => KTrun lt (k (lt i j))
noncomputable def KTgood {α : Type} (n : Nat) (lt : Nat → Nat → Bool) : KasT α → Bool
  | .ret _ => true
  | .ask i j k => decide (i < n) && decide (j < n) && KTgood n lt (k (lt i j))
theorem run_wp {α : Type} {n : Nat} {lt : Nat → Nat → Bool} {cmp : Nat → Nat → (Bool → Shared → Prop) → Shared → Prop} {Q : α → Shared → Prop} {s : Shared} (hc : ∀ i j (C : Bool → Shared → Prop), i < n → j < n → C (lt i j) s → cmp i j C s) :
    ∀ (t : KasT α), KTgood n lt t = true → Q (KTrun lt t) s → t.kasWp cmp Q s
  | .ret _, _, h => h
  | .ask i j k, hg, h => by
    simp only [KTgood, Bool.and_eq_true, decide_eq_true_eq] at hg
    exact hc i j _ hg.1.1 hg.1.2 (run_wp hc (k (lt i j)) hg.2 h)
theorem good_congr {α : Type} {n : Nat} {lt lt' : Nat → Nat → Bool} (e : ∀ i j, i < n → j < n → lt i j = lt' i j) : ∀ (t : KasT α), KTgood n lt t = true → KTgood n lt' t = true ∧ KTrun lt' t = KTrun lt t
  | .ret _, _ => ⟨rfl, rfl⟩
  | .ask i j k, hg => by
    simp only [KTgood, Bool.and_eq_true, decide_eq_true_eq] at hg
    have := good_congr e (k (lt i j)) hg.2
    simp only [KTgood, KTrun, Bool.and_eq_true, decide_eq_true_eq, ← e i j hg.1.1 hg.1.2]
    exact ⟨⟨hg.1, this.1⟩, this.2⟩
noncomputable def ranks (n : Nat) : Nat → List (List Nat)
  | 0 => [[]]
  | k + 1 => (ranks n k).flatMap fun r => (List.range n).map fun a => a :: r
theorem mem_ranks {n : Nat} : ∀ (k : Nat) (r : List Nat), r.length = k → (∀ a ∈ r, a < n) → r ∈ ranks n k
  | 0, r, h, _ => by rw [List.length_eq_zero_iff.mp h]; exact .head _
  | k + 1, [], h, _ => by simp at h
  | k + 1, a :: r, h, hl => by
    simp only [ranks, List.mem_flatMap, List.mem_map, List.mem_range]
    exact ⟨r, mem_ranks k r (by simpa using h) (fun x hx => hl x (.tail _ hx)), a, hl a (.head _), rfl⟩
noncomputable def sortedBy (r : List Nat) : List Nat → Bool
  | [] => true
  | i :: p => p.all (fun j => decide (r.getD i 0 ≤ r.getD j 0)) && sortedBy r p
noncomputable def sortOk (n : Nat) (r : List Nat) : Bool :=
  let lt := fun i j => decide (r.getD i 0 < r.getD j 0)
  KTgood n lt (kas_sort n) && (KTrun lt (kas_sort n)).toList.isPerm (List.range n) && sortedBy r (KTrun lt (kas_sort n)).toList
theorem sort2 : (ranks 2 2).all (sortOk 2) = true := by decide +kernel
theorem sort3 : (ranks 3 3).all (sortOk 3) = true := by decide +kernel
theorem sort4 : (ranks 4 4).all (sortOk 4) = true := by decide +kernel
theorem sort_all {n : Nat} (h2 : 2 ≤ n) (h4 : n ≤ 4) (r : List Nat) (hr : r.length = n) (hb : ∀ a ∈ r, a < n) : sortOk n r = true := by
  have hm := mem_ranks n r hr hb
  have : n = 2 ∨ n = 3 ∨ n = 4 := by omega
  rcases this with rfl | rfl | rfl
  · exact List.all_eq_true.mp sort2 r hm
  · exact List.all_eq_true.mp sort3 r hm
  · exact List.all_eq_true.mp sort4 r hm
noncomputable def ltT (a b : TO) : Bool := if a.c = b.c then decide (a.e < b.e) else decide (a.c < b.c)
theorem ltT_irrefl (a : TO) : ltT a a = false := by simp [ltT]
theorem ltT_trans {a b c : TO} (h : ltT a b = true) (h' : ltT b c = true) : ltT a c = true := by
  simp only [ltT] at *
  split at h <;> split at h' <;> split <;> simp only [decide_eq_true_eq] at * <;> omega
theorem ltT_not {a b x : TO} (h : ltT a b = false) (h' : ltT x b = true) : ltT x a = true := by
  simp only [ltT] at *
  split at h <;> split at h' <;> split <;> simp only [decide_eq_true_eq, decide_eq_false_iff_not] at * <;> omega
noncomputable def rk (ts : List TO) (t : TO) : Nat := ts.countP fun x => ltT x t
theorem rk_lt {ts : List TO} {a b : TO} (ha : a ∈ ts) : (ltT a b = true) ↔ rk ts a < rk ts b := by
  constructor
  · intro h
    unfold rk
    obtain ⟨l1, l2, rfl⟩ := List.append_of_mem ha
    have m1 : ∀ l : List TO, l.countP (fun x => ltT x a) ≤ l.countP (fun x => ltT x b) := fun l => List.countP_mono_left fun x _ hx => ltT_trans hx h
    simp only [List.countP_append, List.countP_cons, ltT_irrefl, h]
    have := m1 l1; have := m1 l2
    simp; omega
  · intro h
    cases q : ltT a b with
    | true => rfl
    | false =>
      have : rk ts b ≤ rk ts a := List.countP_mono_left fun x _ hx => ltT_not q hx
      omega
theorem rk_small {ts : List TO} {a : TO} (ha : a ∈ ts) : rk ts a < ts.length := by
  unfold rk
  obtain ⟨l1, l2, rfl⟩ := List.append_of_mem ha
  have h1 := List.countP_le_length (p := fun x => ltT x a) (l := l1)
  have h2 := List.countP_le_length (p := fun x => ltT x a) (l := l2)
  simp only [List.countP_append, List.countP_cons, ltT_irrefl, List.length_append, List.length_cons]
  simp; omega
theorem sorted_pair {r : List Nat} : ∀ {p : List Nat}, sortedBy r p = true → p.Pairwise fun i j => r.getD i 0 ≤ r.getD j 0
  | [], _ => .nil
  | i :: p, h => by
    simp only [sortedBy, Bool.and_eq_true, List.all_eq_true, decide_eq_true_eq] at h
    exact .cons h.1 (sorted_pair h.2)
theorem range_getD (ts : List TO) (d : TO) : (List.range ts.length).map (fun i => ts.getD i d) = ts := by
  apply List.ext_getElem
  · simp
  · intro i h1 h2
    simp [h2]
theorem pure_sort {ts : List TO} (h2 : 2 ≤ ts.length) (h4 : ts.length ≤ 4) (d : TO) :
    KTgood ts.length (fun i j => ltT (ts.getD i d) (ts.getD j d)) (kas_sort ts.length) = true ∧
    (∀ i ∈ (KTrun (fun i j => ltT (ts.getD i d) (ts.getD j d)) (kas_sort ts.length)).toList, i < ts.length) ∧
    ((KTrun (fun i j => ltT (ts.getD i d) (ts.getD j d)) (kas_sort ts.length)).toList.map fun i => ts.getD i d).Perm ts ∧
    ((KTrun (fun i j => ltT (ts.getD i d) (ts.getD j d)) (kas_sort ts.length)).toList.map fun i => ts.getD i d).Pairwise fun a b => a.c ≤ b.c := by
  have hok := sort_all h2 h4 (ts.map (rk ts)) (by simp) (fun a ha => by obtain ⟨t, ht, rfl⟩ := List.mem_map.mp ha; exact rk_small ht)
  simp only [sortOk, Bool.and_eq_true] at hok
  have hin : ∀ i, i < ts.length → ts.getD i d ∈ ts := fun i hi => by
    rw [getD_in _ _ hi]; exact List.getElem_mem hi
  have hget : ∀ i, i < ts.length → (ts.map (rk ts)).getD i 0 = rk ts (ts.getD i d) := fun i hi => by
    rw [getD_in _ _ hi, getD_in _ _ (by simpa using hi), List.getElem_map]
  have e : ∀ i j, i < ts.length → j < ts.length → decide ((ts.map (rk ts)).getD i 0 < (ts.map (rk ts)).getD j 0) = ltT (ts.getD i d) (ts.getD j d) := fun i j hi hj => by
    rw [hget i hi, hget j hj]
    by_cases q : ltT (ts.getD i d) (ts.getD j d) = true
    · rw [q, decide_eq_true_eq]; exact (rk_lt (hin i hi)).mp q
    · rw [Bool.not_eq_true] at q
      rw [q, decide_eq_false_iff_not]
      intro hh
      rw [(rk_lt (hin i hi)).mpr hh] at q; cases q
  obtain ⟨hg, hrun⟩ := good_congr (lt' := fun i j => ltT (ts.getD i d) (ts.getD j d)) e (kas_sort ts.length) hok.1.1
  rw [hrun]
  have hperm := List.isPerm_iff.mp hok.1.2
  have hmem : ∀ i ∈ (KTrun (fun i j => decide ((ts.map (rk ts)).getD i 0 < (ts.map (rk ts)).getD j 0)) (kas_sort ts.length)).toList, i < ts.length := fun i hi => List.mem_range.mp (hperm.mem_iff.mp hi)
  refine ⟨hg, hmem, ?_, ?_⟩
  · have := hperm.map fun i => ts.getD i d
    rwa [range_getD] at this
  · refine List.pairwise_map.mpr ((sorted_pair hok.2).imp_of_mem fun {a b} ha hb hab => ?_)
    rw [hget _ (hmem _ ha), hget _ (hmem _ hb)] at hab
    have : ¬ ltT (ts.getD b d) (ts.getD a d) = true := fun q => by
      have := (rk_lt (hin _ (hmem _ hb))).mp q
      omega
    simp only [ltT] at this
    split at this <;> simp only [decide_eq_true_eq] at this <;> omega
section
variable {prog : Program} {w : World} {A : Around} {E : Value → Shared → Prop} {s : Shared} {h₀ : Heap} {L : Addr} {m : Str → Option Value} {news : List (Addr × Obj)}
theorem tups_of {h : Heap} : ∀ {ts : List TO}, (∀ p ∈ tled ts, h.get? p.1 = some p.2) → KatTups h (ts.map fun t => Value.ref t.a) (ts.map fun t => Value.int t.c t.tc)
  | [], _ => .nil
  | t :: r, hn => KatTups.cons (hn _ (.head _)) rfl rfl rfl (tups_of fun p hp => hn p (.tail _ hp))
theorem tup_lt {ts : List TO} {i j : Nat} {C : Bool → Shared → Prop} (d : TO) (hn : ∀ p ∈ tled ts, s.heap.get? p.1 = some p.2) (hi : i < ts.length) (hj : j < ts.length) (h : C (ltT (ts.getD i d) (ts.getD j d)) s) :
    kas_ask prog w A (tuples' true) (ts.map fun t => Value.ref t.a) i j C s := by
  unfold kas_ask
  have g : ∀ i, i < ts.length → (ts.map fun t => Value.ref t.a).getD i Value.none = .ref (ts.getD i d).a ∧ s.heap.get? (ts.getD i d).a = some (tupOf [.int (ts.getD i d).c (ts.getD i d).tc, .int (ts.getD i d).e (ts.getD i d).te]) := fun i hi => by
    rw [getD_in _ _ hi, getD_in _ _ (by simpa using hi), List.getElem_map]
    exact ⟨rfl, hn _ (List.mem_map_of_mem (List.getElem_mem hi))⟩
  obtain ⟨e1, e2⟩ := g i hi
  obtain ⟨e3, e4⟩ := g j hj
  rw [e1, e3]
  refine kat_lt e2 rfl e4 rfl ?_
  revert h
  generalize ts.getD i d = a
  generalize ts.getD j d = b
  intro h
  refine kat_cons (wpAny_eqBool_int ?_)
  by_cases hc : a.c = b.c
  · rw [show (a.c == b.c) = true by simpa using hc]
    refine kat_yes (kat_cons (wpAny_eqBool_int ?_))
    by_cases he : a.e = b.e
    · rw [show (a.e == b.e) = true by simpa using he]
      refine kat_yes (kat_nil ?_)
      have : ltT a b = false := by simp [ltT, hc, he]
      rw [this] at h
      exact h
    · rw [show (a.e == b.e) = false by simpa using he]
      refine kat_no (kat_one _ _ (lt_int ?_))
      have : ltT a b = decide (a.e < b.e) := by simp [ltT, hc]
      rw [this] at h
      exact h
  · rw [show (a.c == b.c) = false by simpa using hc]
    refine kat_no (oneLt_int ?_)
    have : ltT a b = decide (a.c < b.c) := by simp [ltT, hc]
    rw [this] at h
    exact h
theorem tup_sorted {ts : List TO} {f : Addr} {k : Nat} {Q : Value → Shared → Prop} (F : Fr h₀ L s.heap m) (N : News h₀ L s.heap news) (hf : (f, tlist ts k) ∈ news) (hts : ∀ p ∈ tled ts, p ∈ news) (h2 : ts = [] ∨ 2 ≤ ts.length) (h4 : ts.length ≤ 4)
    (h : ∀ D k' h' ts', Fr h₀ L h' m → News h₀ L h' ((D, tlist ts' k') :: news) → (∀ q ∈ news, q.1 < D) → ts'.Perm ts → ts'.Pairwise (fun a b => a.c ≤ b.c) → Q (.ref D) { s with heap := h' }) :
    wpAny (model prog w) A (call (.builtin "sorted") [.ref f]) Q E s := by
  have hl : s.heap.IsList f (ts.map fun t => Value.ref t.a).toArray := ⟨_, (N _ hf).1, rfl, _, rfl⟩
  rcases h2 with rfl | h2
  · refine kso_sorted (ns := []) F N hl .nil (by decide) fun D vs' ns' c h' F' N' hlt hi hlen hp _ _ => ?_
    have hv : vs' = [] := by
      have := IntsAre.length hi
      have h0 : ns'.length = 0 := hlen
      exact List.length_eq_zero_iff.mp (by omega)
    subst hv
    exact h D c h' [] F' N' hlt (.refl _) .nil
  · have d : TO := ⟨f, 0, 0, 0, 0⟩
    refine kat_sorted F N hl (by simpa using h2) (by simp; omega) fun D e1 h' F' N' hlt => ?_
    have hn : ∀ p ∈ tled ts, h'.get? p.1 = some p.2 := fun p hp => (N' p (.tail _ (hts p hp))).1
    have hfs : 0 < (ts.map fun t => Value.int t.c t.tc).length := by simp; omega
    refine kat_kind (T := .type "int") (tups_of hn) hfs (fun v hv => ?_) rfl ?_
    · obtain ⟨t, _, rfl⟩ := List.mem_map.mp hv
      exact Looks.of_pure rfl
    · obtain ⟨hg, hin, hp, hs⟩ := pure_sort h2 h4 d
      rw [List.length_map]
      refine run_wp (n := ts.length) (lt := fun i j => ltT (ts.getD i d) (ts.getD j d)) (fun i j C hi hj hc => tup_lt d hn hi hj hc) _ hg ?_
      refine KasFin.intro (g := fun o => (D, o) :: news) F' N' (UpdF.head fun p hp => Nat.ne_of_lt (hlt p hp)) fun h'' c F'' N'' => ?_
      have e : (KTrun (fun i j => ltT (ts.getD i d) (ts.getD j d)) (kas_sort ts.length)).toList.map (fun i => (ts.map fun t => Value.ref t.a).getD i Value.none) = ((KTrun (fun i j => ltT (ts.getD i d) (ts.getD j d)) (kas_sort ts.length)).toList.map fun i => ts.getD i d).map fun t => Value.ref t.a := by
        rw [List.map_map]
        refine List.map_congr_left fun i hi => ?_
        have hi' := hin i hi
        rw [getD_in _ _ (by simpa using hi'), List.getElem_map]
        simp only [Function.comp, getD_in _ _ hi']
      rw [e] at N''
      exact h D c h'' _ F'' N'' hlt hp hs
end
end
section
theorem offC1 : True := by
  w_top off
  trivial
theorem get1 {g h' : Heap} {L : Addr} {a : Addr} {o : Obj} {r : List (Addr × Obj)} (N : News g L h' ((a, o) :: r)) : h'.get? a = some o := (N _ (.head _)).1
theorem mod_small (a : Int) : -(2 ^ 64) < Int.fmod a 2147483647 ∧ Int.fmod a 2147483647 < 2 ^ 64 := by
  have h1 := fmod_lo a (n := 2147483647) (by decide)
  have h2 := fmod_hi a (n := 2147483647) (by decide)
  omega
local macro_rules | `(tactic| mul_fits) => `(tactic| k_dflt exact mul_le (mod_small _))
theorem c_take {w : World} {A : Around} {s : Shared} {Q E : Value → Shared → Prop} {l : Addr} {x y : Int} {tx ty : Tok} {n : Nat} {top : Int} {tt : Tok}
   (C : Cal w 3 60 A s.heap [l]) (hl : s.heap.get? l = some (listOf [.int x tx, .int y ty].toArray n))
   (h0 : 0 ≤ x) (hy : 0 ≤ y) (hy' : y < 2147483647) (ht : 0 < top) (ht' : top < 100)
   (hret : ∀ r t x' tx' y' ty' n' (h' : Heap) tk', 0 ≤ x' → 0 ≤ y' → y' < 2147483647 → 0 ≤ r → r < top → Ext [l] s.heap h' → h'.get? l = some (listOf [.int x' tx', .int y' ty'].toArray n') → Q (.int r t) { s with heap := h', toks := tk' }) :
   wpAny (model PG w) A (call (.ref 284) [.ref l, .int top tt]) Q E s := by
  cases C with | mk B F X T hk hd hu hX =>
  have N := news1 hX hl (List.mem_singleton.mpr rfl)
  ((k_dflt (refine wpAny_call ?_; refine' code_vis ?k1x1 ?k2x1 ?k3x1 ?k4x1 ?k5x1 ?kAx1 ?kFx1 ?kKx1 ?k6x1 ?k7x1 ?k8x1 ?k9x1 ?kBx1 ?kMx1 ?_ ?c2x1 ?c3x1 ?c4x1 ?c5x1; (case kAx1 => exact rfl); (case kFx1 => exact rfl); (case kKx1 => assumption); (case k1x1 => k_asm); (case k2x1 => k_asm); (case k3x1 => k_asm); (case k4x1 => k_asm); (case k5x1 => k_asm); (case k6x1 => k_is); (case k7x1 => k_is); (case k8x1 => ktr_room); (case k9x1 => exact BindsTo.of_eq rfl); (case kMx1 => first | exact nice1 rfl | exact nice2 rfl | exact nice3 rfl | exact nice4 rfl | exact nice5 rfl | exact nice6 rfl); (case c5x1 => decide); (case kBx1 => exact locs rfl); (case c2x1 => exact rfl); (case c3x1 => exact rfl); (case c4x1 => exact rfl); k_whole; intro g' L' h' F' N' B' X' T' hG' hg' hlt' hsz'; (try dsimp only); (try k_fold))))
  k_steps
  · (((try dsimp only); (try (k_unfold; (try dsimp only)))))
    refine hret _ _ _ _ _ _ _ _ _ ?_ ?_ ?_ ?_ ?_ (ext_of (by assumption) (by assumption)) (get1 (by assumption))
    · show 0 ≤ Int.fdiv x top
      rw [Int.fdiv_eq_ediv_of_nonneg _ (by omega)]
      exact Int.ediv_nonneg h0 (by omega)
    · exact hy
    · exact hy'
    · exact fmod_lo _ ht
    · exact fmod_hi _ ht
  · (((try dsimp only); (try (k_unfold; (try dsimp only)))))
    refine hret _ _ _ _ _ _ _ _ _ ?_ ?_ ?_ ?_ ?_ (ext_of (by assumption) (by assumption)) (get1 (by assumption))
    · exact h0
    · exact fmod_lo _ (by decide)
    · exact fmod_hi _ (by decide)
    · exact fmod_lo _ ht
    · exact fmod_hi _ ht
end
section
theorem offC2 : True := by
  w_top off
  trivial
theorem mod_bound (a b : Int) (hb : 0 < b) : 0 ≤ Int.fmod a b ∧ Int.fmod a b < b := ⟨fmod_lo a hb, fmod_hi a hb⟩
theorem c_pool {w : World} {A : Around} {s : Shared} {Q E : Value → Shared → Prop} {l : Addr} {vs : List Value} {ns : List Int} {tt : Tok}
   (C : Cal w 3 60 A s.heap []) (hl : s.heap.IsList l vs.toArray) (hi : IntsAre vs ns) (hlen : ¬ (63 : Int) < (ns.length : Int))
   (hret : ∀ a x tx y ty n (h' : Heap) tk', 0 ≤ x → 0 ≤ y → y < 2147483647 → s.heap.get? a = none → Ext [] s.heap h' → h'.get? a = some (listOf [.int x tx, .int y ty].toArray n) → Q (.ref a) { s with heap := h', toks := tk' }) :
   wpAny (model PG w) A (call (.ref 277) [.ref l, .int 0 tt]) Q E s := by
  cases C with | mk B F X T hk hd hu hX =>
  have N := nil_of F
  ((k_dflt (refine wpAny_call ?_; refine' code_vis ?k1x2 ?k2x2 ?k3x2 ?k4x2 ?k5x2 ?kAx2 ?kFx2 ?kKx2 ?k6x2 ?k7x2 ?k8x2 ?k9x2 ?kBx2 ?kMx2 ?_ ?c2x2 ?c3x2 ?c4x2 ?c5x2; (case kAx2 => exact rfl); (case kFx2 => exact rfl); (case kKx2 => assumption); (case k1x2 => k_asm); (case k2x2 => k_asm); (case k3x2 => k_asm); (case k4x2 => k_asm); (case k5x2 => k_asm); (case k6x2 => k_is); (case k7x2 => k_is); (case k8x2 => ktr_room); (case k9x2 => exact BindsTo.of_eq rfl); (case kMx2 => first | exact nice1 rfl | exact nice2 rfl | exact nice3 rfl | exact nice4 rfl | exact nice5 rfl | exact nice6 rfl); (case c5x2 => decide); (case kBx2 => exact locs rfl); (case c2x2 => exact rfl); (case c3x2 => exact rfl); (case c4x2 => exact rfl); k_whole; intro g' L' h' F' N' B' X' T' hG' hg' hlt' hsz'; (try dsimp only); (try k_fold))))
  rename ∀ (b : Addr) (o : Obj), s.heap.get? b = some o → b ∉ _ → _ => hG
  have hI := list_g hl hG
  k_steps
  all_goals (
    (((try dsimp only); (try (k_unfold; (try dsimp only)))))
    refine hret _ _ _ _ _ _ _ _ ?_ ?_ ?_ (fresh_s hG (by assumption) (by k_mem) (by simp)) (ext_of hG (by assumption)) (get_in (by assumption) (by k_mem)))
  all_goals (first | exact fmod_lo _ (by decide) | exact fmod_hi _ (by decide) | (refine Int.mul_nonneg ?_ ?_ <;> split <;> omega))
end
section
theorem offC18a : True := by
  w_top off
  trivial
open PySem.Spec PyProof.V
noncomputable abbrev kxy (x y : Int) : PyData := encTuple PyData.int [x, y]
noncomputable def HT (w : World) (W : List (Addr × Obj)) (d : Addr) (n : Nat) (f : Int → Int → Int) : Prop :=
  ∃ D, TupTab (intKind PG w) PyData.int W d D ∧ D.length ≤ n ∧ ∀ x y, (lookup (kxy x y) D).getD (.int 0) = .int (f x y)
theorem tt_subs {K : Type} [DecidableEq K] {prog : Program} {w : World} {knd : KeyKind prog w K} {enc : K → PyData} {a b : List (Addr × Obj)} {d : Addr} {D : List (PyData × PyData)} (T : TupTab knd enc a d D) (hs : ∀ p ∈ a, p ∈ b) : TupTab knd enc b d D := by
  obtain ⟨lo, o, es, ep, xs, hm, hc, hd, he, hn, hk, hf⟩ := T
  exact ⟨lo, o, es, ep, xs, hs _ hm, hc, hd, he, hn, fun x hx => (hk x hx).imp fun okx q => ⟨hs _ q.1, q.2⟩, hf⟩
theorem HT.subs {w : World} {a b : List (Addr × Obj)} {d : Addr} {n : Nat} {f : Int → Int → Int} (T : HT w a d n f) (hs : ∀ p ∈ a, p ∈ b) : HT w b d n f :=
  let ⟨D, T, h⟩ := T
  ⟨D, tt_subs T hs, h⟩
theorem HT.mono {w : World} {a : List (Addr × Obj)} {d : Addr} {n n' : Nat} {f f' : Int → Int → Int} (T : HT w a d n f) (hn : n ≤ n') (hf : ∀ x y, f' x y = f x y) : HT w a d n' f' :=
  let ⟨D, T, h1, h2⟩ := T
  ⟨D, T, Nat.le_trans h1 hn, fun x y => by rw [h2, hf]⟩
noncomputable def isDT (o : Obj) : Bool := o.cls == .type "dict" || o.cls == .type "tuple"
theorem isDT_iter {o : Obj} (h : isDT o = true) : isIter o = false := by
  simp only [isDT, Bool.or_eq_true, beq_iff_eq] at h
  rcases h with h | h <;> simp [isIter, h]
theorem isDT_list {o : Obj} (h : isDT o = true) : o.cls ≠ .type "list" := by
  simp only [isDT, Bool.or_eq_true, beq_iff_eq] at h
  rcases h with h | h <;> simp [h]
theorem HT.shrink {w : World} {a : List (Addr × Obj)} {d : Addr} {n : Nat} {f : Int → Int → Int} (T : HT w a d n f) : ∃ b, (∀ p ∈ b, p ∈ a) ∧ (∀ p ∈ b, isDT p.2 = true) ∧ HT w b d n f := by
  obtain ⟨D, ⟨lo, o, es, ep, xs, hm, hc, hd, he, hn, hk, hf⟩, h⟩ := T
  refine ⟨a.filter fun p => isDT p.2, fun p hp => (List.mem_filter.mp hp).1, fun p hp => (List.mem_filter.mp hp).2, D, ⟨lo, o, es, ep, xs, List.mem_filter.mpr ⟨hm, ?_⟩, hc, hd, he, hn, fun x hx => ?_, hf⟩, h⟩
  · simp [isDT, hc.1]
  · obtain ⟨ok, h1, h2⟩ := hk x hx
    exact ⟨ok, List.mem_filter.mpr ⟨h1, by simp [isDT, h2.1]⟩, h2⟩
theorem HT.empty {w : World} {a : List (Addr × Obj)} {d : Addr} {o : Obj} (hm : (d, o) ∈ a) (lo : (d == sysModules) = false) (hd : o.IsDictOf (intKind PG w) []) : HT w a d 0 (fun _ _ => 0) :=
  ⟨[], TupTab.ofEmpty hm lo hd, Nat.le_refl _, fun _ _ => rfl⟩
theorem HT.mem {w : World} {a : List (Addr × Obj)} {d : Addr} {n : Nat} {f : Int → Int → Int} (T : HT w a d n f) : ∃ o, (d, o) ∈ a ∧ o.cls = .type "dict" := by
  obtain ⟨_, ⟨_, o, _, _, _, hm, hc, _⟩, _⟩ := T
  exact ⟨o, hm, hc.1⟩
section
variable {w : World} {A : Around} {E : Value → Shared → Prop} {s : Shared} {h₀ : Heap} {L d a : Addr} {m : Str → Option Value} {news : List (Addr × Obj)} {n : Nat} {f : Int → Int → Int} {x y : Int} {tx ty : Tok}
theorem two_key {w : World} : TupKeyObj (intKind PG w) [x, y] (tupOf [.int x tx, .int y ty]) := TupKeyObj.made (ItemsAre.cons (intKind_is _ _ _ _) (ItemsAre.cons (intKind_is _ _ _ _) ItemsAre.nil))
theorem HT.meth {pl : Sem Bool} {Q : Value × List Value → Shared → Prop} (N : News h₀ L s.heap news) (T : HT w news d n f) (h : Q (.builtin "dict.get", [.ref d]) s) :
    wpAny (model PG w) A (getMethod (.ref d) "get" pl) Q E s := let ⟨_, T, _⟩ := T; getMethod_tupTab_get N T h
theorem HT.get {t0 : Tok} {Q : Value → Shared → Prop} (hu : A.units + 1 < cLine) (N : News h₀ L s.heap news) (T : HT w news d n f) (hka : (a, tupOf [.int x tx, .int y ty]) ∈ news)
    (h : ∀ t, Q (.int (f x y) t) { s with toks := s.toks + 3 }) : wpAny (model PG w) A (call (.builtin "dict.get") [.ref d, .ref a, .int 0 t0]) Q E s := by
  obtain ⟨D, T, h1, h2⟩ := T
  refine call_get2_tupTab (knd := intKind PG w) (enc := PyData.int) same_int hu N T hka two_key (Flat.int 0 t0) fun v hv => ?_
  rw [h2] at hv
  obtain ⟨t, rfl⟩ := Flat.int_inv hv
  exact h t
theorem HT.set {v : Int} {tv : Tok} {Q : Unit → Shared → Prop} (hu : A.units + 1 < cLine) (F : Fr h₀ L s.heap m) (N : News h₀ L s.heap news) (T : HT w news d n f) (hka : (a, tupOf [.int x tx, .int y ty]) ∈ news) (hn : n ≤ 1000)
    (h : ∀ h' news', Fr h₀ L h' m → News h₀ L h' news' → HT w news' d (n + 1) (fun p q => if p = x ∧ q = y then v else f p q) → (∀ p ∈ news, p.1 ≠ d → p ∈ news') → Q () { s with heap := h', toks := s.toks + 3 }) :
    wpAny (model PG w) A (setItem (.ref d) (.ref a) (.int v tv)) Q E s := by
  obtain ⟨D, T, h1, h2⟩ := T
  refine setItem_tupTab (hsz := by rw [sizeLine_eq]; omega) (knd := intKind PG w) (enc := PyData.int) same_int hu (Flat.int v tv) F N T hka two_key fun h' news' F' N' T' _ hs => h h' news' F' N' ⟨_, T', ?_, fun p q => ?_⟩ hs
  · have := putD_length_le (encTuple PyData.int [x, y]) (.int v) D; omega
  · show _ = PyData.int (if p = x ∧ q = y then v else f p q)
    rw [kxy, lookup_putK (keyEnc_tuple keyEnc_int)]
    by_cases e : p = x ∧ q = y
    · rw [if_pos e, if_pos (by rw [e.1, e.2])]; rfl
    · rw [if_neg e, if_neg (fun q => e (by simpa using q))]; exact h2 p q
end
end
section
theorem offZipT : True := by
  w_top off
  trivial
theorem tnext_item {prog : Program} {w : World} {A : Around} {E : Value → Shared → Prop} {s : Shared} {it t : Addr} {i : Nat} {items : Array Value} {x : Value} {Q : Value → Shared → Prop} (hit : IsTupIter s.heap it t i)
    (ht : IsTup s.heap t items) (hx : items[i]? = some x) (hQ : ∀ h', IsTupIter h' it t (i + 1) → Heap.SameBut it s.heap h' → Q x { s with heap := h' }) :
    wpAny (model prog w) A (Builtin.SmallTypes.nextOf (.ref it)) Q E s := by
  obtain ⟨o, ho, hc, hd⟩ := id hit
  obtain ⟨ol, hol, _, nl, hdl⟩ := ht
  unfold Builtin.SmallTypes.nextOf
  refine wpAny_bind (wpAny_callSpecial?_slot (name := Str.ofString "__next__") hit.typeIs slot_tupleiter_next
    (wpAny_call_entry slot_tupleiter_next hit.typeIs entry_tupleiter_next ?_ (args_tupleiter_next _)))
  show wpAny _ _ (field (.ref it) 0 >>= _) _ _ s
  refine wpAny_bind (wpAny_field ho hd (x := .ref t) rfl ?_)
  show wpAny _ _ (if (Value.ref t == Value.none) = true then _ else _) _ _ s
  rw [if_neg (show ¬ ((Value.ref t == Value.none) = true) from Bool.false_ne_true)]
  show wpAny _ _ (field (.ref it) 1 >>= _) _ _ s
  refine wpAny_bind (wpAny_field ho hd (x := .int i 0) rfl ?_)
  show wpAny _ _ (seqItems? (.ref t) >>= _) _ _ s
  refine wpAny_bind (wpAny_seqItems hol hdl ?_)
  simp only [Int.toNat_natCast, hx]
  refine wpAny_bind (wpAny_setField ho hd (by simp) (wpAny_pure ⟨x, rfl, wpAny_pure (hQ _ ?_ (Heap.SameBut.update ..))⟩))
  exact ⟨_, Heap.get?_update_self _ ho (Obj.isFreed_of_fields (Obj.data_mapFields hd _)), (Obj.cls_mapFields ..).trans hc, by
    rw [Obj.data_mapFields hd]; simp [rawInt]⟩
theorem tnext_end {prog : Program} {w : World} {A : Around} {E : Value → Shared → Prop} {s : Shared} {it t : Addr} {i : Nat} {items : Array Value} {Q : Value → Shared → Prop} (hh : A.handled = none) (hit : IsTupIter s.heap it t i)
    (ht : IsTup s.heap t items) (hx : items[i]? = none)
    (hE : ∀ h' e, Heap.ExtBut it s.heap h' → (∃ o, h'.get? e = some o ∧ o.cls = .type "StopIteration") → E (.ref e) { s with heap := h' }) :
    wpAny (model prog w) A (Builtin.SmallTypes.nextOf (.ref it)) Q E s := by
  obtain ⟨o, ho, hc, hd⟩ := id hit
  obtain ⟨ol, hol, _, nl, hdl⟩ := ht
  unfold Builtin.SmallTypes.nextOf
  refine wpAny_bind (wpAny_callSpecial?_slot (name := Str.ofString "__next__") hit.typeIs slot_tupleiter_next
    (wpAny_call_entry slot_tupleiter_next hit.typeIs entry_tupleiter_next ?_ (args_tupleiter_next _)))
  show wpAny _ _ (field (.ref it) 0 >>= _) _ _ s
  refine wpAny_bind (wpAny_field ho hd (x := .ref t) rfl ?_)
  show wpAny _ _ (if (Value.ref t == Value.none) = true then _ else _) _ _ s
  rw [if_neg (show ¬ ((Value.ref t == Value.none) = true) from Bool.false_ne_true)]
  show wpAny _ _ (field (.ref it) 1 >>= _) _ _ s
  refine wpAny_bind (wpAny_field ho hd (x := .int i 0) rfl ?_)
  show wpAny _ _ (seqItems? (.ref t) >>= _) _ _ s
  refine wpAny_bind (wpAny_seqItems hol hdl ?_)
  simp only [Int.toNat_natCast, hx]
  refine wpAny_bind (wpAny_rule (wpAny_bind (wpAny_setField ho hd (by simp) ?_)))
  show wpAny _ _ (newExc (.type "StopIteration") [] >>= _) _ _ _
  refine wpAny_bind ?_
  simp only [newExc, newTuple]
  refine wpAny_bind (wpAny_newObj_type ?_ (by size_fits))
  refine wpAny_bind (m := firstArgMember _ _) (wpAny_of_eq (a := Value.none) (by first | rfl | (simp only [firstArgMember]; rfl)) ?_)
  refine wpAny_newObj_type ?_ (by size_fits)
  simp only [raiseNew]
  refine wpAny_bind (wpAny_handled ?_)
  first | rw [show A.in1.handled = none from hh] | rw [hh]
  refine wpAny_bind (wpAny_pure (wpAny_throw ?_))
  exact hE _ _ (((Heap.SameBut.update ..).extBut.push _).push _) ⟨_, Heap.get?_push_size _ rfl, rfl⟩
noncomputable abbrev IsZipF (h : Heap) (B : Addr) (f0 f1 : Value) : Prop :=
  h.get? (B + 4) = some { cls := .type "zip", dict := none, data := .fields #[f0, f1, .bool false, .ref (B + 2), .ref (B + 3)], slots := #[] }
structure ZSt (h : Heap) (B t1 t2 S i : Nat) : Prop where
  zz : (i = 0 ∧ IsZipF h B .none (.bool false)) ∨ ∃ (T : Addr) (f : Bool) (oT : Obj), IsZipF h B (rawInt T) (.bool f) ∧ h.get? T = some oT ∧ S < T
  TI : IsPair h (B + 2) (.ref B) (.ref (B + 1))
  TO : ∃ a b, IsPair h (B + 3) a b
  i1 : IsTupIter h B t1 i
  i2 : IsTupIter h (B + 1) t2 i
theorem ZSt.lt {h : Heap} {B t1 t2 S i : Nat} (z : ZSt h B t1 t2 S i) : B + 4 < h.objs.size := by
  rcases z.zz with ⟨_, e⟩ | ⟨T, f, oT, e, _⟩ <;> exact Heap.lt_size e
theorem tit_keep {h h' : Heap} {a t : Addr} {i : Nat} (x : IsTupIter h a t i) (e : ∀ o, h.get? a = some o → h'.get? a = some o) : IsTupIter h' a t i := let ⟨o, ho, r⟩ := x; ⟨o, e _ ho, r⟩
theorem ZSt.keep {h h' : Heap} {B t1 t2 S i : Nat} (z : ZSt h B t1 t2 S i) (hS : B + 4 < S) (hk : ∀ b o, b ≠ S → h.get? b = some o → h'.get? b = some o) : ZSt h' B t1 t2 S i := by
  obtain ⟨zz, TI, ⟨a, b, TO⟩, i1, i2⟩ := z
  refine ⟨?_, hk _ _ (by omega) TI, ⟨a, b, hk _ _ (by omega) TO⟩, tit_keep i1 fun o e => hk _ _ (by omega) e, tit_keep i2 fun o e => hk _ _ (by omega) e⟩
  rcases zz with ⟨e, x⟩ | ⟨T, f, oT, x, y, l⟩
  · exact .inl ⟨e, hk _ _ (by omega) x⟩
  · exact .inr ⟨T, f, oT, hk _ _ (by omega) x, hk _ _ (by omega) y, l⟩
noncomputable def ZKeep (B : Nat) (h h' : Heap) : Prop := ∀ (c : Nat) (o : Obj), c < B ∨ B + 5 ≤ c → h.get? c = some o → h'.get? c = some o
theorem same_at {h h' : Heap} {a c : Addr} {o : Obj} (hs : Heap.SameBut a h h') (hc : c ≠ a) (e : h.get? c = some o) : h'.get? c = some o := hs.extBut _ _ hc e
theorem zt_first {prog : Program} {w : World} {A : Around} {E : Value → Shared → Prop} {s : Shared} {B t1 t2 S : Nat} {xs ys : Array Value} {x y : Value} {Q : Value → Shared → Prop} (h12 : t1 < B ∧ t2 < B) (hS : B + 4 < S) (hSz : S < s.heap.objs.size)
    (hz : IsZipF s.heap B .none (.bool false)) (TI : IsPair s.heap (B + 2) (.ref B) (.ref (B + 1))) (TO : ∃ a b, IsPair s.heap (B + 3) a b) (i1 : IsTupIter s.heap B t1 0) (i2 : IsTupIter s.heap (B + 1) t2 0)
    (hl1 : IsTup s.heap t1 xs) (hl2 : IsTup s.heap t2 ys) (hx : xs[0]? = some x) (hy : ys[0]? = some y)
    (hQ : ∀ h', ZSt h' B t1 t2 S 1 → IsPair h' s.heap.objs.size x y → h'.objs.size = s.heap.objs.size + 1 → ZKeep B s.heap h' → Q (.ref s.heap.objs.size) { s with heap := h' }) :
    wpAny (model prog w) A (Builtin.«zip.__next__» ⟨[.ref (B + 4)], []⟩) (fun fin s' => ∃ v, fin = .done (.ret v) ∧ Q v s') E s := by
  obtain ⟨a, b, TO⟩ := TO
  show wpAny _ _ (field (.ref (B + 4)) 2 >>= _) _ _ _
  refine wpAny_bind (wpAny_field hz rfl (x := .bool false) rfl ?_)
  show wpAny _ _ (field (.ref (B + 4)) 3 >>= _) _ _ _
  refine wpAny_bind (wpAny_field hz rfl (x := .ref (B + 2)) rfl ?_)
  refine wpAny_bind (wpAny_seqItems TI rfl ?_)
  show wpAny _ _ (Builtin.SmallTypes.ownedTupleIsFree (.ref (B + 4)) >>= _) _ _ _
  refine wpAny_bind ?_
  unfold Builtin.SmallTypes.ownedTupleIsFree
  refine wpAny_bind (wpAny_field hz rfl (x := .none) rfl (wpAny_pure ?_))
  simp only [if_true]
  refine wpAny_bind (wpAny_rule ?_)
  refine wpAny_bind (wpAny_field hz rfl (x := .ref (B + 3)) rfl ?_)
  refine wpAny_bind (wpAny_setField_rec hz (by simp) fun h₁ hz₁ hs₁ => ?_)
  replace hz₁ : IsZipF h₁ B .ellipsis (.bool false) := hz₁
  replace hs₁ : Heap.SameBut (B + 4) s.heap h₁ := hs₁
  refine wpAny_bind ?_
  simp only [List.zipIdx_cons, List.zipIdx_nil, List.forIn_cons, List.forIn_nil]
  refine wpAny_bind (wpAny_bind (wpAny_onRaise ?_))
  show wpAny _ _ (Builtin.SmallTypes.nextOf (.ref B) >>= _) _ _ _
  refine wpAny_bind (tnext_item (tit_keep i1 fun o e => same_at hs₁ (show (B : Nat) ≠ B + 4 by omega) e) (hl1.extBut hs₁.extBut (show t1 ≠ B + 4 by omega)) hx fun h₂ h1₂ hs₂ => wpAny_pure ?_)
  replace hs₂ : Heap.SameBut B h₁ h₂ := hs₂
  have hTO₂ : IsPair h₂ (B + 3) a b := same_at hs₂ (show B + 3 ≠ B by omega) (same_at hs₁ (show B + 3 ≠ B + 4 by omega) TO)
  refine wpAny_bind (wpAny_seqItems hTO₂ rfl ?_)
  refine wpAny_bind (wpAny_updateSeq_pair hTO₂ fun h₃ hTO₃ hs₃ => ?_)
  replace hTO₃ : IsPair h₃ (B + 3) x b := hTO₃
  replace hs₃ : Heap.SameBut (B + 3) h₂ h₃ := hs₃
  refine wpAny_bind (wpAny_letGo (wpAny_pure ?_))
  refine wpAny_bind (wpAny_bind (wpAny_onRaise ?_))
  show wpAny _ _ (Builtin.SmallTypes.nextOf (.ref (B + 1)) >>= _) _ _ _
  refine wpAny_bind (tnext_item (tit_keep i2 fun o e => same_at hs₃ (show B + 1 ≠ B + 3 by omega) (same_at hs₂ (show B + 1 ≠ B by omega) (same_at hs₁ (show B + 1 ≠ B + 4 by omega) e)))
    (((hl2.extBut hs₁.extBut (show t2 ≠ B + 4 by omega)).extBut hs₂.extBut (show t2 ≠ B by omega)).extBut hs₃.extBut (show t2 ≠ B + 3 by omega)) hy fun h₄ h2₄ hs₄ => wpAny_pure ?_)
  replace hs₄ : Heap.SameBut (B + 1) h₃ h₄ := hs₄
  have hTO₄ : IsPair h₄ (B + 3) x b := same_at hs₄ (show B + 3 ≠ B + 1 by omega) hTO₃
  refine wpAny_bind (wpAny_seqItems hTO₄ rfl ?_)
  refine wpAny_bind (wpAny_updateSeq_pair hTO₄ fun h₅ hTO₅ hs₅ => ?_)
  replace hTO₅ : IsPair h₅ (B + 3) x y := hTO₅
  replace hs₅ : Heap.SameBut (B + 3) h₄ h₅ := hs₅
  refine wpAny_bind (wpAny_letGo (wpAny_pure (wpAny_pure ?_)))
  refine wpAny_bind (wpAny_seqItems hTO₅ rfl ?_)
  refine wpAny_bind (wpAny_newTuple ?_)
  have hsz : h₅.objs.size = s.heap.objs.size := by rw [hs₅.1, hs₄.1, hs₃.1, hs₂.1, hs₁.1]
  have hz₅ : IsZipF h₅ B .ellipsis (.bool false) := same_at hs₅ (show B + 4 ≠ B + 3 by omega) (same_at hs₄ (show B + 4 ≠ B + 1 by omega) (same_at hs₃ (show B + 4 ≠ B + 3 by omega) (same_at hs₂ (show B + 4 ≠ B by omega) hz₁)))
  have hk₅ : ∀ c o, c ≠ B + 4 → c ≠ B + 3 → c ≠ B → c ≠ B + 1 → s.heap.get? c = some o → h₅.get? c = some o := fun c o c1 c2 c3 c4 e =>
    same_at hs₅ c2 (same_at hs₄ c4 (same_at hs₃ c2 (same_at hs₂ c3 (same_at hs₁ c1 e))))
  have h1₅ : IsTupIter h₅ B t1 1 := tit_keep h1₂ fun o e => same_at hs₅ (show B ≠ B + 3 by omega) (same_at hs₄ (show B ≠ B + 1 by omega) (same_at hs₃ (show B ≠ B + 3 by omega) e))
  have h2₅ : IsTupIter h₅ (B + 1) t2 1 := tit_keep h2₄ fun o e => same_at hs₅ (show B + 1 ≠ B + 3 by omega) e
  show wpAny _ _ (Builtin.SmallTypes.ownedTupleHandOut (.ref (B + 4)) (.ref h₅.objs.size) >>= _) _ _ _
  refine wpAny_bind ?_
  unfold Builtin.SmallTypes.ownedTupleHandOut
  have hz₆ : IsZipF (h₅.push { cls := .type "tuple", data := .seq #[x, y] }) B .ellipsis (.bool false) := Heap.get?_push_of_some _ hz₅
  refine wpAny_bind (wpAny_setField_rec hz₆ (by simp) fun h₇ hz₇ hs₇ => ?_)
  replace hz₇ : IsZipF h₇ B (rawInt h₅.objs.size) (.bool false) := hz₇
  refine wpAny_setField_rec hz₇ (by simp) fun h₈ hz₈ hs₈ => ?_
  replace hz₈ : IsZipF h₈ B (rawInt h₅.objs.size) (.bool false) := hz₈
  have up : ∀ c o, c ≠ B + 4 → h₅.get? c = some o → h₈.get? c = some o := fun c o c1 e => same_at hs₈ c1 (same_at hs₇ c1 (Heap.get?_push_of_some _ e))
  have hT₈ : IsPair h₈ h₅.objs.size x y := same_at hs₈ (show h₅.objs.size ≠ B + 4 by omega) (same_at hs₇ (show h₅.objs.size ≠ B + 4 by omega) (Heap.get?_push_size _ rfl))
  have hz8 : h₈.objs.size = h₅.objs.size + 1 := by rw [hs₈.1, hs₇.1, Heap.size_push]
  rw [hsz] at hz₈ hT₈ hz8
  refine wpAny_pure ⟨_, rfl, ?_⟩
  show Q (.ref h₅.objs.size) _
  rw [hsz]
  refine hQ h₈ ⟨.inr ⟨_, _, _, hz₈, hT₈, hSz⟩, up _ _ (show B + 2 ≠ B + 4 by omega) (hk₅ _ _ (by omega) (by omega) (by omega) (by omega) TI), ⟨_, _, up _ _ (show B + 3 ≠ B + 4 by omega) hTO₅⟩, tit_keep h1₅ fun o e => up _ o (by omega) e, tit_keep h2₅ fun o e => up _ o (by omega) e⟩ hT₈ hz8 ?_
  intro c o hc e
  exact up c o (by omega) (hk₅ c o (by omega) (by omega) (by omega) (by omega) e)
end
section
theorem offZipU : True := by
  w_top off
  trivial
theorem own_busy {prog : Program} {w : World} {A : Around} {E : Value → Shared → Prop} {s : Shared} {B : Nat} {Q : Bool → Shared → Prop} {T : Addr} {f : Bool} {oT : Obj} (hz : IsZipF s.heap B (rawInt T) (.bool f)) (hT : s.heap.get? T = some oT)
    (h : ∀ h₁, IsZipF h₁ B (rawInt T) (.bool true) → Heap.SameBut (B + 4) s.heap h₁ → Q false { s with heap := h₁ }) :
    wpAny (model prog w) A (Builtin.SmallTypes.ownedTupleIsFree (.ref (B + 4))) Q E s := by
  unfold Builtin.SmallTypes.ownedTupleIsFree
  refine wpAny_bind (wpAny_field hz rfl (x := rawInt T) rfl ?_)
  show wpAny _ _ (loadIfAlive ((T : Int).toNat) >>= _) _ _ _
  rw [Int.toNat_natCast]
  refine wpAny_bind (kdx_alive hT ?_)
  simp only [Option.isNone_some, Bool.false_eq_true, if_false]
  refine wpAny_bind (wpAny_field hz rfl (x := .bool f) rfl ?_)
  cases f with
  | true =>
    rw [if_neg (show ¬ ((Value.bool true != Value.bool true) = true) from Bool.false_ne_true)]
    exact wpAny_pure (h s.heap hz (Heap.SameBut.refl _ _))
  | false =>
    rw [if_pos (show (Value.bool false != Value.bool true) = true from rfl)]
    refine wpAny_bind (wpAny_setField_rec hz (by simp) fun h₃ he₃ hs₃ => ?_)
    exact wpAny_pure (h h₃ he₃ hs₃)
theorem zt_more {prog : Program} {w : World} {A : Around} {E : Value → Shared → Prop} {s : Shared} {B t1 t2 S i : Nat} {xs ys : Array Value} {x y : Value} {Q : Value → Shared → Prop} {T : Addr} {f : Bool} {oT : Obj} (h12 : t1 < B ∧ t2 < B) (hS : B + 4 < S) (hSz : S < s.heap.objs.size)
    (hz : IsZipF s.heap B (rawInt T) (.bool f)) (hT : s.heap.get? T = some oT) (hST : S < T) (TI : IsPair s.heap (B + 2) (.ref B) (.ref (B + 1))) (TO : ∃ a b, IsPair s.heap (B + 3) a b) (i1 : IsTupIter s.heap B t1 i) (i2 : IsTupIter s.heap (B + 1) t2 i)
    (hl1 : IsTup s.heap t1 xs) (hl2 : IsTup s.heap t2 ys) (hx : xs[i]? = some x) (hy : ys[i]? = some y)
    (hQ : ∀ h', ZSt h' B t1 t2 S (i + 1) → IsPair h' s.heap.objs.size x y → h'.objs.size = s.heap.objs.size + 1 → ZKeep B s.heap h' → Q (.ref s.heap.objs.size) { s with heap := h' }) :
    wpAny (model prog w) A (Builtin.«zip.__next__» ⟨[.ref (B + 4)], []⟩) (fun fin s' => ∃ v, fin = .done (.ret v) ∧ Q v s') E s := by
  obtain ⟨a, b, TO⟩ := TO
  show wpAny _ _ (field (.ref (B + 4)) 2 >>= _) _ _ _
  refine wpAny_bind (wpAny_field hz rfl (x := .bool false) rfl ?_)
  show wpAny _ _ (field (.ref (B + 4)) 3 >>= _) _ _ _
  refine wpAny_bind (wpAny_field hz rfl (x := .ref (B + 2)) rfl ?_)
  refine wpAny_bind (wpAny_seqItems TI rfl ?_)
  show wpAny _ _ (Builtin.SmallTypes.ownedTupleIsFree (.ref (B + 4)) >>= _) _ _ _
  refine wpAny_bind (own_busy hz hT fun h₁ hz₁ hs₁ => ?_)
  simp only [Bool.false_eq_true, if_false]
  simp only [List.forIn_toArray, List.forIn_cons, List.forIn_nil]
  refine wpAny_bind ?_
  refine wpAny_bind (wpAny_bind (wpAny_holding ?_))
  show wpAny _ _ (Builtin.SmallTypes.nextOf (.ref B) >>= _) _ _ _
  refine wpAny_bind (tnext_item (tit_keep i1 fun o e => same_at hs₁ (show (B : Nat) ≠ B + 4 by omega) e) (hl1.extBut hs₁.extBut (show t1 ≠ B + 4 by omega)) hx fun h₂ h1₂ hs₂ => wpAny_pure (wpAny_pure ?_))
  replace hs₂ : Heap.SameBut B h₁ h₂ := hs₂
  refine wpAny_bind (wpAny_bind (wpAny_holding ?_))
  show wpAny _ _ (Builtin.SmallTypes.nextOf (.ref (B + 1)) >>= _) _ _ _
  refine wpAny_bind (tnext_item (tit_keep i2 fun o e => same_at hs₂ (show B + 1 ≠ B by omega) (same_at hs₁ (show B + 1 ≠ B + 4 by omega) e))
    ((hl2.extBut hs₁.extBut (show t2 ≠ B + 4 by omega)).extBut hs₂.extBut (show t2 ≠ B by omega)) hy fun h₃ h2₃ hs₃ => wpAny_pure (wpAny_pure (wpAny_pure ?_)))
  replace hs₃ : Heap.SameBut (B + 1) h₂ h₃ := hs₃
  refine wpAny_bind (wpAny_newTuple (hsz := Nat.le_of_ble_eq_true rfl) ?_)
  have hsz : h₃.objs.size = s.heap.objs.size := by rw [hs₃.1, hs₂.1, hs₁.1]
  refine wpAny_pure ⟨_, rfl, ?_⟩
  show Q (.ref h₃.objs.size) _
  have up : ∀ (c : Nat) o, c ≠ B → c ≠ B + 1 → h₁.get? c = some o → (h₃.push { cls := .type "tuple", data := .seq #[x, y] }).get? c = some o := fun c o c1 c2 e => Heap.get?_push_of_some _ (same_at hs₃ c2 (same_at hs₂ c1 e))
  have up0 : ∀ (c : Nat) o, c ≠ B → c ≠ B + 1 → c ≠ B + 4 → s.heap.get? c = some o → (h₃.push { cls := .type "tuple", data := .seq #[x, y] }).get? c = some o := fun c o c1 c2 c3 e => up c o c1 c2 (same_at hs₁ c3 e)
  have hQ' := hQ (h₃.push { cls := .type "tuple", data := .seq #[x, y] }) ⟨.inr ⟨T, true, oT, up _ _ (by omega) (by omega) hz₁, up0 _ _ (by omega) (by omega) (by omega) hT, hST⟩, up0 _ _ (by omega) (by omega) (by omega) TI, ⟨a, b, up0 _ _ (by omega) (by omega) (by omega) TO⟩,
    tit_keep h1₂ fun o e => Heap.get?_push_of_some _ (same_at hs₃ (show (B : Nat) ≠ B + 1 by omega) e), tit_keep h2₃ fun o e => Heap.get?_push_of_some _ e⟩ (by rw [← hsz]; exact Heap.get?_push_size _ rfl) (by rw [Heap.size_push, hsz]) (fun c o hc e => up0 c o (by omega) (by omega) (by omega) e)
  rw [← hsz] at hQ'
  exact hQ'
theorem zt_end {prog : Program} {w : World} {A : Around} {E : Value → Shared → Prop} {s : Shared} {B t1 t2 S i : Nat} {xs ys : Array Value} {x : Value} {Q : PySem.Fin → Shared → Prop} {T : Addr} {f : Bool} {oT : Obj} (hh : A.handled = none) (h12 : t1 < B ∧ t2 < B) (hS : B + 4 < S) (hSz : S < s.heap.objs.size)
    (hz : IsZipF s.heap B (rawInt T) (.bool f)) (hT : s.heap.get? T = some oT) (TI : IsPair s.heap (B + 2) (.ref B) (.ref (B + 1))) (i1 : IsTupIter s.heap B t1 i) (i2 : IsTupIter s.heap (B + 1) t2 i)
    (hl1 : IsTup s.heap t1 xs) (hl2 : IsTup s.heap t2 ys) (hx : xs[i]? = some x) (hy : ys[i]? = none)
    (hE : ∀ h' e, ZKeep B s.heap h' → (∃ o, h'.get? e = some o ∧ o.cls = .type "StopIteration") → E (.ref e) { s with heap := h' }) :
    wpAny (model prog w) A (Builtin.«zip.__next__» ⟨[.ref (B + 4)], []⟩) Q E s := by
  show wpAny _ _ (field (.ref (B + 4)) 2 >>= _) _ _ _
  refine wpAny_bind (wpAny_field hz rfl (x := .bool false) rfl ?_)
  show wpAny _ _ (field (.ref (B + 4)) 3 >>= _) _ _ _
  refine wpAny_bind (wpAny_field hz rfl (x := .ref (B + 2)) rfl ?_)
  refine wpAny_bind (wpAny_seqItems TI rfl ?_)
  show wpAny _ _ (Builtin.SmallTypes.ownedTupleIsFree (.ref (B + 4)) >>= _) _ _ _
  refine wpAny_bind (own_busy hz hT fun h₁ hz₁ hs₁ => ?_)
  simp only [Bool.false_eq_true, if_false]
  simp only [List.forIn_toArray, List.forIn_cons, List.forIn_nil]
  refine wpAny_bind ?_
  refine wpAny_bind (wpAny_bind (wpAny_holding ?_))
  show wpAny _ _ (Builtin.SmallTypes.nextOf (.ref B) >>= _) _ _ _
  refine wpAny_bind (tnext_item (tit_keep i1 fun o e => same_at hs₁ (show (B : Nat) ≠ B + 4 by omega) e) (hl1.extBut hs₁.extBut (show t1 ≠ B + 4 by omega)) hx fun h₂ h1₂ hs₂ => wpAny_pure (wpAny_pure ?_))
  replace hs₂ : Heap.SameBut B h₁ h₂ := hs₂
  refine wpAny_bind (wpAny_bind (wpAny_holding ?_))
  show wpAny _ _ (Builtin.SmallTypes.nextOf (.ref (B + 1)) >>= _) _ _ _
  refine wpAny_bind (tnext_end hh (tit_keep i2 fun o e => same_at hs₂ (show B + 1 ≠ B by omega) (same_at hs₁ (show B + 1 ≠ B + 4 by omega) e))
    ((hl2.extBut hs₁.extBut (show t2 ≠ B + 4 by omega)).extBut hs₂.extBut (show t2 ≠ B by omega)) hy fun h₃ e hs₃ he => ?_)
  exact hE h₃ e (fun c o hc q => hs₃ c o (show c ≠ B + 1 by omega) (same_at hs₂ (show c ≠ B by omega) (same_at hs₁ (show c ≠ B + 4 by omega) q))) he
theorem zt_pyNext {prog : Program} {w : World} {A : Around} {E : Value → Shared → Prop} {s : Shared} {B t1 t2 S i : Nat} {xs ys : Array Value} {x y : Value} {Q : Option Value → Shared → Prop} (h12 : t1 < B ∧ t2 < B) (hS : B + 4 < S) (hSz : S < s.heap.objs.size)
    (Z : ZSt s.heap B t1 t2 S i) (hl1 : IsTup s.heap t1 xs) (hl2 : IsTup s.heap t2 ys) (hx : xs[i]? = some x) (hy : ys[i]? = some y)
    (hQ : ∀ h', ZSt h' B t1 t2 S (i + 1) → IsPair h' s.heap.objs.size x y → h'.objs.size = s.heap.objs.size + 1 → ZKeep B s.heap h' → Q (some (.ref s.heap.objs.size)) { s with heap := h' }) :
    wpAny (model prog w) A (pyNext (.ref (B + 4))) Q E s := by
  obtain ⟨zz, TI, TO, i1, i2⟩ := Z
  unfold pyNext
  rcases zz with ⟨rfl, hz⟩ | ⟨T, f, oT, hz, hT, hST⟩
  · have hTy : s.TypeIs (.ref (B + 4)) "zip" := ⟨_, hz, rfl⟩
    exact wpAny_bind (wpAny_attempt (wpAny_callSpecial?_slot (name := Str.ofString "__next__") hTy F.slot_zip_next
      (wpAny_call_entry F.slot_zip_next hTy F.entry_zip_next (zt_first h12 hS hSz hz TI TO i1 i2 hl1 hl2 hx hy fun h' a1 a2 a3 a4 => wpAny_pure (hQ h' a1 a2 a3 a4)) (F.args_zip_next_1 _))))
  · have hTy : s.TypeIs (.ref (B + 4)) "zip" := ⟨_, hz, rfl⟩
    exact wpAny_bind (wpAny_attempt (wpAny_callSpecial?_slot (name := Str.ofString "__next__") hTy F.slot_zip_next
      (wpAny_call_entry F.slot_zip_next hTy F.entry_zip_next (zt_more h12 hS hSz hz hT hST TI TO i1 i2 hl1 hl2 hx hy fun h' a1 a2 a3 a4 => wpAny_pure (hQ h' a1 a2 a3 a4)) (F.args_zip_next_1 _))))
theorem zt_pyEnd {prog : Program} {w : World} {A : Around} {E : Value → Shared → Prop} {s : Shared} {B t1 t2 S i : Nat} {xs ys : Array Value} {x : Value} {Q : Option Value → Shared → Prop} (hh : A.handled = none) (h12 : t1 < B ∧ t2 < B) (hS : B + 4 < S) (hSz : S < s.heap.objs.size)
    (Z : ZSt s.heap B t1 t2 S i) (hi : i ≠ 0) (hl1 : IsTup s.heap t1 xs) (hl2 : IsTup s.heap t2 ys) (hx : xs[i]? = some x) (hy : ys[i]? = none)
    (hQ : ∀ h', ZKeep B s.heap h' → Q none { s with heap := h' }) :
    wpAny (model prog w) A (pyNext (.ref (B + 4))) Q E s := by
  obtain ⟨zz, TI, TO, i1, i2⟩ := Z
  unfold pyNext
  rcases zz with ⟨rfl, hz⟩ | ⟨T, f, oT, hz, hT, hST⟩
  · exact absurd rfl hi
  · have hTy : s.TypeIs (.ref (B + 4)) "zip" := ⟨_, hz, rfl⟩
    refine wpAny_bind (wpAny_attempt (wpAny_callSpecial?_slot (name := Str.ofString "__next__") hTy F.slot_zip_next
      (wpAny_call_entry F.slot_zip_next hTy F.entry_zip_next (zt_end hh h12 hS hSz hz hT TI i1 i2 hl1 hl2 hx hy fun h' e hk he => ?_) (F.args_zip_next_1 _))))
    obtain ⟨o, ho, hc⟩ := he
    refine wpAny_bind (wpAny_isInstance (T := "StopIteration") (b := true) ⟨o, ho, hc⟩ isSubtype_stop ?_)
    exact wpAny_pure (hQ _ hk)
end
section
theorem offZipV : True := by
  w_top off
  trivial
structure PR where
  a : Addr
  one : PT
  other : PT
noncomputable def PR.pp (p : PR) : PT × PT := (p.one, p.other)
noncomputable def rled (prs : List PR) : List (Addr × Obj) := prs.map fun p => (p.a, tupOf [.ref p.one.a, .ref p.other.a])
noncomputable abbrev rlist (prs : List PR) (k : Nat) : Obj := listOf (prs.map fun p => Value.ref p.a).toArray k
noncomputable abbrev pvs (ps : List PT) : List Value := ps.map fun p => Value.ref p.a
theorem tup_call {prog : Program} {w : World} {A : Around} {E : Value → Shared → Prop} {s : Shared} {t1 t2 : Nat} {xs ys : Array Value} {Q : Value → Shared → Prop} (hl1 : IsTup s.heap t1 xs) (hl2 : IsTup s.heap t2 ys)
    (h : ∀ h' B, s.heap.objs.size = B → (∀ S, ZSt h' B t1 t2 S 0) → t1 < B ∧ t2 < B → h'.objs.size = B + 5 → (∀ c o, s.heap.get? c = some o → h'.get? c = some o) → Q (.ref (B + 4)) { s with heap := h' }) :
    wpAny (model prog w) A (call (.type "zip") [.ref t1, .ref t2]) Q E s := by
  have h1 : Meets (Builtin.«zip.__new__» ⟨[.type "zip", .ref t1, .ref t2], []⟩) (fun _ R s => IsTup s.heap t1 xs ∧ IsTup s.heap t2 ys ∧
      R (.ok (.ret (.ref (s.heap.objs.size + 4)))) { s with heap := ((((s.heap.push { cls := .type "tuple_iterator", data := .fields #[.ref t1, .int 0 0] }).push { cls := .type "tuple_iterator", data := .fields #[.ref t2, .int 0 0] }).push { cls := .type "tuple", data := .seq #[.ref s.heap.objs.size, .ref (s.heap.objs.size + 1)] }).push
        { cls := .type "tuple", data := .seq #[.none, .none] }).push { cls := .type "zip", data := .fields #[.none, .bool false, .bool false, .ref (s.heap.objs.size + 2), .ref (s.heap.objs.size + 3)] } }) :=
    .of_wp fun prog w A R s h => by
      obtain ⟨hp, g, d, tk, os⟩ := s; obtain ⟨hl1, hl2, h⟩ := h
      have hsub := sub_zip
      have hL1 : Heap.IsTuple (Shared.heap ⟨hp, g, d, tk, os⟩) t1 xs := hl1
      have hL2 : Heap.IsTuple (Shared.heap ⟨hp.push { cls := .type "tuple_iterator", data := .fields #[.ref t1, .int 0 0] }, g, d, tk, os⟩) t2 ys := Heap.IsTuple.push hl2 _
      wp_walk using wpAny_pyIter_tuple hL1, wpAny_pyIter_tuple hL2
      refine ⟨_, rfl, ?_⟩
      simp only [Heap.size_push] at h ⊢
      exact h
  refine callType_new F.called_zip (by decide) (F.typeCall_zip_2 _ _) (F.newCall_zip_2 _ _) (fun obj => F.args_object_init_3 obj _ _) F.entry_zip_new h1 ⟨hl1, hl2, ?_⟩
  have hp := s.heap
  have b1 : t1 < s.heap.objs.size := hl1.lt
  have b2 : t2 < s.heap.objs.size := hl2.lt
  generalize hH : ((((s.heap.push { cls := .type "tuple_iterator", data := .fields #[.ref t1, .int 0 0] }).push { cls := .type "tuple_iterator", data := .fields #[.ref t2, .int 0 0] }).push { cls := .type "tuple", data := .seq #[.ref s.heap.objs.size, .ref (s.heap.objs.size + 1)] }).push
        { cls := .type "tuple", data := .seq #[.none, .none] }).push { cls := .type "zip", data := .fields #[.none, .bool false, .bool false, .ref (s.heap.objs.size + 2), .ref (s.heap.objs.size + 3)] } = H
  have g5 : H.get? (s.heap.objs.size + 4) = some { cls := .type "zip", data := .fields #[.none, .bool false, .bool false, .ref (s.heap.objs.size + 2), .ref (s.heap.objs.size + 3)] } := by
    rw [← hH, ← show ((((s.heap.push { cls := .type "tuple_iterator", data := .fields #[.ref t1, .int 0 0] }).push { cls := .type "tuple_iterator", data := .fields #[.ref t2, .int 0 0] }).push { cls := .type "tuple", data := .seq #[.ref s.heap.objs.size, .ref (s.heap.objs.size + 1)] }).push { cls := .type "tuple", data := .seq #[.none, .none] }).objs.size = s.heap.objs.size + 4 by simp only [Heap.size_push]]
    exact Heap.get?_push_size _ rfl
  have g4 : H.get? (s.heap.objs.size + 3) = some { cls := .type "tuple", data := .seq #[.none, .none] } := by
    rw [← hH]
    refine Heap.get?_push_of_some _ ?_
    rw [← show (((s.heap.push { cls := .type "tuple_iterator", data := .fields #[.ref t1, .int 0 0] }).push { cls := .type "tuple_iterator", data := .fields #[.ref t2, .int 0 0] }).push { cls := .type "tuple", data := .seq #[.ref s.heap.objs.size, .ref (s.heap.objs.size + 1)] }).objs.size = s.heap.objs.size + 3 by simp only [Heap.size_push]]
    exact Heap.get?_push_size _ rfl
  have g3 : H.get? (s.heap.objs.size + 2) = some { cls := .type "tuple", data := .seq #[.ref s.heap.objs.size, .ref (s.heap.objs.size + 1)] } := by
    rw [← hH]
    refine Heap.get?_push_of_some _ (Heap.get?_push_of_some _ ?_)
    rw [← show ((s.heap.push { cls := .type "tuple_iterator", data := .fields #[.ref t1, .int 0 0] }).push { cls := .type "tuple_iterator", data := .fields #[.ref t2, .int 0 0] }).objs.size = s.heap.objs.size + 2 by simp only [Heap.size_push]]
    exact Heap.get?_push_size _ rfl
  have g2 : H.get? (s.heap.objs.size + 1) = some { cls := .type "tuple_iterator", data := .fields #[.ref t2, .int 0 0] } := by
    rw [← hH]
    refine Heap.get?_push_of_some _ (Heap.get?_push_of_some _ (Heap.get?_push_of_some _ ?_))
    rw [← show (s.heap.push { cls := .type "tuple_iterator", data := .fields #[.ref t1, .int 0 0] }).objs.size = s.heap.objs.size + 1 by simp only [Heap.size_push]]
    exact Heap.get?_push_size _ rfl
  have g1 : H.get? s.heap.objs.size = some { cls := .type "tuple_iterator", data := .fields #[.ref t1, .int 0 0] } := by
    rw [← hH]
    exact Heap.get?_push_of_some _ (Heap.get?_push_of_some _ (Heap.get?_push_of_some _ (Heap.get?_push_of_some _ (Heap.get?_push_size _ rfl))))
  have hk : ∀ c o, s.heap.get? c = some o → H.get? c = some o := fun c o e => by
    rw [← hH]
    exact Heap.get?_push_of_some _ (Heap.get?_push_of_some _ (Heap.get?_push_of_some _ (Heap.get?_push_of_some _ (Heap.get?_push_of_some _ e))))
  refine ⟨⟨_, g5, rfl⟩, h H s.heap.objs.size rfl (fun S => ⟨.inl ⟨rfl, g5⟩, g3, ⟨_, _, g4⟩, ⟨_, g1, rfl, rfl⟩, ⟨_, g2, rfl, rfl⟩⟩) ⟨b1, b2⟩ (by rw [← hH]; simp only [Heap.size_push]) hk⟩
theorem pvs_at {ps : List PT} {i : Nat} (h : i < ps.length) : ((pvs ps).toArray)[i]? = some (Value.ref ps[i].a) := by
  rw [List.getElem?_toArray, pvs, List.getElem?_map, List.getElem?_eq_getElem h]; rfl
theorem pvs_dr {ps : List PT} {i : Nat} (h : i + 1 < ps.length) : (((pvs ps).drop 1).toArray)[i]? = some (Value.ref ps[i + 1].a) := by
  rw [List.getElem?_toArray, List.getElem?_drop, pvs, List.getElem?_map, Nat.add_comm, List.getElem?_eq_getElem h]; rfl
theorem pvs_end {ps : List PT} {i : Nat} (h : ps.length ≤ i + 1) : (((pvs ps).drop 1).toArray)[i]? = none := by
  rw [List.getElem?_toArray, List.getElem?_drop, pvs, List.getElem?_map, Nat.add_comm, List.getElem?_eq_none h]; rfl
theorem rl_push {prs : List PR} {p : PR} {k : Nat} : rlist (prs ++ [p]) k = { cls := .type "list", dict := none, data := .seq ((prs.map fun p => Value.ref p.a).toArray.push (Value.ref p.a)) k, slots := #[] } := by
  simp [rlist]
theorem zt_loop {prog : Program} {w : World} {A : Around} {s : Shared} {R : Result → Shared → Prop} {B t1 t2 S : Nat} {ps : List PT} (hh : A.handled = none) (h12 : t1 < B ∧ t2 < B) (hS : B + 4 < S) (hl : 2 ≤ ps.length ∧ ps.length ≤ 4000) (res : Value) {h₁ : Heap}
    (hR : ∀ h' tk prs c, (∀ (b : Nat) o, b ≠ S → b < B ∨ B + 5 ≤ b → h₁.get? b = some o → h'.get? b = some o) → h'.get? S = some (rlist prs c) → prs.map PR.pp = ps.zip (ps.drop 1) → (∀ p ∈ rled prs, S < p.1 ∧ h'.get? p.1 = some p.2) →
      R (.ok (.ret res)) { s with heap := h', toks := tk }) :
    ∀ (k i : Nat) (h : Heap) (tk c : Nat) (prs : List PR), (ps.length - 1) - i = k → i ≤ ps.length - 1 → ZSt h B t1 t2 S i → IsTup h t1 (pvs ps).toArray → IsTup h t2 ((pvs ps).drop 1).toArray → (∀ (b : Nat) o, b ≠ S → b < B ∨ B + 5 ≤ b → h₁.get? b = some o → h.get? b = some o) →
      h.get? S = some (rlist prs c) → prs.map PR.pp = (ps.zip (ps.drop 1)).take i → (∀ p ∈ rled prs, S < p.1 ∧ h.get? p.1 = some p.2) →
      codeAny (model prog w) A (.builtin "list.extend.loop" ⟨[.ref S, .ref (B + 4), res], []⟩) R { s with heap := h, toks := tk } := by
  intro k
  have hzl : (ps.zip (ps.drop 1)).length = ps.length - 1 := by rw [List.length_zip, List.length_drop]; omega
  induction k with
  | zero =>
    intro i h tk c prs hk hi Z hT1 hT2 hkeep hSS hpp hld
    have hin : i = ps.length - 1 := by omega
    refine codeAny_builtin PySem.F.entry_extend_loop ?_
    rw [Around.under_plainId PySem.F.plain_extend_loop _]
    show wpAny _ A.in1 (pyNext (.ref (B + 4)) >>= _) _ _ _
    have e1 : ((pvs ps).toArray)[i]? = some (Value.ref (ps[i]'(by omega)).a) := pvs_at (by omega)
    have e2 : (((pvs ps).drop 1).toArray)[i]? = none := pvs_end (by omega)
    refine wpAny_bind (zt_pyEnd (s := { s with heap := h, toks := tk }) (A := A.in1) hh h12 hS (Heap.lt_size hSS) Z (by omega) hT1 hT2 e1 e2 fun h' he => ?_)
    refine wpAny_pure (hR h' tk prs c (fun b o h1 h2 e => he b o h2 (hkeep b o h1 h2 e)) (he S _ (by omega) hSS) ?_ fun p hp => ⟨(hld p hp).1, he p.1 _ (by have := (hld p hp).1; omega) (hld p hp).2⟩)
    rw [hpp, List.take_of_length_le (by omega)]
  | succ k ih =>
    intro i h tk c prs hk hi Z hT1 hT2 hkeep hSS hpp hld
    have hlt : i + 1 < ps.length := by omega
    have hal : prs.length = i := by
      have := congrArg List.length hpp
      rw [List.length_map, List.length_take, hzl] at this; omega
    refine codeAny_builtin PySem.F.entry_extend_loop ?_
    rw [Around.under_plainId PySem.F.plain_extend_loop _]
    show wpAny _ A.in1 (pyNext (.ref (B + 4)) >>= _) _ _ _
    have e1 : ((pvs ps).toArray)[i]? = some (Value.ref (ps[i]'(by omega)).a) := pvs_at (by omega)
    have e2 : (((pvs ps).drop 1).toArray)[i]? = some (Value.ref (ps[i + 1]'hlt).a) := pvs_dr hlt
    refine wpAny_bind (zt_pyNext (s := { s with heap := h, toks := tk }) (A := A.in1) h12 hS (Heap.lt_size hSS) Z hT1 hT2 e1 e2 fun h' Z' ht hz hkp => ?_)
    dsimp only at ht hz hkp ⊢
    have hS' := hkp S _ (by omega) hSS
    have hSl : S < h.objs.size := Heap.lt_size hSS
    have up : ∀ (b : Nat) o, b ≠ S → h'.get? b = some o → (h'.update S (Obj.mapSeq (·.push (Value.ref h.objs.size)))).get? b = some o := fun b o hb e => (Heap.get?_update_other _ _ (Ne.symm hb)).trans e
    obtain ⟨pr, hpr⟩ : ∃ pr : PR, pr = PR.mk h.objs.size (ps[i]'(by omega)) (ps[i + 1]'hlt) := ⟨_, rfl⟩
    have hpa : pr.a = h.objs.size := by rw [hpr]
    obtain ⟨cc, hU⟩ : ∃ cc, (h'.update S (Obj.mapSeq (·.push (Value.ref h.objs.size)))).get? S = some (rlist (prs ++ [pr]) cc) := ⟨_, by rw [rl_push, hpa]; exact Heap.get?_update_self (Obj.mapSeq (·.push (Value.ref h.objs.size))) hS' rfl⟩
    show wpAny _ A.in1 (updateSeq S (·.push (Value.ref h.objs.size)) >>= _) _ _ _
    refine wpAny_bind ?_
    refine wpAny_updateSeq hS' rfl (wpAny_pure ⟨plainId_quiet PySem.F.plain_extend_loop _, ih (i + 1) _ tk cc (prs ++ [pr]) (by omega) (by omega) (Z'.keep hS up) ?_ ?_ ?_ ?_ ?_ ?_⟩) ?_ ?_
    · obtain ⟨o, e, r⟩ := hT1; exact ⟨o, up _ _ (by omega) (hkp _ _ (by omega) e), r⟩
    · obtain ⟨o, e, r⟩ := hT2; exact ⟨o, up _ _ (by omega) (hkp _ _ (by omega) e), r⟩
    · exact fun b o h1 h2 e => up b o h1 (hkp b o h2 (hkeep b o h1 h2 e))
    · exact hU
    · rw [List.map_append, hpp, hpr, List.take_succ, show (ps.zip (ps.drop 1))[i]? = some (ps[i]'(by omega), ps[i + 1]'hlt) from List.getElem?_zip_eq_some.mpr ⟨List.getElem?_eq_getElem _, by rw [List.getElem?_drop, Nat.add_comm]; exact List.getElem?_eq_getElem _⟩]; rfl
    · intro p hp
      rw [rled, List.map_append] at hp
      rcases List.mem_append.mp hp with hp | hp
      · have hq := hld p hp
        exact ⟨hq.1, up _ _ (Nat.ne_of_gt hq.1) (hkp _ _ (by have := hq.1; omega) hq.2)⟩
      · rw [List.mem_singleton.mp hp, hpr]
        exact ⟨hSl, up _ _ (Nat.ne_of_gt hSl) ht⟩
    · simp only [List.size_toArray, List.length_map]; rw [hal]; have : (4000 : Nat) ≤ sizeLine := Nat.le_of_ble_eq_true rfl; omega
    · simp only [Array.size_push, List.size_toArray, List.length_map]; rw [hal]; have : (4000 : Nat) ≤ sizeLine := Nat.le_of_ble_eq_true rfl; omega
theorem zip_no_len : typeLookup (.type "zip") "__len__" = pure none := by rw [typeLookup_type, builtinLookup_eq_fast]; kernel_rfl
theorem zip_no_hint : typeLookup (.type "zip") "__length_hint__" = pure none := by rw [typeLookup_type, builtinLookup_eq_fast]; kernel_rfl
theorem zt_hint {prog : Program} {w : World} {A : Around} {E : Value → Shared → Prop} {s : Shared} {z : Addr} (hT : s.TypeIs (.ref z) "zip") {Q : Bool → Shared → Prop} (h : Q true s) : wpAny (model prog w) A (Builtin.List.listLengthHint (.ref z)) Q E s := by
  unfold Builtin.List.listLengthHint
  refine wpAny_bind (wpAny_specialOf hT zip_no_len ?_)
  refine wpAny_ite_split (fun hab => absurd hab (by decide)) (fun _ => ?_)
  refine wpAny_ite_split (fun hab => absurd hab (by decide)) (fun _ => ?_)
  refine wpAny_bind (wpAny_specialOf hT zip_no_hint ?_)
  exact wpAny_pure h
theorem ZSt.typeIs {s : Shared} {B t1 t2 S i : Nat} (Z : ZSt s.heap B t1 t2 S i) : s.TypeIs (.ref (B + 4)) "zip" := by
  rcases Z.zz with ⟨_, hz⟩ | ⟨T, f, oT, hz, _⟩
  · exact ⟨_, hz, rfl⟩
  · exact ⟨_, hz, rfl⟩
theorem zt_iter {prog : Program} {w : World} {A : Around} {E : Value → Shared → Prop} {s : Shared} {B t1 t2 S i : Nat} {Q : Value → Shared → Prop} (Z : ZSt s.heap B t1 t2 S i) (h : Q (.ref (B + 4)) s) : wpAny (model prog w) A (pyIter (.ref (B + 4))) Q E s := by
  have hT : s.TypeIs (.ref (B + 4)) "zip" := Z.typeIs
  refine wpAny_pyIter_slot hT F.slot_zip_iter (wpAny_call_entry F.slot_zip_iter hT F.entry_zip_iter ?_ (F.args_zip_iter_1 _))
  show wpAny _ _ (ret (.ref (B + 4))) _ _ s
  exact wpAny_pure ⟨_, rfl, "zip", _, hT, F.slot_zip_next.lookup, h⟩
theorem zt_extend {prog : Program} {w : World} {A : Around} {s : Shared} {R : Result → Shared → Prop} {B t1 t2 S : Nat} {ps : List PT} (hh : A.handled = none) (h12 : t1 < B ∧ t2 < B) (hS : B + 4 < S) (hl : 2 ≤ ps.length ∧ ps.length ≤ 4000) (res : Value) (Z : ZSt s.heap B t1 t2 S 0)
    (hT1 : IsTup s.heap t1 (pvs ps).toArray) (hT2 : IsTup s.heap t2 ((pvs ps).drop 1).toArray) (c₀ : Nat) (hSS : s.heap.get? S = some { cls := .type "list", data := .seq #[] c₀ })
    (hR : ∀ h' tk prs c, (∀ (b : Nat) o, b ≠ S → b < B ∨ B + 5 ≤ b → s.heap.get? b = some o → h'.get? b = some o) → h'.get? S = some (rlist prs c) → prs.map PR.pp = ps.zip (ps.drop 1) → (∀ p ∈ rled prs, S < p.1 ∧ h'.get? p.1 = some p.2) →
      R (.ok (.ret res)) { s with heap := h', toks := tk }) :
    wpAny (model prog w) A.in1 (Builtin.List.listExtendWith (.ref S) (.ref (B + 4)) res)
      (fun fin s' => match fin with | .done f => R (.ok f) s' | .again c' => c'.quiet = true ∧ codeAny (model prog w) A c' R s') (fun e s' => R (.error e) s') s := by
  have key : ∀ (h : Heap) (c₁ tk : Nat), (∀ (b : Nat) o, b ≠ S → s.heap.get? b = some o → h.get? b = some o) →
      h.get? S = some { cls := .type "list", data := .seq #[] c₁ } → codeAny (model prog w) A (.builtin "list.extend.loop" ⟨[.ref S, .ref (B + 4), res], []⟩) R { s with heap := h, toks := tk } := by
    intro h c₁ tk hk hS₁
    refine zt_loop (h₁ := s.heap) hh h12 hS hl res hR (ps.length - 1) 0 h tk c₁ [] rfl (Nat.zero_le _) (Z.keep hS hk) ?_ ?_ (fun b o h1 _ e => hk b o h1 e) hS₁ (by simp) (fun _ hp => nomatch hp)
    · obtain ⟨o, e, r⟩ := hT1; exact ⟨o, hk _ _ (by omega) e, r⟩
    · obtain ⟨o, e, r⟩ := hT2; exact ⟨o, hk _ _ (by omega) e, r⟩
  unfold Builtin.List.listExtendWith
  refine wpAny_bind (wpAny_typeOf (T := "zip") Z.typeIs ?_)
  have h1 : Builtin.List.listSameRef (.ref S) (.ref (B + 4)) = false := by simp [Builtin.List.listSameRef]; exact Nat.ne_of_gt hS
  have h2 : (Value.type "zip" == Value.type "list") = false := by decide
  have h3 : (Value.type "zip" == Value.type "tuple") = false := by decide
  simp only [h1, h2, h3, Bool.or_false, Bool.false_eq_true, if_false]
  refine wpAny_bind (zt_iter Z ?_)
  refine wpAny_bind (wpAny_holding (zt_hint Z.typeIs ?_))
  refine wpAny_ite_split (fun _ => ?_) (fun _ => wpAny_pure ⟨plainId_quiet PySem.F.plain_extend_loop _, key _ c₀ _ (fun b o _ e => e) hSS⟩)
  refine wpAny_bind (wpAny_rule ?_)
  refine wpAny_bind ?_
  show wpAny _ _ (updateSeq S (·.push .none) >>= fun _ => updateSeq S (·.pop)) _ _ _
  refine wpAny_bind (wpAny_updateSeq hSS rfl ?_)
  have hS₂ := Heap.get?_update_self (Obj.mapSeq (·.push Value.none)) hSS rfl
  refine wpAny_updateSeq (hz := by seq_fits) hS₂ rfl ?_
  have hS₃ := Heap.get?_update_self (Obj.mapSeq (·.pop)) hS₂ rfl
  refine wpAny_pure ⟨plainId_quiet PySem.F.plain_extend_loop _, key _ _ _ (fun b o hb e => ?_) hS₃⟩
  exact (Heap.get?_update_other _ _ (Ne.symm hb)).trans ((Heap.get?_update_other _ _ (Ne.symm hb)).trans e)
theorem zt_list {prog : Program} {w : World} {A : Around} {E : Value → Shared → Prop} {s : Shared} {B t1 t2 : Nat} {ps : List PT} {Q : Value → Shared → Prop} (hh : A.handled = none) (h12 : t1 < B ∧ t2 < B) (hsz : s.heap.objs.size = B + 5) (hl : 2 ≤ ps.length ∧ ps.length ≤ 4000) (Z : ZSt s.heap B t1 t2 (B + 5) 0)
    (hT1 : IsTup s.heap t1 (pvs ps).toArray) (hT2 : IsTup s.heap t2 ((pvs ps).drop 1).toArray)
    (hQ : ∀ S h' tk prs c, (∀ (b : Nat) o, b < B → s.heap.get? b = some o → h'.get? b = some o) → B < S → h'.get? S = some (rlist prs c) → prs.map PR.pp = ps.zip (ps.drop 1) → (∀ p ∈ rled prs, S < p.1 ∧ h'.get? p.1 = some p.2) →
      Q (.ref S) { s with heap := h', toks := tk }) :
    wpAny (model prog w) A (call (.type "list") [.ref (B + 4)]) Q E s := by
  refine callType_codes (Q₁ := fun obj s₁ => obj = .ref s.heap.objs.size ∧ s₁ = { s with heap := s.heap.push { cls := .type "list", data := .seq #[] } }) PySem.F.called_list (PySem.F.typeCall_list_1 _) PySem.F.entry_list_init
    (code_list_new _ ⟨rfl, rfl⟩) fun obj s₁ h₁ => ?_
  obtain ⟨rfl, rfl⟩ := h₁
  have hS : (s.heap.push { cls := .type "list", data := .seq #[] }).get? s.heap.objs.size = some { cls := .type "list", data := .seq #[] } := Heap.get?_push_size _ rfl
  refine ⟨⟨_, hS, rfl⟩, PySem.F.args_list_init_2 _ _, ?_⟩
  generalize hG : s.heap.push { cls := .type "list", data := .seq #[] } = G at hS ⊢
  have hk : ∀ (b : Nat) o, s.heap.get? b = some o → G.get? b = some o := fun b o e => by rw [← hG]; exact Heap.get?_push_of_some _ e
  show wpAny _ _ (Builtin.«list.__init__» ⟨[.ref s.heap.objs.size, .ref (B + 4)], []⟩) _ _ _
  show wpAny _ _ (do let old ← Builtin.List.listItems (.ref s.heap.objs.size); Builtin.List.listUpdate (.ref s.heap.objs.size) (fun _ => #[]); letGo old.toList.reverse; Builtin.List.listExtendWith (.ref s.heap.objs.size) (.ref (B + 4)) .none) _ _ _
  refine wpAny_bind ?_
  unfold Builtin.List.listItems
  refine wpAny_bind (wpAny_seqItems hS rfl (wpAny_pure ?_))
  show wpAny _ _ (updateSeq s.heap.objs.size (fun _ => #[]) >>= fun _ => letGo (#[] : Array Value).toList.reverse >>= fun _ => Builtin.List.listExtendWith (.ref s.heap.objs.size) (.ref (B + 4)) .none) _ _ _
  refine wpAny_bind (wpAny_updateSeq hS rfl ?_)
  have hS₂ := Heap.get?_update_self (Obj.mapSeq (fun _ => (#[] : Array Value))) hS rfl
  have oth : ∀ (b : Nat) o, b ≠ B + 5 → s.heap.get? b = some o → (G.update s.heap.objs.size (Obj.mapSeq (fun _ => (#[] : Array Value)))).get? b = some o :=
    fun b o hb e => (Heap.get?_update_other _ _ (by rw [hsz]; exact Ne.symm hb)).trans (hk b o e)
  refine wpAny_bind (wpAny_letGo ?_)
  rw [hsz] at hS₂ oth ⊢
  refine zt_extend (A := A.in1) hh h12 (by omega) hl .none (Z.keep (by omega) oth) ?_ ?_ _ hS₂ (fun h' tk prs c hk' hS' hpp hld => ⟨rfl, hQ (B + 5) h' tk prs c (fun b o hb e => hk' b o (by omega) (by omega) (oth b o (by omega) e)) (by omega) hS' hpp hld⟩)
  · obtain ⟨o, e, r⟩ := hT1; exact ⟨o, oth _ _ (by omega) e, r⟩
  · obtain ⟨o, e, r⟩ := hT2; exact ⟨o, oth _ _ (by omega) e, r⟩
end
section
local macro_rules | `(tactic| walk_at "hold") => `(tactic| refine hold ?_)
local macro_rules | `(tactic| walk_at "exec For") => `(tactic| (k_here; k_dflt refine' For_turns (by k_asm) ?_; k_whole))
local macro_rules | `(tactic| walk_at "exec For Name Name cons nil") => `(tactic| walk_at "exec For")
local macro_rules | `(tactic| walk_at "exec For Name Call cons nil") => `(tactic| walk_at "exec For")
local macro_rules | `(tactic| walk_at "exec For Name List cons nil") => `(tactic| walk_at "exec For")
local macro_rules | `(tactic| walk_at "pyIter ref") => `(tactic| walk_at "hold")
local macro_rules | `(tactic| walk_at "call type:enumerate") => `(tactic| walk_at "hold")
local macro_rules | `(tactic| walk_at "call ref") => `(tactic| refine hold_call rfl ?_)
local macro_rules | `(tactic| k_ne) => `(tactic| first | with_reducible assumption | (refine Ne.symm ?_; with_reducible assumption))
local macro_rules | `(tactic| k_all) => `(tactic| (refine AllNe.mem ?_; with_reducible assumption))
local macro_rules | `(tactic| k_mem) => `(tactic| ((repeat refine List.mem_cons_of_mem _ ?_); with_reducible assumption))
local macro_rules | `(tactic| walk_at "binaryOp FloorDiv int int") => `(tactic| with_reducible refine fdivX (by omega) ?_)
local macro_rules | `(tactic| walk_at "binaryOp Mod int int") => `(tactic| with_reducible refine mod_int' (by omega) ?_)
local macro_rules | `(tactic| size_fits) => `(tactic| (refine size_le ?_; omega))
local macro_rules | `(tactic| walk_at "call builtin:len") => `(tactic| (k_here; k_dflt (first | refine' my_len (by k_asm) (by k_mem) (by omega) ?_ | refine' my_lenT (by k_asm) (by k_mem) (by omega) ?_); k_whole))
local macro_rules | `(tactic| walk_at "subscriptTail") => `(tactic| (k_here; with_unfolding_all (first | refine' my_item (by k_asm) (by k_mem) (by omega) (by omega) (by assumption) ?_ | refine' my_itemT (by k_asm) (by k_mem) (by omega) (by omega) (by assumption) (by assumption) ?_); k_whole))
local macro_rules | `(tactic| walk_at "compareOp NotIn str ref") => `(tactic| (k_here; with_unfolding_all refine' notin_tuple_strs (kun_topT (by k_asm) (by k_asm) (by k_is)) (by kde_strs) ?_; k_whole))
local macro_rules | `(tactic| mul_fits) => `(tactic| k_dflt (refine mul_le ?_; omega))
local macro_rules | `(tactic| walk_at "binaryOp Mult ref int") => `(tactic| (k_here; k_dflt refine' my_mul (by k_asm) (by k_asm) (by is_list) (by omega) ?_; k_whole; intro _ _ _ _ l1; (try k_lt l1); (try k_sweep)))
local macro_rules | `(tactic| walk_at "setItem ref int") => `(tactic| (k_here; k_dflt refine' my_set (by k_asm) (by k_asm) (by k_upd) (by omega) (by omega) (by omega) ?_; k_whole; intros; (try k_sweep)))
local macro_rules | `(tactic| walk_at "getMethod ref") => `(tactic| with_reducible refine hold_get ?_)
local macro_rules | `(tactic| walk_at "call builtin:dict.get") => `(tactic| walk_at "hold")
section
theorem offC17 : True := by
  w_top off
  trivial
local macro_rules | `(tactic| walk_at "subscriptTail") => `(tactic| walk_at "hold")
theorem c_one {w : World} {A : Around} {s : Shared} {Q E : Value → Shared → Prop} {l ls : Addr} {x y : Int} {tx ty : Tok} {n k : Nat} {vs : List Value}
   (C : CalN w 5 120 A s.heap [(l, listOf [.int x tx, .int y ty].toArray n), (ls, listOf vs.toArray k)]) (hne : @Ne Nat l ls)
   (h0 : 0 ≤ x) (hy : 0 ≤ y) (hy' : y < 2147483647) (ht : 0 < vs.length) (ht' : vs.length < 100)
   (hret : ∀ v x' tx' y' ty' n' (h' : Heap) tk', v ∈ vs → 0 ≤ x' → 0 ≤ y' → y' < 2147483647 → Ext [l] s.heap h' → h'.get? l = some (listOf [.int x' tx', .int y' ty'].toArray n') → Q v { s with heap := h', toks := tk' }) :
   wpAny (model PG w) A (call (.ref 291) [.ref l, .ref ls]) Q E s := by
  cases C with | mk B F X T hk hd hu N =>
  obtain ⟨vs', hvs⟩ : ∃ vs' : List Value, vs' = vs := ⟨_, rfl⟩
  have hmp : vs = vs'.map fun v => v := by rw [List.map_id', hvs]
  rw [hmp] at N
  have hlv : vs'.length = vs.length := by rw [hvs]
  ((k_dflt (refine wpAny_call ?_; refine' code_vis ?k1x3 ?k2x3 ?k3x3 ?k4x3 ?k5x3 ?kAx3 ?kFx3 ?kKx3 ?k6x3 ?k7x3 ?k8x3 ?k9x3 ?kBx3 ?kMx3 ?_ ?c2x3 ?c3x3 ?c4x3 ?c5x3; (case kAx3 => exact rfl); (case kFx3 => exact rfl); (case kKx3 => assumption); (case k1x3 => k_asm); (case k2x3 => k_asm); (case k3x3 => k_asm); (case k4x3 => k_asm); (case k5x3 => k_asm); (case k6x3 => k_is); (case k7x3 => k_is); (case k8x3 => ktr_room); (case k9x3 => exact BindsTo.of_eq rfl); (case kMx3 => first | exact nice1 rfl | exact nice2 rfl | exact nice3 rfl | exact nice4 rfl | exact nice5 rfl | exact nice6 rfl); (case c5x3 => decide); (case kBx3 => exact locs rfl); (case c2x3 => exact rfl); (case c3x3 => exact rfl); (case c4x3 => exact rfl); k_whole; intro g' L' h' F' N' B' X' T' hG' hg' hlt' hsz'; (try dsimp only); (try k_fold))))
  rename ∀ (b : Addr) (o : Obj), s.heap.get? b = some o → b ∉ _ → _ => hG
  ((repeat' (first | (k_unfold; (try dsimp only)) | walk1 | (dsimp only; walk1) | (leave1; (try dsimp only)))))
  rename Fr _ _ _ _ => F1
  rename News _ _ _ _ => N1
  k_dflt (refine' unhold (c_take (Cal.mk ?B F1 ?K ?T ?hk ?hd ?hu (hX1 N1 (.head _))) (get_in N1 (.head _)) h0 hy hy' ?_ ?_ ?_))
  case B => k_asm
  case K => k_asm
  case T => k_asm
  case hk => exact rfl
  case hd => ktr_room
  case hu => ktr_units
  · omega
  · omega
  intro r t x' tx' y' ty' n' h' tk' a1 a2 a3 a4 a5 E' G'
  obtain ⟨F2, N2⟩ := upd_back F1 N1 (by refine ⟨Ne.symm hne, trivial⟩) E' G'
  clear F1 N1
  ((repeat' (first | (k_unfold; (try dsimp only)) | walk1 | (dsimp only; walk1) | (leave1; (try dsimp only)))))
  obtain ⟨v, hv⟩ : ∃ v, vs'[r.toNat]? = some v := ⟨_, List.getElem?_eq_getElem (by omega)⟩
  refine unhold (my_item (f := fun v => v) N2 (.tail _ (.head _)) a4 (by omega) hv ?_ (by with_unfolding_all rfl))
  (((try dsimp only); (try (k_unfold; (try dsimp only)))))
  rename Fr _ _ _ _ => F3
  refine hret v x' tx' y' ty' n' _ _ (by rw [← hvs]; exact List.mem_of_getElem? hv) a1 a2 a3 (ext_led hG F3 N N2 fun p hp => ?_) G'
  simp only [List.mem_cons, List.not_mem_nil, or_false] at hp
  rcases hp with rfl | rfl
  · exact .inl (.head _)
  · exact .inr (.tail _ (.head _))
end
section
theorem offC3 : True := by
  w_top off
  trivial
noncomputable def behind (o : SO) (y st : Int) : Int := 0 - Int.fdiv (0 - (2 * (o.x1 * (o.y2 - o.y1) + (o.x2 - o.x1) * (y - o.y1)) - st * (o.y2 - o.y1))) (2 * st * (o.y2 - o.y1))
noncomputable def cross (y st : Int) (o : SO) : Option (Int × Int) := if o.y1 ≤ y ∧ y < o.y2 then some (behind o y st, o.way) else none
noncomputable def SOb (o : SO) : Prop := -100 ≤ o.x1 ∧ o.x1 ≤ 100 ∧ -100 ≤ o.y1 ∧ o.y1 ≤ 100 ∧ -100 ≤ o.x2 ∧ o.x2 ≤ 100 ∧ -100 ≤ o.y2 ∧ o.y2 ≤ 100
theorem c_steps {w : World} {A : Around} {s : Shared} {Q E : Value → Shared → Prop} {l : Addr} {os : List SO} {k : Nat} {y st : Int} {ty ts : Tok}
   (C : CalN w 6 100 A s.heap ((l, slist os k) :: sled w.params os)) (hob : ∀ o ∈ os, SOb o) (hlen : os.length ≤ 4) (hy : -1000 ≤ y ∧ y ≤ 1000) (hst : 0 < st ∧ st < 100) (hway : ∀ o ∈ os, o.way = 1 ∨ o.way = -1) (hsum : ((os.filterMap (cross y st)).map (·.2)).sum = 0)
   (hret : ∀ D k' ts' (h' : Heap) tk', (ts'.map fun t => (t.c, t.e)).Perm (os.filterMap (cross y st)) → ts'.Pairwise (fun a b => a.c ≤ b.c) → Ext [] s.heap h' → NewIn s.heap h' ((D, tlist ts' k') :: tled ts') → Q (.ref D) { s with heap := h', toks := tk' }) :
   wpAny (model PG w) A (call (.ref 96) [.ref l, .int y ty, .int st ts]) Q E s := by
  cases C with | mk B F X T hk hd hu N =>
  ((k_dflt (refine wpAny_call ?_; refine' code_vis ?k1x4 ?k2x4 ?k3x4 ?k4x4 ?k5x4 ?kAx4 ?kFx4 ?kKx4 ?k6x4 ?k7x4 ?k8x4 ?k9x4 ?kBx4 ?kMx4 ?_ ?c2x4 ?c3x4 ?c4x4 ?c5x4; (case kAx4 => exact rfl); (case kFx4 => exact rfl); (case kKx4 => assumption); (case k1x4 => k_asm); (case k2x4 => k_asm); (case k3x4 => k_asm); (case k4x4 => k_asm); (case k5x4 => k_asm); (case k6x4 => k_is); (case k7x4 => k_is); (case k8x4 => ktr_room); (case k9x4 => exact BindsTo.of_eq rfl); (case kMx4 => first | exact nice1 rfl | exact nice2 rfl | exact nice3 rfl | exact nice4 rfl | exact nice5 rfl | exact nice6 rfl); (case c5x4 => decide); (case kBx4 => exact locs rfl); (case c2x4 => exact rfl); (case c3x4 => exact rfl); (case c4x4 => exact rfl); k_whole; intro g' L' h' F' N' B' X' T' hG' hg' hlt' hsz'; (try dsimp only); (try k_fold))))
  ((repeat' (first | (k_unfold; (try dsimp only)) | walk1 | (dsimp only; walk1) | (leave1; (try dsimp only)))))
  refine unhold ?_
  rename Fr _ _ _ _ => F1
  rename News _ _ _ ((_, listOf _ _) :: _) => N1
  obtain ⟨f, hf⟩ := fst_of N1
  subst hf
  rename ∀ (b : Addr) (o : Obj), s.heap.get? b = some o → b ∉ _ → _ => hG
  refine my_list (m := ?m) ((l, slist os k) :: sled w.params os) [(f, ?o)] [f] (fun i m W => (∃ u, m = (U ?m (Str.ofString "side") u)) ∧ ∃ tos n, W = (f, tlist tos n) :: tled tos ∧ AllNe f (tled tos) ∧ tos.map (fun t => (t.c, t.e)) = (os.take i).filterMap (cross y st)) rfl ?F ?N (.head _) ?h0 ?hds ?noit ?turn ?done
  case F => exact F1
  case N => exact N1
  case h0 =>
    refine ⟨side_of rfl, [], 0, rfl, trivial, rfl⟩
  case hds =>
    intro d hd
    rw [List.mem_singleton.mp hd]
    refine ⟨⟨_, .head _⟩, allLt_ne ?_⟩
    assumption
  case noit =>
    rintro i m W ⟨_, tos, n, rfl, _⟩ p hp
    rcases List.mem_cons.mp hp with rfl | hp
    · rfl
    · exact iter_tled p hp
  case turn =>
    intro SS hSS i v m₁ W1 h₁ tk₁ tl hi hv hR9 hsl htl F₂ N₂ PL
    refine lock ?_
    intro GG9
    rcases hR9 with ⟨⟨u, rfl⟩, tos, n, rfl, hne, hcs⟩
    first | k_unfold | dsimp only [GG9]
    obtain ⟨o, ho, rfl⟩ := item_map hv
    have hom := List.mem_of_getElem? ho
    obtain ⟨tl', htl'⟩ : ∃ t, t = tled tos ++ tl := ⟨_, rfl⟩
    have hx : (o.x, instObj 148 o.d) ∈ tl' := by rw [htl']; exact List.mem_append_right _ (hsl _ (.tail _ (sled_x hom)))
    have hdd := List.mem_append_right (tled tos) (hsl _ (.tail _ (sled_d hom)))
    rw [← htl'] at hdd
    have hnn : AllNe _ tl' := .of fun p hp => by
      rw [htl'] at hp
      rcases List.mem_append.mp hp with hp | hp
      · exact hne.mem p hp
      · exact (htl _ (.head _)).mem p hp
    rw [List.cons_append, ← htl'] at N₂
    obtain ⟨b1, b2, b3, b4, b5, b6, b7, b8⟩ := hob o hom
    have hl4 : tos.length ≤ 4 := by
      have := congrArg List.length hcs
      rw [List.length_map] at this
      have h2 := List.length_filterMap_le (cross y st) (os.take i)
      have h3 : (os.take i).length ≤ os.length := by rw [List.length_take]; omega
      omega
    clear hv hi
    by_cases hc : o.y1 ≤ y ∧ y < o.y2
    · have hdiv : 0 < 2 * st * (o.y2 - o.y1) := Int.mul_pos (by omega) (by omega)
      have hdiw : 2 * st * (o.y2 - o.y1) ≤ 200 * 200 := Int.mul_le_mul (by omega) (by omega) (by omega) (by omega)
      obtain ⟨hc1, hc2⟩ := hc
      ((repeat' (first | (k_unfold; (try dsimp only)) | walk1 | (dsimp only; walk1) | (leave1; (try dsimp only)))))
      refine push_post (tos := tos) f (by assumption) (by assumption) (by k_mem) (by k_mem) (by rw [← htl']; repeat (first | exact fun _ h => h | refine sub_cons ?_)) hne (by omega) (fun tos' e ha => hSS _ _ _ (⟨side_in, tos', _, rfl, ha, ?_⟩))
      rw [e, List.map_append, hcs, take_succ ho]; simp [cross, hc1, hc2, behind]
    · ((repeat' (first | (k_unfold; (try dsimp only)) | walk1 | (dsimp only; walk1) | (leave1; (try dsimp only)))))
      all_goals (
        refine keep_post (W := (f, tlist tos n) :: tled tos) (by assumption) (by assumption) (by rw [List.cons_append, ← htl']; exact fun _ h => h) (hSS _ _ _ ⟨side_in, tos, n, rfl, hne, ?_⟩)
        rw [hcs, take_succ ho, cross, if_neg hc]; simp)
  case done =>
    intro h₂ tk₂ m₂ W₂ hR9 F₂ N₂
    refine lock ?_
    intro GG9
    rcases hR9 with ⟨⟨u, rfl⟩, tos, n, rfl, hne, hcs⟩
    first | k_unfold | dsimp only [GG9]
    have hsz : (os.map fun o => Value.ref o.x).toArray.size = os.length := by simp
    rw [hsz, List.take_length] at hcs
    have hl4 : tos.length ≤ 4 := by
      have := congrArg List.length hcs
      rw [List.length_map] at this
      have h2 := List.length_filterMap_le (cross y st) os
      omega
    have hl1 : tos = [] ∨ 2 ≤ tos.length := by
      rcases Nat.lt_or_ge tos.length 2 with hlt | hge
      · rcases Nat.eq_zero_or_pos tos.length with hz0 | hz1
        · exact .inl (List.length_eq_zero_iff.mp hz0)
        · obtain ⟨t, rfl⟩ := List.length_eq_one_iff.mp (Nat.le_antisymm (Nat.le_of_lt_succ hlt) hz1)
          exfalso
          rw [← hcs] at hsum
          have hm : (t.c, t.e) ∈ os.filterMap (cross y st) := by rw [← hcs]; exact .head _
          obtain ⟨o, ho, hc⟩ := List.mem_filterMap.mp hm
          simp only [cross] at hc
          split at hc
          · have hw := hway o ho
            have : t.e = o.way := by
              have := Option.some.inj hc
              exact (congrArg Prod.snd this).symm
            simp at hsum
            omega
          · cases hc
      · exact .inr hge
    ((repeat' (first | (k_unfold; (try dsimp only)) | walk1 | (dsimp only; walk1) | (leave1; (try dsimp only)))))
    refine tup_sorted F₂ N₂ (.head _) (fun p hp => .tail _ (List.mem_append_left _ hp)) hl1 hl4 fun D k' h₃ ts' F₃ N₃ hlt hpm hs => ?_
    (((try dsimp only); (try (k_unfold; (try dsimp only)))))
    refine hret D k' ts' h₃ _ ?_ hs (ext_led hG F₃ N N₃ fun p hp => .inr (.tail _ (List.mem_append_right _ hp))) fun p hp => ?_
    · rw [← hcs]; exact hpm.map _
    · rcases List.mem_cons.mp hp with rfl | hp
      · exact ⟨fresh_led hG N₃ (.head _) (notin_lt fun p hp => hlt p (List.mem_append_right _ hp)), (N₃ _ (.head _)).1⟩
      · obtain ⟨t, ht, rfl⟩ := List.mem_map.mp hp
        have hm : (t.a, tupOf [.int t.c t.tc, .int t.e t.te]) ∈ (D, tlist ts' k') :: (((f, tlist tos n) :: tled tos) ++ (l, slist os k) :: sled w.params os) :=
          .tail _ (List.mem_append_left _ (.tail _ (List.mem_map.mpr ⟨t, hpm.mem_iff.mp ht, rfl⟩)))
        refine ⟨fresh_led hG N₃ hm (notin_led N₃ hm (fun p hp => .tail _ (List.mem_append_right _ hp)) fun p hp => ?_), (N₃ _ hm).1⟩
        rcases List.mem_cons.mp hp with rfl | hp
        · simp
        · exact (sled_it p hp).1
end
section
theorem offC4 : True := by
  w_top off
  trivial
noncomputable def ins (r : Str) (w : Int) : Bool := if r = Str.ofString "nonzero" then decide (w ≠ 0) else decide (Int.fmod w 2 ≠ 0)
noncomputable def spansGo (r : Str) : List (Int × Int) → Int → Option Int → List (Int × Int)
  | [], _, _ => []
  | (c, e) :: q, w, b =>
    if (q.head?.map (·.1)) = some c then spansGo r q (w + e) b
    else if ins r (w + e) = true then spansGo r q (w + e) (some (b.getD c))
    else match b with
      | some b0 => (b0, c) :: spansGo r q (w + e) none
      | none => spansGo r q (w + e) none
noncomputable def optV (t : Tok) : Option Int → Value
  | none => .none
  | some b => .int b t
theorem fr_snoc {tos tos' : List TO} {x : TO} {sl : List Addr} (e : tos' = tos ++ [x]) (h : ∀ t ∈ tos, t.a ∉ sl) (hx : x.a ∉ sl) : ∀ t ∈ tos', t.a ∉ sl := by
  subst e
  intro t ht
  rcases List.mem_append.mp ht with ht | ht
  · exact h t ht
  · rw [List.mem_singleton.mp ht]; exact hx
theorem insN (w : Int) : ins (Str.ofString "nonzero") w = decide (w ≠ 0) := if_pos rfl
theorem insE (w : Int) : ins (Str.ofString "evenodd") w = decide (Int.fmod w 2 ≠ 0) := if_neg (by decide)
theorem drop_i {ts : List TO} {i : Nat} {o : TO} (ho : ts[i]? = some o) : (ts.map fun t => (t.c, t.e)).drop i = (o.c, o.e) :: (ts.map fun t => (t.c, t.e)).drop (i + 1) := by
  have h : i < ts.length := (List.getElem?_eq_some_iff.mp ho).1
  have e : ts[i] = o := (List.getElem?_eq_some_iff.mp ho).2
  rw [List.drop_eq_getElem_cons (by simpa using h), List.getElem_map, e]
theorem head_i {ts : List TO} {i : Nat} : ((ts.map fun t => (t.c, t.e)).drop i).head?.map (·.1) = ts[i]?.map (·.c) := by
  rw [List.head?_drop, List.getElem?_map]; cases ts[i]? <;> rfl
theorem go_cons {r : Str} {c e w : Int} {q : List (Int × Int)} {b : Option Int} : spansGo r ((c, e) :: q) w b = if (q.head?.map (·.1)) = some c then spansGo r q (w + e) b
    else if ins r (w + e) = true then spansGo r q (w + e) (some (b.getD c))
    else match b with
      | some b0 => (b0, c) :: spansGo r q (w + e) none
      | none => spansGo r q (w + e) none := by
  cases b <;> rw [spansGo]
theorem go1 {r : Str} {ts : List TO} {i : Nat} {o q : TO} {w : Int} {b : Option Int} (ho : ts[i]? = some o) (hq : ts[i + 1]? = some q) (h : q.c = o.c) : spansGo r ((ts.map fun t => (t.c, t.e)).drop i) w b = spansGo r ((ts.map fun t => (t.c, t.e)).drop (i + 1)) (w + o.e) b := by
  rw [drop_i ho, go_cons, head_i, hq, if_pos (by simp [h])]
theorem go2 {r : Str} {ts : List TO} {i : Nat} {o : TO} {w : Int} {b : Option Int} (ho : ts[i]? = some o) (hn : ∀ q, ts[i + 1]? = some q → q.c ≠ o.c) (hi : ins r (w + o.e) = true) :
    spansGo r ((ts.map fun t => (t.c, t.e)).drop i) w b = spansGo r ((ts.map fun t => (t.c, t.e)).drop (i + 1)) (w + o.e) (some (b.getD o.c)) := by
  have : ¬ (ts[i + 1]?.map (·.c)) = some o.c := by
    cases h : ts[i + 1]? with
    | none => simp
    | some q => simpa using hn q h
  rw [drop_i ho, go_cons, head_i, if_neg this, if_pos hi]
theorem go3 {r : Str} {ts : List TO} {i : Nat} {o : TO} {w b0 : Int} (ho : ts[i]? = some o) (hn : ∀ q, ts[i + 1]? = some q → q.c ≠ o.c) (hi : ins r (w + o.e) = false) :
    spansGo r ((ts.map fun t => (t.c, t.e)).drop i) w (some b0) = (b0, o.c) :: spansGo r ((ts.map fun t => (t.c, t.e)).drop (i + 1)) (w + o.e) none := by
  have : ¬ (ts[i + 1]?.map (·.c)) = some o.c := by
    cases h : ts[i + 1]? with
    | none => simp
    | some q => simpa using hn q h
  rw [drop_i ho, go_cons, head_i, if_neg this, if_neg (by simp [hi])]
theorem go4 {r : Str} {ts : List TO} {i : Nat} {o : TO} {w : Int} (ho : ts[i]? = some o) (hn : ∀ q, ts[i + 1]? = some q → q.c ≠ o.c) (hi : ins r (w + o.e) = false) :
    spansGo r ((ts.map fun t => (t.c, t.e)).drop i) w none = spansGo r ((ts.map fun t => (t.c, t.e)).drop (i + 1)) (w + o.e) none := by
  have : ¬ (ts[i + 1]?.map (·.c)) = some o.c := by
    cases h : ts[i + 1]? with
    | none => simp
    | some q => simpa using hn q h
  rw [drop_i ho, go_cons, head_i, if_neg this, if_neg (by simp [hi])]
theorem insB {r : Str} {w : Int} {b : Bool} (hr : r = Str.ofString "nonzero" ∧ b = (w != 0) ∨ r = Str.ofString "evenodd" ∧ b = (Int.fmod w 2 != 0)) : b = ins r w := by
  rcases hr with ⟨rfl, rfl⟩ | ⟨rfl, rfl⟩
  · rw [insN]; by_cases h : w = 0 <;> simp [h]
  · rw [insE]; by_cases h : Int.fmod w 2 = 0 <;> simp [h]
theorem c_inside {w : World} {A : Around} {s : Shared} {Q E : Value → Shared → Prop} {r : Str} {wv : Int} {t tr : Tok}
   (C : Cal w 3 60 A s.heap []) (hr : r = Str.ofString "nonzero" ∨ r = Str.ofString "evenodd")
   (hret : ∀ b (h' : Heap) tk', b = ins r wv → Ext [] s.heap h' → Q (.bool b) { s with heap := h', toks := tk' }) :
   wpAny (model PG w) A (call (.ref 61) [.int wv t, .str r tr]) Q E s := by
  cases C with | mk B F X T hk hd hu hX =>
  have N := nil_of F
  rcases hr with rfl | rfl
  · ((k_dflt (refine wpAny_call ?_; refine' code_vis ?k1x5 ?k2x5 ?k3x5 ?k4x5 ?k5x5 ?kAx5 ?kFx5 ?kKx5 ?k6x5 ?k7x5 ?k8x5 ?k9x5 ?kBx5 ?kMx5 ?_ ?c2x5 ?c3x5 ?c4x5 ?c5x5; (case kAx5 => exact rfl); (case kFx5 => exact rfl); (case kKx5 => assumption); (case k1x5 => k_asm); (case k2x5 => k_asm); (case k3x5 => k_asm); (case k4x5 => k_asm); (case k5x5 => k_asm); (case k6x5 => k_is); (case k7x5 => k_is); (case k8x5 => ktr_room); (case k9x5 => exact BindsTo.of_eq rfl); (case kMx5 => first | exact nice1 rfl | exact nice2 rfl | exact nice3 rfl | exact nice4 rfl | exact nice5 rfl | exact nice6 rfl); (case c5x5 => decide); (case kBx5 => exact locs rfl); (case c2x5 => exact rfl); (case c3x5 => exact rfl); (case c4x5 => exact rfl); k_whole; intro g' L' h' F' N' B' X' T' hG' hg' hlt' hsz'; (try dsimp only); (try k_fold))))
    rename ∀ (b : Addr) (o : Obj), s.heap.get? b = some o → b ∉ _ → _ => hG
    ((repeat' (first | (k_unfold; (try dsimp only)) | walk1 | (dsimp only; walk1) | (leave1; (try dsimp only)))))
    all_goals (
      (((try dsimp only); (try (k_unfold; (try dsimp only)))))
      refine hret _ _ _ (insB (.inl ⟨rfl, ?_⟩)) (ext_of hG (by assumption))
      first | rfl | simp_all)
  · ((k_dflt (refine wpAny_call ?_; refine' code_vis ?k1x6 ?k2x6 ?k3x6 ?k4x6 ?k5x6 ?kAx6 ?kFx6 ?kKx6 ?k6x6 ?k7x6 ?k8x6 ?k9x6 ?kBx6 ?kMx6 ?_ ?c2x6 ?c3x6 ?c4x6 ?c5x6; (case kAx6 => exact rfl); (case kFx6 => exact rfl); (case kKx6 => assumption); (case k1x6 => k_asm); (case k2x6 => k_asm); (case k3x6 => k_asm); (case k4x6 => k_asm); (case k5x6 => k_asm); (case k6x6 => k_is); (case k7x6 => k_is); (case k8x6 => ktr_room); (case k9x6 => exact BindsTo.of_eq rfl); (case kMx6 => first | exact nice1 rfl | exact nice2 rfl | exact nice3 rfl | exact nice4 rfl | exact nice5 rfl | exact nice6 rfl); (case c5x6 => decide); (case kBx6 => exact locs rfl); (case c2x6 => exact rfl); (case c3x6 => exact rfl); (case c4x6 => exact rfl); k_whole; intro g' L' h' F' N' B' X' T' hG' hg' hlt' hsz'; (try dsimp only); (try k_fold))))
    rename ∀ (b : Addr) (o : Obj), s.heap.get? b = some o → b ∉ _ → _ => hG
    ((repeat' (first | (k_unfold; (try dsimp only)) | walk1 | (dsimp only; walk1) | (leave1; (try dsimp only)))))
    all_goals (
      (((try dsimp only); (try (k_unfold; (try dsimp only)))))
      refine hret _ _ _ (insB (.inr ⟨rfl, ?_⟩)) (ext_of hG (by assumption))
      first | rfl | simp_all)
theorem c_spans {w : World} {A : Around} {s : Shared} {Q E : Value → Shared → Prop} {l : Addr} {ts : List TO} {k : Nat} {r : Str} {tr : Tok}
   (C : CalN w 6 100 A s.heap ((l, tlist ts k) :: tled ts)) (hr : r = Str.ofString "nonzero" ∨ r = Str.ofString "evenodd") (h4 : ts.length ≤ 4)
   (hret : ∀ D k' ts' (h' : Heap) tk', (ts'.map fun t => (t.c, t.e)) = spansGo r (ts.map fun t => (t.c, t.e)) 0 none → ts'.length ≤ ts.length → Ext [] s.heap h' → NewIn s.heap h' ((D, tlist ts' k') :: tled ts') → Q (.ref D) { s with heap := h', toks := tk' }) :
   wpAny (model PG w) A (call (.ref 103) [.ref l, .str r tr]) Q E s := by
  cases C with | mk B F X T hk hd hu N =>
  ((k_dflt (refine wpAny_call ?_; refine' code_vis ?k1x7 ?k2x7 ?k3x7 ?k4x7 ?k5x7 ?kAx7 ?kFx7 ?kKx7 ?k6x7 ?k7x7 ?k8x7 ?k9x7 ?kBx7 ?kMx7 ?_ ?c2x7 ?c3x7 ?c4x7 ?c5x7; (case kAx7 => exact rfl); (case kFx7 => exact rfl); (case kKx7 => assumption); (case k1x7 => k_asm); (case k2x7 => k_asm); (case k3x7 => k_asm); (case k4x7 => k_asm); (case k5x7 => k_asm); (case k6x7 => k_is); (case k7x7 => k_is); (case k8x7 => ktr_room); (case k9x7 => exact BindsTo.of_eq rfl); (case kMx7 => first | exact nice1 rfl | exact nice2 rfl | exact nice3 rfl | exact nice4 rfl | exact nice5 rfl | exact nice6 rfl); (case c5x7 => decide); (case kBx7 => exact locs rfl); (case c2x7 => exact rfl); (case c3x7 => exact rfl); (case c4x7 => exact rfl); k_whole; intro g' L' h' F' N' B' X' T' hG' hg' hlt' hsz'; (try dsimp only); (try k_fold))))
  ((repeat' (first | (k_unfold; (try dsimp only)) | walk1 | (dsimp only; walk1) | (leave1; (try dsimp only)))))
  refine unhold ?_
  rename ∀ (b : Addr) (o : Obj), s.heap.get? b = some o → b ∉ _ → _ => hG
  rename Fr _ _ _ _ => F1
  rename News _ _ _ _ => N1
  replace N1 := News.subs N1 fun p hp => List.mem_cons_of_mem _ hp
  obtain ⟨f, hf⟩ := fst_of N1
  subst hf
  refine my_enum (m := ?m) ((l, tlist ts k) :: tled ts) [(f, ?o)] [f] (fun i m W => ∃ wv b, (∃ u1 u2 u3 wt bt, m = (U (U (U (U (U ?m (Str.ofString "at") u3) (Str.ofString "column") u2) (Str.ofString "way") u1) (Str.ofString "winding") (some (.int wv wt))) (Str.ofString "begin") (some (optV bt b)))) ∧
     ∃ fs n, W = (f, tlist fs n) :: tled fs ∧ AllNe f (tled fs) ∧ fs.length ≤ i ∧ (∀ t ∈ fs, t.a ∉ (((l, tlist ts k) :: tled ts).map (·.1))) ∧ fs.map (fun t => (t.c, t.e)) ++ spansGo r ((ts.map fun t => (t.c, t.e)).drop i) wv b = spansGo r (ts.map fun t => (t.c, t.e)) 0 none) rfl ?F ?N (.head _) ?h0 ?hds ?noit ?turn ?done
  case F => exact F1
  case N => exact N1
  case h0 =>
    refine ⟨0, none, ⟨?u1, ?u2, ?u3, ?wt, 0, ?mp⟩, [], 0, rfl, trivial, Nat.le_refl _, (fun _ h => nomatch h), rfl⟩
    case mp => ((refine extU5 ?hoffx8 ?e1x8 ?e2x8 ?e3x8 ?e4x8 ?e5x8; (case e1x8 => rfl); (case e2x8 => rfl); (case e3x8 => rfl); (case e4x8 => rfl); (case e5x8 => rfl); (case hoffx8 => (repeat' (first | with_reducible exact Off.same | with_reducible exact List.Mem.head _ | with_reducible refine List.Mem.tail _ ?_ | with_reducible refine Off.l ?_ ?_)))))
  case hds =>
    intro d hd
    rw [List.mem_singleton.mp hd]
    refine ⟨⟨_, .head _⟩, allLt_ne ?_⟩
    assumption
  case noit =>
    rintro i m W ⟨_, _, _, fs, n, rfl, _⟩ p hp
    rcases List.mem_cons.mp hp with rfl | hp
    · rfl
    · exact iter_tled p hp
  case turn =>
    intro SS hSS i v t T m₁ W1 h₁ tk₁ tl hi hv hT hR9 hsl htl F₂ N₂ PL
    refine lock ?_
    intro GG9
    rcases hR9 with ⟨wv, b, ⟨u1, u2, u3, wt, bt, rfl⟩, fs, n, rfl, hne, hfl, hfr, hcs⟩
    first | k_unfold | dsimp only [GG9]
    obtain ⟨o, ho, rfl⟩ := item_map hv
    have hom := List.mem_of_getElem? ho
    obtain ⟨tl', htl'⟩ : ∃ t, t = tled fs ++ tl := ⟨_, rfl⟩
    have hx : ∀ o ∈ ts, (o.a, tupOf [.int o.c o.tc, .int o.e o.te]) ∈ tl' := fun o ho => by rw [htl']; exact List.mem_append_right _ (hsl _ (.tail _ (List.mem_map.mpr ⟨o, ho, rfl⟩)))
    have hxo := hx o hom
    have hlm : (l, tlist ts k) ∈ tl' := by rw [htl']; exact List.mem_append_right _ (hsl _ (.head _))
    have hnn : AllNe f tl' := .of fun p hp => by
      rw [htl'] at hp
      rcases List.mem_append.mp hp with hp | hp
      · exact hne.mem p hp
      · exact (htl _ (.head _)).mem p hp
    have hslt : ∀ p ∈ (l, tlist ts k) :: tled ts, p ∈ tl' := fun p hp => by rw [htl']; exact List.mem_append_right _ (hsl p hp)
    rw [List.cons_append, ← htl'] at N₂
    have hi' : i < ts.length := by simpa using hi
    have hl4 : fs.length ≤ 4 := by omega
    clear hv hi
    by_cases hlast : i + 1 < ts.length
    · obtain ⟨q, hq⟩ : ∃ q, ts[i + 1]? = some q := ⟨_, List.getElem?_eq_getElem hlast⟩
      have hq' : ts[((i : Int) + 1).toNat]? = some q := by rw [← hq]; congr 1
      have hxq := hx q (List.mem_of_getElem? hq)
      cases b with
      | none =>
        simp only [optV] at F₂
        ((repeat' (first | ((with_reducible show wpAny _ _ (call (Value.ref 61) _) _ _ _); k_dflt (refine' c_inside (Cal.mk (by k_asm) (by k_asm) (by k_asm) (by k_asm) (by exact rfl) (by ktr_room) (by ktr_units) (fun _ q => nomatch q)) hr ?_); (rename Fr _ _ _ _ => lF'); (rename News _ _ _ _ => lN'); intro b' h' tk' hb' E'; have F' := Ext.fr0 E' lF'; have N' := Ext.news0 E' lN'; clear lF' lN' E'; (try dsimp only)) | (k_unfold; (try dsimp only)) | walk1 | (dsimp only; walk1) | (leave1; (try dsimp only)))))
        all_goals (try dsimp only)
        all_goals first
          | (refine MyPost.introC (by assumption) (by assumption) ((f, tlist fs n) :: tled fs) (by rw [List.cons_append, ← htl']; ((repeat (first | exact fun _ h => h | refine sub_cons ?_)))) (hSS _ _ _ ⟨wv + o.e, _, ⟨?_, ?_, ?_, ?_, ?_, ?mp⟩, fs, n, rfl, hne, by omega, hfr, (by rw [← hcs, go1 ho hq (by assumption)])⟩); (case mp => ((refine extU5 ?hoffx9 ?e1x9 ?e2x9 ?e3x9 ?e4x9 ?e5x9; (case e1x9 => rfl); (case e2x9 => rfl); (case e3x9 => rfl); (case e4x9 => rfl); (case e5x9 => rfl); (case hoffx9 => (repeat' (first | with_reducible exact Off.same | with_reducible exact List.Mem.head _ | with_reducible refine List.Mem.tail _ ?_ | with_reducible refine Off.l ?_ ?_)))))); (all_goals (exact (0 : Nat))))
          | (refine keep_post (W := (f, tlist fs n) :: tled fs) (by assumption) (by assumption) (by rw [List.cons_append, ← htl']; ((repeat (first | exact fun _ h => h | refine sub_cons ?_)))) (hSS _ _ _ ⟨wv + o.e, some _, ⟨?_, ?_, ?_, ?_, ?_, ?mp⟩, fs, n, rfl, hne, by omega, hfr, (by rw [← hcs, go2 ho (fun q' e => by rw [hq] at e; cases e; assumption) (by ((rw [← hb']; assumption)))])⟩); (case mp => ((refine extU5 ?hoffx10 ?e1x10 ?e2x10 ?e3x10 ?e4x10 ?e5x10; (case e1x10 => rfl); (case e2x10 => rfl); (case e3x10 => rfl); (case e4x10 => rfl); (case e5x10 => rfl); (case hoffx10 => (repeat' (first | with_reducible exact Off.same | with_reducible exact List.Mem.head _ | with_reducible refine List.Mem.tail _ ?_ | with_reducible refine Off.l ?_ ?_)))))); (all_goals (exact (0 : Nat))))
          | (refine keep_post (W := (f, tlist fs n) :: tled fs) (by assumption) (by assumption) (by rw [List.cons_append, ← htl']; ((repeat (first | exact fun _ h => h | refine sub_cons ?_)))) (hSS _ _ _ ⟨wv + o.e, none, ⟨?_, ?_, ?_, ?_, 0, ?mp⟩, fs, n, rfl, hne, by omega, hfr, (by rw [← hcs, go4 ho (fun q' e => by rw [hq] at e; cases e; assumption) (by ((rw [← hb']; first | assumption | exact Bool.eq_false_iff.mpr (by assumption))))])⟩); (case mp => ((refine extU5 ?hoffx11 ?e1x11 ?e2x11 ?e3x11 ?e4x11 ?e5x11; (case e1x11 => rfl); (case e2x11 => rfl); (case e3x11 => rfl); (case e4x11 => rfl); (case e5x11 => rfl); (case hoffx11 => (repeat' (first | with_reducible exact Off.same | with_reducible exact List.Mem.head _ | with_reducible refine List.Mem.tail _ ?_ | with_reducible refine Off.l ?_ ?_)))))); (all_goals (exact (0 : Nat))))
          | (refine push_post (tos := fs) f (by assumption) (by assumption) (by k_mem) (by k_mem) (by rw [← htl']; ((repeat (first | exact fun _ h => h | refine sub_cons ?_)))) hne (by omega) (fun tos' e ha => hSS _ _ _ (⟨wv + o.e, none, ⟨?_, ?_, ?_, ?_, 0, ?mp⟩, tos', _, rfl, ha, (by rw [e, List.length_append, List.length_singleton]; omega), fr_snoc e hfr (notin_lt fun p hp => allLt_all (And.right (by assumption)) p (hslt p hp)), (by rw [e, ← hcs, go3 ho (fun q' e => by rw [hq] at e; cases e; assumption) (by ((rw [← hb']; first | assumption | exact Bool.eq_false_iff.mpr (by assumption))))]; simp)⟩)); (case mp => ((refine extU5 ?hoffx12 ?e1x12 ?e2x12 ?e3x12 ?e4x12 ?e5x12; (case e1x12 => rfl); (case e2x12 => rfl); (case e3x12 => rfl); (case e4x12 => rfl); (case e5x12 => rfl); (case hoffx12 => (repeat' (first | with_reducible exact Off.same | with_reducible exact List.Mem.head _ | with_reducible refine List.Mem.tail _ ?_ | with_reducible refine Off.l ?_ ?_)))))); (all_goals (exact (0 : Nat))))
          | trace_state
      | some b0 =>
        simp only [optV] at F₂
        ((repeat' (first | ((with_reducible show wpAny _ _ (call (Value.ref 61) _) _ _ _); k_dflt (refine' c_inside (Cal.mk (by k_asm) (by k_asm) (by k_asm) (by k_asm) (by exact rfl) (by ktr_room) (by ktr_units) (fun _ q => nomatch q)) hr ?_); (rename Fr _ _ _ _ => lF'); (rename News _ _ _ _ => lN'); intro b' h' tk' hb' E'; have F' := Ext.fr0 E' lF'; have N' := Ext.news0 E' lN'; clear lF' lN' E'; (try dsimp only)) | (k_unfold; (try dsimp only)) | walk1 | (dsimp only; walk1) | (leave1; (try dsimp only)))))
        all_goals (try dsimp only)
        all_goals first
          | (refine MyPost.introC (by assumption) (by assumption) ((f, tlist fs n) :: tled fs) (by rw [List.cons_append, ← htl']; ((repeat (first | exact fun _ h => h | refine sub_cons ?_)))) (hSS _ _ _ ⟨wv + o.e, _, ⟨?_, ?_, ?_, ?_, ?_, ?mp⟩, fs, n, rfl, hne, by omega, hfr, (by rw [← hcs, go1 ho hq (by assumption)])⟩); (case mp => ((refine extU5 ?hoffx13 ?e1x13 ?e2x13 ?e3x13 ?e4x13 ?e5x13; (case e1x13 => rfl); (case e2x13 => rfl); (case e3x13 => rfl); (case e4x13 => rfl); (case e5x13 => rfl); (case hoffx13 => (repeat' (first | with_reducible exact Off.same | with_reducible exact List.Mem.head _ | with_reducible refine List.Mem.tail _ ?_ | with_reducible refine Off.l ?_ ?_)))))); (all_goals (exact (0 : Nat))))
          | (refine keep_post (W := (f, tlist fs n) :: tled fs) (by assumption) (by assumption) (by rw [List.cons_append, ← htl']; ((repeat (first | exact fun _ h => h | refine sub_cons ?_)))) (hSS _ _ _ ⟨wv + o.e, some _, ⟨?_, ?_, ?_, ?_, ?_, ?mp⟩, fs, n, rfl, hne, by omega, hfr, (by rw [← hcs, go2 ho (fun q' e => by rw [hq] at e; cases e; assumption) (by ((rw [← hb']; assumption)))])⟩); (case mp => ((refine extU5 ?hoffx14 ?e1x14 ?e2x14 ?e3x14 ?e4x14 ?e5x14; (case e1x14 => rfl); (case e2x14 => rfl); (case e3x14 => rfl); (case e4x14 => rfl); (case e5x14 => rfl); (case hoffx14 => (repeat' (first | with_reducible exact Off.same | with_reducible exact List.Mem.head _ | with_reducible refine List.Mem.tail _ ?_ | with_reducible refine Off.l ?_ ?_)))))); (all_goals (exact (0 : Nat))))
          | (refine keep_post (W := (f, tlist fs n) :: tled fs) (by assumption) (by assumption) (by rw [List.cons_append, ← htl']; ((repeat (first | exact fun _ h => h | refine sub_cons ?_)))) (hSS _ _ _ ⟨wv + o.e, none, ⟨?_, ?_, ?_, ?_, 0, ?mp⟩, fs, n, rfl, hne, by omega, hfr, (by rw [← hcs, go4 ho (fun q' e => by rw [hq] at e; cases e; assumption) (by ((rw [← hb']; first | assumption | exact Bool.eq_false_iff.mpr (by assumption))))])⟩); (case mp => ((refine extU5 ?hoffx15 ?e1x15 ?e2x15 ?e3x15 ?e4x15 ?e5x15; (case e1x15 => rfl); (case e2x15 => rfl); (case e3x15 => rfl); (case e4x15 => rfl); (case e5x15 => rfl); (case hoffx15 => (repeat' (first | with_reducible exact Off.same | with_reducible exact List.Mem.head _ | with_reducible refine List.Mem.tail _ ?_ | with_reducible refine Off.l ?_ ?_)))))); (all_goals (exact (0 : Nat))))
          | (refine push_post (tos := fs) f (by assumption) (by assumption) (by k_mem) (by k_mem) (by rw [← htl']; ((repeat (first | exact fun _ h => h | refine sub_cons ?_)))) hne (by omega) (fun tos' e ha => hSS _ _ _ (⟨wv + o.e, none, ⟨?_, ?_, ?_, ?_, 0, ?mp⟩, tos', _, rfl, ha, (by rw [e, List.length_append, List.length_singleton]; omega), fr_snoc e hfr (notin_lt fun p hp => allLt_all (And.right (by assumption)) p (hslt p hp)), (by rw [e, ← hcs, go3 ho (fun q' e => by rw [hq] at e; cases e; assumption) (by ((rw [← hb']; first | assumption | exact Bool.eq_false_iff.mpr (by assumption))))]; simp)⟩)); (case mp => ((refine extU5 ?hoffx16 ?e1x16 ?e2x16 ?e3x16 ?e4x16 ?e5x16; (case e1x16 => rfl); (case e2x16 => rfl); (case e3x16 => rfl); (case e4x16 => rfl); (case e5x16 => rfl); (case hoffx16 => (repeat' (first | with_reducible exact Off.same | with_reducible exact List.Mem.head _ | with_reducible refine List.Mem.tail _ ?_ | with_reducible refine Off.l ?_ ?_)))))); (all_goals (exact (0 : Nat))))
          | trace_state
    · have hnone : ts[i + 1]? = none := List.getElem?_eq_none (by omega)
      cases b with
      | none =>
        simp only [optV] at F₂
        ((repeat' (first | ((with_reducible show wpAny _ _ (call (Value.ref 61) _) _ _ _); k_dflt (refine' c_inside (Cal.mk (by k_asm) (by k_asm) (by k_asm) (by k_asm) (by exact rfl) (by ktr_room) (by ktr_units) (fun _ q => nomatch q)) hr ?_); (rename Fr _ _ _ _ => lF'); (rename News _ _ _ _ => lN'); intro b' h' tk' hb' E'; have F' := Ext.fr0 E' lF'; have N' := Ext.news0 E' lN'; clear lF' lN' E'; (try dsimp only)) | (k_unfold; (try dsimp only)) | walk1 | (dsimp only; walk1) | (leave1; (try dsimp only)))))
        all_goals (try dsimp only)
        all_goals first
          | (refine keep_post (W := (f, tlist fs n) :: tled fs) (by assumption) (by assumption) (by rw [List.cons_append, ← htl']; ((repeat (first | exact fun _ h => h | refine sub_cons ?_)))) (hSS _ _ _ ⟨wv + o.e, some _, ⟨?_, ?_, ?_, ?_, ?_, ?mp⟩, fs, n, rfl, hne, by omega, hfr, (by rw [← hcs, go2 ho (fun q' e => by rw [hnone] at e; cases e) (by ((rw [← hb']; assumption)))])⟩); (case mp => ((refine extU5 ?hoffx17 ?e1x17 ?e2x17 ?e3x17 ?e4x17 ?e5x17; (case e1x17 => rfl); (case e2x17 => rfl); (case e3x17 => rfl); (case e4x17 => rfl); (case e5x17 => rfl); (case hoffx17 => (repeat' (first | with_reducible exact Off.same | with_reducible exact List.Mem.head _ | with_reducible refine List.Mem.tail _ ?_ | with_reducible refine Off.l ?_ ?_)))))); (all_goals (exact (0 : Nat))))
          | (refine keep_post (W := (f, tlist fs n) :: tled fs) (by assumption) (by assumption) (by rw [List.cons_append, ← htl']; ((repeat (first | exact fun _ h => h | refine sub_cons ?_)))) (hSS _ _ _ ⟨wv + o.e, none, ⟨?_, ?_, ?_, ?_, 0, ?mp⟩, fs, n, rfl, hne, by omega, hfr, (by rw [← hcs, go4 ho (fun q' e => by rw [hnone] at e; cases e) (by ((rw [← hb']; first | assumption | exact Bool.eq_false_iff.mpr (by assumption))))])⟩); (case mp => ((refine extU5 ?hoffx18 ?e1x18 ?e2x18 ?e3x18 ?e4x18 ?e5x18; (case e1x18 => rfl); (case e2x18 => rfl); (case e3x18 => rfl); (case e4x18 => rfl); (case e5x18 => rfl); (case hoffx18 => (repeat' (first | with_reducible exact Off.same | with_reducible exact List.Mem.head _ | with_reducible refine List.Mem.tail _ ?_ | with_reducible refine Off.l ?_ ?_)))))); (all_goals (exact (0 : Nat))))
          | (refine push_post (tos := fs) f (by assumption) (by assumption) (by k_mem) (by k_mem) (by rw [← htl']; ((repeat (first | exact fun _ h => h | refine sub_cons ?_)))) hne (by omega) (fun tos' e ha => hSS _ _ _ (⟨wv + o.e, none, ⟨?_, ?_, ?_, ?_, 0, ?mp⟩, tos', _, rfl, ha, (by rw [e, List.length_append, List.length_singleton]; omega), fr_snoc e hfr (notin_lt fun p hp => allLt_all (And.right (by assumption)) p (hslt p hp)), (by rw [e, ← hcs, go3 ho (fun q' e => by rw [hnone] at e; cases e) (by ((rw [← hb']; first | assumption | exact Bool.eq_false_iff.mpr (by assumption))))]; simp)⟩)); (case mp => ((refine extU5 ?hoffx19 ?e1x19 ?e2x19 ?e3x19 ?e4x19 ?e5x19; (case e1x19 => rfl); (case e2x19 => rfl); (case e3x19 => rfl); (case e4x19 => rfl); (case e5x19 => rfl); (case hoffx19 => (repeat' (first | with_reducible exact Off.same | with_reducible exact List.Mem.head _ | with_reducible refine List.Mem.tail _ ?_ | with_reducible refine Off.l ?_ ?_)))))); (all_goals (exact (0 : Nat))))
          | trace_state
      | some b0 =>
        simp only [optV] at F₂
        ((repeat' (first | ((with_reducible show wpAny _ _ (call (Value.ref 61) _) _ _ _); k_dflt (refine' c_inside (Cal.mk (by k_asm) (by k_asm) (by k_asm) (by k_asm) (by exact rfl) (by ktr_room) (by ktr_units) (fun _ q => nomatch q)) hr ?_); (rename Fr _ _ _ _ => lF'); (rename News _ _ _ _ => lN'); intro b' h' tk' hb' E'; have F' := Ext.fr0 E' lF'; have N' := Ext.news0 E' lN'; clear lF' lN' E'; (try dsimp only)) | (k_unfold; (try dsimp only)) | walk1 | (dsimp only; walk1) | (leave1; (try dsimp only)))))
        all_goals (try dsimp only)
        all_goals first
          | (refine keep_post (W := (f, tlist fs n) :: tled fs) (by assumption) (by assumption) (by rw [List.cons_append, ← htl']; ((repeat (first | exact fun _ h => h | refine sub_cons ?_)))) (hSS _ _ _ ⟨wv + o.e, some _, ⟨?_, ?_, ?_, ?_, ?_, ?mp⟩, fs, n, rfl, hne, by omega, hfr, (by rw [← hcs, go2 ho (fun q' e => by rw [hnone] at e; cases e) (by ((rw [← hb']; assumption)))])⟩); (case mp => ((refine extU5 ?hoffx20 ?e1x20 ?e2x20 ?e3x20 ?e4x20 ?e5x20; (case e1x20 => rfl); (case e2x20 => rfl); (case e3x20 => rfl); (case e4x20 => rfl); (case e5x20 => rfl); (case hoffx20 => (repeat' (first | with_reducible exact Off.same | with_reducible exact List.Mem.head _ | with_reducible refine List.Mem.tail _ ?_ | with_reducible refine Off.l ?_ ?_)))))); (all_goals (exact (0 : Nat))))
          | (refine keep_post (W := (f, tlist fs n) :: tled fs) (by assumption) (by assumption) (by rw [List.cons_append, ← htl']; ((repeat (first | exact fun _ h => h | refine sub_cons ?_)))) (hSS _ _ _ ⟨wv + o.e, none, ⟨?_, ?_, ?_, ?_, 0, ?mp⟩, fs, n, rfl, hne, by omega, hfr, (by rw [← hcs, go4 ho (fun q' e => by rw [hnone] at e; cases e) (by ((rw [← hb']; first | assumption | exact Bool.eq_false_iff.mpr (by assumption))))])⟩); (case mp => ((refine extU5 ?hoffx21 ?e1x21 ?e2x21 ?e3x21 ?e4x21 ?e5x21; (case e1x21 => rfl); (case e2x21 => rfl); (case e3x21 => rfl); (case e4x21 => rfl); (case e5x21 => rfl); (case hoffx21 => (repeat' (first | with_reducible exact Off.same | with_reducible exact List.Mem.head _ | with_reducible refine List.Mem.tail _ ?_ | with_reducible refine Off.l ?_ ?_)))))); (all_goals (exact (0 : Nat))))
          | (refine push_post (tos := fs) f (by assumption) (by assumption) (by k_mem) (by k_mem) (by rw [← htl']; ((repeat (first | exact fun _ h => h | refine sub_cons ?_)))) hne (by omega) (fun tos' e ha => hSS _ _ _ (⟨wv + o.e, none, ⟨?_, ?_, ?_, ?_, 0, ?mp⟩, tos', _, rfl, ha, (by rw [e, List.length_append, List.length_singleton]; omega), fr_snoc e hfr (notin_lt fun p hp => allLt_all (And.right (by assumption)) p (hslt p hp)), (by rw [e, ← hcs, go3 ho (fun q' e => by rw [hnone] at e; cases e) (by ((rw [← hb']; first | assumption | exact Bool.eq_false_iff.mpr (by assumption))))]; simp)⟩)); (case mp => ((refine extU5 ?hoffx22 ?e1x22 ?e2x22 ?e3x22 ?e4x22 ?e5x22; (case e1x22 => rfl); (case e2x22 => rfl); (case e3x22 => rfl); (case e4x22 => rfl); (case e5x22 => rfl); (case hoffx22 => (repeat' (first | with_reducible exact Off.same | with_reducible exact List.Mem.head _ | with_reducible refine List.Mem.tail _ ?_ | with_reducible refine Off.l ?_ ?_)))))); (all_goals (exact (0 : Nat))))
          | trace_state
  case done =>
    intro h₂ tk₂ m₂ W₂ hR9 F₂ N₂
    refine lock ?_
    intro GG9
    rcases hR9 with ⟨wv, b, ⟨u1, u2, u3, wt, bt, rfl⟩, fs, n, rfl, hne, hfl, hfr, hcs⟩
    first | k_unfold | dsimp only [GG9]
    have hsz : (ts.map fun t => Value.ref t.a).toArray.size = ts.length := by simp
    rw [hsz] at hcs hfl
    rw [List.drop_eq_nil_of_le (by simp), spansGo, List.append_nil] at hcs
    ((repeat' (first | (k_unfold; (try dsimp only)) | walk1 | (dsimp only; walk1) | (leave1; (try dsimp only)))))
    (((try dsimp only); (try (k_unfold; (try dsimp only)))))
    refine hret f n fs h₂ _ hcs hfl (ext_led hG (by assumption) N N₂ fun p hp => .inr (List.mem_append_right _ hp)) fun p hp => ?_
    rcases List.mem_cons.mp hp with rfl | hp
    · exact ⟨fresh_led hG N₂ (.head _) (notin_lt (allLt_all (by assumption))), (N₂ _ (.head _)).1⟩
    · have hm : p ∈ (f, tlist fs n) :: tled fs ++ (l, tlist ts k) :: tled ts := List.mem_append_left _ (.tail _ hp)
      obtain ⟨t, ht, rfl⟩ := List.mem_map.mp hp
      exact ⟨fresh_led hG N₂ hm (hfr t ht), (N₂ _ hm).1⟩
end
section
theorem offC6 : True := by
  w_top off
  trivial
structure MO where
  x : Addr
  d : Addr
  l : Addr
  left : Int
  top : Int
  width : Int
  height : Int
  fine : Int
  t1 : Tok
  t2 : Tok
  t3 : Tok
  t4 : Tok
  t5 : Tok
  k1 : Tok
  k2 : Tok
  k3 : Tok
  k4 : Tok
  k5 : Tok
  k6 : Tok
noncomputable def mdic (P : Params) (o : MO) : Obj := dictOf [⟨PyData.keyHash P (Str.ofString "left"), .str (Str.ofString "left") o.k1, .int o.left o.t1⟩, ⟨PyData.keyHash P (Str.ofString "top"), .str (Str.ofString "top") o.k2, .int o.top o.t2⟩, ⟨PyData.keyHash P (Str.ofString "width"), .str (Str.ofString "width") o.k3, .int o.width o.t3⟩,
    ⟨PyData.keyHash P (Str.ofString "height"), .str (Str.ofString "height") o.k4, .int o.height o.t4⟩, ⟨PyData.keyHash P (Str.ofString "fine"), .str (Str.ofString "fine") o.k5, .int o.fine o.t5⟩, ⟨PyData.keyHash P (Str.ofString "counts"), .str (Str.ofString "counts") o.k6, .ref o.l⟩] 6
noncomputable def mled (P : Params) (o : MO) (cv : List (Int × Tok)) (k : Nat) : List (Addr × Obj) := [(o.x, instObj 259 o.d), (o.d, mdic P o), (o.l, clist cv k)]
theorem mask_in {P : Params} {s g h' : Heap} {L x d l : Addr} {led : List (Addr × Obj)} {a1 a2 a3 a4 a5 : Int} {t1 t2 t3 t4 t5 k1 k2 k3 k4 k5 k6 : Tok} {cv : List (Int × Tok)} {k : Nat} (N : News g L h' led) (hx : (x, instObj 259 d) ∈ led)
    (hd : (d, dictOf [⟨PyData.keyHash P (Str.ofString "left"), .str (Str.ofString "left") k1, .int a1 t1⟩, ⟨PyData.keyHash P (Str.ofString "top"), .str (Str.ofString "top") k2, .int a2 t2⟩, ⟨PyData.keyHash P (Str.ofString "width"), .str (Str.ofString "width") k3, .int a3 t3⟩,
      ⟨PyData.keyHash P (Str.ofString "height"), .str (Str.ofString "height") k4, .int a4 t4⟩, ⟨PyData.keyHash P (Str.ofString "fine"), .str (Str.ofString "fine") k5, .int a5 t5⟩, ⟨PyData.keyHash P (Str.ofString "counts"), .str (Str.ofString "counts") k6, .ref l⟩] 6) ∈ led)
    (hl : (l, clist cv k) ∈ led) (fx : s.get? x = none) (fd : s.get? d = none) (fl : s.get? l = none) : ∃ o : MO, o.x = x ∧ (o.left = a1 ∧ o.top = a2 ∧ o.width = a3 ∧ o.height = a4 ∧ o.fine = a5) ∧ NewIn s h' (mled P o cv k) := by
  refine ⟨⟨x, d, l, a1, a2, a3, a4, a5, t1, t2, t3, t4, t5, k1, k2, k3, k4, k5, k6⟩, rfl, ⟨rfl, rfl, rfl, rfl, rfl⟩, subC ⟨fx, (N _ hx).1⟩ <| subC ⟨fd, (N _ hd).1⟩ <| subC ⟨fl, (N _ hl).1⟩ subN⟩
theorem c_mask {w : World} {A : Around} {s : Shared} {Q E : Value → Shared → Prop} {left top width height fine : Int} {t1 t2 t3 t4 t5 : Tok}
   (C : CalN w 6 100 A s.heap []) (hw : 0 ≤ width ∧ width ≤ 10) (hh : 0 ≤ height ∧ height ≤ 10) (hf : 1 ≤ fine ∧ fine ≤ 4)
   (hret : ∀ (o : MO) t k (h' : Heap) tk', o.left = left ∧ o.top = top ∧ o.width = width ∧ o.height = height ∧ o.fine = fine → Ext [] s.heap h' → NewIn s.heap h' (mled w.params o (List.replicate (width * height).toNat ((0, t) : Int × Tok)) k) → Q (.ref o.x) { s with heap := h', toks := tk' }) :
   wpAny (model PG w) A (call (.ref 259) [.int left t1, .int top t2, .int width t3, .int height t4, .int fine t5]) Q E s := by
  cases C with | mk B F X T hk hd hu N =>
  have hwh : 0 ≤ width * height := Int.mul_nonneg hw.1 hh.1
  have hwi : width * height ≤ 10 * 10 := Int.mul_le_mul hw.2 hh.2 hh.1 (by omega)
  k_dflt (refine' call_clsX F X N ?k4 ?k5 ?k6 ?_)
  case k4 => k_is
  case k5 => k_is
  case k6 => k_is
  intro x d h1 F1 N1 l1 l2 up fx fd
  k_lt2 l2
  ((k_dflt (refine' code_vis ?k1x23 ?k2x23 ?k3x23 ?k4x23 ?k5x23 ?kAx23 ?kFx23 ?kKx23 ?k6x23 ?k7x23 ?k8x23 ?k9x23 ?kBx23 ?kMx23 ?_ ?c2x23 ?c3x23 ?c4x23 ?c5x23; (case kAx23 => exact rfl); (case kFx23 => exact rfl); (case kKx23 => assumption); (case k1x23 => k_asm); (case k2x23 => k_asm); (case k3x23 => k_asm); (case k4x23 => k_asm); (case k5x23 => k_asm); (case k6x23 => k_is); (case k7x23 => k_is); (case k8x23 => ktr_room); (case k9x23 => exact BindsTo.of_eq rfl); (case kMx23 => first | exact nice1 rfl | exact nice2 rfl | exact nice3 rfl | exact nice4 rfl | exact nice5 rfl | exact nice6 rfl); (case c5x23 => decide); (case kBx23 => exact locs rfl); (case c2x23 => exact rfl); (case c3x23 => exact rfl); (case c4x23 => exact rfl); k_whole; intro g' L' h' F' N' B' X' T' hG' hg' hlt' hsz'; (try dsimp only at F'); (try dsimp only); (try k_fold))))
  rename ∀ (b : Addr) (o : Obj), h1.get? b = some o → b ∉ _ → _ => hG
  ((repeat' (first | (k_unfold; (try dsimp only)) | walk1 | (dsimp only; walk1) | (leave1; (try dsimp only)))))
  unfold InitBack
  refine ⟨rfl, ?_⟩
  rename Fr _ _ _ _ => F2
  rename News _ _ _ _ => N2
  obtain ⟨o, rfl, ho, hnew⟩ := mask_in (s := s.heap) (P := w.params) (d := d) (cv := List.replicate (width * height).toNat (0, _)) N2 (by k_mem) (by k_mem) (.head _) fx fd (none_up up (fresh_led hG N2 (.head _) (notin2' (ne_cls N2 (.head _) (o2 := instObj 259 d) (by k_mem) (by simp)) (ne_cls N2 (b := d) (.head _) (by k_mem) (by simp)))))
  exact hret o _ _ _ _ ho (fun b o e n => F2.keep b o (hG b o (up b o e) (notin2 e fx fd))) hnew

theorem mled_sub {P : Params} {o : MO} {cv : List (Int × Tok)} {k : Nat} {led : List (Addr × Obj)} (h1 : (o.x, instObj 259 o.d) ∈ led) (h2 : (o.d, mdic P o) ∈ led) (h3 : (o.l, clist cv k) ∈ led) : ∀ p ∈ mled P o cv k, p ∈ led := subC h1 <| subC h2 <| subC h3 subN
end
section
theorem offC10 : True := by
  w_top off
  trivial
local macro_rules | `(tactic| walk_at "CompSrcT") => `(tactic| walk_at "hold")
section
variable {prog : Program} {w : World} {A : Around} {s : Shared} {h₀ : Heap} {L : Addr} {m : Str → Option Value} {env : Env} {ct elt : PySem.Expr} {x : Str} {scope : Scope} {cl : List (Str × Addr)} {S : List (Addr × Obj) → Prop} {P : Nat → Value → Prop} {Fin : List Value → List (Addr × Obj) → Prop} {news : List (Addr × Obj)}
theorem end_mono {s₁ s' : Shared} {I C D : Addr} {oI oC oD : Obj} {rest rest' : Value → List (Addr × Obj) → Prop} {y : Value} (h : LCg.CompEnd h₀ L m s₁ I oI C oC D oD S rest y s') (hr : ∀ y n, rest y n → rest' y n) : LCg.CompEnd h₀ L m s₁ I oI C oC D oD S rest' y s' := by
  obtain ⟨h', tk, nw, e, F, N, off, hS, r⟩ := h
  exact ⟨h', tk, nw, e, F, N, off, hS, hr _ _ r⟩
theorem comp_ind (ys : Nat → List Value) (n : Nat) (h0 : ys 0 = [])
    (turn : ∀ i v I oI C oC D m₂ h tk (E' : Value → Shared → Prop), i < n → P i v → LCg.NsObj oC m₂ → m₂ x = some v → Fr h₀ L h m → News h₀ L h ((I, oI) :: (C, oC) :: (D, LCg.lst (ys i)) :: news) → LCg.Off3 I C D news → ((@Ne Nat I C) ∧ (@Ne Nat I D) ∧ (@Ne Nat C D)) →
      wpAny (model prog w) A (isTrue ct (compEnvC scope cl C env) (eval ct (compEnvC scope cl C env))) (fun ok s' => if ok = true then
        wpAny (model prog w) A (eval elt (compEnvC scope cl C env)) (LCg.CompEnd h₀ L m { s with heap := h, toks := tk } I oI C oC D (LCg.lst (ys i)) S (fun y news' => ys (i + 1) = ys i ++ [y] ∧ news' = news)) E' s'
        else LCg.CompEnd h₀ L m { s with heap := h, toks := tk } I oI C oC D (LCg.lst (ys i)) S (fun _ news' => ys (i + 1) = ys i ∧ news' = news) Value.none s') E' { s with heap := h, toks := tk })
    (done : Fin (ys n) news) : LCt.CompRestT prog w A h₀ L m env ct elt x scope cl s S P Fin n 0 [] news := by
  have key : ∀ j i, i + j = n → LCt.CompRestT prog w A h₀ L m env ct elt x scope cl s S P Fin j i (ys i) news := by
    intro j
    induction j with
    | zero =>
      intro i hi
      have : i = n := by omega
      subst this
      exact done
    | succ j ih =>
      intro i hi
      intro v I oI C oC D m₂ h tk E' hP hC hx F N off ne
      refine wpAny_mono (turn i v I oI C oC D m₂ h tk E' (by omega) hP hC hx F N off ne) (fun ok s' h => ?_) fun _ _ e => e
      have nxt := ih (i + 1) (by omega)
      cases ok with
      | true =>
        simp only [if_true] at h ⊢
        refine wpAny_mono h (fun y s'' h => end_mono h fun y nw hr => ?_) fun _ _ e => e
        obtain ⟨e1, rfl⟩ := hr
        rw [← e1]; exact nxt
      | false =>
        simp only [Bool.false_eq_true, if_false] at h ⊢
        refine end_mono h fun y nw hr => ?_
        obtain ⟨e1, rfl⟩ := hr
        rw [← e1]; exact nxt
  have := key n 0 (by omega)
  rwa [h0] at this
end
noncomputable def between (lo hi : Int) (o : SO) : Bool := decide (o.y1 < hi) && decide (o.y2 > lo)
theorem off1_mem {D : Addr} {l : List (Addr × Obj)} (h : LCg.Off1 D l) : ∀ p ∈ l, p.1 ≠ D := by
  induction l with
  | nil => intro p hp; cases hp
  | cons a r ih =>
    intro q hq
    cases hq with
    | head => exact h.1
    | tail _ hq => exact ih h.2 q hq
theorem ys_t {os : List SO} {i : Nat} {o : SO} {P : SO → Bool} (ho : os[i]? = some o) (hp : P o = true) : ((os.take (i + 1)).filter P).map (fun o => Value.ref o.x) = ((os.take i).filter P).map (fun o => Value.ref o.x) ++ [Value.ref o.x] := by
  rw [List.take_add_one, ho, List.filter_append, List.map_append]; simp [hp]
theorem ys_f {os : List SO} {i : Nat} {o : SO} {P : SO → Bool} (ho : os[i]? = some o) (hp : P o = false) : ((os.take (i + 1)).filter P).map (fun o => Value.ref o.x) = ((os.take i).filter P).map (fun o => Value.ref o.x) := by
  rw [List.take_add_one, ho, List.filter_append, List.map_append]; simp [hp]
theorem c_between {w : World} {A : Around} {s : Shared} {Q E : Value → Shared → Prop} {l : Addr} {os : List SO} {k : Nat} {lo hi : Int} {tl th : Tok}
   (C : CalN w 6 100 A s.heap ((l, slist os k) :: sled w.params os)) (hlen : os.length ≤ 4)
   (hret : ∀ D k' (h' : Heap) tk', Ext [] s.heap h' → s.heap.get? D = none → h'.get? D = some (slist (os.filter (between lo hi)) k') → Q (.ref D) { s with heap := h', toks := tk' }) :
   wpAny (model PG w) A (call (.ref 179) [.ref l, .int lo tl, .int hi th]) Q E s := by
  cases C with | mk B F X T hk hd hu N =>
  ((k_dflt (refine wpAny_call ?_; refine' code_visC ?k1x24 ?k2x24 ?k3x24 ?k4x24 ?k5x24 ?kAx24 ?kFx24 ?kKx24 ?k6x24 ?k7x24 ?k8x24 ?k9x24 ?kBx24 ?kDx24 ?_ ?c2x24 ?c3x24 ?c4x24; (case kAx24 => exact rfl); (case kFx24 => exact rfl); (case kKx24 => assumption); (case k1x24 => k_asm); (case k2x24 => k_asm); (case k3x24 => k_asm); (case k4x24 => k_asm); (case k5x24 => k_asm); (case k6x24 => k_is); (case k7x24 => k_is); (case k8x24 => ktr_room); (case k9x24 => exact BindsTo.of_eq rfl); (case kBx24 => exact rfl); (case kDx24 => decide +kernel); (case c2x24 => exact rfl); (case c3x24 => exact rfl); (case c4x24 => exact rfl); k_whole; intro g' L' h' tk' cells' F' N' Y' B' X' T' hG' hlt'; k_cells Y'; (try simp only [List.cons_append, List.nil_append] at N'); (try dsimp only); (try k_fold))))
  rename ∀ (b : Addr) (o : Obj), s.heap.get? b = some o → b ∉ _ → _ => hG
  ((repeat' (first | (k_unfold; (try dsimp only)) | walk1 | (dsimp only; walk1) | (leave1; (try dsimp only)))))
  refine unhold ?_
  rename Fr _ _ _ _ => F1
  rename News _ _ _ _ => N1
  k_dflt (refine' LCt.CompSrcT.ledger (by rfl) F1 N1 (by k_mem) ?hsz ?_)
  case hsz =>
    rw [List.size_toArray, List.length_map, sizeLine_eq]; omega
  intro g
  refine comp_ind (fun i => ((os.take i).filter (between lo hi)).map fun o => Value.ref o.x) _ rfl ?turn ?done
  case turn =>
    intro i v I oI C oC D m₂ h tk E' hi hP hC hx F2 N2 off ne
    obtain ⟨o, ho, rfl⟩ := item_map hP
    have hom := List.mem_of_getElem? ho
    have hx1 := sled_x (P := w.params) hom
    have hx2 := sled_d (P := w.params) hom
    ((repeat' (first | (k_unfold; (try dsimp only)) | walk1 | (dsimp only; walk1) | (leave1; (try dsimp only)))))
    all_goals first
      | (refine LCg.CompEnd.intro (by assumption) (by assumption) _ (by ((repeat (first | exact fun _ h => h | refine sub_cons ?_)))) off (Or.inr ⟨_, by k_mem, rfl, _, rfl⟩) ⟨ys_t ho ?_, rfl⟩
         simp only [between, Bool.and_eq_true, decide_eq_true_eq]
         exact ⟨by assumption, by assumption⟩)
      | (refine LCg.CompEnd.intro (by assumption) (by assumption) _ (by ((repeat (first | exact fun _ h => h | refine sub_cons ?_)))) off (Or.inr ⟨_, by k_mem, rfl, _, rfl⟩) ⟨ys_f ho ?_, rfl⟩
         simp only [between, Bool.and_eq_false_iff, decide_eq_false_iff_not]
         first | exact Or.inl (by assumption) | exact Or.inr (by assumption) | (left; omega) | (right; omega))
  case done =>
    intro D h tk F2 N2 off
    (((try dsimp only); (try (k_unfold; (try dsimp only)))))
    have hsz : (os.map fun o => Value.ref o.x).toArray.size = os.length := by simp
    rw [hsz, List.take_length] at N2
    refine hret D _ h _ (ext_ro hG F2 N N2 (by ((repeat (first | exact fun _ h => h | refine sub_cons ?_))))) (fresh_led hG N2 (.head _) ?_) (N2 _ (.head _)).1
    refine notin_ne (AllNe.of fun p hp => ?_)
    exact off1_mem off p (by simp only [List.mem_cons] at hp ⊢; exact .inr (.inr hp))
end
section
theorem offC11 : True := by
  w_top off
  trivial
noncomputable def PTb (p : PT) : Prop := -100 ≤ p.x ∧ p.x ≤ 100 ∧ -100 ≤ p.y ∧ p.y ≤ 100
noncomputable abbrev hit (a b : PT) (x y : Int) : Prop := a.y ≤ y ∧ y < b.y ∧ (x - a.x) * (b.y - a.y) ≥ (b.x - a.x) * (y - a.y)
noncomputable def contrib (one other : PT) (x y : Int) : Int := if one.y < other.y then (if hit one other x y then 1 else 0) else (if hit other one x y then -1 else 0)
theorem contrib_up {a b : PT} {x y : Int} (h : a.y < b.y) (hh : hit a b x y) : contrib a b x y = 1 := by rw [contrib, if_pos h, if_pos hh]
theorem contrib_up0 {a b : PT} {x y : Int} (h : a.y < b.y) (hh : ¬ hit a b x y) : contrib a b x y = 0 := by rw [contrib, if_pos h, if_neg hh]
theorem contrib_dn {a b : PT} {x y : Int} (h : ¬ a.y < b.y) (hh : hit b a x y) : contrib a b x y = -1 := by rw [contrib, if_neg h, if_pos hh]
theorem contrib_dn0 {a b : PT} {x y : Int} (h : ¬ a.y < b.y) (hh : ¬ hit b a x y) : contrib a b x y = 0 := by rw [contrib, if_neg h, if_neg hh]
noncomputable def prevI (n i : Nat) : Nat := if i = 0 then n - 1 else i - 1
noncomputable def windTo (ps : List PT) (x y : Int) : Nat → Int
  | 0 => 0
  | i + 1 => windTo ps x y i + (match ps[prevI ps.length i]?, ps[i]? with | some a, some b => contrib a b x y | _, _ => 0)
theorem c_wind {w : World} {A : Around} {s : Shared} {Q E : Value → Shared → Prop} {sp : Addr} {ps : List PT} {k : Nat} {x y : Int} {tx ty : Tok}
   (C : CalN w 6 100 A s.heap ((sp, ptup ps k) :: pled ps)) (hps : ∀ p ∈ ps, PTb p) (hlen : ps.length ≤ 4) (hx : -1000 ≤ x ∧ x ≤ 1000) (hy : -1000 ≤ y ∧ y ≤ 1000)
   (hret : ∀ c t (h' : Heap) tk', c = windTo ps x y ps.length → Ext [] s.heap h' → Q (.int c t) { s with heap := h', toks := tk' }) :
   wpAny (model PG w) A (call (.ref 298) [.ref sp, .int x tx, .int y ty]) Q E s := by
  cases C with | mk B F X T hk hd hu N =>
  ((k_dflt (refine wpAny_call ?_; refine' code_vis ?k1x25 ?k2x25 ?k3x25 ?k4x25 ?k5x25 ?kAx25 ?kFx25 ?kKx25 ?k6x25 ?k7x25 ?k8x25 ?k9x25 ?kBx25 ?kMx25 ?_ ?c2x25 ?c3x25 ?c4x25 ?c5x25; (case kAx25 => exact rfl); (case kFx25 => exact rfl); (case kKx25 => assumption); (case k1x25 => k_asm); (case k2x25 => k_asm); (case k3x25 => k_asm); (case k4x25 => k_asm); (case k5x25 => k_asm); (case k6x25 => k_is); (case k7x25 => k_is); (case k8x25 => ktr_room); (case k9x25 => exact BindsTo.of_eq rfl); (case kMx25 => first | exact nice1 rfl | exact nice2 rfl | exact nice3 rfl | exact nice4 rfl | exact nice5 rfl | exact nice6 rfl); (case c5x25 => decide); (case kBx25 => exact locs rfl); (case c2x25 => exact rfl); (case c3x25 => exact rfl); (case c4x25 => exact rfl); k_whole; intro g' L' h' F' N' B' X' T' hG' hg' hlt' hsz'; (try dsimp only); (try k_fold))))
  rename ∀ (b : Addr) (o : Obj), s.heap.get? b = some o → b ∉ _ → _ => hG
  ((repeat' (first | (k_unfold; (try dsimp only)) | walk1 | (dsimp only; walk1) | (leave1; (try dsimp only)))))
  refine unhold ?_
  rename Fr _ _ _ _ => F1
  rename News _ _ _ _ => N1
  refine my_range (m := ?m) (n := ps.length) ((sp, ptup ps k) :: pled ps) [] [] (fun i m W => W = [] ∧ ∃ c tc u1 u2 u3 u4 u5 u6 u7, c = windTo ps x y i ∧ m = (U (U (U (U (U (U (U (U ?m (Str.ofString "wide") u7) (Str.ofString "high") u6) (Str.ofString "lower") u5) (Str.ofString "upper") u4) (Str.ofString "other") u3) (Str.ofString "one") u2) (Str.ofString "at") u1) (Str.ofString "found") (some (.int c tc)))) rfl ?F ?N (by assumption) ?sm ?sz (fun v => rfl) ?h0 (fun d hd => nomatch hd) ?noit ?turn ?done
  case F => exact F1
  case N => exact N1
  case sm => exact small_one (by omega) (by omega) (by omega) (by omega)
  case sz => rw [rangeSize_nat]; omega
  case h0 =>
    refine ⟨rfl, 0, ?tc, ?u1, ?u2, ?u3, ?u4, ?u5, ?u6, ?u7, rfl, ?mp⟩
    case mp => ((refine extU8 ?hoffx26 ?e1x26 ?e2x26 ?e3x26 ?e4x26 ?e5x26 ?e6x26 ?e7x26 ?e8x26; (case e1x26 => rfl); (case e2x26 => rfl); (case e3x26 => rfl); (case e4x26 => rfl); (case e5x26 => rfl); (case e6x26 => rfl); (case e7x26 => rfl); (case e8x26 => rfl); (case hoffx26 => (repeat' (first | with_reducible exact Off.same | with_reducible exact List.Mem.head _ | with_reducible refine List.Mem.tail _ ?_ | with_reducible refine Off.l ?_ ?_)))))
  case noit =>
    rintro i m W ⟨rfl, _⟩ p hp
    cases hp
  case turn =>
    intro SS hSS i t m₁ W1 h₁ tk₁ tl hi hR9 hsl htl F₂ N₂ PL
    refine lock ?_
    intro GG9
    rcases hR9 with ⟨rfl, c, tc, u1, u2, u3, u4, u5, u6, u7, hc, rfl⟩
    first | k_unfold | dsimp only [GG9]
    rw [List.nil_append] at N₂
    obtain ⟨b, hb⟩ : ∃ b, ps[i]? = some b := ⟨_, List.getElem?_eq_getElem hi⟩
    obtain ⟨a, ha⟩ : ∃ a, ps[prevI ps.length i]? = some a := ⟨_, List.getElem?_eq_getElem (by unfold prevI; split <;> omega)⟩
    have hj1 : seqIndex? (0 + (i : Int) - 1) ps.length = some (prevI ps.length i) := by
      unfold prevI
      split
      · rename_i h0; subst h0
        rw [seqIndex_neg (by omega) (by omega)]; congr 1; omega
      · rw [seqIndex_of (by omega) (by omega)]; congr 1; omega
    have hj2 : seqIndex? (0 + (i : Int)) ps.length = some i := by rw [seqIndex_of (by omega) (by omega)]; congr 1; omega
    obtain ⟨a1, a2, a3, a4⟩ := hps a (List.mem_of_getElem? ha)
    obtain ⟨b1, b2, b3, b4⟩ := hps b (List.mem_of_getElem? hb)
    have hst := hsl _ (.head _)
    have hma : (a.a, tupOf [.int a.x a.tx, .int a.y a.ty]) ∈ tl := hsl _ (.tail _ (List.mem_map.mpr ⟨a, List.mem_of_getElem? ha, rfl⟩))
    have hmb : (b.a, tupOf [.int b.x b.tx, .int b.y b.ty]) ∈ tl := hsl _ (.tail _ (List.mem_map.mpr ⟨b, List.mem_of_getElem? hb, rfl⟩))
    have hw : windTo ps x y (i + 1) = c + contrib a b x y := by rw [windTo, ha, hb, hc]
    ((repeat' (first | (k_unfold; (try dsimp only)) | walk1 | (dsimp only; walk1) | (leave1; (try dsimp only)))))
    · refine keep_post (W := []) (by assumption) (by assumption) (by rw [List.nil_append]; ((repeat (first | exact fun _ h => h | refine sub_cons ?_)))) (hSS _ _ _ ⟨rfl, c + 1, ?_, ?_, ?_, ?_, ?_, ?_, ?_, ?_, (by rw [hw, contrib_up (by assumption) ⟨by assumption, by assumption, by assumption⟩]), ?mp1⟩)
      case mp1 => ((refine extU8 ?hoffx27 ?e1x27 ?e2x27 ?e3x27 ?e4x27 ?e5x27 ?e6x27 ?e7x27 ?e8x27; (case e1x27 => rfl); (case e2x27 => rfl); (case e3x27 => rfl); (case e4x27 => rfl); (case e5x27 => rfl); (case e6x27 => rfl); (case e7x27 => rfl); (case e8x27 => rfl); (case hoffx27 => (repeat' (first | with_reducible exact Off.same | with_reducible exact List.Mem.head _ | with_reducible refine List.Mem.tail _ ?_ | with_reducible refine Off.l ?_ ?_)))))
    · refine keep_post (W := []) (by assumption) (by assumption) (by rw [List.nil_append]; ((repeat (first | exact fun _ h => h | refine sub_cons ?_)))) (hSS _ _ _ ⟨rfl, c, ?_, ?_, ?_, ?_, ?_, ?_, ?_, ?_, (by rw [hw, contrib_up0 (by assumption) (fun h => by obtain ⟨p, q, r⟩ := h; omega)]; omega), ?mp2⟩)
      case mp2 => ((refine extU8 ?hoffx28 ?e1x28 ?e2x28 ?e3x28 ?e4x28 ?e5x28 ?e6x28 ?e7x28 ?e8x28; (case e1x28 => rfl); (case e2x28 => rfl); (case e3x28 => rfl); (case e4x28 => rfl); (case e5x28 => rfl); (case e6x28 => rfl); (case e7x28 => rfl); (case e8x28 => rfl); (case hoffx28 => (repeat' (first | with_reducible exact Off.same | with_reducible exact List.Mem.head _ | with_reducible refine List.Mem.tail _ ?_ | with_reducible refine Off.l ?_ ?_)))))
    · refine keep_post (W := []) (by assumption) (by assumption) (by rw [List.nil_append]; ((repeat (first | exact fun _ h => h | refine sub_cons ?_)))) (hSS _ _ _ ⟨rfl, c, ?_, ?_, ?_, ?_, ?_, ?_, ?_, ?_, (by rw [hw, contrib_up0 (by assumption) (fun h => by obtain ⟨p, q, r⟩ := h; omega)]; omega), ?mp3⟩)
      case mp3 => ((refine extU8 ?hoffx29 ?e1x29 ?e2x29 ?e3x29 ?e4x29 ?e5x29 ?e6x29 ?e7x29 ?e8x29; (case e1x29 => rfl); (case e2x29 => rfl); (case e3x29 => rfl); (case e4x29 => rfl); (case e5x29 => rfl); (case e6x29 => rfl); (case e7x29 => rfl); (case e8x29 => rfl); (case hoffx29 => (repeat' (first | with_reducible exact Off.same | with_reducible exact List.Mem.head _ | with_reducible refine List.Mem.tail _ ?_ | with_reducible refine Off.l ?_ ?_)))))
    · refine keep_post (W := []) (by assumption) (by assumption) (by rw [List.nil_append]; ((repeat (first | exact fun _ h => h | refine sub_cons ?_)))) (hSS _ _ _ ⟨rfl, c, ?_, ?_, ?_, ?_, ?_, ?_, ?_, ?_, (by rw [hw, contrib_up0 (by assumption) (fun h => by obtain ⟨p, q, r⟩ := h; omega)]; omega), ?mp4⟩)
      case mp4 => ((refine extU8 ?hoffx30 ?e1x30 ?e2x30 ?e3x30 ?e4x30 ?e5x30 ?e6x30 ?e7x30 ?e8x30; (case e1x30 => rfl); (case e2x30 => rfl); (case e3x30 => rfl); (case e4x30 => rfl); (case e5x30 => rfl); (case e6x30 => rfl); (case e7x30 => rfl); (case e8x30 => rfl); (case hoffx30 => (repeat' (first | with_reducible exact Off.same | with_reducible exact List.Mem.head _ | with_reducible refine List.Mem.tail _ ?_ | with_reducible refine Off.l ?_ ?_)))))
    · exfalso
      rename (_ && _) = true => hq
      simp only [Bool.and_eq_true, beq_iff_eq] at hq
      omega
    · refine keep_post (W := []) (by assumption) (by assumption) (by rw [List.nil_append]; ((repeat (first | exact fun _ h => h | refine sub_cons ?_)))) (hSS _ _ _ ⟨rfl, c + -1, ?_, ?_, ?_, ?_, ?_, ?_, ?_, ?_, (by rw [hw, contrib_dn (by assumption) ⟨by assumption, by assumption, by assumption⟩]), ?mp6⟩)
      case mp6 => ((refine extU8 ?hoffx31 ?e1x31 ?e2x31 ?e3x31 ?e4x31 ?e5x31 ?e6x31 ?e7x31 ?e8x31; (case e1x31 => rfl); (case e2x31 => rfl); (case e3x31 => rfl); (case e4x31 => rfl); (case e5x31 => rfl); (case e6x31 => rfl); (case e7x31 => rfl); (case e8x31 => rfl); (case hoffx31 => (repeat' (first | with_reducible exact Off.same | with_reducible exact List.Mem.head _ | with_reducible refine List.Mem.tail _ ?_ | with_reducible refine Off.l ?_ ?_)))))
    · refine keep_post (W := []) (by assumption) (by assumption) (by rw [List.nil_append]; ((repeat (first | exact fun _ h => h | refine sub_cons ?_)))) (hSS _ _ _ ⟨rfl, c, ?_, ?_, ?_, ?_, ?_, ?_, ?_, ?_, (by rw [hw, contrib_dn0 (by assumption) (fun h => by obtain ⟨p, q, r⟩ := h; omega)]; omega), ?mp7⟩)
      case mp7 => ((refine extU8 ?hoffx32 ?e1x32 ?e2x32 ?e3x32 ?e4x32 ?e5x32 ?e6x32 ?e7x32 ?e8x32; (case e1x32 => rfl); (case e2x32 => rfl); (case e3x32 => rfl); (case e4x32 => rfl); (case e5x32 => rfl); (case e6x32 => rfl); (case e7x32 => rfl); (case e8x32 => rfl); (case hoffx32 => (repeat' (first | with_reducible exact Off.same | with_reducible exact List.Mem.head _ | with_reducible refine List.Mem.tail _ ?_ | with_reducible refine Off.l ?_ ?_)))))
    · refine keep_post (W := []) (by assumption) (by assumption) (by rw [List.nil_append]; ((repeat (first | exact fun _ h => h | refine sub_cons ?_)))) (hSS _ _ _ ⟨rfl, c, ?_, ?_, ?_, ?_, ?_, ?_, ?_, ?_, (by rw [hw, contrib_dn0 (by assumption) (fun h => by obtain ⟨p, q, r⟩ := h; omega)]; omega), ?mp8⟩)
      case mp8 => ((refine extU8 ?hoffx33 ?e1x33 ?e2x33 ?e3x33 ?e4x33 ?e5x33 ?e6x33 ?e7x33 ?e8x33; (case e1x33 => rfl); (case e2x33 => rfl); (case e3x33 => rfl); (case e4x33 => rfl); (case e5x33 => rfl); (case e6x33 => rfl); (case e7x33 => rfl); (case e8x33 => rfl); (case hoffx33 => (repeat' (first | with_reducible exact Off.same | with_reducible exact List.Mem.head _ | with_reducible refine List.Mem.tail _ ?_ | with_reducible refine Off.l ?_ ?_)))))
    · refine keep_post (W := []) (by assumption) (by assumption) (by rw [List.nil_append]; ((repeat (first | exact fun _ h => h | refine sub_cons ?_)))) (hSS _ _ _ ⟨rfl, c, ?_, ?_, ?_, ?_, ?_, ?_, ?_, ?_, (by rw [hw, contrib_dn0 (by assumption) (fun h => by obtain ⟨p, q, r⟩ := h; omega)]; omega), ?mp9⟩)
      case mp9 => ((refine extU8 ?hoffx34 ?e1x34 ?e2x34 ?e3x34 ?e4x34 ?e5x34 ?e6x34 ?e7x34 ?e8x34; (case e1x34 => rfl); (case e2x34 => rfl); (case e3x34 => rfl); (case e4x34 => rfl); (case e5x34 => rfl); (case e6x34 => rfl); (case e7x34 => rfl); (case e8x34 => rfl); (case hoffx34 => (repeat' (first | with_reducible exact Off.same | with_reducible exact List.Mem.head _ | with_reducible refine List.Mem.tail _ ?_ | with_reducible refine Off.l ?_ ?_)))))
  case done =>
    intro h₂ tk₂ m₂ W₂ hR9 F₂ N₂
    refine lock ?_
    intro GG9
    rcases hR9 with ⟨rfl, c, tc, u1, u2, u3, u4, u5, u6, u7, hc, rfl⟩
    first | k_unfold | dsimp only [GG9]
    ((repeat' (first | (k_unfold; (try dsimp only)) | walk1 | (dsimp only; walk1) | (leave1; (try dsimp only)))))
    (((try dsimp only); (try (k_unfold; (try dsimp only)))))
    exact hret c _ _ _ hc (ext_ro hG F₂ N N₂ (fun p hp => hp))
end
section
theorem offC13 : True := by
  w_top off
  trivial
noncomputable def alphaL (c m : Int) : Int := Int.fdiv (255 * c) m + (if 2 * (255 * c - Int.fdiv (255 * c) m * m) ≥ m then 1 else 0)
theorem c_lalpha {w : World} {A : Around} {s : Shared} {Q E : Value → Shared → Prop} {c m : Int} {tc tm : Tok}
   (C : CalN w 4 100 A s.heap []) (hc : -1000 ≤ c ∧ c ≤ 1000) (hm : m = 1 ∨ m = 4)
   (hret : ∀ r t (h' : Heap) tk', r = alphaL c m → Ext [] s.heap h' → Q (.int r t) { s with heap := h', toks := tk' }) :
   wpAny (model PG w) A (call (.ref 312) [.int c tc, .int m tm]) Q E s := by
  cases C with | mk B F X T hk hd hu N =>
  have hfb : -300000 ≤ Int.fdiv (255 * c) m ∧ Int.fdiv (255 * c) m ≤ 300000 := by
    rw [Int.fdiv_eq_ediv_of_nonneg _ (by omega)]
    rcases hm with rfl | rfl <;> omega
  have hm1 : 1 ≤ m ∧ m ≤ 16 := by omega
  ((k_dflt (refine wpAny_call ?_; refine' code_vis ?k1x35 ?k2x35 ?k3x35 ?k4x35 ?k5x35 ?kAx35 ?kFx35 ?kKx35 ?k6x35 ?k7x35 ?k8x35 ?k9x35 ?kBx35 ?kMx35 ?_ ?c2x35 ?c3x35 ?c4x35 ?c5x35; (case kAx35 => exact rfl); (case kFx35 => exact rfl); (case kKx35 => assumption); (case k1x35 => k_asm); (case k2x35 => k_asm); (case k3x35 => k_asm); (case k4x35 => k_asm); (case k5x35 => k_asm); (case k6x35 => k_is); (case k7x35 => k_is); (case k8x35 => ktr_room); (case k9x35 => exact BindsTo.of_eq rfl); (case kMx35 => first | exact nice1 rfl | exact nice2 rfl | exact nice3 rfl | exact nice4 rfl | exact nice5 rfl | exact nice6 rfl); (case c5x35 => decide); (case kBx35 => exact locs rfl); (case c2x35 => exact rfl); (case c3x35 => exact rfl); (case c4x35 => exact rfl); k_whole; intro g' L' h' F' N' B' X' T' hG' hg' hlt' hsz'; (try dsimp only); (try k_fold))))
  rename ∀ (b : Addr) (o : Obj), s.heap.get? b = some o → b ∉ _ → _ => hG
  ((repeat' (first | (k_unfold; (try dsimp only)) | walk1 | (dsimp only; walk1) | (leave1; (try dsimp only)))))
  (((try dsimp only); (try (k_unfold; (try dsimp only)))))
  refine hret _ _ _ _ ?_ (ext_ro hG (by assumption) N (by assumption) (fun p hp => nomatch hp))
  unfold alphaL
  by_cases hz : m ≤ 2 * (255 * c - Int.fdiv (255 * c) m * m) <;> simp [hz]
end
section
theorem offC5 : True := by
  w_top off
  trivial
noncomputable def FG (fine grain : Int) : Prop := (fine = 1 ∧ grain = 4) ∨ (fine = 2 ∧ grain = 4) ∨ (fine = 2 ∧ grain = 8)
theorem len4 {α β γ : Type} {ts : List α} {f : α → β} {g : γ → Option β} {os : List γ} (hp : (ts.map f).Perm (os.filterMap g)) (hlen : os.length ≤ 4) : ts.length ≤ 4 := by
  have e1 := hp.length_eq
  have e2 := List.length_filterMap_le g os
  rw [List.length_map] at e1
  exact Nat.le_trans (Nat.le_of_eq e1) (Nat.le_trans e2 hlen)
theorem c_sample {w : World} {A : Around} {s : Shared} {Q E : Value → Shared → Prop} {l : Addr} {os : List SO} {k : Nat} {r : Str} {row fine grain : Int} {tr trow tf tg : Tok}
   (C : CalN w 8 200 A s.heap ((l, slist os k) :: sled w.params os)) (hr : r = Str.ofString "nonzero" ∨ r = Str.ofString "evenodd") (hfg : FG fine grain) (hrow : -20 ≤ row ∧ row ≤ 20)
   (hob : ∀ o ∈ os, SOb o) (hlen : os.length ≤ 4) (hway : ∀ o ∈ os, o.way = 1 ∨ o.way = -1) (hsum : ((os.filterMap (cross (row * Int.fdiv grain fine + Int.fdiv (Int.fdiv grain fine) 2) (Int.fdiv grain fine))).map (·.2)).sum = 0)
   (hret : ∀ D k' ts' cs (h' : Heap) tk', cs.Perm (os.filterMap (cross (row * Int.fdiv grain fine + Int.fdiv (Int.fdiv grain fine) 2) (Int.fdiv grain fine))) → cs.Pairwise (fun a b => a.1 ≤ b.1) → ts'.map (fun t => (t.c, t.e)) = spansGo r cs 0 none → ts'.length ≤ 4 →
      Ext [] s.heap h' → NewIn s.heap h' ((D, tlist ts' k') :: tled ts') → Q (.ref D) { s with heap := h', toks := tk' }) :
   wpAny (model PG w) A (call (.ref 110) [.ref l, .int row trow, .str r tr, .int fine tf, .int grain tg]) Q E s := by
  cases C with | mk B F X T hk hd hu N =>
  have hr' := hr
  rcases hr with rfl | rfl <;> rcases hfg with ⟨rfl, rfl⟩ | ⟨rfl, rfl⟩ | ⟨rfl, rfl⟩
  all_goals (
    ((k_dflt (refine wpAny_call ?_; refine' code_vis ?k1x36 ?k2x36 ?k3x36 ?k4x36 ?k5x36 ?kAx36 ?kFx36 ?kKx36 ?k6x36 ?k7x36 ?k8x36 ?k9x36 ?kBx36 ?kMx36 ?_ ?c2x36 ?c3x36 ?c4x36 ?c5x36; (case kAx36 => exact rfl); (case kFx36 => exact rfl); (case kKx36 => assumption); (case k1x36 => k_asm); (case k2x36 => k_asm); (case k3x36 => k_asm); (case k4x36 => k_asm); (case k5x36 => k_asm); (case k6x36 => k_is); (case k7x36 => k_is); (case k8x36 => ktr_room); (case k9x36 => exact BindsTo.of_eq rfl); (case kMx36 => first | exact nice1 rfl | exact nice2 rfl | exact nice3 rfl | exact nice4 rfl | exact nice5 rfl | exact nice6 rfl); (case c5x36 => decide); (case kBx36 => exact locs rfl); (case c2x36 => exact rfl); (case c3x36 => exact rfl); (case c4x36 => exact rfl); k_whole; intro g' L' h' F' N' B' X' T' hG' hg' hlt' hsz'; (try dsimp only); (try k_fold))))
    rename ∀ (b : Addr) (o : Obj), s.heap.get? b = some o → b ∉ _ → _ => hG
    ((repeat' (first | (k_unfold; (try dsimp only)) | walk1 | (dsimp only; walk1) | (leave1; (try dsimp only)))))
    rename Fr _ _ _ _ => F1
    rename News _ _ _ _ => N1
    k_dflt (refine' unhold (c_steps (CalN.mk ?B F1 ?K ?T ?hk ?hd ?hu N1) hob hlen ?hy ?hst hway hsum ?_))
    case B => k_asm
    case K => k_asm
    case T => k_asm
    case hk => exact rfl
    case hd => ktr_room
    case hu => ktr_units
    case hst => decide
    case hy =>
      first
        | (rw [show Int.fdiv 4 1 = 4 from rfl, show Int.fdiv 4 2 = 2 from rfl]; omega)
        | (rw [show Int.fdiv 4 2 = 2 from rfl, show Int.fdiv 2 2 = 1 from rfl]; omega)
        | (rw [show Int.fdiv 8 2 = 4 from rfl, show Int.fdiv 4 2 = 2 from rfl]; omega)
    intro D2 k2 ts2 h2 tk2 hp2 hs2 E2 A2
    obtain ⟨F2, N2, ne2⟩ := news_many F1 N1 E2 A2
    clear F1 N1 E2 A2
    ((repeat' (first | (k_unfold; (try dsimp only)) | walk1 | (dsimp only; walk1) | (leave1; (try dsimp only)))))
    rename Fr _ _ _ _ => F3
    rename News _ _ _ _ => N3
    k_dflt (refine' unhold (c_spans (CalN.mk ?B F3 ?K ?T ?hk ?hd ?hu (News.subs N3 fun p hp => List.mem_append_left _ hp)) hr' ?h4 ?_))
    case B => k_asm
    case K => k_asm
    case T => k_asm
    case hk => exact rfl
    case hd => ktr_room
    case hu => ktr_units
    case h4 => exact len4 hp2 hlen
    intro D3 k3 ts3 h3 tk3 hc3 hl3 E3 A3
    obtain ⟨F4, N4, ne4⟩ := news_many F3 N3 E3 A3
    (((try dsimp only); (try (k_unfold; (try dsimp only)))))
    refine hret D3 k3 ts3 _ h3 _ hp2 (List.pairwise_map.mpr hs2) hc3 (Nat.le_trans hl3 ?_) (ext_led hG F4 N N4 fun p hp => .inr (List.mem_append_right _ (List.mem_append_right _ hp))) fun p hp => ⟨fresh_led hG N4 (List.mem_append_left _ hp) (notin_ne ?_), (N4 p (List.mem_append_left _ hp)).1⟩
    · exact len4 hp2 hlen
    · exact .of fun q hq => (ne4 p hp).mem q (List.mem_append_right _ hq))
end
section
theorem offC7 : True := by
  w_top off
  trivial
noncomputable abbrev inM (o : MO) (x y : Int) : Prop := (0 ≤ x - o.left ∧ x - o.left < o.width) ∧ (0 ≤ y - o.top ∧ y - o.top < o.height)
noncomputable def cntAt (o : MO) (cv : List (Int × Tok)) (x y : Int) : Int := if inM o x y then (cv.getD ((y - o.top) * o.width + (x - o.left)).toNat (0, 0)).1 else 0
structure MOk (o : MO) (cv : List (Int × Tok)) : Prop where
  w0 : 0 ≤ o.width
  w1 : o.width ≤ 10
  h0 : 0 ≤ o.height
  h1 : o.height ≤ 10
  l0 : -10 ≤ o.left
  l1 : o.left ≤ 10
  t0 : -10 ≤ o.top
  t1 : o.top ≤ 10
  f0 : 1 ≤ o.fine
  f1 : o.fine ≤ 4
  len : (cv.length : Int) = o.width * o.height
theorem idx_lt {o : MO} {cv : List (Int × Tok)} (M : MOk o cv) {x y : Int} (h : inM o x y) : 0 ≤ (y - o.top) * o.width + (x - o.left) ∧ (y - o.top) * o.width + (x - o.left) < o.width * o.height := by
  obtain ⟨⟨a, b⟩, c, d⟩ := h
  have h1 : 0 ≤ (y - o.top) * o.width := Int.mul_nonneg c M.w0
  have h2 : (y - o.top + 1) * o.width ≤ o.height * o.width := Int.mul_le_mul_of_nonneg_right (by omega) M.w0
  rw [Int.add_mul, Int.one_mul, Int.mul_comm o.height] at h2
  omega
theorem c_count {w : World} {A : Around} {s : Shared} {Q E : Value → Shared → Prop} {o : MO} {cv : List (Int × Tok)} {k : Nat} {x y : Int} {tx ty : Tok}
   (C : CalN w 6 100 A s.heap (mled w.params o cv k)) (M : MOk o cv)
   (hret : ∀ c t (h' : Heap) tk', c = cntAt o cv x y → Ext [] s.heap h' → Q (.int c t) { s with heap := h', toks := tk' }) :
   wpAny (model PG w) A (call (.ref 221) [.ref o.x, .int x tx, .int y ty]) Q E s := by
  cases C with | mk B F X T hk hd hu N =>
  have N0 := N
  unfold mled mdic at N
  have hwi : o.width * o.height ≤ 10 * 10 := Int.mul_le_mul M.w1 M.h1 M.h0 (by omega)
  have hlen := M.len
  have w1 := M.w1
  have w0 := M.w0
  have hz : cv.length ≤ 100 := by omega
  by_cases hin : inM o x y
  · have hi := idx_lt M hin
    obtain ⟨v, hv⟩ : ∃ v, cv[((y - o.top) * o.width + (x - o.left)).toNat]? = some v := ⟨_, List.getElem?_eq_getElem (by omega)⟩
    have hc : cntAt o cv x y = v.1 := by rw [cntAt, if_pos hin, List.getD_eq_getElem?_getD, hv]; rfl
    obtain ⟨⟨i1, i2⟩, i3, i4⟩ := hin
    ((k_dflt (refine wpAny_call ?_; refine' code_vis ?k1x37 ?k2x37 ?k3x37 ?k4x37 ?k5x37 ?kAx37 ?kFx37 ?kKx37 ?k6x37 ?k7x37 ?k8x37 ?k9x37 ?kBx37 ?kMx37 ?_ ?c2x37 ?c3x37 ?c4x37 ?c5x37; (case kAx37 => exact rfl); (case kFx37 => exact rfl); (case kKx37 => assumption); (case k1x37 => k_asm); (case k2x37 => k_asm); (case k3x37 => k_asm); (case k4x37 => k_asm); (case k5x37 => k_asm); (case k6x37 => k_is); (case k7x37 => k_is); (case k8x37 => ktr_room); (case k9x37 => exact BindsTo.of_eq rfl); (case kMx37 => first | exact nice1 rfl | exact nice2 rfl | exact nice3 rfl | exact nice4 rfl | exact nice5 rfl | exact nice6 rfl); (case c5x37 => decide); (case kBx37 => exact locs rfl); (case c2x37 => exact rfl); (case c3x37 => exact rfl); (case c4x37 => exact rfl); k_whole; intro g' L' h' F' N' B' X' T' hG' hg' hlt' hsz'; (try dsimp only); (try k_fold))))
    rename ∀ (b : Addr) (o : Obj), s.heap.get? b = some o → b ∉ _ → _ => hG
    ((repeat' (first | (k_unfold; (try dsimp only)) | walk1 | (dsimp only; walk1) | (leave1; (try dsimp only)))))
    (((try dsimp only); (try (k_unfold; (try dsimp only)))))
    exact hret _ _ _ _ hc.symm (ext_ro hG (by assumption) N0 (by assumption) (by ((repeat (first | exact fun _ h => h | refine sub_cons ?_)))))
  · have hc : cntAt o cv x y = 0 := by rw [cntAt, if_neg hin]
    ((k_dflt (refine wpAny_call ?_; refine' code_vis ?k1x38 ?k2x38 ?k3x38 ?k4x38 ?k5x38 ?kAx38 ?kFx38 ?kKx38 ?k6x38 ?k7x38 ?k8x38 ?k9x38 ?kBx38 ?kMx38 ?_ ?c2x38 ?c3x38 ?c4x38 ?c5x38; (case kAx38 => exact rfl); (case kFx38 => exact rfl); (case kKx38 => assumption); (case k1x38 => k_asm); (case k2x38 => k_asm); (case k3x38 => k_asm); (case k4x38 => k_asm); (case k5x38 => k_asm); (case k6x38 => k_is); (case k7x38 => k_is); (case k8x38 => ktr_room); (case k9x38 => exact BindsTo.of_eq rfl); (case kMx38 => first | exact nice1 rfl | exact nice2 rfl | exact nice3 rfl | exact nice4 rfl | exact nice5 rfl | exact nice6 rfl); (case c5x38 => decide); (case kBx38 => exact locs rfl); (case c2x38 => exact rfl); (case c3x38 => exact rfl); (case c4x38 => exact rfl); k_whole; intro g' L' h' F' N' B' X' T' hG' hg' hlt' hsz'; (try dsimp only); (try k_fold))))
    rename ∀ (b : Addr) (o : Obj), s.heap.get? b = some o → b ∉ _ → _ => hG
    ((repeat' (first | (k_unfold; (try dsimp only)) | walk1 | (dsimp only; walk1) | (leave1; (try dsimp only)))))
    all_goals first
      | exact absurd ⟨⟨by assumption, by assumption⟩, by assumption, by assumption⟩ hin
      | ((((try dsimp only); (try (k_unfold; (try dsimp only)))))
         exact hret _ _ _ _ hc.symm (ext_ro hG (by assumption) N0 (by assumption) (by ((repeat (first | exact fun _ h => h | refine sub_cons ?_))))))
theorem c_countM {w : World} {A : Around} {s : Shared} {Q E : Value → Shared → Prop} {o : MO} {cv : List (Int × Tok)} {k : Nat} {x y : Int} {tx ty : Tok} (M : MOk o cv) (C : CalN w 6 100 A s.heap (mled w.params o cv k))
   (hret : ∀ c t (h' : Heap) tk', c = cntAt o cv x y → Ext [] s.heap h' → Q (.int c t) { s with heap := h', toks := tk' }) :
   wpAny (model PG w) A (call (.ref 221) [.ref o.x, .int x tx, .int y ty]) Q E s := c_count C M hret
theorem c_alpha {w : World} {A : Around} {s : Shared} {Q E : Value → Shared → Prop} {o : MO} {cv : List (Int × Tok)} {k : Nat} {x y : Int} {tx ty : Tok}
   (C : CalN w 7 200 A s.heap (mled w.params o cv k)) (M : MOk o cv)
   (hret : ∀ c t (h' : Heap) tk', c = Int.fdiv (2 * (255 * cntAt o cv x y) + o.fine * o.fine) (2 * (o.fine * o.fine)) → Ext [] s.heap h' → Q (.int c t) { s with heap := h', toks := tk' }) :
   wpAny (model PG w) A (call (.ref 228) [.ref o.x, .int x tx, .int y ty]) Q E s := by
  cases C with | mk B F X T hk hd hu N =>
  have N0 := N
  unfold mled mdic at N
  have hff : 0 < o.fine * o.fine := Int.mul_pos (by have := M.f0; omega) (by have := M.f0; omega)
  have hfg : o.fine * o.fine ≤ 4 * 4 := Int.mul_le_mul M.f1 M.f1 (by have := M.f0; omega) (by omega)
  have f0 := M.f0
  have f1 := M.f1
  ((k_dflt (refine wpAny_call ?_; refine' code_vis ?k1x39 ?k2x39 ?k3x39 ?k4x39 ?k5x39 ?kAx39 ?kFx39 ?kKx39 ?k6x39 ?k7x39 ?k8x39 ?k9x39 ?kBx39 ?kMx39 ?_ ?c2x39 ?c3x39 ?c4x39 ?c5x39; (case kAx39 => exact rfl); (case kFx39 => exact rfl); (case kKx39 => assumption); (case k1x39 => k_asm); (case k2x39 => k_asm); (case k3x39 => k_asm); (case k4x39 => k_asm); (case k5x39 => k_asm); (case k6x39 => k_is); (case k7x39 => k_is); (case k8x39 => ktr_room); (case k9x39 => exact BindsTo.of_eq rfl); (case kMx39 => first | exact nice1 rfl | exact nice2 rfl | exact nice3 rfl | exact nice4 rfl | exact nice5 rfl | exact nice6 rfl); (case c5x39 => decide); (case kBx39 => exact locs rfl); (case c2x39 => exact rfl); (case c3x39 => exact rfl); (case c4x39 => exact rfl); k_whole; intro g' L' h' F' N' B' X' T' hG' hg' hlt' hsz'; (try dsimp only); (try k_fold))))
  rename ∀ (b : Addr) (o : Obj), s.heap.get? b = some o → b ∉ _ → _ => hG
  ((repeat' (first | ((with_reducible show wpAny _ _ (call (Value.ref 221) _) _ _ _); k_dflt (refine' c_countM (by assumption) (CalN.mk (by k_asm) (by k_asm) (by k_asm) (by k_asm) (by exact rfl) (by ktr_room) (by ktr_units) (by exact News.subs (by k_asm) (mled_sub (by k_mem) (by k_mem) (by k_mem)))) ?_); (rename Fr _ _ _ _ => lF'); (rename News _ _ _ _ => lN'); intro c' t' h' tk' hc' E'; have F' := Ext.fr0 E' lF'; have N' := Ext.news0 E' lN'; clear lF' lN' E'; (try dsimp only)) | (k_unfold; (try dsimp only)) | walk1 | (dsimp only; walk1) | (leave1; (try dsimp only)))))
  (((try dsimp only); (try (k_unfold; (try dsimp only)))))
  refine hret _ _ _ _ ?_ (ext_ro hG (by assumption) N0 (by assumption) (by ((repeat (first | exact fun _ h => h | refine sub_cons ?_)))))
  subst_vars
  rfl
end
section
theorem offC8a : True := by
  w_top off
  trivial
noncomputable def AddRel (cv cv' : List (Int × Tok)) (B left W : Int) (S : Int → Int) : Prop :=
  cv'.length = cv.length ∧ ∀ j : Nat, j < cv.length → (cv'.getD j (0, 0)).1 = (cv.getD j (0, 0)).1 + (if B ≤ (j : Int) ∧ (j : Int) < B + W then S (left + (j : Int) - B) else 0)
theorem AddRel.refl {cv : List (Int × Tok)} {B left W : Int} {S : Int → Int} (h : ∀ z, left ≤ z → z < left + W → S z = 0) : AddRel cv cv B left W S := ⟨rfl, fun j hj => by
  split
  · rename_i hc; rw [h _ (by omega) (by omega)]; omega
  · omega⟩
theorem AddRel.congr {cv cv' : List (Int × Tok)} {B left W : Int} {S S' : Int → Int} (a : AddRel cv cv' B left W S) (h : ∀ z, left ≤ z → z < left + W → S' z = S z) : AddRel cv cv' B left W S' := ⟨a.1, fun j hj => by
  rw [a.2 j hj]
  split
  · rename_i hc; rw [h _ (by omega) (by omega)]
  · rfl⟩
theorem AddRel.put {cv cv' : List (Int × Tok)} {B left W x δ : Int} {S : Int → Int} {v : Int × Tok} {t : Tok} {j : Nat} (a : AddRel cv cv' B left W S) (hj : (j : Int) = B - left + x) (hx : left ≤ x ∧ x < left + W) (hv : cv'[j]? = some v) :
    AddRel cv (cv'.set j (v.1 + δ, t)) B left W (fun z => S z + if z = x then δ else 0) := by
  refine ⟨by rw [List.length_set, a.1], fun i hi => ?_⟩
  have hi' : i < cv'.length := by rw [a.1]; exact hi
  rw [List.getD_eq_getElem?_getD, List.getElem?_set]
  by_cases e : j = i
  · subst e
    rw [if_pos rfl, if_pos hi']
    have h2 := a.2 j hi
    rw [List.getD_eq_getElem?_getD, hv] at h2
    simp only [Option.getD_some] at h2 ⊢
    rw [if_pos (by omega)] at h2 ⊢
    rw [show left + (j : Int) - B = x by omega] at h2 ⊢
    simp only [if_pos]; omega
  · rw [if_neg e, ← List.getD_eq_getElem?_getD, a.2 i hi]
    split
    · rename_i hc
      have : ¬ left + (i : Int) - B = x := by omega
      simp only [if_neg this]; omega
    · rfl
theorem AddRel.put2 {cv cv' : List (Int × Tok)} {B left W x δ val : Int} {S S' : Int → Int} {v : Int × Tok} {t : Tok} {j : Nat} (a : AddRel cv cv' B left W S) (hj : (j : Int) = B - left + x) (hx : left ≤ x ∧ x < left + W) (hv : cv'[j]? = some v) (hval : val = v.1 + δ)
    (hS : ∀ z, S' z = S z + if z = x then δ else 0) : AddRel cv (cv'.set j (val, t)) B left W S' := by
  subst hval
  exact (a.put hj hx hv).congr fun z _ _ => hS z
noncomputable def ovl (f b e x : Int) : Int := if min e ((x + 1) * f) - max b (x * f) ≤ 0 then 0 else min e ((x + 1) * f) - max b (x * f)
theorem pz {a : Int} (h : 0 ≤ a) : (if a ≤ 0 then 0 else a) = a := by split <;> omega
noncomputable def ovq (p q b e : Int) : Int := if min e q - max b p ≤ 0 then 0 else min e q - max b p
theorem ovl_eq {f b e x : Int} : ovl f b e x = ovq (x * f) ((x + 1) * f) b e := rfl
theorem ovq_z1 {p q b e : Int} (h : q ≤ max b p) : ovq p q b e = 0 := if_pos (Int.sub_nonpos_of_le (Int.le_trans (Int.min_le_right _ _) h))
theorem ovq_z2 {p q b e : Int} (h : e ≤ max b p) : ovq p q b e = 0 := if_pos (Int.sub_nonpos_of_le (Int.le_trans (Int.min_le_left _ _) h))
theorem ovl_zero {f b x : Int} : ovl f b b x = 0 := ovq_z2 (Int.le_max_left _ _)
theorem ovq_in {p q b c d : Int} (h : b ≤ c) (h1 : c < d) (h2 : p ≤ c) (h4 : d ≤ q) : ovq p q b d = ovq p q b c + (d - c) := by
  have hm : max b p ≤ c := Int.max_le.mpr ⟨h, h2⟩
  unfold ovq
  rw [Int.min_eq_left h4, Int.min_eq_left (Int.le_trans (Int.le_of_lt h1) h4), pz (Int.sub_nonneg_of_le hm), pz (Int.sub_nonneg_of_le (Int.le_trans hm (Int.le_of_lt h1)))]
  generalize max b p = m
  clear hm
  omega
theorem ovl_stepG {f b c d x z : Int} (hf : 0 ≤ f) (h : b ≤ c) (h1 : c < d) (h2 : x * f ≤ c) (h4 : d ≤ (x + 1) * f) : ovl f b d z = ovl f b c z + if z = x then d - c else 0 := by
  rcases Int.lt_trichotomy z x with hz | rfl | hz
  · have hq : (z + 1) * f ≤ x * f := Int.mul_le_mul_of_nonneg_right hz hf
    have hq' := Int.le_trans hq h2
    rw [if_neg (Int.ne_of_lt hz), Int.add_zero, ovl_eq, ovl_eq, ovq, ovq, Int.min_eq_right hq', Int.min_eq_right (Int.le_trans hq' (Int.le_of_lt h1))]
  · rw [if_pos rfl]; exact ovq_in h h1 h2 h4
  · have hq : (x + 1) * f ≤ z * f := Int.mul_le_mul_of_nonneg_right hz hf
    have hd := Int.le_trans h4 hq
    rw [if_neg (Int.ne_of_gt hz), Int.add_zero, ovl_eq, ovl_eq, ovq_z2 (Int.le_trans hd (Int.le_max_right _ _)), ovq_z2 (Int.le_trans (Int.le_trans (Int.le_of_lt h1) hd) (Int.le_max_right _ _))]
theorem ovl_step1 {b c d x z : Int} (h : b ≤ c) (h1 : c < d) (h2 : x ≤ c) (_ : c < x + 1) (h4 : d ≤ x + 1) : ovl 1 b d z = ovl 1 b c z + if z = x then d - c else 0 :=
  ovl_stepG (by decide) h h1 (by rw [Int.mul_one]; exact h2) (by rw [Int.mul_one]; exact h4)
theorem ovl_step2 {b c d x z : Int} (h : b ≤ c) (h1 : c < d) (h2 : 2 * x ≤ c) (_ : c < 2 * x + 2) (h4 : d ≤ 2 * x + 2) : ovl 2 b d z = ovl 2 b c z + if z = x then d - c else 0 :=
  ovl_stepG (by decide) h h1 (by rw [Int.mul_comm]; exact h2) (by rw [Int.add_mul, Int.mul_comm]; exact h4)
theorem ovq_clamp {p q b e l r : Int} (hl : l ≤ p) (hr : q ≤ r) : ovq p q (max b l) (max (max b l) (min e r)) = ovq p q b e := by
  have e1 : max (max b l) p = max b p := by rw [Int.max_assoc, Int.max_eq_right hl]
  have hm : max b l ≤ max b p := Int.max_le.mpr ⟨Int.le_max_left _ _, Int.le_trans hl (Int.le_max_right _ _)⟩
  rcases Int.le_total (max b l) (min e r) with h | h
  · rw [Int.max_eq_right h, ovq, e1, Int.min_assoc, Int.min_eq_right hr]; rfl
  · rw [Int.max_eq_left h, ovq_z2 (Int.le_max_left _ _)]
    refine (if_pos (Int.sub_nonpos_of_le ?_)).symm
    refine Int.le_trans (Int.le_trans ?_ h) hm
    exact Int.le_min.mpr ⟨Int.min_le_left _ _, Int.le_trans (Int.min_le_right _ _) hr⟩
theorem ovq1 {p b e : Int} : ovq p (p + 1) b e = if b ≤ p ∧ p < e then 1 else 0 := by
  by_cases hb : b ≤ p
  · by_cases he : p < e
    · rw [if_pos ⟨hb, he⟩, ovq, Int.max_eq_right hb, Int.min_eq_right he, show p + 1 - p = 1 by omega]; rfl
    · rw [if_neg (fun h => he h.2)]; exact ovq_z2 (Int.le_trans (Int.not_lt.mp he) (Int.le_max_right _ _))
  · rw [if_neg (fun h => hb h.1)]; exact ovq_z1 (Int.le_trans (Int.not_le.mp hb) (Int.le_max_left _ _))
theorem ovq_split {p m q b e : Int} (h1 : p ≤ m) (h2 : m ≤ q) : ovq p q b e = ovq p m b e + ovq m q b e := by
  rcases Int.le_total e m with he | he
  · rw [ovq_z2 (p := m) (Int.le_trans he (Int.le_max_right _ _)), Int.add_zero, ovq, ovq, Int.min_eq_left he, Int.min_eq_left (Int.le_trans he h2)]
  rcases Int.le_total m b with hb | hb
  · rw [ovq_z1 (q := m) (Int.le_trans hb (Int.le_max_left _ _)), Int.zero_add, ovq, ovq, Int.max_eq_left hb, Int.max_eq_left (Int.le_trans h1 hb)]
  have a1 : max b p ≤ m := Int.max_le.mpr ⟨hb, h1⟩
  have a2 : m ≤ min e q := Int.le_min.mpr ⟨he, h2⟩
  rw [ovq, ovq, ovq, Int.max_eq_right hb, Int.min_eq_right he, pz (Int.sub_nonneg_of_le a1), pz (Int.sub_nonneg_of_le a2), pz (Int.sub_nonneg_of_le (Int.le_trans a1 a2))]
  generalize max b p = u
  generalize min e q = v
  clear a1 a2
  omega
theorem max_toNat {a b : Int} : max a b = a + ((b - a).toNat : Nat) := by omega
noncomputable def ovs (f first last : Int) (sp : List (Int × Int)) (x : Int) : Int := (sp.map fun p => ovl f (max p.1 first) (max (max p.1 first) (min p.2 last)) x).sum
theorem ovs_succ {f a b z : Int} {cs : List (Int × Int)} {i : Nat} {p : Int × Int} (h : cs[i]? = some p) : ovs f a b (cs.take (i + 1)) z = ovs f a b (cs.take i) z + ovl f (max p.1 a) (max (max p.1 a) (min p.2 b)) z := by
  unfold ovs
  rw [List.take_add_one, h, List.map_append, List.sum_append]; simp
theorem add_spec {o : MO} {cv cv' : List (Int × Tok)} {r : Int} {S : Int → Int} (M : MOk o cv) (a : AddRel cv cv' ((r - o.top) * o.width) o.left o.width S) {x y : Int} (h : inM o x y) : cntAt o cv' x y = cntAt o cv x y + if r = y then S x else 0 := by
  have hi := idx_lt M h
  have hl := M.len
  rw [cntAt, cntAt, if_pos h, if_pos h, a.2 _ (by omega)]
  obtain ⟨⟨a1, a2⟩, a3, a4⟩ := h
  have e : ((((y - o.top) * o.width + (x - o.left)).toNat : Nat) : Int) = (y - o.top) * o.width + (x - o.left) := by omega
  rw [e]
  by_cases hr : r = y
  · subst hr
    rw [if_pos (by omega), if_pos rfl]
    rw [show o.left + ((r - o.top) * o.width + (x - o.left)) - (r - o.top) * o.width = x by omega]
  · rw [if_neg hr, if_neg]
    intro hc
    have w0 := M.w0
    rcases Int.lt_or_gt_of_ne hr with hlt | hgt
    · have h2 : (r - o.top + 1) * o.width ≤ (y - o.top) * o.width := Int.mul_le_mul_of_nonneg_right (by omega) w0
      rw [Int.add_mul, Int.one_mul] at h2
      omega
    · have h2 : (y - o.top + 1) * o.width ≤ (r - o.top) * o.width := Int.mul_le_mul_of_nonneg_right (by omega) w0
      rw [Int.add_mul, Int.one_mul] at h2
      omega
end
section
theorem offC14 : True := by
  w_top off
  trivial
theorem c_full {w : World} {A : Around} {s : Shared} {Q E : Value → Shared → Prop} {o : MO} {cv : List (Int × Tok)} {k : Nat}
   (C : CalN w 6 100 A s.heap (mled w.params o cv k)) (M : MOk o cv) (hnx : @Ne Nat o.x o.l) (hnd : @Ne Nat o.d o.l) (hxd : @Ne Nat o.x o.d)
   (hret : ∀ (o' : MO) t k' (h' : Heap) tk', o'.x = o.x ∧ o'.d = o.d ∧ o'.left = o.left ∧ o'.top = o.top ∧ o'.width = o.width ∧ o'.height = o.height ∧ o'.fine = o.fine → Ext [o.d] s.heap h' → s.heap.get? o'.l = none → h'.get? o.x = some (instObj 259 o.d) → h'.get? o.d = some (mdic w.params o') →
      h'.get? o'.l = some (clist (List.replicate (o.width * o.height).toNat ((o.fine * o.fine, t) : Int × Tok)) k') → Q (.ref o.x) { s with heap := h', toks := tk' }) :
   wpAny (model PG w) A (call (.ref 242) [.ref o.x]) Q E s := by
  cases C with | mk B F X T hk hd hu N =>
  have N0 := unhold N
  unfold mled mdic at N
  have hwh : 0 ≤ o.width * o.height := Int.mul_nonneg M.w0 M.h0
  have hwi : o.width * o.height ≤ 10 * 10 := Int.mul_le_mul M.w1 M.h1 M.h0 (by omega)
  obtain ⟨w0, w1, h0, h1, l0, l1, t0, t1, f0, f1, hlen⟩ := M
  obtain ⟨ox, od, ol, left, top, width, height, fine, q1, q2, q3, q4, q5, q6, q7, q8, q9, qa, qb⟩ := o
  dsimp only at *
  ((k_dflt (refine wpAny_call ?_; refine' code_vis ?k1x40 ?k2x40 ?k3x40 ?k4x40 ?k5x40 ?kAx40 ?kFx40 ?kKx40 ?k6x40 ?k7x40 ?k8x40 ?k9x40 ?kBx40 ?kMx40 ?_ ?c2x40 ?c3x40 ?c4x40 ?c5x40; (case kAx40 => exact rfl); (case kFx40 => exact rfl); (case kKx40 => assumption); (case k1x40 => k_asm); (case k2x40 => k_asm); (case k3x40 => k_asm); (case k4x40 => k_asm); (case k5x40 => k_asm); (case k6x40 => k_is); (case k7x40 => k_is); (case k8x40 => ktr_room); (case k9x40 => exact BindsTo.of_eq rfl); (case kMx40 => first | exact nice1 rfl | exact nice2 rfl | exact nice3 rfl | exact nice4 rfl | exact nice5 rfl | exact nice6 rfl); (case c5x40 => decide); (case kBx40 => exact locs rfl); (case c2x40 => exact rfl); (case c3x40 => exact rfl); (case c4x40 => exact rfl); k_whole; intro g' L' h' F' N' B' X' T' hG' hg' hlt' hsz'; (try dsimp only); (try k_fold))))
  rename ∀ (b : Addr) (o : Obj), s.heap.get? b = some o → b ∉ _ → _ => hG
  ((repeat' (first | (k_unfold; (try dsimp only)) | walk1 | (dsimp only; walk1) | (leave1; (try dsimp only)))))
  rename Fr _ _ _ _ => F1
  rename News _ _ _ _ => N1
  refine lock ?_
  intro GG9
  obtain ⟨D, hD⟩ := fst_of N1
  subst hD
  first | k_unfold | dsimp only [GG9]
  have hDl : @Ne Nat D ol := by omega
  have hDx : @Ne Nat D ox := by omega
  have hDd : @Ne Nat D od := by omega
  (((try dsimp only); (try (k_unfold; (try dsimp only)))))
  refine hret ⟨ox, od, D, left, top, width, height, fine, q1, q2, q3, q4, q5, q6, q7, q8, q9, qa, qb⟩ _ _ _ _ ⟨rfl, rfl, rfl, rfl, rfl, rfl, rfl⟩ (ext_led hG F1 N N1 (subC (.inr ?e1) <| subC (.inl ?e2) <| subC (.inr ?e3) subN)) (fresh_led hG N1 (.head _) (notin_ne ⟨Ne.symm hDx, Ne.symm hDd, Ne.symm hDl, trivial⟩)) (get_in N1 (by k_mem)) (get_in N1 (.tail _ (.tail _ (.tail _ (.head _))))) (get_in N1 (.head _))
  case e1 => simp
  case e2 => simp
  case e3 => simp
end
section
theorem offC8 : True := by
  w_top off
  trivial
local macro_rules | `(tactic| walk_at "exec While Compare cons nil") => `(tactic| walk_at "hold")
theorem ifmax {a b : Int} : (if a > b then a else b) = max b a := by rw [Int.max_def]; split <;> split <;> omega
theorem ifmin {a b : Int} : (if a < b then a else b) = min b a := by rw [Int.min_def]; split <;> split <;> omega
theorem fdiv_bd {f c : Int} (hf : f = 1 ∨ f = 2) : f * Int.fdiv c f ≤ c ∧ c < f * Int.fdiv c f + f := by
  rcases hf with rfl | rfl <;> (rw [Int.fdiv_eq_ediv_of_nonneg _ (by omega)]; omega)
theorem col_in {f x c l w : Int} (hf : f = 1 ∨ f = 2) (h : f * x ≤ c ∧ c < f * x + f) (h1 : l * f ≤ c) (h2 : c < (l + w) * f) : l ≤ x ∧ x < l + w := by
  rcases hf with rfl | rfl <;> omega
theorem ovl_step {f b c d x z : Int} (hf : f = 1 ∨ f = 2) (h : b ≤ c) (h1 : c < d) (h2 : f * x ≤ c) (h3 : c < f * x + f) (h4 : d ≤ f * x + f) : ovl f b d z = ovl f b c z + if z = x then d - c else 0 := by
  rcases hf with rfl | rfl
  · exact ovl_step1 h h1 (by omega) (by omega) (by omega)
  · exact ovl_step2 h h1 h2 h3 h4
theorem c_add {w : World} {A : Around} {s : Shared} {Q E : Value → Shared → Prop} {o : MO} {cv : List (Int × Tok)} {k ks : Nat} {ls : Addr} {ts : List TO} {row : Int} {tr : Tok}
   (C : CalN w 6 100 A s.heap (mled w.params o cv k ++ (ls, tlist ts ks) :: tled ts)) (M : MOk o cv) (hf : o.fine = 1 ∨ o.fine = 2) (hrow : -50 ≤ row ∧ row ≤ 50) (hne : AllNe o.l ((ls, tlist ts ks) :: tled ts)) (hnx : @Ne Nat o.x o.l) (hnd : @Ne Nat o.d o.l)
   (hret : ∀ cv' (h' : Heap) tk', cv'.length = cv.length → (∀ x y, inM o x y → cntAt o cv' x y = cntAt o cv x y + if Int.fdiv row o.fine = y then ovs o.fine (o.left * o.fine) ((o.left + o.width) * o.fine) (ts.map fun t => (t.c, t.e)) x else 0) →
      Ext [o.l] s.heap h' → h'.get? o.l = some (clist cv' k) → Q .none { s with heap := h', toks := tk' }) :
   wpAny (model PG w) A (call (.ref 235) [.ref o.x, .int row tr, .ref ls]) Q E s := by
  cases C with | mk B F X T hk hd hu N =>
  have N0 := unhold N
  unfold mled mdic at N
  simp only [List.cons_append, List.nil_append] at N
  have hwi : o.width * o.height ≤ 10 * 10 := Int.mul_le_mul M.w1 M.h1 M.h0 (by omega)
  have M0 := unhold M
  obtain ⟨w0, w1, h0, h1, l0, l1, t0, t1, f0, f1, hlen⟩ := M
  obtain ⟨ox, od, ol, left, top, width, height, fine, q1, q2, q3, q4, q5, q6, q7, q8, q9, qa, qb⟩ := o
  dsimp only at *
  · by_cases hy : top ≤ Int.fdiv row fine ∧ Int.fdiv row fine < top + height
    · obtain ⟨y1, y2⟩ := hy
      have hyb : fine * Int.fdiv row fine ≤ row ∧ row < fine * Int.fdiv row fine + fine := fdiv_bd hf
      have hb0 : 0 ≤ (Int.fdiv row fine - top) * width := Int.mul_nonneg (by omega) w0
      have hb1 : (Int.fdiv row fine - top) * width + width ≤ (cv.length : Int) := by
        have h2 : (Int.fdiv row fine - top + 1) * width ≤ height * width := Int.mul_le_mul_of_nonneg_right (by omega) w0
        rw [Int.add_mul, Int.one_mul, Int.mul_comm height] at h2
        omega
      have hcl : (cv.length : Int) ≤ 100 := by omega
      ((k_dflt (refine wpAny_call ?_; refine' code_vis ?k1x41 ?k2x41 ?k3x41 ?k4x41 ?k5x41 ?kAx41 ?kFx41 ?kKx41 ?k6x41 ?k7x41 ?k8x41 ?k9x41 ?kBx41 ?kMx41 ?_ ?c2x41 ?c3x41 ?c4x41 ?c5x41; (case kAx41 => exact rfl); (case kFx41 => exact rfl); (case kKx41 => assumption); (case k1x41 => k_asm); (case k2x41 => k_asm); (case k3x41 => k_asm); (case k4x41 => k_asm); (case k5x41 => k_asm); (case k6x41 => k_is); (case k7x41 => k_is); (case k8x41 => ktr_room); (case k9x41 => exact BindsTo.of_eq rfl); (case kMx41 => first | exact nice1 rfl | exact nice2 rfl | exact nice3 rfl | exact nice4 rfl | exact nice5 rfl | exact nice6 rfl); (case c5x41 => decide); (case kBx41 => exact locs rfl); (case c2x41 => exact rfl); (case c3x41 => exact rfl); (case c4x41 => exact rfl); k_whole; intro g' L' h' F' N' B' X' T' hG' hg' hlt' hsz'; (try dsimp only); (try k_fold))))
      rename ∀ (b : Addr) (o : Obj), s.heap.get? b = some o → b ∉ _ → _ => hG
      ((repeat' (first | (k_unfold; (try dsimp only)) | walk1 | (dsimp only; walk1) | (leave1; (try dsimp only)))))
      rename Fr _ _ _ _ => F1
      rename News _ _ _ _ => N1
      refine unhold ?_
      refine my_list (m := ?m) ((ox, instObj 259 od) :: (od, mdic w.params ⟨ox, od, ol, left, top, width, height, fine, q1, q2, q3, q4, q5, q6, q7, q8, q9, qa, qb⟩) :: (ls, tlist ts ks) :: tled ts) [(ol, clist cv k)] [ol]
        (fun i m W => (∃ u1 u2 u3 u4 u5 u6, m = (U (U (U (U (U (U ?m (Str.ofString "behind") u6) (Str.ofString "x") u5) (Str.ofString "limit") u4) (Str.ofString "column") u3) (Str.ofString "end") u2) (Str.ofString "begin") u1)) ∧
          ∃ cv', W = [(ol, clist cv' k)] ∧ AddRel cv cv' ((Int.fdiv row fine - top) * width) left width (ovs fine (left * fine) ((left + width) * fine) ((ts.map fun t => (t.c, t.e)).take i))) rfl ?F ?N (.tail _ (.tail _ (.head _))) ?h0 ?hds ?noit ?turn ?done
      case F => exact F1
      case N =>
        exact News.subs N1 (subC (memI 3 rfl) <| subC (memI 1 rfl) <| subC (memI 2 rfl) <| fun p hp => .tail _ (.tail _ (.tail _ (.tail _ hp))))
      case h0 =>
        refine ⟨⟨?u1, ?u2, ?u3, ?u4, ?u5, ?u6, ?mp⟩, cv, rfl, AddRel.refl fun z _ _ => rfl⟩
        case mp => ((refine extU6 ?hoffx42 ?e1x42 ?e2x42 ?e3x42 ?e4x42 ?e5x42 ?e6x42; (case e1x42 => rfl); (case e2x42 => rfl); (case e3x42 => rfl); (case e4x42 => rfl); (case e5x42 => rfl); (case e6x42 => rfl); (case hoffx42 => (repeat' (first | with_reducible exact Off.same | with_reducible exact List.Mem.head _ | with_reducible refine List.Mem.tail _ ?_ | with_reducible refine Off.l ?_ ?_)))))
      case hds =>
        intro d hd
        rw [List.mem_singleton.mp hd]
        exact ⟨⟨_, .head _⟩, subC hnx <| subC hnd fun p hp => hne.mem p hp⟩
      case noit =>
        rintro i m W ⟨_, cv', rfl, _⟩ p hp
        rw [List.mem_singleton.mp hp]; rfl
      case turn =>
        intro SS hSS i v m₁ W1 h₁ tk₁ tl hi hv hR9 hsl htl F₂ N₂ PL
        refine lock ?_
        intro GG9
        rcases hR9 with ⟨⟨u1, u2, u3, u4, u5, u6, rfl⟩, cv', rfl, hrel⟩
        first | k_unfold | dsimp only [GG9]
        obtain ⟨e, he, rfl⟩ := item_map hv
        have hem := List.mem_of_getElem? he
        have hx1 := hsl _ (.head _)
        have hx2 := hsl _ (.tail _ (.head _))
        unfold mdic at hx2
        dsimp only at hx2
        have hx3 : (e.a, tupOf [.int e.c e.tc, .int e.e e.te]) ∈ tl := hsl _ (.tail _ (.tail _ (.tail _ (List.mem_map.mpr ⟨e, hem, rfl⟩))))
        have hnn : AllNe ol tl := htl _ (.head _)
        rw [List.cons_append, List.nil_append] at N₂
        clear hv hi
        ((repeat' (first | (k_unfold; (try dsimp only)) | walk1 | (dsimp only; walk1) | (leave1; (try dsimp only)))))
        rename Fr _ _ _ _ => F3
        rename News _ _ _ _ => N3
        refine unhold ?_
        dsimp +zetaDelta only at F3
        generalize hbe : (if left * fine > e.c then left * fine else e.c) = b0 at F3 ⊢
        generalize hle : (if (left + width) * fine < e.e then (left + width) * fine else e.e) = lim at F3 ⊢
        have hbb : left * fine ≤ b0 ∧ b0 = max e.c (left * fine) := by rw [← hbe, ifmax]; exact ⟨Int.le_max_right _ _, rfl⟩
        have hll : lim ≤ (left + width) * fine ∧ lim = min e.e ((left + width) * fine) := by rw [← hle, ifmin]; exact ⟨Int.min_le_right _ _, rfl⟩
        have N4 := News.subs (a := (ol, clist cv' k) :: tl) N3 (by ((repeat (first | exact fun _ h => h | refine sub_cons ?_))))
        refine fr_let F3 ?_
        clear F3
        intro m3 F3
        refine my_while (h₀ := ?g0) (L := ?L0) (news := ?nw) (m := ?m2) (fun n m news => ∃ c tc u5 u6, m = ((U (U (U ?m2 (Str.ofString "behind") u6) (Str.ofString "x") u5) (Str.ofString "column") (some (.int c tc)))) ∧
            ∃ cv2, news = (ol, clist cv2 k) :: tl ∧ n = (lim - c).toNat ∧ b0 ≤ c ∧ (c ≤ lim ∨ c = b0) ∧ AddRel cv cv2 ((Int.fdiv row fine - top) * width) left width (fun z => ovs fine (left * fine) ((left + width) * fine) ((ts.map fun t => (t.c, t.e)).take i) z + ovl fine b0 c z)) (n₀ := (lim - b0).toNat) ?F4 ?N4 ?J0 ?step
        case F4 => exact F3
        case N4 => exact N4
        case J0 =>
          refine ⟨b0, ?tc, ?v5, ?v6, ?mp, cv', rfl, rfl, Int.le_refl _, .inr rfl, hrel.congr fun z _ _ => ?_⟩
          case mp => ((refine extU3 ?hoffx43 ?e1x43 ?e2x43 ?e3x43; (case e1x43 => rfl); (case e2x43 => rfl); (case e3x43 => rfl); (case hoffx43 => (repeat' (first | with_reducible exact Off.same | with_reducible exact List.Mem.head _ | with_reducible refine List.Mem.tail _ ?_ | with_reducible refine Off.l ?_ ?_)))))
          rw [ovl_zero]; omega
        case step =>
          intro n m₂ news₂ h₂ tk₂ F₄ N₄ hR9 PW QW
          refine lock ?_
          intro GG9
          rcases hR9 with ⟨c, tc, v5, v6, rfl, cv2, rfl, hn, hc1, hc2, hrel2⟩
          first | k_unfold | dsimp only [GG9]
          have hlen2 := hrel2.1
          have hxf : fine * Int.fdiv c fine ≤ c ∧ c < fine * Int.fdiv c fine + fine := fdiv_bd hf
          have hx1 : (Int.fdiv c fine + 1) * fine = fine * Int.fdiv c fine + fine := by rw [Int.add_mul, Int.one_mul, Int.mul_comm]
          by_cases hlt : c < lim
          · have hxl : left ≤ Int.fdiv c fine ∧ Int.fdiv c fine < left + width := col_in hf hxf (by omega) (by omega)
            obtain ⟨v, hv⟩ : ∃ v, cv2[((Int.fdiv row fine - top) * width - left + Int.fdiv c fine).toNat]? = some v := ⟨_, List.getElem?_eq_getElem (by omega)⟩
            ((repeat' (first | (k_unfold; (try dsimp only)) | walk1 | (dsimp only; walk1) | (leave1; (try dsimp only)))))
            rename Fr _ _ _ _ => F5
            rename News _ _ _ _ => N5
            dsimp +zetaDelta only at F5
            generalize hbh : (if lim < (Int.fdiv c fine + 1) * fine then lim else (Int.fdiv c fine + 1) * fine) = bh at F5 N5
            have hbr : c < bh ∧ bh ≤ lim ∧ bh ≤ fine * Int.fdiv c fine + fine := by rw [hx1, ifmin] at hbh; rw [← hbh]; exact ⟨Int.lt_min.mpr ⟨hxf.2, hlt⟩, Int.min_le_right _ _, Int.min_le_left _ _⟩
            refine WhileStep.intro (n' := (lim - bh).toNat) F5 N5 (by omega) ⟨bh, ?tc', ?v5', ?v6', ?mp, _, rfl, rfl, by omega, by omega, ?hrel⟩
            case mp => ((refine extU3 ?hoffx44 ?e1x44 ?e2x44 ?e3x44; (case e1x44 => rfl); (case e2x44 => rfl); (case e3x44 => rfl); (case hoffx44 => (repeat' (first | with_reducible exact Off.same | with_reducible exact List.Mem.head _ | with_reducible refine List.Mem.tail _ ?_ | with_reducible refine Off.l ?_ ?_)))))
            case hrel =>
              refine hrel2.put2 (x := Int.fdiv c fine) (δ := bh - c) (by omega) hxl hv (by omega) fun z => ?_
              rw [ovl_step hf (c := c) (x := Int.fdiv c fine) hc1 hbr.1 (by omega) (by omega) (by omega)]
              omega
          · ((repeat' (first | (k_unfold; (try dsimp only)) | walk1 | (dsimp only; walk1) | (leave1; (try dsimp only)))))
            refine keep_post (W := [(ol, clist cv2 k)]) (by assumption) (by assumption) (by ((repeat (first | exact fun _ h => h | refine sub_cons ?_)))) (hSS _ _ _ ⟨⟨?w1, ?w2, ?w3, ?w4, ?w5, ?w6, ?mp⟩, cv2, rfl, hrel2.congr fun z _ _ => ?_⟩)
            case mp => ((refine extU6 ?hoffx45 ?e1x45 ?e2x45 ?e3x45 ?e4x45 ?e5x45 ?e6x45; (case e1x45 => rfl); (case e2x45 => rfl); (case e3x45 => rfl); (case e4x45 => rfl); (case e5x45 => rfl); (case e6x45 => rfl); (case hoffx45 => (repeat' (first | with_reducible exact Off.same | with_reducible exact List.Mem.head _ | with_reducible refine List.Mem.tail _ ?_ | with_reducible refine Off.l ?_ ?_)))))
            rw [ovs_succ (p := (e.c, e.e)) (by rw [List.getElem?_map, he]; rfl)]
            rw [show max (max e.c (left * fine)) (min e.e ((left + width) * fine)) = c by omega, ← hbb.2]
      case done =>
        intro h₂ tk₂ m₂ W₂ hR9 F₂ N₂
        refine lock ?_
        intro GG9
        rcases hR9 with ⟨⟨u1, u2, u3, u4, u5, u6, rfl⟩, cv', rfl, hrel⟩
        first | k_unfold | dsimp only [GG9]
        ((repeat' (first | (k_unfold; (try dsimp only)) | walk1 | (dsimp only; walk1) | (leave1; (try dsimp only)))))
        (((try dsimp only); (try (k_unfold; (try dsimp only)))))
        have hsz : (ts.map fun t => Value.ref t.a).toArray.size = (ts.map fun t => (t.c, t.e)).length := by simp
        rw [hsz, List.take_length] at hrel
        refine hret cv' _ _ hrel.1 (fun x y hin => add_spec M0.go hrel hin) (ext_led hG F₂ N N₂ (subC (.inr (memI 1 rfl)) <| subC (.inr (memI 2 rfl)) <| subC (.inl (memI 0 rfl)) fun p hp => .inr (.tail _ (.tail _ (.tail _ hp))))) (N₂ _ (.head _)).1
    · have hrel : AddRel cv cv ((Int.fdiv row fine - top) * width) left width (fun _ => 0) := AddRel.refl fun _ _ _ => rfl
      ((k_dflt (refine wpAny_call ?_; refine' code_vis ?k1x46 ?k2x46 ?k3x46 ?k4x46 ?k5x46 ?kAx46 ?kFx46 ?kKx46 ?k6x46 ?k7x46 ?k8x46 ?k9x46 ?kBx46 ?kMx46 ?_ ?c2x46 ?c3x46 ?c4x46 ?c5x46; (case kAx46 => exact rfl); (case kFx46 => exact rfl); (case kKx46 => assumption); (case k1x46 => k_asm); (case k2x46 => k_asm); (case k3x46 => k_asm); (case k4x46 => k_asm); (case k5x46 => k_asm); (case k6x46 => k_is); (case k7x46 => k_is); (case k8x46 => ktr_room); (case k9x46 => exact BindsTo.of_eq rfl); (case kMx46 => first | exact nice1 rfl | exact nice2 rfl | exact nice3 rfl | exact nice4 rfl | exact nice5 rfl | exact nice6 rfl); (case c5x46 => decide); (case kBx46 => exact locs rfl); (case c2x46 => exact rfl); (case c3x46 => exact rfl); (case c4x46 => exact rfl); k_whole; intro g' L' h' F' N' B' X' T' hG' hg' hlt' hsz'; (try dsimp only); (try k_fold))))
      rename ∀ (b : Addr) (o : Obj), s.heap.get? b = some o → b ∉ _ → _ => hG
      ((repeat' (first | (k_unfold; (try dsimp only)) | walk1 | (dsimp only; walk1) | (leave1; (try dsimp only)))))
      all_goals first
        | exact absurd ⟨by assumption, by assumption⟩ hy
        | ((((try dsimp only); (try (k_unfold; (try dsimp only)))))
           rename Fr _ _ _ _ => F₂
           rename News _ _ _ _ => N₂
           refine hret cv _ _ rfl (fun x y hin => ?_) ((ext_ro hG F₂ N N₂ (by ((repeat (first | exact fun _ h => h | refine sub_cons ?_))))).mono (fun _ h => nomatch h)) (get_in N₂ (by k_mem))
           have : ¬ Int.fdiv row fine = y := fun q => hy ⟨by have := hin.2.1; dsimp only at this; omega, by have := hin.2.2; dsimp only at this; omega⟩
           rw [if_neg this]; omega)
end
section
theorem offC15 : True := by
  w_top off
  trivial
noncomputable def share (a m : Int) : Int := Int.fdiv (2 * a + m) (2 * m)
noncomputable abbrev mdicF (P : Params) (o : MO) (f : Int) : Obj := dictOf [⟨PyData.keyHash P (Str.ofString "left"), .str (Str.ofString "left") o.k1, .int o.left o.t1⟩, ⟨PyData.keyHash P (Str.ofString "top"), .str (Str.ofString "top") o.k2, .int o.top o.t2⟩, ⟨PyData.keyHash P (Str.ofString "width"), .str (Str.ofString "width") o.k3, .int o.width o.t3⟩,
    ⟨PyData.keyHash P (Str.ofString "height"), .str (Str.ofString "height") o.k4, .int o.height o.t4⟩, ⟨PyData.keyHash P (Str.ofString "fine"), .str (Str.ofString "fine") o.k5, .int f o.t5⟩, ⟨PyData.keyHash P (Str.ofString "counts"), .str (Str.ofString "counts") o.k6, .ref o.l⟩] 6
theorem mdic_eq {P : Params} {o : MO} {f : Int} (h : o.fine = f) : mdic P o = mdicF P o f := by subst h; rfl
theorem set_upto {cv : List (Int × Tok)} {P : Nat → Int → Prop} {i n : Nat} {val : Int} {t : Tok} (h : ∀ j, j < i → j < n → P j (cv.getD j (0, 0)).1) (hi : i < cv.length) (hv : P i val) : ∀ j, j < i + 1 → j < n → P j ((cv.set i (val, t)).getD j (0, 0)).1 := fun j hj hn => by
  rw [List.getD_eq_getElem?_getD, List.getElem?_set]
  by_cases e : i = j
  · subst e; rw [if_pos rfl, if_pos hi]; exact hv
  · rw [if_neg e, ← List.getD_eq_getElem?_getD]; exact h j (by omega) hn
theorem mult_spec {o1 o2 o3 : MO} {cv1 cv2 cv3 : List (Int × Tok)} {m : Int} (M1 : MOk o1 cv1) (h3 : o3.left = o1.left ∧ o3.top = o1.top ∧ o3.width = o1.width ∧ o3.height = o1.height)
    (h : ∀ j : Nat, j < cv1.length → (cv3.getD j (0, 0)).1 = share ((cv1.getD j (0, 0)).1 * cntAt o2 cv2 (o1.left + Int.fmod (j : Int) o1.width) (o1.top + Int.fdiv (j : Int) o1.width)) m) {x y : Int} (hin : inM o1 x y) :
    cntAt o3 cv3 x y = share (cntAt o1 cv1 x y * cntAt o2 cv2 x y) m := by
  have hi := idx_lt M1 hin
  have hl := M1.len
  have hin3 : inM o3 x y := by unfold inM at *; rw [h3.1, h3.2.1, h3.2.2.1, h3.2.2.2]; exact hin
  rw [cntAt, if_pos hin3, h3.1, h3.2.1, h3.2.2.1, h _ (by omega), show cntAt o1 cv1 x y = _ from if_pos hin]
  obtain ⟨⟨a1, a2⟩, a3, a4⟩ := hin
  have e : ((((y - o1.top) * o1.width + (x - o1.left)).toNat : Nat) : Int) = (y - o1.top) * o1.width + (x - o1.left) := by omega
  have e1 : Int.fmod ((y - o1.top) * o1.width + (x - o1.left)) o1.width = x - o1.left := by
    rw [Int.fmod_eq_emod_of_nonneg _ (by omega), Int.add_comm, Int.add_mul_emod_self_right, Int.emod_eq_of_lt a1 a2]
  have e2 : Int.fdiv ((y - o1.top) * o1.width + (x - o1.left)) o1.width = y - o1.top := by
    rw [Int.fdiv_eq_ediv_of_nonneg _ (by omega), Int.add_comm, Int.add_mul_ediv_right _ _ (by omega), Int.ediv_eq_zero_of_lt a1 a2]; omega
  rw [e, e1, e2, show o1.left + (x - o1.left) = x by omega, show o1.top + (y - o1.top) = y by omega]
theorem c_multF {w : World} {A : Around} {s : Shared} {Q E : Value → Shared → Prop} {o1 o2 : MO} {cv1 cv2 : List (Int × Tok)} {k1 k2 : Nat} {f : Int} (hf : f = 1 ∨ f = 2)
   (C : CalN w 9 300 A s.heap (mled w.params o1 cv1 k1 ++ mled w.params o2 cv2 k2)) (M1 : MOk o1 cv1) (M2 : MOk o2 cv2) (f1 : o1.fine = f) (f2 : o2.fine = f) (hc1 : ∀ c ∈ cv1, 0 ≤ c.1 ∧ c.1 ≤ 100)
   (hret : ∀ (o3 : MO) cv3 k3 (h' : Heap) tk', o3.left = o1.left ∧ o3.top = o1.top ∧ o3.width = o1.width ∧ o3.height = o1.height ∧ o3.fine = o1.fine → cv3.length = cv1.length →
      (∀ x y, inM o1 x y → cntAt o3 cv3 x y = share (cntAt o1 cv1 x y * cntAt o2 cv2 x y) (f * f)) → Ext [] s.heap h' → NewIn s.heap h' (mled w.params o3 cv3 k3) → Q (.ref o3.x) { s with heap := h', toks := tk' }) :
   wpAny (model PG w) A (call (.ref 249) [.ref o1.x, .ref o2.x]) Q E s := by
  cases C with | mk B F X T hk hd hu N =>
  have N0 := unhold N
  have hff : f * f = 1 ∨ f * f = 4 := by rcases hf with rfl | rfl <;> decide
  unfold mled mdic at N
  simp only [List.cons_append, List.nil_append] at N
  have hwi : o1.width * o1.height ≤ 10 * 10 := Int.mul_le_mul M1.w1 M1.h1 M1.h0 (by omega)
  have hwh : 0 ≤ o1.width * o1.height := Int.mul_nonneg M1.w0 M1.h0
  rw [f1, f2] at N
  obtain ⟨w0, w1, h0, h1, l0, l1, t0, t1, g0, g1, hlen⟩ := id M1
  ((k_dflt (refine wpAny_call ?_; refine' code_vis ?k1x47 ?k2x47 ?k3x47 ?k4x47 ?k5x47 ?kAx47 ?kFx47 ?kKx47 ?k6x47 ?k7x47 ?k8x47 ?k9x47 ?kBx47 ?kMx47 ?_ ?c2x47 ?c3x47 ?c4x47 ?c5x47; (case kAx47 => exact rfl); (case kFx47 => exact rfl); (case kKx47 => assumption); (case k1x47 => k_asm); (case k2x47 => k_asm); (case k3x47 => k_asm); (case k4x47 => k_asm); (case k5x47 => k_asm); (case k6x47 => k_is); (case k7x47 => k_is); (case k8x47 => ktr_room); (case k9x47 => exact BindsTo.of_eq rfl); (case kMx47 => first | exact nice1 rfl | exact nice2 rfl | exact nice3 rfl | exact nice4 rfl | exact nice5 rfl | exact nice6 rfl); (case c5x47 => decide); (case kBx47 => exact locs rfl); (case c2x47 => exact rfl); (case c3x47 => exact rfl); (case c4x47 => exact rfl); k_whole; intro g' L' h' F' N' B' X' T' hG' hg' hlt' hsz'; (try dsimp only); (try k_fold))))
  rename ∀ (b : Addr) (o : Obj), s.heap.get? b = some o → b ∉ _ → _ => hG
  ((repeat' (first | ((with_reducible show wpAny _ _ (call (Value.ref 221) _) _ _ _); k_dflt (refine' c_countM (by assumption) (CalN.mk (by k_asm) (by k_asm) (by k_asm) (by k_asm) (by exact rfl) (by ktr_room) (by ktr_units) (by exact News.subs (by k_asm) (mled_sub (by k_mem) (by k_mem) (by k_mem)))) ?_); (rename Fr _ _ _ _ => lF'); (rename News _ _ _ _ => lN'); intro c' t' h' tk' hc' E'; have F' := Ext.fr0 E' lF'; have N' := Ext.news0 E' lN'; clear lF' lN' E'; (try dsimp only)) | (k_unfold; (try dsimp only)) | walk1 | (dsimp only; walk1) | (leave1; (try dsimp only)))))
  any_goals (exact absurd rfl (by with_reducible assumption))
  rename Fr _ _ _ _ => F1
  rename News _ _ _ _ => N1
  k_dflt (refine' unhold (c_mask (CalN.mk ?B F1 ?K ?T ?hk ?hd ?hu (nil_of F1)) ⟨w0, w1⟩ ⟨h0, h1⟩ ⟨by omega, by omega⟩ ?_))
  case B => k_asm
  case K => k_asm
  case T => k_asm
  case hk => exact rfl
  case hd => ktr_room
  case hu => ktr_units
  intro o3 t3 k3 h3 tk3 ho3 E3 A3
  obtain ⟨F2, N2, ne2⟩ := news_many F1 N1 E3 A3
  clear F1 E3 A3
  have N1' := unhold N1
  clear N1
  simp only [mled, mdic, List.cons_append, List.nil_append] at N2
  ((repeat' (first | ((with_reducible show wpAny _ _ (call (Value.ref 221) _) _ _ _); k_dflt (refine' c_countM (by assumption) (CalN.mk (by k_asm) (by k_asm) (by k_asm) (by k_asm) (by exact rfl) (by ktr_room) (by ktr_units) (by exact News.subs (by k_asm) (mled_sub (by k_mem) (by k_mem) (by k_mem)))) ?_); (rename Fr _ _ _ _ => lF'); (rename News _ _ _ _ => lN'); intro c' t' h' tk' hc' E'; have F' := Ext.fr0 E' lF'; have N' := Ext.news0 E' lN'; clear lF' lN' E'; (try dsimp only)) | (k_unfold; (try dsimp only)) | walk1 | (dsimp only; walk1) | (leave1; (try dsimp only)))))
  rename Fr _ _ _ _ => F3
  rename News _ _ _ _ => N3
  refine unhold ?_
  have hxl3 : @Ne Nat o3.x o3.l ∧ @Ne Nat o3.d o3.l := ⟨ne_cls N3 (b := o3.l) (.head _) (.tail _ (.tail _ (.head _))) (by simp), ne_cls N3 (b := o3.l) (.tail _ (.head _)) (.tail _ (.tail _ (.head _))) (by simp)⟩
  have n3 := ne2 (o3.l, clist (List.replicate (o1.width * o1.height).toNat (0, t3)) k3) (by simp [mled])
  refine my_range (m := ?m) (n := cv1.length) [(o3.x, instObj 259 o3.d), (o3.d, mdic w.params o3), (o1.x, instObj 259 o1.d), (o1.d, mdicF w.params o1 f), (o1.l, clist cv1 k1), (o2.x, instObj 259 o2.d), (o2.d, mdic w.params o2), (o2.l, clist cv2 k2)] [(o3.l, clist (List.replicate (o1.width * o1.height).toNat (0, t3)) k3)] [o3.l]
    (fun i m W => (∃ u1 u2 u3, m = (U (U (U ?m (Str.ofString "y") u3) (Str.ofString "x") u2) (Str.ofString "at") u1)) ∧ ∃ cv3, W = [(o3.l, clist cv3 k3)] ∧ cv3.length = cv1.length ∧ ∀ j : Nat, j < i → j < cv1.length → (cv3.getD j (0, 0)).1 = share ((cv1.getD j (0, 0)).1 * cntAt o2 cv2 (o1.left + Int.fmod (j : Int) o1.width) (o1.top + Int.fdiv (j : Int) o1.width)) (f * f)) rfl ?F ?N (by assumption) ?sm ?sz (fun v => rfl) ?h0 ?hds ?noit ?turn ?done
  case F => exact F3
  case N =>
    refine News.subs N3 (subC (memI 2 rfl) <| subC (memI 0 rfl) <| subC (memI 1 rfl) <| subC (memI 3 rfl) <| subC (memI 4 rfl) <| subC (memI 5 rfl) <| subC (memI 6 rfl) <| subC ?_ <| subC (memI 8 rfl) subN)
    rw [mdic_eq f2]; exact memI 7 rfl
  case sm => exact small_one (by omega) (by omega) (by omega) (by omega)
  case sz => rw [rangeSize_nat]; omega
  case h0 =>
    refine ⟨⟨?u1, ?u2, ?u3, ?mp⟩, _, rfl, by rw [List.length_replicate]; omega, fun j hj => absurd hj (Nat.not_lt_zero _)⟩
    case mp => ((refine extU3 ?hoffx48 ?e1x48 ?e2x48 ?e3x48; (case e1x48 => rfl); (case e2x48 => rfl); (case e3x48 => rfl); (case hoffx48 => (repeat' (first | with_reducible exact Off.same | with_reducible exact List.Mem.head _ | with_reducible refine List.Mem.tail _ ?_ | with_reducible refine Off.l ?_ ?_)))))
  case hds =>
    intro d hd
    rw [List.mem_singleton.mp hd]
    refine ⟨⟨_, .head _⟩, subC hxl3.1 <| subC hxl3.2 <| subC (n3.mem _ (memI 0 rfl)) <| subC (n3.mem _ (memI 1 rfl)) <| subC (n3.mem _ (memI 2 rfl)) <| subC (n3.mem _ (memI 3 rfl)) <| subC ?_ <| subC (n3.mem _ (memI 5 rfl)) subN⟩
    exact n3.mem (o2.d, mdicF w.params o2 f) (memI 4 rfl)
  case noit =>
    rintro i m W ⟨_, cv3, rfl, _⟩ p hp
    rw [List.mem_singleton.mp hp]; rfl
  case turn =>
    intro SS hSS i t m₁ W1 h₁ tk₁ tl hi hR9 hsl htl F₂ N₂ PL
    refine lock ?_
    intro GG9
    rcases hR9 with ⟨⟨u1, u2, u3, rfl⟩, cv3, rfl, hl3, hv3⟩
    first | k_unfold | dsimp only [GG9]
    have x31 := hsl (o3.x, instObj 259 o3.d) (List.mem_iff_getElem?.mpr ⟨0, rfl⟩)
    have x32 := hsl (o3.d, mdic w.params o3) (List.mem_iff_getElem?.mpr ⟨1, rfl⟩)
    have x11 := hsl (o1.x, instObj 259 o1.d) (List.mem_iff_getElem?.mpr ⟨2, rfl⟩)
    have x12 := hsl (o1.d, mdicF w.params o1 f) (List.mem_iff_getElem?.mpr ⟨3, rfl⟩)
    have x13 := hsl (o1.l, clist cv1 k1) (List.mem_iff_getElem?.mpr ⟨4, rfl⟩)
    have x21 := hsl (o2.x, instObj 259 o2.d) (List.mem_iff_getElem?.mpr ⟨5, rfl⟩)
    have x22 := hsl (o2.d, mdic w.params o2) (List.mem_iff_getElem?.mpr ⟨6, rfl⟩)
    have x23 := hsl (o2.l, clist cv2 k2) (List.mem_iff_getElem?.mpr ⟨7, rfl⟩)
    have x22' : (o2.d, mdicF w.params o2 f) ∈ tl := (mdic_eq (P := w.params) f2) ▸ x22
    have x32' : (o3.d, mdicF w.params o3 o3.fine) ∈ tl := x32
    have hnn : AllNe o3.l tl := htl _ (.head _)
    rw [List.cons_append, List.nil_append] at N₂
    have hwp : o1.width ≠ 0 := fun e => by rw [e, Int.zero_mul] at hlen; omega
    have hidx : (0 + (i : Int)).toNat = i := by omega
    obtain ⟨v, hv⟩ : ∃ v, cv1[(0 + (i : Int)).toNat]? = some v := ⟨_, List.getElem?_eq_getElem (by omega)⟩
    have hvb := hc1 v (List.mem_of_getElem? hv)
    ((repeat' (first | ((with_reducible show wpAny _ _ (call (Value.ref 221) _) _ _ _); k_dflt (refine' c_countM (by assumption) (CalN.mk (by k_asm) (by k_asm) (by k_asm) (by k_asm) (by exact rfl) (by ktr_room) (by ktr_units) (by exact News.subs (by k_asm) (mled_sub (by k_mem) (by k_mem) (by k_mem)))) ?_); (rename Fr _ _ _ _ => lF'); (rename News _ _ _ _ => lN'); intro c' t' h' tk' hc' E'; have F' := Ext.fr0 E' lF'; have N' := Ext.news0 E' lN'; clear lF' lN' E'; (try dsimp only)) | (k_unfold; (try dsimp only)) | walk1 | (dsimp only; walk1) | (leave1; (try dsimp only)))))
    rename Fr _ _ _ _ => Fk
    rename News _ _ _ _ => Nk
    rename _ = cntAt o2 cv2 _ _ => hcq
    refine keep_post (W := [(o3.l, clist _ k3)]) Fk Nk (by ((repeat (first | exact fun _ h => h | refine sub_cons ?_)))) (hSS _ _ _ ⟨⟨?v1, ?v2, ?v3, ?mp1⟩, _, rfl, ?len1, ?vals⟩)
    case mp1 => ((refine extU3 ?hoffx49 ?e1x49 ?e2x49 ?e3x49; (case e1x49 => rfl); (case e2x49 => rfl); (case e3x49 => rfl); (case hoffx49 => (repeat' (first | with_reducible exact Off.same | with_reducible exact List.Mem.head _ | with_reducible refine List.Mem.tail _ ?_ | with_reducible refine Off.l ?_ ?_)))))
    case len1 => rw [List.length_set]; exact hl3
    case vals =>
      rw [hidx]
      refine set_upto (P := fun j z => z = share ((cv1.getD j (0, 0)).1 * cntAt o2 cv2 (o1.left + Int.fmod (j : Int) o1.width) (o1.top + Int.fdiv (j : Int) o1.width)) (f * f)) hv3 (by omega) ?_
      rw [hidx] at hv
      rw [hcq, Int.zero_add, List.getD_eq_getElem?_getD, hv]
      rfl
  case done =>
    intro h₂ tk₂ m₂ W₂ hR9 F₂ N₂
    refine lock ?_
    intro GG9
    rcases hR9 with ⟨⟨u1, u2, u3, rfl⟩, cv3, rfl, hl3, hv3⟩
    first | k_unfold | dsimp only [GG9]
    ((repeat' (first | ((with_reducible show wpAny _ _ (call (Value.ref 221) _) _ _ _); k_dflt (refine' c_countM (by assumption) (CalN.mk (by k_asm) (by k_asm) (by k_asm) (by k_asm) (by exact rfl) (by ktr_room) (by ktr_units) (by exact News.subs (by k_asm) (mled_sub (by k_mem) (by k_mem) (by k_mem)))) ?_); (rename Fr _ _ _ _ => lF'); (rename News _ _ _ _ => lN'); intro c' t' h' tk' hc' E'; have F' := Ext.fr0 E' lF'; have N' := Ext.news0 E' lN'; clear lF' lN' E'; (try dsimp only)) | (k_unfold; (try dsimp only)) | walk1 | (dsimp only; walk1) | (leave1; (try dsimp only)))))
    (((try dsimp only); (try (k_unfold; (try dsimp only)))))
    have NN : ∀ p ∈ [(o1.x, instObj 259 o1.d), (o1.d, mdicF w.params o1 f), (o1.l, clist cv1 k1), (o2.x, instObj 259 o2.d), (o2.d, mdicF w.params o2 f), (o2.l, clist cv2 k2)], p ∈ [(o3.l, clist cv3 k3)] ++ [(o3.x, instObj 259 o3.d), (o3.d, mdic w.params o3), (o1.x, instObj 259 o1.d), (o1.d, mdicF w.params o1 f), (o1.l, clist cv1 k1), (o2.x, instObj 259 o2.d), (o2.d, mdic w.params o2), (o2.l, clist cv2 k2)] := subC (memI 3 rfl) <| subC (memI 4 rfl) <| subC (memI 5 rfl) <| subC (memI 6 rfl) <| subC (by rw [mdic_eq f2]; exact memI 7 rfl) <| subC (memI 8 rfl) subN
    refine hret o3 cv3 k3 _ _ ⟨ho3.1, ho3.2.1, ho3.2.2.1, ho3.2.2.2.1, ho3.2.2.2.2.trans f1.symm⟩ hl3 (fun x y hin => mult_spec M1 ⟨ho3.1, ho3.2.1, ho3.2.2.1, ho3.2.2.2.1⟩ (fun j hj => hv3 j hj hj) hin) (ext_ro hG F₂ N N₂ NN) (subC ?z1 <| subC ?z2 <| subC ?z3 subN)
    case z1 =>
      have hm := N₂ (o3.x, instObj 259 o3.d) (memI 1 rfl)
      exact ⟨fresh_led hG N₂ (memI 1 rfl) (notin_ne (ne2 (o3.x, instObj 259 o3.d) (memI 0 rfl))), hm.1⟩
    case z2 =>
      have hm := N₂ (o3.d, mdic w.params o3) (memI 2 rfl)
      exact ⟨fresh_led hG N₂ (memI 2 rfl) (notin_ne (ne2 (o3.d, mdic w.params o3) (memI 1 rfl))), hm.1⟩
    case z3 => exact ⟨fresh_led hG N₂ (.head _) (notin_ne n3), (N₂ _ (.head _)).1⟩
theorem c_mult {w : World} {A : Around} {s : Shared} {Q E : Value → Shared → Prop} {o1 o2 : MO} {cv1 cv2 : List (Int × Tok)} {k1 k2 : Nat}
   (C : CalN w 9 300 A s.heap (mled w.params o1 cv1 k1 ++ mled w.params o2 cv2 k2)) (M1 : MOk o1 cv1) (M2 : MOk o2 cv2) (f1 : o1.fine = 1 ∨ o1.fine = 2) (f2 : o2.fine = o1.fine) (hc1 : ∀ c ∈ cv1, 0 ≤ c.1 ∧ c.1 ≤ 100)
   (hret : ∀ (o3 : MO) cv3 k3 (h' : Heap) tk', o3.left = o1.left ∧ o3.top = o1.top ∧ o3.width = o1.width ∧ o3.height = o1.height ∧ o3.fine = o1.fine → cv3.length = cv1.length →
      (∀ x y, inM o1 x y → cntAt o3 cv3 x y = share (cntAt o1 cv1 x y * cntAt o2 cv2 x y) (o1.fine * o1.fine)) → Ext [] s.heap h' → NewIn s.heap h' (mled w.params o3 cv3 k3) → Q (.ref o3.x) { s with heap := h', toks := tk' }) :
   wpAny (model PG w) A (call (.ref 249) [.ref o1.x, .ref o2.x]) Q E s := c_multF f1 C M1 M2 rfl f2 hc1 hret
end
section
theorem offC12 : True := by
  w_top off
  trivial
noncomputable def sumN (g : Nat → Int) : Nat → Int
  | 0 => 0
  | n + 1 => sumN g n + g n
noncomputable def insL (r : Str) (w : Int) : Int := if r = Str.ofString "nonzero" then (if w ≠ 0 then 1 else 0) else (if Int.fmod w 2 = 1 then 1 else 0)
theorem insL_n (w : Int) : insL (Str.ofString "nonzero") w = if w ≠ 0 then 1 else 0 := if_pos rfl
theorem insL_e (w : Int) : insL (Str.ofString "evenodd") w = if Int.fmod w 2 = 1 then 1 else 0 := if_neg (by decide)
noncomputable def cellv (ps : List PT) (r : Str) (st c ro : Int) : Int := insL r (windTo ps (c * st + Int.fdiv st 2) (ro * st + Int.fdiv st 2) ps.length)
noncomputable def lcount (ps : List PT) (r : Str) (x y fine grain : Int) : Int :=
  sumN (fun i => sumN (fun j => cellv ps r (Int.fdiv grain fine) (x * fine + (j : Int)) (y * fine + (i : Int))) fine.toNat) fine.toNat
theorem st_bd {f g c : Int} (hfg : FG f g) (hc : -50 ≤ c ∧ c ≤ 50) : -1000 ≤ c * Int.fdiv g f + Int.fdiv (Int.fdiv g f) 2 ∧ c * Int.fdiv g f + Int.fdiv (Int.fdiv g f) 2 ≤ 1000 := by
  rcases hfg with ⟨rfl, rfl⟩ | ⟨rfl, rfl⟩ | ⟨rfl, rfl⟩
  · rw [show Int.fdiv 4 1 = 4 from rfl, show Int.fdiv 4 2 = 2 from rfl]; omega
  · rw [show Int.fdiv 4 2 = 2 from rfl, show Int.fdiv 2 2 = 1 from rfl]; omega
  · rw [show Int.fdiv 8 2 = 4 from rfl, show Int.fdiv 4 2 = 2 from rfl]; omega
theorem asc {a f : Int} : a + f - a = f := by omega
theorem c_lcount {w : World} {A : Around} {s : Shared} {Q E : Value → Shared → Prop} {sp : Addr} {ps : List PT} {k : Nat} {r : Str} {x y f g : Int} {tx ty tr tf tg : Tok}
   (C : CalN w 8 200 A s.heap ((sp, ptup ps k) :: pled ps)) (hps : ∀ p ∈ ps, PTb p) (hlen : ps.length ≤ 4) (hx : -20 ≤ x ∧ x ≤ 20) (hy : -20 ≤ y ∧ y ≤ 20) (hr : r = Str.ofString "nonzero" ∨ r = Str.ofString "evenodd") (hfg : FG f g)
   (hret : ∀ c t (h' : Heap) tk', c = lcount ps r x y f g → Ext [] s.heap h' → Q (.int c t) { s with heap := h', toks := tk' }) :
   wpAny (model PG w) A (call (.ref 305) [.ref sp, .str r tr, .int x tx, .int y ty, .int f tf, .int g tg]) Q E s := by
  cases C with | mk B F X T hk hd hu N =>
  have hf0 : 1 ≤ f ∧ f ≤ 2 := by rcases hfg with ⟨rfl, rfl⟩ | ⟨rfl, rfl⟩ | ⟨rfl, rfl⟩ <;> omega
  have hg0 : 4 ≤ g ∧ g ≤ 8 := by rcases hfg with ⟨rfl, rfl⟩ | ⟨rfl, rfl⟩ | ⟨rfl, rfl⟩ <;> omega
  have hyf : (y + 1) * f = y * f + f := by rw [Int.add_mul, Int.one_mul]
  have hxf : (x + 1) * f = x * f + f := by rw [Int.add_mul, Int.one_mul]
  have hyb : -40 ≤ y * f ∧ y * f ≤ 40 := by rcases hfg with ⟨rfl, rfl⟩ | ⟨rfl, rfl⟩ | ⟨rfl, rfl⟩ <;> omega
  have hxb : -40 ≤ x * f ∧ x * f ≤ 40 := by rcases hfg with ⟨rfl, rfl⟩ | ⟨rfl, rfl⟩ | ⟨rfl, rfl⟩ <;> omega
  ((k_dflt (refine wpAny_call ?_; refine' code_vis ?k1x50 ?k2x50 ?k3x50 ?k4x50 ?k5x50 ?kAx50 ?kFx50 ?kKx50 ?k6x50 ?k7x50 ?k8x50 ?k9x50 ?kBx50 ?kMx50 ?_ ?c2x50 ?c3x50 ?c4x50 ?c5x50; (case kAx50 => exact rfl); (case kFx50 => exact rfl); (case kKx50 => assumption); (case k1x50 => k_asm); (case k2x50 => k_asm); (case k3x50 => k_asm); (case k4x50 => k_asm); (case k5x50 => k_asm); (case k6x50 => k_is); (case k7x50 => k_is); (case k8x50 => ktr_room); (case k9x50 => exact BindsTo.of_eq rfl); (case kMx50 => first | exact nice1 rfl | exact nice2 rfl | exact nice3 rfl | exact nice4 rfl | exact nice5 rfl | exact nice6 rfl); (case c5x50 => decide); (case kBx50 => exact locs rfl); (case c2x50 => exact rfl); (case c3x50 => exact rfl); (case c4x50 => exact rfl); k_whole; intro g' L' h' F' N' B' X' T' hG' hg' hlt' hsz'; (try dsimp only); (try k_fold))))
  rename ∀ (b : Addr) (o : Obj), s.heap.get? b = some o → b ∉ _ → _ => hG
  ((repeat' (first | (k_unfold; (try dsimp only)) | walk1 | (dsimp only; walk1) | (leave1; (try dsimp only)))))
  rename Fr _ _ _ _ => F1
  rename News _ _ _ _ => N1
  refine unhold ?_
  refine my_range (m := ?m) (n := f.toNat) ((sp, ptup ps k) :: pled ps) [] [] (fun i m W => W = [] ∧ ∃ c tc u1 u2 u3, c = sumN (fun i => sumN (fun j => cellv ps r (Int.fdiv g f) (x * f + (j : Int)) (y * f + (i : Int))) f.toNat) i ∧ m = (U (U (U (U ?m (Str.ofString "winding") u3) (Str.ofString "column") u2) (Str.ofString "row") u1) (Str.ofString "found") (some (.int c tc)))) rfl ?F ?N (by assumption) ?sm ?sz (fun v => rfl) ?h0 (fun d hd => nomatch hd) ?noit ?turn ?done
  case F => exact F1
  case N => exact News.subs N1 (by ((repeat (first | exact fun _ h => h | refine sub_cons ?_))))
  case sm => exact small_one (by omega) (by omega) (by omega) (by omega)
  case sz => rw [rangeSize_nat, hyf, asc]
  case h0 =>
    refine ⟨rfl, 0, ?tc, ?u1, ?u2, ?u3, rfl, ?mp⟩
    case mp => ((refine extU4 ?hoffx51 ?e1x51 ?e2x51 ?e3x51 ?e4x51; (case e1x51 => rfl); (case e2x51 => rfl); (case e3x51 => rfl); (case e4x51 => rfl); (case hoffx51 => (repeat' (first | with_reducible exact Off.same | with_reducible exact List.Mem.head _ | with_reducible refine List.Mem.tail _ ?_ | with_reducible refine Off.l ?_ ?_)))))
  case noit =>
    rintro i m W ⟨rfl, _⟩ p hp
    cases hp
  case turn =>
    intro SS hSS i t m₁ W1 h₁ tk₁ tl hi hR9 hsl htl F₂ N₂ PL
    refine lock ?_
    intro GG9
    rcases hR9 with ⟨rfl, c, tc, u1, u2, u3, hc, rfl⟩
    first | k_unfold | dsimp only [GG9]
    rw [List.nil_append] at N₂
    ((repeat' (first | (k_unfold; (try dsimp only)) | walk1 | (dsimp only; walk1) | (leave1; (try dsimp only)))))
    rename Fr _ _ _ _ => F3
    rename News _ _ _ _ => N3
    refine unhold ?_
    refine my_range (m := ?m2) (n := f.toNat) tl [] [] (fun j m W => W = [] ∧ ∃ d td u2 u3, d = c + sumN (fun j => cellv ps r (Int.fdiv g f) (x * f + (j : Int)) (y * f + (i : Int))) j ∧ m = (U (U (U ?m2 (Str.ofString "winding") u3) (Str.ofString "column") u2) (Str.ofString "found") (some (.int d td)))) rfl ?F3 ?N3 (by assumption) ?sm3 ?sz3 (fun v => rfl) ?h03 (fun d hd => nomatch hd) ?noit3 ?turn3 ?done3
    case F3 => exact F3
    case N3 => exact News.subs N3 (by ((repeat (first | exact fun _ h => h | refine sub_cons ?_))))
    case sm3 => exact small_one (by omega) (by omega) (by omega) (by omega)
    case sz3 => rw [rangeSize_nat, hxf, asc]
    case h03 =>
      refine ⟨rfl, c, ?td, ?v2, ?v3, (by rw [sumN]; omega), ?mp3⟩
      case mp3 => ((refine extU3 ?hoffx52 ?e1x52 ?e2x52 ?e3x52; (case e1x52 => rfl); (case e2x52 => rfl); (case e3x52 => rfl); (case hoffx52 => (repeat' (first | with_reducible exact Off.same | with_reducible exact List.Mem.head _ | with_reducible refine List.Mem.tail _ ?_ | with_reducible refine Off.l ?_ ?_)))))
    case noit3 =>
      rintro i m W ⟨rfl, _⟩ p hp
      cases hp
    case turn3 =>
      intro SS hSS j t2 m₂ W2 h₂ tk₂ tl2 hj hR9 hsl2 htl2 F₄ N₄ PL
      refine lock ?_
      intro GG9
      rcases hR9 with ⟨rfl, d, td, v2, v3, hdd, rfl⟩
      first | k_unfold | dsimp only [GG9]
      rw [List.nil_append] at N₄
      ((repeat' (first | (k_unfold; (try dsimp only)) | walk1 | (dsimp only; walk1) | (leave1; (try dsimp only)))))
      rename Fr _ _ _ _ => F5
      rename News _ _ _ _ => N5
      k_dflt (refine' unhold (c_wind (CalN.mk ?B F5 ?K ?T ?hk ?hd ?hu (News.subs N5 fun p hp => hsl2 p (hsl p hp))) hps hlen ?hx ?hy ?_))
      case B => k_asm
      case K => k_asm
      case T => k_asm
      case hk => exact rfl
      case hd => ktr_room
      case hu => ktr_units
      case hx => exact st_bd hfg (by omega)
      case hy => exact st_bd hfg (by omega)
      intro wd tw h3 tk3 hwd E3
      have F6 := Ext.fr0 E3 F5
      have N6 := Ext.news0 E3 N5
      clear F5 N5 E3
      rcases hr with rfl | rfl
      · ((repeat' (first | (k_unfold; (try dsimp only)) | walk1 | (dsimp only; walk1) | (leave1; (try dsimp only)))))
        rename Fr _ _ _ _ => Fk
        rename News _ _ _ _ => Nk
        refine keep_post (W := []) Fk Nk ?sk (hSS _ _ _ ⟨rfl, ?d1, ?td1, ?v21, ?v31, ?hd1, ?mp1⟩)
        case sk => rw [List.nil_append]; ((repeat (first | exact fun _ h => h | refine sub_cons ?_)))
        case mp1 => ((refine extU3 ?hoffx53 ?e1x53 ?e2x53 ?e3x53; (case e1x53 => rfl); (case e2x53 => rfl); (case e3x53 => rfl); (case hoffx53 => (repeat' (first | with_reducible exact Off.same | with_reducible exact List.Mem.head _ | with_reducible refine List.Mem.tail _ ?_ | with_reducible refine Off.l ?_ ?_)))))
        case hd1 =>
          rw [sumN, cellv, insL_n, ← hwd, hdd]
          by_cases hz : wd = 0
          · simp [hz] <;> omega
          · simp [hz] <;> omega
      · ((repeat' (first | (k_unfold; (try dsimp only)) | walk1 | (dsimp only; walk1) | (leave1; (try dsimp only)))))
        rename Fr _ _ _ _ => Fk
        rename News _ _ _ _ => Nk
        refine keep_post (W := []) Fk Nk ?sk2 (hSS _ _ _ ⟨rfl, ?e1, ?ud1, ?w21, ?w31, ?ee1, ?np1⟩)
        case sk2 => rw [List.nil_append]; ((repeat (first | exact fun _ h => h | refine sub_cons ?_)))
        case np1 => ((refine extU3 ?hoffx54 ?e1x54 ?e2x54 ?e3x54; (case e1x54 => rfl); (case e2x54 => rfl); (case e3x54 => rfl); (case hoffx54 => (repeat' (first | with_reducible exact Off.same | with_reducible exact List.Mem.head _ | with_reducible refine List.Mem.tail _ ?_ | with_reducible refine Off.l ?_ ?_)))))
        case ee1 =>
          rw [sumN, cellv, insL_e, ← hwd, hdd]
          by_cases hz : Int.fmod wd 2 = 1
          · simp [hz] <;> omega
          · simp [hz] <;> omega
    case done3 =>
      intro h₂ tk₂ m₂ W₂ hR9 F₄ N₄
      refine lock ?_
      intro GG9
      rcases hR9 with ⟨rfl, d, td, v2, v3, hdd, rfl⟩
      first | k_unfold | dsimp only [GG9]
      ((repeat' (first | (k_unfold; (try dsimp only)) | walk1 | (dsimp only; walk1) | (leave1; (try dsimp only)))))
      rename Fr _ _ _ _ => Fl
      rename News _ _ _ _ => Nl
      refine keep_post (W := []) Fl Nl ?sl (hSS _ _ _ ⟨rfl, ?d2, ?td2, ?v12, ?v22, ?v32, ?hd2, ?mp2⟩)
      case sl => rw [List.nil_append]; (try rw [List.nil_append] at Nl); ((repeat (first | exact fun _ h => h | refine sub_cons ?_)))
      case mp2 => ((refine extU4 ?hoffx55 ?e1x55 ?e2x55 ?e3x55 ?e4x55; (case e1x55 => rfl); (case e2x55 => rfl); (case e3x55 => rfl); (case e4x55 => rfl); (case hoffx55 => (repeat' (first | with_reducible exact Off.same | with_reducible exact List.Mem.head _ | with_reducible refine List.Mem.tail _ ?_ | with_reducible refine Off.l ?_ ?_)))))
      case hd2 => rw [hdd, hc]; rfl
  case done =>
    intro h₂ tk₂ m₂ W₂ hR9 F₂ N₂
    refine lock ?_
    intro GG9
    rcases hR9 with ⟨rfl, c, tc, u1, u2, u3, hc, rfl⟩
    first | k_unfold | dsimp only [GG9]
    ((repeat' (first | (k_unfold; (try dsimp only)) | walk1 | (dsimp only; walk1) | (leave1; (try dsimp only)))))
    (((try dsimp only); (try (k_unfold; (try dsimp only)))))
    exact hret c _ _ _ hc (ext_ro hG F₂ N N₂ (fun p hp => hp))
end
section
theorem offPL : True := by
  w_top off
  trivial
noncomputable def quint (o : SO) : Int × Int × Int × Int × Int := (o.x1, o.y1, o.x2, o.y2, o.way)
noncomputable def sideF (a b : PT) : Option (Int × Int × Int × Int × Int) := if a.y = b.y then none else if a.y < b.y then some (a.x, a.y, b.x, b.y, 1) else some (b.x, b.y, a.x, a.y, -1)
noncomputable def pairsF (ps : List PT) : List (PT × PT) := ps.zip (ps.drop 1) ++ (match ps.getLast?, ps.head? with | some a, some b => [(a, b)] | _, _ => [])
noncomputable def Sides (ps : List PT) (os : List SO) : Prop := os.map quint = (pairsF ps).filterMap fun p => sideF p.1 p.2
theorem mem_side {ps : List PT} {os : List SO} (h : Sides ps os) {o : SO} (ho : o ∈ os) : ∃ a ∈ ps, ∃ b ∈ ps, sideF a b = some (quint o) := by
  have h1 : quint o ∈ os.map quint := List.mem_map_of_mem ho
  rw [h] at h1
  obtain ⟨⟨a, b⟩, hp, he⟩ := List.mem_filterMap.mp h1
  refine ⟨a, ?_, b, ?_, he⟩
  · rcases List.mem_append.mp hp with hp | hp
    · exact (List.of_mem_zip hp).1
    · split at hp
      · rename_i a' b' ha hb
        have := List.mem_singleton.mp hp
        cases this
        exact List.mem_of_getLast? ha
      · cases hp
  · rcases List.mem_append.mp hp with hp | hp
    · exact List.mem_of_mem_drop (List.of_mem_zip hp).2
    · split at hp
      · rename_i a' b' ha hb
        have := List.mem_singleton.mp hp
        cases this
        exact List.mem_of_head? hb
      · cases hp
theorem side_ok {ps : List PT} {os : List SO} (h : Sides ps os) (hps : ∀ p ∈ ps, PTb p) {o : SO} (ho : o ∈ os) : SOb o ∧ (o.way = 1 ∨ o.way = -1) ∧ o.y1 < o.y2 := by
  obtain ⟨a, ha, b, hb, he⟩ := mem_side h ho
  obtain ⟨a1, a2, a3, a4⟩ := hps a ha
  obtain ⟨b1, b2, b3, b4⟩ := hps b hb
  unfold sideF at he
  split at he
  · cases he
  · split at he
    · have := Option.some.inj he
      simp only [quint, Prod.mk.injEq] at this
      obtain ⟨e1, e2, e3, e4, e5⟩ := this
      exact ⟨⟨by omega, by omega, by omega, by omega, by omega, by omega, by omega, by omega⟩, by omega, by omega⟩
    · have := Option.some.inj he
      simp only [quint, Prod.mk.injEq] at this
      obtain ⟨e1, e2, e3, e4, e5⟩ := this
      exact ⟨⟨by omega, by omega, by omega, by omega, by omega, by omega, by omega, by omega⟩, by omega, by omega⟩
theorem side_len {ps : List PT} {os : List SO} (h : Sides ps os) (hl : ps.length ≤ 4) : os.length ≤ 4 := by
  have e := congrArg List.length h
  rw [List.length_map] at e
  have e2 := List.length_filterMap_le (fun p : PT × PT => sideF p.1 p.2) (pairsF ps)
  have e3 : (pairsF ps).length ≤ 4 := by
    unfold pairsF
    rw [List.length_append, List.length_zip, List.length_drop]
    split
    · rename_i a b ha hb
      have : 0 < ps.length := by cases ps with | nil => simp at hb | cons _ _ => simp
      simp; omega
    · simp; omega
  omega
theorem cross_filter {os : List SO} {lo hi y st : Int} (h : lo ≤ y ∧ y < hi) : (os.filter (between lo hi)).filterMap (cross y st) = os.filterMap (cross y st) := by
  induction os with
  | nil => rfl
  | cons o r ih =>
    rw [List.filter_cons]
    split
    · rw [List.filterMap_cons, List.filterMap_cons, ih]
    · rename_i hb
      rw [List.filterMap_cons, ih]
      have : cross y st o = none := by
        unfold cross
        rw [if_neg]
        intro hc
        apply hb
        simp only [between, Bool.and_eq_true, decide_eq_true_eq]
        omega
      rw [this]
end
section
theorem offPL2 : True := by
  w_top off
  trivial
noncomputable def cover (sp : List (Int × Int)) (c : Int) : Int := (sp.map fun p => if p.1 ≤ c ∧ c < p.2 then 1 else 0).sum
noncomputable def wsum (cs : List (Int × Int)) (c : Int) : Int := (cs.map fun p => if p.1 ≤ c then p.2 else 0).sum
noncomputable def openV (b : Option Int) (c : Int) : Int := match b with | some b0 => if b0 ≤ c then 1 else 0 | none => 0
theorem wsum_cons {p : Int × Int} {cs : List (Int × Int)} {c : Int} : wsum (p :: cs) c = (if p.1 ≤ c then p.2 else 0) + wsum cs c := rfl
theorem wsum_low {cs : List (Int × Int)} {c : Int} (h : ∀ p ∈ cs, c < p.1) : wsum cs c = 0 := by
  induction cs with
  | nil => rfl
  | cons p r ih =>
    rw [wsum_cons, ih fun q hq => h q (.tail _ hq), if_neg]
    · rfl
    · have := h p (.head _); omega
theorem open_ge {b : Option Int} {c0 c : Int} (hb : ∀ b0, b = some b0 → b0 ≤ c0) (h : c0 ≤ c) : openV b c = if b.isSome = true then 1 else 0 := by
  cases b with
  | none => rfl
  | some b0 => exact if_pos (Int.le_trans (hb b0 rfl) h)
theorem open_cut {b : Option Int} {b0 c0 c : Int} : (if b0 ≤ c ∧ c < c0 then (1 : Int) else 0) = if c < c0 then openV (some b0) c else 0 := by
  by_cases h : c < c0
  · rw [if_pos h]
    by_cases h2 : b0 ≤ c
    · rw [if_pos ⟨h2, h⟩]; exact (if_pos h2).symm
    · rw [if_neg (fun x => h2 x.1)]; exact (if_neg h2).symm
  · rw [if_neg h, if_neg (fun x => h x.2)]
theorem cover_go {r : Str} : ∀ (q : List (Int × Int)) (c0 e0 w : Int) (b : Option Int), ((c0, e0) :: q).Pairwise (fun p q => p.1 ≤ q.1) → (∀ b0, b = some b0 → b0 ≤ c0) → ins r (w + (((c0, e0) :: q).map (·.2)).sum) = false → ∀ c,
    cover (spansGo r ((c0, e0) :: q) w b) c = if c < c0 then openV b c else if ins r (w + wsum ((c0, e0) :: q) c) = true then 1 else 0 := by
  intro q
  induction q with
  | nil =>
    intro c0 e0 w b hs hb ht c
    simp only [List.map_cons, List.map_nil, List.sum_cons, List.sum_nil, Int.add_zero] at ht
    rw [go_cons, if_neg (by simp), ht, if_neg (by simp)]
    have hz : (if c < c0 then (0 : Int) else if ins r (w + wsum [(c0, e0)] c) = true then 1 else 0) = 0 := by
      by_cases h : c < c0
      · rw [if_pos h]
      · rw [if_neg h, wsum_cons, if_pos (show c0 ≤ c from Int.not_lt.mp h)]
        show (if ins r (w + (e0 + 0)) = true then (1 : Int) else 0) = 0
        rw [Int.add_zero, ht]; rfl
    cases b with
    | none => exact hz.symm
    | some b0 =>
      show (if b0 ≤ c ∧ c < c0 then (1 : Int) else 0) + 0 = _
      rw [Int.add_zero, open_cut (b := none)]
      by_cases h : c < c0
      · rw [if_pos h, if_pos h]
      · rw [if_neg h] at hz ⊢
        rw [if_neg h]; exact hz.symm
  | cons a q' ih =>
    obtain ⟨c1, e1⟩ := a
    intro c0 e0 w b hs hb ht c
    have hs' := List.pairwise_cons.mp hs
    have h01 : c0 ≤ c1 := hs'.1 _ (.head _)
    have ht' : ins r (w + e0 + (((c1, e1) :: q').map (·.2)).sum) = false := by
      rw [← ht, List.map_cons (a := (c0, e0)), List.sum_cons, Int.add_assoc]
    have hw : w + wsum ((c0, e0) :: (c1, e1) :: q') c = (if c0 ≤ c then w + e0 else w) + wsum ((c1, e1) :: q') c := by
      rw [wsum_cons, ← Int.add_assoc]
      show w + (if c0 ≤ c then e0 else 0) + _ = _
      by_cases h : c0 ≤ c
      · rw [if_pos h, if_pos h]
      · rw [if_neg h, if_neg h, Int.add_zero]
    rw [go_cons]
    by_cases heq : c1 = c0
    · subst heq
      rw [if_pos (by simp), ih c1 e1 (w + e0) b hs'.2 hb ht' c, hw]
      by_cases h : c < c1
      · rw [if_pos h, if_pos h]
      · rw [if_neg h, if_neg h, if_pos (Int.not_lt.mp h)]
    · rw [if_neg (by simpa using heq)]
      have hlow : c < c1 → wsum ((c1, e1) :: q') c = 0 := fun h => wsum_low fun p hp => by
        rcases List.mem_cons.mp hp with rfl | hp
        · exact h
        · exact Int.lt_of_lt_of_le h ((List.pairwise_cons.mp hs'.2).1 p hp)
      have key : (if c < c1 then (if c < c0 then openV b c else if ins r (w + e0) = true then 1 else 0) else if ins r (w + e0 + wsum ((c1, e1) :: q') c) = true then 1 else 0)
          = if c < c0 then openV b c else if ins r (w + wsum ((c0, e0) :: (c1, e1) :: q') c) = true then 1 else 0 := by
        rw [hw]
        by_cases h0 : c < c0
        · rw [if_pos h0, if_pos h0, if_pos (Int.lt_of_lt_of_le h0 h01)]
        · rw [if_neg h0, if_neg h0, if_pos (Int.not_lt.mp h0)]
          by_cases h1 : c < c1
          · rw [if_pos h1, hlow h1, Int.add_zero]
          · rw [if_neg h1]
      rw [← key]
      by_cases hin : ins r (w + e0) = true
      · have hb1 : ∀ b0, some (b.getD c0) = some b0 → b0 ≤ c0 := fun b0 h => by
          rw [← Option.some.inj h]
          cases b with
          | none => exact Int.le_refl _
          | some b1 => exact hb b1 rfl
        rw [if_pos hin, ih c1 e1 (w + e0) (some (b.getD c0)) hs'.2 (fun b0 h => Int.le_trans (hb1 b0 h) h01) ht' c, if_pos hin]
        have ho : openV (some (b.getD c0)) c = if c < c0 then openV b c else 1 := by
          by_cases h0 : c < c0
          · rw [if_pos h0]
            cases b with
            | none => exact if_neg (Int.not_le.mpr h0)
            | some b0 => rfl
          · rw [if_neg h0, open_ge hb1 (Int.not_lt.mp h0)]; rfl
        rw [ho]
      · rw [if_neg hin, if_neg hin]
        have hrec := ih c1 e1 (w + e0) none hs'.2 (fun b0 h => by cases h) ht' c
        have hn : openV none c = 0 := rfl
        rw [hn] at hrec
        cases b with
        | none =>
          rw [hn]
          refine hrec.trans ?_
          by_cases h0 : c < c0
          · rw [if_pos h0]
          · rw [if_neg h0]
        | some b0 =>
          show (if b0 ≤ c ∧ c < c0 then (1 : Int) else 0) + cover (spansGo r ((c1, e1) :: q') (w + e0) none) c = _
          rw [hrec, open_cut (b := none)]
          by_cases h0 : c < c0
          · rw [if_pos h0, if_pos (Int.lt_of_lt_of_le h0 h01), if_pos (Int.lt_of_lt_of_le h0 h01), Int.add_zero]
          · rw [if_neg h0, Int.zero_add]
theorem ins_zero {r : Str} (hr : r = Str.ofString "nonzero" ∨ r = Str.ofString "evenodd") : ins r 0 = false := by
  rcases hr with rfl | rfl
  · rw [insN]; rfl
  · rw [insE]; rfl
theorem cover_all {r : Str} (hr : r = Str.ofString "nonzero" ∨ r = Str.ofString "evenodd") {cs : List (Int × Int)} (hs : cs.Pairwise fun p q => p.1 ≤ q.1) (ht : (cs.map (·.2)).sum = 0) (c : Int) :
    cover (spansGo r cs 0 none) c = if ins r (wsum cs c) = true then 1 else 0 := by
  cases cs with
  | nil =>
    simp only [spansGo, cover, wsum, List.map_nil, List.sum_nil, ins_zero hr]; rfl
  | cons p q =>
    obtain ⟨c0, e0⟩ := p
    rw [cover_go q c0 e0 0 none hs (fun b0 h => by cases h) (by rw [ht]; exact ins_zero hr) c, Int.zero_add]
    split
    · rename_i h
      rw [wsum_low fun x hx => ?_, ins_zero hr]
      · rfl
      · rcases List.mem_cons.mp hx with rfl | hx
        · exact h
        · have := (List.pairwise_cons.mp hs).1 x hx; omega
    · rfl
end
section
theorem offPL3 : True := by
  w_top off
  trivial
noncomputable def wq (y : Int) (q : Int × Int × Int × Int × Int) : Int := if q.2.1 ≤ y ∧ y < q.2.2.2.1 then q.2.2.2.2 else 0
noncomputable def cq (X y : Int) (q : Int × Int × Int × Int × Int) : Int := if q.2.1 ≤ y ∧ y < q.2.2.2.1 ∧ (X - q.1) * (q.2.2.2.1 - q.2.1) ≥ (q.2.2.1 - q.1) * (y - q.2.1) then q.2.2.2.2 else 0
noncomputable def ofOpt (g : Int × Int × Int × Int × Int → Int) : Option (Int × Int × Int × Int × Int) → Int
  | some q => g q
  | none => 0
theorem sum_filterMap {α : Type} (g : Int × Int × Int × Int × Int → Int) (f : α → Option (Int × Int × Int × Int × Int)) : ∀ l : List α, ((l.filterMap f).map g).sum = (l.map fun a => ofOpt g (f a)).sum
  | [] => rfl
  | a :: r => by
    rw [List.filterMap_cons, List.map_cons, List.sum_cons, ← sum_filterMap g f r]
    split
    · rename_i h; rw [h]; simp [ofOpt]
    · rename_i q h; rw [h, List.map_cons, List.sum_cons]; rfl
theorem sides_sum {ps : List PT} {os : List SO} (h : Sides ps os) (g : Int × Int × Int × Int × Int → Int) : (os.map fun o => g (quint o)).sum = ((pairsF ps).map fun p => ofOpt g (sideF p.1 p.2)).sum := by
  rw [← sum_filterMap, ← h, List.map_map]; rfl
theorem way_sum (y st : Int) : ∀ os : List SO, ((os.filterMap (cross y st)).map (·.2)).sum = (os.map fun o => wq y (quint o)).sum
  | [] => rfl
  | o :: r => by
    rw [List.filterMap_cons, List.map_cons, List.sum_cons, ← way_sum y st r]
    unfold cross wq quint
    simp only
    by_cases h : o.y1 ≤ y ∧ y < o.y2
    · rw [if_pos h, if_pos h]; simp only [List.map_cons, List.sum_cons]
    · rw [if_neg h, if_neg h]; simp
theorem wq_pair (y : Int) (a b : PT) : ofOpt (wq y) (sideF a b) = (if a.y ≤ y then 1 else 0) - (if b.y ≤ y then 1 else 0) := by
  unfold sideF
  split
  · simp only [ofOpt]; repeat' split
    all_goals omega
  · split
    · simp only [ofOpt, wq]; repeat' split
      all_goals omega
    · simp only [ofOpt, wq]; repeat' split
      all_goals omega
theorem cq_pair (X y : Int) (a b : PT) : ofOpt (cq X y) (sideF a b) = contrib a b X y := by
  unfold sideF
  split
  · rename_i h
    rw [contrib_dn0 (by omega) (fun x => by have := x.1; have := x.2.1; omega)]; rfl
  · split
    · rename_i h
      simp only [ofOpt, cq, contrib, if_pos h, hit]
    · rename_i h
      simp only [ofOpt, cq, contrib, if_neg h, hit]
theorem ps34 {ps : List PT} (hl : ps.length = 3 ∨ ps.length = 4) : (∃ a b c, ps = [a, b, c]) ∨ ∃ a b c d, ps = [a, b, c, d] := by
  cases ps with
  | nil => cases hl with
    | inl h => cases h
    | inr h => cases h
  | cons a r => cases r with
    | nil => cases hl with
      | inl h => cases h
      | inr h => cases h
    | cons b r => cases r with
      | nil => cases hl with
        | inl h => cases h
        | inr h => cases h
      | cons c r => cases r with
        | nil => exact .inl ⟨a, b, c, rfl⟩
        | cons d r => cases r with
          | nil => exact .inr ⟨a, b, c, d, rfl⟩
          | cons e r => cases hl with
            | inl h => cases h
            | inr h => cases h
theorem plain_sum {ps : List PT} {os : List SO} (h : Sides ps os) (hl : ps.length = 3 ∨ ps.length = 4) (y st : Int) : ((os.filterMap (cross y st)).map (·.2)).sum = 0 := by
  rw [way_sum, sides_sum h]
  simp only [wq_pair]
  rcases ps34 hl with ⟨a, b, c, rfl⟩ | ⟨a, b, c, d, rfl⟩
  · simp only [pairsF, List.drop_succ_cons, List.drop_zero, List.zip_cons_cons, List.zip_nil_right, List.getLast?_cons_cons, List.getLast?_singleton, List.head?_cons, List.cons_append, List.nil_append, List.map_cons, List.map_nil, List.sum_cons, List.sum_nil]
    omega
  · simp only [pairsF, List.drop_succ_cons, List.drop_zero, List.zip_cons_cons, List.zip_nil_right, List.getLast?_cons_cons, List.getLast?_singleton, List.head?_cons, List.cons_append, List.nil_append, List.map_cons, List.map_nil, List.sum_cons, List.sum_nil]
    omega
theorem wind_sum {ps : List PT} {os : List SO} (h : Sides ps os) (hl : ps.length = 3 ∨ ps.length = 4) (X y : Int) : (os.map fun o => cq X y (quint o)).sum = windTo ps X y ps.length := by
  rw [sides_sum h]
  simp only [cq_pair]
  rcases ps34 hl with ⟨a, b, c, rfl⟩ | ⟨a, b, c, d, rfl⟩
  · simp only [pairsF, List.drop_succ_cons, List.drop_zero, List.zip_cons_cons, List.zip_nil_right, List.getLast?_cons_cons, List.getLast?_singleton, List.head?_cons, List.cons_append, List.nil_append, List.map_cons, List.map_nil, List.sum_cons, List.sum_nil]
    show _ = 0 + contrib c a X y + contrib a b X y + contrib b c X y
    omega
  · simp only [pairsF, List.drop_succ_cons, List.drop_zero, List.zip_cons_cons, List.zip_nil_right, List.getLast?_cons_cons, List.getLast?_singleton, List.head?_cons, List.cons_append, List.nil_append, List.map_cons, List.map_nil, List.sum_cons, List.sum_nil]
    show _ = 0 + contrib d a X y + contrib a b X y + contrib b c X y + contrib c d X y
    omega
theorem sum_perm {α : Type} {f : α → Int} {a b : List α} (h : a.Perm b) : (a.map f).sum = (b.map f).sum := by
  induction h with
  | nil => rfl
  | cons x _ ih => simp only [List.map_cons, List.sum_cons, ih]
  | swap x y l => simp only [List.map_cons, List.sum_cons]; omega
  | trans _ _ i1 i2 => rw [i1, i2]
theorem ceil_le {T D c : Int} (hD : 0 < D) : 0 - Int.fdiv (0 - T) D ≤ c ↔ T ≤ c * D := by
  have e : 0 - Int.fdiv (0 - T) D ≤ c ↔ 0 - c ≤ Int.fdiv (0 - T) D := by omega
  rw [e, Int.fdiv_eq_ediv_of_nonneg _ (Int.le_of_lt hD), Int.le_ediv_iff_mul_le hD, Int.sub_mul, Int.zero_mul]
  omega
theorem behind_le {o : SO} {y c st : Int} (hst : st = 2 ∨ st = 4) (ho : o.y1 < o.y2) : behind o y st ≤ c ↔ (c * st + Int.fdiv st 2 - o.x1) * (o.y2 - o.y1) ≥ (o.x2 - o.x1) * (y - o.y1) := by
  unfold behind
  have hD : 0 < 2 * st * (o.y2 - o.y1) := Int.mul_pos (by omega) (by omega)
  rw [ceil_le hD]
  generalize hH : o.y2 - o.y1 = H at *
  generalize hW : (o.x2 - o.x1) * (y - o.y1) = W
  have hx : (c * st + Int.fdiv st 2 - o.x1) * H = c * st * H + Int.fdiv st 2 * H - o.x1 * H := by rw [Int.sub_mul, Int.add_mul]
  rw [hx]
  generalize hP : o.x1 * H = P
  rcases hst with rfl | rfl
  · rw [show Int.fdiv 2 2 = 1 from rfl, show c * (2 * 2 * H) = 4 * (c * H) by rw [← Int.mul_assoc, Int.mul_comm c (2 * 2), Int.mul_assoc]; rfl, show c * 2 * H = 2 * (c * H) by rw [Int.mul_comm c 2, Int.mul_assoc]]
    omega
  · rw [show Int.fdiv 4 2 = 2 from rfl, show c * (2 * 4 * H) = 8 * (c * H) by rw [← Int.mul_assoc, Int.mul_comm c (2 * 4), Int.mul_assoc]; rfl, show c * 4 * H = 4 * (c * H) by rw [Int.mul_comm c 4, Int.mul_assoc]]
    omega
theorem wsum_cross {y c st : Int} (hst : st = 2 ∨ st = 4) : ∀ os : List SO, wsum (os.filterMap (cross y st)) c = (os.map fun o => cq (c * st + Int.fdiv st 2) y (quint o)).sum
  | [] => rfl
  | o :: r => by
    rw [List.filterMap_cons, List.map_cons, List.sum_cons, ← wsum_cross hst r]
    unfold cross cq quint
    simp only
    by_cases h : o.y1 ≤ y ∧ y < o.y2
    · rw [if_pos h]
      have hb := behind_le (o := o) (y := y) (c := c) hst (by omega)
      simp only [wsum_cons]
      by_cases h2 : behind o y st ≤ c
      · rw [if_pos h2, if_pos ⟨h.1, h.2, hb.mp h2⟩]
      · rw [if_neg h2, if_neg (fun x => h2 (hb.mpr x.2.2))]
    · rw [if_neg h, if_neg (fun x => h ⟨x.1, x.2.1⟩)]; simp
theorem insL_ins {r : Str} (hr : r = Str.ofString "nonzero" ∨ r = Str.ofString "evenodd") (w : Int) : (if ins r w = true then (1 : Int) else 0) = insL r w := by
  rcases hr with rfl | rfl
  · rw [insL_n, insN]; simp
  · rw [insL_e, insE]
    have := Int.fmod_eq_emod_of_nonneg w (show (0 : Int) ≤ 2 by decide)
    have h2 := Int.emod_two_eq w
    by_cases h : Int.fmod w 2 = 1
    · rw [if_pos h]; simp [h]
    · rw [if_neg h, if_neg]; simp; omega
theorem ovs1 {left width x : Int} (hx : left ≤ x ∧ x < left + width) : ∀ sp : List (Int × Int), ovs 1 (left * 1) ((left + width) * 1) sp x = cover sp (x * 1 + ((0 : Nat) : Int))
  | [] => rfl
  | p :: r => by
    have ih := ovs1 hx r
    unfold ovs cover at ih ⊢
    rw [List.map_cons, List.sum_cons, List.map_cons, List.sum_cons, ih]
    congr 1
    rw [ovl_eq, ovq_clamp (by omega) (by omega), show (x + 1) * 1 = x * 1 + 1 by omega, ovq1]
    simp only [Int.natCast_zero, Int.add_zero]
theorem ovs2 {left width x : Int} (hx : left ≤ x ∧ x < left + width) : ∀ sp : List (Int × Int), ovs 2 (left * 2) ((left + width) * 2) sp x = cover sp (x * 2 + ((0 : Nat) : Int)) + cover sp (x * 2 + ((1 : Nat) : Int))
  | [] => rfl
  | p :: r => by
    have ih := ovs2 hx r
    unfold ovs cover at ih ⊢
    rw [List.map_cons, List.sum_cons, List.map_cons, List.sum_cons, List.map_cons, List.sum_cons, ih]
    have : ovl 2 (max p.1 (left * 2)) (max (max p.1 (left * 2)) (min p.2 ((left + width) * 2))) x = (if p.1 ≤ x * 2 + ((0 : Nat) : Int) ∧ x * 2 + ((0 : Nat) : Int) < p.2 then 1 else 0) + (if p.1 ≤ x * 2 + ((1 : Nat) : Int) ∧ x * 2 + ((1 : Nat) : Int) < p.2 then 1 else 0) := by
      rw [ovl_eq, ovq_clamp (by omega) (by omega), show (x + 1) * 2 = x * 2 + 2 by omega, ovq_split (m := x * 2 + 1) (by omega) (by omega), ovq1, show x * 2 + 2 = x * 2 + 1 + 1 by omega, ovq1]
      simp only [Int.natCast_zero, Int.add_zero, Int.natCast_one]
    rw [this]
    omega
theorem plain_row {ps : List PT} {os : List SO} {cs : List (Int × Int)} {r : Str} {fine grain row left width x : Int} (h : Sides ps os) (hl : ps.length = 3 ∨ ps.length = 4) (hfg : FG fine grain) (hr : r = Str.ofString "nonzero" ∨ r = Str.ofString "evenodd")
    (hp : cs.Perm (os.filterMap (cross (row * Int.fdiv grain fine + Int.fdiv (Int.fdiv grain fine) 2) (Int.fdiv grain fine)))) (hs : cs.Pairwise fun a b => a.1 ≤ b.1) (hx : left ≤ x ∧ x < left + width) :
    ovs fine (left * fine) ((left + width) * fine) (spansGo r cs 0 none) x = sumN (fun j => cellv ps r (Int.fdiv grain fine) (x * fine + (j : Int)) row) fine.toNat := by
  have ht : (cs.map (·.2)).sum = 0 := by rw [sum_perm hp]; exact plain_sum h hl _ _
  have hst : Int.fdiv grain fine = 2 ∨ Int.fdiv grain fine = 4 := by
    rcases hfg with ⟨rfl, rfl⟩ | ⟨rfl, rfl⟩ | ⟨rfl, rfl⟩ <;> decide
  have hcell : ∀ c : Int, cover (spansGo r cs 0 none) c = cellv ps r (Int.fdiv grain fine) c row := fun c => by
    rw [cover_all hr hs ht, insL_ins hr, cellv]
    congr 1
    rw [← wind_sum h hl, ← wsum_cross hst]
    exact sum_perm hp
  rcases hfg with ⟨rfl, rfl⟩ | ⟨rfl, rfl⟩ | ⟨rfl, rfl⟩
  · rw [ovs1 hx, hcell]; show _ = 0 + _; rw [Int.zero_add]
  · rw [ovs2 hx, hcell, hcell]; show _ = 0 + _ + _; rw [Int.zero_add]
  · rw [ovs2 hx, hcell, hcell]; show _ = 0 + _ + _; rw [Int.zero_add]
end
section
theorem offC9a : True := by
  w_top off
  trivial
theorem side_in' {P : Params} {s h' : Heap} {x d : Addr} {L : Addr} {g : Heap} {led : List (Addr × Obj)} {a1 a2 a3 a4 a5 : Int} {t1 t2 t3 t4 t5 k1 k2 k3 k4 k5 : Tok} (N : News g L h' led) (hx : (x, instObj 148 d) ∈ led)
    (hd : (d, dictOf [⟨PyData.keyHash P (Str.ofString "x1"), .str (Str.ofString "x1") k1, .int a1 t1⟩, ⟨PyData.keyHash P (Str.ofString "y1"), .str (Str.ofString "y1") k2, .int a2 t2⟩, ⟨PyData.keyHash P (Str.ofString "x2"), .str (Str.ofString "x2") k3, .int a3 t3⟩,
      ⟨PyData.keyHash P (Str.ofString "y2"), .str (Str.ofString "y2") k4, .int a4 t4⟩, ⟨PyData.keyHash P (Str.ofString "way"), .str (Str.ofString "way") k5, .int a5 t5⟩] 5) ∈ led)
    (fx : s.get? x = none) (fd : s.get? d = none) : ∃ o : SO, o.x = x ∧ quint o = (a1, a2, a3, a4, a5) ∧ NewIn s h' (SO.led P o) := by
  refine ⟨⟨x, d, a1, a2, a3, a4, a5, t1, t2, t3, t4, t5, k1, k2, k3, k4, k5⟩, rfl, rfl, fun p hp => ?_⟩
  simp only [SO.led, List.mem_cons, List.not_mem_nil, or_false] at hp
  rcases hp with rfl | rfl
  · exact ⟨fx, (N _ hx).1⟩
  · exact ⟨fd, (N _ hd).1⟩
theorem c_side {w : World} {A : Around} {s : Shared} {Q E : Value → Shared → Prop} {a1 a2 a3 a4 a5 : Int} {t1 t2 t3 t4 t5 : Tok}
   (C : CalN w 4 60 A s.heap [])
   (hret : ∀ (o : SO) (h' : Heap) tk', quint o = (a1, a2, a3, a4, a5) → Ext [] s.heap h' → NewIn s.heap h' (SO.led w.params o) → Q (.ref o.x) { s with heap := h', toks := tk' }) :
   wpAny (model PG w) A (call (.ref 148) [.int a1 t1, .int a2 t2, .int a3 t3, .int a4 t4, .int a5 t5]) Q E s := by
  cases C with | mk B F X T hk hd hu N =>
  k_dflt (refine' call_clsX F X N ?k4 ?k5 ?k6 ?_)
  case k4 => k_is
  case k5 => k_is
  case k6 => k_is
  intro x d h1 F1 N1 l1 l2 up fx fd
  k_lt2 l2
  ((k_dflt (refine' code_vis ?k1x56 ?k2x56 ?k3x56 ?k4x56 ?k5x56 ?kAx56 ?kFx56 ?kKx56 ?k6x56 ?k7x56 ?k8x56 ?k9x56 ?kBx56 ?kMx56 ?_ ?c2x56 ?c3x56 ?c4x56 ?c5x56; (case kAx56 => exact rfl); (case kFx56 => exact rfl); (case kKx56 => assumption); (case k1x56 => k_asm); (case k2x56 => k_asm); (case k3x56 => k_asm); (case k4x56 => k_asm); (case k5x56 => k_asm); (case k6x56 => k_is); (case k7x56 => k_is); (case k8x56 => ktr_room); (case k9x56 => exact BindsTo.of_eq rfl); (case kMx56 => first | exact nice1 rfl | exact nice2 rfl | exact nice3 rfl | exact nice4 rfl | exact nice5 rfl | exact nice6 rfl); (case c5x56 => decide); (case kBx56 => exact locs rfl); (case c2x56 => exact rfl); (case c3x56 => exact rfl); (case c4x56 => exact rfl); k_whole; intro g' L' h' F' N' B' X' T' hG' hg' hlt' hsz'; (try dsimp only at F'); (try dsimp only); (try k_fold))))
  rename ∀ (b : Addr) (o : Obj), h1.get? b = some o → b ∉ _ → _ => hG
  ((repeat' (first | (k_unfold; (try dsimp only)) | walk1 | (dsimp only; walk1) | (leave1; (try dsimp only)))))
  unfold InitBack
  refine ⟨rfl, ?_⟩
  rename Fr _ _ _ _ => F2
  rename News _ _ _ _ => N2
  obtain ⟨o, rfl, ho, hnew⟩ := side_in' (s := s.heap) (P := w.params) (d := d) N2 (by k_mem) (by first | exact .head _ | k_mem) fx fd
  exact hret o _ _ ho (fun b o e n => F2.keep b o (hG b o (up b o e) (notin2 e fx fd))) hnew
theorem new_up {s h1 h' : Heap} {led : List (Addr × Obj)} (E : Ext [] s h1) (A : NewIn h1 h' led) : NewIn s h' led := fun p hp => by
  refine ⟨?_, (A p hp).2⟩
  cases q : s.get? p.1 with
  | none => rfl
  | some o => have := E _ _ q (fun x => nomatch x); rw [(A p hp).1] at this; cases this
theorem c_sideb {w : World} {A : Around} {s : Shared} {Q E : Value → Shared → Prop} {a b : PT}
   (C : CalN w 6 100 A s.heap [(a.a, tupOf [.int a.x a.tx, .int a.y a.ty]), (b.a, tupOf [.int b.x b.tx, .int b.y b.ty])]) (ha : PTb a) (hb : PTb b)
   (hnone : ∀ (h' : Heap) tk', sideF a b = none → Ext [] s.heap h' → Q .none { s with heap := h', toks := tk' })
   (hsome : ∀ (o : SO) (h' : Heap) tk', sideF a b = some (quint o) → Ext [] s.heap h' → NewIn s.heap h' (SO.led w.params o) → Q (.ref o.x) { s with heap := h', toks := tk' }) :
   wpAny (model PG w) A (call (.ref 159) [.ref a.a, .ref b.a]) Q E s := by
  cases C with | mk B F X T hk hd hu N =>
  obtain ⟨a1, a2, a3, a4⟩ := ha
  obtain ⟨b1, b2, b3, b4⟩ := hb
  ((k_dflt (refine wpAny_call ?_; refine' code_vis ?k1x57 ?k2x57 ?k3x57 ?k4x57 ?k5x57 ?kAx57 ?kFx57 ?kKx57 ?k6x57 ?k7x57 ?k8x57 ?k9x57 ?kBx57 ?kMx57 ?_ ?c2x57 ?c3x57 ?c4x57 ?c5x57; (case kAx57 => exact rfl); (case kFx57 => exact rfl); (case kKx57 => assumption); (case k1x57 => k_asm); (case k2x57 => k_asm); (case k3x57 => k_asm); (case k4x57 => k_asm); (case k5x57 => k_asm); (case k6x57 => k_is); (case k7x57 => k_is); (case k8x57 => ktr_room); (case k9x57 => exact BindsTo.of_eq rfl); (case kMx57 => first | exact nice1 rfl | exact nice2 rfl | exact nice3 rfl | exact nice4 rfl | exact nice5 rfl | exact nice6 rfl); (case c5x57 => decide); (case kBx57 => exact locs rfl); (case c2x57 => exact rfl); (case c3x57 => exact rfl); (case c4x57 => exact rfl); k_whole; intro g' L' h' F' N' B' X' T' hG' hg' hlt' hsz'; (try dsimp only); (try k_fold))))
  rename ∀ (b : Addr) (o : Obj), s.heap.get? b = some o → b ∉ _ → _ => hG
  ((repeat' (first | (k_unfold; (try dsimp only)) | walk1 | (dsimp only; walk1) | (leave1; (try dsimp only)))))
  · rename Fr _ _ _ _ => F2
    rename News _ _ _ _ => N2
    (((try dsimp only); (try (k_unfold; (try dsimp only)))))
    exact hnone _ _ (by unfold sideF; rw [if_pos (by omega)]) (ext_ro hG F2 N N2 (by ((repeat (first | exact fun _ h => h | refine sub_cons ?_)))))
  · rename Fr _ _ _ _ => F2
    rename News _ _ _ _ => N2
    k_dflt (refine' unhold (c_side (CalN.mk ?B F2 ?K ?T ?hk ?hd ?hu (nil_of F2)) ?_))
    case B => k_asm
    case K => k_asm
    case T => k_asm
    case hk => exact rfl
    case hd => ktr_room
    case hu => ktr_units
    intro o h3 tk3 ho E3 A3
    have E2 := ext_ro hG F2 N N2 (by ((repeat (first | exact fun _ h => h | refine sub_cons ?_))))
    (((try dsimp only); (try (k_unfold; (try dsimp only)))))
    exact hsome o _ _ (by rw [ho]; unfold sideF; rw [if_neg (by omega), if_pos (by omega)]) (E2.trans E3) (new_up E2 A3)
  · rename Fr _ _ _ _ => F2
    rename News _ _ _ _ => N2
    k_dflt (refine' unhold (c_side (CalN.mk ?B2 F2 ?K2 ?T2 ?hk2 ?hd2 ?hu2 (nil_of F2)) ?_))
    case B2 => k_asm
    case K2 => k_asm
    case T2 => k_asm
    case hk2 => exact rfl
    case hd2 => ktr_room
    case hu2 => ktr_units
    intro o h3 tk3 ho E3 A3
    have E2 := ext_ro hG F2 N N2 (by ((repeat (first | exact fun _ h => h | refine sub_cons ?_))))
    (((try dsimp only); (try (k_unfold; (try dsimp only)))))
    exact hsome o _ _ (by rw [ho]; unfold sideF; rw [if_neg (by omega), if_neg (by omega)]) (E2.trans E3) (new_up E2 A3)
end
section
theorem offC9b : True := by
  w_top off
  trivial
section
variable {prog : Program} {w : World} {A : Around} {E : Value → Shared → Prop} {s : Shared} {h₀ : Heap} {L l : Addr} {news : List (Addr × Obj)} {m : Str → Option Value} {ps : List PT} {k : Nat}
theorem my_sliceT {value slice : PySem.Expr} {u : Tok} {Q : Value → Shared → Prop} (F : Fr h₀ L s.heap m) (N : News h₀ L s.heap news) (hm : (l, ptup ps k) ∈ news) (hz : 1 ≤ ps.length ∧ ps.length ≤ 4000)
    (h : ∀ D h', Fr h₀ L h' m → News h₀ L h' ((D, tupOf ((pvs ps).drop 1)) :: news) → (∀ p ∈ news, p.1 < D) → Q (.ref D) { s with heap := h' })
    (hs : subscripted slice false (.ref l) (.ref s.heap.objs.size) = operate [.ref s.heap.objs.size, .ref l] (getItem (.ref l) (.ref s.heap.objs.size)))
    (hg : ∀ r, letTemporaryGo value (.ref l) r = pure ()) :
    wpAny (model prog w) A (subscriptTail value slice (.ref l) (.ref s.heap.objs.size)) Q E { s with heap := s.heap.push { cls := .type "slice", data := .fields #[.int 1 u, .none, .none] } } :=
  slice_tuple_from (items := (pvs ps).toArray) (a := 1) F N ⟨_, (N _ hm).1, rfl, _, rfl⟩ (Nat.le_refl _) (by simp; omega) (fun h' F' N' => h _ h' F' N' fun p hp => Nat.lt_succ_of_lt (Heap.lt_size (N p hp).1)) hs hg (by simp [sizeLine_eq]; omega)
end
theorem sled_one {P : Params} {os : List SO} {o : SO} : sled P (os ++ [o]) = sled P os ++ SO.led P o := by simp [sled, List.flatMap_append]
theorem push_postS {P : Params} {Q : Flow → Shared → Prop} {h₀ h' : Heap} {L : Addr} {tl : List (Addr × Obj)} {R : (Str → Option Value) → List (Addr × Obj) → Prop} {s₁ : Shared} {tk : Nat} {m' : Str → Option Value} {led : List (Addr × Obj)} {os : List SO} {o : SO} {k' : Nat} (f : Addr)
    (F : Fr h₀ L h' m') (N : News h₀ L h' led) (hf : (f, listOf ((os.map fun t => Value.ref t.x).toArray.push (.ref o.x)) k') ∈ led) (ho : ∀ p ∈ SO.led P o, p ∈ led) (hs : ∀ p ∈ sled P os ++ tl, p ∈ led) (hne : AllNe f (sled P os)) (hno : AllNe f (SO.led P o))
    (hR : ∀ os', os' = os ++ [o] → AllNe f (sled P os') → R m' ((f, slist os' k') :: sled P os')) : MyPost Q h₀ L tl R s₁ .next { s₁ with heap := h', toks := tk } := by
  refine MyPost.intro F N _ (fun p hp => ?_) (hR _ rfl (.of fun p hp => ?_))
  · rcases List.mem_append.mp hp with hp | hp
    · rcases List.mem_cons.mp hp with rfl | hp
      · have : listOf ((os.map fun t => Value.ref t.x).toArray.push (.ref o.x)) k' = slist (os ++ [o]) k' := by simp [slist]
        rw [← this]; exact hf
      · rw [sled_one] at hp
        rcases List.mem_append.mp hp with hp | hp
        · exact hs p (List.mem_append_left _ hp)
        · exact ho p hp
    · exact hs p (List.mem_append_right _ hp)
  · rw [sled_one] at hp
    rcases List.mem_append.mp hp with hp | hp
    · exact hne.mem p hp
    · exact hno.mem p hp
theorem so_ne {P : Params} {o : SO} {s h' : Heap} {f : Addr} {ob : Obj} (A : NewIn s h' (SO.led P o)) (e : s.get? f = some ob) : AllNe f (SO.led P o) := .of fun p hp q => by
  have := (A p hp).1
  rw [q, e] at this; cases this
theorem pairs_eq {ps : List PT} {a b : PT} (ha : ps[ps.length - 1]? = some a) (hb : ps[0]? = some b) : pairsF ps = ps.zip (ps.drop 1) ++ [(a, b)] := by
  unfold pairsF
  rw [List.getLast?_eq_getElem?, ha, List.head?_eq_getElem?, hb]
theorem pairs_mem {ps : List PT} {p : PT × PT} (hp : p ∈ pairsF ps) : p.1 ∈ ps ∧ p.2 ∈ ps := by
  rcases List.mem_append.mp hp with hp | hp
  · exact ⟨(List.of_mem_zip hp).1, List.mem_of_mem_drop (List.of_mem_zip hp).2⟩
  · split at hp
    · rename_i a' b' ha hb
      rw [List.mem_singleton.mp hp]
      exact ⟨List.mem_of_getLast? ha, List.mem_of_head? hb⟩
    · cases hp
local macro_rules | `(tactic| walk_at "call type:zip") => `(tactic| walk_at "hold")
local macro_rules | `(tactic| walk_at "call type:list") => `(tactic| walk_at "hold")
local macro_rules | `(tactic| walk_at "subscriptTail Name Slice ref ref") => `(tactic| (k_here; k_dflt refine' my_sliceT (by k_asm) (by k_asm) (by k_mem) (by omega) ?_ (by with_unfolding_all rfl) (by kmk_pure); intro _ _ _ _ l1; (try k_lt l1); (try k_sweep)))
theorem c_contour {w : World} {A : Around} {s : Shared} {Q E : Value → Shared → Prop} {sp : Addr} {ps : List PT} {k : Nat}
   (C : CalN w 8 300 A s.heap ((sp, ptup ps k) :: pled ps)) (hps : ∀ p ∈ ps, PTb p) (hlen : ps.length = 3 ∨ ps.length = 4)
   (hret : ∀ D k' os (h' : Heap) tk', Sides ps os → Ext [] s.heap h' → NewIn s.heap h' ((D, slist os k') :: sled w.params os) → Q (.ref D) { s with heap := h', toks := tk' }) :
   wpAny (model PG w) A (call (.ref 166) [.ref sp, .bool true]) Q E s := by
  cases C with | mk B F X T hk hd hu N =>
  obtain ⟨pa, hpa⟩ : ∃ a, ps[ps.length - 1]? = some a := ⟨_, List.getElem?_eq_getElem (by omega)⟩
  obtain ⟨pb, hpb⟩ : ∃ a, ps[0]? = some a := ⟨_, List.getElem?_eq_getElem (by omega)⟩
  have hja : seqIndex? (-1) ps.length = some (ps.length - 1) := by rcases hlen with h | h <;> rw [h] <;> rfl
  have hjb : seqIndex? 0 ps.length = some 0 := by rcases hlen with h | h <;> rw [h] <;> rfl
  ((k_dflt (refine wpAny_call ?_; refine' code_vis ?k1x58 ?k2x58 ?k3x58 ?k4x58 ?k5x58 ?kAx58 ?kFx58 ?kKx58 ?k6x58 ?k7x58 ?k8x58 ?k9x58 ?kBx58 ?kMx58 ?_ ?c2x58 ?c3x58 ?c4x58 ?c5x58; (case kAx58 => exact rfl); (case kFx58 => exact rfl); (case kKx58 => assumption); (case k1x58 => k_asm); (case k2x58 => k_asm); (case k3x58 => k_asm); (case k4x58 => k_asm); (case k5x58 => k_asm); (case k6x58 => k_is); (case k7x58 => k_is); (case k8x58 => ktr_room); (case k9x58 => exact BindsTo.of_eq rfl); (case kMx58 => first | exact nice1 rfl | exact nice2 rfl | exact nice3 rfl | exact nice4 rfl | exact nice5 rfl | exact nice6 rfl); (case c5x58 => decide); (case kBx58 => exact locs rfl); (case c2x58 => exact rfl); (case c3x58 => exact rfl); (case c4x58 => exact rfl); k_whole; intro g' L' h' F' N' B' X' T' hG' hg' hlt' hsz'; (try dsimp only); (try k_fold))))
  rename ∀ (b : Addr) (o : Obj), s.heap.get? b = some o → b ∉ _ → _ => hG
  ((repeat' (first | (k_unfold; (try dsimp only)) | walk1 | (dsimp only; walk1) | (leave1; (try dsimp only)))))
  rename Fr _ _ _ _ => F1
  rename News _ _ _ _ => N1
  rename Addr => D1
  have T1 := N1 _ (.tail _ (.head _))
  have T2 := N1 _ (.head _)
  refine unhold (tup_call (xs := (pvs ps).toArray) (ys := ((pvs ps).drop 1).toArray) ⟨_, T1.1, rfl, _, rfl⟩ ⟨_, T2.1, rfl, _, rfl⟩ fun h2 B hB Z h12 hsz2 hk2 => ?_)
  have E2 : Ext [] _ h2 := fun b o e _ => hk2 b o e
  have F2 := E2.fr0 F1
  have N2 := unhold (E2.news0 N1)
  replace F1 := unhold F1
  replace N1 := unhold N1
  ((repeat' (first | (k_unfold; (try dsimp only)) | walk1 | (dsimp only; walk1) | (leave1; (try dsimp only)))))
  rename Fr _ _ _ _ => F3
  have G1 := N2.go _ (.tail _ (.head _))
  have G2 := N2.go _ (.head _)
  refine unhold (zt_list rfl h12 hsz2 (by omega) (Z _) ⟨_, G1.1, rfl, _, rfl⟩ ⟨_, G2.1, rfl, _, rfl⟩ fun S h4 tk4 prs c4 hk4 hS hg4 hpp hled => ?_)
  have E4 : Ext [] _ h4 := fun b o e _ => hk4 b o (Nat.lt_of_lt_of_eq (Heap.lt_size e) hB) (hk2 b o e)
  have A4 : NewIn _ h4 ((S, rlist prs c4) :: rled prs) := fun p hp => by
    rcases List.mem_cons.mp hp with rfl | hp
    · exact ⟨Heap.get?_none_of_le (hB ▸ Nat.le_of_lt hS), hg4⟩
    · exact ⟨Heap.get?_none_of_le (hB ▸ Nat.le_of_lt (Nat.lt_trans hS (hled p hp).1)), (hled p hp).2⟩
  obtain ⟨F4, N4, ne4⟩ := news_many F1.go N1.go E4 A4
  clear F3 F1 N1 N2 G1 G2 E2 E4 A4 Z T1 T2 hk2 hk4
  have hneS := ne4 _ (.head _)
  simp only [List.cons_append] at N4
  obtain ⟨lr, hlr⟩ : ∃ l, l = rled prs ++ (D1, tupOf (List.drop 1 (pvs ps))) :: (sp, ptup ps k) :: pled ps := ⟨_, rfl⟩
  rw [← hlr] at N4
  have hsp : (sp, ptup ps k) ∈ lr := by rw [hlr]; exact List.mem_append_right _ (.tail _ (.head _))
  have hprl : prs.length ≤ 3 := by
    have := congrArg List.length hpp
    rw [List.length_map, List.length_zip, List.length_drop] at this
    omega
  have hSl : AllNe S lr := .of fun p hp => by
    rw [hlr] at hp
    rcases List.mem_append.mp hp with hp | hp
    · exact Nat.ne_of_gt (hled p hp).1
    · exact hneS.mem p hp
  ((repeat' (first | (k_unfold; (try dsimp only)) | walk1 | (dsimp only; walk1) | (leave1; (try dsimp only)))))
  rename Fr _ _ _ _ => F5
  rename News _ _ _ _ => N5
  refine unhold ?_
  refine lock ?_
  intro GG9
  obtain ⟨f, hf⟩ := fst_of N5
  subst hf
  first | k_unfold | dsimp only [GG9]
  obtain ⟨D2, hD2⟩ := fst_of (News.subs N5 fun p hp => .tail _ hp)
  subst hD2
  rename _ < f ∧ S < f ∧ AllLt f lr => lf
  rename S < D2 ∧ AllLt D2 lr => ld
  have hrl : rlist (prs ++ [PR.mk D2 pa pb]) (c4 + 1) = listOf ((List.map (fun p => Value.ref p.a) prs).toArray.push (Value.ref D2)) (c4 + 1) := by simp [rlist]
  have hpq : (prs ++ [PR.mk D2 pa pb]).map PR.pp = pairsF ps := by rw [pairs_eq hpa hpb, List.map_append, hpp]; rfl
  have N6 : News _ _ _ ((f, slist [] 0) :: (S, rlist (prs ++ [PR.mk D2 pa pb]) (c4 + 1)) :: (rled (prs ++ [PR.mk D2 pa pb]) ++ (sp, ptup ps k) :: pled ps)) := News.subs N5 fun p hp => by
    rw [hrl] at hp
    rcases List.mem_cons.mp hp with rfl | hp
    · exact .head _
    refine .tail _ ?_
    rcases List.mem_cons.mp hp with rfl | hp
    · exact .tail _ (.head _)
    rcases List.mem_append.mp hp with hp | hp
    · simp only [rled, List.map_append, List.map_cons, List.map_nil, List.mem_append, List.mem_singleton] at hp
      rcases hp with hp | rfl
      · exact .tail _ (.tail _ (by rw [hlr]; exact List.mem_append_left _ hp))
      · exact .head _
    · exact .tail _ (.tail _ (by rw [hlr]; exact List.mem_append_right _ (.tail _ hp)))
  have hfl : ∀ p ∈ (S, rlist (prs ++ [PR.mk D2 pa pb]) (c4 + 1)) :: (rled (prs ++ [PR.mk D2 pa pb]) ++ (sp, ptup ps k) :: pled ps), p.1 ≠ f := fun p hp => by
    obtain ⟨lf1, lf2, lf3⟩ := lf
    rcases List.mem_cons.mp hp with rfl | hp
    · exact Nat.ne_of_lt lf2
    rcases List.mem_append.mp hp with hp | hp
    · simp only [rled, List.map_append, List.map_cons, List.map_nil, List.mem_append, List.mem_singleton] at hp
      rcases hp with hp | rfl
      · exact allLt_ne lf3 p (by rw [hlr]; exact List.mem_append_left _ hp)
      · exact Nat.ne_of_lt lf1
    · exact allLt_ne lf3 p (by rw [hlr]; exact List.mem_append_right _ (.tail _ hp))
  obtain ⟨prq, hprq⟩ : ∃ q, q = prs ++ [⟨D2, pa, pb⟩] := ⟨_, rfl⟩
  rw [← hprq] at N6 hfl hpq
  clear hrl N5 lf ld hneS ne4 hSl
  obtain ⟨c6, hc6⟩ : ∃ c, c = c4 + 1 := ⟨_, rfl⟩
  rw [← hc6] at N6 hfl
  refine my_list (m := ?m) ((S, rlist prq c6) :: (rled prq ++ (sp, ptup ps k) :: pled ps)) [(f, slist [] 0)] [f] (fun i m W => (∃ u1 u2 u3, m = (U (U (U ?m (Str.ofString "side") u3) (Str.ofString "other") u2) (Str.ofString "one") u1)) ∧ ∃ os n, W = (f, slist os n) :: sled w.params os ∧ AllNe f (sled w.params os) ∧ os.map quint = ((pairsF ps).take i).filterMap fun p => sideF p.1 p.2) rfl ?F ?N (.head _) ?h0 ?hds ?noit ?turn ?done
  case F => exact F5
  case N => exact N6
  case h0 =>
    refine ⟨⟨?u1, ?u2, ?u3, ?mp⟩, [], 0, rfl, trivial, rfl⟩
    case mp => ((refine extU3 ?hoffx59 ?e1x59 ?e2x59 ?e3x59; (case e1x59 => rfl); (case e2x59 => rfl); (case e3x59 => rfl); (case hoffx59 => (repeat' (first | with_reducible exact Off.same | with_reducible exact List.Mem.head _ | with_reducible refine List.Mem.tail _ ?_ | with_reducible refine Off.l ?_ ?_)))))
  case hds =>
    intro d hd
    rw [List.mem_singleton.mp hd]
    exact ⟨⟨_, .head _⟩, hfl⟩
  case noit =>
    rintro i m W ⟨_, os, n, rfl, _⟩ p hp
    rcases List.mem_cons.mp hp with rfl | hp
    · rfl
    · obtain ⟨o, _, hp⟩ := List.mem_flatMap.mp hp
      simp only [SO.led, List.mem_cons, List.not_mem_nil, or_false] at hp
      rcases hp with rfl | rfl <;> rfl
  case turn =>
    intro SS hSS i v m₁ W1 h₁ tk₁ tl hi hv hR9 hsl htl F₂ N₂ PL
    refine lock ?_
    intro GG9
    rcases hR9 with ⟨⟨u1, u2, u3, rfl⟩, os, n, rfl, hne, hcs⟩
    first | k_unfold | dsimp only [GG9]
    obtain ⟨r, hr, rfl⟩ := item_map hv
    have hrm := List.mem_of_getElem? hr
    have hpi : (pairsF ps)[i]? = some (r.one, r.other) := by rw [← hpq, List.getElem?_map, hr]; rfl
    obtain ⟨hm1, hm2⟩ := pairs_mem (List.mem_of_getElem? hpi)
    dsimp only at hm1 hm2
    have hx0 : (r.a, tupOf [.ref r.one.a, .ref r.other.a]) ∈ tl := hsl _ (.tail _ (List.mem_append_left _ (List.mem_map.mpr ⟨r, hrm, rfl⟩)))
    have hx1 : (r.one.a, tupOf [.int r.one.x r.one.tx, .int r.one.y r.one.ty]) ∈ tl := hsl _ (.tail _ (List.mem_append_right _ (.tail _ (List.mem_map.mpr ⟨_, hm1, rfl⟩))))
    have hx2 : (r.other.a, tupOf [.int r.other.x r.other.tx, .int r.other.y r.other.ty]) ∈ tl := hsl _ (.tail _ (List.mem_append_right _ (.tail _ (List.mem_map.mpr ⟨_, hm2, rfl⟩))))
    obtain ⟨tl', htl'⟩ : ∃ t, t = sled w.params os ++ tl := ⟨_, rfl⟩
    have hy0 : (r.a, tupOf [.ref r.one.a, .ref r.other.a]) ∈ tl' := by rw [htl']; exact List.mem_append_right _ hx0
    have hnn : AllNe f tl' := .of fun p hp => by
      rw [htl'] at hp
      rcases List.mem_append.mp hp with hp | hp
      · exact hne.mem p hp
      · exact (htl _ (.head _)).mem p hp
    rw [List.cons_append, ← htl'] at N₂
    have hl4 : os.length ≤ 4 := by
      have e := congrArg List.length hcs
      rw [List.length_map] at e
      have h2 := List.length_filterMap_le (fun p : PT × PT => sideF p.1 p.2) ((pairsF ps).take i)
      have h3 : ((pairsF ps).take i).length ≤ (pairsF ps).length := by rw [List.length_take]; omega
      have h4 : (pairsF ps).length ≤ 4 := by
        have := congrArg List.length hpq
        rw [List.length_map, hprq, List.length_append, List.length_singleton] at this
        omega
      omega
    clear hv hi F5 N6
    ((repeat' (first | (k_unfold; (try dsimp only)) | walk1 | (dsimp only; walk1) | (leave1; (try dsimp only)))))
    rename Fr _ _ _ _ => F7
    rename News _ _ _ _ => N7
    k_dflt (refine' unhold (c_sideb (a := r.one) (b := r.other) (CalN.mk ?B F7 ?K ?T ?hk ?hd ?hu (News.subs N7 fun p hp => ?sb)) (hps _ hm1) (hps _ hm2) (fun h8 tk8 hn E8 => ?none) (fun o h8 tk8 hn E8 A8 => ?some)))
    case B => k_asm
    case K => k_asm
    case T => k_asm
    case hk => exact rfl
    case hd => ktr_room
    case hu => ktr_units
    case sb =>
      refine .tail _ ?_
      rw [htl']
      refine List.mem_append_right _ ?_
      simp only [List.mem_cons, List.not_mem_nil, or_false] at hp
      rcases hp with rfl | rfl
      · exact hx1
      · exact hx2
    case none =>
      have F8 := E8.fr0 F7
      have N8 := E8.news0 N7
      clear F7 N7
      ((repeat' (first | (k_unfold; (try dsimp only)) | walk1 | (dsimp only; walk1) | (leave1; (try dsimp only)))))
      refine keep_post (W := (f, slist os n) :: sled w.params os) (by assumption) (by assumption) (by rw [List.cons_append, ← htl']; exact fun _ h => h) (hSS _ _ _ ⟨⟨?v1, ?v2, ?v3, ?mp⟩, os, n, rfl, hne, ?_⟩)
      case mp => ((refine extU3 ?hoffx60 ?e1x60 ?e2x60 ?e3x60; (case e1x60 => rfl); (case e2x60 => rfl); (case e3x60 => rfl); (case hoffx60 => (repeat' (first | with_reducible exact Off.same | with_reducible exact List.Mem.head _ | with_reducible refine List.Mem.tail _ ?_ | with_reducible refine Off.l ?_ ?_)))))
      rw [hcs, take_succ hpi]; simp [hn]
    case some =>
      obtain ⟨F8, N8, ne8⟩ := news_many F7 N7 E8 A8
      have hno := so_ne A8 (N7 _ (.head _)).1
      obtain ⟨hno1, hno2, _⟩ : @Ne Nat o.x f ∧ @Ne Nat o.d f ∧ True := hno
      clear F7 N7
      unfold SO.led at N8
      simp only [List.cons_append, List.nil_append] at N8
      ((repeat' (first | (k_unfold; (try dsimp only)) | walk1 | (dsimp only; walk1) | (leave1; (try dsimp only)))))
      refine push_postS (P := w.params) (os := os) (o := o) f (by assumption) (by assumption) (.tail _ (.tail _ (.head _))) ?_ (by rw [← htl']; ((repeat (first | exact fun _ h => h | refine sub_cons ?_)))) hne ⟨hno1, hno2, trivial⟩ (fun os' e ha => hSS _ _ _ (⟨⟨?w1, ?w2, ?w3, ?mq⟩, os', _, rfl, ha, ?_⟩))
      case mq => ((refine extU3 ?hoffx61 ?e1x61 ?e2x61 ?e3x61; (case e1x61 => rfl); (case e2x61 => rfl); (case e3x61 => rfl); (case hoffx61 => (repeat' (first | with_reducible exact Off.same | with_reducible exact List.Mem.head _ | with_reducible refine List.Mem.tail _ ?_ | with_reducible refine Off.l ?_ ?_)))))
      · intro p hp
        simp only [SO.led, List.mem_cons, List.not_mem_nil, or_false] at hp ⊢
        rcases hp with rfl | rfl <;> simp
      · rw [e, List.map_append, hcs, take_succ hpi]; simp [hn]
  case done =>
    intro h₂ tk₂ m₂ W₂ hR9 F₂ N₂
    refine lock ?_
    intro GG9
    rcases hR9 with ⟨⟨u1, u2, u3, rfl⟩, os, n, rfl, hne, hcs⟩
    first | k_unfold | dsimp only [GG9]
    clear F5 N6
    ((repeat' (first | (k_unfold; (try dsimp only)) | walk1 | (dsimp only; walk1) | (leave1; (try dsimp only)))))
    (((try dsimp only); (try (k_unfold; (try dsimp only)))))
    have hsz : (List.map (fun p => Value.ref p.a) prq).toArray.size = (pairsF ps).length := by rw [← hpq]; simp
    rw [hsz, List.take_length] at hcs
    have N3 := News.subs (a := (f, slist os n) :: (sled w.params os ++ (sp, ptup ps k) :: pled ps)) N₂ fun p hp => by
      rcases List.mem_cons.mp hp with rfl | hp
      · exact .head _
      rcases List.mem_append.mp hp with hp | hp
      · exact .tail _ (List.mem_append_left _ hp)
      · exact .tail _ (List.mem_append_right _ (.tail _ (List.mem_append_right _ hp)))
    have hcl : ∀ p ∈ (sp, ptup ps k) :: pled ps, p.2.cls = .type "tuple" := fun p hp => by
      rcases List.mem_cons.mp hp with rfl | hp
      · rfl
      · obtain ⟨q, _, rfl⟩ := List.mem_map.mp hp; rfl
    refine hret f n os h₂ _ hcs (ext_led hG F₂ N N3 fun p hp => .inr (.tail _ (List.mem_append_right _ hp))) fun p hp => ?_
    have hp3 : p ∈ (f, slist os n) :: (sled w.params os ++ (sp, ptup ps k) :: pled ps) := by
      rcases List.mem_cons.mp hp with rfl | hp
      · exact .head _
      · exact .tail _ (List.mem_append_left _ hp)
    refine ⟨fresh_led hG N3 hp3 (notin_led N3 hp3 (fun p hp => .tail _ (List.mem_append_right _ hp)) fun q hq => ?_), (N3 _ hp3).1⟩
    rw [hcl q hq]
    rcases List.mem_cons.mp hp with rfl | hp
    · simp
    · exact fun e => (sled_it p hp).1 e.symm
end
section
theorem offC9 : True := by
  w_top off
  trivial
theorem c_sidesof {w : World} {A : Around} {s : Shared} {Q E : Value → Shared → Prop} {cl ct sp : Addr} {ps : List PT} {k kc : Nat}
   (C : CalN w 12 400 A s.heap ((cl, listOf [Value.ref ct].toArray kc) :: (ct, tupOf [.ref sp, .bool false]) :: (sp, ptup ps k) :: pled ps)) (hps : ∀ p ∈ ps, PTb p) (hlen : ps.length = 3 ∨ ps.length = 4)
   (hret : ∀ D k' os (h' : Heap) tk', Sides ps os → Ext [] s.heap h' → NewIn s.heap h' ((D, slist os k') :: sled w.params os) → Q (.ref D) { s with heap := h', toks := tk' }) :
   wpAny (model PG w) A (call (.ref 174) [.ref cl]) Q E s := by
  cases C with | mk B F X T hk hd hu N =>
  ((k_dflt (refine wpAny_call ?_; refine' code_vis ?k1x62 ?k2x62 ?k3x62 ?k4x62 ?k5x62 ?kAx62 ?kFx62 ?kKx62 ?k6x62 ?k7x62 ?k8x62 ?k9x62 ?kBx62 ?kMx62 ?_ ?c2x62 ?c3x62 ?c4x62 ?c5x62; (case kAx62 => exact rfl); (case kFx62 => exact rfl); (case kKx62 => assumption); (case k1x62 => k_asm); (case k2x62 => k_asm); (case k3x62 => k_asm); (case k4x62 => k_asm); (case k5x62 => k_asm); (case k6x62 => k_is); (case k7x62 => k_is); (case k8x62 => ktr_room); (case k9x62 => exact binds_K (Frag.In.keeps (by k_asm) (Fr.keep (by k_asm))) rfl (by k_is) rfl rfl rfl); (case kMx62 => first | exact nice1 rfl | exact nice2 rfl | exact nice3 rfl | exact nice4 rfl | exact nice5 rfl | exact nice6 rfl); (case c5x62 => decide); (case kBx62 => exact locs rfl); (case c2x62 => exact rfl); (case c3x62 => exact rfl); (case c4x62 => exact rfl); k_whole; intro g' L' h' F' N' B' X' T' hG' hg' hlt' hsz'; (try dsimp only at F'); (try dsimp only); (try k_fold))))
  rename ∀ (b : Addr) (o : Obj), s.heap.get? b = some o → b ∉ _ → _ => hG
  ((repeat' (first | (k_unfold; (try dsimp only)) | walk1 | (dsimp only; walk1) | (leave1; (try dsimp only)))))
  rename Fr _ _ _ _ => F1
  rename News _ _ _ _ => N1
  refine unhold ?_
  refine lock ?_
  intro GG9
  obtain ⟨f, hf⟩ := fst_of N1
  subst hf
  first | k_unfold | dsimp only [GG9]
  have hfl : ∀ p ∈ (cl, listOf [Value.ref ct].toArray kc) :: (ct, tupOf [.ref sp, .bool false]) :: (sp, ptup ps k) :: pled ps, p.1 ≠ f := allLt_ne (by assumption)
  refine my_list (m := ?m) ((cl, listOf [Value.ref ct].toArray kc) :: (ct, tupOf [.ref sp, .bool false]) :: (sp, ptup ps k) :: pled ps) [(f, slist [] 0)] [f] (fun i m W => (∃ u1 u2, m = (U (U ?m (Str.ofString "is_closed") u2) (Str.ofString "spots") u1)) ∧ ∃ os n, W = (f, slist os n) :: sled w.params os ∧ (i = 0 → os = []) ∧ (i = 1 → Sides ps os)) rfl ?F ?N (.head _) ?h0 ?hds ?noit ?turn ?done
  case F => exact F1
  case N => exact N1
  case h0 =>
    refine ⟨⟨?u1, ?u2, ?mp⟩, [], 0, rfl, fun _ => rfl, fun h => nomatch h⟩
    case mp => ((refine extU2 ?hoffx63 ?e1x63 ?e2x63; (case e1x63 => rfl); (case e2x63 => rfl); (case hoffx63 => (repeat' (first | with_reducible exact Off.same | with_reducible exact List.Mem.head _ | with_reducible refine List.Mem.tail _ ?_ | with_reducible refine Off.l ?_ ?_)))))
  case hds =>
    intro d hd
    rw [List.mem_singleton.mp hd]
    exact ⟨⟨_, .head _⟩, hfl⟩
  case noit =>
    rintro i m W ⟨_, os, n, rfl, _⟩ p hp
    rcases List.mem_cons.mp hp with rfl | hp
    · rfl
    · obtain ⟨o, _, hp⟩ := List.mem_flatMap.mp hp
      simp only [SO.led, List.mem_cons, List.not_mem_nil, or_false] at hp
      rcases hp with rfl | rfl <;> rfl
  case turn =>
    intro SS hSS i v m₁ W1 h₁ tk₁ tl hi hv hR9 hsl htl F₂ N₂ PL
    refine lock ?_
    intro GG9
    rcases hR9 with ⟨⟨u1, u2, rfl⟩, os, n, rfl, h0, h1⟩
    first | k_unfold | dsimp only [GG9]
    have hi0 : i = 0 := by
      have : i < 1 := hi
      omega
    subst hi0
    cases h0 rfl
    have hve : v = .ref ct := (Option.some.inj hv).symm
    subst hve
    have hx0 := hsl _ (.tail _ (.head _))
    have hnn : AllNe f tl := htl _ (.head _)
    replace N₂ : News _ _ _ ((f, slist [] n) :: tl) := N₂
    clear hv hi F1 N1 h0 h1
    ((repeat' (first | (k_unfold; (try dsimp only)) | walk1 | (dsimp only; walk1) | (leave1; (try dsimp only)))))
    rename Fr _ _ _ _ => F7
    rename News _ _ _ _ => N7
    k_dflt (refine' unhold (c_contour (CalN.mk ?B F7 ?K ?T ?hk ?hd ?hu (News.subs N7 fun p hp => .tail _ (hsl p (.tail _ (.tail _ hp))))) hps hlen fun D8 k8 os8 h8 tk8 hS8 E8 A8 => ?_))
    case B => k_asm
    case K => k_asm
    case T => k_asm
    case hk => exact rfl
    case hd => ktr_room
    case hu => ktr_units
    obtain ⟨F8, N8, ne8⟩ := news_many F7 N7 E8 A8
    have nf8 := ne8 _ (.head _)
    clear F7 N7
    ((repeat' (first | (k_unfold; (try dsimp only)) | walk1 | (dsimp only; walk1) | (leave1; (try dsimp only)))))
    refine extend_in (D := f) (b := D8) (ys := []) (its2 := (os8.map fun o => Value.ref o.x).toArray) (own := (D8, slist os8 k8) :: sled w.params os8) (rest := tl) F8 N8 (fun p hp => Ne.symm (ne8 p hp).1) hnn.mem (N8 _ (.head _)).1 (fun h9 n9 F9 N9 => ?_) ?_
    · replace N9 := News.subs (a := (f, slist os8 n9) :: (sled w.params os8 ++ tl)) N9 fun p hp => by
        rcases List.mem_cons.mp hp with rfl | hp
        · exact List.mem_append_right _ (.head _)
        rcases List.mem_append.mp hp with hp | hp
        · exact List.mem_append_left _ (.tail _ hp)
        · exact List.mem_append_right _ (.tail _ hp)
      clear F8 N8
      ((repeat' (first | (k_unfold; (try dsimp only)) | walk1 | (dsimp only; walk1) | (leave1; (try dsimp only)))))
      refine keep_post (W := (f, slist os8 n9) :: sled w.params os8) (by assumption) N9 (fun _ h => h) (hSS _ _ _ ⟨⟨?v1, ?v2, ?mq⟩, os8, n9, rfl, (fun h => nomatch h), fun _ => hS8⟩)
      case mq => ((refine extU2 ?hoffx64 ?e1x64 ?e2x64; (case e1x64 => rfl); (case e2x64 => rfl); (case hoffx64 => (repeat' (first | with_reducible exact Off.same | with_reducible exact List.Mem.head _ | with_reducible refine List.Mem.tail _ ?_ | with_reducible refine Off.l ?_ ?_)))))
    · have := side_len hS8 (by omega)
      simp [sizeLine_eq]; omega
  case done =>
    intro h₂ tk₂ m₂ W₂ hR9 F₂ N₂
    refine lock ?_
    intro GG9
    rcases hR9 with ⟨⟨u1, u2, rfl⟩, os, n, rfl, h0, h1⟩
    first | k_unfold | dsimp only [GG9]
    clear F1 N1
    ((repeat' (first | (k_unfold; (try dsimp only)) | walk1 | (dsimp only; walk1) | (leave1; (try dsimp only)))))
    (((try dsimp only); (try (k_unfold; (try dsimp only)))))
    have hS : Sides ps os := h1 rfl
    have hcl : ∀ p ∈ (ct, tupOf [.ref sp, .bool false]) :: (sp, ptup ps k) :: pled ps, p.2.cls = .type "tuple" := fun p hp => by
      rcases List.mem_cons.mp hp with rfl | hp
      · rfl
      rcases List.mem_cons.mp hp with rfl | hp
      · rfl
      · obtain ⟨q, _, rfl⟩ := List.mem_map.mp hp; rfl
    refine hret f n os h₂ _ hS (ext_led hG F₂ N N₂ fun p hp => .inr (.tail _ (List.mem_append_right _ hp))) fun p hp => ?_
    have hp3 : p ∈ (f, slist os n) :: sled w.params os ++ (cl, listOf [Value.ref ct].toArray kc) :: (ct, tupOf [.ref sp, .bool false]) :: (sp, ptup ps k) :: pled ps := List.mem_append_left _ hp
    refine ⟨fresh_led hG N₂ hp3 (notin_ne (.of fun q hq => ?_)), (N₂ _ hp3).1⟩
    rcases List.mem_cons.mp hp with rfl | hp
    · exact hfl q hq
    rcases List.mem_cons.mp hq with rfl | hq'
    · exact ne_cls N₂ (List.mem_append_right _ hq) hp3 (fun e => (sled_it p hp).2 (by rw [← e]))
    · exact ne_cls N₂ (List.mem_append_right _ hq) hp3 (by rw [hcl q hq']; exact fun e => (sled_it p hp).1 e.symm)
end
section
theorem offC16 : True := by
  w_top off
  trivial
theorem sum_rows1 {G : Int → Int} {a y : Int} (ha : a ≤ y) : ∀ h : Nat, sumN (fun i => if Int.fdiv (a * 1 + (i : Int)) 1 = y then G (a * 1 + (i : Int)) else 0) h = if y < a + h then sumN (fun i => G (y * 1 + (i : Int))) 1 else 0
  | 0 => by rw [if_neg (by simp; omega)]; rfl
  | h + 1 => by
    have e : Int.fdiv (a * 1 + (h : Int)) 1 = a + h := by rw [Int.fdiv_eq_ediv_of_nonneg _ (by omega)]; omega
    rw [sumN, sum_rows1 ha h, e]
    by_cases h1 : y < a + h
    · rw [if_pos h1, if_pos (show y < a + ((h + 1 : Nat) : Int) by push_cast; omega), if_neg (show ¬ a + (h : Int) = y by omega)]; omega
    · rw [if_neg h1]
      by_cases h2 : a + h = y
      · rw [if_pos h2, if_pos (show y < a + ((h + 1 : Nat) : Int) by push_cast; omega)]
        simp only [sumN]
        rw [show a * 1 + (h : Int) = y * 1 + ((0 : Nat) : Int) by simp; omega]
      · rw [if_neg h2, if_neg (show ¬ y < a + ((h + 1 : Nat) : Int) by push_cast; omega)]; omega
theorem sum_rows2 {G : Int → Int} {a y : Int} (ha : a ≤ y) : ∀ h : Nat, sumN (fun i => if Int.fdiv (a * 2 + (i : Int)) 2 = y then G (a * 2 + (i : Int)) else 0) (h + h) = if y < a + h then sumN (fun i => G (y * 2 + (i : Int))) 2 else 0
  | 0 => by rw [if_neg (by simp; omega)]; rfl
  | h + 1 => by
    have e : Int.fdiv (a * 2 + ((h + h : Nat) : Int)) 2 = a + h := by rw [Int.fdiv_eq_ediv_of_nonneg _ (by omega)]; push_cast; omega
    have e2 : Int.fdiv (a * 2 + ((h + h + 1 : Nat) : Int)) 2 = a + h := by rw [Int.fdiv_eq_ediv_of_nonneg _ (by omega)]; push_cast; omega
    rw [show h + 1 + (h + 1) = (h + h) + 1 + 1 by omega, sumN, sumN, sum_rows2 ha h, e, e2]
    by_cases h1 : y < a + h
    · rw [if_pos h1, if_pos (show y < a + ((h + 1 : Nat) : Int) by push_cast; omega), if_neg (show ¬ a + (h : Int) = y by omega), if_neg (show ¬ a + (h : Int) = y by omega)]; omega
    · rw [if_neg h1]
      by_cases h2 : a + h = y
      · rw [if_pos h2, if_pos h2, if_pos (show y < a + ((h + 1 : Nat) : Int) by push_cast; omega)]
        simp only [sumN]
        rw [show a * 2 + ((h + h : Nat) : Int) = y * 2 + ((0 : Nat) : Int) by push_cast; omega, show a * 2 + ((h + h + 1 : Nat) : Int) = y * 2 + ((0 + 1 : Nat) : Int) by push_cast; omega]
      · rw [if_neg h2, if_neg h2, if_neg (show ¬ y < a + ((h + 1 : Nat) : Int) by push_cast; omega)]; omega
theorem sled_filter {P : Params} {os : List SO} {q : SO → Bool} : ∀ p ∈ sled P (os.filter q), p ∈ sled P os := fun p hp => by
  obtain ⟨o, ho, hp⟩ := List.mem_flatMap.mp hp
  exact List.mem_flatMap.mpr ⟨o, (List.mem_filter.mp ho).1, hp⟩
theorem cnt_zero {o : MO} {n : Nat} {t : Tok} {x y : Int} : cntAt o (List.replicate n ((0, t) : Int × Tok)) x y = 0 := by
  unfold cntAt
  split
  · rw [List.getD_eq_getElem?_getD, List.getElem?_replicate]
    split <;> rfl
  · rfl
theorem nice8 {L : List (Str × Value)} {k0 k1 k2 k3 k4 k5 k6 k7 : Str} {v0 v1 v2 v3 v4 v5 v6 v7 : Value} (e : L = [(k0, v0), (k1, v1), (k2, v2), (k3, v3), (k4, v4), (k5, v5), (k6, v6), (k7, v7)]) : (fun t => L.reverse.lookup t) = fun t => if t = k7 then some v7 else if t = k6 then some v6 else if t = k5 then some v5 else if t = k4 then some v4 else if t = k3 then some v3 else if t = k2 then some v2 else if t = k1 then some v1 else if t = k0 then some v0 else none := by
  subst e; funext t; simp only [List.reverse_cons, List.reverse_nil, List.nil_append, List.cons_append, nice_cons, List.lookup_nil]
theorem top_bd {f g top height : Int} (hfg : FG f g) (ht : -2 ≤ top ∧ top ≤ 2) (hh : 0 ≤ height ∧ height ≤ 2) : (-4 ≤ top * f ∧ top * f ≤ 4) ∧ (0 ≤ height * f ∧ height * f ≤ 4) ∧ (-16 ≤ top * g ∧ top * g ≤ 16) ∧ (0 ≤ height * g ∧ height * g ≤ 16) := by
  rcases hfg with ⟨rfl, rfl⟩ | ⟨rfl, rfl⟩ | ⟨rfl, rfl⟩ <;> omega
theorem row_in {f g top height : Int} {i : Nat} (hfg : FG f g) (hi : i < ((top + height) * f - top * f).toNat) : top * g ≤ (top * f + (i : Int)) * Int.fdiv g f + Int.fdiv (Int.fdiv g f) 2 ∧ (top * f + (i : Int)) * Int.fdiv g f + Int.fdiv (Int.fdiv g f) 2 < (top + height) * g := by
  rcases hfg with ⟨rfl, rfl⟩ | ⟨rfl, rfl⟩ | ⟨rfl, rfl⟩
  · rw [show Int.fdiv 4 1 = 4 from rfl, show Int.fdiv 4 2 = 2 from rfl]; omega
  · rw [show Int.fdiv 4 2 = 2 from rfl, show Int.fdiv 2 2 = 1 from rfl]; omega
  · rw [show Int.fdiv 8 2 = 4 from rfl, show Int.fdiv 4 2 = 2 from rfl]; omega
theorem rows_sum {ps : List PT} {r : Str} {f g top height x y : Int} (hfg : FG f g) (h1 : 0 ≤ y - top) (h2 : y - top < height) :
    sumN (fun i' => if Int.fdiv (top * f + (i' : Int)) f = y then sumN (fun j => cellv ps r (Int.fdiv g f) (x * f + (j : Int)) (top * f + (i' : Int))) f.toNat else 0) ((top + height) * f - top * f).toNat = lcount ps r x y f g := by
  rcases hfg with ⟨rfl, rfl⟩ | ⟨rfl, rfl⟩ | ⟨rfl, rfl⟩
  · rw [show ((top + height) * 1 - top * 1).toNat = height.toNat by omega]
    exact (sum_rows1 (G := fun row => sumN (fun j => cellv ps r (Int.fdiv 4 1) (x * 1 + (j : Int)) row) 1) (a := top) (y := y) (by omega) height.toNat).trans (if_pos (by omega))
  · rw [show ((top + height) * 2 - top * 2).toNat = height.toNat + height.toNat by omega]
    exact (sum_rows2 (G := fun row => sumN (fun j => cellv ps r (Int.fdiv 4 2) (x * 2 + (j : Int)) row) 2) (a := top) (y := y) (by omega) height.toNat).trans (if_pos (by omega))
  · rw [show ((top + height) * 2 - top * 2).toNat = height.toNat + height.toNat by omega]
    exact (sum_rows2 (G := fun row => sumN (fun j => cellv ps r (Int.fdiv 8 2) (x * 2 + (j : Int)) row) 2) (a := top) (y := y) (by omega) height.toNat).trans (if_pos (by omega))
theorem c_maskof {w : World} {A : Around} {s : Shared} {Q E : Value → Shared → Prop} {cl ct sp : Addr} {ps : List PT} {k kc : Nat} {r : Str} {left top width height f g : Int} {tr t1 t2 t3 t4 t5 t6 : Tok}
   (C : CalN w 14 500 A s.heap ((cl, listOf [Value.ref ct].toArray kc) :: (ct, tupOf [.ref sp, .bool false]) :: (sp, ptup ps k) :: pled ps)) (hps : ∀ p ∈ ps, PTb p) (hlen : ps.length = 3 ∨ ps.length = 4) (hr : r = Str.ofString "nonzero" ∨ r = Str.ofString "evenodd")
   (hfg : FG f g) (hl : -2 ≤ left ∧ left ≤ 2) (ht : -2 ≤ top ∧ top ≤ 2) (hw : 0 ≤ width ∧ width ≤ 2) (hh : 0 ≤ height ∧ height ≤ 2)
   (hret : ∀ o cv k' (h' : Heap) tk', o.left = left ∧ o.top = top ∧ o.width = width ∧ o.height = height ∧ o.fine = f → MOk o cv → (∀ x y, inM o x y → cntAt o cv x y = lcount ps r x y f g) → Ext [] s.heap h' → NewIn s.heap h' (mled w.params o cv k') → Q (.ref o.x) { s with heap := h', toks := tk' }) :
   wpAny (model PG w) A (call (.ref 270) [.ref cl, .str r tr, .int left t1, .int top t2, .int width t3, .int height t4, .int f t5, .int g t6]) Q E s := by
  cases C with | mk B F X T hk hd hu N =>
  have hf2 : f = 1 ∨ f = 2 := by rcases hfg with h | h | h <;> omega
  have hf0 : 1 ≤ f ∧ f ≤ 2 := by omega
  have hg0 : 4 ≤ g ∧ g ≤ 8 := by rcases hfg with h | h | h <;> omega
  have eTf : (top + height) * f = top * f + height * f := Int.add_mul _ _ _
  have eTg : (top + height) * g = top * g + height * g := Int.add_mul _ _ _
  have bT := top_bd hfg ht hh
  have N0 := unhold N
  ((k_dflt (refine wpAny_call ?_; refine' code_vis ?k1x65 ?k2x65 ?k3x65 ?k4x65 ?k5x65 ?kAx65 ?kFx65 ?kKx65 ?k6x65 ?k7x65 ?k8x65 ?k9x65 ?kBx65 ?kMx65 ?_ ?c2x65 ?c3x65 ?c4x65 ?c5x65; (case kAx65 => exact rfl); (case kFx65 => exact rfl); (case kKx65 => assumption); (case k1x65 => k_asm); (case k2x65 => k_asm); (case k3x65 => k_asm); (case k4x65 => k_asm); (case k5x65 => k_asm); (case k6x65 => k_is); (case k7x65 => k_is); (case k8x65 => ktr_room); (case k9x65 => exact BindsTo.of_eq rfl); (case kMx65 => exact nice8 rfl); (case c5x65 => decide); (case kBx65 => exact locs rfl); (case c2x65 => exact rfl); (case c3x65 => exact rfl); (case c4x65 => exact rfl); k_whole; intro g' L' h' F' N' B' X' T' hG' hg' hlt' hsz'; (try dsimp only at F'); (try dsimp only); (try k_fold))))
  rename ∀ (b : Addr) (o : Obj), s.heap.get? b = some o → b ∉ _ → _ => hG
  ((repeat' (first | (k_unfold; (try dsimp only)) | walk1 | (dsimp only; walk1) | (leave1; (try dsimp only)))))
  rename Fr _ _ _ _ => F1
  rename News _ _ _ _ => N1
  k_dflt (refine' unhold (c_mask (CalN.mk ?B F1 ?K ?T ?hk ?hd ?hu (nil_of F1)) ⟨hw.1, by omega⟩ ⟨hh.1, by omega⟩ ⟨by omega, by omega⟩ ?_))
  case B => k_asm
  case K => k_asm
  case T => k_asm
  case hk => exact rfl
  case hd => ktr_room
  case hu => ktr_units
  intro o t0 k0 h2 tk2 ho E2 A2
  obtain ⟨F2, N2, ne2⟩ := news_many F1 N1 E2 A2
  clear F1 E2 A2
  replace N1 := unhold N1
  ((repeat' (first | (k_unfold; (try dsimp only)) | walk1 | (dsimp only; walk1) | (leave1; (try dsimp only)))))
  rename Fr _ _ _ _ => F3
  rename News _ _ _ _ => N3
  k_dflt (refine' unhold (c_sidesof (CalN.mk ?B F3 ?K ?T ?hk ?hd ?hu (News.subs N3 fun p hp => List.mem_append_right _ hp)) hps hlen ?_))
  case B => k_asm
  case K => k_asm
  case T => k_asm
  case hk => exact rfl
  case hd => ktr_room
  case hu => ktr_units
  intro D2 k2 os h4 tk4 hS E4 A4
  obtain ⟨F4, N4, ne4⟩ := news_many F3 N3 E4 A4
  clear F3 E4 A4
  (try clear N2)
  (try clear N3)
  ((repeat' (first | (k_unfold; (try dsimp only)) | walk1 | (dsimp only; walk1) | (leave1; (try dsimp only)))))
  rename Fr _ _ _ _ => F5
  rename News _ _ _ _ => N5
  have hl4 : os.length ≤ 4 := side_len hS (by omega)
  k_dflt (refine' unhold (c_between (CalN.mk ?B F5 ?K ?T ?hk ?hd ?hu (News.subs N5 fun p hp => List.mem_append_left _ hp)) hl4 ?_))
  case B => k_asm
  case K => k_asm
  case T => k_asm
  case hk => exact rfl
  case hd => ktr_room
  case hu => ktr_units
  intro D3 k3 h5 tk5 E5 fr5 g5
  obtain ⟨F6, N6, ne6⟩ := new_back F5 N5 E5 g5 fr5
  clear F5 E5 g5 fr5
  (try clear N4)
  (try clear N5)
  ((repeat' (first | (k_unfold; (try dsimp only)) | walk1 | (dsimp only; walk1) | (leave1; (try dsimp only)))))
  rename Fr _ _ _ _ => F7
  rename News _ _ _ _ => N7
  refine unhold ?_
  have hmx : (o.x, instObj 259 o.d) ∈ mled w.params o (List.replicate (width * height).toNat ((0, t0) : Int × Tok)) k0 := by simp [mled]
  have hmd : (o.d, mdic w.params o) ∈ mled w.params o (List.replicate (width * height).toNat ((0, t0) : Int × Tok)) k0 := by simp [mled]
  have hml : (o.l, clist (List.replicate (width * height).toNat ((0, t0) : Int × Tok)) k0) ∈ mled w.params o (List.replicate (width * height).toNat ((0, t0) : Int × Tok)) k0 := by simp [mled]
  have up : ∀ p ∈ mled w.params o (List.replicate (width * height).toNat ((0, t0) : Int × Tok)) k0, p ∈ ((D2, slist os k2) :: sled w.params os) ++ (mled w.params o (List.replicate (width * height).toNat ((0, t0) : Int × Tok)) k0 ++ (cl, listOf [Value.ref ct].toArray kc) :: (ct, tupOf [.ref sp, .bool false]) :: (sp, ptup ps k) :: pled ps) := fun p hp => List.mem_append_right _ (List.mem_append_left _ hp)
  have hxl : @Ne Nat o.x o.l := ne_cls N7 (.tail _ (up _ hmx)) (.tail _ (up _ hml)) (by simp)
  have hdl : @Ne Nat o.d o.l := ne_cls N7 (.tail _ (up _ hmd)) (.tail _ (up _ hml)) (by simp [mdic])
  have h3l : @Ne Nat D3 o.l := Ne.symm (ne6.mem _ (up _ hml))
  have hM : ∀ cv' : List (Int × Tok), cv'.length = (width * height).toNat → MOk o cv' := fun cv' hc => by
    obtain ⟨e1, e2, e3, e4, e5⟩ := ho
    have hp : 0 ≤ width * height := Int.mul_nonneg hw.1 hh.1
    exact ⟨by omega, by omega, by omega, by omega, by omega, by omega, by omega, by omega, by omega, by omega, by rw [hc, e3, e4]; omega⟩
  refine my_range (m := ?m) (n := ((top + height) * f - top * f).toNat) ((o.x, instObj 259 o.d) :: (o.d, mdic w.params o) :: (D3, slist (os.filter (between (top * g) ((top + height) * g))) k3) :: (sled w.params (os.filter (between (top * g) ((top + height) * g))) ++ ((cl, listOf [Value.ref ct].toArray kc) :: (ct, tupOf [.ref sp, .bool false]) :: (sp, ptup ps k) :: pled ps))) [(o.l, clist (List.replicate (width * height).toNat ((0, t0) : Int × Tok)) k0)] [o.l]
    (fun i m W => (∃ u1, m = (U ?m (Str.ofString "row") u1)) ∧ ∃ cv', W = [(o.l, clist cv' k0)] ∧ cv'.length = (width * height).toNat ∧ ∀ x y, inM o x y → cntAt o cv' x y = sumN (fun i' => if Int.fdiv (top * f + (i' : Int)) f = y then sumN (fun j => cellv ps r (Int.fdiv g f) (x * f + (j : Int)) (top * f + (i' : Int))) f.toNat else 0) i) rfl ?F ?N (by assumption) ?sm ?sz (fun v => rfl) ?h0 ?hds ?noit ?turn ?done
  case F => exact F7
  case N =>
    refine News.subs N7 (subC (.tail _ (up _ hml)) <| subC (.tail _ (up _ hmx)) <| subC (.tail _ (up _ hmd)) <| subC (.head _) fun p h => ?_)
    rcases List.mem_append.mp h with h | h
    · exact .tail _ (List.mem_append_left _ (.tail _ (sled_filter p h)))
    · exact .tail _ (List.mem_append_right _ (List.mem_append_right _ h))
  case sm => exact small_one (by omega) (by omega) (by omega) (by omega)
  case sz => rw [rangeSize_nat]
  case h0 =>
    refine ⟨⟨?u1, ?mp⟩, _, rfl, by rw [List.length_replicate], fun x y _ => cnt_zero⟩
    case mp => ((refine extU1 ?hoffx66 ?e1x66; (case e1x66 => rfl); (case hoffx66 => (repeat' (first | with_reducible exact Off.same | with_reducible exact List.Mem.head _ | with_reducible refine List.Mem.tail _ ?_ | with_reducible refine Off.l ?_ ?_)))))
  case hds =>
    intro d hd
    rw [List.mem_singleton.mp hd]
    refine ⟨⟨_, .head _⟩, subC hxl <| subC hdl <| subC h3l fun p h => ?_⟩
    rcases List.mem_append.mp h with h | h
    · exact ne_cls N7 (a := p.1) (o1 := p.2) (.tail _ (List.mem_append_left _ (.tail _ (sled_filter p h)))) (.tail _ (up _ hml)) (sled_it p h).2
    · exact (ne2 _ hml).mem p h
  case noit =>
    rintro i m W ⟨_, cv3, rfl, _⟩ p hp
    rw [List.mem_singleton.mp hp]; rfl
  case turn =>
    intro SS hSS i t m₁ W1 h₁ tk₁ tl hi hR9 hsl htl F₂ N₂ PL
    refine lock ?_
    intro GG9
    rcases hR9 with ⟨⟨u1, rfl⟩, cv', rfl, hlc, hv⟩
    first | k_unfold | dsimp only [GG9]
    have x1 := hsl _ (.head _)
    have x2 := hsl _ (.tail _ (.head _))
    have x2' : (o.d, dictOf [⟨PyData.keyHash w.params (Str.ofString "left"), .str (Str.ofString "left") o.k1, .int o.left o.t1⟩, ⟨PyData.keyHash w.params (Str.ofString "top"), .str (Str.ofString "top") o.k2, .int o.top o.t2⟩, ⟨PyData.keyHash w.params (Str.ofString "width"), .str (Str.ofString "width") o.k3, .int o.width o.t3⟩, ⟨PyData.keyHash w.params (Str.ofString "height"), .str (Str.ofString "height") o.k4, .int o.height o.t4⟩, ⟨PyData.keyHash w.params (Str.ofString "fine"), .str (Str.ofString "fine") o.k5, .int o.fine o.t5⟩, ⟨PyData.keyHash w.params (Str.ofString "counts"), .str (Str.ofString "counts") o.k6, .ref o.l⟩] 6) ∈ tl := x2
    have hnn : AllNe o.l tl := htl _ (.head _)
    rw [List.cons_append, List.nil_append] at N₂
    have hyy : top * g ≤ (top * f + (i : Int)) * Int.fdiv g f + Int.fdiv (Int.fdiv g f) 2 ∧ (top * f + (i : Int)) * Int.fdiv g f + Int.fdiv (Int.fdiv g f) 2 < (top + height) * g := row_in hfg hi
    ((repeat' (first | (k_unfold; (try dsimp only)) | walk1 | (dsimp only; walk1) | (leave1; (try dsimp only)))))
    rename Fr _ _ _ _ => F3
    rename News _ _ _ _ => N3
    have Nl := News.subs (a := (o.l, clist cv' k0) :: tl) N3 (by ((repeat (first | exact fun _ h => h | refine sub_cons ?_))))
    clear N3
    have Ns := News.subs (a := (D3, slist (os.filter (between (top * g) ((top + height) * g))) k3) :: sled w.params (os.filter (between (top * g) ((top + height) * g)))) Nl (fun p hp => .tail _ (hsl p (by
      rcases List.mem_cons.mp hp with rfl | hp
      · exact .tail _ (.tail _ (.head _))
      · exact .tail _ (.tail _ (.tail _ (List.mem_append_left _ hp))))))
    k_dflt (refine' unhold (c_sample (CalN.mk ?B F3 ?K ?T ?hk ?hd ?hu Ns) hr hfg (by omega) (fun o' ho' => (side_ok hS hps (List.mem_filter.mp ho').1).1) (Nat.le_trans (List.length_filter_le ..) hl4) (fun o' ho' => (side_ok hS hps (List.mem_filter.mp ho').1).2.1) ?hsum ?_))
    case hsum => rw [cross_filter hyy]; exact plain_sum hS (by omega) _ _
    case B => k_asm
    case K => k_asm
    case T => k_asm
    case hk => exact rfl
    case hd => ktr_room
    case hu => ktr_units
    clear Ns
    intro D4 k4 ts cs h4 tk4 hp4 hs4 hc4 hl44 E4 A4
    obtain ⟨F4, N4, ne4⟩ := news_many F3 Nl E4 A4
    clear F3 Nl E4 A4
    ((repeat' (first | (k_unfold; (try dsimp only)) | walk1 | (dsimp only; walk1) | (leave1; (try dsimp only)))))
    rename Fr _ _ _ _ => F5
    rename News _ _ _ _ => N5
    have Na := News.subs (a := mled w.params o cv' k0 ++ (D4, tlist ts k4) :: tled ts) N5 (fun p hp => by
      rcases List.mem_append.mp hp with hp | hp
      · refine List.mem_append_right _ (mled_sub ?_ ?_ ?_ p hp)
        · exact .tail _ x1
        · exact .tail _ x2
        · exact .head _
      · exact List.mem_append_left _ hp)
    have hneo : AllNe o.l ((D4, tlist ts k4) :: tled ts) := .of fun p hp => Ne.symm ((ne4 p hp).mem (o.l, clist cv' k0) (.head _))
    k_dflt (refine' unhold (c_add (CalN.mk ?B F5 ?K ?T ?hk ?hd ?hu Na) (hM cv' hlc) (by omega) (by omega) hneo hxl hdl ?_))
    case B => k_asm
    case K => k_asm
    case T => k_asm
    case hk => exact rfl
    case hd => ktr_room
    case hu => ktr_units
    clear Na
    intro cv2 h5 tk5 hlen2 hspec E5 g5
    obtain ⟨F6, N6⟩ := upd_back F5 (News.subs (a := (o.l, clist cv' k0) :: tl) N5 (fun p hp => List.mem_append_right _ hp)) hnn E5 g5
    clear F5 E5 g5 N5
    ((repeat' (first | (k_unfold; (try dsimp only)) | walk1 | (dsimp only; walk1) | (leave1; (try dsimp only)))))
    rename Fr _ _ _ _ => F7
    rename News _ _ _ _ => N7
    refine keep_post (W := [(o.l, clist cv2 k0)]) F7 N7 (by ((repeat (first | exact fun _ h => h | refine sub_cons ?_)))) (hSS _ _ _ ⟨⟨?w1, ?mp1⟩, cv2, rfl, hlen2.trans hlc, fun x y hin => ?vals⟩)
    case mp1 => ((refine extU1 ?hoffx67 ?e1x67; (case e1x67 => rfl); (case hoffx67 => (repeat' (first | with_reducible exact Off.same | with_reducible exact List.Mem.head _ | with_reducible refine List.Mem.tail _ ?_ | with_reducible refine Off.l ?_ ?_)))))
    case vals =>
      have hxb : o.left ≤ x ∧ x < o.left + o.width := ⟨by have := hin.1.1; omega, by have := hin.1.2; omega⟩
      rw [cross_filter hyy] at hp4
      have e := plain_row hS (by omega) hfg hr hp4 hs4 hxb
      rw [hspec x y hin, hv x y hin, hc4, ho.2.2.2.2, e, sumN]
  case done =>
    intro h₂ tk₂ m₂ W₂ hR9 F₂ N₂
    refine lock ?_
    intro GG9
    rcases hR9 with ⟨⟨u1, rfl⟩, cv', rfl, hlc, hv⟩
    first | k_unfold | dsimp only [GG9]
    ((repeat' (first | (k_unfold; (try dsimp only)) | walk1 | (dsimp only; walk1) | (leave1; (try dsimp only)))))
    (((try dsimp only); (try (k_unfold; (try dsimp only)))))
    refine hret o cv' k0 _ _ ho (hM cv' hlc) (fun x y hin => ?_) (ext_ro hG F₂ N0.go N₂ (fun p hp => .tail _ (.tail _ (.tail _ (.tail _ (List.mem_append_right _ hp)))))) ?nw
    · rw [hv x y hin]
      have h1 := hin.2.1
      have h2 := hin.2.2
      exact rows_sum hfg (by omega) (by omega)
    · exact subC ⟨fresh_led hG N₂ (.tail _ (.head _)) (notin_ne (ne2 _ hmx)), (N₂ _ (.tail _ (.head _))).1⟩ <|
        subC ⟨fresh_led hG N₂ (.tail _ (.tail _ (.head _))) (notin_ne (ne2 _ hmd)), (N₂ _ (.tail _ (.tail _ (.head _)))).1⟩ <|
        subC ⟨fresh_led hG N₂ (.head _) (notin_ne (ne2 (o.l, clist (List.replicate (width * height).toNat (0, t0)) k0) hml)), (N₂ _ (.head _)).1⟩ subN
end
section
theorem offC18 : True := by
  w_top off
  trivial
local macro_rules | `(tactic| walk_at "setItem ref ref") => `(tactic| walk_at "hold")
theorem row_toks {h₀ h : Heap} {L a : Addr} {r : List (Addr × Obj)} {x1 x2 x3 x4 : Int} {k1 k2 k3 k4 : Tok} (N : News h₀ L h ((a, listOf #[.int x1 k1, .int x2 k2, .int x3 k3, .int x4 k4] 0) :: r)) :
    ∃ q1 q2 q3 q4, News h₀ L h ((a, listOf #[.int x1 q1, .int x2 q2, .int x3 q3, .int x4 q4] 0) :: r) := ⟨_, _, _, _, N⟩
theorem ht_cons {w : World} {h₀ h : Heap} {L d : Addr} {p : Addr × Obj} {r : List (Addr × Obj)} {n : Nat} {f : Int → Int → Int} (_ : News h₀ L h (p :: r)) (T : HT w r d n f) : HT w (p :: r) d n f := T.subs fun _ h => .tail _ h
theorem one_span {h₀ h : Heap} {L ls a : Addr} {r : List (Addr × Obj)} {b e : Int} {tb te : Tok} {k : Nat} (N : News h₀ L h ((ls, listOf #[.ref a] k) :: (a, tupOf [.int b tb, .int e te]) :: r)) :
    ∃ t : TO, t.c = b ∧ t.e = e ∧ News h₀ L h ((ls, tlist [t] k) :: (tled [t] ++ r)) := ⟨⟨a, b, e, tb, te⟩, rfl, rfl, N⟩
theorem ovl_next {fine lo c a : Int} (hf : fine = 1 ∨ fine = 2) (h : lo ≤ c) : ovl fine lo (c + 1) a = ovl fine lo c a + if a = Int.fdiv c fine then 1 else 0 := by
  rcases hf with rfl | rfl
  · have hd : Int.fdiv c 1 = c := by rw [Int.fdiv_eq_ediv_of_nonneg _ (by omega)]; omega
    rw [ovl_step1 (x := Int.fdiv c 1) h (by omega) (by omega) (by omega) (by omega)]
    split <;> omega
  · have hd : 2 * Int.fdiv c 2 ≤ c ∧ c < 2 * Int.fdiv c 2 + 2 := by rw [Int.fdiv_eq_ediv_of_nonneg _ (by omega)]; omega
    rw [ovl_step2 (x := Int.fdiv c 2) h (by omega) (by omega) (by omega) (by omega)]
    split <;> omega
theorem hand_step {fine row lo c ind : Int} {f : Int → Int → Int} {g : Int → Int → Int} (hf : fine = 1 ∨ fine = 2) (h : lo ≤ c) (hi : ind = 0 ∨ ind = 1) (hg : ∀ p q, g p q = f p q + if Int.fdiv row fine = q then ind * ovl fine lo c p else 0) (p q : Int) :
    f p q + (if Int.fdiv row fine = q then ind * ovl fine lo (c + 1) p else 0) = if p = Int.fdiv c fine ∧ q = Int.fdiv row fine then g (Int.fdiv c fine) (Int.fdiv row fine) + ind else g p q := by
  rw [hg p q, hg, ovl_next hf h, if_pos rfl]
  by_cases h1 : Int.fdiv row fine = q
  · rw [if_pos h1]
    by_cases h2 : p = Int.fdiv c fine
    · rw [if_pos h2, if_pos ⟨h2, h1.symm⟩]
      subst h1
      subst h2
      rcases hi with rfl | rfl <;> omega
    · rw [if_neg h2, if_neg (fun q => h2 q.1), if_pos h1]
      rcases hi with rfl | rfl <;> omega
  · rw [if_neg h1, if_neg (fun q => h1 q.2.symm), if_neg h1]
theorem hand_turn {o : MO} {cv cv' : List (Int × Tok)} {f : Int → Int → Int} {fine row b e lo hi ind : Int} (ho : o.left = 0 ∧ o.top = 0 ∧ o.width = 2 ∧ o.height = 2 ∧ o.fine = fine) (hf : fine = 1 ∨ fine = 2)
    (hlo : lo = max b 0) (hhi : hi = min e (2 * fine)) (hind : ind = if 0 ≤ row ∧ row < 2 * fine then 1 else 0) (hc : ∀ x y, cntAt o cv x y = f x y)
    (ha : ∀ x y, inM o x y → cntAt o cv' x y = cntAt o cv x y + if Int.fdiv row o.fine = y then ovs o.fine (o.left * o.fine) ((o.left + o.width) * o.fine) [(b, e)] x else 0) (x y : Int) :
    cntAt o cv' x y = f x y + if Int.fdiv row fine = y then ind * ovl fine lo (lo + ((hi - lo).toNat : Nat)) x else 0 := by
  obtain ⟨h1, h2, h3, h4, h5⟩ := ho
  have hd : fine * Int.fdiv row fine ≤ row ∧ row < fine * Int.fdiv row fine + fine := by
    rcases hf with rfl | rfl <;> rw [Int.fdiv_eq_ediv_of_nonneg _ (by omega)] <;> omega
  have hov : ovs o.fine (o.left * o.fine) ((o.left + o.width) * o.fine) [(b, e)] x = ovl fine lo (lo + ((hi - lo).toNat : Nat)) x := by
    simp only [ovs, List.map_cons, List.map_nil, List.sum_cons, List.sum_nil, h1, h3, h5]
    rw [Int.zero_mul, ← hlo, Int.zero_add, ← hhi, max_toNat, Int.add_zero]
  by_cases hin : inM o x y
  · rw [ha x y hin, hov, hc, h5]
    by_cases hy : Int.fdiv row fine = y
    · rw [if_pos hy, if_pos hy]
      obtain ⟨_, a3, a4⟩ := hin
      rw [h2] at a3 a4
      rw [h4] at a4
      have : 0 ≤ row ∧ row < 2 * fine := by rcases hf with rfl | rfl <;> omega
      rw [if_pos this] at hind
      rw [hind]; omega
    · rw [if_neg hy, if_neg hy]
  · have e1 : cntAt o cv' x y = 0 := if_neg hin
    have e2 : cntAt o cv x y = 0 := if_neg hin
    rw [e1, ← hc, e2]
    by_cases hy : Int.fdiv row fine = y
    · rw [if_pos hy]
      by_cases hr : 0 ≤ row ∧ row < 2 * fine
      · have hx : ¬ (0 ≤ x ∧ x < 2) := fun hx => hin ⟨⟨by omega, by omega⟩, by rcases hf with rfl | rfl <;> omega, by rcases hf with rfl | rfl <;> omega⟩
        have : ovl fine lo (lo + ((hi - lo).toNat : Nat)) x = 0 := by
          have hf0 : 0 ≤ fine := by rcases hf with rfl | rfl <;> decide
          have hl0 : 0 ≤ lo := by rw [hlo]; exact Int.le_max_right _ _
          have hh2 : hi ≤ 2 * fine := by rw [hhi]; exact Int.min_le_right _ _
          rw [← max_toNat, ovl_eq]
          rcases Int.lt_or_le x 0 with h0 | h0
          · have h9 : (x + 1) * fine ≤ 0 * fine := Int.mul_le_mul_of_nonneg_right h0 hf0
            rw [Int.zero_mul] at h9
            exact ovq_z1 (Int.le_trans (Int.le_trans h9 hl0) (Int.le_max_left _ _))
          · have h8 : 2 ≤ x := Int.not_lt.mp fun h => hx ⟨h0, h⟩
            have h9 : 2 * fine ≤ x * fine := Int.mul_le_mul_of_nonneg_right h8 hf0
            exact ovq_z2 (Int.max_le.mpr ⟨Int.le_max_left _ _, Int.le_trans (Int.le_trans hh2 h9) (Int.le_max_right _ _)⟩)
        rw [this, Int.mul_zero]; rfl
      · rw [if_neg hr] at hind
        rw [hind]; omega
    · rw [if_neg hy]; rfl
theorem hand_b1 {fine r : Int} (hf : fine = 1 ∨ fine = 2) (e : r < 5 * fine) : r - 2 * fine ≤ 20 := by
  rcases hf with rfl | rfl <;> omega
theorem hand_b2 {fine r5 r6 : Int} (hf : fine = 1 ∨ fine = 2) (d5 : 0 ≤ r5) (d6 : 0 ≤ r6) : -20 ≤ r5 - 2 * fine + 1 + r6 := by
  rcases hf with rfl | rfl <;> omega
theorem hand_b3 {fine : Int} (hf : fine = 1 ∨ fine = 2) : -20 ≤ 2 * fine := by
  rcases hf with rfl | rfl <;> decide
theorem hand_b4 {fine : Int} (hf : fine = 1 ∨ fine = 2) : 2 * fine ≤ 4 := by
  rcases hf with rfl | rfl <;> decide
theorem c_hand {w : World} {A : Around} {s : Shared} {Q E : Value → Shared → Prop} {l : Addr} {x y fine : Int} {tx ty tf : Tok} {n : Nat}
   (C : CalN w 12 400 A s.heap [(l, listOf [.int x tx, .int y ty].toArray n)]) (hf : fine = 1 ∨ fine = 2)
   (h0 : 0 ≤ x) (hy : 0 ≤ y) (hy' : y < 2147483647)
   (hret : ∀ D o cv k d kd nd f W x' tx' y' ty' n' (h' : Heap) tk', 0 ≤ x' → 0 ≤ y' → y' < 2147483647 → Ext [l] s.heap h' → h'.get? l = some (listOf [.int x' tx', .int y' ty'].toArray n') →
     (o.left = 0 ∧ o.top = 0 ∧ o.width = 2 ∧ o.height = 2 ∧ o.fine = fine) → MOk o cv → HT w W d nd f → (∀ a b, cntAt o cv a b = f a b) → NewIn s.heap h' ((D, listOf [.ref o.x, .ref d].toArray kd) :: (mled w.params o cv k ++ W)) → Q (.ref D) { s with heap := h', toks := tk' }) :
   wpAny (model PG w) A (call (.ref 319) [.ref l, .int fine tf]) Q E s := by
  cases C with | mk B F X T hk hd hu N =>
  ((k_dflt (refine wpAny_call ?_; refine' code_vis ?k1x68 ?k2x68 ?k3x68 ?k4x68 ?k5x68 ?kAx68 ?kFx68 ?kKx68 ?k6x68 ?k7x68 ?k8x68 ?k9x68 ?kBx68 ?kMx68 ?_ ?c2x68 ?c3x68 ?c4x68 ?c5x68; (case kAx68 => exact rfl); (case kFx68 => exact rfl); (case kKx68 => assumption); (case k1x68 => k_asm); (case k2x68 => k_asm); (case k3x68 => k_asm); (case k4x68 => k_asm); (case k5x68 => k_asm); (case k6x68 => k_is); (case k7x68 => k_is); (case k8x68 => ktr_room); (case k9x68 => exact BindsTo.of_eq rfl); (case kMx68 => first | exact nice1 rfl | exact nice2 rfl | exact nice3 rfl | exact nice4 rfl | exact nice5 rfl | exact nice6 rfl); (case c5x68 => decide); (case kBx68 => exact locs rfl); (case c2x68 => exact rfl); (case c3x68 => exact rfl); (case c4x68 => exact rfl); k_whole; intro g' L' h' F' N' B' X' T' hG' hg' hlt' hsz'; (try dsimp only); (try k_fold))))
  rename ∀ (b : Addr) (o : Obj), s.heap.get? b = some o → b ∉ _ → _ => hG
  ((repeat' (first | (k_unfold; (try dsimp only)) | walk1 | (dsimp only; walk1) | (leave1; (try dsimp only)))))
  rename Fr _ _ _ _ => F1
  rename News _ _ _ _ => N1
  k_dflt (refine' unhold (c_mask (CalN.mk ?B F1 ?K ?T ?hk ?hd ?hu (nil_of F1)) ⟨by decide, by decide⟩ ⟨by decide, by decide⟩ (by omega) ?_))
  case B => k_asm
  case K => k_asm
  case T => k_asm
  case hk => exact rfl
  case hd => ktr_room
  case hu => ktr_units
  intro o t0 k0 h2 tk2 ho E2 A2
  obtain ⟨F2, N2, ne2⟩ := news_many F1 N1 E2 A2
  have nl2 := ne2 _ (.tail _ (.tail _ (.head _)))
  clear F1 N1 E2
  unfold mled at N2
  simp only [List.cons_append, List.nil_append] at N2
  ((repeat' (first | (k_unfold; (try dsimp only)) | walk1 | (dsimp only; walk1) | (leave1; (try dsimp only)))))
  rename Fr _ _ _ _ => F3
  rename News _ _ _ _ => N3
  refine unhold ?_
  obtain ⟨rl, hrl⟩ := fst_of N3
  obtain ⟨d, hd⟩ := fst_of (News.subs N3 fun p hp => .tail _ (.tail _ hp))
  subst hrl
  subst hd
  rename Obj => dob
  rename Obj.IsDictOf (intKind PG w) _ [] => hdo
  rename (d == sysModules) = false => hlo
  rename _ < rl ∧ _ => l4
  rename o.x < d ∧ _ => l2
  obtain ⟨tz, htz⟩ : ∃ t, t = Value.int 0 t0 := ⟨_, rfl⟩
  have M0 : MOk o (List.replicate (2 * 2 : Int).toNat ((0, t0) : Int × Tok)) := by
    obtain ⟨a1, a2, a3, a4, a5⟩ := ho
    exact ⟨by omega, by omega, by omega, by omega, by omega, by omega, by omega, by omega, by omega, by omega, by rw [a3, a4]; rfl⟩
  have hF0 : ∀ a b, cntAt o (List.replicate (2 * 2 : Int).toNat ((0, t0) : Int × Tok)) a b = 0 := fun a b => by
    unfold cntAt
    split
    · rw [List.getD_eq_getElem?_getD, List.getElem?_replicate]; split <;> rfl
    · rfl
  have ns1 : @Ne Nat l o.l := nl2.1
  obtain ⟨q1, q2, q3, q4, N4⟩ := row_toks N3
  clear N3
  refine my_list (m := ?m) ((rl, listOf #[.int 0 q1, .int (2 * fine - 1) q2, .int (2 * fine) q3, .int (-1) q4] 0) :: (o.x, instObj 259 o.d) :: (o.d, mdic w.params o) :: []) ((l, listOf [.int x tx, .int y ty].toArray n) :: (o.l, clist (List.replicate (2 * 2 : Int).toNat ((0, t0) : Int × Tok)) k0) :: [(d, dob)]) [l, o.l, d]
    (fun i m W => (∃ u1 u2 u3 u4 u5, m = (U (U (U (U (U ?m (Str.ofString "dot") u5) (Str.ofString "column") u4) (Str.ofString "end") u3) (Str.ofString "begin") u2) (Str.ofString "row") u1)) ∧
      ∃ x tx y ty n cv dW f, W = (l, listOf [.int x tx, .int y ty].toArray n) :: (o.l, clist cv k0) :: dW ∧ 0 ≤ x ∧ 0 ≤ y ∧ y < 2147483647 ∧ (∀ p ∈ dW, isDT p.2 = true) ∧ HT w dW d (4 * i) f ∧ MOk o cv ∧ ∀ a b, cntAt o cv a b = f a b) rfl ?F ?N (.head _) ?h0 ?hds ?noit ?turn ?done
  case F => exact F3
  case N =>
    exact News.subs N4 (subC (memI 6 rfl) <| subC (memI 5 rfl) <| subC (memI 2 rfl) <| subC (memI 0 rfl) <| subC (memI 3 rfl) <| subC (memI 4 rfl) <| subN)
  case h0 =>
    refine ⟨⟨?u1, ?u2, ?u3, ?u4, ?u5, ?mp⟩, x, tx, y, ty, n, _, [(d, dob)], fun _ _ => 0, rfl, h0, hy, hy', fun p hp => ?_, HT.empty (.head _) hlo hdo, M0, hF0⟩
    case mp => ((refine extU5 ?hoffx69 ?e1x69 ?e2x69 ?e3x69 ?e4x69 ?e5x69; (case e1x69 => rfl); (case e2x69 => rfl); (case e3x69 => rfl); (case e4x69 => rfl); (case e5x69 => rfl); (case hoffx69 => (repeat' (first | with_reducible exact Off.same | with_reducible exact List.Mem.head _ | with_reducible refine List.Mem.tail _ ?_ | with_reducible refine Off.l ?_ ?_)))))
    rw [List.mem_singleton.mp hp]
    obtain ⟨_, _, h, _⟩ := hdo
    simp [isDT, h.1]
  case hds =>
    obtain ⟨p1, p2, p3, p4⟩ := l2
    obtain ⟨r0, r1, r2, r3, r4, r5⟩ := l4
    have m1 := ne2 _ (.head _)
    have m2 := ne2 _ (.tail _ (.head _))
    intro d' hd'
    have x1 : @Ne Nat o.x o.l := ne_cls N4 (.tail _ (.tail _ (.tail _ (.head _)))) (.tail _ (.tail _ (.tail _ (.tail _ (.tail _ (.head _)))))) (by simp)
    have x2 : @Ne Nat o.d o.l := ne_cls N4 (.tail _ (.tail _ (.tail _ (.tail _ (.head _))))) (.tail _ (.tail _ (.tail _ (.tail _ (.tail _ (.head _)))))) (by simp [mdic])
    simp only [List.mem_cons, List.not_mem_nil, or_false] at hd'
    rcases hd' with rfl | rfl | rfl
    · exact ⟨⟨_, .head _⟩, subC (Nat.ne_of_gt r5) <| subC (Ne.symm m1.1) <| subC (Ne.symm m2.1) subN⟩
    · exact ⟨⟨_, .tail _ (.head _)⟩, subC (Nat.ne_of_gt r4) <| subC (x1) <| subC (x2) subN⟩
    · exact ⟨⟨_, .tail _ (.tail _ (.head _))⟩, subC (Nat.ne_of_gt r1) <| subC (Nat.ne_of_lt p1) <| subC (Nat.ne_of_lt p2) subN⟩
  case noit =>
    rintro i m W ⟨_, x, tx, y, ty, n, cv, dW, f, rfl, _, _, _, hdt, _⟩ p hp
    rcases List.mem_cons.mp hp with rfl | hp
    · rfl
    rcases List.mem_cons.mp hp with rfl | hp
    · rfl
    · exact isDT_iter (hdt p hp)
  case turn =>
    intro SS hSS i v m₁ W1 h₁ tk₁ tl hi hv hR9 hsl htl F₂ N₂ PL
    refine lock ?_
    intro GG9
    rcases hR9 with ⟨⟨u1, u2, u3, u4, u5, rfl⟩, x, tx, y, ty, n, cv, dW, f, rfl, h0, hy, hy', hdt, hT, M, hc⟩
    first | k_unfold | dsimp only [GG9]
    obtain ⟨row, tr, rfl, hrow⟩ : ∃ row tr, v = .int row tr ∧ -1 ≤ row ∧ row ≤ 2 * fine := by
      match i, hi, hv with
      | 0, _, hv => exact ⟨0, q1, (Option.some.inj hv).symm, by omega, by omega⟩
      | 1, _, hv => exact ⟨2 * fine - 1, q2, (Option.some.inj hv).symm, by omega, by omega⟩
      | 2, _, hv => exact ⟨2 * fine, q3, (Option.some.inj hv).symm, by omega, by omega⟩
      | 3, _, hv => exact ⟨-1, q4, (Option.some.inj hv).symm, by omega, by omega⟩
      | k + 4, hi, _ => exact absurd hi (by simp)
    have hi4 : i < 4 := hi
    simp only [List.cons_append] at N₂
    obtain ⟨tl', htl'⟩ : ∃ t, t = dW ++ tl := ⟨_, rfl⟩
    rw [← htl'] at N₂
    have nl : AllNe l tl' := .of fun p hp => by
      have hp' := hp
      rw [htl'] at hp'
      rcases List.mem_append.mp hp' with hp' | hp'
      · exact ne_cls N₂ (.tail _ (.tail _ hp)) (.head _) (isDT_list (hdt p hp'))
      · exact (htl _ (.head _)).mem p hp'
    have nol : AllNe o.l tl' := .of fun p hp => by
      have hp' := hp
      rw [htl'] at hp'
      rcases List.mem_append.mp hp' with hp' | hp'
      · exact ne_cls N₂ (.tail _ (.tail _ hp)) (.tail _ (.head _)) (isDT_list (hdt p hp'))
      · exact (htl _ (.tail _ (.head _))).mem p hp'
    have x1 : (o.x, instObj 259 o.d) ∈ tl' := by rw [htl']; exact List.mem_append_right _ (hsl _ (.tail _ (.head _)))
    have x2 : (o.d, mdic w.params o) ∈ tl' := by rw [htl']; exact List.mem_append_right _ (hsl _ (.tail _ (.tail _ (.head _))))
    have x2' := x2
    unfold mdic at x2'
    have hTl : HT w tl' d (4 * i) f := hT.subs fun p hp => by rw [htl']; exact List.mem_append_left _ hp
    clear hv hi F3 N4 hF0 M0
    ((repeat' (first | (k_unfold; (try dsimp only)) | walk1 | (dsimp only; walk1) | (leave1; (try dsimp only)))))
    rename Fr _ _ _ _ => Fa5
    rename News _ _ _ _ => Na5
    k_dflt (refine' unhold (c_take (Cal.mk ?B5 Fa5 ?K5 ?T5 ?hk5 ?hd5 ?hu5 (hX1 Na5 (.head _))) (get_in Na5 (.head _)) h0 hy hy' ?_ ?_ ?_))
    case B5 => k_asm
    case K5 => k_asm
    case T5 => k_asm
    case hk5 => exact rfl
    case hd5 => ktr_room
    case hu5 => ktr_units
    · omega
    · omega
    intro r5 rt5 xx5 tx5 yy5 ty5 nn5 hh5 tk5 a5 b5 c5 d5 e5 E5 G5
    refine lock ?_
    intro GG9
    obtain ⟨Fb5, Nb5⟩ := upd_back Fa5 Na5 ⟨Ne.symm ns1, nl⟩ E5 G5
    clear Fa5 Na5 E5 G5
    first | k_unfold | dsimp only [GG9]
    (try dsimp only)
    ((repeat' (first | (k_unfold; (try dsimp only)) | walk1 | (dsimp only; walk1) | (leave1; (try dsimp only)))))
    rename Fr _ _ _ _ => Fa6
    rename News _ _ _ _ => Na6
    k_dflt (refine' unhold (c_take (Cal.mk ?B6 Fa6 ?K6 ?T6 ?hk6 ?hd6 ?hu6 (hX1 Na6 (.head _))) (get_in Na6 (.head _)) a5 b5 c5 ?_ ?_ ?_))
    case B6 => k_asm
    case K6 => k_asm
    case T6 => k_asm
    case hk6 => exact rfl
    case hd6 => ktr_room
    case hu6 => ktr_units
    · omega
    · omega
    intro r6 rt6 xx6 tx6 yy6 ty6 nn6 hh6 tk6 a6 b6 c6 d6 e6 E6 G6
    refine lock ?_
    intro GG9
    obtain ⟨Fb6, Nb6⟩ := upd_back Fa6 Na6 ⟨Ne.symm ns1, nl⟩ E6 G6
    clear Fa6 Na6 E6 G6
    first | k_unfold | dsimp only [GG9]
    (try dsimp only)
    ((repeat' (first | (k_unfold; (try dsimp only)) | walk1 | (dsimp only; walk1) | (leave1; (try dsimp only)))))
    rename Fr _ _ _ _ => Fa7
    rename News _ _ _ _ => Na7
    refine lock ?_
    intro GG9
    obtain ⟨ls, hls⟩ := fst_of Na7
    subst hls
    first | k_unfold | dsimp only [GG9]
    rename _ < ls ∧ _ => l7
    obtain ⟨te, htc, hte, N8⟩ := one_span Na7
    clear Na7
    have hto : @Ne Nat te.a o.l := ne_cls N8 (.tail _ (.head _)) (.tail _ (.tail _ (.tail _ (.head _)))) (by simp)
    k_dflt (refine' unhold (c_add (o := o) (cv := cv) (k := k0) (ts := [te]) (CalN.mk ?B7 Fa7 ?K7 ?T7 ?hk7 ?hd7 ?hu7 (News.subs N8 ?sb7)) M (by omega) (by omega) ?ne7 (nol.mem _ x1) (nol.mem _ x2) ?_))
    case B7 => k_asm
    case K7 => k_asm
    case T7 => k_asm
    case hk7 => exact rfl
    case hd7 => ktr_room
    case hu7 => ktr_units
    case sb7 => exact subC (.tail _ (.tail _ (.tail _ (.tail _ x1)))) <| subC (.tail _ (.tail _ (.tail _ (.tail _ x2)))) <| subC (memI 3 rfl) <| subC (.head _) fun p hp => .tail _ (List.mem_append_left _ hp)
    case ne7 => exact ⟨Nat.ne_of_gt l7.2.2.1, hto, trivial⟩
    intro cv' hh8 tk8 hlen8 hadd8 E8 G8
    refine lock ?_
    intro GG9
    have N8' := News.subs (a := (o.l, clist cv k0) :: (l, listOf [.int xx6 tx6, .int yy6 ty6].toArray nn6) :: tl') N8 (subC (memI 3 rfl) <| subC (memI 2 rfl) fun p hp => .tail _ (.tail _ (.tail _ (.tail _ hp))))
    obtain ⟨F9, N9⟩ := upd_back Fa7 N8' ⟨ns1, nol⟩ E8 G8
    clear N8'
    clear Fa7 N8 E8 G8
    first | k_unfold | dsimp only [GG9]
    (try dsimp only)
    ((repeat' (first | (k_unfold; (try dsimp only)) | walk1 | (dsimp only; walk1) | (leave1; (try dsimp only)))))
    rename Fr _ _ _ _ => F10
    rename News _ _ _ _ => N10
    rename IsRange _ _ _ _ _ _ _ _ => hr10
    refine unhold ?_
    obtain ⟨lo, hlo10⟩ : ∃ z, z = (if 0 > r5 - 2 * fine then 0 else r5 - 2 * fine) := ⟨_, rfl⟩
    obtain ⟨hi, hhi10⟩ : ∃ z, z = (if 2 * fine < r5 - 2 * fine + 1 + r6 then 2 * fine else r5 - 2 * fine + 1 + r6) := ⟨_, rfl⟩
    rw [← hlo10, ← hhi10] at hr10
    have hlo1 : lo = max (r5 - 2 * fine) 0 := by rw [hlo10, ifmax]
    have hhi1 : hi = min (r5 - 2 * fine + 1 + r6) (2 * fine) := by rw [hhi10, ifmin]
    obtain ⟨ind, hind⟩ : ∃ z : Int, z = if 0 ≤ row ∧ row < 2 * fine then 1 else 0 := ⟨_, rfl⟩
    have hind2 : ind = 0 ∨ ind = 1 := by split at hind <;> omega
    clear hlo10 hhi10
    have hlb : (0 ≤ lo ∧ lo ≤ 20) ∧ -20 ≤ hi ∧ hi ≤ 4 := by rw [hlo1, hhi1]; exact ⟨⟨Int.le_max_right _ _, Int.max_le.mpr ⟨hand_b1 hf e5, by decide⟩⟩, Int.le_min.mpr ⟨hand_b2 hf d5 d6, hand_b3 hf⟩, Int.le_trans (Int.min_le_right _ _) (hand_b4 hf)⟩
    have hlo1H := unhold hlo1
    have hhi1H := unhold hhi1
    clear hlo1 hhi1
    have hindH := unhold hind
    clear hind
    obtain ⟨dd, hdd, hddc⟩ := hT.mem
    have hddt : (d, dd) ∈ tl' := by rw [htl']; exact List.mem_append_left _ hdd
    refine my_range (m := ?mr) (n := (hi - lo).toNat) ((o.l, clist cv' k0) :: (l, listOf [.int xx6 tx6, .int yy6 ty6].toArray nn6) :: tl) dW [d]
      (fun j m W => (∃ u1 u2, m = (U (U ?mr (Str.ofString "dot") u2) (Str.ofString "column") u1)) ∧ (∀ p ∈ W, isDT p.2 = true) ∧
        HT w W d (4 * i + j) (fun p q => f p q + if Int.fdiv row fine = q then ind * ovl fine lo (lo + (j : Int)) p else 0)) rfl ?Fr ?Nr hr10 ?smr ?szr (fun v => rfl) ?h0r ?hdsr ?noitr ?turnr ?doner
    case Fr => exact F10
    case Nr =>
      refine News.subs N10 fun p hp => ?_
      rw [htl']
      rcases List.mem_append.mp hp with hp | hp
      · exact .tail _ (.tail _ (List.mem_append_left _ hp))
      · rcases List.mem_cons.mp hp with rfl | hp
        · exact .head _
        · rcases List.mem_cons.mp hp with rfl | hp
          · exact .tail _ (.head _)
          · exact .tail _ (.tail _ (List.mem_append_right _ hp))
    case smr => exact small_one (by omega) (by omega) (by omega) (by omega)
    case szr => exact rangeSize_nat _ _
    case h0r =>
      refine ⟨⟨?w1, ?w2, ?mp2⟩, hdt, hT.mono (by omega) fun p q => ?_⟩
      case mp2 => ((refine extU2 ?hoffx70 ?e1x70 ?e2x70; (case e1x70 => rfl); (case e2x70 => rfl); (case hoffx70 => (repeat' (first | with_reducible exact Off.same | with_reducible exact List.Mem.head _ | with_reducible refine List.Mem.tail _ ?_ | with_reducible refine Off.l ?_ ?_)))))
      have : ovl fine lo (lo + ((0 : Nat) : Int)) p = 0 := by unfold ovl; rcases hf with rfl | rfl <;> split <;> omega
      rw [this]; simp
    case hdsr =>
      intro d' hd'
      rw [List.mem_singleton.mp hd']
      refine ⟨⟨dd, hdd⟩, fun p hp => ?_⟩
      rcases List.mem_cons.mp hp with rfl | hp
      · exact ne_cls N10 (.head _) (.tail _ (.tail _ hddt)) (by simp [hddc])
      · rcases List.mem_cons.mp hp with rfl | hp
        · exact ne_cls N10 (.tail _ (.head _)) (.tail _ (.tail _ hddt)) (by simp [hddc])
        · exact (htl _ (.tail _ (.tail _ (.head _)))).mem p hp
    case noitr =>
      rintro j m W ⟨_, h, _⟩ p hp
      exact isDT_iter (h p hp)
    case turnr =>
      intro SS hSS j t m₃ W3 h₃ tk₃ tl3 hj hR9 hsl3 htl3 F₃ N₃ PL
      refine lock ?_
      intro GG9
      rcases hR9 with ⟨⟨v1, v2, rfl⟩, hdt3, hT3⟩
      first | k_unfold | dsimp only [GG9]
      have hb3 : 0 ≤ lo + (j : Int) ∧ lo + (j : Int) < 4 := by omega
      clear F10 N10
      obtain ⟨g, hg⟩ : ∃ g : Int → Int → Int, g = fun p q => f p q + if Int.fdiv row fine = q then ind * ovl fine lo (lo + (j : Int)) p else 0 := ⟨_, rfl⟩
      have hg' : ∀ p q, g p q = f p q + if Int.fdiv row fine = q then ind * ovl fine lo (lo + (j : Int)) p else 0 := fun p q => by rw [hg]
      rw [← hg] at hT3
      have hT4 := HT.subs (b := W3 ++ tl3) hT3 fun p hp => List.mem_append_left _ hp
      ((repeat' (first | (k_unfold; (try dsimp only)) | walk1 | (dsimp only; walk1) | (leave1; (try dsimp only)))))
      rename Fr _ _ _ _ => F11
      rename News _ _ _ _ => N11
      obtain ⟨dot, hdot⟩ := fst_of N11
      simp only at hdot
      dsimp +zetaDelta only at F11
      rw [← hdot] at F11 N11
      refine fr_let F11 ?_
      clear F11
      intro m11 F11
      have hT5 := ht_cons N11 hT4
      refine unhold (HT.meth N11 hT5 ?_)
      ((repeat' (first | (k_unfold; (try dsimp only)) | walk1 | (dsimp only; walk1) | (leave1; (try dsimp only)))))
      refine unhold (HT.get (by ktr_units) N11 hT5 (.head _) fun t5 => ?_)
      (try dsimp only)
      ((repeat' (first | (k_unfold; (try dsimp only)) | walk1 | (dsimp only; walk1) | (leave1; (try dsimp only)))))
      all_goals (
        rename Fr _ _ _ _ => F12
        rename News _ _ _ _ => N12
        refine unhold (HT.set (by ktr_units) F12 N12 hT5 (.head _) (by omega) fun h13 news13 F13 N13 hT13 hk13 => ?_)
        (try dsimp only)
        (try clear F12 N12); (try clear hT5 hT4); (try clear F₃ N₃)
        ((repeat' (first | (k_unfold; (try dsimp only)) | walk1 | (dsimp only; walk1) | (leave1; (try dsimp only)))))
        obtain ⟨b14, hb1, hb2, hT14⟩ := hT13.shrink)
      · refine keep_post (W := b14) F13 N13 (fun p hp => ?_) (hSS _ _ _ ⟨⟨?va1, ?va2, ?vamp⟩, hb2, hT14.mono (by omega) fun p q => ?_⟩)
        case vamp => ((refine extU2 ?hoffx71 ?e1x71 ?e2x71; (case e1x71 => rfl); (case e2x71 => rfl); (case hoffx71 => (repeat' (first | with_reducible exact Off.same | with_reducible exact List.Mem.head _ | with_reducible refine List.Mem.tail _ ?_ | with_reducible refine Off.l ?_ ?_)))))
        · rcases List.mem_append.mp hp with hp | hp
          · exact hb1 p hp
          · exact hk13 p (.tail _ (List.mem_append_right _ hp)) ((htl3 d (.head _)).mem p hp)
        · have hv : (if decide (row < 2 * fine) = true then (1 : Int) else 0) = ind := by
            rw [hindH.go]; by_cases h : row < 2 * fine <;> simp [h] <;> omega
          rw [hv, ← hand_step hf (by omega) hind2 hg' p q]
          push_cast
          rw [Int.add_assoc]
      · refine keep_post (W := b14) F13 N13 (fun p hp => ?_) (hSS _ _ _ ⟨⟨?vb1, ?vb2, ?vbmp⟩, hb2, hT14.mono (by omega) fun p q => ?_⟩)
        case vbmp => ((refine extU2 ?hoffx72 ?e1x72 ?e2x72; (case e1x72 => rfl); (case e2x72 => rfl); (case hoffx72 => (repeat' (first | with_reducible exact Off.same | with_reducible exact List.Mem.head _ | with_reducible refine List.Mem.tail _ ?_ | with_reducible refine Off.l ?_ ?_)))))
        · rcases List.mem_append.mp hp with hp | hp
          · exact hb1 p hp
          · exact hk13 p (.tail _ (List.mem_append_right _ hp)) ((htl3 d (.head _)).mem p hp)
        · have hv : (if decide (0 ≤ row) = true then (1 : Int) else 0) = ind := by
            have hn : ¬ 0 ≤ row := by assumption
            have hn' : ¬ (0 ≤ row ∧ row < 2 * fine) := fun q => hn q.1
            rw [hindH.go, if_neg hn']; simp [hn]
          rw [hv, ← hand_step hf (by omega) hind2 hg' p q]
          push_cast
          rw [Int.add_assoc]
    case doner =>
      intro h₅ tk₅ m₅ W5 hR9 F₅ N₅
      refine lock ?_
      intro GG9
      rcases hR9 with ⟨⟨v1, v2, rfl⟩, hdt5, hT5⟩
      first | k_unfold | dsimp only [GG9]
      clear F10 N10 hr10
      ((repeat' (first | (k_unfold; (try dsimp only)) | walk1 | (dsimp only; walk1) | (leave1; (try dsimp only)))))
      refine keep_post (W := (l, listOf [.int xx6 tx6, .int yy6 ty6].toArray nn6) :: (o.l, clist cv' k0) :: W5) F₅ N₅ (fun p hp => ?_) (hSS _ _ _ ⟨⟨?vc1, ?vc2, ?vc3, ?vc4, ?vc5, ?vcmp⟩, _, _, _, _, _, _, _, _, rfl, a6, b6, c6, hdt5, hT5.mono (by push_cast; omega) (fun p q => rfl), ⟨M.w0, M.w1, M.h0, M.h1, M.l0, M.l1, M.t0, M.t1, M.f0, M.f1, by rw [hlen8]; exact M.len⟩, fun p q => ?_⟩)
      case vcmp => ((refine extU5 ?hoffx73 ?e1x73 ?e2x73 ?e3x73 ?e4x73 ?e5x73; (case e1x73 => rfl); (case e2x73 => rfl); (case e3x73 => rfl); (case e4x73 => rfl); (case e5x73 => rfl); (case hoffx73 => (repeat' (first | with_reducible exact Off.same | with_reducible exact List.Mem.head _ | with_reducible refine List.Mem.tail _ ?_ | with_reducible refine Off.l ?_ ?_)))))
      · rcases List.mem_cons.mp hp with rfl | hp
        · exact List.mem_append_right _ (.tail _ (.head _))
        rcases List.mem_cons.mp hp with rfl | hp
        · exact List.mem_append_right _ (.head _)
        rcases List.mem_append.mp hp with hp | hp
        · exact List.mem_append_left _ hp
        · exact List.mem_append_right _ (.tail _ (.tail _ hp))
      · refine hand_turn ho hf hlo1H.go hhi1H.go hindH.go hc (fun x y hin => ?_) p q
        rw [hadd8 x y hin]
        simp only [List.map_cons, List.map_nil, htc, hte]
  case done =>
    intro h₂ tk₂ m₂ W₂ hR9 F₂ N₂
    refine lock ?_
    intro GG9
    rcases hR9 with ⟨⟨u1, u2, u3, u4, u5, rfl⟩, x, tx, y, ty, n, cv, dW, f, rfl, h0, hy, hy', hdt, hT, M, hc⟩
    first | k_unfold | dsimp only [GG9]
    clear F3 N4
    ((repeat' (first | (k_unfold; (try dsimp only)) | walk1 | (dsimp only; walk1) | (leave1; (try dsimp only)))))
    rename Fr _ _ _ _ => F20
    rename News _ _ _ _ => N20
    refine lock ?_
    intro GG9
    obtain ⟨D, hD⟩ := fst_of N20
    subst hD
    first | k_unfold | dsimp only [GG9]
    rename ∀ (p : Addr × Obj), p ∈ _ → p.fst < D => hlt20
    have x1 : (o.x, instObj 259 o.d) ∈ dW ++ [(rl, listOf #[.int 0 q1, .int (2 * fine - 1) q2, .int (2 * fine) q3, .int (-1) q4] 0), (o.x, instObj 259 o.d), (o.d, mdic w.params o)] := List.mem_append_right _ (.tail _ (.head _))
    have x2 : (o.d, mdic w.params o) ∈ dW ++ [(rl, listOf #[.int 0 q1, .int (2 * fine - 1) q2, .int (2 * fine) q3, .int (-1) q4] 0), (o.x, instObj 259 o.d), (o.d, mdic w.params o)] := List.mem_append_right _ (.tail _ (.tail _ (.head _)))
    have hlD : l < D := hlt20 _ (.head _)
    refine hret D o cv k0 d 0 _ f dW x tx y ty n _ _ h0 hy hy' (ext_led hG F20 N N20 (subC (.inl (.head _)) subN)) (get_in N20 (.tail _ (.head _))) ho M hT hc ?nw
    have hDl : @Ne Nat D l := Nat.ne_of_gt hlD
    have ml : (l, listOf [.int x tx, .int y ty].toArray n) ∈ (l, listOf [.int x tx, .int y ty].toArray n) :: (o.l, clist cv k0) :: (dW ++ [(rl, listOf #[.int 0 q1, .int (2 * fine - 1) q2, .int (2 * fine) q3, .int (-1) q4] 0), (o.x, instObj 259 o.d), (o.d, mdic w.params o)]) := .head _
    exact subC ⟨fresh_led hG N20 (.head _) (notin_ne ⟨Ne.symm hDl, trivial⟩), get_in N20 (.head _)⟩ <|
      subC ⟨fresh_led hG N20 (.tail _ (.tail _ (.tail _ x1))) (notin_ne ⟨ne_cls N20 (.tail _ ml) (.tail _ (.tail _ (.tail _ x1))) (by simp), trivial⟩), get_in N20 (.tail _ (.tail _ (.tail _ x1)))⟩ <|
      subC ⟨fresh_led hG N20 (.tail _ (.tail _ (.tail _ x2))) (notin_ne ⟨ne_cls N20 (.tail _ ml) (.tail _ (.tail _ (.tail _ x2))) (by simp [mdic]), trivial⟩), get_in N20 (.tail _ (.tail _ (.tail _ x2)))⟩ <|
      subC ⟨fresh_led hG N20 (.tail _ (.tail _ (.head _))) (notin_ne ⟨ns1, trivial⟩), get_in N20 (.tail _ (.tail _ (.head _)))⟩ fun p hp =>
      ⟨fresh_led hG N20 (.tail _ (.tail _ (.tail _ (List.mem_append_left _ hp)))) (notin_ne ⟨ne_cls N20 (.tail _ ml) (.tail _ (.tail _ (.tail _ (List.mem_append_left _ hp)))) (Ne.symm (isDT_list (hdt p hp))), trivial⟩), get_in N20 (.tail _ (.tail _ (.tail _ (List.mem_append_left _ hp))))⟩
end
section
theorem offLawP : True := by
  w_top off
  trivial
theorem fr_gen {h₀ h : Heap} {L : Addr} {m : Str → Option Value} (F : Fr h₀ L h m) : ∃ m', Fr h₀ L h m' := ⟨m, F⟩
theorem pled_cls {ps : List PT} : ∀ p ∈ pled ps, p.2.cls = .type "tuple" := fun p hp => by
  obtain ⟨t, _, rfl⟩ := List.mem_map.mp hp; rfl
section
variable {h₀ h : Heap} {L : Addr}
theorem pt_of {a : Addr} {x y : Int} {u v : Tok} (h : 0 ≤ x) (g : x < 17) (h2 : 0 ≤ y) (g2 : y < 17) : PTb ⟨a, x - 2, y - 2, u, v⟩ := by
  unfold PTb; dsimp only; omega
theorem spots3 {sp e a b c src cl : Addr} {oe oc : Obj} {x1 y1 x2 y2 x3 y3 x y : Int} {u1 v1 u2 v2 u3 v3 tx ty : Tok} {n : Nat}
    (N : News h₀ L h [(sp, tupOf [.ref a, .ref b, .ref c]), (e, oe), (c, tupOf [.int (x3 - 2) u3, .int (y3 - 2) v3]), (b, tupOf [.int (x2 - 2) u2, .int (y2 - 2) v2]), (a, tupOf [.int (x1 - 2) u1, .int (y1 - 2) v1]), (src, listOf #[.int x tx, .int y ty] n), (cl, oc)])
    (h1 : 0 ≤ x1) (g1 : x1 < 17) (h2 : 0 ≤ y1) (g2 : y1 < 17) (h3 : 0 ≤ x2) (g3 : x2 < 17) (h4 : 0 ≤ y2) (g4 : y2 < 17) (h5 : 0 ≤ x3) (g5 : x3 < 17) (h6 : 0 ≤ y3) (g6 : y3 < 17) :
    ∃ ps k, (∀ p ∈ ps, PTb p) ∧ (ps.length = 3 ∨ ps.length = 4) ∧ News h₀ L h ((src, listOf [.int x tx, .int y ty].toArray n) :: (cl, oc) :: (sp, ptup ps k) :: pled ps) := by
  refine ⟨[⟨a, x1 - 2, y1 - 2, u1, v1⟩, ⟨b, x2 - 2, y2 - 2, u2, v2⟩, ⟨c, x3 - 2, y3 - 2, u3, v3⟩], 0, subC (pt_of h1 g1 h2 g2) <| subC (pt_of h3 g3 h4 g4) <| subC (pt_of h5 g5 h6 g6) subN, .inl rfl, News.subs N (subC (memI 5 rfl) <| subC (memI 6 rfl) <| subC (memI 0 rfl) <| subC (memI 4 rfl) <| subC (memI 3 rfl) <| subC (memI 2 rfl) <| subN)⟩
theorem spots4 {sp e a b c d src cl : Addr} {oe oc : Obj} {x1 y1 x2 y2 x3 y3 x4 y4 x y : Int} {u1 v1 u2 v2 u3 v3 u4 v4 tx ty : Tok} {n : Nat}
    (N : News h₀ L h [(sp, tupOf [.ref a, .ref b, .ref c, .ref d]), (e, oe), (d, tupOf [.int (x4 - 2) u4, .int (y4 - 2) v4]), (c, tupOf [.int (x3 - 2) u3, .int (y3 - 2) v3]), (b, tupOf [.int (x2 - 2) u2, .int (y2 - 2) v2]), (a, tupOf [.int (x1 - 2) u1, .int (y1 - 2) v1]), (src, listOf #[.int x tx, .int y ty] n), (cl, oc)])
    (h1 : 0 ≤ x1) (g1 : x1 < 17) (h2 : 0 ≤ y1) (g2 : y1 < 17) (h3 : 0 ≤ x2) (g3 : x2 < 17) (h4 : 0 ≤ y2) (g4 : y2 < 17) (h5 : 0 ≤ x3) (g5 : x3 < 17) (h6 : 0 ≤ y3) (g6 : y3 < 17) (h7 : 0 ≤ x4) (g7 : x4 < 17) (h8 : 0 ≤ y4) (g8 : y4 < 17) :
    ∃ ps k, (∀ p ∈ ps, PTb p) ∧ (ps.length = 3 ∨ ps.length = 4) ∧ News h₀ L h ((src, listOf [.int x tx, .int y ty].toArray n) :: (cl, oc) :: (sp, ptup ps k) :: pled ps) := by
  refine ⟨[⟨a, x1 - 2, y1 - 2, u1, v1⟩, ⟨b, x2 - 2, y2 - 2, u2, v2⟩, ⟨c, x3 - 2, y3 - 2, u3, v3⟩, ⟨d, x4 - 2, y4 - 2, u4, v4⟩], 0, subC (pt_of h1 g1 h2 g2) <| subC (pt_of h3 g3 h4 g4) <| subC (pt_of h5 g5 h6 g6) <| subC (pt_of h7 g7 h8 g8) subN, .inr rfl, News.subs N (subC (memI 6 rfl) <| subC (memI 7 rfl) <| subC (memI 0 rfl) <| subC (memI 5 rfl) <| subC (memI 4 rfl) <| subC (memI 3 rfl) <| subC (memI 2 rfl) <| subN)⟩
theorem pickFG {ls a b c : Addr} {ol : Obj} {p1 p2 p3 p4 p5 p6 : Tok} {r : List (Addr × Obj)} {v : Value}
    (N : News h₀ L h ((ls, ol) :: (c, tupOf [.int 2 p5, .int 8 p6]) :: (b, tupOf [.int 2 p3, .int 4 p4]) :: (a, tupOf [.int 1 p1, .int 4 p2]) :: r)) (hv : v ∈ [Value.ref a, .ref b, .ref c]) :
    ∃ tp fine grain tf tg, v = .ref tp ∧ FG fine grain ∧ News h₀ L h ((tp, tupOf [.int fine tf, .int grain tg]) :: r) := by
  simp only [List.mem_cons, List.not_mem_nil, or_false] at hv
  rcases hv with rfl | rfl | rfl
  · exact ⟨a, 1, 4, p1, p2, rfl, .inl ⟨rfl, rfl⟩, News.subs N fun p hp => .tail _ (.tail _ (.tail _ hp))⟩
  · refine ⟨b, 2, 4, p3, p4, rfl, .inr (.inl ⟨rfl, rfl⟩), News.subs N fun p hp => ?_⟩
    rcases List.mem_cons.mp hp with rfl | hp
    · exact .tail _ (.tail _ (.head _))
    · exact .tail _ (.tail _ (.tail _ (.tail _ hp)))
  · refine ⟨c, 2, 8, p5, p6, rfl, .inr (.inr ⟨rfl, rfl⟩), News.subs N fun p hp => ?_⟩
    rcases List.mem_cons.mp hp with rfl | hp
    · exact .tail _ (.head _)
    · exact .tail _ (.tail _ (.tail _ (.tail _ hp)))
theorem pickR {v : Value} {p1 p2 : Tok} (hv : v ∈ [Value.str (Str.ofString "nonzero") p1, .str (Str.ofString "evenodd") p2]) :
    ∃ r t, v = .str r t ∧ (r = Str.ofString "nonzero" ∨ r = Str.ofString "evenodd") := by
  simp only [List.mem_cons, List.not_mem_nil, or_false] at hv
  rcases hv with rfl | rfl
  · exact ⟨_, _, rfl, .inl rfl⟩
  · exact ⟨_, _, rfl, .inr rfl⟩
theorem src_ne {g h' : Heap} {src cl : Addr} {a : Array Value} {n : Nat} {led tl : List (Addr × Obj)} (N : News g L h' led) (hm : (src, listOf a n) ∈ led) (ht : ∀ p ∈ tl, p ∈ led ∧ (p.2.cls = .type "tuple" ∨ p.1 = cl)) (hc : @Ne Nat cl src) : AllNe src tl :=
  .of fun p hp => by
    obtain ⟨h1, h2 | h2⟩ := ht p hp
    · exact ne_cls N h1 hm (by rw [h2]; simp)
    · rw [h2]; exact hc
theorem one_news {src ls : Addr} {o : Obj} {vs : List Value} {k : Nat} {tl : List (Addr × Obj)} (N : News h₀ L h ((ls, listOf vs.toArray k) :: tl)) (hm : (src, o) ∈ tl) : News h₀ L h [(src, o), (ls, listOf vs.toArray k)] := News.subs N (subC (.tail _ hm) <| subC (.head _) subN)
theorem pickM {ls a b c d e : Addr} {ol : Obj} {p1 p2 p3 p4 p5 p6 p7 p8 p9 q1 q2 q3 q4 q5 q6 q7 q8 q9 r1 r2 : Tok} {r : List (Addr × Obj)} {v : Value}
    (N : News h₀ L h ((ls, ol) :: (e, tupOf [.int 0 p1, .int 0 p2, .int 0 p3, .int 2 p4]) :: (d, tupOf [.int 0 p5, .int 1 p6, .int 1 p7, .int 2 p8]) :: (c, tupOf [.int 1 p9, .int 0 q1, .int 2 q2, .int 1 q3]) :: (b, tupOf [.int (-1) q4, .int (-1) q5, .int 2 q6, .int 2 q7]) :: (a, tupOf [.int 0 q8, .int 0 q9, .int 2 r1, .int 2 r2]) :: r))
    (hv : v ∈ [Value.ref a, .ref b, .ref c, .ref d, .ref e]) :
    ∃ tp left top width height t1 t2 t3 t4, v = .ref tp ∧ (-1 ≤ left ∧ left ≤ 1) ∧ (-1 ≤ top ∧ top ≤ 1) ∧ (0 ≤ width ∧ width ≤ 2) ∧ (0 ≤ height ∧ height ≤ 2) ∧ News h₀ L h ((tp, tupOf [.int left t1, .int top t2, .int width t3, .int height t4]) :: r) := by
  simp only [List.mem_cons, List.not_mem_nil, or_false] at hv
  have hr : ∀ p ∈ r, p ∈ ((ls, ol) :: (e, tupOf [.int 0 p1, .int 0 p2, .int 0 p3, .int 2 p4]) :: (d, tupOf [.int 0 p5, .int 1 p6, .int 1 p7, .int 2 p8]) :: (c, tupOf [.int 1 p9, .int 0 q1, .int 2 q2, .int 1 q3]) :: (b, tupOf [.int (-1) q4, .int (-1) q5, .int 2 q6, .int 2 q7]) :: (a, tupOf [.int 0 q8, .int 0 q9, .int 2 r1, .int 2 r2]) :: r) :=
    fun p hp => .tail _ (.tail _ (.tail _ (.tail _ (.tail _ (.tail _ hp)))))
  rcases hv with rfl | rfl | rfl | rfl | rfl
  · refine ⟨a, 0, 0, 2, 2, q8, q9, r1, r2, rfl, by omega, by omega, by omega, by omega, News.subs N fun p hp => ?_⟩
    rcases List.mem_cons.mp hp with rfl | hp
    · exact .tail _ (.tail _ (.tail _ (.tail _ (.tail _ (.head _)))))
    · exact hr p hp
  · refine ⟨b, -1, -1, 2, 2, q4, q5, q6, q7, rfl, by omega, by omega, by omega, by omega, News.subs N fun p hp => ?_⟩
    rcases List.mem_cons.mp hp with rfl | hp
    · exact .tail _ (.tail _ (.tail _ (.tail _ (.head _))))
    · exact hr p hp
  · refine ⟨c, 1, 0, 2, 1, p9, q1, q2, q3, rfl, by omega, by omega, by omega, by omega, News.subs N fun p hp => ?_⟩
    rcases List.mem_cons.mp hp with rfl | hp
    · exact .tail _ (.tail _ (.tail _ (.head _)))
    · exact hr p hp
  · refine ⟨d, 0, 1, 1, 2, p5, p6, p7, p8, rfl, by omega, by omega, by omega, by omega, News.subs N fun p hp => ?_⟩
    rcases List.mem_cons.mp hp with rfl | hp
    · exact .tail _ (.tail _ (.head _))
    · exact hr p hp
  · refine ⟨e, 0, 0, 0, 2, p1, p2, p3, p4, rfl, by omega, by omega, by omega, by omega, News.subs N fun p hp => ?_⟩
    rcases List.mem_cons.mp hp with rfl | hp
    · exact .tail _ (.head _)
    · exact hr p hp
end
theorem many_upd {h₀ h h' : Heap} {L a : Addr} {m : Str → Option Value} {o o' : Obj} {tl led : List (Addr × Obj)} (F : Fr h₀ L h m) (N : News h₀ L h ((a, o) :: tl)) (hn : AllNe a tl) (E : Ext [a] h h') (e : h'.get? a = some o') (A : NewIn h h' led) :
    Fr h₀ L h' m ∧ News h₀ L h' (led ++ tl) ∧ ∀ p ∈ led, AllNe p.1 ((a, o) :: tl) := by
  obtain ⟨F', N'⟩ := upd_back F N hn E e
  refine ⟨F', fun p hp => (List.mem_append.mp hp).elim (fun hp => ⟨(A p hp).2, fresh_of F (A p hp).1⟩) (fun hp => N' p (.tail _ hp)), fun p hp => .of (ne_fresh N (A p hp).1)⟩
theorem mo_news {h₀ h : Heap} {L cq ct sp : Addr} {ps : List PT} {k kc : Nat} {r : List (Addr × Obj)} (N : News h₀ L h ((cq, listOf [Value.ref ct].toArray kc) :: (ct, tupOf [.ref sp, .bool false]) :: r)) (hr : ∀ p ∈ (sp, ptup ps k) :: pled ps, p ∈ r) :
    News h₀ L h ((cq, listOf [Value.ref ct].toArray kc) :: (ct, tupOf [.ref sp, .bool false]) :: (sp, ptup ps k) :: pled ps) := News.subs N fun p hp => by
  rcases List.mem_cons.mp hp with rfl | hp
  · exact .head _
  rcases List.mem_cons.mp hp with rfl | hp
  · exact .tail _ (.head _)
  · exact .tail _ (.tail _ (hr p hp))
theorem mo_back {h₀ h : Heap} {L cq ct src tp : Addr} {oq ot os op : Obj} {led tl : List (Addr × Obj)} (N : News h₀ L h (led ++ ((cq, oq) :: (ct, ot) :: (src, os) :: (tp, op) :: tl))) (ne : ∀ p ∈ led, AllNe p.1 ((cq, oq) :: (ct, ot) :: (src, os) :: (tp, op) :: tl))
    (ht : AllNe src ((tp, op) :: tl)) : News h₀ L h ((src, os) :: (led ++ tl)) ∧ AllNe src (led ++ tl) := by
  refine ⟨News.subs N fun p hp => ?_, .of fun p hp => ?_⟩
  · rcases List.mem_cons.mp hp with rfl | hp
    · exact List.mem_append_right _ (.tail _ (.tail _ (.head _)))
    rcases List.mem_append.mp hp with hp | hp
    · exact List.mem_append_left _ hp
    · exact List.mem_append_right _ (.tail _ (.tail _ (.tail _ (.tail _ hp))))
  · rcases List.mem_append.mp hp with hp | hp
    · exact Ne.symm ((ne p hp).mem (src, os) (.tail _ (.tail _ (.head _))))
    · exact ht.mem p (.tail _ hp)
theorem src_news {h₀ h : Heap} {L a : Addr} {o : Obj} {r : List (Addr × Obj)} (N : News h₀ L h ((a, o) :: r)) : News h₀ L h [(a, o)] := News.subs N fun p hp => by rw [List.mem_singleton.mp hp]; exact .head _
open Sem in
theorem wp_split {M : Model} {Γ : _} {env : Env} {E : Value → _ → Shared → Prop} : ∀ (n : Nat) (l : List Stmt) (Q : Flow → _ → Shared → Prop) (p : _) (s : Shared),
    wp M Γ (execs (l.take n) env) (fun f p' s' => match f with | .next => wp M Γ (execs (l.drop n) env) Q E p' s' | f => Q f p' s') E p s → wp M Γ (execs l env) Q E p s
  | 0, _, _, _, _, h => h
  | _ + 1, [], _, _, _, h => h
  | n + 1, st :: rest, Q, p, s, h => by
    have h2 : wp M Γ (execs (st :: rest.take n) env) (fun f p' s' => match f with | .next => wp M Γ (execs (rest.drop n) env) Q E p' s' | f => Q f p' s') E p s := h
    rw [execs_cons, Sem.wp_bind'] at h2
    rw [execs_cons, Sem.wp_bind']
    refine Sem.wp_mono M Γ _ (fun f p' s' h' => ?_) (fun _ _ _ h' => h') _ _ h2
    cases f <;> first | exact wp_split n rest Q p' s' h' | exact h'
noncomputable def CutPost (h₀ : Heap) (L : Addr) (I : (Str → Option Value) → List (Addr × Obj) → Prop) (s : Shared) (f : Flow) (s' : Shared) : Prop :=
  f = .next ∧ ∃ h tk m' W, s' = { s with heap := h, toks := tk } ∧ Fr h₀ L h m' ∧ News h₀ L h W ∧ I m' W
theorem CutPost.intro {h₀ h : Heap} {L : Addr} {I : (Str → Option Value) → List (Addr × Obj) → Prop} {s : Shared} {tk : Nat} {m' : Str → Option Value} {W : List (Addr × Obj)} (F : Fr h₀ L h m') (N : News h₀ L h W) (hI : I m' W) :
    CutPost h₀ L I s .next { s with heap := h, toks := tk } := ⟨rfl, h, tk, m', W, rfl, F, N, hI⟩
section
variable {prog : Program} {w : World} {A : Around} {E : Value → Shared → Prop} {s : Shared} {env : Env} {h₀ : Heap} {L : Addr} {l : List Stmt} {Q : Flow → Shared → Prop}
theorem cutN {m : Str → Option Value} (n : Nat) (_ : Fr h₀ L s.heap m) (I : (Str → Option Value) → List (Addr × Obj) → Prop)
    (h1 : let P' := CutPost h₀ L I s; wpAny (model prog w) A (execs (l.take n) env) P' E s)
    (h2 : ∀ h tk m' W, I m' W → Fr h₀ L h m' → News h₀ L h W → wpAny (model prog w) A (execs (l.drop n) env) Q E { s with heap := h, toks := tk }) :
    wpAny (model prog w) A (execs l env) Q E s := fun Γ p hΓ => wp_split n l _ p s (Sem.wp_mono _ Γ _ (fun f p' s' h' => by
      obtain ⟨rfl, h, tk, m', W, rfl, F, N, hI⟩ := h'
      exact h2 h tk m' W hI F N Γ p' hΓ) (fun _ _ _ h' => h') p s (h1 Γ p hΓ))
end
theorem with_pass {M : Model} {A : Around} {env : Env} {E : Value → Shared → Prop} {l : List Stmt} {Q : Flow → Shared → Prop} {s : Shared} (h : PassesOwn M A env E) (k : ∀ E', PassesOwn M A env E' → wpAny M A (execs l env) Q E' s) : wpAny M A (execs l env) Q E s := k E h
inductive I2 (w : World) (m0 : Str → Option Value) : (Str → Option Value) → List (Addr × Obj) → Prop
  | mk {sp d : Addr} {ps : List PT} {k ck kq nd : Nat} {r : Str} {fine grain left top width height : Int} {tr tf tg t1 t2 t3 t4 : Tok} {o o2 : MO} {cv cv2 : List (Int × Tok)} {f : Int → Int → Int} {W5 : List (Addr × Obj)} {mv : Value}
    (hps : ∀ p ∈ ps, PTb p) (hpl : ps.length = 3 ∨ ps.length = 4) (hr : r = Str.ofString "nonzero" ∨ r = Str.ofString "evenodd") (hFG : FG fine grain) (hl : -1 ≤ left ∧ left ≤ 1) (ht : -1 ≤ top ∧ top ≤ 1) (hw : 0 ≤ width ∧ width ≤ 2) (hh : 0 ≤ height ∧ height ≤ 2)
    (ho : o.left = left ∧ o.top = top ∧ o.width = width ∧ o.height = height ∧ o.fine = fine) (M : MOk o cv) (hcv : ∀ x y, inM o x y → cntAt o cv x y = lcount ps r x y fine grain)
    (ho2 : o2.left = 0 ∧ o2.top = 0 ∧ o2.width = 2 ∧ o2.height = 2 ∧ o2.fine = fine) (M2 : MOk o2 cv2) (hT : HT w W5 d nd f) (hcf : ∀ a b, cntAt o2 cv2 a b = f a b) :
    I2 w m0 (U (U (U (U (U (U (U (U (U (U (U (U (m0) (Str.ofString "spots") (some (.ref sp))) (Str.ofString "fine") (some (.int fine tf))) (Str.ofString "grain") (some (.int grain tg))) (Str.ofString "rule") (some (.str r tr))) (Str.ofString "menu") (some mv)) (Str.ofString "left") (some (.int left t1))) (Str.ofString "top") (some (.int top t2))) (Str.ofString "width") (some (.int width t3))) (Str.ofString "height") (some (.int height t4))) (Str.ofString "mask") (some (.ref o.x))) (Str.ofString "hand") (some (.ref o2.x))) (Str.ofString "counts") (some (.ref d)))
      ((o.x, instObj 259 o.d) :: (o.d, mdic w.params o) :: (o.l, clist cv ck) :: (o2.x, instObj 259 o2.d) :: (o2.d, mdic w.params o2) :: (o2.l, clist cv2 kq) :: (sp, ptup ps k) :: (pled ps ++ W5))
theorem six_list {h₀ h : Heap} {L l a b c d e f : Addr} {x1 y1 x2 y2 x3 y3 x4 y4 x5 y5 x6 y6 : Int} {t1 u1 t2 u2 t3 u3 t4 u4 t5 u5 t6 u6 : Tok} {k : Nat} {r : List (Addr × Obj)}
    (N : News h₀ L h ((l, listOf #[.ref a, .ref b, .ref c, .ref d, .ref e, .ref f] k) :: (f, tupOf [.int x6 t6, .int y6 u6]) :: (e, tupOf [.int x5 t5, .int y5 u5]) :: (d, tupOf [.int x4 t4, .int y4 u4]) :: (c, tupOf [.int x3 t3, .int y3 u3]) :: (b, tupOf [.int x2 t2, .int y2 u2]) :: (a, tupOf [.int x1 t1, .int y1 u1]) :: r)) :
    ∃ qs : List PT, News h₀ L h ((l, listOf (qs.map fun p => Value.ref p.a).toArray k) :: (pled qs ++ r)) := by
  refine ⟨[⟨a, x1, y1, t1, u1⟩, ⟨b, x2, y2, t2, u2⟩, ⟨c, x3, y3, t3, u3⟩, ⟨d, x4, y4, t4, u4⟩, ⟨e, x5, y5, t5, u5⟩, ⟨f, x6, y6, t6, u6⟩], News.subs N (subC (memI 0 rfl) <| subC (memI 6 rfl) <| subC (memI 5 rfl) <| subC (memI 4 rfl) <| subC (memI 3 rfl) <| subC (memI 2 rfl) <| subC (memI 1 rfl) <| fun p hp => .tail _ (.tail _ (.tail _ (.tail _ (.tail _ (.tail _ (.tail _ hp)))))))⟩
theorem sub9 {α : Type} {a b c d e f g x y : α} {P W : List α} : ∀ p ∈ a :: b :: c :: d :: e :: f :: g :: (P ++ W), p ∈ x :: d :: e :: f :: (W ++ a :: b :: c :: y :: g :: P) :=
  have R : ∀ {p : α}, p ∈ a :: b :: c :: y :: g :: P → p ∈ x :: d :: e :: f :: (W ++ a :: b :: c :: y :: g :: P) := fun h => .tail _ (.tail _ (.tail _ (.tail _ (List.mem_append_right _ h))))
  subC (R (.head _)) <| subC (R (memI 1 rfl)) <| subC (R (memI 2 rfl)) <| subC (memI 1 rfl) <| subC (memI 2 rfl) <| subC (memI 3 rfl) <| subC (R (memI 4 rfl)) fun _ hp =>
    (List.mem_append.mp hp).elim (fun h => R (.tail _ (.tail _ (.tail _ (.tail _ (.tail _ h)))))) fun h => .tail _ (.tail _ (.tail _ (.tail _ (List.mem_append_left _ h))))
theorem pled_in {p : PT} {qs : List PT} (h : p ∈ qs) : (p.a, tupOf [.int p.x p.tx, .int p.y p.ty]) ∈ pled qs := List.mem_map.mpr ⟨p, h, rfl⟩
theorem hand_sub {P : Params} {o o2 : MO} {cv cv2 : List (Int × Tok)} {ck kq : Nat} {oc : Obj} {sp : Addr} {r : List (Addr × Obj)} : ∀ p ∈ mled P o2 cv2 kq, p ∈ ((o.x, instObj 259 o.d) :: (o.d, mdic P o) :: (o.l, clist cv ck) :: (o2.x, instObj 259 o2.d) :: (o2.d, mdic P o2) :: (o2.l, clist cv2 kq) :: (sp, oc) :: r) := subC (memI 3 rfl) <| subC (memI 4 rfl) <| subC (memI 5 rfl) <| subN
theorem mask_sub {P : Params} {o : MO} {cv : List (Int × Tok)} {ck : Nat} {r : List (Addr × Obj)} : ∀ p ∈ mled P o cv ck, p ∈ ((o.x, instObj 259 o.d) :: (o.d, mdic P o) :: (o.l, clist cv ck) :: r) := subC (memI 0 rfl) <| subC (memI 1 rfl) <| subC (memI 2 rfl) <| subN
end
section
theorem offLawQ : True := by
  w_top off
  trivial
theorem insL_bd {r : Str} {w : Int} : 0 ≤ insL r w ∧ insL r w ≤ 1 := by
  unfold insL
  split <;> split <;> decide
theorem lcount_bd {ps : List PT} {r : Str} {x y fine grain : Int} (h : FG fine grain) : 0 ≤ lcount ps r x y fine grain ∧ lcount ps r x y fine grain ≤ 4 := by
  unfold lcount
  obtain ⟨g, hg⟩ : ∃ g : Nat → Nat → Int, g = fun (i j : Nat) => cellv ps r (Int.fdiv grain fine) (x * fine + (j : Int)) (y * fine + (i : Int)) := ⟨_, rfl⟩
  have hb : ∀ i j, 0 ≤ g i j ∧ g i j ≤ 1 := fun i j => by rw [hg]; exact insL_bd
  have e : (fun (i : Nat) => sumN (fun (j : Nat) => cellv ps r (Int.fdiv grain fine) (x * fine + (j : Int)) (y * fine + (i : Int))) fine.toNat) = fun (i : Nat) => sumN (g i) fine.toNat := by rw [hg]
  rw [e]
  have hf : fine = 1 ∨ fine = 2 := by rcases h with h | h | h <;> omega
  clear hg e
  rcases hf with rfl | rfl
  · show 0 ≤ sumN (fun i => sumN (g i) 1) 1 ∧ sumN (fun i => sumN (g i) 1) 1 ≤ 4
    simp only [sumN]
    have := hb 0 0
    omega
  · show 0 ≤ sumN (fun i => sumN (g i) 2) 2 ∧ sumN (fun i => sumN (g i) 2) 2 ≤ 4
    simp only [sumN]
    have h1 := hb 0 0
    have h2 := hb 0 1
    have h3 := hb 1 0
    have h4 := hb 1 1
    omega
theorem cv_bd {o : MO} {cv : List (Int × Tok)} (M : MOk o cv) (h : ∀ x y, inM o x y → 0 ≤ cntAt o cv x y ∧ cntAt o cv x y ≤ 100) : ∀ c ∈ cv, 0 ≤ c.1 ∧ c.1 ≤ 100 := fun c hc => by
  obtain ⟨i, hi, rfl⟩ := List.getElem_of_mem hc
  have hl := M.len
  have w0 := M.w0
  have h0 := M.h0
  have hp : 0 < o.width := by
    rcases Int.lt_or_eq_of_le w0 with h | h
    · exact h
    · rw [← h, Int.zero_mul] at hl; omega
  have hii : (i : Int) < o.width * o.height := by rw [← hl]; exact_mod_cast hi
  have m0 : 0 ≤ (i : Int) % o.width := Int.emod_nonneg _ (by omega)
  have m1 : (i : Int) % o.width < o.width := Int.emod_lt_of_pos _ hp
  have d0 : 0 ≤ (i : Int) / o.width := Int.ediv_nonneg (by omega) w0
  have d1 : (i : Int) / o.width < o.height := Int.ediv_lt_of_lt_mul hp (by rw [Int.mul_comm]; exact hii)
  have hin : inM o (o.left + (i : Int) % o.width) (o.top + (i : Int) / o.width) := ⟨⟨by omega, by omega⟩, by omega, by omega⟩
  have hb := h _ _ hin
  unfold cntAt at hb
  rw [if_pos hin] at hb
  have e : ((o.top + (i : Int) / o.width - o.top) * o.width + (o.left + (i : Int) % o.width - o.left)).toNat = i := by
    have : (i : Int) / o.width * o.width + (i : Int) % o.width = i := by rw [Int.mul_comm]; exact Int.mul_ediv_add_emod _ _
    have e2 : (o.top + (i : Int) / o.width - o.top) * o.width + (o.left + (i : Int) % o.width - o.left) = (i : Int) / o.width * o.width + (i : Int) % o.width := by
      rw [show o.top + (i : Int) / o.width - o.top = (i : Int) / o.width by omega]; omega
    rw [e2, this]; exact Int.toNat_natCast i
  rw [e, List.getD_eq_getElem?_getD, List.getElem?_eq_getElem hi] at hb
  exact hb
theorem full_at {o : MO} {v : Int} {t : Tok} (w0 : 0 ≤ o.width) {x y : Int} (h : inM o x y) : cntAt o (List.replicate (o.width * o.height).toNat ((v, t) : Int × Tok)) x y = v := by
  unfold cntAt
  rw [if_pos h]
  have M : 0 ≤ (y - o.top) * o.width + (x - o.left) ∧ (y - o.top) * o.width + (x - o.left) < o.width * o.height := by
    obtain ⟨⟨a, b⟩, c, d⟩ := h
    have h1 : 0 ≤ (y - o.top) * o.width := Int.mul_nonneg c w0
    have h2 : (y - o.top + 1) * o.width ≤ o.height * o.width := Int.mul_le_mul_of_nonneg_right (by omega) w0
    rw [Int.add_mul, Int.one_mul, Int.mul_comm o.height] at h2
    omega
  rw [List.getD_eq_getElem?_getD, List.getElem?_replicate, if_pos (by omega)]
  rfl
theorem alpha_eq {c m : Int} (hm : m = 1 ∨ m = 4) : Int.fdiv (2 * (255 * c) + m) (2 * m) = alphaL c m := by
  unfold alphaL
  rcases hm with rfl | rfl
  · rw [Int.fdiv_eq_ediv_of_nonneg _ (by omega), Int.fdiv_eq_ediv_of_nonneg _ (by omega)]
    split <;> omega
  · rw [Int.fdiv_eq_ediv_of_nonneg _ (by omega), Int.fdiv_eq_ediv_of_nonneg _ (by omega)]
    split <;> omega
theorem share_full {c m : Int} (hm : m = 1 ∨ m = 4) : share (c * m) m = c := by
  unfold share
  rcases hm with rfl | rfl <;> (rw [Int.fdiv_eq_ediv_of_nonneg _ (by omega)]; omega)
theorem out_at {o : MO} {cv : List (Int × Tok)} {x y : Int} (h : ¬ inM o x y) : cntAt o cv x y = 0 := if_neg h
theorem ff_cases {fine : Int} (h : fine = 1 ∨ fine = 2) : fine * fine = 1 ∨ fine * fine = 4 := by rcases h with rfl | rfl <;> decide
theorem ff2_cases {fine : Int} (h : fine = 1 ∨ fine = 2) : 2 * fine * fine = 2 ∨ 2 * fine * fine = 8 := by rcases h with rfl | rfl <;> decide
theorem full_back {P : Params} {h₀ h h' : Heap} {L : Addr} {m : Str → Option Value} {o o' : MO} {cv cv' : List (Int × Tok)} {k k' : Nat} {tl : List (Addr × Obj)} (F : Fr h₀ L h m) (N : News h₀ L h (mled P o cv k ++ tl)) (hn : AllNe o.d tl)
    (hq : o'.x = o.x ∧ o'.d = o.d) (E : Ext [o.d] h h') (e : h'.get? o.d = some (mdic P o')) (fr : h.get? o'.l = none) (el : h'.get? o'.l = some (clist cv' k')) : Fr h₀ L h' m ∧ News h₀ L h' (mled P o' cv' k' ++ tl) := by
  have hx : (o.x, instObj 259 o.d) ∈ mled P o cv k ++ tl := .head _
  have hd : (o.d, mdic P o) ∈ mled P o cv k ++ tl := .tail _ (.head _)
  have n1 : @Ne Nat o.x o.d := ne_cls N hx hd (by simp [mdic])
  have N2 : News h₀ L h ((o.d, mdic P o) :: (o.x, instObj 259 o.d) :: tl) := News.subs N (subC (memI 1 rfl) <| subC (memI 0 rfl) <| fun p hp => .tail _ (.tail _ (.tail _ hp)))
  obtain ⟨F', N'⟩ := upd_back F N2 ⟨n1, hn⟩ E e
  refine ⟨F', fun p hp => ?_⟩
  simp only [mled, List.cons_append, List.nil_append, List.mem_cons] at hp
  rcases hp with rfl | rfl | rfl | hp
  · rw [hq.1, hq.2]; exact N' _ (.tail _ (.head _))
  · dsimp only; rw [hq.2]; exact N' _ (.head _)
  · exact ⟨el, fresh_of F fr⟩
  · exact N' p (.tail _ (.tail _ hp))
theorem mok_of {o o' : MO} {cv cv' : List (Int × Tok)} (M : MOk o cv) (h : o'.left = o.left ∧ o'.top = o.top ∧ o'.width = o.width ∧ o'.height = o.height ∧ o'.fine = o.fine) (hl : cv'.length = cv.length) : MOk o' cv' := by
  obtain ⟨h1, h2, h3, h4, h5⟩ := h
  obtain ⟨a1, a2, a3, a4, a5, a6, a7, a8, a9, a0, a⟩ := M
  exact ⟨by omega, by omega, by omega, by omega, by omega, by omega, by omega, by omega, by omega, by omega, by rw [h3, h4, hl]; exact a⟩
theorem alpha_zero {c m : Int} (hc : c = 0) (hm : m = 1 ∨ m = 4) : Int.fdiv (2 * (255 * c) + m) (2 * m) = 0 := by
  rw [hc, Int.fdiv_eq_ediv_of_nonneg _ (by omega)]
  rcases hm with rfl | rfl <;> rfl
theorem out_left {o : MO} {cv : List (Int × Tok)} {left top : Int} (h : o.left = left) : cntAt o cv (left - 1) top = 0 := out_at fun q => by unfold inM at q; omega
theorem out_right {o : MO} {cv : List (Int × Tok)} {left width top : Int} (h : o.left = left) (h2 : o.width = width) : cntAt o cv (left + width) top = 0 := out_at fun q => by unfold inM at q; omega
theorem out_down {o : MO} {cv : List (Int × Tok)} {left height top : Int} (h : o.top = top) (h2 : o.height = height) : cntAt o cv left (top + height) = 0 := out_at fun q => by unfold inM at q; omega
theorem mok_new {o : MO} {left top width height fine : Int} {t : Tok} (ho : o.left = left ∧ o.top = top ∧ o.width = width ∧ o.height = height ∧ o.fine = fine) (hl : -1 ≤ left ∧ left ≤ 1) (ht : -1 ≤ top ∧ top ≤ 1) (hw : 0 ≤ width ∧ width ≤ 2) (hh : 0 ≤ height ∧ height ≤ 2) (hf : fine = 1 ∨ fine = 2) :
    MOk o (List.replicate (width * height).toNat ((0, t) : Int × Tok)) := by
  obtain ⟨a1, a2, a3, a4, a5⟩ := ho
  refine ⟨by omega, by omega, by omega, by omega, by omega, by omega, by omega, by omega, by omega, by omega, ?_⟩
  rw [a3, a4, List.length_replicate]
  exact Int.toNat_of_nonneg (Int.mul_nonneg hw.1 hh.1)
theorem mok_full {o o' : MO} {cv : List (Int × Tok)} {v : Int} {t : Tok} (M : MOk o cv) (h : o'.x = o.x ∧ o'.d = o.d ∧ o'.left = o.left ∧ o'.top = o.top ∧ o'.width = o.width ∧ o'.height = o.height ∧ o'.fine = o.fine) : MOk o' (List.replicate (o.width * o.height).toNat ((v, t) : Int × Tok)) :=
  mok_of M h.2.2 (by have := M.len; rw [List.length_replicate]; omega)
theorem in_of {o : MO} {left top width height fine : Int} (ho : o.left = left ∧ o.top = top ∧ o.width = width ∧ o.height = height ∧ o.fine = fine) {i j : Nat} (hi : i < height.toNat) (hj : j < width.toNat) : inM o (left + (j : Int)) (top + (i : Int)) := by
  obtain ⟨a1, a2, a3, a4, _⟩ := ho
  unfold inM; omega
theorem in_congr {o o' : MO} {x y : Int} (h1 : o'.left = o.left) (h2 : o'.top = o.top) (h3 : o'.width = o.width) (h4 : o'.height = o.height) (h : inM o x y) : inM o' x y := by
  unfold inM at h ⊢; rw [h1, h2, h3, h4]; exact h
theorem fg_hfi {f g : Int} (h : FG f g) : f = 1 ∨ f = 2 := by rcases h with h | h | h <;> omega
theorem lc_100 {ps : List PT} {r : Str} {x y f g c : Int} (h : FG f g) (e : c = lcount ps r x y f g) : 0 ≤ c ∧ c ≤ 100 := by
  have := @lcount_bd ps r x y f g h
  omega
theorem at_bd {left width : Int} (hl : -1 ≤ left ∧ left ≤ 1) (hw : 0 ≤ width ∧ width ≤ 2) {j : Nat} (hj : j < width.toNat) : -20 ≤ left + (j : Int) ∧ left + (j : Int) ≤ 20 := by omega
theorem sz_eq {top height : Int} (hh : 0 ≤ height) : Builtin.Range.rangeSize top (top + height) 1 = ((height.toNat : Nat) : Int) := by
  rw [show height.toNat = (top + height - top).toNat by omega]
  exact rangeSize_nat top (top + height)
theorem small_at {left width : Int} (hl : -1 ≤ left ∧ left ≤ 1) (hw : 0 ≤ width ∧ width ≤ 2) : Builtin.Range.small left (left + width) 1 = true := small_one (by omega) (by omega) (by omega) (by omega)
theorem m1_bd {left : Int} (hl : -1 ≤ left ∧ left ≤ 1) : -2 ≤ left ∧ left ≤ 2 := by omega
theorem c_bd {c : Int} (h : 0 ≤ c ∧ c ≤ 4) : -1000 ≤ c ∧ c ≤ 1000 := by omega
end
section
theorem offLaw : True := by
  w_top off
  trivial
local macro_rules | `(tactic| k_ne) => `(tactic| ((repeat (rename (_ ∧ _) ∧ _ => hz; clear hz)); (repeat (rename @Ne Nat _ _ => hz; clear hz)); (repeat (rename @Ne Nat _ _ ∧ _ => hz; clear hz)); refine neN ?_; (try dsimp only); omega))
local macro_rules | `(tactic| walk_at "pk") => `(tactic| with_reducible ((repeat (rename _ ∧ _ => hz; first | ((repeat first | exact hz | exact hz.1 | exact hz.1.1 | exact hz.1.2 | exact hz.1.2.1 | exact hz.1.2.2 | exact hz.2 | replace hz := hz.2); all_goals fail) | clear hz)); all_goals fail))
local macro_rules | `(tactic| k_ne) => `(tactic| (refine neN ?_; (try dsimp only); first | with_reducible assumption | (refine Ne.symm ?_; with_reducible assumption) | (refine Nat.ne_of_lt ?_; walk_at "pk") | (refine Nat.ne_of_gt ?_; walk_at "pk") | walk_at "pk" | (refine Ne.symm ?_; walk_at "pk") | fail))
local macro_rules | `(tactic| walk_at "exec For") => `(tactic| (k_here; k_dflt (refine' For_turns ?F ?_ ?S ?E; (case F => k_asm); (case E => with_reducible assumption); (case S => intro _; rfl)); k_whole))
local macro_rules | `(tactic| walk_at "exec For Tuple List cons nil") => `(tactic| walk_at "exec For")
local macro_rules | `(tactic| walk_at "eval ListComp") => `(tactic| (k_here; k_dflt refine LCg.ListComp_U (F₀ := by k_asm) (by with_unfolding_all rfl) (by decide) (by rfl) (by decide) (by rfl) ?_))
local macro_rules | `(tactic| walk_at "CompSrc") => `(tactic| (k_here; k_dflt refine LCg.CompSrc.range (by rfl) (by k_asm) (by k_asm) (by assumption) (by first | decide | rfl) (by first | rfl | decide) (by first | size_fits | exact Nat.le_of_ble_eq_true rfl) ?_; intro _; lcg_lit))
local macro_rules | `(tactic| walk_at "execs cons Assign cons") => `(tactic| with_reducible refine hold_spots ?_)
local macro_rules | `(tactic| walk_at "CompEnd") => `(tactic| ((repeat (rename (@Ne Nat _ _ ∧ _) ∧ _ => hz; obtain ⟨⟨_, _, _⟩, hz2⟩ := hz)); (try (rename @Ne Nat _ _ ∧ @Ne Nat _ _ ∧ @Ne Nat _ _ => hz; obtain ⟨_, _, _⟩ := hz)); lcg_end))
theorem lawA : PySem.Challenge.rw_nu0019_01.Holds := by
  w_on
  refine holds_law saidX fun said => ?_
  refine holds_open (q := viewX) (loose := [Str.ofString "sides_of"]) (Xt := fun s => xlAt viewX [] s && recOk (RowW.records rwW) s) (XP := XL viewX []) (Yf := Hook.obs HK) (Ya := Hook.val HK) (YP := Hook.says HK) (N := 4288) leftW (Hook.of HK) (Hook.keeps HK) (fun s e => xl_of s (Bool.and_eq_true_iff.mp e).1) XL.keeps (by rfl) (by rfl) (by rfl) (fun s e => recFacts_of (Bool.and_eq_true_iff.mp e).2) (by rfl) (by first | assumption | decide +kernel) (by decide +kernel) ⟨rfl, rfl, rfl, rfl, rfl, by decide +kernel⟩ ?hw ?hc
  case hw => w_witness2
  clear said
  w_strict (
    ((intro w s₀ s₁ mg mb G Y fa o pm cd doc dV kV ho hd hcd hD hmg hg args vals as hpre hlay hrd hwl hlo; have KX := kIn_of Y; clear Y; have X := (Ground.X G).1; have V := (Ground.X G).2; (try w_nolog (have GL := glob_more (Ground.glob G (by decide +kernel) (by decide +kernel)) V)); refine Ground.open G ?_; intro T B D TE TW; (try (refine guard_noD D (by decide +kernel) ?_; clear D)); obtain ⟨_, _, M⟩ := bmod_of_top T; have TA := at_of_top T; (try (obtain ⟨_, _, he, B0⟩ := based_of_top T rfl hmg ho hd; have he' : cd = _ := he; subst he'; clear he)); clear hmg; wrow_args hpre hlay hrd hwl hlo; all_goals ((first | refine callC_kw (enter_call ?_) | refine enter_call ?_ | refine callC_kw (enter_callW ?_) | refine enter_callW ?_ | w_how); w_top on; (try refine codeAny_mono ?_ (fun _ _ g => GoodW.toG g)); have K0 := below_caller (Top.heap T); w_call any ho hd hcd hD T F; clear hd TA; k_drop; skip)))
    all_goals try k_fold
    ((repeat' (first | ((with_reducible show wpAny _ _ (call (Value.ref 277) _) _ _ _); k_dflt (refine' c_pool (Cal.mk (by k_asm) (by k_asm) (by k_asm) (by k_asm) (by exact rfl) (by ktr_room) (by ktr_units) (fun _ q => nomatch q)) (Heap.IsList.at (by assumption) (fun o e => Fr.keep (by k_asm) _ o e)) (by assumption) (by assumption) ?_); (rename Fr _ _ _ _ => lF'); (rename News _ _ _ _ => lN'); intro a' x' tx' y' ty' n' h' tk' hx0' hy0' hy1' fr' E' G'; (obtain ⟨F', N', ne'⟩ := new_back lF' lN' E' G' fr'); clear lF' lN' E' G' fr'; simp only [AllNe, and_true] at ne'; (repeat (obtain ⟨nx', ne'⟩ := ne')); (try dsimp only)) | (k_unfold; (try dsimp only)) | walk1 | (dsimp only; walk1) | (leave1; (try dsimp only)))))
    rename Fr _ _ _ _ => F1
    rename News _ _ _ _ => N1
    refine unhold (with_pass ?pas (fun ekl hek => ?_))
    case pas =>
      dsimp only [ek]
      exact PassesOwn.leaving
    clear ek
    obtain ⟨m0, F2⟩ := fr_gen F1
    obtain ⟨cl, hcl⟩ := fst_of (News.subs N1 fun p hp => .tail _ hp)
    clear F1
    refine (cutN 1 F2 (fun m W => ∃ sp src x tx y ty n oc ps k, m = ((U m0 (Str.ofString "spots") (some (.ref sp)))) ∧ W = (src, listOf [.int x tx, .int y ty].toArray n) :: (cl, oc) :: (sp, ptup ps k) :: pled ps ∧
      oc.data = .cell (some (.ref src)) ∧ @Ne Nat cl src ∧ 0 ≤ x ∧ 0 ≤ y ∧ y < 2147483647 ∧ (∀ p ∈ ps, PTb p) ∧ (ps.length = 3 ∨ ps.length = 4)) ?c1 ?c2)
    case c1 =>
      intro PC
      dsimp only [List.take]

      ((repeat' (first | ((with_reducible show wpAny _ _ (call (Value.ref 284) [Value.ref _, Value.int 2 _]) _ _ _); k_dflt (refine' c_take (Cal.mk (by k_asm) (by k_asm) (by k_asm) (by k_asm) (by exact rfl) (by ktr_room) (by ktr_units) (hX1 (by k_asm) (by k_mem))) (get_in (by k_asm) (by k_mem)) (by assumption) (by assumption) (by assumption) (by first | decide | omega) (by first | decide | omega) ?_); (rename Fr _ _ _ _ => lF'); (rename News _ _ _ _ => lN'); intro r' t' x' tx' y' ty' n' h' tk' hx0' hy0' hy1' hr0' hr1' E' G'; (obtain ⟨F', N'⟩ := call_back lF' lN' (by k_upd) E' G'); clear lF' lN' E' G'; (have hr2' : r' = 0 ∨ r' = 1 := by omega); (rcases hr2' with hr3' | hr3' <;> subst hr3'); (all_goals (try dsimp only))) | ((with_reducible show wpAny _ _ (call (Value.ref 284) [Value.ref _, Value.int _ _]) _ _ _); k_dflt (refine' c_take (Cal.mk (by k_asm) (by k_asm) (by k_asm) (by k_asm) (by exact rfl) (by ktr_room) (by ktr_units) (hX1 (by k_asm) (by k_mem))) (get_in (by k_asm) (by k_mem)) (by assumption) (by assumption) (by assumption) (by first | decide | omega) (by first | decide | omega) ?_); (rename Fr _ _ _ _ => lF'); (rename News _ _ _ _ => lN'); intro r' t' x' tx' y' ty' n' h' tk' hx0' hy0' hy1' hr0' hr1' E' G'; (obtain ⟨F', N'⟩ := call_back lF' lN' (by k_upd) E' G'); clear lF' lN' E' G'; (try dsimp only)) | (k_unfold; (try dsimp only)) | walk1 | (dsimp only; walk1) | (leave1; (try dsimp only)))))
      · rename Fr _ _ _ _ => F3
        rename News _ _ _ _ => N3
        obtain ⟨ps, k, hps, hpl, N4⟩ := spots3 N3 (by assumption) (by assumption) (by assumption) (by assumption) (by assumption) (by assumption) (by assumption) (by assumption) (by assumption) (by assumption) (by assumption) (by assumption)
        refine CutPost.intro F3 N4 ⟨_, _, _, _, _, _, _, _, _, _, rfl, by rw [hcl], by assumption, by rw [hcl]; assumption, by assumption, by assumption, by assumption, hps, hpl⟩
      · rename Fr _ _ _ _ => F3
        rename News _ _ _ _ => N3
        obtain ⟨ps, k, hps, hpl, N4⟩ := spots4 N3 (by assumption) (by assumption) (by assumption) (by assumption) (by assumption) (by assumption) (by assumption) (by assumption) (by assumption) (by assumption) (by assumption) (by assumption) (by assumption) (by assumption) (by assumption) (by assumption)
        refine CutPost.intro F3 N4 ⟨_, _, _, _, _, _, _, _, _, _, rfl, by rw [hcl], by assumption, by rw [hcl]; assumption, by assumption, by assumption, by assumption, hps, hpl⟩
    case c2 =>
      dsimp only [List.drop]
      intro h₃ tk₃ m₃ W₃ hR9 F₃ N₃
      refine lock ?_
      intro GG9
      rcases hR9 with ⟨sp, src, x, tx, y, ty, n, oc, ps, k, rfl, rfl, hoc, hcs, hx0, hy0, hy1, hps, hpl⟩
      first | k_unfold | dsimp only [GG9]
      rw [hcl] at N₃
      clear F2 N1
      rename World => wv
      refine (cutN 6 F₃ (I2 wv m0) ?c3 ?c4)
      case c3 =>
        intro PC
        dsimp only [List.take]
        ((repeat' (first | (k_unfold; (try dsimp only)) | walk1 | (dsimp only; walk1) | (leave1; (try dsimp only)))))
        rename Fr _ _ _ _ => Fa1
        rename News _ _ _ _ => Na1
        refine lock ?_
        intro GG9
        obtain ⟨ls, hls⟩ := fst_of Na1
        subst hls
        first | k_unfold | dsimp only [GG9]
        rename _ < ls ∧ _ => la1
        have hsl1 : @Ne Nat src ls := by
          obtain ⟨_, _, _, h, _⟩ := la1
          exact Nat.ne_of_lt h
        have hm1 := one_news Na1 (.tail _ (.tail _ (.tail _ (.head _))))
        k_dflt (refine' unhold (c_one (CalN.mk ?B1 Fa1 ?K1 ?T1 ?hk1 ?hd1 ?hu1 hm1) hsl1 hx0 hy0 hy1 (by simp) (by simp) ?_))
        case B1 => k_asm
        case K1 => k_asm
        case T1 => k_asm
        case hk1 => exact rfl
        case hd1 => ktr_room
        case hu1 => ktr_units
        intro v1 x1 tx1 y1 ty1 n1 h1 tk1 hv1 a1 b1 c1 E1 G1
        refine lock ?_
        intro GG9
        obtain ⟨tp, fine, grain, tf, tg, rfl, hFG, Nb1⟩ := pickFG Na1 hv1
        have ht1 : AllNe src ((tp, tupOf [.int fine tf, .int grain tg]) :: (cl, oc) :: (sp, ptup ps k) :: pled ps) := src_ne Nb1 (.tail _ (.head _)) (subC ⟨.head _, .inl rfl⟩ <| subC ⟨by rw [hcl]; exact memI 2 rfl, .inr rfl⟩ <| subC ⟨memI 3 rfl, .inl rfl⟩ fun p hp => ⟨.tail _ (.tail _ (.tail _ (.tail _ hp))), .inl (pled_cls p hp)⟩) hcs
        rw [hcl] at ht1
        obtain ⟨Fc1, Nc1⟩ := upd_back Fa1 (News.subs (a := (src, _) :: (tp, _) :: (_, oc) :: (sp, ptup ps k) :: pled ps) Nb1 (subC (memI 1 rfl) <| subC (.head _) fun p hp => .tail _ (.tail _ hp))) ht1 E1 G1
        clear Fa1 Na1 Nb1 E1 G1 hm1 la1 hv1 hsl1
        first | k_unfold | dsimp only [GG9]
        (try dsimp only)
        ((repeat' (first | (k_unfold; (try dsimp only)) | walk1 | (dsimp only; walk1) | (leave1; (try dsimp only)))))
        rename Fr _ _ _ _ => Fa2
        rename News _ _ _ _ => Na2
        refine lock ?_
        intro GG9
        obtain ⟨ls2, hls2⟩ := fst_of Na2
        subst hls2
        first | k_unfold | dsimp only [GG9]
        rename src < ls2 ∧ _ => la2
        have hsl2 : @Ne Nat src ls2 := Nat.ne_of_lt la2.1
        have hm2 := one_news Na2 (.head _)
        k_dflt (refine' unhold (c_one (CalN.mk ?B2 Fa2 ?K2 ?T2 ?hk2 ?hd2 ?hu2 hm2) hsl2 a1 b1 c1 (by simp) (by simp) ?_))
        case B2 => k_asm
        case K2 => k_asm
        case T2 => k_asm
        case hk2 => exact rfl
        case hd2 => ktr_room
        case hu2 => ktr_units
        intro v2 x2 tx2 y2 ty2 n2 h2 tk2 hv2 a2 b2 c2 E2 G2
        refine lock ?_
        intro GG9
        obtain ⟨r, tr, rfl, hr⟩ := pickR hv2
        obtain ⟨Fc2, Nc2⟩ := upd_back Fa2 (News.subs Na2 fun p hp => .tail _ hp) ht1 E2 G2
        clear Fa2 Na2 E2 G2 hm2 la2 hv2 hsl2
        first | k_unfold | dsimp only [GG9]
        (try dsimp only)
        ((repeat' (first | (k_unfold; (try dsimp only)) | walk1 | (dsimp only; walk1) | (leave1; (try dsimp only)))))
        rename Fr _ _ _ _ => Fa3
        rename News _ _ _ _ => Na3
        refine lock ?_
        intro GG9
        obtain ⟨ls3, hls3⟩ := fst_of Na3
        subst hls3
        first | k_unfold | dsimp only [GG9]
        rename _ < ls3 ∧ _ => la3
        have hsl3 : @Ne Nat src ls3 := by
          obtain ⟨_, _, _, _, _, h, _⟩ := la3
          exact Nat.ne_of_lt h
        have hm3 := one_news Na3 (.tail _ (.tail _ (.tail _ (.tail _ (.tail _ (.head _))))))
        k_dflt (refine' unhold (c_one (CalN.mk ?B3 Fa3 ?K3 ?T3 ?hk3 ?hd3 ?hu3 hm3) hsl3 a2 b2 c2 (by simp) (by simp) ?_))
        case B3 => k_asm
        case K3 => k_asm
        case T3 => k_asm
        case hk3 => exact rfl
        case hd3 => ktr_room
        case hu3 => ktr_units
        intro v3 x3 tx3 y3 ty3 n3 h3 tk3 hv3 a3 b3 c3 E3 G3
        refine lock ?_
        intro GG9
        obtain ⟨tp3, left, top, width, height, t1, t2, t3, t4, rfl, hl, ht, hw, hh, Nb3⟩ := pickM Na3 hv3
        have ht3 : AllNe src ((tp3, tupOf [.int left t1, .int top t2, .int width t3, .int height t4]) :: (cl, oc) :: (sp, ptup ps k) :: pled ps) := src_ne Nb3 (.tail _ (.head _)) (subC ⟨.head _, .inl rfl⟩ <| subC ⟨by rw [hcl]; exact memI 3 rfl, .inr rfl⟩ <| subC ⟨memI 4 rfl, .inl rfl⟩ fun p hp => ⟨.tail _ (.tail _ (.tail _ (.tail _ (.tail _ hp)))), .inl (pled_cls p hp)⟩) hcs
        rw [hcl] at ht3
        obtain ⟨Fc3, Nc3⟩ := upd_back Fa3 (News.subs (a := (src, _) :: (tp3, _) :: (_, oc) :: (sp, ptup ps k) :: pled ps) Nb3 (subC (memI 1 rfl) <| subC (.head _) fun p hp => .tail _ (.tail _ (.tail _ hp)))) ht3 E3 G3
        clear Fa3 Na3 Nb3 E3 G3 hm3 la3 hv3 hsl3 ht1
        first | k_unfold | dsimp only [GG9]
        (try dsimp only)
        ((repeat' (first | (k_unfold; (try dsimp only)) | walk1 | (dsimp only; walk1) | (leave1; (try dsimp only)))))
        rename Fr _ _ _ _ => Fa4
        rename News _ _ _ _ => Na4
        refine lock ?_
        intro GG9
        obtain ⟨cq, hcq⟩ := fst_of Na4
        subst hcq
        first | k_unfold | dsimp only [GG9]
        rename _ < cq ∧ _ => la4
        have hm4 := mo_news (ps := ps) (k := k) Na4 (fun p hp => .tail _ (.tail _ (.tail _ hp)))
        k_dflt (refine' unhold (c_maskof (CalN.mk ?B4 Fa4 ?K4 ?T4 ?hk4 ?hd4 ?hu4 hm4) hps hpl hr hFG (m1_bd hl) (m1_bd ht) hw hh ?_))
        case B4 => k_asm
        case K4 => k_asm
        case T4 => k_asm
        case hk4 => exact rfl
        case hd4 => ktr_room
        case hu4 => ktr_units
        intro o cv ck h4 tk4 ho M hcv E4 A4
        refine lock ?_
        intro GG9
        obtain ⟨Fc4, Nc4, ne4⟩ := news_many Fa4 Na4 E4 A4
        obtain ⟨Nd4, ht4⟩ := mo_back Nc4 ne4 ht3
        clear Fa4 Na4 E4 A4 hm4 la4 Nc4 ne4 ht3
        unfold mled at Nd4 ht4
        simp only [List.cons_append, List.nil_append] at Nd4 ht4
        first | k_unfold | dsimp only [GG9]
        (try dsimp only)
        ((repeat' (first | (k_unfold; (try dsimp only)) | walk1 | (dsimp only; walk1) | (leave1; (try dsimp only)))))
        rename Fr _ _ _ _ => Fa5
        rename News _ _ _ _ => Na5
        have hfi : fine = 1 ∨ fine = 2 := fg_hfi hFG
        have hm5 := src_news Na5
        k_dflt (refine' unhold (c_hand (CalN.mk ?B5 Fa5 ?K5 ?T5 ?hk5 ?hd5 ?hu5 hm5) hfi a3 b3 c3 ?_))
        case B5 => k_asm
        case K5 => k_asm
        case T5 => k_asm
        case hk5 => exact rfl
        case hd5 => ktr_room
        case hu5 => ktr_units
        intro D o2 cv2 kq d kd nd f W5 x5 tx5 y5 ty5 n5 h5 tk5 _ _ _ E5 G5 ho2 M2 hT hcf A5
        refine lock ?_
        intro GG9
        obtain ⟨Fc5, Nc5, ne5⟩ := many_upd Fa5 Na5 ht4 E5 G5 A5
        clear Fa5 Na5 E5 A5 hm5 ht4 G5 ne5
        unfold mled at Nc5
        simp only [List.cons_append, List.nil_append, List.append_assoc] at Nc5
        first | k_unfold | dsimp only [GG9]
        (try dsimp only)
        ((repeat' (first | (k_unfold; (try dsimp only)) | walk1 | (dsimp only; walk1) | (leave1; (try dsimp only)))))
        rename Fr _ _ _ _ => Fz
        rename News _ _ _ _ => Nz
        refine CutPost.intro Fz (News.subs Nz sub9) (I2.mk (k := k) (ck := ck) (kq := kq) hps hpl hr hFG hl ht hw hh ho M hcv ho2 M2 hT hcf)
      case c4 =>
        dsimp only [List.drop]
        clear F₃ N₃ hoc hcs hx0 hy0 hy1 hps hpl
        (rename Heap.CodeRec _ _ _ => qx; clear qx)
        (rename Dflts _ _ _ _ _ _ => qx; clear qx)
        (rename CellsAre _ _ _ => qx; clear qx)
        rintro h₆ tk₆ m₆ W₆ HI F₆ N₆
        refine lock ?_
        intro GG9
        cases HI with | @mk sp d ps k ck kq nd r fine grain left top width height tr tf tg t1 t2 t3 t4 o o2 cv cv2 f W5 mv hps hpl hr hFG hl ht hw hh ho M hcv ho2 M2 hT hcf =>
        first | k_unfold | dsimp only [GG9]
        refine' fr_let ?frx ?_
        case frx => exact F₆
        clear F₆
        intro m6 F₆
        ((repeat' (first | (k_unfold; (try dsimp only)) | walk1 | (dsimp only; walk1) | (leave1; (try dsimp only)))))
        rename Fr _ _ _ _ => F7
        rename News _ _ _ _ => N7
        refine unhold ?_
        refine lock ?_
        intro GG9
        obtain ⟨pl, hpl7⟩ := fst_of N7
        subst hpl7
        first | k_unfold | dsimp only [GG9]
        obtain ⟨led, hled⟩ : ∃ led, led = ((o.x, instObj 259 o.d) :: (o.d, mdic wv.params o) :: (o.l, clist cv ck) :: (o2.x, instObj 259 o2.d) :: (o2.d, mdic wv.params o2) :: (o2.l, clist cv2 kq) :: (sp, ptup ps k) :: (pled ps ++ W5)) := ⟨_, rfl⟩
        rw [← hled] at N7
        obtain ⟨qs, N8⟩ := six_list N7
        clear N7
        refine my_list (m := ?m) ((pl, listOf (qs.map fun p => Value.ref p.a).toArray 0) :: (pled qs ++ led)) [] [] (fun i m W => (∃ u1 u2, m = (U (U ?m (Str.ofString "x") u2) (Str.ofString "y") u1)) ∧ W = []) rfl ?F ?N (.head _) ?h0 ?hds ?noit ?turn ?done
        case F => exact F7
        case N => exact N8
        case h0 =>
          refine ⟨⟨?u1, ?u2, ?mp⟩, rfl⟩
          case mp => ((refine extU2 ?hoffx74 ?e1x74 ?e2x74; (case e1x74 => rfl); (case e2x74 => rfl); (case hoffx74 => (repeat' (first | with_reducible exact Off.same | with_reducible exact List.Mem.head _ | with_reducible refine List.Mem.tail _ ?_ | with_reducible refine Off.l ?_ ?_)))))
        case hds => exact fun _ h => nomatch h
        case noit =>
          rintro i m W ⟨_, rfl⟩ p hp
          cases hp
        case turn =>
          intro SS hSS i v m₁ W1 h₁ tk₁ tl hi hv hR9 hsl htl F₂ N₂ PL
          refine lock ?_
          intro GG9
          rcases hR9 with ⟨⟨u1, u2, rfl⟩, rfl⟩
          first | k_unfold | dsimp only [GG9]
          obtain ⟨q, hq, rfl⟩ := item_map hv
          have hqm := hsl _ (.tail _ (List.mem_append_left _ (pled_in (List.mem_of_getElem? hq))))
          simp only [List.nil_append] at N₂
          have g1 : ∀ p ∈ led, p ∈ tl := fun p hp => hsl p (.tail _ (List.mem_append_right _ hp))
          have z1 : (o2.x, instObj 259 o2.d) ∈ tl := g1 _ (by rw [hled]; exact .tail _ (.tail _ (.tail _ (.head _))))
          have z2 : (o2.d, mdic wv.params o2) ∈ tl := g1 _ (by rw [hled]; exact .tail _ (.tail _ (.tail _ (.tail _ (.head _)))))
          unfold mdic at z2
          clear hv hi F7 N8
          ((repeat' (first | (k_unfold; (try dsimp only)) | walk1 | (dsimp only; walk1) | (leave1; (try dsimp only)))))
          rename Fr _ _ _ _ => Fa1
          rename News _ _ _ _ => Na1
          k_dflt (refine' unhold (c_count (o := o2) (cv := cv2) (k := kq) (CalN.mk ?B1 Fa1 ?K1 ?T1 ?hk1 ?hd1 ?hu1 (News.subs Na1 fun p hp => ?sb1)) M2 ?_))
          case B1 => k_asm
          case K1 => k_asm
          case T1 => k_asm
          case hk1 => exact rfl
          case hd1 => ktr_room
          case hu1 => ktr_units
          case sb1 => exact g1 p (by rw [hled]; exact hand_sub p hp)
          intro c1 ct1 h1 tk1 hc1 E1
          refine lock ?_
          intro GG9
          rw [hcf] at hc1
          subst hc1
          have Fb1 := Ext.fr0 E1 Fa1
          have Nb1 := Ext.news0 E1 Na1
          clear Fa1 Na1 E1
          first | k_unfold | dsimp only [GG9]
          (try dsimp only)
          ((repeat' (first | (k_unfold; (try dsimp only)) | walk1 | (dsimp only; walk1) | (leave1; (try dsimp only)))))
          refine unhold (HT.meth Nb1 (hT.subs fun p hp => g1 p (by rw [hled]; exact .tail _ (.tail _ (.tail _ (.tail _ (.tail _ (.tail _ (.tail _ (List.mem_append_right _ hp))))))))) ?_)
          ((repeat' (first | (k_unfold; (try dsimp only)) | walk1 | (dsimp only; walk1) | (leave1; (try dsimp only)))))
          rename News _ _ _ _ => Na2
          refine unhold (HT.get (x := q.x) (y := q.y) (by ktr_units) Na2 (hT.subs fun p hp => .tail _ (g1 p (by rw [hled]; exact .tail _ (.tail _ (.tail _ (.tail _ (.tail _ (.tail _ (.tail _ (List.mem_append_right _ hp))))))))) ) (.head _) fun t5 => ?_)
          (try dsimp only)
          ((repeat' (first | (k_unfold; (try dsimp only)) | walk1 | (dsimp only; walk1) | (leave1; (try dsimp only)))))
          · exact absurd rfl (by assumption)
          · rename Fr _ _ _ _ => Fa3
            rename News _ _ _ _ => Na3
            refine keep_post (W := []) Fa3 Na3 (fun p hp => .tail _ hp) (hSS _ _ _ ⟨⟨?va1, ?va2, ?vamp⟩, rfl⟩)
            case vamp => ((refine extU2 ?hoffx75 ?e1x75 ?e2x75; (case e1x75 => rfl); (case e2x75 => rfl); (case hoffx75 => (repeat' (first | with_reducible exact Off.same | with_reducible exact List.Mem.head _ | with_reducible refine List.Mem.tail _ ?_ | with_reducible refine Off.l ?_ ?_)))))
        case done =>
          intro h₂ tk₂ m₂ W₂ hR9 F₂ N₂
          refine lock ?_
          intro GG9
          rcases hR9 with ⟨⟨u1, u2, rfl⟩, rfl⟩
          first | k_unfold | dsimp only [GG9]
          simp only [List.nil_append] at N₂
          clear F7 N8
          have N₃ := News.subs (a := led) N₂ fun p hp => .tail _ (List.mem_append_right _ hp)
          clear N₂
          have z1 : (o.x, instObj 259 o.d) ∈ led := by rw [hled]; exact .head _
          have z2 : (o.d, mdic wv.params o) ∈ led := by rw [hled]; exact .tail _ (.head _)
          unfold mdic at z2
          ((repeat' (first | (k_unfold; (try dsimp only)) | walk1 | (dsimp only; walk1) | (leave1; (try dsimp only)))))
          rename Fr _ _ _ _ => Fa4
          rename News _ _ _ _ => Na4
          have hfi : fine = 1 ∨ fine = 2 := fg_hfi hFG
          have hcb : ∀ c ∈ cv, 0 ≤ c.1 ∧ c.1 ≤ 100 := cv_bd M fun x y h => lc_100 hFG (hcv x y h)
          have hof : o.fine = fine := ho.2.2.2.2
          have ho2f : o2.fine = fine := ho2.2.2.2.2
          k_dflt (refine' unhold (c_mult (o1 := o) (o2 := o2) (cv1 := cv) (cv2 := cv2) (k1 := ck) (k2 := kq) (CalN.mk ?B4 Fa4 ?K4 ?T4 ?hk4 ?hd4 ?hu4 (News.subs Na4 fun p hp => ?sb4)) M M2 (by rw [hof]; exact hfi) (ho2f.trans hof.symm) hcb ?_))
          case B4 => k_asm
          case K4 => k_asm
          case T4 => k_asm
          case hk4 => exact rfl
          case hd4 => ktr_room
          case hu4 => ktr_units
          case sb4 =>
            rw [hled]
            rcases List.mem_append.mp hp with hp | hp
            · exact mask_sub p hp
            · exact hand_sub p hp
          intro o3 cv3 k3 h8 tk8 ho3 hlen3 hs3 E4 A4
          refine lock ?_
          intro GG9
          obtain ⟨Fb4, Nb4, ne4⟩ := news_many Fa4 Na4 E4 A4
          clear Fa4 Na4 E4 A4 ne4
          obtain ⟨led3, hled3⟩ : ∃ l, l = mled wv.params o3 cv3 k3 ++ led := ⟨_, rfl⟩
          rw [← hled3] at Nb4
          have z3 := List.mem_append_right (mled wv.params o3 cv3 k3) z1
          have z4 := List.mem_append_right (mled wv.params o3 cv3 k3) z2
          rw [← hled3] at z3 z4
          clear z1 z2
          first | k_unfold | dsimp only [GG9]
          (try dsimp only)
          ((repeat' (first | (k_unfold; (try dsimp only)) | walk1 | (dsimp only; walk1) | (leave1; (try dsimp only)))))
          rename Fr _ _ _ _ => Fa5
          rename News _ _ _ _ => Na5
          k_dflt (refine' unhold (c_mask (CalN.mk ?B5 Fa5 ?K5 ?T5 ?hk5 ?hd5 ?hu5 (nil_of Fa5)) ⟨hw.1, Int.le_trans hw.2 (by decide)⟩ ⟨hh.1, Int.le_trans hh.2 (by decide)⟩ (by rcases hfi with h | h <;> rw [h] <;> decide) ?_))
          case B5 => k_asm
          case K5 => k_asm
          case T5 => k_asm
          case hk5 => exact rfl
          case hd5 => ktr_room
          case hu5 => ktr_units
          intro o4 t04 k4 h9 tk9 ho4 E5 A5
          refine lock ?_
          intro GG9
          obtain ⟨Fb5, Nb5, ne5⟩ := news_many Fa5 Na5 E5 A5
          have nd4 := ne5 _ (.tail _ (.head _))
          have M4 : MOk o4 (List.replicate (width * height).toNat ((0, t04) : Int × Tok)) := mok_new ho4 hl ht hw hh hfi
          clear Fa5 Na5 E5 A5 ne5
          obtain ⟨led4, hled4⟩ : ∃ l, l = mled wv.params o4 (List.replicate (width * height).toNat ((0, t04) : Int × Tok)) k4 ++ led3 := ⟨_, rfl⟩
          rw [← hled4] at Nb5
          have z5 : (o4.x, instObj 259 o4.d) ∈ led4 := by rw [hled4]; exact .head _
          have z6 : (o4.d, mdic wv.params o4) ∈ led4 := by rw [hled4]; exact .tail _ (.head _)
          have z6' := z6
          unfold mdic at z6'
          clear z3 z4
          first | k_unfold | dsimp only [GG9]
          (try dsimp only)
          ((repeat' (first | (k_unfold; (try dsimp only)) | walk1 | (dsimp only; walk1) | (leave1; (try dsimp only)))))
          rename Fr _ _ _ _ => Fa6
          rename News _ _ _ _ => Na6
          clear z6'
          have z7 : (o4.l, clist (List.replicate (width * height).toNat ((0, t04) : Int × Tok)) k4) ∈ led4 := by rw [hled4]; exact .tail _ (.tail _ (.head _))
          k_dflt (refine' unhold (c_full (o := o4) (cv := List.replicate (width * height).toNat ((0, t04) : Int × Tok)) (k := k4) (CalN.mk ?B6 Fa6 ?K6 ?T6 ?hk6 ?hd6 ?hu6 (News.subs Na6 (mled_sub z5 z6 z7))) M4 (ne_cls Na6 z5 z7 (by simp)) (ne_cls Na6 z6 z7 (by simp [mdic])) (ne_cls Na6 z5 z6 (by simp [mdic])) ?_))
          case B6 => k_asm
          case K6 => k_asm
          case T6 => k_asm
          case hk6 => exact rfl
          case hd6 => ktr_room
          case hu6 => ktr_units
          intro o5 t5 k5 h10 tk10 ho5 E6 fr6 G6 G6' G6''
          rw [hled4] at Na6
          obtain ⟨Fb6, Nb6⟩ := full_back Fa6 Na6 nd4 ⟨ho5.1, ho5.2.1⟩ E6 G6' fr6 G6''
          clear Fa6 Na6 z5 z6 z7
          obtain ⟨led5, hled5⟩ : ∃ l, l = mled wv.params o5 (List.replicate (o4.width * o4.height).toNat ((o4.fine * o4.fine, t5) : Int × Tok)) k5 ++ led3 := ⟨_, rfl⟩
          rw [← hled5] at Nb6
          (try dsimp only)
          rw [← ho5.1]
          ((repeat' (first | (k_unfold; (try dsimp only)) | walk1 | (dsimp only; walk1) | (leave1; (try dsimp only)))))
          rename Fr _ _ _ _ => Fa7
          rename News _ _ _ _ => Na7
          have M5 : MOk o5 (List.replicate (o4.width * o4.height).toNat ((o4.fine * o4.fine, t5) : Int × Tok)) := mok_full M4 ho5
          have ho5f : o5.fine = fine := ho5.2.2.2.2.2.2.trans ho4.2.2.2.2
          k_dflt (refine' unhold (c_mult (o1 := o) (o2 := o5) (cv1 := cv) (cv2 := List.replicate (o4.width * o4.height).toNat ((o4.fine * o4.fine, t5) : Int × Tok)) (k1 := ck) (k2 := k5) (CalN.mk ?B7 Fa7 ?K7 ?T7 ?hk7 ?hd7 ?hu7 (News.subs Na7 fun p hp => ?sb7)) M M5 (by rw [hof]; exact hfi) (ho5f.trans hof.symm) hcb ?_))
          case B7 => k_asm
          case K7 => k_asm
          case T7 => k_asm
          case hk7 => exact rfl
          case hd7 => ktr_room
          case hu7 => ktr_units
          case sb7 =>
            rw [hled5]
            rcases List.mem_append.mp hp with hp | hp
            · exact List.mem_append_right _ (by rw [hled3]; exact List.mem_append_right _ (by rw [hled]; exact mask_sub p hp))
            · exact List.mem_append_left _ hp
          intro o6 cv6 k6 h11 tk11 ho6 hlen6 hs6 E7 A7
          refine lock ?_
          intro GG9
          obtain ⟨Fb7, Nb7, ne7⟩ := news_many Fa7 Na7 E7 A7
          clear Fa7 Na7 E7 A7 ne7
          obtain ⟨led6, hled6⟩ : ∃ l, l = mled wv.params o6 cv6 k6 ++ led5 := ⟨_, rfl⟩
          rw [← hled6] at Nb7
          have i5 : ∀ p ∈ led5, p ∈ led6 := fun p hp => by rw [hled6]; exact List.mem_append_right _ hp
          have i3 : ∀ p ∈ led3, p ∈ led6 := fun p hp => i5 p (by rw [hled5]; exact List.mem_append_right _ hp)
          have i0 : ∀ p ∈ led, p ∈ led6 := fun p hp => i3 p (by rw [hled3]; exact List.mem_append_right _ hp)
          first | k_unfold | dsimp only [GG9]
          (try dsimp only)
          ((repeat' (first | (k_unfold; (try dsimp only)) | walk1 | (dsimp only; walk1) | (leave1; (try dsimp only)))))
          rename Fr _ _ _ _ => Fa8
          rename News _ _ _ _ => Na8
          rename IsRange _ _ _ _ _ _ _ _ => hr8
          refine unhold ?_
          have jM : ∀ p ∈ mled wv.params o cv ck, p ∈ led6 := fun p hp => i0 p (by rw [hled]; exact mask_sub p hp)
          have jH : ∀ p ∈ mled wv.params o2 cv2 kq, p ∈ led6 := fun p hp => i0 p (by rw [hled]; exact hand_sub p hp)
          have jB : ∀ p ∈ mled wv.params o3 cv3 k3, p ∈ led6 := fun p hp => i3 p (by rw [hled3]; exact List.mem_append_left _ hp)
          have jW : ∀ p ∈ mled wv.params o6 cv6 k6, p ∈ led6 := fun p hp => by rw [hled6]; exact List.mem_append_left _ hp
          have jS : ∀ p ∈ (sp, ptup ps k) :: pled ps, p ∈ led6 := fun p hp => i0 p (by
            rw [hled]
            rcases List.mem_cons.mp hp with rfl | hp
            · exact .tail _ (.tail _ (.tail _ (.tail _ (.tail _ (.tail _ (.head _))))))
            · exact .tail _ (.tail _ (.tail _ (.tail _ (.tail _ (.tail _ (.tail _ (List.mem_append_left _ hp))))))))
          have jT : ∀ p ∈ W5, p ∈ led6 := fun p hp => i0 p (by rw [hled]; exact .tail _ (.tail _ (.tail _ (.tail _ (.tail _ (.tail _ (.tail _ (List.mem_append_right _ hp))))))))
          have hp4 : ps.length ≤ 4 := by rcases hpl with h | h <;> rw [h] <;> decide
          have hff := ff_cases hfi
          have hff2 := ff2_cases hfi
          have M3 : MOk o3 cv3 := mok_of M ho3 hlen3
          have M6 : MOk o6 cv6 := mok_of M ho6 hlen6
          have hB : ∀ x y, inM o x y → cntAt o3 cv3 x y = Int.fdiv (2 * lcount ps r x y fine grain * f x y + fine * fine) (2 * fine * fine) := fun x y h => by
            rw [hs3 x y h, hcv x y h, hcf, hof]
            unfold share
            rw [Int.mul_assoc 2, Int.mul_assoc 2]
          have hW : ∀ x y, inM o x y → cntAt o6 cv6 x y = lcount ps r x y fine grain := fun x y h => by
            have h5 : inM o5 x y := in_congr (ho5.2.2.1.trans (ho4.1.trans ho.1.symm)) (ho5.2.2.2.1.trans (ho4.2.1.trans ho.2.1.symm)) (ho5.2.2.2.2.1.trans (ho4.2.2.1.trans ho.2.2.1.symm)) (ho5.2.2.2.2.2.1.trans (ho4.2.2.2.1.trans ho.2.2.2.1.symm)) h
            have e4 : o4.width * o4.height = o5.width * o5.height := by rw [ho5.2.2.2.2.1, ho5.2.2.2.2.2.1]
            rw [hs6 x y h, hcv x y h, e4, full_at M5.w0 h5, ho4.2.2.2.2, hof]
            exact share_full hff
          have hA : ∀ x y, inM o x y → Int.fdiv (2 * (255 * cntAt o cv x y) + o.fine * o.fine) (2 * (o.fine * o.fine)) = alphaL (lcount ps r x y fine grain) (fine * fine) := fun x y h => by
            rw [hcv x y h, hof]; exact alpha_eq hff
          have hIn : ∀ (i j : Nat), i < height.toNat → j < width.toNat → inM o (left + (j : Int)) (top + (i : Int)) := fun i j hi hj => in_of ho hi hj
          clear hs3 hs6 ho3 ho4 ho5 ho6 hlen3 hlen6 hcb M4 M5 ho2f ho5f ho2
          refine my_range (m := ?mr) (n := height.toNat) led6 [] []
            (fun i m W => (∃ u1 u2 u3 u4, m = (U (U (U (U ?mr (Str.ofString "share") u4) (Str.ofString "due") u3) (Str.ofString "x") u2) (Str.ofString "y") u1)) ∧ W = []) rfl ?Fr ?Nr hr8 ?smr ?szr (fun v => rfl) ?h0r ?hdsr ?noitr ?turnr ?doner
          case Fr => exact Fa8
          case Nr => exact News.subs Na8 fun p hp => .tail _ hp
          case smr => exact small_at ht hh
          case szr => exact sz_eq hh.1
          case h0r =>
            refine ⟨⟨?w1, ?w2, ?w3, ?w4, ?mp2⟩, rfl⟩
            case mp2 => ((refine extU4 ?hoffx76 ?e1x76 ?e2x76 ?e3x76 ?e4x76; (case e1x76 => rfl); (case e2x76 => rfl); (case e3x76 => rfl); (case e4x76 => rfl); (case hoffx76 => (repeat' (first | with_reducible exact Off.same | with_reducible exact List.Mem.head _ | with_reducible refine List.Mem.tail _ ?_ | with_reducible refine Off.l ?_ ?_)))))
          case hdsr => exact fun _ h => nomatch h
          case noitr =>
            rintro i m W ⟨_, rfl⟩ p hp
            cases hp
          case turnr =>
            intro SS hSS i t m₁ W1 h₁ tk₁ tl hi hR9 hsl _ F₁ N₁ PL
            refine lock ?_
            intro GG9
            rcases hR9 with ⟨⟨v1, v2, v3, v4, rfl⟩, rfl⟩
            first | k_unfold | dsimp only [GG9]
            simp only [List.nil_append] at N₁
            clear Fa8 Na8 hr8
            obtain ⟨Y, hY⟩ : ∃ Y, Y = top + (i : Int) := ⟨_, rfl⟩
            rw [← hY]
            ((repeat' (first | (k_unfold; (try dsimp only)) | walk1 | (dsimp only; walk1) | (leave1; (try dsimp only)))))
            rename Fr _ _ _ _ => Fa9
            rename News _ _ _ _ => Na9
            rename IsRange _ _ _ _ _ _ _ _ => hr9
            refine unhold ?_
            have kS : ∀ p ∈ led6, p ∈ tl := fun p hp => hsl p hp
            refine my_range (m := ?mi) (n := width.toNat) tl [] []
              (fun j m W => (∃ u1 u2 u3, m = (U (U (U ?mi (Str.ofString "share") u3) (Str.ofString "due") u2) (Str.ofString "x") u1)) ∧ W = []) rfl ?Fi ?Ni hr9 ?smi ?szi (fun v => rfl) ?h0i ?hdsi ?noiti ?turni ?donei
            case Fi => exact Fa9
            case Ni => exact Na9
            case smi => exact small_at hl hw
            case szi => exact sz_eq hw.1
            case h0i =>
              refine ⟨⟨?x1, ?x2, ?x3, ?mp3⟩, rfl⟩
              case mp3 => ((refine extU3 ?hoffx77 ?e1x77 ?e2x77 ?e3x77; (case e1x77 => rfl); (case e2x77 => rfl); (case e3x77 => rfl); (case hoffx77 => (repeat' (first | with_reducible exact Off.same | with_reducible exact List.Mem.head _ | with_reducible refine List.Mem.tail _ ?_ | with_reducible refine Off.l ?_ ?_)))))
            case hdsi => exact fun _ h => nomatch h
            case noiti =>
              rintro i m W ⟨_, rfl⟩ p hp
              cases hp
            case turni =>
              intro SS hSS j tj m₂ W2 h₂' tk₂' tl2 hj hR9 hsl2 _ F₂ N₂ PL
              refine lock ?_
              intro GG9
              rcases hR9 with ⟨⟨y1, y2, y3, rfl⟩, rfl⟩
              first | k_unfold | dsimp only [GG9]
              simp only [List.nil_append] at N₂
              clear Fa9 Na9 hr9
              have hin := hIn i j hi hj
              obtain ⟨X, hX⟩ : ∃ X, X = left + (j : Int) := ⟨_, rfl⟩
              have eX : -20 ≤ X ∧ X ≤ 20 := by rw [hX]; exact at_bd hl hw hj
              have eY : -20 ≤ Y ∧ Y ≤ 20 := by rw [hY]; exact at_bd ht hh hi
              rw [← hX, ← hY] at hin
              rw [← hX]
              have kk : ∀ p ∈ led6, p ∈ tl2 := fun p hp => hsl2 p (kS p hp)
              have qx1 : (o.x, instObj 259 o.d) ∈ tl2 := kk _ (jM _ (.head _))
              have qd1 : (o.d, mdic wv.params o) ∈ tl2 := kk _ (jM _ (.tail _ (.head _)))
              unfold mdic at qd1
              have qx2 : (o2.x, instObj 259 o2.d) ∈ tl2 := kk _ (jH _ (.head _))
              have qd2 : (o2.d, mdic wv.params o2) ∈ tl2 := kk _ (jH _ (.tail _ (.head _)))
              unfold mdic at qd2
              have qx3 : (o3.x, instObj 259 o3.d) ∈ tl2 := kk _ (jB _ (.head _))
              have qd3 : (o3.d, mdic wv.params o3) ∈ tl2 := kk _ (jB _ (.tail _ (.head _)))
              unfold mdic at qd3
              have qx6 : (o6.x, instObj 259 o6.d) ∈ tl2 := kk _ (jW _ (.head _))
              have qd6 : (o6.d, mdic wv.params o6) ∈ tl2 := kk _ (jW _ (.tail _ (.head _)))
              unfold mdic at qd6
              have eA := hA X Y hin
              have eB := hB X Y hin
              have eW := hW X Y hin
              have eC := hcv X Y hin
              have eH := hcf X Y
              have eD := @lcount_bd ps r X Y fine grain hFG
              ((repeat' (first | (k_unfold; (try dsimp only)) | walk1 | (dsimp only; walk1) | (leave1; (try dsimp only)))))
              rename Fr _ _ _ _ => Fap
              rename News _ _ _ _ => Nap
              k_dflt (refine' unhold (c_lcount (sp := sp) (ps := ps) (k := k) (CalN.mk ?Bp Fap ?Kp ?Tp ?hkp ?hdp ?hup (News.subs Nap fun p hp => kk p (jS p hp))) hps hp4 eX eY hr hFG ?_))
              case Bp => k_asm
              case Kp => k_asm
              case Tp => k_asm
              case hkp => exact rfl
              case hdp => ktr_room
              case hup => ktr_units
              intro cp ctp hp tkp hcp Ep
              refine lock ?_
              intro GG9
              obtain ⟨due, hdue⟩ : ∃ z, z = lcount ps r X Y fine grain := ⟨_, rfl⟩
              rw [← hdue] at eA eB eW eC eD hcp
              have hcp' := hcp.symm
              subst hcp'
              clear hcp hdue
              have Fbp := Ext.fr0 Ep Fap
              have Nbp := Ext.news0 Ep Nap
              clear Fap Nap Ep
              first | k_unfold | dsimp only [GG9]
              (try dsimp only)
              ((repeat' (first | (k_unfold; (try dsimp only)) | walk1 | (dsimp only; walk1) | (leave1; (try dsimp only)))))
              rename Fr _ _ _ _ => Faa
              rename News _ _ _ _ => Naa
              k_dflt (refine' unhold (c_count (o := o) (cv := cv) (k := ck) (CalN.mk ?Ba Faa ?Ka ?Ta ?hka ?hda ?hua (News.subs Naa fun p hp => kk p (jM p hp))) M ?_))
              case Ba => k_asm
              case Ka => k_asm
              case Ta => k_asm
              case hka => exact rfl
              case hda => ktr_room
              case hua => ktr_units
              intro ca cta ha' tka' hca Ea
              refine lock ?_
              intro GG9
              rw [eC] at hca
              have hda' := hca.symm
              subst hda'
              clear hca
              have Fba := Ext.fr0 Ea Faa
              have Nba := Ext.news0 Ea Naa
              clear Faa Naa Ea
              first | k_unfold | dsimp only [GG9]
              (try dsimp only)
              ((repeat' (first | (k_unfold; (try dsimp only)) | walk1 | (dsimp only; walk1) | (leave1; (try dsimp only)))))
              · exact absurd rfl (by assumption)
              rename Fr _ _ _ _ => Fab
              rename News _ _ _ _ => Nab
              k_dflt (refine' unhold (c_alpha (o := o) (cv := cv) (k := ck) (CalN.mk ?Bb Fab ?Kb ?Tb ?hkb ?hdb ?hub (News.subs Nab fun p hp => kk p (jM p hp))) M ?_))
              case Bb => k_asm
              case Kb => k_asm
              case Tb => k_asm
              case hkb => exact rfl
              case hdb => ktr_room
              case hub => ktr_units
              intro cb ctb hb' tkb' hcb Eb
              refine lock ?_
              intro GG9
              rw [eA] at hcb
              have hdb' := hcb.symm
              subst hdb'
              clear hcb
              have Fbb := Ext.fr0 Eb Fab
              have Nbb := Ext.news0 Eb Nab
              clear Fab Nab Eb
              first | k_unfold | dsimp only [GG9]
              (try dsimp only)
              ((repeat' (first | (k_unfold; (try dsimp only)) | walk1 | (dsimp only; walk1) | (leave1; (try dsimp only)))))
              rename Fr _ _ _ _ => Fac
              rename News _ _ _ _ => Nac
              k_dflt (refine' unhold (c_lalpha (CalN.mk ?Bc Fac ?Kc ?Tc ?hkc ?hdc ?huc (nil_of Fac)) (c_bd eD) hff ?_))
              case Bc => k_asm
              case Kc => k_asm
              case Tc => k_asm
              case hkc => exact rfl
              case hdc => ktr_room
              case huc => ktr_units
              intro cc ctc hc' tkc' hcc Ec
              refine lock ?_
              intro GG9
              have hdc' := hcc.symm
              subst hdc'
              clear hcc
              have Fbc := Ext.fr0 Ec Fac
              have Nbc := Ext.news0 Ec Nac
              clear Fac Nac Ec
              first | k_unfold | dsimp only [GG9]
              (try dsimp only)
              ((repeat' (first | (k_unfold; (try dsimp only)) | walk1 | (dsimp only; walk1) | (leave1; (try dsimp only)))))
              · exact absurd rfl (by assumption)
              rename Fr _ _ _ _ => Fad
              rename News _ _ _ _ => Nad
              k_dflt (refine' unhold (c_count (o := o2) (cv := cv2) (k := kq) (CalN.mk ?Bd Fad ?Kd ?Td ?hkd ?hdd ?hud (News.subs Nad fun p hp => kk p (jH p hp))) M2 ?_))
              case Bd => k_asm
              case Kd => k_asm
              case Td => k_asm
              case hkd => exact rfl
              case hdd => ktr_room
              case hud => ktr_units
              intro cd ctd hd' tkd' hcd Ed
              refine lock ?_
              intro GG9
              rw [eH] at hcd
              have hdd' := hcd.symm
              subst hdd'
              clear hcd
              have Fbd := Ext.fr0 Ed Fad
              have Nbd := Ext.news0 Ed Nad
              clear Fad Nad Ed
              first | k_unfold | dsimp only [GG9]
              (try dsimp only)
              ((repeat' (first | (k_unfold; (try dsimp only)) | walk1 | (dsimp only; walk1) | (leave1; (try dsimp only)))))
              rename News _ _ _ _ => Nme
              refine unhold (HT.meth Nme (hT.subs fun p hp => kk p (jT p hp)) ?_)
              ((repeat' (first | (k_unfold; (try dsimp only)) | walk1 | (dsimp only; walk1) | (leave1; (try dsimp only)))))
              rename News _ _ _ _ => Nge
              refine unhold (HT.get (x := X) (y := Y) (by ktr_units) Nge (hT.subs fun p hp => .tail _ (kk p (jT p hp))) (.head _) fun te => ?_)
              have Nhe := News.subs Nge fun p hp => .tail _ hp
              clear Nge
              (try dsimp only)
              ((repeat' (first | (k_unfold; (try dsimp only)) | walk1 | (dsimp only; walk1) | (leave1; (try dsimp only)))))
              · exact absurd rfl (by assumption)
              rename Fr _ _ _ _ => Faf
              rename News _ _ _ _ => Naf
              k_dflt (refine' unhold (c_count (o := o6) (cv := cv6) (k := k6) (CalN.mk ?Bf Faf ?Kf ?Tf ?hkf ?hdf ?huf (News.subs Naf fun p hp => kk p (jW p hp))) M6 ?_))
              case Bf => k_asm
              case Kf => k_asm
              case Tf => k_asm
              case hkf => exact rfl
              case hdf => ktr_room
              case huf => ktr_units
              intro cf ctf hf' tkf' hcf Ef
              refine lock ?_
              intro GG9
              rw [eW] at hcf
              have hdf' := hcf.symm
              subst hdf'
              clear hcf
              have Fbf := Ext.fr0 Ef Faf
              have Nbf := Ext.news0 Ef Naf
              clear Faf Naf Ef
              first | k_unfold | dsimp only [GG9]
              (try dsimp only)
              ((repeat' (first | (k_unfold; (try dsimp only)) | walk1 | (dsimp only; walk1) | (leave1; (try dsimp only)))))
              · exact absurd rfl (by assumption)
              rename News _ _ _ _ => Nmg
              refine unhold (HT.meth Nmg (hT.subs fun p hp => kk p (jT p hp)) ?_)
              ((repeat' (first | (k_unfold; (try dsimp only)) | walk1 | (dsimp only; walk1) | (leave1; (try dsimp only)))))
              rename News _ _ _ _ => Ngg
              refine unhold (HT.get (x := X) (y := Y) (by ktr_units) Ngg (hT.subs fun p hp => .tail _ (kk p (jT p hp))) (.head _) fun tg => ?_)
              have Nhg := News.subs Ngg fun p hp => .tail _ hp
              clear Ngg
              (try dsimp only)
              ((repeat' (first | (k_unfold; (try dsimp only)) | walk1 | (dsimp only; walk1) | (leave1; (try dsimp only)))))
              rename Fr _ _ _ _ => Fah
              rename News _ _ _ _ => Nah
              k_dflt (refine' unhold (c_count (o := o3) (cv := cv3) (k := k3) (CalN.mk ?Bh Fah ?Kh ?Th ?hkh ?hdh ?huh (News.subs Nah fun p hp => kk p (jB p hp))) M3 ?_))
              case Bh => k_asm
              case Kh => k_asm
              case Th => k_asm
              case hkh => exact rfl
              case hdh => ktr_room
              case huh => ktr_units
              intro ch cth hh' tkh' hch Eh
              refine lock ?_
              intro GG9
              rw [eB] at hch
              have hdh' := hch.symm
              subst hdh'
              clear hch
              have Fbh := Ext.fr0 Eh Fah
              have Nbh := Ext.news0 Eh Nah
              clear Fah Nah Eh
              first | k_unfold | dsimp only [GG9]
              (try dsimp only)
              ((repeat' (first | (k_unfold; (try dsimp only)) | walk1 | (dsimp only; walk1) | (leave1; (try dsimp only)))))
              · exact absurd rfl (by assumption)
              rename Fr _ _ _ _ => Faz
              rename News _ _ _ _ => Naz
              refine keep_post (W := []) Faz Naz (fun p hp => hp) (hSS _ _ _ ⟨⟨?za1, ?za2, ?za3, ?zamp⟩, rfl⟩)
              case zamp => ((refine extU3 ?hoffx78 ?e1x78 ?e2x78 ?e3x78; (case e1x78 => rfl); (case e2x78 => rfl); (case e3x78 => rfl); (case hoffx78 => (repeat' (first | with_reducible exact Off.same | with_reducible exact List.Mem.head _ | with_reducible refine List.Mem.tail _ ?_ | with_reducible refine Off.l ?_ ?_)))))
            case donei =>
              intro h₃' tk₃' m₃ W₃ hR9 F₃ N₃
              refine lock ?_
              intro GG9
              rcases hR9 with ⟨⟨y1, y2, y3, rfl⟩, rfl⟩
              first | k_unfold | dsimp only [GG9]
              simp only [List.nil_append] at N₃
              clear Fa9 Na9 hr9
              ((repeat' (first | (k_unfold; (try dsimp only)) | walk1 | (dsimp only; walk1) | (leave1; (try dsimp only)))))
              refine keep_post (W := []) F₃ N₃ (fun p hp => hp) (hSS _ _ _ ⟨⟨?zb1, ?zb2, ?zb3, ?zb4, ?zbmp⟩, rfl⟩)
              case zbmp => ((refine extU4 ?hoffx79 ?e1x79 ?e2x79 ?e3x79 ?e4x79; (case e1x79 => rfl); (case e2x79 => rfl); (case e3x79 => rfl); (case e4x79 => rfl); (case hoffx79 => (repeat' (first | with_reducible exact Off.same | with_reducible exact List.Mem.head _ | with_reducible refine List.Mem.tail _ ?_ | with_reducible refine Off.l ?_ ?_)))))
          case doner =>
            intro h₄' tk₄' m₄ W₄ hR9 F₄ N₄
            refine lock ?_
            intro GG9
            rcases hR9 with ⟨⟨y1, y2, y3, y4, rfl⟩, rfl⟩
            first | k_unfold | dsimp only [GG9]
            simp only [List.nil_append] at N₄
            clear Fa8 Na8 hr8
            have qx1 : (o.x, instObj 259 o.d) ∈ led6 := jM _ (.head _)
            have qd1 : (o.d, mdic wv.params o) ∈ led6 := jM _ (.tail _ (.head _))
            unfold mdic at qd1
            ((repeat' (first | (k_unfold; (try dsimp only)) | walk1 | (dsimp only; walk1) | (leave1; (try dsimp only)))))
            rename Fr _ _ _ _ => Faa
            rename News _ _ _ _ => Naa
            k_dflt (refine' unhold (c_count (o := o) (cv := cv) (k := ck) (CalN.mk ?Ba Faa ?Ka ?Ta ?hka ?hda ?hua (News.subs Naa jM)) M ?_))
            case Ba => k_asm
            case Ka => k_asm
            case Ta => k_asm
            case hka => exact rfl
            case hda => ktr_room
            case hua => ktr_units
            intro ca cta ha' tka' hca Ea
            refine lock ?_
            intro GG9
            rw [out_left ho.1] at hca
            subst hca
            have Fba := Ext.fr0 Ea Faa
            have Nba := Ext.news0 Ea Naa
            clear Faa Naa Ea
            first | k_unfold | dsimp only [GG9]
            (try dsimp only)
            ((repeat' (first | (k_unfold; (try dsimp only)) | walk1 | (dsimp only; walk1) | (leave1; (try dsimp only)))))
            rename Fr _ _ _ _ => Fab
            rename News _ _ _ _ => Nab
            k_dflt (refine' unhold (c_alpha (o := o) (cv := cv) (k := ck) (CalN.mk ?Bb Fab ?Kb ?Tb ?hkb ?hdb ?hub (News.subs Nab jM)) M ?_))
            case Bb => k_asm
            case Kb => k_asm
            case Tb => k_asm
            case hkb => exact rfl
            case hdb => ktr_room
            case hub => ktr_units
            intro cb ctb hb' tkb' hcb Eb
            refine lock ?_
            intro GG9
            rw [alpha_zero (m := o.fine * o.fine) (out_right ho.1 ho.2.2.1) (by rw [hof]; exact hff)] at hcb
            subst hcb
            have Fbb := Ext.fr0 Eb Fab
            have Nbb := Ext.news0 Eb Nab
            clear Fab Nab Eb
            first | k_unfold | dsimp only [GG9]
            (try dsimp only)
            ((repeat' (first | (k_unfold; (try dsimp only)) | walk1 | (dsimp only; walk1) | (leave1; (try dsimp only)))))
            rename Fr _ _ _ _ => Fac
            rename News _ _ _ _ => Nac
            k_dflt (refine' unhold (c_count (o := o) (cv := cv) (k := ck) (CalN.mk ?Bc Fac ?Kc ?Tc ?hkc ?hdc ?huc (News.subs Nac jM)) M ?_))
            case Bc => k_asm
            case Kc => k_asm
            case Tc => k_asm
            case hkc => exact rfl
            case hdc => ktr_room
            case huc => ktr_units
            intro cc ctc hc' tkc' hcc Ec
            refine lock ?_
            intro GG9
            rw [out_down ho.2.1 ho.2.2.2.1] at hcc
            subst hcc
            have Fbc := Ext.fr0 Ec Fac
            have Nbc := Ext.news0 Ec Nac
            clear Fac Nac Ec
            first | k_unfold | dsimp only [GG9]
            (try dsimp only)
            ((repeat' (first | (k_unfold; (try dsimp only)) | walk1 | (dsimp only; walk1) | (leave1; (try dsimp only)))))
            rw [show ((0 : Int) == 0) = true from rfl]
            clear hA hB hW hIn hcv hcf hT M M2 M3 M6 jM jH jB jW jS jT i0 i3 i5 hled3 hled4 hled5 hled6 hff hff2 hl ht hw hh hFG hr hps hpl
            refine goodW_bool (by with_reducible assumption) (by with_reducible assumption) (raisesW_false ?gn) ?gp
            case gn => wrow_none_raised
            case gp => wrow_post
    )
end
end
end Mine
theorem PySem.Challenge.cw_nu0019_01_holds : PySem.Challenge.rw_nu0019_01.Holds := by
  exact Mine.lawA
