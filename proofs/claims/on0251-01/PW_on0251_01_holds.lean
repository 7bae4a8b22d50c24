import PyProof.Rows.All
import Wide.All
import OpenK.AllK
import Wide.FinOn
import PySem.Challenge.RW_on0251_01
set_option Elab.async false
section
open PySem PySem.W PyProof.Rows
set_option Elab.async false
set_option maxRecDepth 100000
namespace Mine
noncomputable def topRunT (tb : String → Option Builtin) (p : Program) (w : World) (n₀ : Nat) (ann : Option Value) : Nat → SharedT → Thread → Option SharedT
  | 0, _, _ => none
  | n + 1, s, t => match through t with
    | true => some s
    | false => match stepOk n₀ ann t with
      | false => none
      | true => match stepT (denote tb) p w s t with
        | some (s', t') => topRunT tb p w n₀ ann n s' t'
        | none => none
theorem topRunT_of {tb : String → Option Builtin} {p : Program} {w : World} {n₀ : Nat} {ann : Option Value} : ∀ {n : Nat} {s s' : SharedT} {t : Thread}, topRunT tb p w n₀ ann n s t = some s' → topRun tb p w n₀ ann n s.abs t = some s'.abs
  | 0, _, _, _, h => by simp [topRunT] at h
  | n + 1, s, s', t, h => by
    unfold topRunT at h
    unfold topRun
    cases ht : through t with
    | true => rw [ht] at h; cases h; rfl
    | false =>
      rw [ht] at h
      cases hk : stepOk n₀ ann t with
      | false => rw [hk] at h; cases h
      | true =>
        rw [hk] at h
        cases hs : stepT (denote tb) p w s t with
        | none => rw [hs] at h; cases h
        | some q =>
          obtain ⟨s1, t1⟩ := q
          rw [hs] at h
          rw [stepT_spec hs]
          exact topRunT_of h
noncomputable def insAll : List Obj → Nat → BT → BT
  | [], _, t => t
  | o :: l, i, t => insAll l (i + 1) (t.ins i o)
noncomputable def bootT (P : Params) : BT := insAll (boot_heap P).objs.toList 0 .nil
noncomputable def lenL : List Obj → Nat
  | [] => 0
  | _ :: l => lenL l + 1
theorem boot_abs (P : Params) : boot_heap P = absHeap (bootT P) (lenL (boot_heap P).objs.toList) (boot_heap P).life := by kernel_rfl
noncomputable def s0T (w : World) (os : OsState) : SharedT := ⟨bootT w.params, lenL (boot_heap w.params).objs.toList, (boot_heap w.params).life, Array.mk [], boot_drawn, boot_toks, os⟩
end Mine
end
section
open PySem PySem.W PyProof.Rows PySem.Calls
set_option linter.unusedSectionVars false
set_option linter.unusedVariables false
set_option maxRecDepth 100000
namespace Mine

/-- the functions of a body, by their place -/
noncomputable def nth : List Stmt → Nat → Option DefRec
  | [], _ => none
  | .FunctionDef n a b _ _ _ sc _ _ pos :: r, 0 => some ⟨n, a, b, sc, pos⟩
  | .FunctionDef _ _ _ _ _ _ _ _ _ _ :: r, k + 1 => nth r k
  | _ :: r, k => nth r k
/-- the classes of a body, by their place -/
noncomputable def nthC : List Stmt → Nat → Option (List Stmt)
  | [], _ => none
  | .ClassDef _ _ _ b _ _ _ _ _ _ _ :: r, 0 => some b
  | .ClassDef _ _ _ _ _ _ _ _ _ _ _ :: r, k + 1 => nthC r k
  | _ :: r, k => nthC r k
noncomputable abbrev top : List Stmt := PySem.Challenge.pw_on0251_01.main.body

noncomputable def d_root_floor : {d : DefRec // nth top 0 = some d} := ⟨_, rfl⟩
noncomputable def d_nearest_root_share : {d : DefRec // nth top 1 = some d} := ⟨_, rfl⟩
noncomputable def d_nearest_share : {d : DefRec // nth top 2 = some d} := ⟨_, rfl⟩
noncomputable def d_way_of : {d : DefRec // nth top 3 = some d} := ⟨_, rfl⟩
noncomputable def d_moved_by : {d : DefRec // nth top 4 = some d} := ⟨_, rfl⟩
noncomputable def d_turned_about : {d : DefRec // nth top 5 = some d} := ⟨_, rfl⟩
noncomputable def d_square_of : {d : DefRec // nth top 6 = some d} := ⟨_, rfl⟩
noncomputable def d_normal_of : {d : DefRec // nth top 7 = some d} := ⟨_, rfl⟩
noncomputable def d_along_of : {d : DefRec // nth top 8 = some d} := ⟨_, rfl⟩
noncomputable def d_parallel : {d : DefRec // nth top 9 = some d} := ⟨_, rfl⟩
noncomputable def d_area_twice_of : {d : DefRec // nth top 10 = some d} := ⟨_, rfl⟩
noncomputable def d_one_sense : {d : DefRec // nth top 11 = some d} := ⟨_, rfl⟩
noncomputable def d_eighth : {d : DefRec // nth top 12 = some d} := ⟨_, rfl⟩
noncomputable def d_disc_about : {d : DefRec // nth top 13 = some d} := ⟨_, rfl⟩
noncomputable def d_is_at_least_root : {d : DefRec // nth top 14 = some d} := ⟨_, rfl⟩
noncomputable def d_is_within_limit : {d : DefRec // nth top 15 = some d} := ⟨_, rfl⟩
noncomputable def d_tip_of : {d : DefRec // nth top 16 = some d} := ⟨_, rfl⟩
noncomputable def d_bevel_spots : {d : DefRec // nth top 17 = some d} := ⟨_, rfl⟩
noncomputable def d_miter_spots : {d : DefRec // nth top 18 = some d} := ⟨_, rfl⟩
noncomputable def d_join_spots : {d : DefRec // nth top 19 = some d} := ⟨_, rfl⟩
noncomputable def d_square_about : {d : DefRec // nth top 20 = some d} := ⟨_, rfl⟩
noncomputable def d_cap_spots : {d : DefRec // nth top 21 = some d} := ⟨_, rfl⟩
noncomputable def d_dot_spots : {d : DefRec // nth top 22 = some d} := ⟨_, rfl⟩
noncomputable def d_side_length : {d : DefRec // nth top 23 = some d} := ⟨_, rfl⟩
noncomputable def d_spot_at : {d : DefRec // nth top 24 = some d} := ⟨_, rfl⟩
noncomputable def d_dashed : {d : DefRec // nth top 25 = some d} := ⟨_, rfl⟩
noncomputable def d_plain_line : {d : DefRec // nth top 26 = some d} := ⟨_, rfl⟩
noncomputable def d_side_pieces : {d : DefRec // nth top 27 = some d} := ⟨_, rfl⟩
noncomputable def d_join_pieces : {d : DefRec // nth top 28 = some d} := ⟨_, rfl⟩
noncomputable def d_corners_of : {d : DefRec // nth top 29 = some d} := ⟨_, rfl⟩
noncomputable def d_stroked_line : {d : DefRec // nth top 30 = some d} := ⟨_, rfl⟩
noncomputable def d_stroked : {d : DefRec // nth top 31 = some d} := ⟨_, rfl⟩
noncomputable def d_l_pool : {d : DefRec // nth top 32 = some d} := ⟨_, rfl⟩
noncomputable def d_l_take : {d : DefRec // nth top 33 = some d} := ⟨_, rfl⟩
noncomputable def d_l_one : {d : DefRec // nth top 34 = some d} := ⟨_, rfl⟩
noncomputable def d_l_normal : {d : DefRec // nth top 35 = some d} := ⟨_, rfl⟩
noncomputable def d_l_sensed : {d : DefRec // nth top 36 = some d} := ⟨_, rfl⟩
noncomputable def d_l_at : {d : DefRec // nth top 37 = some d} := ⟨_, rfl⟩
noncomputable def d_l_side : {d : DefRec // nth top 38 = some d} := ⟨_, rfl⟩
noncomputable def d_l_corner : {d : DefRec // nth top 39 = some d} := ⟨_, rfl⟩
noncomputable def d_l_cap : {d : DefRec // nth top 40 = some d} := ⟨_, rfl⟩
noncomputable def d_l_due : {d : DefRec // nth top 41 = some d} := ⟨_, rfl⟩
noncomputable def d_l_drawn : {d : DefRec // nth top 42 = some d} := ⟨_, rfl⟩
noncomputable def d_law : {d : DefRec // nth top 43 = some d} := ⟨_, rfl⟩
noncomputable def m_corner_init : {d : DefRec // ((nthC top 3).bind fun b => nth b 0) = some d} := ⟨_, rfl⟩
noncomputable def m_corner_is_straight : {d : DefRec // ((nthC top 3).bind fun b => nth b 1) = some d} := ⟨_, rfl⟩
noncomputable def m_corner_squares : {d : DefRec // ((nthC top 3).bind fun b => nth b 2) = some d} := ⟨_, rfl⟩
noncomputable def m_pattern_init : {d : DefRec // ((nthC top 4).bind fun b => nth b 0) = some d} := ⟨_, rfl⟩
noncomputable def m_pattern_is_plain : {d : DefRec // ((nthC top 4).bind fun b => nth b 1) = some d} := ⟨_, rfl⟩
noncomputable def m_style_init : {d : DefRec // ((nthC top 6).bind fun b => nth b 0) = some d} := ⟨_, rfl⟩
noncomputable def m_style_half : {d : DefRec // ((nthC top 6).bind fun b => nth b 1) = some d} := ⟨_, rfl⟩
noncomputable def m_style_steps : {d : DefRec // ((nthC top 6).bind fun b => nth b 2) = some d} := ⟨_, rfl⟩
end Mine
end
section
open PySem PySem.W PyProof.Rows
set_option Elab.async false
set_option maxRecDepth 100000
namespace Mine
/-- the part of the text that is looked at -/
noncomputable def vw : Program := view PySem.Challenge.pw_on0251_01 [1, 2, 3, 5, 7, 8, 9, 10, 11, 12, 13, 14, 15, 16, 17, 19, 20, 21, 22, 23, 24, 25, 26, 27, 28, 30, 31, 32, 34, 35, 36, 37, 38, 40, 41, 42, 43, 44, 45, 46, 47, 49, 50, 51, 52, 53, 54, 55, 56, 57, 58, 59, 60]
/-- the objects of the heap behind the top that the walk reads (printed by a program) -/
noncomputable def kf : Params → Frag := fun P =>
  [(3, { cls := Value.type "dict", data := Data.dict #[{ hash := PyData.keyHash P (Str.ofString "__name__"), key := Value.str (Str.ofString "__name__") 165, val := Value.str (Str.ofString "law_on0251_01") 839 }, { hash := PyData.keyHash P (Str.ofString "__doc__"), key := Value.str (Str.ofString "__doc__") 166, val := Value.none }, { hash := PyData.keyHash P (Str.ofString "__package__"), key := Value.str (Str.ofString "__package__") 167, val := Value.none }, { hash := PyData.keyHash P (Str.ofString "__loader__"), key := Value.str (Str.ofString "__loader__") 168, val := Value.builtin "__main__.__loader__#opaque" }, { hash := PyData.keyHash P (Str.ofString "__spec__"), key := Value.str (Str.ofString "__spec__") 169, val := Value.none }, { hash := PyData.keyHash P (Str.ofString "__annotations__"), key := Value.str (Str.ofString "__annotations__") 170, val := Value.ref 6 }, { hash := PyData.keyHash P (Str.ofString "__builtins__"), key := Value.str (Str.ofString "__builtins__") 171, val := Value.ref 4 }, { hash := PyData.keyHash P (Str.ofString "__file__"), key := Value.str (Str.ofString "__file__") 173, val := Value.str (Str.ofString "/claim/cut.py") 172 }, { hash := PyData.keyHash P (Str.ofString "__cached__"), key := Value.str (Str.ofString "__cached__") 174, val := Value.none }, { hash := PyData.keyHash P (Str.ofString "MillError"), key := Value.str (Str.ofString "MillError") 217, val := Value.ref 31 }, { hash := PyData.keyHash P (Str.ofString "NumberFault"), key := Value.str (Str.ofString "NumberFault") 233, val := Value.ref 44 }, { hash := PyData.keyHash P (Str.ofString "SheetFault"), key := Value.str (Str.ofString "SheetFault") 249, val := Value.ref 56 }, { hash := PyData.keyHash P (Str.ofString "root_floor"), key := Value.str (Str.ofString "root_floor") 260, val := Value.ref 65 }, { hash := PyData.keyHash P (Str.ofString "nearest_root_share"), key := Value.str (Str.ofString "nearest_root_share") 272, val := Value.ref 72 }, { hash := PyData.keyHash P (Str.ofString "nearest_share"), key := Value.str (Str.ofString "nearest_share") 281, val := Value.ref 79 }, { hash := PyData.keyHash P (Str.ofString "way_of"), key := Value.str (Str.ofString "way_of") 289, val := Value.ref 86 }, { hash := PyData.keyHash P (Str.ofString "moved_by"), key := Value.str (Str.ofString "moved_by") 297, val := Value.ref 93 }, { hash := PyData.keyHash P (Str.ofString "turned_about"), key := Value.str (Str.ofString "turned_about") 304, val := Value.ref 100 }, { hash := PyData.keyHash P (Str.ofString "square_of"), key := Value.str (Str.ofString "square_of") 311, val := Value.ref 107 }, { hash := PyData.keyHash P (Str.ofString "normal_of"), key := Value.str (Str.ofString "normal_of") 323, val := Value.ref 114 }, { hash := PyData.keyHash P (Str.ofString "along_of"), key := Value.str (Str.ofString "along_of") 330, val := Value.ref 121 }, { hash := PyData.keyHash P (Str.ofString "parallel"), key := Value.str (Str.ofString "parallel") 341, val := Value.ref 128 }, { hash := PyData.keyHash P (Str.ofString "area_twice_of"), key := Value.str (Str.ofString "area_twice_of") 352, val := Value.ref 135 }, { hash := PyData.keyHash P (Str.ofString "one_sense"), key := Value.str (Str.ofString "one_sense") 362, val := Value.ref 142 }, { hash := PyData.keyHash P (Str.ofString "SHARP"), key := Value.str (Str.ofString "SHARP") 368, val := Value.int 18446744073709551616 367 }, { hash := PyData.keyHash P (Str.ofString "eighth"), key := Value.str (Str.ofString "eighth") 383, val := Value.ref 149 }, { hash := PyData.keyHash P (Str.ofString "disc_about"), key := Value.str (Str.ofString "disc_about") 389, val := Value.ref 154 }, { hash := PyData.keyHash P (Str.ofString "Corner"), key := Value.str (Str.ofString "Corner") 447, val := Value.ref 185 }, { hash := PyData.keyHash P (Str.ofString "is_at_least_root"), key := Value.str (Str.ofString "is_at_least_root") 456, val := Value.ref 196 }, { hash := PyData.keyHash P (Str.ofString "is_within_limit"), key := Value.str (Str.ofString "is_within_limit") 466, val := Value.ref 203 }, { hash := PyData.keyHash P (Str.ofString "tip_of"), key := Value.str (Str.ofString "tip_of") 477, val := Value.ref 210 }, { hash := PyData.keyHash P (Str.ofString "bevel_spots"), key := Value.str (Str.ofString "bevel_spots") 484, val := Value.ref 217 }, { hash := PyData.keyHash P (Str.ofString "miter_spots"), key := Value.str (Str.ofString "miter_spots") 493, val := Value.ref 224 }, { hash := PyData.keyHash P (Str.ofString "join_spots"), key := Value.str (Str.ofString "join_spots") 507, val := Value.ref 231 }, { hash := PyData.keyHash P (Str.ofString "square_about"), key := Value.str (Str.ofString "square_about") 519, val := Value.ref 238 }, { hash := PyData.keyHash P (Str.ofString "cap_spots"), key := Value.str (Str.ofString "cap_spots") 535, val := Value.ref 245 }, { hash := PyData.keyHash P (Str.ofString "dot_spots"), key := Value.str (Str.ofString "dot_spots") 545, val := Value.ref 252 }, { hash := PyData.keyHash P (Str.ofString "side_length"), key := Value.str (Str.ofString "side_length") 555, val := Value.ref 259 }, { hash := PyData.keyHash P (Str.ofString "spot_at"), key := Value.str (Str.ofString "spot_at") 567, val := Value.ref 266 }, { hash := PyData.keyHash P (Str.ofString "Pattern"), key := Value.str (Str.ofString "Pattern") 625, val := Value.ref 309 }, { hash := PyData.keyHash P (Str.ofString "Cutter"), key := Value.str (Str.ofString "Cutter") 699, val := Value.ref 365 }, { hash := PyData.keyHash P (Str.ofString "dashed"), key := Value.str (Str.ofString "dashed") 718, val := Value.ref 376 }, { hash := PyData.keyHash P (Str.ofString "MOST_STEPS"), key := Value.str (Str.ofString "MOST_STEPS") 722, val := Value.int 16 721 }, { hash := PyData.keyHash P (Str.ofString "Style"), key := Value.str (Str.ofString "Style") 781, val := Value.ref 410 }, { hash := PyData.keyHash P (Str.ofString "plain_line"), key := Value.str (Str.ofString "plain_line") 792, val := Value.ref 421 }, { hash := PyData.keyHash P (Str.ofString "side_pieces"), key := Value.str (Str.ofString "side_pieces") 798, val := Value.ref 426 }, { hash := PyData.keyHash P (Str.ofString "join_pieces"), key := Value.str (Str.ofString "join_pieces") 804, val := Value.ref 431 }, { hash := PyData.keyHash P (Str.ofString "corners_of"), key := Value.str (Str.ofString "corners_of") 810, val := Value.ref 436 }, { hash := PyData.keyHash P (Str.ofString "stroked_line"), key := Value.str (Str.ofString "stroked_line") 823, val := Value.ref 443 }, { hash := PyData.keyHash P (Str.ofString "stroked"), key := Value.str (Str.ofString "stroked") 838, val := Value.ref 450 }, { hash := PyData.keyHash P (Str.ofString "_law_pool"), key := Value.str (Str.ofString "_law_pool") 851, val := Value.ref 457 }, { hash := PyData.keyHash P (Str.ofString "_law_take"), key := Value.str (Str.ofString "_law_take") 860, val := Value.ref 464 }, { hash := PyData.keyHash P (Str.ofString "_law_one"), key := Value.str (Str.ofString "_law_one") 868, val := Value.ref 471 }, { hash := PyData.keyHash P (Str.ofString "_law_normal"), key := Value.str (Str.ofString "_law_normal") 874, val := Value.ref 476 }, { hash := PyData.keyHash P (Str.ofString "_law_sensed"), key := Value.str (Str.ofString "_law_sensed") 880, val := Value.ref 481 }, { hash := PyData.keyHash P (Str.ofString "_law_at"), key := Value.str (Str.ofString "_law_at") 889, val := Value.ref 488 }, { hash := PyData.keyHash P (Str.ofString "_law_side"), key := Value.str (Str.ofString "_law_side") 900, val := Value.ref 495 }, { hash := PyData.keyHash P (Str.ofString "_law_corner"), key := Value.str (Str.ofString "_law_corner") 914, val := Value.ref 502 }, { hash := PyData.keyHash P (Str.ofString "_law_cap"), key := Value.str (Str.ofString "_law_cap") 926, val := Value.ref 509 }, { hash := PyData.keyHash P (Str.ofString "_law_due"), key := Value.str (Str.ofString "_law_due") 932, val := Value.ref 514 }, { hash := PyData.keyHash P (Str.ofString "_law_drawn"), key := Value.str (Str.ofString "_law_drawn") 944, val := Value.ref 521 }, { hash := PyData.keyHash P (Str.ofString "law"), key := Value.str (Str.ofString "law") 950, val := Value.ref 526 }] 62 }),
  (167, { cls := Value.type "code", data := Data.fields #[Value.str (Str.ofString "__init__") 402, Value.str (Str.ofString "Corner.__init__") 403, Value.str (Str.ofString "/claim/cut.py") 404, Value.int 95 0, Value.int 5 0, Value.int 0 0, Value.int 0 0, Value.int 3 0, Value.ref 162, Value.bool true, Value.int 181 0, Value.ref 163, Value.none, Value.ref 164, Value.ref 165, Value.ref 166, Value.int 412 0, Value.int 95 0, Value.str (Str.ofString "/claim/cut.py") 413] }),
  (168, { cls := Value.type "function", data := Data.func { name := Str.ofString "__init__", qualname := Str.ofString "Corner.__init__", params := Mine.m_corner_init.val.params, body := FuncBody.stmts Mine.m_corner_init.val.body, scope := Mine.m_corner_init.val.scope, globals := 3, closure := [], defaults := Value.none, kwdefaults := Value.none, pyModule := Value.str (Str.ofString "outlinemill.joins") 363, code := Value.ref 167 } }),
  (174, { cls := Value.type "code", data := Data.fields #[Value.str (Str.ofString "is_straight") 415, Value.str (Str.ofString "Corner.is_straight") 416, Value.str (Str.ofString "/claim/cut.py") 417, Value.int 108 0, Value.int 1 0, Value.int 0 0, Value.int 0 0, Value.int 3 0, Value.ref 169, Value.bool true, Value.int 181 0, Value.ref 170, Value.none, Value.ref 171, Value.ref 172, Value.ref 173, Value.int 419 0, Value.int 108 0, Value.str (Str.ofString "/claim/cut.py") 420] }),
  (175, { cls := Value.type "function", data := Data.func { name := Str.ofString "is_straight", qualname := Str.ofString "Corner.is_straight", params := Mine.m_corner_is_straight.val.params, body := FuncBody.stmts Mine.m_corner_is_straight.val.body, scope := Mine.m_corner_is_straight.val.scope, globals := 3, closure := [], defaults := Value.none, kwdefaults := Value.none, pyModule := Value.str (Str.ofString "outlinemill.joins") 363, code := Value.ref 174 } }),
  (181, { cls := Value.type "code", data := Data.fields #[Value.str (Str.ofString "squares") 422, Value.str (Str.ofString "Corner.squares") 423, Value.str (Str.ofString "/claim/cut.py") 424, Value.int 111 0, Value.int 1 0, Value.int 0 0, Value.int 0 0, Value.int 3 0, Value.ref 176, Value.bool true, Value.int 181 0, Value.ref 177, Value.none, Value.ref 178, Value.ref 179, Value.ref 180, Value.int 430 0, Value.int 111 0, Value.str (Str.ofString "/claim/cut.py") 431] }),
  (182, { cls := Value.type "function", data := Data.func { name := Str.ofString "squares", qualname := Str.ofString "Corner.squares", params := Mine.m_corner_squares.val.params, body := FuncBody.stmts Mine.m_corner_squares.val.body, scope := Mine.m_corner_squares.val.scope, globals := 3, closure := [], defaults := Value.none, kwdefaults := Value.none, pyModule := Value.str (Str.ofString "outlinemill.joins") 363, code := Value.ref 181 } }),
  (184, { cls := Value.type "dict", data := Data.dict #[{ hash := PyData.keyHash P (Str.ofString "__module__"), key := Value.str (Str.ofString "__module__") 397, val := Value.str (Str.ofString "outlinemill.joins") 363 }, { hash := PyData.keyHash P (Str.ofString "__firstlineno__"), key := Value.str (Str.ofString "__firstlineno__") 401, val := Value.int 93 400 }, { hash := PyData.keyHash P (Str.ofString "__init__"), key := Value.str (Str.ofString "__init__") 414, val := Value.ref 168 }, { hash := PyData.keyHash P (Str.ofString "is_straight"), key := Value.str (Str.ofString "is_straight") 421, val := Value.ref 175 }, { hash := PyData.keyHash P (Str.ofString "squares"), key := Value.str (Str.ofString "squares") 432, val := Value.ref 182 }, { hash := PyData.keyHash P (Str.ofString "__static_attributes__"), key := Value.str (Str.ofString "__static_attributes__") 440, val := Value.ref 183 }, { hash := PyData.keyHash P (Str.ofString "__dict__"), key := Value.str (Str.ofString "__dict__") 442, val := Value.ref 186 }, { hash := PyData.keyHash P (Str.ofString "__weakref__"), key := Value.str (Str.ofString "__weakref__") 444, val := Value.ref 187 }, { hash := PyData.keyHash P (Str.ofString "__doc__"), key := Value.str (Str.ofString "__doc__") 445, val := Value.none }] 4 }),
  (185, { cls := Value.type "type", data := Data.cls { name := Str.ofString "Corner", bases := [Value.type "object"], mro := [Value.ref 185, Value.type "object"], ns := 184, qualname := Str.ofString "Corner" }, slots := #[none, none, some (Value.str (Str.ofString "Corner") 390), some (Value.str (Str.ofString "Corner") 398), some (Value.builtin "object.__new__"), some (Value.bool true)] }),
  (277, { cls := Value.type "code", data := Data.fields #[Value.str (Str.ofString "__init__") 580, Value.str (Str.ofString "Pattern.__init__") 581, Value.str (Str.ofString "/claim/cut.py") 582, Value.int 176 0, Value.int 3 0, Value.int 0 0, Value.int 0 0, Value.int 3 0, Value.ref 274, Value.bool true, Value.int 181 0, Value.ref 275, Value.none, Value.none, Value.none, Value.ref 276, Value.int 583 0, Value.int 176 0, Value.str (Str.ofString "/claim/cut.py") 584] }),
  (278, { cls := Value.type "function", data := Data.func { name := Str.ofString "__init__", qualname := Str.ofString "Pattern.__init__", params := Mine.m_pattern_init.val.params, body := FuncBody.stmts Mine.m_pattern_init.val.body, scope := Mine.m_pattern_init.val.scope, globals := 3, closure := [], defaults := Value.none, kwdefaults := Value.none, pyModule := Value.str (Str.ofString "outlinemill.dashes") 546, code := Value.ref 277 } }),
  (284, { cls := Value.type "code", data := Data.fields #[Value.str (Str.ofString "is_plain") 586, Value.str (Str.ofString "Pattern.is_plain") 587, Value.str (Str.ofString "/claim/cut.py") 588, Value.int 187 0, Value.int 1 0, Value.int 0 0, Value.int 0 0, Value.int 3 0, Value.ref 279, Value.bool true, Value.int 181 0, Value.ref 280, Value.none, Value.ref 281, Value.ref 282, Value.ref 283, Value.int 590 0, Value.int 187 0, Value.str (Str.ofString "/claim/cut.py") 591] }),
  (285, { cls := Value.type "function", data := Data.func { name := Str.ofString "is_plain", qualname := Str.ofString "Pattern.is_plain", params := Mine.m_pattern_is_plain.val.params, body := FuncBody.stmts Mine.m_pattern_is_plain.val.body, scope := Mine.m_pattern_is_plain.val.scope, globals := 3, closure := [], defaults := Value.none, kwdefaults := Value.none, pyModule := Value.str (Str.ofString "outlinemill.dashes") 546, code := Value.ref 284 } }),
  (308, { cls := Value.type "dict", data := Data.dict #[{ hash := PyData.keyHash P (Str.ofString "__module__"), key := Value.str (Str.ofString "__module__") 575, val := Value.str (Str.ofString "outlinemill.dashes") 546 }, { hash := PyData.keyHash P (Str.ofString "__firstlineno__"), key := Value.str (Str.ofString "__firstlineno__") 579, val := Value.int 174 578 }, { hash := PyData.keyHash P (Str.ofString "__init__"), key := Value.str (Str.ofString "__init__") 585, val := Value.ref 278 }, { hash := PyData.keyHash P (Str.ofString "is_plain"), key := Value.str (Str.ofString "is_plain") 592, val := Value.ref 285 }, { hash := PyData.keyHash P (Str.ofString "is_dash"), key := Value.str (Str.ofString "is_dash") 599, val := Value.ref 292 }, { hash := PyData.keyHash P (Str.ofString "turn"), key := Value.str (Str.ofString "turn") 606, val := Value.ref 299 }, { hash := PyData.keyHash P (Str.ofString "skip"), key := Value.str (Str.ofString "skip") 614, val := Value.ref 306 }, { hash := PyData.keyHash P (Str.ofString "__static_attributes__"), key := Value.str (Str.ofString "__static_attributes__") 618, val := Value.ref 307 }, { hash := PyData.keyHash P (Str.ofString "__dict__"), key := Value.str (Str.ofString "__dict__") 620, val := Value.ref 310 }, { hash := PyData.keyHash P (Str.ofString "__weakref__"), key := Value.str (Str.ofString "__weakref__") 622, val := Value.ref 311 }, { hash := PyData.keyHash P (Str.ofString "__doc__"), key := Value.str (Str.ofString "__doc__") 623, val := Value.none }] 4 }),
  (309, { cls := Value.type "type", data := Data.cls { name := Str.ofString "Pattern", bases := [Value.type "object"], mro := [Value.ref 309, Value.type "object"], ns := 308, qualname := Str.ofString "Pattern" }, slots := #[none, none, some (Value.str (Str.ofString "Pattern") 568), some (Value.str (Str.ofString "Pattern") 576), some (Value.builtin "object.__new__"), some (Value.bool true)] }),
  (384, { cls := Value.type "tuple", data := Data.seq #[Value.int 4 737, Value.int 1 738] }),
  (385, { cls := Value.type "tuple", data := Data.seq #[] }),
  (386, { cls := Value.type "tuple", data := Data.seq #[Value.str (Str.ofString "miter") 735, Value.str (Str.ofString "butt") 736, Value.ref 384, Value.ref 385, Value.int 0 739] }),
  (392, { cls := Value.type "code", data := Data.fields #[Value.str (Str.ofString "__init__") 740, Value.str (Str.ofString "Style.__init__") 741, Value.str (Str.ofString "/claim/cut.py") 742, Value.int 263 0, Value.int 7 0, Value.int 0 0, Value.int 0 0, Value.int 3 0, Value.ref 387, Value.bool true, Value.int 181 0, Value.ref 388, Value.none, Value.ref 389, Value.ref 390, Value.ref 391, Value.int 750 0, Value.int 263 0, Value.str (Str.ofString "/claim/cut.py") 751] }),
  (393, { cls := Value.type "function", data := Data.func { name := Str.ofString "__init__", qualname := Str.ofString "Style.__init__", params := Mine.m_style_init.val.params, body := FuncBody.stmts Mine.m_style_init.val.body, scope := Mine.m_style_init.val.scope, globals := 3, closure := [], defaults := Value.ref 386, kwdefaults := Value.none, pyModule := Value.str (Str.ofString "outlinemill.stroker") 719, code := Value.ref 392 } }),
  (399, { cls := Value.type "code", data := Data.fields #[Value.str (Str.ofString "half") 753, Value.str (Str.ofString "Style.half") 754, Value.str (Str.ofString "/claim/cut.py") 755, Value.int 271 0, Value.int 1 0, Value.int 0 0, Value.int 0 0, Value.int 3 0, Value.ref 394, Value.bool true, Value.int 181 0, Value.ref 395, Value.none, Value.ref 396, Value.ref 397, Value.ref 398, Value.int 757 0, Value.int 271 0, Value.str (Str.ofString "/claim/cut.py") 758] }),
  (400, { cls := Value.type "function", data := Data.func { name := Str.ofString "half", qualname := Str.ofString "Style.half", params := Mine.m_style_half.val.params, body := FuncBody.stmts Mine.m_style_half.val.body, scope := Mine.m_style_half.val.scope, globals := 3, closure := [], defaults := Value.none, kwdefaults := Value.none, pyModule := Value.str (Str.ofString "outlinemill.stroker") 719, code := Value.ref 399 } }),
  (406, { cls := Value.type "code", data := Data.fields #[Value.str (Str.ofString "steps") 760, Value.str (Str.ofString "Style.steps") 761, Value.str (Str.ofString "/claim/cut.py") 762, Value.int 274 0, Value.int 2 0, Value.int 0 0, Value.int 0 0, Value.int 3 0, Value.ref 401, Value.bool true, Value.int 181 0, Value.ref 402, Value.none, Value.ref 403, Value.ref 404, Value.ref 405, Value.int 765 0, Value.int 274 0, Value.str (Str.ofString "/claim/cut.py") 766] }),
  (407, { cls := Value.type "function", data := Data.func { name := Str.ofString "steps", qualname := Str.ofString "Style.steps", params := Mine.m_style_steps.val.params, body := FuncBody.stmts Mine.m_style_steps.val.body, scope := Mine.m_style_steps.val.scope, globals := 3, closure := [], defaults := Value.none, kwdefaults := Value.none, pyModule := Value.str (Str.ofString "outlinemill.stroker") 719, code := Value.ref 406 } }),
  (409, { cls := Value.type "dict", data := Data.dict #[{ hash := PyData.keyHash P (Str.ofString "__module__"), key := Value.str (Str.ofString "__module__") 730, val := Value.str (Str.ofString "outlinemill.stroker") 719 }, { hash := PyData.keyHash P (Str.ofString "__firstlineno__"), key := Value.str (Str.ofString "__firstlineno__") 734, val := Value.int 261 733 }, { hash := PyData.keyHash P (Str.ofString "__init__"), key := Value.str (Str.ofString "__init__") 752, val := Value.ref 393 }, { hash := PyData.keyHash P (Str.ofString "half"), key := Value.str (Str.ofString "half") 759, val := Value.ref 400 }, { hash := PyData.keyHash P (Str.ofString "steps"), key := Value.str (Str.ofString "steps") 767, val := Value.ref 407 }, { hash := PyData.keyHash P (Str.ofString "__static_attributes__"), key := Value.str (Str.ofString "__static_attributes__") 774, val := Value.ref 408 }, { hash := PyData.keyHash P (Str.ofString "__dict__"), key := Value.str (Str.ofString "__dict__") 776, val := Value.ref 411 }, { hash := PyData.keyHash P (Str.ofString "__weakref__"), key := Value.str (Str.ofString "__weakref__") 778, val := Value.ref 412 }, { hash := PyData.keyHash P (Str.ofString "__doc__"), key := Value.str (Str.ofString "__doc__") 779, val := Value.none }] 4 }),
  (410, { cls := Value.type "type", data := Data.cls { name := Str.ofString "Style", bases := [Value.type "object"], mro := [Value.ref 410, Value.type "object"], ns := 409, qualname := Str.ofString "Style" }, slots := #[none, none, some (Value.str (Str.ofString "Style") 723), some (Value.str (Str.ofString "Style") 731), some (Value.builtin "object.__new__"), some (Value.bool true)] })]

noncomputable def kas : List Addr := [3,167,168,174,175,181,182,184,185,277,278,284,285,308,309,384,385,386,392,393,399,400,406,407,409,410]
theorem kas_eq (P : Params) : kas = (kf P).map (·.1) := rfl
noncomputable def lz : List Str := ["SHARP", "Style"]
noncomputable def lvv : List (Str × WData) := [("SHARP", .int 18446744073709551616)]
noncomputable abbrev rowW : RowW := PySem.Challenge.rw_on0251_01.row.toRowW
noncomputable abbrev XtM : Shared → Bool := fun s => xlAt vw lvv s && recOk (RowW.records rowW) s
noncomputable abbrev hookM : Hook := kHook kf kas kas_eq
/-- the top's run over the tree -/
noncomputable def runTop (w : World) (os : OsState) : Option SharedT := topRunT treeTable PySem.Challenge.pw_on0251_01 w (boot_heap w.params).objs.size ((boot_heap w.params).nsMap mainGlobals "__annotations__") 3600 (s0T w os) (topStub PySem.Challenge.pw_on0251_01)
end Mine
end
section
open PySem PySem.W PyProof.Rows
set_option Elab.async false
set_option maxRecDepth 100000
namespace Mine
/-- the records of the functions, by place -/
noncomputable def recL : List DefRec := [d_root_floor.1, d_nearest_root_share.1, d_nearest_share.1, d_way_of.1, d_moved_by.1, d_turned_about.1, d_square_of.1, d_normal_of.1, d_along_of.1, d_parallel.1, d_area_twice_of.1, d_one_sense.1, d_eighth.1, d_disc_about.1, d_is_at_least_root.1, d_is_within_limit.1, d_tip_of.1, d_bevel_spots.1, d_miter_spots.1, d_join_spots.1, d_square_about.1, d_cap_spots.1, d_dot_spots.1, d_side_length.1, d_spot_at.1, d_dashed.1, d_plain_line.1, d_side_pieces.1, d_join_pieces.1, d_corners_of.1, d_stroked_line.1, d_stroked.1, d_l_pool.1, d_l_take.1, d_l_one.1, d_l_normal.1, d_l_sensed.1, d_l_at.1, d_l_side.1, d_l_corner.1, d_l_cap.1, d_l_due.1, d_l_drawn.1, d_law.1]
theorem recs_eq : recsOf vw = recL := by kernel_rfl
theorem loose_eq : looseW vw lz = lz := by kernel_rfl
theorem lits_eq : (litsOf vw).map (·.1) = (["MOST_STEPS"] : List Str) := by kernel_rfl
theorem owns_eq : ownsOf vw = [] := by kernel_rfl
theorem drecs_eq : drecsOf vw = [] := by kernel_rfl
theorem dclss_eq : dclssOf vw lz = [] := by kernel_rfl
theorem wclss_eq : wclssOf vw lz = [] := by kernel_rfl
theorem wdefs_eq : wdefsOf vw = [] := by kernel_rfl
theorem wlits_eq : wlitsOf vw = [] := by kernel_rfl
theorem clss_eq : (clssOf vw lz).map (·.name) = (["MillError", "NumberFault", "SheetFault", "Corner", "Pattern", "Cutter"] : List Str) := by kernel_rfl
/-- what is looked at behind the top, the text's lists written out -/
noncomputable def seenA (mods : List Str) (w : World) (s : Shared) :=
  ((staticsOk mods (boot_heap w.params) s.heap && namesBound PySem.Challenge.pw_on0251_01 s.heap && gensDone s && laidKept (boot_heap w.params) s.heap), Hook.obs hookM s, s.heap.bltView,
   seen (recL.map (·.name)) [] [] { s with gens := #[] })
noncomputable def seenB (mods : List Str) (s : Shared) : Bool × Bool × List (Option PlainShape) :=
  (s.heap.keysOk lz (recL.map (·.name)) ["MOST_STEPS"] ["MillError", "NumberFault", "SheetFault", "Corner", "Pattern", "Cutter"] && s.heap.accountedOkI mods && s.heap.isNs mainGlobals && s.heap.isNs builtinsNs && tablesOk vw s.heap && XtM s && (s.gens.size == 0),
   ((recL.all fun d => s.heap.tab0Ok d.name) && s.heap.bmainOk && valsOk vw s.heap) && (!importsNone vw || s.heap.noSeerOk), plainSeenE vw lz s)
noncomputable def goodS : Seen := ⟨recL.map fun d => some d.shape, true, [], true, true, true, 0⟩
theorem seen_good {mods : List Str} {s : Shared} (h1 : seen (recL.map (·.name)) [] [] { s with gens := #[] } = goodS) (h2 : s.heap.bltView = bltViewBooted) (h : seenB mods s = (true, true, plainGoodE vw lz)) : openSeen vw lz mods XtM true s = openGood vw lz := by
  obtain ⟨h3, h⟩ := Prod.mk.inj h
  obtain ⟨h4, h5⟩ := Prod.mk.inj h
  unfold openSeen openGood
  have e1 : seen ((recsOf vw).map (·.name)) (ownsOf vw) [] { s with gens := #[] } = expectedOf vw := by
    unfold expectedOf; rw [recs_eq, owns_eq]; exact h1
  have e3 : (s.heap.keysOk (looseW vw lz) ((recsOf vw).map (·.name)) ((litsOf vw).map (·.1)) ((clssOf vw (looseW vw lz)).map (·.name)) && s.heap.accountedOkI mods && s.heap.isNs mainGlobals && s.heap.isNs builtinsNs && tablesOk vw s.heap && XtM s && (if true = true then s.gens.size == 0 else !leftWithCleanup s.gens)) = true := by
    rw [loose_eq, recs_eq, lits_eq, clss_eq, if_pos rfl]; exact h3
  have e4 : tabsOk vw s = true := by unfold tabsOk; rw [recs_eq]; exact h4
  rw [e1, h2, e3, e4, drecs_eq, loose_eq, h5]
  unfold plainSeenD plainGoodD wideSeen wideGood clsSeenW clsGoodW
  rw [dclss_eq, wdefs_eq, wlits_eq, wclss_eq]
  rfl
end Mine
end
section
open PySem PySem.W PyProof.Rows
set_option Elab.async false
set_option maxRecDepth 100000
namespace Mine
theorem runA (w : World) (os : OsState) : (runTop w os).map (fun s => seenA (importedModules PySem.Challenge.pw_on0251_01.main.body) w s.abs) = some (true, Hook.val hookM w, bltViewBooted, goodS) := by kernel_rfl
end Mine
end
section
open PySem PySem.W PyProof.Rows
set_option Elab.async false
set_option maxRecDepth 100000
namespace Mine
theorem runB (w : World) (os : OsState) : (runTop w os).map (fun s => seenB (importedModules PySem.Challenge.pw_on0251_01.main.body) s.abs) = some (true, true, plainGoodE vw lz) := by kernel_rfl
end Mine
end
section
open PySem PySem.W PyProof.Rows
set_option Elab.async false
set_option maxRecDepth 100000
namespace Mine

theorem boot_plain0 : opening PySem.Challenge.pw_on0251_01 = plainProg PySem.Challenge.pw_on0251_01.main.scope.names := by kernel_rfl
theorem boot_fence (s : Shared) : fenceModules? PySem.Challenge.pw_on0251_01 s = some s := by kernel_rfl
theorem left_of {p q : Program} {loose : List Str} {Xt : Shared → Bool} {α : Type} {Yf : Shared → α} {Ya : World → α} {N : Nat} {g0 : Bool} {H₀ : Params → Heap} {gs₀ : Array GenState} {d₀ : Drawn} {k₀ : Nat} {R : World → OsState → Option SharedT}
    (open_ : ∀ w : World, (fencedOpening treeTable p w N).map (fun s => (s.heap, s.gens, s.drawn, s.toks)) = some (H₀ w.params, gs₀, d₀, k₀))
    (hz : ∀ P, ((H₀ P).isNs mainGlobals && gs₀.size == 0) = true)
    (hR : ∀ w os s, R w os = some s → topRun treeTable p w (H₀ w.params).objs.size ((H₀ w.params).nsMap mainGlobals "__annotations__") N ⟨H₀ w.params, gs₀, d₀, k₀, os⟩ (topStub p) = some s.abs)
    {α1 β1 : Type} {ZA : World → Shared → α1} {ga : World → α1} {ZB : Shared → β1} {gb : β1} (k1 : ∀ w os, (R w os).map (fun s => ZA w s.abs) = some (ga w)) (k2 : ∀ w os, (R w os).map (fun s => ZB s.abs) = some gb)
    (hZ : ∀ w s, ZA w s = ga w → ZB s = gb → (staticsOk (importedModules p.main.body) (H₀ w.params) s.heap && namesBound p s.heap && gensDone s && laidKept (H₀ w.params) s.heap) = true ∧ Yf s = Ya w ∧ openSeen q loose (importedModules p.main.body) Xt g0 s = openGood q loose) : LeftO p q loose Xt Yf Ya N g0 := fun w => by
  obtain ⟨⟨h, gs, d, k, os⟩, e, e'⟩ := Option.map_eq_some_iff.mp (open_ w)
  obtain ⟨rfl, rfl, rfl, rfl⟩ : h = H₀ w.params ∧ gs = gs₀ ∧ d = d₀ ∧ k = k₀ := by simpa using e'
  obtain ⟨s1, r1, a1⟩ := Option.map_eq_some_iff.mp (k1 w os)
  obtain ⟨s2, r2, a2⟩ := Option.map_eq_some_iff.mp (k2 w os)
  obtain rfl : s1 = s2 := Option.some.inj (r1.symm.trans r2)
  obtain ⟨a1, a3, a2⟩ := hZ w _ a1 a2
  have t : topFrom treeTable p w N ⟨H₀ w.params, gs, d, k, os⟩ = some s1.abs := by
    unfold topFrom
    dsimp only
    rw [hz, hR _ _ _ r1]
    show (match staticsOk (importedModules p.main.body) (H₀ w.params) s1.abs.heap && namesBound p s1.abs.heap && gensDone s1.abs && laidKept (H₀ w.params) s1.abs.heap with | true => _ | false => _) = _
    rw [a1]
  unfold openEnds
  rw [e]
  show (topFrom treeTable p w N _).map _ = _
  rw [t]
  exact congrArg some (Prod.ext a2 a3)
theorem s0_abs (w : World) (os : OsState) : (s0T w os).abs = ⟨boot_heap w.params, Array.mk [], boot_drawn, boot_toks, os⟩ := by
  have h := boot_abs w.params
  show (⟨absHeap (bootT w.params) (lenL (boot_heap w.params).objs.toList) (boot_heap w.params).life, Array.mk [], boot_drawn, boot_toks, os⟩ : Shared) = _
  exact congrArg (fun x => (⟨x, Array.mk [], boot_drawn, boot_toks, os⟩ : Shared)) h.symm
theorem run_of (w : World) (os : OsState) (s : SharedT) (h : runTop w os = some s) : topRun treeTable PySem.Challenge.pw_on0251_01 w (boot_heap w.params).objs.size ((boot_heap w.params).nsMap mainGlobals "__annotations__") 3600 ⟨boot_heap w.params, Array.mk [], boot_drawn, boot_toks, os⟩ (topStub PySem.Challenge.pw_on0251_01) = some s.abs := by
  have := topRunT_of h
  rwa [s0_abs] at this
theorem boot_size2 (P : Params) : ((boot_heap P).isNs mainGlobals && (Array.mk ([] : List GenState)).size == 0) = true := by kernel_rfl
theorem leftM : LeftO PySem.Challenge.pw_on0251_01 vw lz XtM (Hook.obs hookM) (Hook.val hookM) 3600 :=
  left_of (boot_open (N := 3600) boot_plain0 (by decide) boot_fence) boot_size2 run_of runA runB fun w s a b => (Prod.mk.inj a).elim fun a1 a => (Prod.mk.inj a).elim fun a2 a => (Prod.mk.inj a).elim fun a3 a4 => ⟨a1, a2, seen_good a4 a3 b⟩
theorem law_def : defOf vw rowW.name = some (d_law.1, []) := by kernel_rfl
theorem law_the : rowW.prog.theDef rowW.name = some (d_law.1.params, d_law.1.body, d_law.1.scope) := by kernel_rfl
theorem law_kw : kwWritten? d_law.1.params.kwonlyargs d_law.1.params.kw_defaults = some [] := by kernel_rfl
theorem law_ok2 : (chainsOk vw && opensWell PySem.Challenge.rw_on0251_01.row.prog && (frees rowW && rowW.within.isEmpty)) = true := by kernel_rfl
set_option maxHeartbeats 8000000 in
theorem law_said : PySem.Challenge.rw_on0251_01.wellSaid = true := by
  unfold OpenLaw.wellSaid OpenRow.wellSaid OpenRow.partSaid looksOpen
  repeat' (with_reducible refine look_both ?_ ?_)
  all_goals decide +kernel
theorem hd (hc : WalkO vw lz (XL vw lvv) (Hook.says hookM) rowW d_law.1 [] fun f vs => PySem.call f vs) : PySem.Challenge.rw_on0251_01.Holds := by
  refine holds_law law_said fun said => ?_
  refine holds_open (q := vw) (loose := lz) (Xt := XtM) (XP := XL vw lvv) (Yf := Hook.obs hookM) (Ya := Hook.val hookM) (YP := Hook.says hookM) (d := d_law.1) (kwd := []) (N := 3600) leftM (Hook.of hookM) (Hook.keeps hookM) (fun s e => xl_of s (Bool.and_eq_true_iff.mp e).1) XL.keeps law_def law_the law_kw (fun s e => recFacts_of (Bool.and_eq_true_iff.mp e).2) (by kernel_rfl) said law_ok2 ⟨rfl, rfl, rfl, rfl, rfl, by decide +kernel⟩ ?_ hc
  w_witness2
end Mine
end
section
open PySem PySem.W PyProof.Rows
namespace Mine

inductive V where
  | none | bool (b : Bool) | int (i : Int) | str (x : Str)
  | tup (l : List V) | obj (n : Nat) | rng (a b : Int) | lst (a : Nat)
  deriving Inhabited

inductive Ob where
  | list (l : List V)
  | inst (c : Str) (fs : List (Str × V))
  deriving Inhabited
noncomputable abbrev Sto := List Ob
noncomputable abbrev Loc := Str → Option V
inductive Fl where
  | next | ret (v : V)

noncomputable def upd (L : Loc) (x : Str) (v : V) : Loc := fun y => if y = x then some v else L y

mutual
noncomputable def free : V → Bool
  | .tup l => freeL l
  | .obj _ => false
  | .rng _ _ => false
  | .lst _ => false
  | _ => true
noncomputable def freeL : List V → Bool
  | [] => true
  | v :: vs => free v && freeL vs
end

mutual
noncomputable def py : V → PyData
  | .none => .none
  | .bool b => .bool b
  | .int i => .int i
  | .str x => .str x
  | .tup l => .tuple (pyL l)
  | .obj _ => .none
  | .rng _ _ => .none
  | .lst _ => .none
noncomputable def pyL : List V → List PyData
  | [] => []
  | v :: vs => py v :: pyL vs
end

/-- a value as data: free, or a list of free ones -/
noncomputable def data (σ : Sto) : V → Option PyData
  | .obj n => match σ[n]? with
    | some (.list l) => if freeL l then some (.list (pyL l)) else none
    | _ => none
  | v => if free v then some (py v) else none

noncomputable def okData (d : PyData) : Bool := d.canLay0 && decide (d.depth ≤ 64)

noncomputable def small (a : Int) : Bool := decide (-(2 ^ 60) < a) && decide (a < 2 ^ 60)

noncomputable def binI : Operator → Int → Int → Option V
  | .Add, a, b => some (.int (a + b))
  | .Sub, a, b => some (.int (a - b))
  | .Mult, a, b => if small a || small b then some (.int (a * b)) else none
  | .FloorDiv, a, b => if decide (b ≠ 0) && decide (b.natAbs < 1073741824) then some (.int (a.fdiv b)) else none
  | .Mod, a, b => if decide (b ≠ 0) then some (.int (a.fmod b)) else none
  | .Pow, a, b => if decide (0 ≤ b) && decide (b ≤ 100) && small a then some (.int (a ^ b.toNat)) else none
  | _, _, _ => none

noncomputable def most : Nat := 1000000

noncomputable def binS (op : Operator) (σ : Sto) : V → V → Option (V × Sto)
  | .int a, .int b => (binI op a b).map fun v => (v, σ)
  | .obj m, .obj n => match op, σ[m]?, σ[n]? with
    | .Add, some (.list l), some (.list r) => if decide (l.length + r.length ≤ most) then some (.obj σ.length, σ ++ [.list (l ++ r)]) else none
    | _, _, _ => none
  | _, _ => none

noncomputable def cmpS (op : CmpOp) (σ : Sto) (a b : V) : Option Bool := match op with
  | .Eq => (data σ a).bind fun x => (data σ b).bind fun y => if okData x && okData y then some (PyData.eqv x y) else none
  | .NotEq => (data σ a).bind fun x => (data σ b).bind fun y => if okData x && okData y then some (!PyData.eqv x y) else none
  | .Lt => match a, b with | .int x, .int y => some (decide (x < y)) | _, _ => none
  | .LtE => match a, b with | .int x, .int y => some (decide (x ≤ y)) | _, _ => none
  | .Gt => match a, b with | .int x, .int y => some (decide (x > y)) | _, _ => none
  | .GtE => match a, b with | .int x, .int y => some (decide (x ≥ y)) | _, _ => none
  | .IsNot => match a, b with
    | .none, .none => some false
    | .tup _, .none => some true
    | _, _ => none
  | _ => none

/-- a sequence's items -/
noncomputable def items (σ : Sto) : V → Option (List V)
  | .tup l => if decide (l.length ≤ most) then some l else none
  | .obj n => match σ[n]? with
    | some (.list l) => if decide (l.length ≤ most) then some l else none
    | _ => none
  | .rng a b => if small a && small b && decide (b - a ≤ most) then some ((List.range (b - a).toNat).map fun (k : Nat) => V.int (a + k)) else none
  | _ => none

noncomputable def place (k : Int) (n : Nat) : Option Nat :=
  if 0 ≤ k then (if k < n then some k.toNat else none) else (if -(n : Int) ≤ k then some (k + n).toNat else none)

noncomputable def getAt (l : List V) (k : Int) : Option V := (place k l.length).bind fun j => l[j]?

structure Funs where
  ev : Loc → Sto → Expr → Option (V × Sto)
  tst : Loc → Sto → Expr → Option (Bool × Sto)
  ex : Loc → Sto → Stmt → Option (Fl × Loc × Sto)

noncomputable def evs (f : Sto → Expr → Option (V × Sto)) : Sto → List Expr → Option (List V × Sto)
  | σ, [] => some ([], σ)
  | σ, e :: es => match f σ e with
    | some (v, σ1) => (match evs f σ1 es with
      | some (vs, σ2) => some (v :: vs, σ2)
      | none => none)
    | none => none

noncomputable def exs (f : Loc → Sto → Stmt → Option (Fl × Loc × Sto)) : Loc → Sto → List Stmt → Option (Fl × Loc × Sto)
  | L, σ, [] => some (.next, L, σ)
  | L, σ, s :: ss => match f L σ s with
    | some (.next, L1, σ1) => exs f L1 σ1 ss
    | some (.ret v, L1, σ1) => some (.ret v, L1, σ1)
    | none => none

/-- what is gone over: a value, or two lists at once -/
inductive It where
  | one (v : V) | two (m k : Nat)

noncomputable def zipT : List V → List V → List V
  | a :: as, b :: bs => .tup [a, b] :: zipT as bs
  | _, _ => []

open Classical in
/-- what is gone over has not changed -/
noncomputable def still (σ : Sto) (it : It) (vs : List V) : Bool := match it with
  | .one v => decide (items σ v = some vs)
  | .two m k => match σ[m]?, σ[k]? with
    | some (.list l), some (.list r) => decide (m ≠ k) && decide (l.length ≤ most) && decide (r.length ≤ most) && decide (zipT l r = vs)
    | _, _ => false

theorem still_one {σ : Sto} {v : V} {vs : List V} : still σ (.one v) vs = true ↔ items σ v = some vs := by unfold still; simp
theorem still_two {σ : Sto} {m k : Nat} {vs : List V} (h : still σ (.two m k) vs = true) : ∃ l r, σ[m]? = some (.list l) ∧ σ[k]? = some (.list r) ∧ m ≠ k ∧ zipT l r = vs := by
  unfold still at h
  dsimp only at h
  split at h
  · rename_i l r e1 e2
    simp only [Bool.and_eq_true, decide_eq_true_eq] at h
    exact ⟨l, r, e1, e2, h.1.1.1, h.2⟩
  · cases h

noncomputable def forL (chk : Sto → Bool) (f : V → Loc → Sto → Option (Fl × Loc × Sto)) : List V → Loc → Sto → Option (Fl × Loc × Sto)
  | [], L, σ => if chk σ then some (.next, L, σ) else none
  | v :: vs, L, σ => if chk σ then (match f v L σ with
    | some (.next, L1, σ1) => forL chk f vs L1 σ1
    | some (.ret r, L1, σ1) => some (.ret r, L1, σ1)
    | none => none) else none

noncomputable def whileL (t : Loc → Sto → Option (Bool × Sto)) (f : Loc → Sto → Option (Fl × Loc × Sto)) : Nat → Loc → Sto → Option (Fl × Loc × Sto)
  | 0, _, _ => none
  | n + 1, L, σ => match t L σ with
    | some (true, σ1) => (match f L σ1 with
      | some (.next, L2, σ2) => whileL t f n L2 σ2
      | some (.ret r, L2, σ2) => some (.ret r, L2, σ2)
      | none => none)
    | some (false, σ1) => some (.next, L, σ1)
    | none => none

/-- bind a target's names (for a name, or a flat tuple of names) -/
noncomputable def names? : List Expr → Option (List Str)
  | [] => some []
  | .Name x _ :: r => (names? r).map (x :: ·)
  | _ => none
noncomputable def updL (L : Loc) : List Str → List V → Loc
  | x :: xs, v :: vs => updL (upd L x v) xs vs
  | _, _ => L
noncomputable def bindT (L : Loc) (σ : Sto) : Expr → V → Option Loc
  | .Name x _, v => some (upd L x v)
  | .Tuple es _ _, v => match names? es, v with
    | some xs, .tup l => if decide (xs.length = l.length) then some (updL L xs l) else none
    | some xs, .obj n => (match σ[n]? with
      | some (.list l) => if decide (xs.length = l.length) then some (updL L xs l) else none
      | _ => none)
    | _, _ => none
  | _, _ => none

/-- all the tests of a clause -/
noncomputable def tests (f : Sto → Expr → Option (Bool × Sto)) : Sto → List Expr → Option (Bool × Sto)
  | σ, [] => some (true, σ)
  | σ, e :: es => match f σ e with
    | some (true, σ1) => tests f σ1 es
    | some (false, σ1) => some (false, σ1)
    | none => none

/-- the turns of a comprehension's clause -/
noncomputable def compL (chk : Sto → Bool) (f : V → Sto → Option Sto) : List V → Sto → Option Sto
  | [], σ => if chk σ then some σ else none
  | v :: vs, σ => if chk σ then (match f v σ with
    | some σ1 => compL chk f vs σ1
    | none => none) else none

open Classical in
/-- what a call leaves: its junk is forgotten where nothing points to it -/
noncomputable def gc (σ : Sto) (v : V) (σ' : Sto) : V × Sto :=
  if σ'.take σ.length = σ then
    if free v then (v, σ) else match v with
      | .obj k => (match σ'[k]? with
        | some (.list l) => if decide (σ.length ≤ k) && freeL l then (.obj σ.length, σ ++ [.list l]) else (v, σ')
        | some (.inst c fs) => if decide (σ.length ≤ k) && freeL (fs.map (·.2)) then (.obj σ.length, σ ++ [.inst c fs]) else (v, σ')
        | none => (v, σ'))
      | _ => (v, σ')
  else (v, σ')

noncomputable def bindP (xs : List Str) (vs : List V) : Loc := fun y => (xs.zip vs).lookup y

noncomputable def sliceG {α : Type} (l : List α) (lo hi st : Option Int) : List α :=
  (sliceRange (sliceBounds lo hi st l.length).1 (sliceBounds lo hi st l.length).2.1 (sliceBounds lo hi st l.length).2.2).filterMap (l[·]?)

inductive Bi where
  | len | range | abs | max | min | int | tuple | sum | zip
inductive Kd where
  | bi (b : Bi)
  | fn (d : DefRec)
  | cls (c : Str)
  | const (v : V)
structure Tbl where
  kind : Str → Option Kd
  meth : Str → Str → Option DefRec
  dfl : Str → List V
  field : Str → Str → Bool
  ro : Nat → Option (List Int)

noncomputable def on1 (vs : List V) (f : V → Option V) : Option V := match vs with
  | [v] => f v
  | _ => none
noncomputable def on2 (vs : List V) (f : V → V → Option V) : Option V := match vs with
  | [a, b] => f a b
  | _ => none
noncomputable def asI (v : V) (f : Int → Option V) : Option V := match v with
  | .int i => f i
  | _ => none
noncomputable def lenV (T : Tbl) (σ : Sto) (v : V) : Option V := match v with
  | .rng _ _ => none
  | .lst a => (T.ro a).bind fun xs => if decide (xs.length ≤ most) then some (.int xs.length) else none
  | v => (items σ v).map fun l => .int l.length
noncomputable def biC (T : Tbl) (b : Bi) (vs : List V) (σ : Sto) : Option V := match b with
  | .len => on1 vs (lenV T σ)
  | .range => (match vs with
    | [_] => on1 vs fun v => asI v fun n => some (.rng 0 n)
    | _ => on2 vs fun v u => asI v fun a => asI u fun b => some (.rng a b))
  | .abs => on1 vs fun v => asI v fun a => some (.int (if a < 0 then -a else a))
  | .max => on2 vs fun v u => asI v fun a => asI u fun b => some (.int (if b > a then b else a))
  | .min => on2 vs fun v u => asI v fun a => asI u fun b => some (.int (if b < a then b else a))
  | .int => on1 vs fun v => (match v with
    | .int a => some (.int a)
    | .bool b => some (.int (if b then 1 else 0))
    | _ => none)
  | .tuple => on1 vs fun v => (match v with
    | .tup l => some (.tup l)
    | .obj n => (match σ[n]? with
      | some (.list l) => if decide (l.length ≤ most) then some (.tup l) else none
      | _ => none)
    | _ => none)
  | .sum => on1 vs fun v => (match v with
    | .tup l => (match l with
      | [] => some (.int 0)
      | _ => none)
    | _ => none)
  | .zip => none

noncomputable def callD (F : Funs) (d : DefRec) (vs : List V) (σ : Sto) : Option (V × Sto) :=
  if vs.length = d.params.args.length then
    match exs F.ex (bindP (d.params.args.map (·.arg)) vs) σ d.body with
    | some (.ret v, _, σ') => some (gc σ v σ')
    | some (.next, _, σ') => some (gc σ .none σ')
    | none => none
  else none

noncomputable def mkC (T : Tbl) (F : Funs) (c : Str) (vs : List V) (σ : Sto) : Option (V × Sto) :=
  match T.meth c (Str.ofString "__init__") with
  | some d =>
    let df := T.dfl c
    let n := d.params.args.length
    let all := .obj σ.length :: vs ++ df.drop (df.length - (n - 1 - vs.length))
    if all.length = n then
      match exs F.ex (bindP (d.params.args.map (·.arg)) all) (σ ++ [.inst c []]) d.body with
      | some (.next, _, σ') => some (gc σ (.obj σ.length) σ')
      | _ => none
    else none
  | none => none

noncomputable def putF (x : Str) (v : V) : List (Str × V) → List (Str × V)
  | [] => [(x, v)]
  | (y, u) :: r => if y = x then (y, v) :: r else (y, u) :: putF x v r

/-- the methods of lists: what comes back, and the store -/
noncomputable def listM (m : Str) (n : Nat) (l : List V) (vs : List V) (σ : Sto) : Option (V × Sto) :=
  if m = Str.ofString "append" then
    match vs with
    | [v] => if decide (l.length < most) then some (.none, σ.set n (.list (l ++ [v]))) else none
    | _ => none
  else if m = Str.ofString "extend" then
    match vs with
    | [.obj k] => (match σ[k]? with
      | some (.list r) => if decide (k ≠ n) && decide (l.length + r.length ≤ most) then some (.none, σ.set n (.list (l ++ r))) else none
      | _ => none)
    | _ => none
  else if m = Str.ofString "pop" then
    match vs with
    | [] => (match l.getLast? with
      | some v => if free v && decide (l.length ≤ most) then some (v, σ.set n (.list l.dropLast)) else none
      | none => none)
    | _ => none
  else none

noncomputable def optI : Option V → Option (Option Int)
  | none => some none
  | some (.int i) => some (some i)
  | _ => none

noncomputable def evo (f : Sto → Expr → Option (V × Sto)) (σ : Sto) : Option Expr → Option (Option V × Sto)
  | none => some (none, σ)
  | some e => match f σ e with
    | some (v, σ1) => some (some v, σ1)
    | none => none

noncomputable def hide (sc : Scope) (L : Loc) : Loc := fun y => if sc.names.lookup y = some .local then none else L y

/-- one clause of a comprehension after another: a turn binds the target, asks the tests, and goes on within; n: where the list lies -/
noncomputable def clauses (F : Funs) (n : Nat) (elt : Expr) : List Comprehension → Loc → It → List V → Sto → Option Sto
  | [], _, _, _, _ => none
  | ⟨t, _, ifs, _⟩ :: gs, L, it, vs, σ => compL (fun σ => still σ it vs) (fun v σ => match bindT L σ t v with
      | some L1 => (match tests (fun σ e => F.tst L1 σ e) σ ifs with
        | some (false, σ2) => some σ2
        | some (true, σ2) => (match gs with
          | [] => (match F.ev L1 σ2 elt with
            | some (w, σ3) => (match σ3[n]? with
              | some (.list l) => if decide (l.length < most) then some (σ3.set n (.list (l ++ [w]))) else none
              | _ => none)
            | none => none)
          | g :: gs' => (match F.ev L1 σ2 g.iter with
            | some (w, σ3) => (match items σ3 w with
              | some ws => clauses F n elt (g :: gs') L1 (.one w) ws σ3
              | none => none)
            | none => none))
        | none => none)
      | none => none) vs σ

/-- what a for, or a comprehension's first clause, goes over -/
noncomputable def overE (T : Tbl) (F : Funs) (L : Loc) (σ : Sto) (t e : Expr) : Option (It × List V × Sto) := match t, e with
  | .Tuple _ _ _, .Call (.Name x _) [a, b] [] _ => (match T.kind x with
    | some (.bi .zip) => (match F.ev L σ a with
      | some (v, σ1) => (match F.ev L σ1 b with
        | some (w, σ2) => (match v, w with
          | .obj m, .obj k => (match σ2[m]?, σ2[k]? with
            | some (.list l), some (.list r) => some (.two m k, zipT l r, σ2)
            | _, _ => none)
          | _, _ => none)
        | none => none)
      | none => none)
    | _ => (match F.ev L σ e with
      | some (v, σ1) => (items σ1 v).map fun l => (.one v, l, σ1)
      | none => none))
  | _, e => (match F.ev L σ e with
    | some (v, σ1) => (items σ1 v).map fun l => (.one v, l, σ1)
    | none => none)

/-- a call by a name -/
noncomputable def callN (T : Tbl) (F : Funs) (x : Str) (vs : List V) (σ : Sto) : Option (V × Sto) := match T.kind x with
  | some (.bi b) => (biC T b vs σ).map fun v => (v, σ)
  | some (.fn d) => callD F d vs σ
  | some (.cls c) => mkC T F c vs σ
  | _ => none

/-- a method's call: its object is looked at ahead of the arguments, and once more behind them -/
noncomputable def methC (T : Tbl) (F : Funs) (m : Str) (o : V) (σ1 : Sto) (args : Option (List V × Sto)) : Option (V × Sto) := match o with
  | .obj n => (match σ1[n]? with
    | some (.list _) => (match args with
      | some (vs, σ2) => (match σ2[n]? with
        | some (.list l) => listM m n l vs σ2
        | _ => none)
      | none => none)
    | some (.inst c fs) => (match fs.lookup m with
      | some _ => none
      | none => if m = Str.ofString "__init__" then none else (match T.meth c m with
        | some d => (match args with
          | some (vs, σ2) => callD F d (o :: vs) σ2
          | none => none)
        | none => none))
    | none => none)
  | _ => none

noncomputable def subC (T : Tbl) (σ : Sto) (o i : V) : Option V := match o, i with
  | .lst a, .int k => if small k then (T.ro a).bind fun xs => getAt (xs.map .int) k else none
  | .tup l, .int k => if small k then getAt l k else none
  | .obj n, .int k => (match σ[n]? with
    | some (.list l) => if small k then getAt l k else none
    | _ => none)
  | _, _ => none

noncomputable def evS (T : Tbl) (F : Funs) (L : Loc) (σ : Sto) (e : Expr) : Option (V × Sto) := match e with
  | .Constant c _ _ => (match c with
    | .none => some (.none, σ)
    | .bool b => some (.bool b, σ)
    | .int i => some (.int i, σ)
    | .str x => some (.str x, σ)
    | _ => none)
  | .Name x _ => (match T.kind x with
    | some (.const v) => some (v, σ)
    | some _ => none
    | none => (L x).map fun v => (v, σ))
  | .BinOp l op r _ => (match F.ev L σ l with
    | some (a, σ1) => (match F.ev L σ1 r with
      | some (b, σ2) => binS op σ2 a b
      | none => none)
    | none => none)
  | .UnaryOp u x _ => (match u with
    | .USub => (match F.ev L σ x with
      | some (.int a, σ1) => some (.int (-a), σ1)
      | _ => none)
    | _ => none)
  | .Compare l ops rs _ => (match ops with
    | [op] => (match rs with
      | [r] => (match F.ev L σ l with
        | some (a, σ1) => (match F.ev L σ1 r with
          | some (b, σ2) => (cmpS op σ2 a b).map fun c => (.bool c, σ2)
          | none => none)
        | none => none)
      | _ => none)
    | _ => none)
  | .BoolOp op xs _ => (match xs with
    | [x, y] => (match F.ev L σ x with
      | some (.bool a, σ1) => (match op, a with
        | .And, false => some (.bool false, σ1)
        | .Or, true => some (.bool true, σ1)
        | _, _ => F.ev L σ1 y)
      | _ => none)
    | _ => none)
  | .IfExp t x y _ => (match F.tst L σ t with
    | some (b, σ1) => if b then F.ev L σ1 x else F.ev L σ1 y
    | none => none)
  | .Tuple es _ _ => (match evs (F.ev L) σ es with
    | some (vs, σ1) => if decide (vs.length ≤ most) then some (.tup vs, σ1) else none
    | none => none)
  | .List es _ => (match evs (F.ev L) σ es with
    | some (vs, σ1) => if decide (vs.length ≤ most) then some (.obj σ1.length, σ1 ++ [.list vs]) else none
    | none => none)
  | .Subscript o i _ => (match F.ev L σ o with
    | some (ov, σ1) => (match i with
      | .Slice lo hi st _ => (match evo (F.ev L) σ1 lo with
        | some (a, σ2) => (match evo (F.ev L) σ2 hi with
          | some (b, σ3) => (match evo (F.ev L) σ3 st with
            | some (c, σ4) => (match ov with
              | .obj n => (match optI a with
                | some a => (match optI b with
                  | some b => (match optI c with
                    | some c => (match σ4[n]? with
                      | some (.list l) => if decide (c ≠ some 0) && decide (l.length ≤ most) then some (.obj σ4.length, σ4 ++ [.list (sliceG l a b c)]) else none
                      | _ => none)
                    | none => none)
                  | none => none)
                | none => none)
              | _ => none)
            | none => none)
          | none => none)
        | none => none)
      | i => (match F.ev L σ1 i with
        | some (iv, σ2) => (subC T σ2 ov iv).map fun v => (v, σ2)
        | none => none))
    | none => none)
  | .Attribute o a _ => (match o with
    | .Name y q => (match F.ev L σ (.Name y q) with
      | some (.obj n, σ1) => (match σ1[n]? with
        | some (.inst c fs) => if T.field c a then (fs.lookup a).map fun v => (v, σ1) else none
        | _ => none)
      | _ => none)
    | _ => none)
  | .Call f args ks _ => (match ks with
    | [] => (match f with
      | .Name x _ => (match evs (F.ev L) σ args with
        | some (vs, σ1) => callN T F x vs σ1
        | none => none)
      | .Attribute o m _ => (match o with
        | .Name y q => (match F.ev L σ (.Name y q) with
          | some (ov, σ1) => methC T F m ov σ1 (evs (F.ev L) σ1 args)
          | none => none)
        | _ => none)
      | _ => none)
    | _ => none)
  | .ListComp elt gens sc _ => (match gens with
    | [] => none
    | ⟨t, it, ifs, a⟩ :: gs => (match overE T F L σ t it with
      | some (w, vs, σ1) => (match clauses F σ1.length elt (⟨t, it, ifs, a⟩ :: gs) (hide sc L) w vs (σ1 ++ [.list []]) with
        | some σ2 => some (.obj σ1.length, σ2)
        | none => none)
      | none => none))
  | _ => none

/-- a name's new value -/
noncomputable def evA (T : Tbl) (F : Funs) (L : Loc) (σ : Sto) (e : Expr) : Option (V × Sto) := match e with
  | .ListComp elt gens sc pos => evS T F L σ (.ListComp elt gens sc pos)
  | e => F.ev L σ e

noncomputable def allT (op : BoolOp) (f : Sto → Expr → Option (Bool × Sto)) : Sto → List Expr → Option (Bool × Sto)
  | σ, [] => some (op == .And, σ)
  | σ, e :: es => match f σ e with
    | some (b, σ1) => (match op, b with
      | .And, false => some (false, σ1)
      | .Or, true => some (true, σ1)
      | _, _ => allT op f σ1 es)
    | none => none

noncomputable def tstS (F : Funs) (L : Loc) (σ : Sto) (e : Expr) : Option (Bool × Sto) := match e with
  | .UnaryOp u x _ => (match u with
    | .Not => (match F.tst L σ x with
      | some (b, σ1) => some (!b, σ1)
      | none => none)
    | _ => none)
  | .BoolOp op vs _ => allT op (F.tst L) σ vs
  | .Compare l ops rs _ => (match ops with
    | [op] => (match rs with
      | [r] => (match F.ev L σ l with
        | some (a, σ1) => (match F.ev L σ1 r with
          | some (b, σ2) => (cmpS op σ2 a b).map fun c => (c, σ2)
          | none => none)
        | none => none)
      | _ => none)
    | _ => none)
  | .Name x q => (match F.ev L σ (.Name x q) with
    | some (.bool b, σ1) => some (b, σ1)
    | _ => none)
  | .Call f as ks q => (match F.ev L σ (.Call f as ks q) with
    | some (.bool b, σ1) => some (b, σ1)
    | _ => none)
  | _ => none

noncomputable def exS (T : Tbl) (F : Funs) (n : Nat) (L : Loc) (σ : Sto) (st : Stmt) : Option (Fl × Loc × Sto) := match st with
  | .Return o _ => (match o with
    | some e => (match F.ev L σ e with
      | some (v, σ1) => some (.ret v, L, σ1)
      | none => none)
    | none => none)
  | .Assign ts e _ => (match ts with
   | [t] => (match t with
    | .Name x _ => (match evA T F L σ e with
      | some (v, σ1) => some (.next, upd L x v, σ1)
      | none => none)
    | .Tuple ts k q => (match F.ev L σ e with
      | some (v, σ1) => (match bindT L σ1 (.Tuple ts k q) v with
        | some L1 => some (.next, L1, σ1)
        | none => none)
      | none => none)
    | .Attribute (.Name y q) a _ => (match F.ev L σ e with
      | some (v, σ1) => (match F.ev L σ1 (.Name y q) with
        | some (.obj n, σ2) => (match σ2[n]? with
          | some (.inst c fs) => if T.field c a && decide (fs.length < 100) then some (.next, L, σ2.set n (.inst c (putF a v fs))) else none
          | _ => none)
        | _ => none)
      | none => none)
    | .Subscript o i _ => (match F.ev L σ e with
      | some (v, σ1) => (match F.ev L σ1 o with
        | some (.obj n, σ2) => (match F.ev L σ2 i with
          | some (.int k, σ3) => (match σ3[n]? with
            | some (.list l) => if decide (0 ≤ k) && decide (k < l.length) && small k then some (.next, L, σ3.set n (.list (l.set k.toNat v))) else none
            | _ => none)
          | _ => none)
        | _ => none)
      | none => none)
    | _ => none)
   | _ => none)
  | .AugAssign t op e _ => (match t with
    | .Name x _ => (match op with
      | .Add => (match L x with
        | some (.int a) => (match F.ev L σ e with
          | some (.int b, σ2) => some (.next, upd L x (.int (a + b)), σ2)
          | _ => none)
        | _ => none)
      | _ => none)
    | _ => none)
  | .Expr e _ => (match e with
    | .Call f as ks q => (match F.ev L σ (.Call f as ks q) with
      | some (_, σ1) => some (.next, L, σ1)
      | none => none)
    | _ => none)
  | .If t b o _ => (match F.tst L σ t with
    | some (c, σ1) => if c then exs F.ex L σ1 b else exs F.ex L σ1 o
    | none => none)
  | .While t b o _ => (match o with
    | [] => whileL (fun L σ => F.tst L σ t) (fun L σ => exs F.ex L σ b) n L σ
    | _ => none)
  | .For t it b o _ => (match o with
    | [] => (match F.ev L σ it with
      | some (w, σ1) => (match items σ1 w with
        | some vs => forL (fun σ => still σ (.one w) vs) (fun v L σ => match bindT L σ t v with
            | some L1 => exs F.ex L1 σ b
            | none => none) vs L σ1
        | none => none)
      | none => none)
    | _ => none)
  | _ => none

noncomputable def lvl (T : Tbl) : Nat → Funs
  | 0 => ⟨fun _ _ _ => none, fun _ _ _ => none, fun _ _ _ => none⟩
  | n + 1 => ⟨evS T (lvl T n), tstS (lvl T n), exS T (lvl T n) n⟩


/-- whatever comes, P holds of it -/
noncomputable def Ok {α : Type} (o : Option α) (P : α → Prop) : Prop := ∀ a, o = some a → P a
noncomputable def Ok2 {α β : Type} (o : Option (α × β)) (P : α → β → Prop) : Prop := ∀ a b, o = some (a, b) → P a b
noncomputable def Ok3 {α β γ : Type} (o : Option (α × β × γ)) (P : α → β → γ → Prop) : Prop := ∀ a b c, o = some (a, b, c) → P a b c
section
variable {α β γ δ : Type} {P1 : α → Prop} {P2 : α → β → Prop} {P3 : α → β → γ → Prop}
theorem Ok.no : Ok none P1 := fun _ h => nomatch h
theorem Ok.ret {a : α} (h : P1 a) : Ok (some a) P1 := fun _ e => Option.some.inj e ▸ h
theorem Ok2.no : Ok2 none P2 := fun _ _ h => nomatch h
theorem Ok3.no : Ok3 none P3 := fun _ _ _ h => nomatch h
theorem Ok2.ret {a : α} {b : β} (h : P2 a b) : Ok2 (some (a, b)) P2 := fun x y e => show P2 (x, y).1 (x, y).2 from Option.some.inj e ▸ h
theorem Ok3.ret {a : α} {b : β} {c : γ} (h : P3 a b c) : Ok3 (some (a, b, c)) P3 := fun x y z e => show P3 (x, y, z).1 (x, y, z).2.1 (x, y, z).2.2 from Option.some.inj e ▸ h
theorem Ok.ite {c : Bool} {x : Option α} (h : c = true → Ok x P1) : Ok (if c then x else none) P1 := by
  cases c with
  | false => exact Ok.no
  | true => exact h rfl
theorem Ok2.ite {c : Bool} {x : Option (α × β)} (h : c = true → Ok2 x P2) : Ok2 (if c then x else none) P2 := by
  cases c with
  | false => exact Ok2.no
  | true => exact h rfl
theorem Ok3.ite {c : Bool} {x : Option (α × β × γ)} (h : c = true → Ok3 x P3) : Ok3 (if c then x else none) P3 := by
  cases c with
  | false => exact Ok3.no
  | true => exact h rfl
theorem Ok2.map {o : Option δ} {g : δ → α} {b : β} (h : ∀ a, o = some a → P2 (g a) b) : Ok2 (o.map fun a => (g a, b)) P2 := by
  cases o with
  | none => exact Ok2.no
  | some p => exact Ok2.ret (h p rfl)
theorem Ok2.bv {o : Option (V × Sto)} {f : V → Sto → Option (α × β)} (h : ∀ a b, o = some (a, b) → Ok2 (f a b) P2) : Ok2 (match o with | some (a, b) => f a b | none => none) P2 := by
  cases o with
  | none => exact Ok2.no
  | some p => exact h p.1 p.2 rfl
theorem Ok2.bvs {o : Option (List V × Sto)} {f : (List V) → Sto → Option (α × β)} (h : ∀ a b, o = some (a, b) → Ok2 (f a b) P2) : Ok2 (match o with | some (a, b) => f a b | none => none) P2 := by
  cases o with
  | none => exact Ok2.no
  | some p => exact h p.1 p.2 rfl
theorem Ok2.bt {o : Option (Bool × Sto)} {f : Bool → Sto → Option (α × β)} (h : ∀ a b, o = some (a, b) → Ok2 (f a b) P2) : Ok2 (match o with | some (a, b) => f a b | none => none) P2 := by
  cases o with
  | none => exact Ok2.no
  | some p => exact h p.1 p.2 rfl
theorem Ok2.bo {o : Option (Option V × Sto)} {f : (Option V) → Sto → Option (α × β)} (h : ∀ a b, o = some (a, b) → Ok2 (f a b) P2) : Ok2 (match o with | some (a, b) => f a b | none => none) P2 := by
  cases o with
  | none => exact Ok2.no
  | some p => exact h p.1 p.2 rfl
theorem Ok2.bk {o : Option (Option Int)} {f : (Option Int) → Option (α × β)} (h : ∀ a, o = some a → Ok2 (f a) P2) : Ok2 (match o with | some a => f a | none => none) P2 := by
  cases o with
  | none => exact Ok2.no
  | some p => exact h p rfl
theorem Ok2.bs {o : Option Sto} {f : Sto → Option (α × β)} (h : ∀ a, o = some a → Ok2 (f a) P2) : Ok2 (match o with | some a => f a | none => none) P2 := by
  cases o with
  | none => exact Ok2.no
  | some p => exact h p rfl
theorem Ok2.bit {o : Option (It × List V × Sto)} {f : It → (List V) → Sto → Option (α × β)} (h : ∀ a b c, o = some (a, b, c) → Ok2 (f a b c) P2) : Ok2 (match o with | some (a, b, c) => f a b c | none => none) P2 := by
  cases o with
  | none => exact Ok2.no
  | some p => exact h p.1 p.2.1 p.2.2 rfl
theorem Ok3.bv {o : Option (V × Sto)} {f : V → Sto → Option (α × β × γ)} (h : ∀ a b, o = some (a, b) → Ok3 (f a b) P3) : Ok3 (match o with | some (a, b) => f a b | none => none) P3 := by
  cases o with
  | none => exact Ok3.no
  | some p => exact h p.1 p.2 rfl
theorem Ok3.bt {o : Option (Bool × Sto)} {f : Bool → Sto → Option (α × β × γ)} (h : ∀ a b, o = some (a, b) → Ok3 (f a b) P3) : Ok3 (match o with | some (a, b) => f a b | none => none) P3 := by
  cases o with
  | none => exact Ok3.no
  | some p => exact h p.1 p.2 rfl
theorem Ok3.bl {o : Option Loc} {f : Loc → Option (α × β × γ)} (h : ∀ a, o = some a → Ok3 (f a) P3) : Ok3 (match o with | some a => f a | none => none) P3 := by
  cases o with
  | none => exact Ok3.no
  | some p => exact h p rfl
theorem Ok3.bi {o : Option (List V)} {f : (List V) → Option (α × β × γ)} (h : ∀ a, o = some a → Ok3 (f a) P3) : Ok3 (match o with | some a => f a | none => none) P3 := by
  cases o with
  | none => exact Ok3.no
  | some p => exact h p rfl
theorem Ok2.int {o : Option (V × Sto)} {f : Int → Sto → Option (α × β)} (h : ∀ a b, o = some (.int a, b) → Ok2 (f a b) P2) : Ok2 (match o with | some (.int a, b) => f a b | _ => none) P2 := by
  cases o with
  | none => exact Ok2.no
  | some p => obtain ⟨v, b⟩ := p; cases v <;> first | exact h _ _ rfl | exact Ok2.no
theorem Ok2.bool {o : Option (V × Sto)} {f : Bool → Sto → Option (α × β)} (h : ∀ a b, o = some (.bool a, b) → Ok2 (f a b) P2) : Ok2 (match o with | some (.bool a, b) => f a b | _ => none) P2 := by
  cases o with
  | none => exact Ok2.no
  | some p => obtain ⟨v, b⟩ := p; cases v <;> first | exact h _ _ rfl | exact Ok2.no
theorem Ok2.obj {o : Option (V × Sto)} {f : Nat → Sto → Option (α × β)} (h : ∀ a b, o = some (.obj a, b) → Ok2 (f a b) P2) : Ok2 (match o with | some (.obj a, b) => f a b | _ => none) P2 := by
  cases o with
  | none => exact Ok2.no
  | some p => obtain ⟨v, b⟩ := p; cases v <;> first | exact h _ _ rfl | exact Ok2.no
theorem Ok3.int {o : Option (V × Sto)} {f : Int → Sto → Option (α × β × γ)} (h : ∀ a b, o = some (.int a, b) → Ok3 (f a b) P3) : Ok3 (match o with | some (.int a, b) => f a b | _ => none) P3 := by
  cases o with
  | none => exact Ok3.no
  | some p => obtain ⟨v, b⟩ := p; cases v <;> first | exact h _ _ rfl | exact Ok3.no
theorem Ok3.obj {o : Option (V × Sto)} {f : Nat → Sto → Option (α × β × γ)} (h : ∀ a b, o = some (.obj a, b) → Ok3 (f a b) P3) : Ok3 (match o with | some (.obj a, b) => f a b | _ => none) P3 := by
  cases o with
  | none => exact Ok3.no
  | some p => obtain ⟨v, b⟩ := p; cases v <;> first | exact h _ _ rfl | exact Ok3.no
theorem Ok.list {o : Option Ob} {f : List V → Option α} (h : ∀ a, o = some (.list a) → Ok (f a) P1) : Ok (match o with | some (.list a) => f a | _ => none) P1 := by
  cases o with
  | none => exact Ok.no
  | some b => cases b <;> first | exact h _ rfl | exact Ok.no
theorem Ok2.list {o : Option Ob} {f : List V → Option (α × β)} (h : ∀ a, o = some (.list a) → Ok2 (f a) P2) : Ok2 (match o with | some (.list a) => f a | _ => none) P2 := by
  cases o with
  | none => exact Ok2.no
  | some b => cases b <;> first | exact h _ rfl | exact Ok2.no
theorem Ok2.inst {o : Option Ob} {f : Str → List (Str × V) → Option (α × β)} (h : ∀ a b, o = some (.inst a b) → Ok2 (f a b) P2) : Ok2 (match o with | some (.inst a b) => f a b | _ => none) P2 := by
  cases o with
  | none => exact Ok2.no
  | some b => cases b <;> first | exact h _ _ rfl | exact Ok2.no
theorem Ok3.list {o : Option Ob} {f : List V → Option (α × β × γ)} (h : ∀ a, o = some (.list a) → Ok3 (f a) P3) : Ok3 (match o with | some (.list a) => f a | _ => none) P3 := by
  cases o with
  | none => exact Ok3.no
  | some b => cases b <;> first | exact h _ rfl | exact Ok3.no
theorem Ok3.inst {o : Option Ob} {f : Str → List (Str × V) → Option (α × β × γ)} (h : ∀ a b, o = some (.inst a b) → Ok3 (f a b) P3) : Ok3 (match o with | some (.inst a b) => f a b | _ => none) P3 := by
  cases o with
  | none => exact Ok3.no
  | some b => cases b <;> first | exact h _ _ rfl | exact Ok3.no
theorem Ok2.vobj {v : V} {f : Nat → Option (α × β)} (h : ∀ a, v = .obj a → Ok2 (f a) P2) : Ok2 (match v with | .obj a => f a | _ => none) P2 := by
  cases v <;> first | exact h _ rfl | exact Ok2.no
theorem Ok2.bV {o : Option V} {f : V → Option (α × β)} (h : ∀ a, o = some a → Ok2 (f a) P2) : Ok2 (match o with | some a => f a | none => none) P2 := by
  cases o with
  | none => exact Ok2.no
  | some p => exact h p rfl
theorem Ok3.map {o : Option δ} {g : δ → β} {a : α} {c : γ} (h : ∀ x, o = some x → P3 a (g x) c) : Ok3 (o.map fun x => (a, g x, c)) P3 := by
  cases o with
  | none => exact Ok3.no
  | some p => exact Ok3.ret (h p rfl)
theorem Ok3.obj2 {a b : V} {f : Nat → Nat → Option (α × β × γ)} (h : ∀ x y, a = .obj x → b = .obj y → Ok3 (f x y) P3) : Ok3 (match a, b with | .obj x, .obj y => f x y | _, _ => none) P3 := by
  cases a <;> first | exact Ok3.no | (cases b <;> first | exact h _ _ rfl rfl | exact Ok3.no)
theorem Ok3.list2 {a b : Option Ob} {f : List V → List V → Option (α × β × γ)} (h : ∀ x y, a = some (.list x) → b = some (.list y) → Ok3 (f x y) P3) : Ok3 (match a, b with | some (.list x), some (.list y) => f x y | _, _ => none) P3 := by
  cases a with
  | none => exact Ok3.no
  | some a => cases a <;> first | exact Ok3.no | (cases b with
    | none => exact Ok3.no
    | some b => cases b <;> first | exact h _ _ rfl rfl | exact Ok3.no)
theorem Ok.int2 {a b : V} {f : Int → Int → Option α} (h : ∀ x y, a = .int x → b = .int y → Ok (f x y) P1) : Ok (match a, b with | .int x, .int y => f x y | _, _ => none) P1 := by
  cases a <;> first | exact Ok.no | (cases b <;> first | exact h _ _ rfl rfl | exact Ok.no)
theorem Ok2.dite {c : Prop} [Decidable c] {x y : Option (α × β)} (h1 : c → Ok2 x P2) (h2 : ¬c → Ok2 y P2) : Ok2 (if c then x else y) P2 := by
  by_cases h : c
  · rw [if_pos h]; exact h1 h
  · rw [if_neg h]; exact h2 h
theorem Ok2.one {vs : List V} {f : V → Option (α × β)} (h : ∀ v, vs = [v] → Ok2 (f v) P2) : Ok2 (match vs with | [v] => f v | _ => none) P2 := by
  cases vs with
  | nil => exact Ok2.no
  | cons v vs => cases vs with
    | nil => exact h v rfl
    | cons => exact Ok2.no
theorem Ok2.oneObj {vs : List V} {f : Nat → Option (α × β)} (h : ∀ k, vs = [.obj k] → Ok2 (f k) P2) : Ok2 (match vs with | [.obj k] => f k | _ => none) P2 := by
  cases vs with
  | nil => exact Ok2.no
  | cons v vs => cases vs with
    | nil => cases v <;> first | exact h _ rfl | exact Ok2.no
    | cons => cases v <;> exact Ok2.no
theorem Ok2.zero {vs : List V} {x : Option (α × β)} (h : vs = [] → Ok2 x P2) : Ok2 (match vs with | [] => x | _ => none) P2 := by
  cases vs with
  | nil => exact h rfl
  | cons => exact Ok2.no
theorem Ok3.int1 {o : Option V} {f : Int → Option (α × β × γ)} (h : ∀ a, o = some (.int a) → Ok3 (f a) P3) : Ok3 (match o with | some (.int a) => f a | _ => none) P3 := by
  cases o with
  | none => exact Ok3.no
  | some v => cases v <;> first | exact h _ rfl | exact Ok3.no
end
theorem an1 {a b : Bool} (h : (a && b) = true) : a = true := (Bool.and_eq_true_iff.mp h).1
theorem an2 {a b : Bool} (h : (a && b) = true) : b = true := (Bool.and_eq_true_iff.mp h).2
theorem nt {a : Bool} (h : (!a) = true) : a = false := by cases a <;> first | rfl | cases h


/-- answers: what is asked, and what it is said to be -/
inductive An where
  | v (t : Option V) (r : V)
  | s (t : Option (V × Sto)) (r : V) (q : Sto)
  | c (t : Option Bool) (r : Bool)
  | b (t r : Bool)
  | o (t : Option Ob) (r : Ob)
  | l (t : Option (List V)) (r : List V)
  | k (t : Option Sto) (r : Sto)
  | x (t : Option (Fl × Loc × Sto)) (f : Fl) (L : Loc) (q : Sto)
noncomputable def An.ok : An → Prop
  | .v t r => t = some r
  | .s t r q => t = some (r, q)
  | .c t r => t = some r
  | .b t r => t = r
  | .o t r => t = some r
  | .l t r => t = some r
  | .k t r => t = some r
  | .x t f L q => t = some (f, L, q)
noncomputable def FS : List An → Prop
  | [] => True
  | a :: l => a.ok ∧ FS l
/-- what a script gives: nothing, a question that it has no answer to, or a value, the rest, and what was asked -/
inductive Rz (α : Type) where
  | no
  | at (q : An)
  | ok (a : α) (sc out : List An)
noncomputable abbrev SM (α : Type) := List An → Rz α
noncomputable def SM.ret {α : Type} (a : α) : SM α := fun sc => .ok a sc []
noncomputable def SM.fail {α : Type} : SM α := fun _ => .no
@[irreducible] noncomputable def SM.bind {α β : Type} (m : SM α) (f : α → SM β) : SM β := fun sc => match m sc with
  | .ok a sc1 o1 => (match f a sc1 with
    | .ok b sc2 o2 => .ok b sc2 (o1 ++ o2)
    | .at q => .at q
    | .no => .no)
  | .at q => .at q
  | .no => .no
@[irreducible] noncomputable def SM.bind2 {α β γ : Type} (m : SM (α × β)) (f : α → β → SM γ) : SM γ := m.bind fun p => (match p with | (a, b) => f a b)
noncomputable def Sn {α : Type} (m : SM α) (o : Option α) : Prop := ∀ sc a sc' out, m sc = .ok a sc' out → FS out → o = some a
theorem FS.app : ∀ {l r : List An}, FS (l ++ r) → FS l ∧ FS r
  | [], _, h => ⟨trivial, h⟩
  | _ :: _, _, h => ⟨⟨h.1, (FS.app h.2).1⟩, (FS.app h.2).2⟩
section
variable {α β γ : Type}
theorem Sn.ret {a : α} : Sn (SM.ret a) (some a) := fun _ _ _ _ h _ => by cases h; rfl
theorem Sn.fail {o : Option α} : Sn SM.fail o := fun _ _ _ _ h _ => nomatch h
theorem SM.bind_ok {m : SM α} {f : α → SM β} {sc sc' out : List An} {b : β} (e : m.bind f sc = .ok b sc' out) : ∃ a sc1 o1 o2, m sc = .ok a sc1 o1 ∧ f a sc1 = .ok b sc' o2 ∧ out = o1 ++ o2 := by
  unfold SM.bind at e
  cases h1 : m sc with
  | no => rw [h1] at e; cases e
  | «at» q => rw [h1] at e; cases e
  | ok a sc1 o1 =>
    rw [h1] at e
    dsimp only at e
    cases h2 : f a sc1 with
    | no => rw [h2] at e; cases e
    | «at» q => rw [h2] at e; cases e
    | ok b sc2 o2 =>
      rw [h2] at e
      cases e
      exact ⟨a, sc1, o1, o2, rfl, h2, rfl⟩
theorem Sn.bind {m : SM α} {o : Option α} {f : α → SM β} {o2 : Option β} (h : Sn m o) (k : ∀ a, o = some a → Sn (f a) o2) : Sn (m.bind f) o2 := by
  intro sc b sc' out e hF
  obtain ⟨a, sc1, o1, o2, h1, h2, e'⟩ := SM.bind_ok e
  rw [e'] at hF
  exact k _ (h _ _ _ _ h1 (FS.app hF).1) _ _ _ _ h2 (FS.app hF).2
theorem Sn.bind2 {m : SM (α × β)} {o : Option (α × β)} {f : α → β → SM γ} {o2 : Option γ} (h : Sn m o) (k : ∀ a b, o = some (a, b) → Sn (f a b) o2) : Sn (m.bind2 f) o2 := by
  unfold SM.bind2
  exact Sn.bind h fun p e => k p.1 p.2 e
theorem Sn.ite {c : Bool} {m : SM α} {o : Option α} (h : Sn m o) : Sn (if c then m else SM.fail) (if c then o else none) := by
  cases c with
  | false => exact Sn.fail
  | true => exact h
theorem Sn.map {m : SM α} {o : Option α} {g : α → β} (h : Sn m o) : Sn (m.bind fun a => SM.ret (g a)) (o.map g) := Sn.bind h fun a e => by rw [e]; exact Sn.ret
noncomputable def askG {α : Type} (get : An → Option α) (mk : α → An) (d : α) : SM α := fun sc => match sc with
  | [] => .at (mk d)
  | a :: sc' => (match get a with
    | some r => .ok r sc' [mk r]
    | none => .at (mk d))
theorem Sn.q0 {get : An → Option α} {mk : α → An} {d : α} {o : Option α} (hk : ∀ r, (mk r).ok → o = some r) : Sn (askG get mk d) o := by
  intro sc a sc' out h hF
  cases sc with
  | nil => cases h
  | cons x sc =>
    unfold Mine.askG at h
    dsimp only at h
    cases q : get x with
    | none => rw [q] at h; cases h
    | some r => rw [q] at h; cases h; exact hk _ hF.1
noncomputable def An.getV : An → Option (V)
  | .v _ r => some (r)
  | _ => none
noncomputable def askV (t : Option V) : SM (V) := askG An.getV (fun r => .v t r) .none
theorem Sn.qV {t : Option V} : Sn (askV t) t := Sn.q0 fun _ h => h
noncomputable def An.getS : An → Option (V × Sto)
  | .s _ r  q => some (r, q)
  | _ => none
noncomputable def askS (t : Option (V × Sto)) : SM (V × Sto) := askG An.getS (fun r => .s t r.1 r.2) (.none, [])
theorem Sn.qS {t : Option (V × Sto)} : Sn (askS t) t := Sn.q0 fun _ h => h
noncomputable def An.getC : An → Option (Bool)
  | .c _ r => some (r)
  | _ => none
noncomputable def askC (t : Option Bool) : SM (Bool) := askG An.getC (fun r => .c t r) false
theorem Sn.qC {t : Option Bool} : Sn (askC t) t := Sn.q0 fun _ h => h
noncomputable def An.getO : An → Option (Ob)
  | .o _ r => some (r)
  | _ => none
noncomputable def askO (t : Option Ob) : SM (Ob) := askG An.getO (fun r => .o t r) (.list [])
theorem Sn.qO {t : Option Ob} : Sn (askO t) t := Sn.q0 fun _ h => h
noncomputable def An.getX : An → Option (Fl × Loc × Sto)
  | .x _ f  L  q => some (f, L, q)
  | _ => none
noncomputable def askX (t : Option (Fl × Loc × Sto)) : SM (Fl × Loc × Sto) := askG An.getX (fun r => .x t r.1 r.2.1 r.2.2) (.next, fun _ => none, [])
theorem Sn.qX {t : Option (Fl × Loc × Sto)} : Sn (askX t) t := Sn.q0 fun _ h => h
noncomputable def An.getB : An → Option Bool
  | .b _ r => some r
  | _ => none
noncomputable def askB (t : Bool) : SM Bool := askG An.getB (fun r => .b t r) false
theorem Sn.qB {t : Bool} : Sn (askB t) (some t) := Sn.q0 fun _ h => congrArg some h
theorem Sn.bv {m : SM (V × Sto)} {o : Option (V × Sto)} {f : V → Sto → SM β} {g : V → Sto → Option β} (h : Sn m o) (k : ∀ a s, Sn (f a s) (g a s)) : Sn (m.bind2 f) (match (generalizing := false) o with | some (a, s) => g a s | none => none) := by
  unfold SM.bind2; exact Sn.bind h fun a e => by rw [e]; exact k _ _
theorem Sn.bvs {m : SM (List V × Sto)} {o : Option (List V × Sto)} {f : (List V) → Sto → SM β} {g : (List V) → Sto → Option β} (h : Sn m o) (k : ∀ a s, Sn (f a s) (g a s)) : Sn (m.bind2 f) (match (generalizing := false) o with | some (a, s) => g a s | none => none) := by
  unfold SM.bind2; exact Sn.bind h fun a e => by rw [e]; exact k _ _
theorem Sn.bt {m : SM (Bool × Sto)} {o : Option (Bool × Sto)} {f : Bool → Sto → SM β} {g : Bool → Sto → Option β} (h : Sn m o) (k : ∀ a s, Sn (f a s) (g a s)) : Sn (m.bind2 f) (match (generalizing := false) o with | some (a, s) => g a s | none => none) := by
  unfold SM.bind2; exact Sn.bind h fun a e => by rw [e]; exact k _ _
theorem Sn.bo {m : SM (Option V × Sto)} {o : Option (Option V × Sto)} {f : (Option V) → Sto → SM β} {g : (Option V) → Sto → Option β} (h : Sn m o) (k : ∀ a s, Sn (f a s) (g a s)) : Sn (m.bind2 f) (match (generalizing := false) o with | some (a, s) => g a s | none => none) := by
  unfold SM.bind2; exact Sn.bind h fun a e => by rw [e]; exact k _ _
/-- the same, what comes looked at through g -/
noncomputable def SnG (g : α → β) (m : SM α) (o : Option β) : Prop := ∀ sc a sc' out, m sc = .ok a sc' out → FS out → o = some (g a)
theorem SnG.ret {g : α → β} {a : α} : SnG g (SM.ret a) (some (g a)) := fun _ _ _ _ h _ => by cases h; rfl
theorem SnG.fail {g : α → β} {o : Option β} : SnG g SM.fail o := fun _ _ _ _ h _ => nomatch h
theorem SnG.bindG {g : α → γ} {δ ε : Type} {g2 : δ → ε} {m : SM α} {o : Option γ} {f : α → SM δ} {o2 : Option ε} (h : SnG g m o) (k : ∀ a, o = some (g a) → SnG g2 (f a) o2) : SnG g2 (m.bind f) o2 := by
  intro sc b sc' out e hF
  obtain ⟨a, sc1, o1, o2, h1, h2, e'⟩ := SM.bind_ok e
  rw [e'] at hF
  exact k _ (h _ _ _ _ h1 (FS.app hF).1) _ _ _ _ h2 (FS.app hF).2
theorem SnG.bind {δ ε : Type} {g2 : δ → ε} {m : SM α} {o : Option α} {f : α → SM δ} {o2 : Option ε} (h : Sn m o) (k : ∀ a, o = some a → SnG g2 (f a) o2) : SnG g2 (m.bind f) o2 := SnG.bindG (g := fun a => a) h k
theorem SnG.bind2 {δ ε : Type} {g2 : δ → ε} {m : SM (α × β)} {o : Option (α × β)} {f : α → β → SM δ} {o2 : Option ε} (h : Sn m o) (k : ∀ a b, o = some (a, b) → SnG g2 (f a b) o2) : SnG g2 (m.bind2 f) o2 := by
  unfold SM.bind2
  exact SnG.bind h fun p e => k p.1 p.2 e
theorem SnG.ite {g : α → β} {c : Bool} {m : SM α} {o : Option β} (h : SnG g m o) : SnG g (if c then m else SM.fail) (if c then o else none) := by
  cases c with
  | false => exact SnG.fail
  | true => exact h
theorem SnG.bv {gg : γ → β} {m : SM (V × Sto)} {o : Option (V × Sto)} {f : V → Sto → SM γ} {g : V → Sto → Option β} (h : Sn m o) (k : ∀ a s, SnG gg (f a s) (g a s)) : SnG gg (m.bind2 f) (match (generalizing := false) o with | some (a, s) => g a s | none => none) := by
  unfold SM.bind2; exact SnG.bind h fun a e => by rw [e]; exact k _ _
theorem SnG.bt {gg : γ → β} {m : SM (Bool × Sto)} {o : Option (Bool × Sto)} {f : Bool → Sto → SM γ} {g : Bool → Sto → Option β} (h : Sn m o) (k : ∀ a s, SnG gg (f a s) (g a s)) : SnG gg (m.bind2 f) (match (generalizing := false) o with | some (a, s) => g a s | none => none) := by
  unfold SM.bind2; exact SnG.bind h fun a e => by rw [e]; exact k _ _
end

end Mine
end
section
open PySem PySem.W PyProof.Rows PySem.Calls
set_option linter.unusedVariables false
namespace Mine

/-- the names' values that are known, ahead of the others -/
structure EX where
  l : List (Str × V)
  o : Loc
noncomputable def loc' : List (Str × V) → Loc → Loc
  | [], L => L
  | (x, v) :: l, L => upd (loc' l L) x v
noncomputable abbrev EX.loc (E : EX) : Loc := loc' E.l E.o
noncomputable def EX.up (E : EX) (x : Str) (v : V) : EX := ⟨(x, v) :: E.l, E.o⟩
noncomputable def EX.ups (E : EX) : List Str → List V → EX
  | x :: xs, v :: vs => (E.up x v).ups xs vs
  | _, _ => E
theorem EX.ups_loc (xs : List Str) : ∀ (vs : List V) (E : EX), (E.ups xs vs).loc = updL E.loc xs vs := by
  induction xs with
  | nil => intro vs E; cases vs <;> rfl
  | cons x xs ih => intro vs E; cases vs with
    | nil => rfl
    | cons v vs => exact ih vs (E.up x v)
noncomputable def lookX (E : EX) (x : Str) : SM V := match E.l.lookup x with
  | some v => .ret v
  | none => askV (E.o x)
theorem Sn.look {E : EX} {x : Str} : Sn (lookX E x) (E.loc x) := by
  obtain ⟨l, o⟩ := E
  unfold lookX
  show Sn (match l.lookup x with | some v => SM.ret v | none => askV (o x)) (loc' l o x)
  induction l with
  | nil => exact Sn.qV
  | cons p l ih =>
    obtain ⟨y, v⟩ := p
    rw [List.lookup_cons]
    unfold loc' upd
    by_cases h : x = y
    · rw [if_pos h, h, beq_self_eq_true]; exact Sn.ret
    · rw [if_neg h, show (x == y) = false from beq_eq_false_iff_ne.mpr h]; exact ih

structure SF where
  ev : EX → Sto → Expr → SM (V × Sto)
  tst : EX → Sto → Expr → SM (Bool × Sto)
  ex : EX → Sto → Stmt → SM (Fl × EX × Sto)
noncomputable def lg (p : Fl × EX × Sto) : Fl × Loc × Sto := (p.1, p.2.1.loc, p.2.2)
structure SFok (S : SF) (F : Funs) : Prop where
  ev : ∀ E σ e, Sn (S.ev E σ e) (F.ev E.loc σ e)
  tst : ∀ E σ e, Sn (S.tst E σ e) (F.tst E.loc σ e)
  ex : ∀ E σ e, SnG lg (S.ex E σ e) (F.ex E.loc σ e)

noncomputable def evsX (f : Sto → Expr → SM (V × Sto)) : Sto → List Expr → SM (List V × Sto)
  | σ, [] => .ret ([], σ)
  | σ, e :: es => (f σ e).bind2 fun a s => (evsX f s es).bind2 fun b s => .ret (a :: b, s)
theorem Sn.evs {f : Sto → Expr → SM (V × Sto)} {g : Sto → Expr → Option (V × Sto)} (h : ∀ σ e, Sn (f σ e) (g σ e)) : ∀ {es : List Expr} {σ : Sto}, Sn (evsX f σ es) (Mine.evs g σ es)
  | [], _ => Sn.ret
  | _ :: _, _ => Sn.bv (h _ _) fun a s => Sn.bvs (Sn.evs h) fun b s => Sn.ret
noncomputable def evoX (f : Sto → Expr → SM (V × Sto)) (σ : Sto) : Option Expr → SM (Option V × Sto)
  | none => .ret (none, σ)
  | some e => (f σ e).bind2 fun a s => .ret (some a, s)
theorem Sn.evo {f : Sto → Expr → SM (V × Sto)} {g : Sto → Expr → Option (V × Sto)} (h : ∀ σ e, Sn (f σ e) (g σ e)) {σ : Sto} : ∀ {e : Option Expr}, Sn (evoX f σ e) (Mine.evo g σ e)
  | none => Sn.ret
  | some _ => by
    refine Sn.bv (h _ _) fun a s => ?_
    exact Sn.ret
noncomputable def allX (op : BoolOp) (f : Sto → Expr → SM (Bool × Sto)) : Sto → List Expr → SM (Bool × Sto)
  | σ, [] => .ret (op == .And, σ)
  | σ, e :: es => (f σ e).bind2 fun a s => (askB a).bind fun b => (match op, b with
    | .And, false => .ret (false, s)
    | .Or, true => .ret (true, s)
    | _, _ => allX op f s es)
theorem Sn.all {op : BoolOp} {f : Sto → Expr → SM (Bool × Sto)} {g : Sto → Expr → Option (Bool × Sto)} (h : ∀ σ e, Sn (f σ e) (g σ e)) : ∀ {es : List Expr} {σ : Sto}, Sn (allX op f σ es) (allT op g σ es)
  | [], _ => Sn.ret
  | e :: es, σ => Sn.bt (h _ _) fun a s => Sn.bind Sn.qB fun b hb => by
      cases Option.some.inj hb
      cases op <;> cases a <;> first | exact Sn.ret | exact Sn.all h

noncomputable def cmpX (op : CmpOp) (σ : Sto) (a b : V) : SM Bool := match op with
  | .Lt => (match a with | .int x => (match b with | .int y => .ret (decide (x < y)) | _ => .fail) | _ => .fail)
  | .LtE => (match a with | .int x => (match b with | .int y => .ret (decide (x ≤ y)) | _ => .fail) | _ => .fail)
  | .Gt => (match a with | .int x => (match b with | .int y => .ret (decide (x > y)) | _ => .fail) | _ => .fail)
  | .GtE => (match a with | .int x => (match b with | .int y => .ret (decide (x ≥ y)) | _ => .fail) | _ => .fail)
  | op => askC (cmpS op σ a b)
theorem Sn.cmp {op : CmpOp} {σ : Sto} {a b : V} : Sn (cmpX op σ a b) (cmpS op σ a b) := by
  cases op <;> first | exact Sn.qC | (cases a <;> first | exact Sn.fail | (cases b <;> first | exact Sn.fail | exact Sn.ret))
noncomputable def binX (op : Operator) (σ : Sto) (a b : V) : SM (V × Sto) := match op with
  | .Add => (match a with | .int x => (match b with | .int y => .ret (.int (x + y), σ) | _ => .fail) | _ => askS (binS op σ a b))
  | .Sub => (match a with | .int x => (match b with | .int y => .ret (.int (x - y), σ) | _ => .fail) | _ => .fail)
  | op => askS (binS op σ a b)
theorem Sn.bin {op : Operator} {σ : Sto} {a b : V} : Sn (binX op σ a b) (binS op σ a b) := by
  cases op <;> first | exact Sn.qS | (cases a <;> first | exact Sn.fail | exact Sn.qS | (cases b <;> first | exact Sn.fail | exact Sn.ret))
noncomputable def ofO {α : Type} (o : Option α) : SM α := match o with
  | some a => .ret a
  | none => .fail
theorem Sn.o1 {α : Type} {o : Option α} : Sn (ofO o) o := by
  cases o with
  | none => exact Sn.fail
  | some a => exact Sn.ret
noncomputable def subX (T : Tbl) (σ : Sto) (o i : V) : SM V := match o with
  | .tup _ => ofO (subC T σ o i)
  | _ => askV (subC T σ o i)
theorem Sn.sub {T : Tbl} {σ : Sto} {o i : V} : Sn (subX T σ o i) (subC T σ o i) := by
  cases o <;> first | exact Sn.qV | exact Sn.o1
noncomputable def biX (T : Tbl) (b : Bi) (vs : List V) (σ : Sto) : SM V := match b with
  | .len => askV (biC T b vs σ)
  | .tuple => askV (biC T b vs σ)
  | .sum => askV (biC T b vs σ)
  | b => ofO (biC T b vs σ)
theorem Sn.bi0 {T : Tbl} {b : Bi} {vs : List V} {σ : Sto} : Sn (biX T b vs σ) (biC T b vs σ) := by
  cases b <;> first | exact Sn.qV | exact Sn.o1 | exact Sn.fail
noncomputable def callX (T : Tbl) (F : Funs) (x : Str) (vs : List V) (σ : Sto) : SM (V × Sto) := match T.kind x with
  | some k => (match k with
    | .bi b => (biX T b vs σ).bind fun v => .ret (v, σ)
    | .fn d => askS (callD F d vs σ)
    | .cls c => askS (mkC T F c vs σ)
    | _ => .fail)
  | none => .fail
theorem Sn.call {T : Tbl} {F : Funs} {x : Str} {vs : List V} {σ : Sto} : Sn (callX T F x vs σ) (callN T F x vs σ) := by
  unfold callX callN
  cases T.kind x with
  | none => exact Sn.fail
  | some k => cases k with
    | bi b => exact Sn.map Sn.bi0
    | fn d => exact Sn.qS
    | cls c => exact Sn.qS
    | const v => exact Sn.fail
noncomputable def methX (T : Tbl) (F : Funs) (m : Str) (o : V) (σ1 : Sto) (args : SM (List V × Sto)) : SM (V × Sto) := match o with
  | .obj n => (askO (σ1[n]?)).bind fun ob => (match ob with
    | .list _ => args.bind2 fun vs s => (askO (s[n]?)).bind fun ob => (match ob with
      | .list l => askS (listM m n l vs s)
      | .inst _ _ => .fail)
    | .inst c fs => (match fs.lookup m with
      | some _ => .fail
      | none => if m = Str.ofString "__init__" then .fail else (match T.meth c m with
        | some d => args.bind2 fun vs s => askS (callD F d (.obj n :: vs) s)
        | none => .fail)))
  | _ => .fail
theorem Sn.meth {T : Tbl} {F : Funs} {m : Str} {o : V} {σ1 : Sto} {args : SM (List V × Sto)} {as : Option (List V × Sto)} (h : Sn args as) : Sn (methX T F m o σ1 args) (methC T F m o σ1 as) := by
  unfold methX methC
  cases o <;> first | exact Sn.fail | skip
  dsimp only
  refine Sn.bind Sn.qO fun ob e => ?_
  rw [e]
  cases ob with
  | list l0 =>
    dsimp only
    refine Sn.bind2 h fun vs s e2 => ?_
    rw [e2]
    refine Sn.bind Sn.qO fun ob e3 => ?_
    dsimp only
    rw [e3]
    cases ob with
    | list l => exact Sn.qS
    | inst => exact Sn.fail
  | inst c fs =>
    dsimp only
    cases fs.lookup m with
    | some => exact Sn.fail
    | none =>
      dsimp only
      by_cases hm : m = Str.ofString "__init__"
      · rw [if_pos hm, if_pos hm]; exact Sn.fail
      · rw [if_neg hm, if_neg hm]
        cases T.meth c m with
        | none => exact Sn.fail
        | some d =>
          dsimp only
          refine Sn.bind2 h fun vs s e2 => ?_
          rw [e2]
          exact Sn.qS

noncomputable def sliceX (σ4 : Sto) (ov : V) (a b c : Option V) : SM (V × Sto) := match ov with
  | .obj n => (ofO (optI a)).bind fun a => (ofO (optI b)).bind fun b => (ofO (optI c)).bind fun c => (askO (σ4[n]?)).bind fun ob => (match ob with
    | .list l => (askB (decide (c ≠ some 0) && decide (l.length ≤ most))).bind fun t => if t then .ret (.obj σ4.length, σ4 ++ [.list (sliceG l a b c)]) else .fail
    | .inst _ _ => .fail)
  | _ => .fail

noncomputable def evX (T : Tbl) (S : SF) (F : Funs) (E : EX) (σ : Sto) (e : Expr) : SM (V × Sto) := match e with
  | .Constant c _ _ => (match c with
    | .none => .ret (.none, σ)
    | .bool b => .ret (.bool b, σ)
    | .int i => .ret (.int i, σ)
    | .str x => .ret (.str x, σ)
    | _ => .fail)
  | .Name x _ => (match T.kind x with
    | some k => (match k with
      | .const v => .ret (v, σ)
      | _ => .fail)
    | none => (lookX E x).bind fun v => .ret (v, σ))
  | .BinOp l op r _ => (S.ev E σ l).bind2 fun a s => (S.ev E s r).bind2 fun b s => binX op s a b
  | .UnaryOp u x _ => (match u with
    | .USub => (S.ev E σ x).bind2 fun v s => (match v with
      | .int a => .ret (.int (-a), s)
      | _ => .fail)
    | _ => .fail)
  | .Compare l ops rs _ => (match ops with
    | [op] => (match rs with
      | [r] => (S.ev E σ l).bind2 fun a s => (S.ev E s r).bind2 fun b s => (cmpX op s a b).bind fun c => .ret (.bool c, s)
      | _ => .fail)
    | _ => .fail)
  | .BoolOp op xs _ => (match xs with
    | [x, y] => (S.ev E σ x).bind2 fun v s => (match v with
      | .bool a => (askB a).bind fun b => (match op, b with
        | .And, false => .ret (.bool false, s)
        | .Or, true => .ret (.bool true, s)
        | _, _ => S.ev E s y)
      | _ => .fail)
    | _ => .fail)
  | .IfExp t x y _ => (S.tst E σ t).bind2 fun c s => (askB c).bind fun b => if b then S.ev E s x else S.ev E s y
  | .Tuple es _ _ => (evsX (S.ev E) σ es).bind2 fun vs s => if decide (vs.length ≤ most) then .ret (.tup vs, s) else .fail
  | .List es _ => (evsX (S.ev E) σ es).bind2 fun vs s => if decide (vs.length ≤ most) then .ret (.obj s.length, s ++ [.list vs]) else .fail
  | .Subscript o i _ => (S.ev E σ o).bind2 fun ov s => (match i with
    | .Slice lo hi st _ => (evoX (S.ev E) s lo).bind2 fun a s => (evoX (S.ev E) s hi).bind2 fun b s => (evoX (S.ev E) s st).bind2 fun c s => sliceX s ov a b c
    | .Constant c k q => (S.ev E s (.Constant c k q)).bind2 fun iv s => (subX T s ov iv).bind fun v => .ret (v, s)
    | i => (S.ev E s i).bind2 fun iv s => (askV (subC T s ov iv)).bind fun v => .ret (v, s))
  | .Attribute o a _ => (match o with
    | .Name y q => (S.ev E σ (.Name y q)).bind2 fun v s => (match v with
      | .obj n => (askO (s[n]?)).bind fun ob => (match ob with
        | .inst c fs => if T.field c a then (ofO (fs.lookup a)).bind fun v => .ret (v, s) else .fail
        | .list _ => .fail)
      | _ => .fail)
    | _ => .fail)
  | .Call f args ks _ => (match ks with
    | [] => (match f with
      | .Name x _ => (evsX (S.ev E) σ args).bind2 fun vs s => callX T F x vs s
      | .Attribute o m _ => (match o with
        | .Name y q => (S.ev E σ (.Name y q)).bind2 fun v s => methX T F m v s (evsX (S.ev E) s args)
        | _ => .fail)
      | _ => .fail)
    | _ => .fail)
  | e => askS (evS T F E.loc σ e)

theorem Sn.boolop {op : BoolOp} {a : Bool} {m : SM (V × Sto)} {o : Option (V × Sto)} {s : Sto} (h : Sn m o) : Sn ((askB a).bind fun b => (match op, b with
        | .And, false => .ret (.bool false, s)
        | .Or, true => .ret (.bool true, s)
        | _, _ => m)) (match op, a with | .And, false => some (.bool false, s) | .Or, true => some (.bool true, s) | _, _ => o) :=
  Sn.bind Sn.qB fun b hb => by
    cases Option.some.inj hb
    cases op <;> cases a <;> first | exact Sn.ret | exact h
theorem evX_ok {T : Tbl} {S : SF} {F : Funs} (H : SFok S F) (E : EX) (σ : Sto) (e : Expr) : Sn (evX T S F E σ e) (evS T F E.loc σ e) := by
  induction e using Expr.casesOn with
  | Constant c kk pos => cases c <;> first | exact Sn.ret | exact Sn.fail
  | Name x q =>
    show Sn (match T.kind x with | some k => (match k with | .const v => SM.ret (v, σ) | _ => SM.fail) | none => (lookX E x).bind fun v => .ret (v, σ)) (match T.kind x with | some (.const v) => some (v, σ) | some _ => none | none => (E.loc x).map fun v => (v, σ))
    cases T.kind x with
    | none => exact Sn.map Sn.look
    | some k => cases k <;> first | exact Sn.ret | exact Sn.fail
  | BinOp l op r q =>
    refine Sn.bv (H.ev E σ l) fun a s => ?_
    refine Sn.bv (H.ev E s r) fun b s => ?_
    exact Sn.bin
  | UnaryOp u x q =>
    induction u using UnaryOp.casesOn with
    | USub =>
        refine Sn.bind2 (H.ev E σ x) fun v s e => ?_
        show Sn _ (match F.ev E.loc σ x with | some (.int a, σ1) => some (V.int (-a), σ1) | _ => none)
        rw [e]
        cases v <;> first | exact Sn.ret | exact Sn.fail
    | _ => exact Sn.fail
  | Compare l ops rs q =>
    induction ops using List.casesOn with
    | nil => exact Sn.fail
    | cons op ops =>
      induction ops using List.casesOn with
      | cons => exact Sn.fail
      | nil =>
        induction rs using List.casesOn with
        | nil => exact Sn.fail
        | cons r rs =>
          induction rs using List.casesOn with
          | cons => exact Sn.fail
          | nil =>
            refine Sn.bv (H.ev E σ l) fun a s => ?_
            refine Sn.bv (H.ev E s r) fun b s => ?_
            exact Sn.map Sn.cmp
  | BoolOp op xs q =>
    induction xs using List.casesOn with
    | nil => exact Sn.fail
    | cons x xs =>
      induction xs using List.casesOn with
      | nil => exact Sn.fail
      | cons y xs =>
        induction xs using List.casesOn with
        | cons => exact Sn.fail
        | nil =>
            refine Sn.bind2 (H.ev E σ x) fun v s e => ?_
            show Sn _ (match F.ev E.loc σ x with | some (.bool a, σ1) => (match op, a with | .And, false => some (V.bool false, σ1) | .Or, true => some (V.bool true, σ1) | _, _ => F.ev E.loc σ1 y) | _ => none)
            rw [e]
            cases v <;> first | exact Sn.boolop (H.ev E s y) | exact Sn.fail
  | IfExp t x y q =>
    refine Sn.bt (H.tst E σ t) fun c s => ?_
    refine Sn.bind Sn.qB fun b hb => ?_
    · cases Option.some.inj hb
      cases c
      · exact H.ev E s y
      · exact H.ev E s x
  | Tuple es kk q =>
    refine Sn.bvs (Sn.evs (H.ev E)) fun vs s => ?_
    exact Sn.ite Sn.ret
  | List es q =>
    refine Sn.bvs (Sn.evs (H.ev E)) fun vs s => ?_
    exact Sn.ite Sn.ret
  | Subscript o i q =>
    have fin : Sn ((S.ev E σ o).bind2 fun ov s => (S.ev E s i).bind2 fun iv s => (subX T s ov iv).bind fun v => .ret (v, s)) (match F.ev E.loc σ o with | some (ov, σ1) => (match F.ev E.loc σ1 i with | some (iv, σ2) => (subC T σ2 ov iv).map fun v => (v, σ2) | none => none) | none => none) :=
      Sn.bv (H.ev E σ o) fun a s => Sn.bv (H.ev E s i) fun b s => Sn.map Sn.sub
    have fin2 : Sn ((S.ev E σ o).bind2 fun ov s => (S.ev E s i).bind2 fun iv s => (askV (subC T s ov iv)).bind fun v => .ret (v, s)) (match F.ev E.loc σ o with | some (ov, σ1) => (match F.ev E.loc σ1 i with | some (iv, σ2) => (subC T σ2 ov iv).map fun v => (v, σ2) | none => none) | none => none) :=
      Sn.bv (H.ev E σ o) fun a s => Sn.bv (H.ev E s i) fun b s => Sn.map Sn.qV
    induction i using Expr.casesOn with
    | Slice lo hi st p =>
      refine Sn.bv (H.ev E σ o) fun ov s => ?_
      refine Sn.bo (Sn.evo (H.ev E)) fun a s => ?_
      refine Sn.bo (Sn.evo (H.ev E)) fun b s => ?_
      refine Sn.bo (Sn.evo (H.ev E)) fun c s => ?_
      cases ov <;> first | exact Sn.fail | skip
      rename_i n
      refine Sn.bind Sn.o1 fun a e => ?_
      refine Sn.bind Sn.o1 fun b e2 => ?_
      refine Sn.bind Sn.o1 fun c e3 => ?_
      refine Sn.bind Sn.qO fun ob e4 => ?_
      dsimp only
      rw [e, e2, e3]
      dsimp only
      rw [e4]
      cases ob with
      | inst => exact Sn.fail
      | list l =>
          refine Sn.bind Sn.qB fun t ht => ?_
          cases Option.some.inj ht
          exact Sn.ite Sn.ret
    | Constant => exact fin
    | _ => exact fin2
  | Attribute o a q =>
    induction o using Expr.casesOn with
    | Name y qy =>
        refine Sn.bind2 (H.ev E σ (.Name y qy)) fun v s e => ?_
        show Sn _ (match F.ev E.loc σ (.Name y qy) with | some (.obj n, σ1) => (match σ1[n]? with | some (.inst c fs) => if T.field c a then (fs.lookup a).map fun v => (v, σ1) else none | _ => none) | _ => none)
        rw [e]
        cases v <;> first | exact Sn.fail | skip
        refine Sn.bind Sn.qO fun ob e2 => ?_
        dsimp only
        rw [e2]
        cases ob with
        | list => exact Sn.fail
        | inst c fs => exact Sn.ite (Sn.map Sn.o1)
    | _ => exact Sn.fail
  | Call f args ks pos =>
    induction ks using List.casesOn with
    | cons => exact Sn.fail
    | nil =>
      induction f using Expr.casesOn with
      | Name x qx =>
        refine Sn.bvs (Sn.evs (H.ev E)) fun vs s => ?_
        exact Sn.call
      | Attribute b mm qm =>
        induction b using Expr.casesOn with
        | Name y qy =>
          refine Sn.bv (H.ev E σ (.Name y qy)) fun v s => ?_
          exact Sn.meth (Sn.evs (H.ev E))
        | _ => exact Sn.fail
      | _ => exact Sn.fail
  | _ => exact Sn.qS

noncomputable def tstX (T : Tbl) (S : SF) (F : Funs) (E : EX) (σ : Sto) (e : Expr) : SM (Bool × Sto) := match e with
  | .UnaryOp u x _ => (match u with
    | .Not => (S.tst E σ x).bind2 fun b s => .ret (!b, s)
    | _ => .fail)
  | .BoolOp op vs _ => allX op (S.tst E) σ vs
  | .Compare l ops rs _ => (match ops with
    | [op] => (match rs with
      | [r] => (S.ev E σ l).bind2 fun a s => (S.ev E s r).bind2 fun b s => (cmpX op s a b).bind fun c => .ret (c, s)
      | _ => .fail)
    | _ => .fail)
  | .Name x q => (S.ev E σ (.Name x q)).bind2 fun v s => (match v with
    | .bool b => .ret (b, s)
    | _ => .fail)
  | .Call f as ks q => (S.ev E σ (.Call f as ks q)).bind2 fun v s => (match v with
    | .bool b => .ret (b, s)
    | _ => .fail)
  | _ => .fail
theorem Sn.isBool {m : SM (V × Sto)} {o : Option (V × Sto)} (h : Sn m o) : Sn (m.bind2 fun v s => (match v with | .bool b => SM.ret (b, s) | _ => SM.fail)) (match (generalizing := false) o with | some (.bool b, s) => some (b, s) | _ => none) := by
  refine Sn.bind2 h fun v s e => ?_
  rw [e]
  cases v <;> first | exact Sn.ret | exact Sn.fail
theorem tstX_ok {T : Tbl} {S : SF} {F : Funs} (H : SFok S F) (E : EX) (σ : Sto) (e : Expr) : Sn (tstX T S F E σ e) (tstS F E.loc σ e) := by
  induction e using Expr.casesOn with
  | UnaryOp u x q =>
    induction u using UnaryOp.casesOn with
    | Not =>
      refine Sn.bt (H.tst E σ x) fun c s => ?_
      exact Sn.ret
    | _ => exact Sn.fail
  | BoolOp op vs q => exact Sn.all (H.tst E)
  | Compare l ops rs q =>
    induction ops using List.casesOn with
    | nil => exact Sn.fail
    | cons op ops =>
      induction ops using List.casesOn with
      | cons => exact Sn.fail
      | nil =>
        induction rs using List.casesOn with
        | nil => exact Sn.fail
        | cons r rs =>
          induction rs using List.casesOn with
          | cons => exact Sn.fail
          | nil =>
            refine Sn.bv (H.ev E σ l) fun a s => ?_
            refine Sn.bv (H.ev E s r) fun b s => ?_
            exact Sn.map Sn.cmp
  | Name x q => exact Sn.isBool (H.ev E σ (.Name x q))
  | Call f as ks q => exact Sn.isBool (H.ev E σ (.Call f as ks q))
  | _ => exact Sn.fail

/-- a target bound -/
noncomputable def bindX (E : EX) (σ : Sto) (t : Expr) (v : V) : SM EX := match t with
  | .Name x _ => .ret (E.up x v)
  | .Tuple es _ _ => (match names? es with
    | some xs => (match v with
      | .tup l => if decide (xs.length = l.length) then .ret (E.ups xs l) else .fail
      | .obj n => (askO (σ[n]?)).bind fun ob => (match ob with
        | .list l => if decide (xs.length = l.length) then .ret (E.ups xs l) else .fail
        | .inst _ _ => .fail)
      | _ => .fail)
    | none => .fail)
  | _ => .fail
theorem SnG.ups {E : EX} {xs : List Str} {l : List V} : SnG EX.loc (if decide (xs.length = l.length) then SM.ret (E.ups xs l) else SM.fail) (if decide (xs.length = l.length) then some (updL E.loc xs l) else none) := by
  rw [← EX.ups_loc]; exact SnG.ite SnG.ret
theorem SnG.bindT {E : EX} {σ : Sto} {t : Expr} {v : V} : SnG EX.loc (bindX E σ t v) (Mine.bindT E.loc σ t v) := by
  induction t using Expr.casesOn with
  | Name x q => exact SnG.ret
  | Tuple es k q =>
    show SnG EX.loc (match names? es with | some xs => (match v with | .tup l => if decide (xs.length = l.length) then .ret (E.ups xs l) else .fail | .obj n => (askO (σ[n]?)).bind fun ob => (match ob with | .list l => if decide (xs.length = l.length) then .ret (E.ups xs l) else .fail | .inst _ _ => .fail) | _ => .fail) | none => .fail)
      (match names? es, v with | some xs, .tup l => if decide (xs.length = l.length) then some (updL E.loc xs l) else none | some xs, .obj n => (match σ[n]? with | some (.list l) => if decide (xs.length = l.length) then some (updL E.loc xs l) else none | _ => none) | _, _ => none)
    cases names? es with
    | none => exact SnG.fail
    | some xs =>
      cases v <;> first | exact SnG.ups | exact SnG.fail | skip
      refine SnG.bind Sn.qO fun ob e => ?_
      dsimp only
      rw [e]
      cases ob with
      | inst c fs => exact SnG.fail
      | list l => exact SnG.ups
  | _ => exact SnG.fail

noncomputable def exsX (f : EX → Sto → Stmt → SM (Fl × EX × Sto)) : EX → Sto → List Stmt → SM (Fl × EX × Sto)
  | E, σ, [] => .ret (.next, E, σ)
  | E, σ, s :: ss => (f E σ s).bind fun p => (match p with
    | (.next, E1, s1) => exsX f E1 s1 ss
    | (.ret v, E1, s1) => .ret (.ret v, E1, s1))
theorem SnG.exs {f : EX → Sto → Stmt → SM (Fl × EX × Sto)} {g : Loc → Sto → Stmt → Option (Fl × Loc × Sto)} (h : ∀ E σ s, SnG lg (f E σ s) (g E.loc σ s)) : ∀ {ss : List Stmt} {E : EX} {σ : Sto}, SnG lg (exsX f E σ ss) (Mine.exs g E.loc σ ss)
  | [], _, _ => SnG.ret
  | s :: ss, E, σ => SnG.bindG (h E σ s) fun a e => by
    unfold Mine.exs
    rw [e]
    obtain ⟨fl, E1, σ1⟩ := a
    cases fl with
    | next => exact SnG.exs h
    | ret v => exact SnG.ret
noncomputable def evaX (T : Tbl) (S : SF) (F : Funs) (E : EX) (σ : Sto) (e : Expr) : SM (V × Sto) := match e with
  | .ListComp elt gens sc pos => askS (evS T F E.loc σ (.ListComp elt gens sc pos))
  | e => S.ev E σ e
theorem evaX_ok {T : Tbl} {S : SF} {F : Funs} (H : SFok S F) (E : EX) (σ : Sto) (e : Expr) : Sn (evaX T S F E σ e) (evA T F E.loc σ e) := by
  induction e using Expr.casesOn with
  | ListComp elt gens sc pos => exact Sn.qS
  | _ => exact H.ev E σ _
noncomputable def exX (T : Tbl) (S : SF) (F : Funs) (n : Nat) (E : EX) (σ : Sto) (st : Stmt) : SM (Fl × EX × Sto) := match st with
  | .Return o _ => (match o with
    | some e => (S.ev E σ e).bind2 fun v s => .ret (.ret v, E, s)
    | none => .fail)
  | .Assign ts e _ => (match ts with
    | [t] => (match t with
      | .Name x _ => (evaX T S F E σ e).bind2 fun v s => .ret (.next, E.up x v, s)
      | .Tuple ts k q => (S.ev E σ e).bind2 fun v s => (bindX E s (.Tuple ts k q) v).bind fun E1 => .ret (.next, E1, s)
      | .Attribute o a _ => (match o with
        | .Name y q => (S.ev E σ e).bind2 fun v s => (S.ev E s (.Name y q)).bind2 fun o s => (match o with
          | .obj n => (askO (s[n]?)).bind fun ob => (match ob with
            | .inst c fs => if T.field c a && decide (fs.length < 100) then .ret (.next, E, s.set n (.inst c (putF a v fs))) else .fail
            | .list _ => .fail)
          | _ => .fail)
        | _ => .fail)
      | t => (askX (exS T F n E.loc σ (.Assign [t] e default))).bind fun _ => .fail)
    | _ => .fail)
  | .AugAssign t op e _ => (match t with
    | .Name x _ => (match op with
      | .Add => (lookX E x).bind fun v => (match v with
        | .int a => (S.ev E σ e).bind2 fun v s => (match v with
          | .int b => .ret (.next, E.up x (.int (a + b)), s)
          | _ => .fail)
        | _ => .fail)
      | _ => .fail)
    | _ => .fail)
  | .Expr e _ => (match e with
    | .Call f as ks q => (S.ev E σ (.Call f as ks q)).bind2 fun v s => .ret (.next, E, s)
    | _ => .fail)
  | .If t b o _ => (S.tst E σ t).bind2 fun c s => (askB c).bind fun d => if d then exsX S.ex E s b else exsX S.ex E s o
  | st => (askX (exS T F n E.loc σ st)).bind fun p => (match p with | (fl, L, s) => .ret (fl, ⟨[], L⟩, s))
theorem exX_ok {T : Tbl} {S : SF} {F : Funs} {n : Nat} (H : SFok S F) (E : EX) (σ : Sto) (st : Stmt) : SnG lg (exX T S F n E σ st) (exS T F n E.loc σ st) := by
  have any : ∀ {st : Stmt}, SnG lg ((askX (exS T F n E.loc σ st)).bind fun p => (match p with | (fl, L, s) => .ret (fl, ⟨[], L⟩, s))) (exS T F n E.loc σ st) := SnG.bind Sn.qX fun a e => by rw [e]; exact SnG.ret
  have no : ∀ {st : Stmt} {o : Option (Fl × Loc × Sto)}, SnG lg ((askX (exS T F n E.loc σ st)).bind fun _ => .fail) o := SnG.bind Sn.qX fun a e => SnG.fail
  induction st using Stmt.casesOn with
  | Return o q =>
    induction o using Option.casesOn with
    | none => exact SnG.fail
    | some e => (refine SnG.bv (H.ev E σ e) fun v s => ?_; exact SnG.ret)
  | Assign ts e q =>
    induction ts using List.casesOn with
    | nil => exact SnG.fail
    | cons t ts =>
      induction ts using List.casesOn with
      | cons => exact SnG.fail
      | nil =>
        induction t using Expr.casesOn with
        | Name x qx => (refine SnG.bv (evaX_ok H E σ e) fun v s => ?_; exact SnG.ret)
        | Tuple es k qx => (refine SnG.bv (H.ev E σ e) fun v s => ?_; exact SnG.bindG SnG.bindT fun a e => by rw [e]; exact SnG.ret)
        | Attribute o a qa =>
          induction o using Expr.casesOn with
          | Name y qy =>
            refine SnG.bind2 (H.ev E σ e) fun v s ep => ?_
            show SnG lg _ (match F.ev E.loc σ e with | some (v, σ1) => (match F.ev E.loc σ1 (.Name y qy) with | some (.obj n, σ2) => (match σ2[n]? with | some (.inst c fs) => if T.field c a && decide (fs.length < 100) then some (Fl.next, E.loc, σ2.set n (.inst c (putF a v fs))) else none | _ => none) | _ => none) | none => none)
            rw [ep]
            refine SnG.bind2 (H.ev E s (.Name y qy)) fun ov s er => ?_
            dsimp only
            rw [er]
            cases ov <;> first | exact SnG.fail | skip
            refine SnG.bind Sn.qO fun ob e2 => ?_
            dsimp only
            rw [e2]
            cases ob with
            | list => exact SnG.fail
            | inst c fs => exact SnG.ite SnG.ret
          | _ => exact SnG.fail
        | _ => exact no
  | AugAssign t op e q =>
    induction t using Expr.casesOn with
    | Name x qx =>
      induction op using Operator.casesOn with
      | Add =>
        refine SnG.bind Sn.look fun v ev => ?_
        show SnG lg _ (match E.loc x with | some (.int a) => (match F.ev E.loc σ e with | some (.int b, σ2) => some (Fl.next, upd E.loc x (.int (a + b)), σ2) | _ => none) | _ => none)
        rw [ev]
        cases v <;> first | exact SnG.fail | skip
        refine SnG.bind2 (H.ev E σ e) fun v s ep => ?_
        dsimp only
        rw [ep]
        cases v <;> first | exact SnG.fail | exact SnG.ret
      | _ => exact SnG.fail
    | _ => exact SnG.fail
  | Expr e q =>
    induction e using Expr.casesOn with
    | Call f as ks qc => (refine SnG.bv (H.ev E σ (.Call f as ks qc)) fun v s => ?_; exact SnG.ret)
    | _ => exact SnG.fail
  | If t b o q =>
      refine SnG.bt (H.tst E σ t) fun c s => SnG.bind Sn.qB fun d hd => ?_
      cases Option.some.inj hd
      cases c
      · exact SnG.exs H.ex
      · exact SnG.exs H.ex
  | _ => exact any

noncomputable def sx (T : Tbl) : Nat → SF
  | 0 => ⟨fun _ _ _ => .fail, fun _ _ _ => .fail, fun _ _ _ => .fail⟩
  | n + 1 => ⟨evX T (sx T n) (lvl T n), tstX T (sx T n) (lvl T n), exX T (sx T n) (lvl T n) n⟩
theorem sx_ok {T : Tbl} : ∀ n, SFok (sx T n) (lvl T n)
  | 0 => ⟨fun _ _ _ => Sn.fail, fun _ _ _ => Sn.fail, fun _ _ _ => SnG.fail⟩
  | n + 1 => ⟨evX_ok (sx_ok n), tstX_ok (T := T) (sx_ok n), exX_ok (sx_ok n)⟩

section
variable {T : Tbl} {n : Nat} {E : EX} {σ σ' : Sto} {sc : List An} {v : V}
/-- a body's end: the names forgotten -/
noncomputable def finX (m : SM (Fl × EX × Sto)) : SM (Fl × Sto) := fun sc => match m sc with
  | .ok p sc' out => .ok (p.1, p.2.2) sc' out
  | .at q => .at q
  | .no => .no
theorem finX_ok {m : SM (Fl × EX × Sto)} {sc sc' out : List An} {p : Fl × Sto} (h : finX m sc = .ok p sc' out) : ∃ E, m sc = .ok (p.1, E, p.2) sc' out := by
  unfold finX at h
  cases hq : m sc with
  | no => rw [hq] at h; cases h
  | «at» q => rw [hq] at h; cases h
  | ok a sc1 o1 => rw [hq] at h; cases h; exact ⟨_, rfl⟩
theorem sx_ev {e : Expr} (fs : FS sc) (h : (sx T n).ev E σ e sc = .ok (v, σ') [] sc) : (lvl T n).ev E.loc σ e = some (v, σ') := (sx_ok n).ev E σ e _ _ _ _ h fs
theorem sx_tst {e : Expr} {b : Bool} (fs : FS sc) (h : (sx T n).tst E σ e sc = .ok (b, σ') [] sc) : (lvl T n).tst E.loc σ e = some (b, σ') := (sx_ok n).tst E σ e _ _ _ _ h fs
theorem sx_ex {s : Stmt} {fl : Fl} {E' : EX} (fs : FS sc) (h : (sx T n).ex E σ s sc = .ok (fl, E', σ') [] sc) : (lvl T n).ex E.loc σ s = some (fl, E'.loc, σ') := (sx_ok n).ex E σ s _ _ _ _ h fs
theorem sx_exs {ss : List Stmt} {fl : Fl} {E' : EX} (fs : FS sc) (h : exsX (sx T n).ex E σ ss sc = .ok (fl, E', σ') [] sc) : exs (lvl T n).ex E.loc σ ss = some (fl, E'.loc, σ') := SnG.exs (sx_ok n).ex _ _ _ _ h fs
theorem sx_body {ss : List Stmt} {fl : Fl} (fs : FS sc) (h : finX (exsX (sx T n).ex E σ ss) sc = .ok (fl, σ') [] sc) : ∃ L', exs (lvl T n).ex E.loc σ ss = some (fl, L', σ') :=
  (finX_ok h).elim fun _ q => ⟨_, sx_exs fs q⟩
theorem bindP_loc {xs : List Str} {vs : List V} : bindP xs vs = (EX.mk (xs.zip vs) fun _ => none).loc := by
  have key : ∀ l : List (Str × V), (fun y => l.lookup y) = loc' l fun _ => none := by
    intro l
    induction l with
    | nil => rfl
    | cons p l ih =>
      obtain ⟨y, v⟩ := p
      funext x
      unfold loc' upd
      rw [List.lookup_cons, ← ih]
      by_cases h : x = y
      · rw [if_pos h, h, beq_self_eq_true]
      · rw [if_neg h, show (x == y) = false from beq_eq_false_iff_ne.mpr h]
  exact key _
/-- the names of a call -/
noncomputable def argX (d : DefRec) (vs : List V) : EX := ⟨(d.params.args.map (·.arg)).zip vs, fun _ => none⟩
theorem sx_run {d : DefRec} {vs : List V} {fl : Fl} (fs : FS sc) (h : finX (exsX (sx T n).ex (argX d vs) σ d.body) sc = .ok (fl, σ') [] sc) : ∃ L', exs (lvl T n).ex (bindP (d.params.args.map (·.arg)) vs) σ d.body = some (fl, L', σ') := by
  rw [bindP_loc]; exact sx_body fs h
theorem fs_v {t : Option V} {r : V} (h : t = some r) (k : FS sc) : FS (.v t r :: sc) := ⟨h, k⟩
theorem fs_s {t : Option (V × Sto)} {r : V} {q : Sto} (h : t = some (r, q)) (k : FS sc) : FS (.s t r q :: sc) := ⟨h, k⟩
theorem fs_c {t : Option Bool} {r : Bool} (h : t = some r) (k : FS sc) : FS (.c t r :: sc) := ⟨h, k⟩
theorem fs_b {t r : Bool} (h : t = r) (k : FS sc) : FS (.b t r :: sc) := ⟨h, k⟩
theorem fs_t {p : Prop} [Decidable p] (h : p) (k : FS sc) : FS (.b (decide p) true :: sc) := ⟨decide_eq_true h, k⟩
theorem fs_f {p : Prop} [Decidable p] (h : ¬ p) (k : FS sc) : FS (.b (decide p) false :: sc) := ⟨decide_eq_false h, k⟩
theorem fs_o {t : Option Ob} {r : Ob} (h : t = some r) (k : FS sc) : FS (.o t r :: sc) := ⟨h, k⟩
theorem fs_nil : FS [] := trivial
end

section
variable {σ : Sto}
theorem app_l {k : Nat} {o : Ob} {l : Sto} (h : σ[k]? = some o) : (σ ++ l)[k]? = some o := by rw [List.getElem?_append_left (List.getElem?_eq_some_iff.mp h).1]; exact h
theorem gl_at {o : Ob} {l : Sto} : (σ ++ o :: l)[σ.length]? = some o := by rw [List.getElem?_append_right (Nat.le_refl _), Nat.sub_self]; rfl
theorem lt_new {a : Ob} {l : Sto} : σ.length < (σ ++ a :: l).length := by rw [List.length_append]; exact Nat.lt_add_of_pos_right (Nat.succ_pos _)
theorem lt_set {k j : Nat} {x : Ob} (h : k < σ.length) : k < (σ.set j x).length := by rw [List.length_set]; exact h
theorem lt_app {k : Nat} {l : Sto} (h : k < σ.length) : k < (σ ++ l).length := by rw [List.length_append]; exact Nat.lt_add_right _ h
theorem set_at {k : Nat} {x : Ob} (h : k < σ.length) : (σ.set k x)[k]? = some x := by rw [List.getElem?_set_self h]
theorem get_set {k j : Nat} {o x : Ob} (h : σ[k]? = some o) (hn : j ≠ k) : (σ.set j x)[k]? = some o := by rw [List.getElem?_set_ne hn]; exact h
theorem small_of {a : Int} (h1 : -1152921504606846976 < a) (h2 : a < 1152921504606846976) : small a = true := by
  unfold small
  rw [Bool.and_eq_true]
  exact ⟨decide_eq_true h1, decide_eq_true h2⟩
theorem mulL {a b : Int} (h1 : -1152921504606846976 < a) (h2 : a < 1152921504606846976) : binS .Mult σ (.int a) (.int b) = some (.int (a * b), σ) := by
  show Option.map (fun v => (v, σ)) (if small a || small b then some (V.int (a * b)) else none) = _
  rw [small_of h1 h2]; rfl
theorem mulR {a b : Int} (h1 : -1152921504606846976 < b) (h2 : b < 1152921504606846976) : binS .Mult σ (.int a) (.int b) = some (.int (a * b), σ) := by
  show Option.map (fun v => (v, σ)) (if small a || small b then some (V.int (a * b)) else none) = _
  rw [small_of h1 h2, Bool.or_true]; rfl
theorem fdC {a b : Int} (h1 : b ≠ 0) (h2 : b.natAbs < 1073741824) : binS .FloorDiv σ (.int a) (.int b) = some (.int (a.fdiv b), σ) := by
  show Option.map (fun v => (v, σ)) (if decide (b ≠ 0) && decide (b.natAbs < 1073741824) then some (V.int (a.fdiv b)) else none) = _
  rw [decide_eq_true h1, decide_eq_true h2]; rfl
theorem mdC {a b : Int} (h1 : b ≠ 0) : binS .Mod σ (.int a) (.int b) = some (.int (a.fmod b), σ) := by
  show Option.map (fun v => (v, σ)) (if decide (b ≠ 0) then some (V.int (a.fmod b)) else none) = _
  rw [decide_eq_true h1]; rfl
theorem powC {a b : Int} (h0 : 0 ≤ b) (hb : b ≤ 100) (h1 : -1152921504606846976 < a) (h2 : a < 1152921504606846976) : binS .Pow σ (.int a) (.int b) = some (.int (a ^ b.toNat), σ) := by
  show Option.map (fun v => (v, σ)) (if decide (0 ≤ b) && decide (b ≤ 100) && small a then some (V.int (a ^ b.toNat)) else none) = _
  rw [decide_eq_true h0, decide_eq_true hb, small_of h1 h2]; rfl
end
end Mine
end
section
open PySem PySem.W PyProof.Rows
set_option linter.unusedSectionVars false
namespace Mine

noncomputable abbrev Rho := List (Addr × Addr)

/-- tuples that no value names -/
class Hid where
  H : Addr → Prop
noncomputable def Ints : List Int → List Value → Prop
  | [], [] => True
  | x :: xs, v :: vs => (∃ t, v = .int x t) ∧ Ints xs vs
  | _, _ => False
@[reducible] noncomputable def noHid : Hid := ⟨fun _ => False⟩
variable [Hid]

mutual
inductive VIn (h : Heap) (ρ : Rho) : V → Value → Prop
  | none : VIn h ρ .none .none
  | bool (b : Bool) : VIn h ρ (.bool b) (.bool b)
  | int (i : Int) (t : Tok) : VIn h ρ (.int i) (.int i t)
  | str (x : Str) (t : Tok) : VIn h ρ (.str x) (.str x t)
  | tup {a : Addr} {vs : List Value} {l : List V} : IsTup h a vs.toArray → VAll h ρ l vs → ¬ Hid.H a → VIn h ρ (.tup l) (.ref a)
  | obj {n : Nat} {p : Addr × Addr} : ρ[n]? = some p → VIn h ρ (.obj n) (.ref p.1)
  | rng {r : Addr} {a b : Int} {t u v : Tok} : IsRange h r a b 1 t u v → VIn h ρ (.rng a b) (.ref r)
  | lst (a : Nat) : VIn h ρ (.lst a) (.ref a)
inductive VAll (h : Heap) (ρ : Rho) : List V → List Value → Prop
  | nil : VAll h ρ [] []
  | cons {d : V} {v : Value} {l : List V} {vs : List Value} : VIn h ρ d v → VAll h ρ l vs → VAll h ρ (d :: l) (v :: vs)
end

inductive FsIn (h : Heap) (ρ : Rho) : List (Str × V) → List DictEntry → Prop
  | nil : FsIn h ρ [] []
  | cons {x : Str} {d : V} {fs : List (Str × V)} {e : DictEntry} {es : List DictEntry} : (∃ t, e.key = .str x t) → VIn h ρ d e.val → FsIn h ρ fs es → FsIn h ρ ((x, d) :: fs) (e :: es)

inductive ObIn (CA : Str → Option Addr) (h : Heap) (ρ : Rho) : Ob → Addr × Addr → Prop
  | list {l : List V} {a : Addr} {vs : List Value} : h.PlainList a vs.toArray → VAll h ρ l vs → ObIn CA h ρ (.list l) (a, a)
  | inst {c : Str} {fs : List (Str × V)} {x dx C : Addr} {es : List DictEntry} {n : Nat} : CA c = some C → h.get? x = some (instObj C dx) → h.get? dx = some (dictOf es n) → FsIn h ρ fs es → ObIn CA h ρ (.inst c fs) (x, dx)

structure Inv (CA : Str → Option Addr) (B : Heap) (h : Heap) (ρ : Rho) (σ : Sto) : Prop where
  keep : ∀ b o, B.get? b = some o → h.get? b = some o
  len : ρ.length = σ.length
  obs : ∀ (i : Nat) (ob : Ob) (p : Addr × Addr), σ[i]? = some ob → ρ[i]? = some p → ObIn CA h ρ ob p
  nd : ∀ (i j : Nat) (p q : Addr × Addr), ρ[i]? = some p → ρ[j]? = some q → p.2 = q.2 → i = j
  fr : ∀ p ∈ ρ, B.get? p.2 = none
  hid : ∀ a, Hid.H a → B.get? a = none ∧ ∃ o, h.get? a = some o ∧ o.cls = .type "tuple" ∧ ∃ its n, o.data = .seq its n

/-- the heap goes on: what stood stands, but for the mutables and what X names -/
structure Go (X : Addr → Prop) (h : Heap) (ρ : Rho) (h' : Heap) (ρ' : Rho) : Prop where
  ext : ∀ b o, h.get? b = some o → (∀ p ∈ ρ, b ≠ p.2) → ¬ X b → h'.get? b = some o
  live : ∀ b o, h.get? b = some o → ∃ o', h'.get? b = some o'
  pre : ∃ τ, ρ' = ρ ++ τ ∧ ∀ p ∈ τ, h.get? p.2 = none

noncomputable def No : Addr → Prop := fun _ => False
/-- what X names is a dict or a cell -/
noncomputable def Soft (X : Addr → Prop) (h : Heap) : Prop := ∀ b o, X b → h.get? b = some o → (∃ es n, o.data = .dict es n) ∨ ∃ v, o.data = .cell v

section
variable {CA : Str → Option Addr} {B h h' h'' : Heap} {ρ ρ' ρ'' : Rho} {σ σ' : Sto} {X : Addr → Prop}

theorem Soft.no : Soft No h := fun _ _ x => x.elim
theorem Go.refl : Go X h ρ h ρ := ⟨fun _ _ e _ _ => e, fun _ o e => ⟨o, e⟩, [], (List.append_nil _).symm, fun _ hp => nomatch hp⟩
theorem Go.weaken (g : Go No h ρ h' ρ') : Go X h ρ h' ρ' := ⟨fun b o e hb _ => g.ext b o e hb id, g.live, g.pre⟩

/-- the object at a mutable's place -/
theorem ObIn.at {ob : Ob} {p : Addr × Addr} (x : ObIn CA h ρ ob p) : ∃ o, h.get? p.2 = some o ∧ ((o.cls = .type "list" ∧ ∃ its n, o.data = .seq its n) ∨ (o.cls = .type "dict" ∧ ∃ es n, o.data = .dict es n)) := by
  induction x using ObIn.casesOn with
  | list pl _ => obtain ⟨n, e⟩ := pl; exact ⟨_, e, .inl ⟨rfl, _, _, rfl⟩⟩
  | inst _ _ e _ => exact ⟨_, e, .inr ⟨rfl, _, _, rfl⟩⟩

theorem Inv.at (I : Inv CA B h ρ σ) {p : Addr × Addr} (hp : p ∈ ρ) : ∃ o, h.get? p.2 = some o ∧ ((o.cls = .type "list" ∧ ∃ its n, o.data = .seq its n) ∨ (o.cls = .type "dict" ∧ ∃ es n, o.data = .dict es n)) := by
  obtain ⟨i, hi, rfl⟩ := List.mem_iff_getElem.mp hp
  have hs : i < σ.length := I.len ▸ hi
  exact (I.obs i σ[i] ρ[i] (List.getElem?_eq_getElem hs) (List.getElem?_eq_getElem hi)).at

/-- what is neither a list nor a dict is no mutable -/
theorem Inv.off (I : Inv CA B h ρ σ) {b : Addr} {o : Obj} (e : h.get? b = some o) (h1 : ¬ (o.cls = .type "list" ∨ o.cls = .type "dict")) : ∀ p ∈ ρ, b ≠ p.2 := by
  intro p hp he
  obtain ⟨o', e', q⟩ := I.at hp
  rw [← he, e] at e'
  cases e'
  rcases q with ⟨q, _⟩ | ⟨q, _⟩
  · exact h1 (.inl q)
  · exact h1 (.inr q)
theorem Inv.offD (I : Inv CA B h ρ σ) {b : Addr} {o : Obj} (e : h.get? b = some o) (h1 : ∀ its n, o.data ≠ .seq its n) (h2 : ∀ es n, o.data ≠ .dict es n) : ∀ p ∈ ρ, b ≠ p.2 := by
  intro p hp he
  obtain ⟨o', e', q⟩ := I.at hp
  rw [← he, e] at e'
  cases e'
  rcases q with ⟨_, _, _, q⟩ | ⟨_, _, _, q⟩
  · exact h1 _ _ q
  · exact h2 _ _ q

theorem Go.trans (x : Go X h ρ h' ρ') (y : Go X h' ρ' h'' ρ'') : Go X h ρ h'' ρ'' := by
  obtain ⟨x1, xl, τ, rfl, x2⟩ := x
  obtain ⟨y1, yl, τ', rfl, y2⟩ := y
  refine ⟨fun b o e hb hX => y1 b o (x1 b o e hb hX) (fun p hp => ?_) hX, fun b o e => ?_, τ ++ τ', List.append_assoc .., fun p hp => ?_⟩
  · rcases List.mem_append.mp hp with hp | hp
    · exact hb p hp
    · intro q; have := x2 p hp; rw [← q, e] at this; exact nomatch this
  · obtain ⟨o', e'⟩ := xl b o e; exact yl b o' e'
  · rcases List.mem_append.mp hp with hp | hp
    · exact x2 p hp
    · cases q : h.get? p.2 with
      | none => rfl
      | some o => obtain ⟨o', e'⟩ := xl _ _ q; rw [y2 p hp] at e'; cases e'

/-- an object that is neither list, dict nor cell stands -/
theorem Go.stands (g : Go X h ρ h' ρ') (S : Soft X h) (I : Inv CA B h ρ σ) {b : Addr} {o : Obj} (e : h.get? b = some o) (h1 : ¬ (o.cls = .type "list" ∨ o.cls = .type "dict"))
    (h2 : ∀ es n, o.data ≠ .dict es n) (h3 : ∀ v, o.data ≠ .cell v) : h'.get? b = some o :=
  g.ext b o e (I.off e h1) fun hX => (S b o hX e).elim (fun ⟨_, _, q⟩ => h2 _ _ q) fun ⟨_, q⟩ => h3 _ q

theorem Go.isTup (g : Go X h ρ h' ρ') (S : Soft X h) (I : Inv CA B h ρ σ) {a : Addr} {vs : Array Value} (x : IsTup h a vs) : IsTup h' a vs := by
  obtain ⟨o, e, hc, n, hd⟩ := x
  exact ⟨o, g.stands S I e (by rw [hc]; simp) (by rw [hd]; simp) (by rw [hd]; simp), hc, n, hd⟩
theorem Go.isRange (g : Go X h ρ h' ρ') (S : Soft X h) (I : Inv CA B h ρ σ) {r : Addr} {a b c : Int} {t u v : Tok} (x : IsRange h r a b c t u v) : IsRange h' r a b c t u v :=
  g.stands S I x (by simp) (by simp) (by simp)
theorem Go.isCell (g : Go No h ρ h' ρ') (I : Inv CA B h ρ σ) {c : Addr} {v : Option Value} (x : h.IsCell c v) : h'.IsCell c v := by
  obtain ⟨o, e, hd⟩ := x
  exact ⟨o, g.ext c o e (I.offD e (by rw [hd]; simp) (by rw [hd]; simp)) id, hd⟩
theorem Go.get (g : Go X h ρ h' ρ') {n : Nat} {p : Addr × Addr} (e : ρ[n]? = some p) : ρ'[n]? = some p := by
  obtain ⟨_, _, τ, rfl, _⟩ := g
  rw [List.getElem?_append_left (List.getElem?_eq_some_iff.mp e).1]; exact e

mutual
theorem VIn.map {H1 H2 : Hid} {h1 h2 : Heap} {ρ1 ρ2 : Rho} (ok : V → Prop) (okL : List V → Prop) (e1 : ∀ l, ok (.tup l) → okL l) (e2 : ∀ d l, okL (d :: l) → ok d ∧ okL l)
    (ht : ∀ a vs, IsTup h1 a vs → ¬ H1.H a → IsTup h2 a vs ∧ ¬ H2.H a) (ho : ∀ n p, ok (.obj n) → ρ1[n]? = some p → ρ2[n]? = some p)
    (hr : ∀ r a b t u v, IsRange h1 r a b 1 t u v → IsRange h2 r a b 1 t u v) : ∀ {d : V} {v : Value}, @VIn H1 h1 ρ1 d v → ok d → @VIn H2 h2 ρ2 d v
  | _, _, @VIn.none H1 _ _, _ => @VIn.none H2 _ _
  | _, _, @VIn.bool H1 _ _ b, _ => @VIn.bool H2 _ _ b
  | _, _, @VIn.int H1 _ _ i t, _ => @VIn.int H2 _ _ i t
  | _, _, @VIn.str H1 _ _ x t, _ => @VIn.str H2 _ _ x t
  | _, _, @VIn.tup H1 _ _ _ _ _ t r hh, k => @VIn.tup H2 _ _ _ _ _ (ht _ _ t hh).1 (VAll.map ok okL e1 e2 ht ho hr r (e1 _ k)) (ht _ _ t hh).2
  | _, _, @VIn.obj H1 _ _ _ _ e, k => @VIn.obj H2 _ _ _ _ (ho _ _ k e)
  | _, _, @VIn.rng H1 _ _ _ _ _ _ _ _ r, _ => @VIn.rng H2 _ _ _ _ _ _ _ _ (hr _ _ _ _ _ _ r)
  | _, _, @VIn.lst H1 _ _ a, _ => @VIn.lst H2 _ _ a
theorem VAll.map {H1 H2 : Hid} {h1 h2 : Heap} {ρ1 ρ2 : Rho} (ok : V → Prop) (okL : List V → Prop) (e1 : ∀ l, ok (.tup l) → okL l) (e2 : ∀ d l, okL (d :: l) → ok d ∧ okL l)
    (ht : ∀ a vs, IsTup h1 a vs → ¬ H1.H a → IsTup h2 a vs ∧ ¬ H2.H a) (ho : ∀ n p, ok (.obj n) → ρ1[n]? = some p → ρ2[n]? = some p)
    (hr : ∀ r a b t u v, IsRange h1 r a b 1 t u v → IsRange h2 r a b 1 t u v) : ∀ {l : List V} {vs : List Value}, @VAll H1 h1 ρ1 l vs → okL l → @VAll H2 h2 ρ2 l vs
  | _, _, @VAll.nil H1 _ _, _ => @VAll.nil H2 _ _
  | _, _, @VAll.cons H1 _ _ _ _ _ _ a r, k => @VAll.cons H2 _ _ _ _ _ _ (VIn.map ok okL e1 e2 ht ho hr a (e2 _ _ k).1) (VAll.map ok okL e1 e2 ht ho hr r (e2 _ _ k).2)
end
noncomputable abbrev tt1 : V → Prop := fun _ => True
noncomputable abbrev tt2 : List V → Prop := fun _ => True
theorem VIn.mono (S : Soft X h) (I : Inv CA B h ρ σ) (g : Go X h ρ h' ρ') {d : V} {v : Value} (x : VIn h ρ d v) : VIn h' ρ' d v :=
  VIn.map tt1 tt2 (fun _ _ => trivial) (fun _ _ _ => ⟨trivial, trivial⟩) (fun _ _ t hh => ⟨g.isTup S I t, hh⟩) (fun _ _ _ e => g.get e) (fun _ _ _ _ _ _ r => g.isRange S I r) x trivial
theorem VAll.mono (S : Soft X h) (I : Inv CA B h ρ σ) (g : Go X h ρ h' ρ') {l : List V} {vs : List Value} (x : VAll h ρ l vs) : VAll h' ρ' l vs :=
  VAll.map tt1 tt2 (fun _ _ => trivial) (fun _ _ _ => ⟨trivial, trivial⟩) (fun _ _ t hh => ⟨g.isTup S I t, hh⟩) (fun _ _ _ e => g.get e) (fun _ _ _ _ _ _ r => g.isRange S I r) x trivial

theorem tup_hide (I : Inv CA B h ρ σ) : ∀ a vs, IsTup B a vs → ¬ noHid.H a → IsTup h a vs ∧ ¬ Hid.H a := fun _ _ ht _ => ⟨ht.elim fun o q => ⟨o, I.keep _ _ q.1, q.2⟩, fun ha => by obtain ⟨o, e, _⟩ := ht; rw [(I.hid _ ha).1] at e; cases e⟩
theorem VAll.hide (I : Inv CA B h ρ σ) {l : List V} {vs : List Value} (x : @VAll noHid B [] l vs) : VAll h ρ l vs :=
  VAll.map tt1 tt2 (fun _ _ => trivial) (fun _ _ _ => ⟨trivial, trivial⟩) (tup_hide I) (fun _ _ _ e => by cases e) (fun _ _ _ _ _ _ r => I.keep _ _ r) x trivial

theorem Ints.all : ∀ {xs : List Int} {us : List Value}, Ints xs us → VAll h ρ (xs.map .int) us
  | [], [], _ => .nil
  | _ :: _, _ :: _, ⟨⟨_, e⟩, r⟩ => by rw [e]; exact .cons (.int _ _) (Ints.all r)

theorem VAll.length {l : List V} {vs : List Value} (x : VAll h ρ l vs) : vs.length = l.length := by
  induction l generalizing vs with
  | nil => cases x; rfl
  | cons d l ih => cases x with | cons _ r => rw [List.length_cons, List.length_cons, ih r]
theorem VAll.append {l r : List V} {vs ws : List Value} (x : VAll h ρ l vs) (y : VAll h ρ r ws) : VAll h ρ (l ++ r) (vs ++ ws) := by
  induction l generalizing vs with
  | nil => cases x; exact y
  | cons d l ih => cases x with | cons a q => exact .cons a (ih q)
theorem VAll.get {l : List V} {vs : List Value} (x : VAll h ρ l vs) {k : Nat} {d : V} (hk : l[k]? = some d) : ∃ v, vs[k]? = some v ∧ VIn h ρ d v := by
  induction l generalizing vs k with
  | nil => simp at hk
  | cons e l ih =>
    cases x with
    | cons a r =>
      induction k using Nat.casesOn with
      | zero => simp at hk; subst hk; exact ⟨_, rfl, a⟩
      | succ k => exact ih r (by simpa using hk)
theorem VAll.set {l : List V} {vs : List Value} (x : VAll h ρ l vs) (k : Nat) {d : V} {v : Value} (y : VIn h ρ d v) : VAll h ρ (l.set k d) (vs.set k v) := by
  induction l generalizing vs k with
  | nil => cases x; exact .nil
  | cons e l ih =>
    cases x with
    | cons a r => induction k using Nat.casesOn with
      | zero => exact .cons y r
      | succ k => exact .cons a (ih r k)
theorem VAll.dropLast {l : List V} {vs : List Value} (x : VAll h ρ l vs) : VAll h ρ l.dropLast vs.dropLast := by
  induction l generalizing vs with
  | nil => cases x; exact .nil
  | cons e l ih =>
    cases x with
    | cons a r =>
      induction r using VAll.casesOn with
      | nil => exact .nil
      | cons b r => exact .cons a (ih (.cons b r))
theorem VAll.picks {l : List V} {vs : List Value} (x : VAll h ρ l vs) (js : List Nat) : VAll h ρ (js.filterMap (l[·]?)) (js.filterMap (vs[·]?)) := by
  induction js with
  | nil => exact .nil
  | cons j js ih =>
    rw [List.filterMap_cons, List.filterMap_cons]
    cases q : l[j]? with
    | none =>
      have : vs[j]? = none := by
        rw [List.getElem?_eq_none_iff] at q ⊢; rw [x.length]; exact q
      rw [this]; exact ih
    | some d =>
      obtain ⟨v, hv, hV⟩ := x.get q
      rw [hv]; exact .cons hV ih

theorem FsIn.mono (S : Soft X h) (I : Inv CA B h ρ σ) (g : Go X h ρ h' ρ') {fs : List (Str × V)} {es : List DictEntry} (H : FsIn h ρ fs es) : FsIn h' ρ' fs es := by
  induction H with
  | nil => exact .nil
  | cons a b c ih => exact .cons a (b.mono S I g) ih

end
end Mine
end
section
open PySem PySem.W PyProof.Rows PySem.Calls
set_option linter.unusedSectionVars false
namespace Mine
variable [Hid]

noncomputable def isVar : Option NameKind → Bool
  | some .local => true
  | some .cell => true
  | some .free => true
  | _ => false

structure AOk (A : Around) (n : Nat) : Prop where
  hd : A.handled = none
  dp : A.depth + 3 * n + 3 < recursionLimit
  un : A.units + 10 * n + 80 < cLine
theorem AOk.down {A : Around} {n : Nat} (a : AOk A (n + 1)) : AOk A n := ⟨a.hd, by have := a.dp; lia, by have := a.un; lia⟩

structure EnvOk (env : Env) : Prop where
  kind : env.scope.kind = .function
  gl : env.globals = mainGlobals
  bi : env.builtins = builtinsNs

noncomputable def Rd (h : Heap) (ρ : Rho) (env : Env) (x : Str) (d : V) : Prop :=
  ∃ v, VIn h ρ d v ∧ ((env.kindOf x = some .local ∧ ∃ m, h.Ns env.locals m ∧ m x = some v) ∨
    ((env.kindOf x = some .cell ∨ env.kindOf x = some .free) ∧ ∃ c, env.cells.lookup x = some c ∧ h.IsCell c (some v)))

structure LocIn (B h : Heap) (ρ : Rho) (env : Env) (L : Loc) : Prop where
  ns : ∃ m, h.Ns env.locals m
  off : ∀ p ∈ ρ, env.locals ≠ p.2
  rd : ∀ x d, L x = some d → isVar (env.kindOf x) = true → Rd h ρ env x d
  cell : ∀ x, env.kindOf x = some .cell → ∃ c, env.cells.lookup x = some c
  cells : ∀ x c, env.cells.lookup x = some c → ∃ v, h.IsCell c v
  apart : ∀ (x y : Str) (c : Addr), env.cells.lookup x = some c → env.cells.lookup y = some c → x = y
  nb : ∀ b, (b = env.locals ∨ ∃ x, env.cells.lookup x = some b) → B.get? b = none

section
variable {CA : Str → Option Addr} {B h h' : Heap} {ρ ρ' : Rho} {σ σ' : Sto} {env : Env} {L : Loc}

theorem LocIn.mono (l : LocIn B h ρ env L) (I : Inv CA B h ρ σ) (g : Go No h ρ h' ρ') : LocIn B h' ρ' env L := by
  have hns : ∀ m, h.Ns env.locals m → h'.Ns env.locals m := fun m ⟨o, es, ep, e, r⟩ => ⟨o, es, ep, g.ext _ _ e (fun p hp => l.off p hp) id, r⟩
  refine ⟨l.ns.elim fun m hm => ⟨m, hns m hm⟩, fun p hp => ?_, fun x d hx hv => ?_, l.cell, fun x c hx => ?_, l.apart, l.nb⟩
  · obtain ⟨τ, rfl, ht⟩ := g.pre
    rcases List.mem_append.mp hp with hp | hp
    · exact l.off p hp
    · obtain ⟨m, o, _, _, e, _⟩ := l.ns
      intro q; have := ht p hp; rw [← q, e] at this; exact nomatch this
  · obtain ⟨v, hV, q⟩ := l.rd x d hx hv
    refine ⟨v, hV.mono Soft.no I g, ?_⟩
    rcases q with ⟨k, m, hm, e⟩ | ⟨k, c, hc, e⟩
    · exact .inl ⟨k, m, hns m hm, e⟩
    · exact .inr ⟨k, c, hc, g.isCell I e⟩
  · obtain ⟨v, e⟩ := l.cells x c hx
    exact ⟨v, g.isCell I e⟩

end

/-- an expression's tree comes to d and the store σ' -/
noncomputable def EvOk (CA : Str → Option Addr) (B : Heap) (M : Model) (A : Around) (t : Sem Value) (s : Shared) (ρ : Rho) (d : V) (σ' : Sto) : Prop :=
  ∀ (Q E : Value → Shared → Prop), (∀ v h' tk ρ', Inv CA B h' ρ' σ' → Go No s.heap ρ h' ρ' → VIn h' ρ' d v → Q v { s with heap := h', toks := tk }) → wpAny M A t Q E s
noncomputable def TsOk (CA : Str → Option Addr) (B : Heap) (M : Model) (A : Around) (t : Sem Bool) (s : Shared) (ρ : Rho) (b : Bool) (σ' : Sto) : Prop :=
  ∀ (Q : Bool → Shared → Prop) (E : Value → Shared → Prop), (∀ h' tk ρ', Inv CA B h' ρ' σ' → Go No s.heap ρ h' ρ' → Q b { s with heap := h', toks := tk }) → wpAny M A t Q E s

noncomputable def XOf (env : Env) : Addr → Prop := fun b => b = env.locals ∨ ∃ x, env.cells.lookup x = some b
noncomputable def FlIn (h : Heap) (ρ : Rho) : Fl → Flow → Prop
  | .next, .next => True
  | .ret d, .ret v => VIn h ρ d v
  | _, _ => False
noncomputable def ExOk (CA : Str → Option Addr) (B : Heap) (M : Model) (A : Around) (env : Env) (t : Sem Flow) (s : Shared) (ρ : Rho) (f : Fl) (L' : Loc) (σ' : Sto) : Prop :=
  ∀ (Q : Flow → Shared → Prop) (E : Value → Shared → Prop), (∀ fl h' tk ρ', Inv CA B h' ρ' σ' → Go (XOf env) s.heap ρ h' ρ' → LocIn B h' ρ' env L' → FlIn h' ρ' f fl → Q fl { s with heap := h', toks := tk }) → wpAny M A t Q E s

noncomputable def isComp : Expr → Bool
  | .ListComp .. => true
  | .SetComp .. => true
  | .DictComp .. => true
  | _ => false
noncomputable def isSet : Expr → Bool
  | .Set .. => true
  | _ => false
noncomputable def isSlice : Expr → Bool
  | .Slice .. => true
  | _ => false
noncomputable def isStar : Expr → Bool
  | .Starred .. => true
  | _ => false

noncomputable def okName (T : Tbl) (sc : Scope) (x : Str) : Bool :=
  x != Str.ofString "__debug__" && (match T.kind x with
    | some _ => sc.names.lookup x == some .globalImplicit
    | none => isVar (sc.names.lookup x) && x != Str.ofString "__classdict__")

noncomputable def relabelS (sc sc0 : Scope) : Scope := { sc with names := sc.names.map fun (n, k) => if (k == .free && sc0.kind == .function && sc0.names.lookup n == some .cell) then (n, .cell) else (n, k) }

noncomputable def okTarget (sc : Scope) : Expr → Bool
  | .Name x _ => sc.names.lookup x == some .local || sc.names.lookup x == some .cell
  | .Tuple es _ _ => es.all fun | .Name x _ => sc.names.lookup x == some .local || sc.names.lookup x == some .cell | _ => false
  | _ => false
noncomputable def tNames : Expr → List Str
  | .Name x _ => [x]
  | .Tuple es _ _ => es.filterMap fun | .Name x _ => some x | _ => none
  | _ => []

/-- what the evaluator does not look at itself -/
noncomputable def okE (T : Tbl) : Nat → Scope → Expr → Bool
  | 0, _, _ => false
  | m + 1, sc, e => match e with
    | .Constant .. => true
    | .Name x _ => okName T sc x
    | .BinOp l _ r _ => okE T m sc l && okE T m sc r
    | .UnaryOp _ x _ => okE T m sc x
    | .Compare l _ rs _ => okE T m sc l && rs.all fun r => okE T m sc r && !isSet r
    | .BoolOp _ es _ => es.all (okE T m sc)
    | .IfExp t x y _ => okE T m sc t && okE T m sc x && okE T m sc y
    | .Tuple es _ _ => es.all fun e => okE T m sc e && !isStar e
    | .List es _ => es.all fun e => okE T m sc e && !isStar e
    | .Subscript o i _ => okE T m sc o && okE T m sc i
    | .Slice a b c _ => [a, b, c].all fun | some e => okE T m sc e | none => true
    | .Attribute (.Name y _) _ _ => okName T sc y
    | .Call f as _ pos => as.all (fun e => okE T m sc e && !isStar e) && decide (as.length < 20) && (match f with
      | .Name x _ => x != Str.ofString "__debug__" && sc.names.lookup x == some .globalImplicit
      | .Attribute (.Name y _) _ apos => okName T sc y && apos.endLine == pos.line
      | _ => false)
    | .ListComp elt gens sc' _ => sc'.kind == .function && sc'.names.all (fun p => p.2 != .cell && (p.2 != .local || sc'.names.lookup p.1 == some .local) && (p.2 != .free || (sc'.names.lookup p.1 == some .free && sc.names.lookup p.1 == some .cell))) && decide ((gens.flatMap fun g => tNames g.target).Nodup) &&
        okE T m (relabelS sc' sc) elt && gens.all (fun g => g.is_async == 0 && okTarget (relabelS sc' sc) g.target && (tNames g.target).all (fun x => sc'.names.lookup x == some .local) && !isSet g.iter && g.ifs.all (okE T m (relabelS sc' sc))) &&
        (match gens with | g :: gs => okE T m sc g.iter && gs.all (fun g => okE T m (relabelS sc' sc) g.iter) | [] => false)
    | _ => false

noncomputable def okS (T : Tbl) : Nat → Scope → Stmt → Bool
  | 0, _, _ => false
  | m + 1, sc, st => match st with
    | .Return (some e) _ => okE T m sc e
    | .Assign [t] e pos => okE T m sc e && (match t with
      | .Name x _ => okTarget sc t
      | .Tuple .. => okTarget sc t && !isComp e && (match e with | .Tuple vs _ _ => !vs.all (constantsAlone 8) | _ => true)
      | .Attribute (.Name y _) _ _ => okName T sc y && !isComp e
      | .Subscript o i _ => okE T m sc o && okE T m sc i && !isComp e && !isSlice i
      | _ => false)
    | .AugAssign (.Name x q) _ e _ => okTarget sc (.Name x q) && x != Str.ofString "__classdict__" && okE T m sc e
    | .Expr e _ => okE T m sc e && !isComp e
    | .If t b o _ => okE T m sc t && b.all (okS T m sc) && o.all (okS T m sc)
    | .While t b _ _ => okE T m sc t && b.all (okS T m sc)
    | .For t it b _ _ => okE T m sc it && okTarget sc t && b.all (okS T m sc) && !isSet it
    | _ => true

structure GoodF (T : Tbl) (CA : Str → Option Addr) (B : Heap) (M : Model) (n : Nat) (F : Funs) : Prop where
  ev : ∀ A env L σ e d σ' m, AOk A n → EnvOk env → okE T m env.scope e = true → F.ev L σ e = some (d, σ') → ∀ s ρ, Inv CA B s.heap ρ σ → LocIn B s.heap ρ env L → EvOk CA B M A (eval e env) s ρ d σ'
  tst : ∀ A env L σ e b σ' m, AOk A n → EnvOk env → okE T m env.scope e = true → F.tst L σ e = some (b, σ') → ∀ s ρ, Inv CA B s.heap ρ σ → LocIn B s.heap ρ env L → TsOk CA B M A (isTrue e env (eval e env)) s ρ b σ'
  ex : ∀ A env L σ st f L' σ' m, AOk A n → EnvOk env → okS T m env.scope st = true → F.ex L σ st = some (f, L', σ') → ∀ s ρ, Inv CA B s.heap ρ σ → LocIn B s.heap ρ env L → ExOk CA B M A env (exec st env) s ρ f L' σ'

section
variable {CA : Str → Option Addr} {B : Heap} {prog : Program} {w : World} {A : Around} {s : Shared} {ρ : Rho} {σ σ' σ1 : Sto} {env : Env} {L : Loc} {d d1 : V}

end
end Mine
end
section
open PySem PySem.W PyProof.Rows PySem.Calls
set_option linter.unusedSectionVars false
namespace Mine
variable [Hid]
section
variable {CA : Str → Option Addr} {B h h' : Heap} {ρ ρ' : Rho} {σ σ' : Sto} {X : Addr → Prop}

theorem Go.grow (k : ∀ b o, h.get? b = some o → h'.get? b = some o) : Go X h ρ h' ρ := ⟨fun b o e _ _ => k b o e, fun b o e => ⟨o, k b o e⟩, [], (List.append_nil _).symm, fun _ hp => nomatch hp⟩

theorem PlainList.keep {a : Addr} {its : Array Value} (x : h.PlainList a its) (k : ∀ o, h.get? a = some o → h'.get? a = some o) : h'.PlainList a its := let ⟨n, e⟩ := x; ⟨n, k _ e⟩

/-- all of a store's objects stand on while nothing turns -/
theorem ObIn.grow (I : Inv CA B h ρ σ) (g : Go No h ρ h' ρ') {ob : Ob} {p : Addr × Addr} (hd : ∀ o, h.get? p.2 = some o → h'.get? p.2 = some o) (x : ObIn CA h ρ ob p) : ObIn CA h' ρ' ob p := by
  induction x using ObIn.casesOn with
  | list pl r => exact .list (PlainList.keep pl hd) (r.mono Soft.no I g)
  | inst hc hx hdx hf =>
    refine .inst hc (g.ext _ _ hx (I.off hx (by simp)) id) (hd _ hdx) (hf.mono Soft.no I g)

theorem Inv.grow (I : Inv CA B h ρ σ) (k : ∀ b o, h.get? b = some o → h'.get? b = some o) : Inv CA B h' ρ σ where
  keep := fun b o e => k b o (I.keep b o e)
  len := I.len
  obs := fun i ob p e f => (I.obs i ob p e f).grow I (Go.grow k) fun o q => k _ _ q
  nd := I.nd
  fr := I.fr
  hid := fun a ha => ⟨(I.hid a ha).1, (I.hid a ha).2.elim fun o e => ⟨o, k _ _ e.1, e.2⟩⟩

theorem push_keep (o : Obj) : ∀ b o', h.get? b = some o' → (h.push o).get? b = some o' := fun _ _ e => Heap.get?_push_of_some _ e

/-- a fresh mutable -/
theorem Inv.add (I : Inv CA B h ρ σ) (k : ∀ b o, h.get? b = some o → h'.get? b = some o) {p : Addr × Addr} {ob : Ob} (hn : h.get? p.2 = none) (hB : B.get? p.2 = none) (x : ObIn CA h' (ρ ++ [p]) ob p) : Inv CA B h' (ρ ++ [p]) (σ ++ [ob]) ∧ Go No h ρ h' (ρ ++ [p]) := by
  have g : Go No h ρ h' (ρ ++ [p]) := ⟨fun b o e _ _ => k b o e, fun b o e => ⟨o, k b o e⟩, [p], rfl, fun q hq => by rw [List.mem_singleton.mp hq]; exact hn⟩
  refine ⟨⟨fun b o e => k b o (I.keep b o e), by rw [List.length_append, List.length_append, I.len]; rfl, ?_, ?_, ?_, fun a ha => ⟨(I.hid a ha).1, (I.hid a ha).2.elim fun o e => ⟨o, k _ _ e.1, e.2⟩⟩⟩, g⟩
  · intro i ob' q e f
    by_cases hi : i < σ.length
    · rw [List.getElem?_append_left hi] at e
      rw [List.getElem?_append_left (I.len ▸ hi)] at f
      exact (I.obs i ob' q e f).grow I g fun o h => k _ _ h
    · have hi' : i = σ.length := by
        have := (List.getElem?_eq_some_iff.mp e).1
        rw [List.length_append] at this
        simp at this; omega
      subst hi'
      rw [List.getElem?_append_right (Nat.le_refl _)] at e
      rw [← I.len, List.getElem?_append_right (Nat.le_refl _)] at f
      simp at e f
      subst e; subst f
      exact x
  · intro i j a b e f hab
    have live : ∀ r ∈ ρ, r.2 ≠ p.2 := fun r hr q => by obtain ⟨o, e, _⟩ := I.at hr; rw [q, hn] at e; exact nomatch e
    have hlen := I.len
    have hi := (List.getElem?_eq_some_iff.mp e).1
    have hj := (List.getElem?_eq_some_iff.mp f).1
    rw [List.length_append] at hi hj
    simp at hi hj
    by_cases h1 : i < ρ.length <;> by_cases h2 : j < ρ.length
    · rw [List.getElem?_append_left h1] at e
      rw [List.getElem?_append_left h2] at f
      exact I.nd i j a b e f hab
    · rw [List.getElem?_append_left h1] at e
      have hj' : j = ρ.length := by omega
      subst hj'
      rw [List.getElem?_append_right (Nat.le_refl _)] at f
      simp at f
      subst f
      exact absurd hab (live _ (List.mem_of_getElem? e))
    · rw [List.getElem?_append_left h2] at f
      have hi' : i = ρ.length := by omega
      subst hi'
      rw [List.getElem?_append_right (Nat.le_refl _)] at e
      simp at e
      subst e
      exact absurd hab.symm (live _ (List.mem_of_getElem? f))
    · omega
  · intro q hq
    rcases List.mem_append.mp hq with hq | hq
    · exact I.fr q hq
    · rw [List.mem_singleton.mp hq]; exact hB

theorem Inv.notHid (I : Inv CA B h ρ σ) {a : Addr} (e : h.get? a = none) : ¬ Hid.H a := fun ha => by
  obtain ⟨o, q, _⟩ := (I.hid a ha).2
  rw [e] at q; cases q

theorem Inv.none_of_size (I : Inv CA B h ρ σ) : h.get? h.objs.size = none ∧ B.get? h.objs.size = none := by
  have h1 : h.get? h.objs.size = none := by
    cases q : h.get? h.objs.size with
    | none => rfl
    | some o => exact absurd (Heap.lt_size q) (Nat.lt_irrefl _)
  refine ⟨h1, ?_⟩
  cases q : B.get? h.objs.size with
  | none => rfl
  | some o => rw [I.keep _ _ q] at h1; exact nomatch h1

/-- a fresh list -/
theorem Inv.newList (I : Inv CA B h ρ σ) {l : List V} {vs : List Value} (x : VAll h ρ l vs) :
    Inv CA B (h.push { cls := .type "list", data := .seq vs.toArray }) (ρ ++ [(h.objs.size, h.objs.size)]) (σ ++ [.list l]) ∧ Go No h ρ (h.push { cls := .type "list", data := .seq vs.toArray }) (ρ ++ [(h.objs.size, h.objs.size)]) ∧
    VIn (h.push { cls := .type "list", data := .seq vs.toArray }) (ρ ++ [(h.objs.size, h.objs.size)]) (.obj σ.length) (.ref h.objs.size) := by
  obtain ⟨n1, n2⟩ := I.none_of_size
  have k := push_keep (h := h) { cls := .type "list", data := .seq vs.toArray }
  have g : Go No h ρ (h.push { cls := .type "list", data := .seq vs.toArray }) (ρ ++ [(h.objs.size, h.objs.size)]) := ⟨fun b o e _ _ => k b o e, fun b o e => ⟨o, k b o e⟩, _, rfl, fun q hq => by rw [List.mem_singleton.mp hq]; exact n1⟩
  obtain ⟨a, b⟩ := I.add k (p := (h.objs.size, h.objs.size)) (ob := .list l) n1 n2 (.list ⟨0, Heap.get?_push_size _ rfl⟩ (x.mono Soft.no I g))
  refine ⟨a, b, VIn.obj (p := (h.objs.size, h.objs.size)) ?_⟩
  rw [← I.len, List.getElem?_append_right (Nat.le_refl _)]; simp

/-- a mutable turned -/
theorem Inv.turn (I : Inv CA B h ρ σ) {n : Nat} {p : Addr × Addr} {ob : Ob} (hp : ρ[n]? = some p) (hs : Heap.SameBut p.2 h h') (hl : ∃ o, h'.get? p.2 = some o) (x : ∀ g : Go No h ρ h' ρ, ObIn CA h' ρ ob p) : Inv CA B h' ρ (σ.set n ob) ∧ Go No h ρ h' ρ := by
  have hm := List.mem_of_getElem? hp
  have g : Go No h ρ h' ρ := ⟨fun b o e hb _ => (hs.2 b (hb p hm)).trans e, fun b o e => by
    by_cases hb : b = p.2
    · subst hb; exact hl
    · exact ⟨o, (hs.2 b hb).trans e⟩, [], (List.append_nil _).symm, fun _ hp => nomatch hp⟩
  refine ⟨⟨fun b o e => ?_, by rw [List.length_set]; exact I.len, ?_, I.nd, I.fr, fun a ha => ⟨(I.hid a ha).1, (I.hid a ha).2.elim fun o e => ⟨o, g.ext a o e.1 (I.off e.1 (by rw [e.2.1]; simp)) id, e.2⟩⟩⟩, g⟩
  · refine (hs.2 b fun q => ?_).trans (I.keep b o e)
    have := I.fr p hm; rw [← q, e] at this; exact nomatch this
  · intro i ob' q e f
    by_cases hi : i = n
    · subst hi
      rw [hp] at f; cases f
      have hlt := (List.getElem?_eq_some_iff.mp hp).1
      rw [List.getElem?_set_self (I.len ▸ hlt)] at e
      cases e
      exact x g
    · rw [List.getElem?_set_ne (Ne.symm hi)] at e
      have hne : q.2 ≠ p.2 := fun z => hi (I.nd i n q p f hp z)
      exact (I.obs i ob' q e f).grow I g fun o h => (hs.2 _ hne).trans h
end
end Mine
end
section
open PySem PySem.W PyProof.Rows PySem.Calls
set_option linter.unusedSectionVars false
namespace Mine
variable [Hid]
section
variable {CA : Str → Option Addr} {B : Heap} {prog : Program} {w : World} {A : Around} {s : Shared} {ρ : Rho} {σ σ' : Sto} {env : Env} {L : Loc} {d d1 d2 : V} {v1 v2 : Value}

theorem EvOk.val {t : Sem Value} {v : Value} {tk : Nat} (I : Inv CA B s.heap ρ σ) (hv : VIn s.heap ρ d v) (h : ∀ (Q E : Value → Shared → Prop), Q v { s with toks := tk } → wpAny (model prog w) A t Q E s) : EvOk CA B (model prog w) A t s ρ d σ :=
  fun Q E k => h Q E (k v s.heap tk ρ I Go.refl hv)
theorem EvOk.val0 {t : Sem Value} {v : Value} (I : Inv CA B s.heap ρ σ) (hv : VIn s.heap ρ d v) (h : ∀ (Q E : Value → Shared → Prop), Q v s → wpAny (model prog w) A t Q E s) : EvOk CA B (model prog w) A t s ρ d σ :=
  fun Q E k => h Q E (k v s.heap s.toks ρ I Go.refl hv)
/-- a new object that is no mutable -/
theorem EvOk.made {t : Sem Value} {v : Value} {h' : Heap} {tk : Nat} (I : Inv CA B s.heap ρ σ) (k : ∀ b o, s.heap.get? b = some o → h'.get? b = some o) (hv : VIn h' ρ d v) (h : ∀ (Q E : Value → Shared → Prop), Q v { s with heap := h', toks := tk } → wpAny (model prog w) A t Q E s) : EvOk CA B (model prog w) A t s ρ d σ :=
  fun Q E q => h Q E (q v h' tk ρ (I.grow k) (Go.grow k) hv)

theorem small_bits {a : Int} (h : small a = true) : Builtin.Int.intBits a ≤ 64 := by
  unfold small at h
  simp only [Bool.and_eq_true, decide_eq_true_eq] at h
  exact intBits_le_64 (by omega) (by omega)

theorem binI_ok {op : Operator} {a b : Int} {t u : Tok} (he : binI op a b = some d) (I : Inv CA B s.heap ρ σ) : EvOk CA B (model prog w) A (binaryOp op (.int a t) (.int b u)) s ρ d σ := by
  cases op <;> simp only [binI] at he
  case Add => cases he; exact EvOk.val I (.int _ _) fun Q E h => PySem.P.add_int h
  case Sub => cases he; exact EvOk.val I (.int _ _) fun Q E h => PySem.P.sub_int h
  case Mult =>
    split at he
    · rename_i hc
      cases he
      refine EvOk.val I (.int _ _) fun Q E h => PySem.P.mul_int h ?_
      rcases Bool.or_eq_true_iff.mp hc with hc | hc
      · exact IntMulOk.of_left (small_bits hc)
      · exact IntMulOk.of_right (small_bits hc)
    · cases he
  case FloorDiv =>
    split at he
    · rename_i hc
      cases he
      simp only [Bool.and_eq_true, decide_eq_true_eq] at hc
      exact EvOk.val I (.int _ _) fun Q E h => PyProof.Rows.floordiv_int hc.1 h (Or.inl (PyProof.noPylong_small hc.2))
    · cases he
  case Mod =>
    split at he
    · rename_i hc
      cases he
      simp only [decide_eq_true_eq] at hc
      exact EvOk.val I (.int _ _) fun Q E h => PyProof.Rows.mod_int' hc h
    · cases he
  case Pow =>
    split at he
    · rename_i hc
      cases he
      simp only [Bool.and_eq_true, decide_eq_true_eq] at hc
      refine EvOk.val I (.int _ _) fun Q E h => PyProof.Rows.pow_int hc.1.1 ?_ h
      have h1 := small_bits hc.2
      have h2 := hc.1.2
      have h3 := hc.1.1
      have : (Builtin.Int.intBits a : Int) * b ≤ 64 * 100 := by
        refine Int.le_trans (Int.mul_le_mul_of_nonneg_right (show (Builtin.Int.intBits a : Int) ≤ 64 by omega) h3) (Int.mul_le_mul_of_nonneg_left h2 (by lia))
      omega
    · cases he
  all_goals exact nomatch he

theorem Inv.list (I : Inv CA B s.heap ρ σ) {n : Nat} {l : List V} {v : Value} (hs : σ[n]? = some (.list l)) (hv : VIn s.heap ρ (.obj n) v) : ∃ a vs k, v = .ref a ∧ ρ[n]? = some (a, a) ∧ s.heap.get? a = some (listOf vs.toArray k) ∧ VAll s.heap ρ l vs := by
  cases hv with
  | obj hp =>
    rename_i p
    have := I.obs n _ p hs hp
    generalize hob : Ob.list l = ob at this
    induction this using ObIn.casesOn with
    | list pl r => cases hob; obtain ⟨k, e⟩ := pl; exact ⟨_, _, k, rfl, hp, e, r⟩
    | inst => cases hob

theorem sizeLine_val : sizeLine = 16777216 := rfl

theorem binS_ok {op : Operator} (he : binS op σ d1 d2 = some (d, σ')) (I : Inv CA B s.heap ρ σ) (x1 : VIn s.heap ρ d1 v1) (x2 : VIn s.heap ρ d2 v2) : EvOk CA B (model prog w) A (binaryOp op v1 v2) s ρ d σ' := by
  unfold binS at he
  split at he
  · rename_i a b
    cases x1; cases x2
    obtain ⟨v, hv, e⟩ := Option.map_eq_some_iff.mp he
    cases e
    exact binI_ok hv I
  · rename_i m n
    split at he
    · rename_i l r e1 e2
      split at he
      · rename_i hsz
        cases he
        obtain ⟨a, vs, k, rfl, _, hl, r1⟩ := I.list e1 x1
        obtain ⟨b, ws, j, rfl, _, hr, r2⟩ := I.list e2 x2
        intro Q E q
        have hsz' := of_decide_eq_true hsz
        unfold most at hsz'
        refine PySem.P.add_list hl hr ?_ (by rw [List.size_toArray, List.size_toArray, r1.length, r2.length, sizeLine_val]; (first | assumption | (apply Nat.le_trans; assumption; exact Nat.le_of_ble_eq_true rfl)))
        have e : vs.toArray ++ ws.toArray = (vs ++ ws).toArray := by simp
        rw [e]
        obtain ⟨i1, i2, i3⟩ := I.newList (r1.append r2)
        exact q _ _ s.toks _ i1 i2 i3
      · cases he
    · cases he
  · cases he

mutual
theorem VIn.reads (h : Heap) : ∀ {d : V} {v : Value}, VIn h ρ d v → free d = true → ∃ as, Reads h v (py d) as
  | _, _, .none, _ => ⟨_, .none⟩
  | _, _, .bool b, _ => ⟨_, .bool b⟩
  | _, _, .int i t, _ => ⟨_, .int i t⟩
  | _, _, .str x t, _ => ⟨_, .str x t⟩
  | _, _, .tup ⟨o, e, hc, n, hd⟩ r _, hf => by
    obtain ⟨as, q⟩ := VAll.reads h r (by simpa [free] using hf)
    exact ⟨as, by rw [py]; exact reads_tuple_at e hc hd (by simpa using q)⟩
  | _, _, .obj _, hf => by simp [free] at hf
  | _, _, .rng _, hf => by simp [free] at hf
  | _, _, .lst _, hf => by simp [free] at hf
theorem VAll.reads (h : Heap) : ∀ {l : List V} {vs : List Value}, VAll h ρ l vs → freeL l = true → ∃ as, ReadsAll h vs (pyL l) as
  | _, _, .nil, _ => ⟨_, .nil⟩
  | _, _, .cons a r, hf => by
    simp only [freeL, Bool.and_eq_true] at hf
    obtain ⟨as, q⟩ := VIn.reads h a hf.1
    obtain ⟨bs, p⟩ := VAll.reads h r hf.2
    exact ⟨_, by rw [pyL]; exact .cons q p⟩
end

theorem data_reads {x : PyData} (he : Mine.data σ d = some x) (I : Inv CA B s.heap ρ σ) (x1 : VIn s.heap ρ d v1) : ∃ as, Reads s.heap v1 x as := by
  unfold Mine.data at he
  split at he
  · rename_i n
    split at he
    · rename_i l e1
      split at he
      · rename_i hf
        cases he
        obtain ⟨a, vs, k, rfl, _, hl, r1⟩ := I.list e1 x1
        obtain ⟨as, q⟩ := VAll.reads _ r1 hf
        exact ⟨_, reads_list_at hl rfl rfl (by simpa using q)⟩
      · cases he
    · cases he
  · split at he
    · rename_i hf
      cases he
      exact VIn.reads _ x1 hf
    · cases he

theorem Ok.mapp {α β : Type} {P : β → Prop} {o : Option α} {g : α → β} (h : Ok o fun a => P (g a)) : Ok (o.map g) P := by
  induction o using Option.casesOn with
  | none => exact Ok.no
  | some a => exact Ok.ret (h a rfl)
theorem Ok.obind {α β : Type} {P : β → Prop} {o : Option α} {g : α → Option β} (h : ∀ a, o = some a → Ok (g a) P) : Ok (o.bind g) P := by
  induction o using Option.casesOn with
  | none => exact Ok.no
  | some a => exact h a rfl

theorem VIn.isInt {h : Heap} {i : Int} {v : Value} (x : VIn h ρ (.int i) v) : ∃ t, v = .int i t := by cases x; exact ⟨_, rfl⟩
theorem cmpS_ok {op : CmpOp} {b : Bool} {n : Nat} (a : AOk A n) (he : cmpS op σ d1 d2 = some b) (I : Inv CA B s.heap ρ σ) (x1 : VIn s.heap ρ d1 v1) (x2 : VIn s.heap ρ d2 v2) : EvOk CA B (model prog w) A (compareOp op v1 v2) s ρ (.bool b) σ := by
  have hu : A.units + 64 < cLine := Nat.lt_of_le_of_lt (by lia) a.un
  have dat : ∀ {g : PyData → PyData → Bool}, (∀ x y as bs, Reads s.heap v1 x as → Reads s.heap v2 y bs → okData x = true → okData y = true → EvOk CA B (model prog w) A (compareOp op v1 v2) s ρ (.bool (g x y)) σ) → Ok ((Mine.data σ d1).bind fun x => (Mine.data σ d2).bind fun y => if okData x && okData y then some (g x y) else none) fun b => EvOk CA B (model prog w) A (compareOp op v1 v2) s ρ (.bool b) σ := fun k =>
    Ok.obind fun x hx => Ok.obind fun y hy => Ok.ite fun hk => Ok.ret (by
      obtain ⟨as, rx⟩ := data_reads hx I x1
      obtain ⟨bs, ry⟩ := data_reads hy I x2
      exact k x y as bs rx ry (an1 hk) (an2 hk))
  have two : ∀ {x y : Int} {c : Bool}, d1 = .int x → d2 = .int y → (∀ t u (Q E : Value → Shared → Prop), Q (.bool c) s → wpAny (model prog w) A (compareOp op (.int x t) (.int y u)) Q E s) → EvOk CA B (model prog w) A (compareOp op v1 v2) s ρ (.bool c) σ := fun e1 e2 k => by
    rw [e1] at x1
    rw [e2] at x2
    obtain ⟨t, q1⟩ := x1.isInt
    obtain ⟨u, q2⟩ := x2.isInt
    rw [q1, q2]
    exact EvOk.val0 I (.bool _) (k t u)
  suffices H : Ok (cmpS op σ d1 d2) fun b => EvOk CA B (model prog w) A (compareOp op v1 v2) s ρ (.bool b) σ from H b he
  clear he
  induction op using CmpOp.casesOn with
  | Eq => exact dat (g := PyData.eqv) (fun x y as bs rx ry h1 h2 => EvOk.val0 I (.bool _) fun Q E h => eq_dataH rx ry h1 h2 hu h)
  | NotEq => exact dat (g := fun x y => !PyData.eqv x y) (fun x y as bs rx ry h1 h2 => EvOk.val0 I (.bool _) fun Q E h => ne_dataH rx ry h1 h2 hu h)
  | Lt => exact Ok.int2 fun x y e1 e2 => Ok.ret (two e1 e2 fun t u Q E h => PySem.P.lt_int h)
  | LtE => exact Ok.int2 fun x y e1 e2 => Ok.ret (two e1 e2 fun t u Q E h => PySem.P.le_int h)
  | Gt => exact Ok.int2 fun x y e1 e2 => Ok.ret (two e1 e2 fun t u Q E h => PySem.P.gt_int h)
  | GtE => exact Ok.int2 fun x y e1 e2 => Ok.ret (two e1 e2 fun t u Q E h => PySem.P.ge_int h)
  | IsNot =>
    intro b he
    unfold cmpS at he
    dsimp only at he
    split at he
    · cases he; cases x1; cases x2; exact EvOk.val0 I (.bool _) fun Q E h => wpAny_isNot_plain (by rfl) h
    · cases he
      cases x2
      cases x1
      exact EvOk.val0 I (.bool _) fun Q E h => wpAny_isNot_plain (by rfl) (by exact h)
    · cases he
  | _ => exact Ok.no

end
end Mine
end
section
open PySem PySem.W PyProof.Rows PySem.Calls
set_option linter.unusedSectionVars false
namespace Mine
variable [Hid]

noncomputable def biV : Bi → Value
  | .len => .builtin "len"
  | .range => .type "range"
  | .abs => .builtin "abs"
  | .max => .builtin "max"
  | .min => .builtin "min"
  | .int => .type "int"
  | .tuple => .type "tuple"
  | .sum => .builtin "sum"
  | .zip => .type "zip"

noncomputable def okFn (T : Tbl) (d : DefRec) : Bool :=
  d.scope.kind == .function && !d.scope.isCoroutine && !d.scope.isGenerator &&
  d.params.posonlyargs.isEmpty && d.params.vararg.isNone && d.params.kwonlyargs.isEmpty && d.params.kwarg.isNone &&
  decide ((d.params.args.map (·.arg)).Nodup) && (d.params.args.all fun a => d.scope.names.lookup a.arg == some .local || d.scope.names.lookup a.arg == some .cell) &&
  decide ((d.scope.names.map (·.1)).Nodup) && d.body.all (okS T 60 d.scope)

structure FnAt (T : Tbl) (B : Heap) (a : Addr) (d : DefRec) : Prop where
  at_ : ∃ o fd, B.get? a = some o ∧ o.data = .func fd ∧ fd.params = d.params ∧ fd.body = .stmts d.body ∧ fd.scope = d.scope ∧ fd.closure = [] ∧ fd.globals = mainGlobals ∧ fd.builtins = builtinsNs ∧ B.CodeRec fd.code fd.qualname ∧ fd.defaults = .none
  ok : okFn T d = true

noncomputable def MethP (T : Tbl) (K : Frag) (B : Heap) (C : Addr) (m : Str) (d : DefRec) : Prop := ∃ f, findIn K (.ref C) m = some (some (.ref f)) ∧ isFn K (.ref f) = true ∧ plainGet K C m = true ∧ FnAt T B f d
noncomputable def InitP (T : Tbl) (K : Frag) (B : Heap) (c : Str) (C : Addr) (d : DefRec) : Prop := ∃ f o fd, findIn K (.ref C) "__init__" = some (some (.ref f)) ∧ isFn K (.ref f) = true ∧
    B.get? f = some o ∧ o.data = .func fd ∧ fd.body = .stmts d.body ∧ fd.scope = d.scope ∧ fd.closure = [] ∧ fd.globals = mainGlobals ∧ fd.builtins = builtinsNs ∧ B.CodeRec fd.code fd.qualname ∧ okFn T d = true ∧ (∀ x ∈ d.scope.names, x.2 ≠ .cell) ∧
    freeL (T.dfl c) = true ∧
    ∀ (ws : List Value) (s : Shared), (∀ b o, B.get? b = some o → s.heap.get? b = some o) → ws.length + ((T.dfl c).drop ((T.dfl c).length - (d.params.args.length - ws.length))).length = d.params.args.length →
      ∃ us, @VAll noHid B [] ((T.dfl c).drop ((T.dfl c).length - (d.params.args.length - ws.length))) us ∧ BindsTo s fd ⟨ws, []⟩ ((d.params.args.map (·.arg)).zip (ws ++ us))
noncomputable def KindP (T : Tbl) (CA : Str → Option Addr) (mg mb : Str → Option Value) (B : Heap) (x : Str) : Kd → Prop
  | .fn d => ∃ a, mg x = some (.ref a) ∧ FnAt T B a d
  | .bi b => mg x = none ∧ mb x = some (biV b)
  | .const v => ∃ i t, v = .int i ∧ mg x = some (.int i t)
  | .cls c => ∃ C, CA c = some C ∧ mg x = some (.ref C)
structure Gnd (T : Tbl) (CA : Str → Option Addr) (K : Frag) (mg mb : Str → Option Value) (B : Heap) : Prop where
  g : B.Ns mainGlobals mg
  b : B.Ns builtinsNs mb
  nolimit : B.NoLimit
  X : K.In B
  kind : ∀ x k, T.kind x = some k → KindP T CA mg mb B x k
  ro : ∀ a xs, T.ro a = some xs → ∃ us, B.IsList a us ∧ Ints xs us.toList
  get : ∀ c C a, CA c = some C → T.field c a = true → findIn K (.ref C) a = some none ∧ plainGet K C a = true ∧ hasDictIn K C = true ∧ takerIn K C a = some none
  cset : ∀ c C, CA c = some C → findIn K (.ref C) "__setattr__" = some (some (.builtin "object.__setattr__")) ∧ plainOver K C = true ∧ hasDictIn K C = true ∧ makesIn K C = true ∧ keepIn K (.ref C) = true
  meth : ∀ c C m d, T.meth c m = some d → CA c = some C → m ≠ Str.ofString "__init__" → MethP T K B C m d
  init : ∀ c C d, T.meth c (Str.ofString "__init__") = some d → CA c = some C → InitP T K B c C d

section
variable {T : Tbl} {CA : Str → Option Addr} {K : Frag} {mg mb : Str → Option Value} {B : Heap} {prog : Program} {w : World} {A : Around} {n : Nat} {F : Funs} {s : Shared} {ρ : Rho} {σ σ' : Sto} {env : Env} {L : Loc} {d : V}

theorem Gnd.fn (g : Gnd T CA K mg mb B) (x : Str) (d : DefRec) (h : T.kind x = some (.fn d)) : ∃ a, mg x = some (.ref a) ∧ FnAt T B a d := g.kind x _ h
theorem Gnd.bi (g : Gnd T CA K mg mb B) (x : Str) (b : Bi) (h : T.kind x = some (.bi b)) : mg x = none ∧ mb x = some (biV b) := g.kind x _ h
theorem Gnd.const (g : Gnd T CA K mg mb B) (x : Str) (v : V) (h : T.kind x = some (.const v)) : ∃ i t, v = .int i ∧ mg x = some (.int i t) := g.kind x _ h
theorem Gnd.cls (g : Gnd T CA K mg mb B) (x c : Str) (h : T.kind x = some (.cls c)) : ∃ C, CA c = some C ∧ mg x = some (.ref C) := g.kind x _ h
theorem Gnd.ns {h : Heap} (g : Gnd T CA K mg mb B) (I : Inv CA B h ρ σ) : h.Ns mainGlobals mg := g.g.keeps I.keep
theorem Gnd.nb {h : Heap} (g : Gnd T CA K mg mb B) (I : Inv CA B h ρ σ) : h.Ns builtinsNs mb := g.b.keeps I.keep

theorem loadVar {x : Str} (eo : EnvOk env) (l : LocIn B s.heap ρ env L) (hx : L x = some d) (hv : isVar (env.kindOf x) = true) (hc : (x == ("__classdict__" : Str)) = false) {Q E : Value → Shared → Prop}
    (k : ∀ v, VIn s.heap ρ d v → Q v s) : wpAny (model prog w) A (loadName env x) Q E s := by
  obtain ⟨v, hV, q⟩ := l.rd x d hx hv
  rcases q with ⟨hk, m, hm, e⟩ | ⟨hk | hk, c, hcl, e⟩
  · exact wpAny_loadName_local eo.kind hk hm e (k v hV)
  · exact wpAny_loadName_cell eo.kind hk hcl e (k v hV)
  · exact wpAny_loadName_free eo.kind hk hcl e (k v hV) hc

theorem name_ok {x : Str} {q : Pos} (g : Gnd T CA K mg mb B) (eo : EnvOk env) (ok : okName T env.scope x = true) (I : Inv CA B s.heap ρ σ) (l : LocIn B s.heap ρ env L)
    (he : (match T.kind x with | some (.const v) => some (v, σ) | some _ => none | none => (L x).map fun v => (v, σ)) = some (d, σ')) : EvOk CA B (model prog w) A (eval (.Name x q) env) s ρ d σ' := by
  unfold okName at ok
  rw [Bool.and_eq_true] at ok
  have hd : (x == ("__debug__" : Str)) = false := by simpa using ok.1
  cases hk : T.kind x with
  | some k =>
    rw [hk] at he ok
    cases k with
    | const v =>
      cases he
      obtain ⟨i, t, rfl, hm⟩ := g.const x _ hk
      have hg : env.kindOf x = some .globalImplicit := beq_iff_eq.mp ok.2
      exact EvOk.val0 I (.int i t) fun Q E h => Name_function_global eo.kind hg (loadGlobal_global (by rw [eo.gl]; exact g.ns I) hm h) hd
    | _ => cases he
  | none =>
    rw [hk] at he ok
    obtain ⟨v, hv, e⟩ := Option.map_eq_some_iff.mp he
    cases e
    simp only [Bool.and_eq_true] at ok
    intro Q E k
    refine wpAny_Name (loadVar eo l hv ok.2.1 (by simpa using ok.2.2) fun u hu => ?_) hd
    exact k u s.heap s.toks ρ I Go.refl hu

theorem starEach_cons {e : Expr} {es : List Expr} (h : isStar e = false) : starEach (e :: es) env = (false, eval e env) :: starEach es env := by
  cases e <;> first | rfl | cases h
theorem backTo_cons {pos : Pos} {t : Sem Value} {r : List (Bool × Sem Value)} : backTo pos ((false, t) :: r) = (false, t) :: backTo pos r := rfl
theorem backTo_plain {pos : Pos} : ∀ {es : List Expr}, es.all (fun e => !isStar e) = true → (backTo pos (starEach es env)).any (·.1) = false
  | [], _ => rfl
  | e :: es, h => by
    simp only [List.all_cons, Bool.and_eq_true] at h
    rw [starEach_cons (by simpa using h.1), backTo_cons, List.any_cons, backTo_plain h.2]; rfl

theorem evs_ok {pos : Pos} {m : Nat} (G : GoodF T CA B (model prog w) n F) (a : AOk A n) (eo : EnvOk env) : ∀ {es : List Expr} {vs : List V} {σ σ' : Sto} {s : Shared} {ρ : Rho}, es.all (fun e => okE T m env.scope e && !isStar e) = true → evs (F.ev L) σ es = some (vs, σ') → Inv CA B s.heap ρ σ → LocIn B s.heap ρ env L →
    ∀ (Q : List Value → Shared → Prop) (E : Value → Shared → Prop), (∀ ws h' tk ρ', Inv CA B h' ρ' σ' → Go No s.heap ρ h' ρ' → VAll h' ρ' vs ws → Q ws { s with heap := h', toks := tk }) → wpAny (model prog w) A (spliced (backTo pos (starEach es env))) Q E s
  | [], vs, σ, σ', s, ρ, _, he, I, _, Q, E, k => by
    cases he
    exact spliced_nil (k [] s.heap s.toks ρ I Go.refl .nil)
  | e :: es, vs, σ, σ', s, ρ, ok, he, I, l, Q, E, k => by
    simp only [List.all_cons, Bool.and_eq_true] at ok
    unfold evs at he
    split at he
    · rename_i v σ1 h1
      split at he
      · rename_i vs' σ2 h2
        cases he
        rw [starEach_cons (by simpa using ok.1.2), backTo_cons]
        refine spliced_cons (G.ev A env L σ e v σ1 m a eo ok.1.1 h1 s ρ I l _ _ fun u h' tk ρ' I1 g1 hu => ?_)
        refine evs_ok G a eo ok.2 h2 I1 (l.mono I g1) _ _ fun ws h2 tk2 ρ2 I2 g2 hws => ?_
        exact k _ h2 tk2 ρ2 I2 (g1.trans g2) (.cons (hu.mono Soft.no I1 g2) hws)
      · cases he
    · cases he

theorem most_lt {n : Nat} (h : n ≤ most) : n ≤ sizeLine := by rw [sizeLine_val]; unfold most at h; (first | assumption | (apply Nat.le_trans; assumption; exact Nat.le_of_ble_eq_true rfl))

theorem tuple_new {vs : List V} {ws : List Value} (I : Inv CA B s.heap ρ σ) (x : VAll s.heap ρ vs ws) (hl : vs.length ≤ most) : EvOk CA B (model prog w) A (newTuple ws) s ρ (.tup vs) σ := by
  have k := push_keep (h := s.heap) { cls := .type "tuple", data := .seq ws.toArray }
  refine EvOk.made (tk := s.toks) I k (.tup ⟨_, Heap.get?_push_size _ rfl, rfl, 0, rfl⟩ (x.mono Soft.no I (Go.grow k)) (I.notHid I.none_of_size.1)) fun Q E h => wpAny_newTuple h ?_
  rw [x.length]; exact most_lt hl

theorem list_new {vs : List V} {ws : List Value} (I : Inv CA B s.heap ρ σ) (x : VAll s.heap ρ vs ws) (hl : vs.length ≤ most) : EvOk CA B (model prog w) A (newList ws) s ρ (.obj σ.length) (σ ++ [.list vs]) := by
  intro Q E k
  obtain ⟨i1, i2, i3⟩ := I.newList x
  exact wpAny_newList (k _ _ s.toks _ i1 i2 i3) (by rw [x.length]; exact most_lt hl)

theorem EvOk.mono {t : Sem Value} {h1 : Heap} {tk1 : Nat} {ρ1 : Rho} {σ1 : Sto} (g1 : Go No s.heap ρ h1 ρ1) (x : EvOk CA B (model prog w) A t { s with heap := h1, toks := tk1 } ρ1 d σ1) {Q E : Value → Shared → Prop}
    (k : ∀ v h' tk ρ', Inv CA B h' ρ' σ1 → Go No s.heap ρ h' ρ' → VIn h' ρ' d v → Q v { s with heap := h', toks := tk }) : wpAny (model prog w) A t Q E { s with heap := h1, toks := tk1 } :=
  x Q E fun v h' tk ρ' I g hv => k v h' tk ρ' I (g1.trans g) hv

theorem place_index {k : Int} {n j : Nat} (h : place k n = some j) : seqIndex? k n = some j := by
  unfold place at h
  unfold seqIndex?
  dsimp only
  split at h
  · rename_i h0
    split at h
    · rename_i h1
      cases h
      rw [show (if k < 0 then k + (n : Int) else k) = k from if_neg (by omega), if_pos (by simp only [Bool.and_eq_true, decide_eq_true_eq]; omega)]
    · cases h
  · rename_i h0
    split at h
    · rename_i h1
      cases h
      rw [show (if k < 0 then k + (n : Int) else k) = k + n from if_pos (by omega), if_pos (by simp only [Bool.and_eq_true, decide_eq_true_eq]; omega)]
    · cases h

theorem sub_list {value slice : Expr} {l : List V} {ad : Addr} {us : List Value} {k : Int} {u : Tok} {j : Nat} (hL : s.heap.IsList ad us.toArray) (r : VAll s.heap ρ l us) (hk' : -(2 ^ 60) < k ∧ k < 2 ^ 60) (hj : place k l.length = some j) (he : l[j]? = some d) (I : Inv CA B s.heap ρ σ)
    (hsub : ∀ o i, subscripted slice false o i = operate [o, i] (getItem o i)) : EvOk CA B (model prog w) A (subscriptTail value slice (.ref ad) (.int k u)) s ρ d σ := by
  obtain ⟨v, hv, hV⟩ := r.get he
  have hlen := r.length
  have hlt := (List.getElem?_eq_some_iff.mp he).1
  unfold place at hj
  split at hj
  · rename_i h0
    split at hj
    · cases hj
      exact EvOk.val0 I hV fun Q E h => tail_any hL.typeIs slot_list_getitem.lookup (wpAny_getItem_list hL h0 (by omega) (by simpa using hv) h) (hsub _ _)
    · cases hj
  · rename_i h0
    split at hj
    · rename_i h1
      cases hj
      refine EvOk.val0 I hV fun Q E h => tail_any hL.typeIs slot_list_getitem.lookup (wpAny_getItem_list_neg hL (by omega) (by rw [List.size_toArray, hlen]; exact h1) (by omega) ?_ h) (hsub _ _)
      rw [List.size_toArray, hlen]; simpa using hv
    · cases hj

theorem subC_ok {value slice : Expr} {o i : V} {vo vi : Value} (hro : ∀ a xs, T.ro a = some xs → ∃ us, B.IsList a us ∧ Ints xs us.toList) (he : subC T σ o i = some d) (I : Inv CA B s.heap ρ σ) (x1 : VIn s.heap ρ o vo) (x2 : VIn s.heap ρ i vi) (hs : isSlice slice = false) :
    EvOk CA B (model prog w) A (subscriptTail value slice vo vi) s ρ d σ := by
  have hsub : ∀ o i, subscripted slice false o i = operate [o, i] (getItem o i) := by
    intro o i
    cases slice <;> first | rfl | cases hs
  unfold subC at he
  split at he
  · rename_i a k
    split at he
    · rename_i hk
      obtain ⟨xs, hxs, he⟩ := Option.bind_eq_some_iff.mp he
      obtain ⟨j, hj, he⟩ := Option.bind_eq_some_iff.mp he
      obtain ⟨us, hb, hi⟩ := hro a xs hxs
      cases x1; cases x2
      have hk' : -(2 ^ 60) < k ∧ k < 2 ^ 60 := by simpa [small] using hk
      exact sub_list (us := us.toList) (by rw [Array.toArray_toList]; exact hb.at fun o e => I.keep _ _ e) hi.all hk' hj he I hsub
    · cases he
  · rename_i l k
    split at he
    · rename_i hk
      obtain ⟨j, hj, he⟩ := Option.bind_eq_some_iff.mp he
      cases x1; cases x2
      rename_i a vs ht hh r u
      obtain ⟨v, hv, hV⟩ := r.get he
      have hk' : -(2 ^ 60) < k ∧ k < 2 ^ 60 := by simpa [small] using hk
      refine EvOk.val0 I hV fun Q E h => tail_any ht.typeIs slot_tuple_getitem.lookup (getItem_tuple (j := j) ht (by omega) (by omega) ?_ (by simpa using hv) h) (hsub _ _)
      rw [List.size_toArray, r.length]; exact place_index hj
    · cases he
  · rename_i m k
    split at he
    · rename_i l e1
      split at he
      · rename_i hk
        obtain ⟨j, hj, he⟩ := Option.bind_eq_some_iff.mp he
        obtain ⟨a, vs, c, rfl, _, hl, r⟩ := I.list e1 x1
        cases x2
        rename_i u
        obtain ⟨v, hv, hV⟩ := r.get he
        have hL : s.heap.IsList a vs.toArray := PySem.IsL.isList (n := c) hl
        have hk' : -(2 ^ 60) < k ∧ k < 2 ^ 60 := by simpa [small] using hk
        have hlen := r.length
        have hlt := (List.getElem?_eq_some_iff.mp he).1
        unfold place at hj
        split at hj
        · rename_i h0
          split at hj
          · cases hj
            exact EvOk.val0 I hV fun Q E h => tail_any hL.typeIs slot_list_getitem.lookup (wpAny_getItem_list hL h0 (by omega) (by simpa using hv) h) (hsub _ _)
          · cases hj
        · rename_i h0
          split at hj
          · rename_i h1
            cases hj
            refine EvOk.val0 I hV fun Q E h => tail_any hL.typeIs slot_list_getitem.lookup (wpAny_getItem_list_neg hL (by omega) (by rw [List.size_toArray, hlen]; exact h1) (by omega) ?_ h) (hsub _ _)
            rw [List.size_toArray, hlen]; simpa using hv
          · cases hj
      · exact nomatch he
    · cases he
  · cases he

end
end Mine
end
section
open PySem PySem.W PyProof.Rows PySem.Calls
set_option linter.unusedSectionVars false
namespace Mine
variable [Hid]
section
variable {T : Tbl} {CA : Str → Option Addr} {K : Frag} {mg mb : Str → Option Value} {B : Heap} {prog : Program} {w : World} {A : Around} {n : Nat} {F : Funs} {s : Shared} {ρ : Rho} {σ σ' : Sto} {env : Env} {L : Loc} {d : V}

theorem VIn.handed {h : Heap} {v : Value} (x : VIn h ρ d v) : handedIn v = true := by cases x <;> rfl

theorem Inv.inst (I : Inv CA B s.heap ρ σ) {n : Nat} {c : Str} {fs : List (Str × V)} {v : Value} (hs : σ[n]? = some (.inst c fs)) (hv : VIn s.heap ρ (.obj n) v) :
    ∃ x dx C es k, v = .ref x ∧ ρ[n]? = some (x, dx) ∧ CA c = some C ∧ s.heap.get? x = some (instObj C dx) ∧ s.heap.get? dx = some (dictOf es k) ∧ FsIn s.heap ρ fs es := by
  cases hv with
  | obj hp =>
    rename_i p
    have := I.obs n _ p hs hp
    generalize hob : Ob.inst c fs = ob at this
    induction this using ObIn.casesOn with
    | list => exact nomatch hob
    | inst hc hx hd hf => cases hob; exact ⟨_, _, _, _, _, rfl, hp, hc, hx, hd, hf⟩

theorem FsIn.look {h : Heap} {a : Str} {fs : List (Str × V)} {es : List DictEntry} (H : FsIn h ρ fs es) : ∀ {d : V}, fs.lookup a = some d → ∃ v, getL a es = some (some v) ∧ VIn h ρ d v := by
  induction H with
  | nil => intro d e; cases e
  | @cons x d' fs e es hkk hV r ih =>
    intro d hl
    obtain ⟨t, hk⟩ := hkk
    unfold getL
    rw [List.find?_cons]
    have hx : e.key.isStr a = (x == a) := by rw [hk]; rfl
    rw [List.lookup_cons] at hl
    by_cases q : x = a
    · subst q
      rw [hx]
      simp only [beq_self_eq_true] at hl ⊢
      cases hl
      exact ⟨_, rfl, hV⟩
    · have q1 : (x == a) = false := by simpa using q
      have q2 : (a == x) = false := by simpa using (Ne.symm q)
      rw [hx, q1]
      rw [q2] at hl
      obtain ⟨v, hv, hV'⟩ := ih hl
      refine ⟨v, ?_, hV'⟩
      unfold getL at hv
      dsimp only
      cases hf : es.find? (fun x => x.key.isStr a) with
      | some e' => rw [hf] at hv; exact hv
      | none =>
        rw [hf] at hv
        dsimp only at hv
        split at hv <;> exact nomatch hv

theorem attr_ok {a : Str} {fs : List (Str × V)} {k : Nat} {c : Str} {v : Value} (g : Gnd T CA K mg mb B) (I : Inv CA B s.heap ρ σ) (hs : σ[k]? = some (.inst c fs)) (hv : VIn s.heap ρ (.obj k) v) (hf : T.field c a = true) (hl : fs.lookup a = some d) :
    EvOk CA B (model prog w) A (getAttr v a true) s ρ d σ := by
  obtain ⟨x, dx, C, es, j, rfl, _, hc, hx, hd, hfs⟩ := I.inst hs hv
  obtain ⟨u, hu, hV⟩ := hfs.look hl
  obtain ⟨h1, h2, h3, _⟩ := g.get c C a hc hf
  have It : InstAt s.heap x (instObj C dx) C (some (dictOf es j)) := ⟨hx, rfl, rfl, hd⟩
  exact EvOk.val I hV fun Q E h => get_value (g.X.keeps I.keep) It (plainGet_of h2).1 (findObj_own h3 h1 rfl hu) hV.handed h

theorem part_ok {m : Nat} {e : Option Expr} {ov : Option V} {k : Option Int} (G : GoodF T CA B (model prog w) n F) (a : AOk A n) (eo : EnvOk env) (ok : (match e with | some e => okE T m env.scope e | none => true) = true)
    (he : evo (F.ev L) σ e = some (ov, σ')) (ho : optI ov = some k) (I : Inv CA B s.heap ρ σ) (l : LocIn B s.heap ρ env L) {Q E : Value → Shared → Prop}
    (q : ∀ v h' tk ρ', Inv CA B h' ρ' σ' → Go No s.heap ρ h' ρ' → IsPart v k → Q v { s with heap := h', toks := tk }) : wpAny (model prog w) A (evalPart e env) Q E s := by
  induction e using Option.casesOn with
  | none =>
    cases he
    cases ho
    exact wpAny_pure (q _ s.heap s.toks ρ I Go.refl .none)
  | some e =>
    simp only [evo] at he
    split at he
    · rename_i v σ1 h1
      cases he
      rw [evalPart_some]
      refine G.ev A env L σ e v _ m a eo ok h1 s ρ I l Q E fun u h' tk ρ' I1 g1 hu => ?_
      unfold optI at ho
      split at ho
      · rename_i h; cases h
      · rename_i i h
        cases h; cases ho; cases hu
        exact q _ h' tk ρ' I1 g1 (.int _ _)
      · cases ho
    · cases he

theorem slice_pick {l : List V} {vs : List Value} {h : Heap} (r : VAll h ρ l vs) (a b c : Option Int) : VAll h ρ (sliceG l a b c) (slicePick vs.toArray a b c).toList := by
  unfold sliceG slicePick
  have e : vs.toArray.size = l.length := by rw [List.size_toArray, r.length]
  rw [e]
  have h2 : ∀ js : List Nat, (js.filterMap (vs.toArray[·]?)) = js.filterMap (vs[·]?) := by
    intro js; congr 1; funext j; simp
  rw [List.toList_toArray, h2]
  exact r.picks _

theorem sub_of_get {o i : Value} {slice value : Expr} {T : String} {id : String} {Q E : Value → Shared → Prop} (hT : s.TypeIs o T) (hl : typeLookup (.type T) "__getitem__" = pure (some (.builtin id))) (hg : wpAny (model prog w) A (getItem o i) Q E s) (hs : isSlice slice = true) :
    wpAny (model prog w) A (subscriptTail value slice o i) Q E s := by
  cases slice <;> first | cases hs | skip
  rename_i a b st p
  induction st using Option.casesOn with
  | none => exact tail_any hT hl hg rfl
  | some st => exact tail_any hT hl hg rfl

theorem slice_ok {m : Nat} {value : Expr} {lo hi st : Option Expr} {p : Pos} {ov : V} {v : Value} {l : List V} {a b c : Option V} {ka kb kc : Option Int} {k : Nat} {σ1 σ2 σ3 σ4 : Sto}
    (G : GoodF T CA B (model prog w) n F) (ao : AOk A n) (eo : EnvOk env) (ok : ([lo, hi, st].all fun | some e => okE T m env.scope e | none => true) = true)
    (h1 : evo (F.ev L) σ1 lo = some (a, σ2)) (h2 : evo (F.ev L) σ2 hi = some (b, σ3)) (h3 : evo (F.ev L) σ3 st = some (c, σ4)) (i1 : optI a = some ka) (i2 : optI b = some kb) (i3 : optI c = some kc)
    (hl : σ4[k]? = some (.list l)) (h0 : kc ≠ some 0) (hsz : l.length ≤ most) (I : Inv CA B s.heap ρ σ1) (lc : LocIn B s.heap ρ env L) (hv : VIn s.heap ρ (.obj k) v) {Q E : Value → Shared → Prop}
    (q : ∀ v h' tk ρ', Inv CA B h' ρ' (σ4 ++ [.list (sliceG l ka kb kc)]) → Go No s.heap ρ h' ρ' → VIn h' ρ' (.obj σ4.length) v → Q v { s with heap := h', toks := tk }) :
    wpAny (model prog w) A (eval (.Slice lo hi st p) env) (fun i s₂ => wpAny (model prog w) A (subscriptTail value (.Slice lo hi st p) v i) Q E s₂) E s := by
  simp only [List.all_cons, List.all_nil, Bool.and_true, Bool.and_eq_true] at ok
  refine wpAny_Slice ?_
  refine part_ok (m := m) G ao eo ok.1 h1 i1 I lc fun va ha ta ρa Ia ga pa => ?_
  refine part_ok (m := m) G ao eo ok.2.1 h2 i2 Ia (lc.mono I ga) fun vb hb tb ρb Ib gb pb => ?_
  refine part_ok (m := m) G ao eo ok.2.2 h3 i3 Ib ((lc.mono I ga).mono Ia gb) fun vc hc tc ρc Ic gc pc => ?_
  have gg := ga.trans (gb.trans gc)
  have hv' := hv.mono Soft.no I gg
  obtain ⟨x, vs, j, rfl, _, hx, r⟩ := Ic.list (s := { s with heap := hc, toks := tc }) hl hv'
  dsimp only at hx r ⊢
  generalize ho : ({ cls := .type "slice", data := .fields #[va, vb, vc] } : Obj) = so
  have kp := push_keep (h := hc) so
  have hx' := kp _ _ hx
  have I' := Ic.grow kp
  have r' := r.mono Soft.no Ic (Go.grow (X := No) (ρ := ρc) kp)
  have hL : (hc.push so).IsList x vs.toArray := PySem.IsL.isList (n := j) hx'
  refine sub_of_get (T := "list") hL.typeIs slot_list_getitem.lookup (wpAny_getItem_list_slice hL ⟨so, Heap.get?_push_size _ (by rw [← ho]; rfl), by rw [← ho], by rw [← ho]⟩ pa pb pc h0 ?_ (by rw [List.size_toArray, r.length]; exact most_lt hsz)) rfl
  have hp := slice_pick r' ka kb kc
  obtain ⟨j1, j2, j3⟩ := I'.newList hp
  have e : (slicePick vs.toArray ka kb kc).toList.toArray = slicePick vs.toArray ka kb kc := by rfl
  rw [e] at j1 j2 j3
  exact q _ _ tc _ j1 (gg.trans ((Go.grow kp).trans j2)) j3

theorem Ok.on1 {P : List Value → V → Prop} {h : Heap} {vs : List V} {ws : List Value} {f : V → Option V} (x : VAll h ρ vs ws) (k : ∀ v u, VIn h ρ v u → Ok (f v) (P [u])) : Ok (on1 vs f) (P ws) := by
  cases x with
  | nil => exact Ok.no
  | cons a r => induction r using VAll.casesOn with
    | nil => exact k _ _ a
    | cons => exact Ok.no
theorem Ok.on2 {P : List Value → V → Prop} {h : Heap} {vs : List V} {ws : List Value} {f : V → V → Option V} (x : VAll h ρ vs ws) (k : ∀ v u v2 u2, VIn h ρ v u → VIn h ρ v2 u2 → Ok (f v v2) (P [u, u2])) : Ok (on2 vs f) (P ws) := by
  cases x with
  | nil => exact Ok.no
  | cons a r => induction r using VAll.casesOn with
    | nil => exact Ok.no
    | cons b r => induction r using VAll.casesOn with
      | nil => exact k _ _ _ _ a b
      | cons => exact Ok.no
theorem Ok.asI {P : Value → V → Prop} {h : Heap} {v : V} {u : Value} {f : Int → Option V} (x : VIn h ρ v u) (k : ∀ i t, Ok (f i) (P (.int i t))) : Ok (asI v f) (P u) := by
  cases x <;> first | exact k _ _ | exact Ok.no
theorem VAll.size {h : Heap} {l : List V} {us : List Value} (r : VAll h ρ l us) : us.toArray.size = l.length := by rw [List.size_toArray, r.length]
theorem lt63 {n : Nat} (h : n ≤ most) : (n : Int) < 2 ^ 63 := by unfold most at h; lia

theorem sum_ok {u : Value} (a : AOk A n) (I : Inv CA B s.heap ρ σ) (x : VIn s.heap ρ (.tup []) u) : EvOk CA B (model prog w) A (call (biV .sum) [u]) s ρ (.int 0) σ := by
  cases x
  rename_i ad us ht hh r
  cases r
  intro Q E k
  refine call_sum_walkG ?_
  refine wpAny_pyIter_tuple ht ?_
  have hne : ad ≠ s.heap.objs.size := by obtain ⟨o, ho, _⟩ := ht; exact Nat.ne_of_lt (Heap.lt_size ho)
  have W := Walks.tuple (prog := prog) (w := w) (A := A.in1) a.hd s.heap.objs.size ad hne (([] : List Value).toArray)
  have kp := push_keep (h := s.heap) { cls := .type "tuple_iterator", data := .fields #[.ref ad, .int 0 0] }
  refine ⟨_, _, _, _, _, _, fun _ => 0, rfl, W, ⟨⟨_, Heap.get?_push_size _ rfl, rfl, rfl⟩, IsTup.keeps ht kp⟩, ?_, ?_, ?_⟩
  · intro b hb
    obtain ⟨o, ho, _⟩ := ht
    have h1 := Heap.lt_size ho
    rw [Heap.size_push]
    rcases List.mem_cons.mp hb with rfl | hb
    · exact Nat.lt_succ_self _
    · rw [List.mem_singleton.mp hb]; exact Nat.lt_succ_of_lt h1
  · intro i v hi
    simp at hi
  · intro h' tk t' kq
    have kk : ∀ b o, s.heap.get? b = some o → h'.get? b = some o := fun b o e => kq b o (by simpa using Nat.ne_of_lt (Heap.lt_size e)) (kp _ _ e)
    exact k _ h' tk ρ (I.grow kk) (Go.grow kk) (.int _ _)

theorem biC_ok2 {b : Bi} {vs : List V} {ws : List Value} (a : AOk A n) (hro : ∀ a xs, T.ro a = some xs → ∃ us, B.IsList a us ∧ Ints xs us.toList) (I : Inv CA B s.heap ρ σ) (x : VAll s.heap ρ vs ws) : Ok (biC T b vs σ) fun d => EvOk CA B (model prog w) A (call (biV b) ws) s ρ d σ := by
  induction b using Bi.casesOn with
  | len =>
    refine Ok.on1 (P := fun ws d => EvOk CA B (model prog w) A (call (biV .len) ws) s ρ d σ) x fun v u xu => ?_
    induction xu using VIn.casesOn with
    | tup ht r hh => exact Ok.mapp (Ok.ite fun hsz => Ok.ret (EvOk.val I (.int _ _) fun Q E h => PyProof.Rows.len_tuple ht (by rw [r.size]; exact lt63 (of_decide_eq_true hsz)) (by rw [r.size]; exact h)))
    | obj hp => exact Ok.mapp (Ok.list fun l e1 => Ok.ite fun hsz => Ok.ret (by
        obtain ⟨ad, us, c, e, _, hx, r⟩ := I.list e1 (.obj hp)
        rw [e]
        exact EvOk.val I (.int _ _) fun Q E h => PyProof.Rows.len_list (PySem.IsL.isList (n := c) hx) (by rw [r.size]; exact lt63 (of_decide_eq_true hsz)) (by rw [r.size]; exact h)))
    | lst ad => exact Ok.obind fun xs hxs => Ok.ite fun hsz => Ok.ret (by
        obtain ⟨us, hb, hi⟩ := hro ad xs hxs
        have hlen : us.size = xs.length := by
          have := (hi.all (h := s.heap) (ρ := ρ)).length
          rw [List.length_map] at this
          rw [← this, Array.length_toList]
        exact EvOk.val I (.int _ _) fun Q E h => PyProof.Rows.len_list (hb.at fun o e => I.keep _ _ e) (by rw [hlen]; exact lt63 (of_decide_eq_true hsz)) (by rw [hlen]; exact h))
    | _ => exact Ok.no
  | range =>
    have two : ∀ {vs : List V} {ws : List Value}, VAll s.heap ρ vs ws → Ok (on2 vs fun v u => asI v fun a => asI u fun b => some (.rng a b)) fun d => EvOk CA B (model prog w) A (call (biV .range) ws) s ρ d σ := fun x =>
      Ok.on2 (P := fun ws d => EvOk CA B (model prog w) A (call (biV .range) ws) s ρ d σ) x fun v u v2 u2 x1 x2 => Ok.asI (P := fun u d => EvOk CA B (model prog w) A (call (biV .range) [u, u2]) s ρ d σ) x1 fun i t => Ok.asI (P := fun u2 d => EvOk CA B (model prog w) A (call (biV .range) [.int i t, u2]) s ρ d σ) x2 fun j t2 =>
        Ok.ret (EvOk.made I (push_keep _) (.rng (Heap.get?_push_size _ rfl)) fun Q E h => call_range_2 h)
    induction x using VAll.casesOn with
    | nil => exact Ok.no
    | cons x1 x2 =>
      induction x2 using VAll.casesOn with
      | nil => exact Ok.asI (P := fun u d => EvOk CA B (model prog w) A (call (biV .range) [u]) s ρ d σ) x1 fun i t => Ok.ret (EvOk.made I (push_keep _) (.rng (Heap.get?_push_size _ rfl)) fun Q E h => call_range_1 h)
      | cons x2 x3 => exact two (.cons x1 (.cons x2 x3))
  | abs =>
    exact Ok.on1 (P := fun ws d => EvOk CA B (model prog w) A (call (biV .abs) ws) s ρ d σ) x fun v u xu => Ok.asI (P := fun u d => EvOk CA B (model prog w) A (call (biV .abs) [u]) s ρ d σ) xu fun i t => Ok.ret fun Q E k =>
      call_abs_int fun u tk => k _ s.heap tk ρ I Go.refl (.int _ _)
  | max =>
    exact Ok.on2 (P := fun ws d => EvOk CA B (model prog w) A (call (biV .max) ws) s ρ d σ) x fun v u v2 u2 x1 x2 => Ok.asI (P := fun u d => EvOk CA B (model prog w) A (call (biV .max) [u, u2]) s ρ d σ) x1 fun i t => Ok.asI (P := fun u2 d => EvOk CA B (model prog w) A (call (biV .max) [.int i t, u2]) s ρ d σ) x2 fun j t2 => Ok.ret fun Q E k => by
      refine max_two_ints a.hd fun h' tk kp => k _ h' tk ρ (I.grow kp) (Go.grow kp) ?_
      split <;> exact .int _ _
  | min =>
    exact Ok.on2 (P := fun ws d => EvOk CA B (model prog w) A (call (biV .min) ws) s ρ d σ) x fun v u v2 u2 x1 x2 => Ok.asI (P := fun u d => EvOk CA B (model prog w) A (call (biV .min) [u, u2]) s ρ d σ) x1 fun i t => Ok.asI (P := fun u2 d => EvOk CA B (model prog w) A (call (biV .min) [.int i t, u2]) s ρ d σ) x2 fun j t2 => Ok.ret fun Q E k => by
      refine min_two_ints a.hd fun h' tk kp => k _ h' tk ρ (I.grow kp) (Go.grow kp) ?_
      split <;> exact .int _ _
  | int =>
    refine Ok.on1 (P := fun ws d => EvOk CA B (model prog w) A (call (biV .int) ws) s ρ d σ) x fun v u xu => ?_
    induction xu using VIn.casesOn with
    | bool b => exact Ok.ret (EvOk.val I (.int _ _) fun Q E h => call_int_bool h)
    | int i t => exact Ok.ret (EvOk.val0 I (.int _ _) fun Q E h => call_int_int h)
    | _ => exact Ok.no
  | tuple =>
    refine Ok.on1 (P := fun ws d => EvOk CA B (model prog w) A (call (biV .tuple) ws) s ρ d σ) x fun v u xu => ?_
    induction xu using VIn.casesOn with
    | tup ht r hh => exact Ok.ret (EvOk.val0 I (.tup ht r hh) fun Q E h => call_tuple_same ht h)
    | obj hp => exact Ok.list fun l e1 => Ok.ite fun hsz => Ok.ret (by
        obtain ⟨ad, us, c, e, _, hx, r⟩ := I.list e1 (.obj hp)
        rw [e]
        intro Q E k
        refine call_tuple_list (PySem.IsL.isList (n := c) hx) (fun h' kp => ?_) (by rw [r.size]; exact most_lt (of_decide_eq_true hsz))
        have kk : ∀ b o, s.heap.get? b = some o → (h'.push { cls := .type "tuple", data := .seq us.toArray }).get? b = some o := fun b o e => push_keep _ _ _ (kp _ _ e)
        exact k _ _ s.toks ρ (I.grow kk) (Go.grow kk) (.tup ⟨_, Heap.get?_push_size _ rfl, rfl, 0, rfl⟩ (r.mono Soft.no I (Go.grow kk)) ((I.grow kp).notHid (I.grow kp).none_of_size.1)))
    | _ => exact Ok.no
  | sum =>
    refine Ok.on1 (P := fun ws d => EvOk CA B (model prog w) A (call (biV .sum) ws) s ρ d σ) x fun v u xu => ?_
    induction xu using VIn.casesOn with
    | @tup ad us l0 ht r hh =>
      induction l0 using List.casesOn with
      | nil => exact Ok.ret (sum_ok a I (.tup ht r hh))
      | cons => exact Ok.no
    | _ => exact Ok.no
  | zip => exact Ok.no
theorem biC_ok {b : Bi} {vs : List V} {ws : List Value} (a : AOk A n) (hro : ∀ a xs, T.ro a = some xs → ∃ us, B.IsList a us ∧ Ints xs us.toList) (he : biC T b vs σ = some d) (I : Inv CA B s.heap ρ σ) (x : VAll s.heap ρ vs ws) : EvOk CA B (model prog w) A (call (biV b) ws) s ρ d σ := biC_ok2 a hro I x d he

end
end Mine
end
section
open PySem PySem.W PyProof.Rows PySem.Calls
set_option linter.unusedSectionVars false
namespace Mine
variable [Hid]

mutual
noncomputable def vok (n : Nat) : V → Bool
  | .tup l => vokL n l
  | .obj k => decide (k < n)
  | _ => true
noncomputable def vokL (n : Nat) : List V → Bool
  | [] => true
  | v :: vs => vok n v && vokL n vs
end

section
variable {CA : Str → Option Addr} {B h h' : Heap} {ρ τ : Rho} {σ σ' : Sto}

mutual
theorem VIn.vok : ∀ {d : V} {v : Value}, VIn h ρ d v → vok ρ.length d = true
  | _, _, .none => rfl
  | _, _, .bool _ => rfl
  | _, _, .int _ _ => rfl
  | _, _, .str _ _ => rfl
  | _, _, .tup _ r _ => by rw [Mine.vok]; exact VAll.vok r
  | _, _, .obj e => by rw [Mine.vok]; exact decide_eq_true (List.getElem?_eq_some_iff.mp e).1
  | _, _, .rng _ => rfl
  | _, _, .lst _ => rfl
theorem VAll.vok : ∀ {l : List V} {vs : List Value}, VAll h ρ l vs → vokL ρ.length l = true
  | _, _, .nil => rfl
  | _, _, .cons a r => by rw [vokL, VIn.vok a, VAll.vok r]; rfl
end
theorem vok_tup {n : Nat} (l : List V) (k : Mine.vok n (.tup l) = true) : vokL n l = true := by rw [Mine.vok] at k; exact k
theorem vok_cons {n : Nat} (d : V) (l : List V) (k : vokL n (d :: l) = true) : Mine.vok n d = true ∧ vokL n l = true := by rw [vokL, Bool.and_eq_true] at k; exact k
theorem vok_obj (n : Nat) (p : Addr × Addr) (k : Mine.vok ρ.length (.obj n) = true) (e : (ρ ++ τ)[n]? = some p) : ρ[n]? = some p := by rw [Mine.vok] at k; rw [List.getElem?_append_left (of_decide_eq_true k)] at e; exact e
theorem VIn.cut {d : V} {v : Value} (x : VIn h (ρ ++ τ) d v) (k : Mine.vok ρ.length d = true) : VIn h ρ d v :=
  VIn.map (fun d => Mine.vok ρ.length d = true) (fun l => vokL ρ.length l = true) vok_tup vok_cons (fun _ _ t hh => ⟨t, hh⟩) vok_obj (fun _ _ _ _ _ _ r => r) x k
theorem VAll.cut {l : List V} {vs : List Value} (x : VAll h (ρ ++ τ) l vs) (k : vokL ρ.length l = true) : VAll h ρ l vs :=
  VAll.map (fun d => Mine.vok ρ.length d = true) (fun l => vokL ρ.length l = true) vok_tup vok_cons (fun _ _ t hh => ⟨t, hh⟩) vok_obj (fun _ _ _ _ _ _ r => r) x k
mutual
theorem free_vok (n : Nat) : ∀ {d : V}, free d = true → vok n d = true
  | .none, _ => rfl
  | .bool _, _ => rfl
  | .int _, _ => rfl
  | .str _, _ => rfl
  | .tup l, k => by rw [vok]; rw [free] at k; exact freeL_vok n k
  | .obj _, k => by simp [free] at k
  | .rng _ _, _ => rfl
  | .lst _, _ => rfl
theorem freeL_vok (n : Nat) : ∀ {l : List V}, freeL l = true → vokL n l = true
  | [], _ => rfl
  | d :: l, k => by
    rw [freeL, Bool.and_eq_true] at k
    rw [vokL, free_vok n k.1, freeL_vok n k.2]; rfl
end
theorem free_tup (l : List V) (k : free (.tup l) = true) : freeL l = true := by rw [free] at k; exact k
theorem free_cons (d : V) (l : List V) (k : freeL (d :: l) = true) : free d = true ∧ freeL l = true := by rw [freeL, Bool.and_eq_true] at k; exact k
theorem VIn.any {ρ' : Rho} {d : V} {v : Value} (x : VIn h ρ d v) (k : free d = true) : VIn h ρ' d v :=
  VIn.map (fun d => free d = true) (fun l => freeL l = true) free_tup free_cons (fun _ _ t hh => ⟨t, hh⟩) (fun _ _ k _ => by simp [free] at k) (fun _ _ _ _ _ _ r => r) x k
theorem VAll.any {ρ' : Rho} {l : List V} {vs : List Value} (x : VAll h ρ l vs) (k : freeL l = true) : VAll h ρ' l vs :=
  VAll.map (fun d => free d = true) (fun l => freeL l = true) free_tup free_cons (fun _ _ t hh => ⟨t, hh⟩) (fun _ _ k _ => by simp [free] at k) (fun _ _ _ _ _ _ r => r) x k
theorem FsIn.cut {fs : List (Str × V)} {es : List DictEntry} (H : FsIn h (ρ ++ τ) fs es) (k : ∀ p ∈ fs, vok ρ.length p.2 = true) : FsIn h ρ fs es := by
  induction H with
  | nil => exact .nil
  | cons a b c ih => exact .cons a (b.cut (k _ (.head _))) (ih fun p hp => k p (.tail _ hp))
theorem FsIn.any {ρ' : Rho} {fs : List (Str × V)} {es : List DictEntry} (H : FsIn h ρ fs es) (k : freeL (fs.map (·.2)) = true) : FsIn h ρ' fs es := by
  induction H with
  | nil => exact .nil
  | cons a b c ih =>
    simp only [List.map_cons, freeL, Bool.and_eq_true] at k
    exact .cons a (b.any k.1) (ih k.2)
theorem FsIn.vok {fs : List (Str × V)} {es : List DictEntry} (H : FsIn h ρ fs es) : ∀ p ∈ fs, vok ρ.length p.2 = true := by
  induction H with
  | nil => intro p hp; cases hp
  | cons a b c ih =>
    intro p hp
    rcases List.mem_cons.mp hp with rfl | hp
    · exact b.vok
    · exact ih p hp

theorem ObIn.cut {h0 : Heap} {ob : Ob} {p q : Addr × Addr} (x : ObIn CA h (ρ ++ τ) ob p) (y : ObIn CA h0 ρ ob q) : ObIn CA h ρ ob p := by
  induction x using ObIn.casesOn with
  | list pl r =>
    generalize hob : Ob.list _ = ob at y
    induction y using ObIn.casesOn with
    | list _ r0 => cases hob; exact .list pl (r.cut r0.vok)
    | inst => cases hob
  | inst hc hx hd hf =>
    generalize hob : Ob.inst _ _ = ob at y
    induction y using ObIn.casesOn with
    | list => cases hob
    | inst _ _ _ hf0 => cases hob; exact .inst hc hx hd (hf.cut hf0.vok)

theorem get_up (n : Nat) (p : Addr × Addr) (_ : True) (e : ρ[n]? = some p) : (ρ ++ τ)[n]? = some p := by rw [List.getElem?_append_left (List.getElem?_eq_some_iff.mp e).1]; exact e
theorem VIn.up {d : V} {v : Value} (x : VIn h ρ d v) : VIn h (ρ ++ τ) d v :=
  VIn.map tt1 tt2 (fun _ _ => trivial) (fun _ _ _ => ⟨trivial, trivial⟩) (fun _ _ t hh => ⟨t, hh⟩) get_up (fun _ _ _ _ _ _ r => r) x trivial
theorem VAll.up {l : List V} {vs : List Value} (x : VAll h ρ l vs) : VAll h (ρ ++ τ) l vs :=
  VAll.map tt1 tt2 (fun _ _ => trivial) (fun _ _ _ => ⟨trivial, trivial⟩) (fun _ _ t hh => ⟨t, hh⟩) get_up (fun _ _ _ _ _ _ r => r) x trivial
theorem FsIn.up {fs : List (Str × V)} {es : List DictEntry} (H : FsIn h ρ fs es) : FsIn h (ρ ++ τ) fs es := by
  induction H with
  | nil => exact .nil
  | cons a b c ih => exact .cons a b.up ih
theorem ObIn.up {ob : Ob} {p : Addr × Addr} (x : ObIn CA h ρ ob p) : ObIn CA h (ρ ++ τ) ob p := by
  induction x using ObIn.casesOn with
  | list pl r => exact .list pl r.up
  | inst hc hx hd hf => exact .inst hc hx hd hf.up

/-- the junk is forgotten -/
theorem Inv.cut {h0 : Heap} (I0 : Inv CA B h0 ρ σ) (I : Inv CA B h (ρ ++ τ) σ') (e : σ'.take σ.length = σ) : Inv CA B h ρ σ where
  keep := I.keep
  len := I0.len
  obs := fun i ob p hs hp => by
    have hi := (List.getElem?_eq_some_iff.mp hs).1
    have h1 : σ'[i]? = some ob := by
      rw [← e, List.getElem?_take_of_lt hi] at hs; exact hs
    have h2 : (ρ ++ τ)[i]? = some p := by rw [List.getElem?_append_left (by rw [I0.len]; exact hi)]; exact hp
    exact (I.obs i ob p h1 h2).cut (I0.obs i ob p hs hp)
  nd := fun i j p q hp hq z => by
    have h1 : (ρ ++ τ)[i]? = some p := by rw [List.getElem?_append_left (List.getElem?_eq_some_iff.mp hp).1]; exact hp
    have h2 : (ρ ++ τ)[j]? = some q := by rw [List.getElem?_append_left (List.getElem?_eq_some_iff.mp hq).1]; exact hq
    exact I.nd i j p q h1 h2 z
  fr := fun p hp => I.fr p (List.mem_append.mpr (.inl hp))
  hid := I.hid

theorem Go.cut (g : Go No h ρ h' (ρ ++ τ)) : Go No h ρ h' ρ := ⟨g.ext, g.live, [], (List.append_nil _).symm, fun _ hp => nomatch hp⟩

/-- a store longer by one, of which the last is kept -/
theorem Inv.cut1 {h0 : Heap} (I0 : Inv CA B h0 ρ σ) (I : Inv CA B h (ρ ++ τ) σ') (e : σ'.take σ.length = σ) {k : Nat} {p : Addr × Addr} {ob : Ob} (hk : σ.length ≤ k) (hp : (ρ ++ τ)[k]? = some p) (x : ObIn CA h (ρ ++ [p]) ob p) :
    Inv CA B h (ρ ++ [p]) (σ ++ [ob]) where
  keep := I.keep
  len := by rw [List.length_append, List.length_append, I0.len]; rfl
  obs := fun i ob' q hs hq => by
    by_cases hi : i < σ.length
    · rw [List.getElem?_append_left hi] at hs
      rw [List.getElem?_append_left (by rw [I0.len]; exact hi)] at hq
      exact ((Inv.cut I0 I e).obs i ob' q hs hq).up
    · have hi' : i = σ.length := by
        have := (List.getElem?_eq_some_iff.mp hs).1
        rw [List.length_append] at this
        simp at this; omega
      subst hi'
      rw [List.getElem?_append_right (Nat.le_refl _)] at hs
      rw [← I0.len, List.getElem?_append_right (Nat.le_refl _)] at hq
      simp at hs hq
      subst hs; subst hq
      exact x
  nd := fun i j a b ha hb z => by
    have key : ∀ (i : Nat) (a : Addr × Addr), (ρ ++ [p])[i]? = some a → (i < ρ.length ∧ (ρ ++ τ)[i]? = some a) ∨ (i = ρ.length ∧ a = p) := by
      intro i a ha
      by_cases hi : i < ρ.length
      · rw [List.getElem?_append_left hi] at ha
        exact .inl ⟨hi, by rw [List.getElem?_append_left hi]; exact ha⟩
      · have hi' : i = ρ.length := by
          have := (List.getElem?_eq_some_iff.mp ha).1
          rw [List.length_append] at this
          simp at this; omega
        subst hi'
        rw [List.getElem?_append_right (Nat.le_refl _)] at ha
        simp at ha
        exact .inr ⟨rfl, ha.symm⟩
    have hk' : ρ.length ≤ k := by rw [I0.len]; exact hk
    rcases key i a ha with ⟨h1, h2⟩ | ⟨h1, h2⟩ <;> rcases key j b hb with ⟨h3, h4⟩ | ⟨h3, h4⟩
    · exact I.nd i j a b h2 h4 z
    · subst h4
      have := I.nd i k a b h2 hp z
      omega
    · subst h2
      have := I.nd k j a b hp h4 z
      omega
    · lia
  fr := fun q hq => by
    rcases List.mem_append.mp hq with hq | hq
    · exact I.fr q (List.mem_append.mpr (.inl hq))
    · rw [List.mem_singleton.mp hq]; exact I.fr p (List.mem_of_getElem? hp)
  hid := I.hid
end
end Mine
end
section
open PySem PySem.W PyProof.Rows PySem.Calls
set_option linter.unusedSectionVars false
namespace Mine
variable [Hid]
section
variable {T : Tbl} {CA : Str → Option Addr} {K : Frag} {mg mb : Str → Option Value} {B : Heap} {prog : Program} {w : World} {A : Around} {n : Nat} {F : Funs} {s : Shared} {ρ τ : Rho} {σ σ' : Sto} {env : Env} {L : Loc} {d : V} {h h0 : Heap}

theorem gc_ok {v r : V} {u : Value} {σ2 : Sto} (he : gc σ v σ' = (r, σ2)) (I0 : Inv CA B h0 ρ σ) (I : Inv CA B h (ρ ++ τ) σ') (g : Go No h0 ρ h (ρ ++ τ)) (hv : VIn h (ρ ++ τ) v u) : ∃ ρ', Inv CA B h ρ' σ2 ∧ Go No h0 ρ h ρ' ∧ VIn h ρ' r u := by
  have raw : ∀ {r σ2}, (v, σ') = (r, σ2) → ∃ ρ', Inv CA B h ρ' σ2 ∧ Go No h0 ρ h ρ' ∧ VIn h ρ' r u := by
    intro r σ2 e; cases e; exact ⟨_, I, g, hv⟩
  unfold gc at he
  split at he
  · rename_i ht
    split at he
    · rename_i hf
      cases he
      exact ⟨ρ, Inv.cut I0 I ht, g.cut, hv.cut (free_vok _ hf)⟩
    · split at he
      · rename_i k hnf
        split at he
        · rename_i l hl
          split at he
          · rename_i hc
            cases he
            rw [Bool.and_eq_true] at hc
            have hk := of_decide_eq_true hc.1
            cases hv with
            | obj hp =>
              rename_i p
              have ob := I.obs k _ p hl hp
              have ob' : ObIn CA h (ρ ++ [p]) (.list l) p := by
                generalize hob : Ob.list l = o at ob
                induction ob using ObIn.casesOn with
                | list pl r => cases hob; exact .list pl (r.any hc.2)
                | inst => cases hob
              have I1 := Inv.cut1 I0 I ht hk hp ob'
              have hpm : h0.get? p.2 = none := by
                obtain ⟨τ', e, q⟩ := g.pre
                have e' := List.append_cancel_left e
                subst e'
                refine q p ?_
                rw [List.getElem?_append_right (by rw [I0.len]; exact hk)] at hp
                exact List.mem_of_getElem? hp
              refine ⟨ρ ++ [p], I1, ⟨g.ext, g.live, [p], rfl, fun q hq => by rw [List.mem_singleton.mp hq]; exact hpm⟩, ?_⟩
              refine VIn.obj (p := p) ?_
              rw [← I0.len, List.getElem?_append_right (Nat.le_refl _)]; simp
          · exact raw he
        · rename_i c fs hl
          split at he
          · rename_i hc
            cases he
            rw [Bool.and_eq_true] at hc
            have hk := of_decide_eq_true hc.1
            cases hv with
            | obj hp =>
              rename_i p
              have ob := I.obs k _ p hl hp
              have ob' : ObIn CA h (ρ ++ [p]) (.inst c fs) p := by
                generalize hob : Ob.inst c fs = o at ob
                induction ob using ObIn.casesOn with
                | list => cases hob
                | inst h1 h2 h3 h4 => cases hob; exact .inst h1 h2 h3 (h4.any hc.2)
              have I1 := Inv.cut1 I0 I ht hk hp ob'
              have hpm : h0.get? p.2 = none := by
                obtain ⟨τ', e, q⟩ := g.pre
                have e' := List.append_cancel_left e
                subst e'
                refine q p ?_
                rw [List.getElem?_append_right (by rw [I0.len]; exact hk)] at hp
                exact List.mem_of_getElem? hp
              refine ⟨ρ ++ [p], I1, ⟨g.ext, g.live, [p], rfl, fun q hq => by rw [List.mem_singleton.mp hq]; exact hpm⟩, ?_⟩
              refine VIn.obj (p := p) ?_
              rw [← I0.len, List.getElem?_append_right (Nat.le_refl _)]; simp
          · exact raw he
        · exact raw he
      · exact raw he
  · exact raw he

theorem LocIn.soft (l : LocIn B h ρ env L) : Soft (XOf env) h := by
  intro b o hX e
  rcases hX with rfl | ⟨x, hx⟩
  · obtain ⟨m, o', es, ep, e', hd, _⟩ := l.ns
    rw [e] at e'; cases e'
    exact .inl ⟨es, ep, hd⟩
  · obtain ⟨v, o', e', hd⟩ := l.cells x b hx
    rw [e] at e'; cases e'
    exact .inr ⟨v, hd⟩

theorem exs_ok {m : Nat} (G : GoodF T CA B (model prog w) n F) (a : AOk A n) (eo : EnvOk env) : ∀ {b : List Stmt} {f : Fl} {L L' : Loc} {σ σ' : Sto} {s : Shared} {ρ : Rho}, b.all (okS T m env.scope) = true → exs F.ex L σ b = some (f, L', σ') → Inv CA B s.heap ρ σ → LocIn B s.heap ρ env L →
    ExOk CA B (model prog w) A env (execs b env) s ρ f L' σ'
  | [], f, L, L', σ, σ', s, ρ, _, he, I, l => by
    cases he
    intro Q E k
    exact wpAny_execs_nil (k .next s.heap s.toks ρ I Go.refl l True.intro)
  | st :: b, f, L, L', σ, σ', s, ρ, ok, he, I, l => by
    simp only [List.all_cons, Bool.and_eq_true] at ok
    intro Q E k
    unfold exs at he
    split at he
    · rename_i L1 σ1 h1
      refine wpAny_execs_cons (G.ex A env L σ st .next L1 σ1 m a eo ok.1 h1 s ρ I l _ _ fun fl h' tk ρ' I1 g1 l1 hf => ?_)
      cases fl <;> first | exact hf.elim | skip
      exact exs_ok G a eo ok.2 he I1 l1 _ _ fun fl h2 tk2 ρ2 I2 g2 l2 hf2 => k fl h2 tk2 ρ2 I2 (g1.trans g2) l2 hf2
    · rename_i v L1 σ1 h1
      cases he
      refine wpAny_execs_cons (G.ex A env L σ st (.ret v) _ _ m a eo ok.1 h1 s ρ I l _ _ fun fl h' tk ρ' I1 g1 l1 hf => ?_)
      cases fl <;> first | exact hf.elim | skip
      exact k _ h' tk ρ' I1 g1 l1 hf
    · cases he

theorem zip_look {xs : List Str} : ∀ {vs : List V} {ws : List Value} {x : Str} {d : V}, VAll h ρ vs ws → (xs.zip vs).lookup x = some d → ∃ v, (xs.zip ws).lookup x = some v ∧ VIn h ρ d v := by
  induction xs with
  | nil => intro vs ws x d _ e; cases e
  | cons y xs ih =>
    intro vs ws x d r e
    induction r using VAll.casesOn with
    | nil => cases e
    | cons a r =>
      rw [List.zip_cons_cons, List.lookup_cons] at e ⊢
      cases q : x == y with
      | true => rw [q] at e; cases e; exact ⟨_, rfl, a⟩
      | false => rw [q] at e; exact ih r e

theorem bindL_at {kd : Str → Option NameKind} {x : Str} {v : Value} (hk : kd x = some .local) : ∀ {xs : List Str} {ws : List Value} {m : Str → Option Value}, xs.Nodup → ((xs.zip ws).lookup x = some v ∨ (x ∉ xs ∧ m x = some v)) → bindL kd (xs.zip ws) m x = some v
  | [], ws, m, _, e => by
    rcases e with e | ⟨_, e⟩
    · cases e
    · exact e
  | y :: xs, [], m, _, e => by
    rcases e with e | ⟨_, e⟩
    · cases e
    · exact e
  | y :: xs, u :: ws, m, nd, e => by
    rw [List.nodup_cons] at nd
    rw [List.zip_cons_cons, bindL]
    refine bindL_at hk nd.2 ?_
    rcases e with e | ⟨hx, e⟩
    · rw [List.zip_cons_cons, List.lookup_cons] at e
      cases q : x == y with
      | true =>
        rw [q] at e; cases e
        have : x = y := by simpa using q
        subst this
        exact .inr ⟨nd.1, by rw [if_pos hk]; simp⟩
      | false => rw [q] at e; exact .inl e
    · refine .inr ⟨fun q => hx (.tail _ q), ?_⟩
      have hne : x ≠ y := fun q => hx (q ▸ .head _)
      split
      · simp [hne, e]
      · exact e
theorem bindC_at {kd : Str → Option NameKind} {x : Str} {v : Value} (hk : kd x ≠ some .local) : ∀ {xs : List Str} {ws : List Value} {m : Str → Option Value}, xs.Nodup → ((xs.zip ws).lookup x = some v ∨ (x ∉ xs ∧ m x = some v)) → bindC kd (xs.zip ws) m x = some v
  | [], ws, m, _, e => by
    rcases e with e | ⟨_, e⟩
    · cases e
    · exact e
  | y :: xs, [], m, _, e => by
    rcases e with e | ⟨_, e⟩
    · cases e
    · exact e
  | y :: xs, u :: ws, m, nd, e => by
    rw [List.nodup_cons] at nd
    rw [List.zip_cons_cons, bindC]
    refine bindC_at hk nd.2 ?_
    rcases e with e | ⟨hx, e⟩
    · rw [List.zip_cons_cons, List.lookup_cons] at e
      cases q : x == y with
      | true =>
        rw [q] at e; cases e
        have : x = y := by simpa using q
        subst this
        exact .inr ⟨nd.1, by rw [if_neg hk]; simp⟩
      | false => rw [q] at e; exact .inl e
    · refine .inr ⟨fun q => hx (.tail _ q), ?_⟩
      have hne : x ≠ y := fun q => hx (q ▸ .head _)
      split
      · exact e
      · simp [hne, e]
end

section
theorem lookup_zip_mem {x : Str} : ∀ {xs : List Str} {ws : List Value}, xs.length = ws.length → x ∈ xs → ((xs.zip ws).lookup x).isSome = true
  | [], _, _, h => nomatch h
  | y :: xs, [], h, _ => by cases h
  | y :: xs, w :: ws, h, hx => by
    rw [List.zip_cons_cons, List.lookup_cons]
    cases q : x == y with
    | true => rfl
    | false =>
      refine lookup_zip_mem (by simpa using h) ?_
      rcases List.mem_cons.mp hx with rfl | hx
      · simp at q
      · exact hx
theorem filterMap_look : ∀ (xs : List Str) (ws : List Value) (ys : List Str) (us : List Value), (xs ++ ys).Nodup → xs.length = ws.length → ys.length = us.length →
    ys.filterMap (fun x => (((xs ++ ys).zip (ws ++ us)).lookup x).map (x, ·)) = ys.zip us
  | xs, ws, [], us, _, _, h => by cases us; rfl; cases h
  | xs, ws, y :: ys, [], _, _, h => by cases h
  | xs, ws, y :: ys, u :: us, nd, h1, h2 => by
    have e1 : xs ++ y :: ys = (xs ++ [y]) ++ ys := by simp
    have e2 : ws ++ u :: us = (ws ++ [u]) ++ us := by simp
    have ih := filterMap_look (xs ++ [y]) (ws ++ [u]) ys us (e1 ▸ nd) (by simp [h1]) (by simpa using h2)
    rw [List.filterMap_cons]
    have hy : ((xs ++ y :: ys).zip (ws ++ u :: us)).lookup y = some u := by
      have hn : y ∉ xs := by
        intro q
        rw [List.nodup_append] at nd
        exact nd.2.2 y q y (.head _) rfl
      rw [List.zip_append h1]
      have : ∀ {zs : List Str} {vs : List Value}, y ∉ zs → ((zs.zip vs) ++ (y :: ys).zip (u :: us)).lookup y = some u := by
        intro zs
        induction zs with
        | nil => intro vs _; simp [List.lookup_cons]
        | cons z zs ih =>
          intro vs hz
          induction vs using List.casesOn with
          | nil => simp [List.lookup_cons]
          | cons v vs =>
            rw [List.zip_cons_cons, List.cons_append, List.lookup_cons]
            have : (y == z) = false := by
              simp only [beq_eq_false_iff_ne]; rintro rfl; exact hz (.head _)
            rw [this]
            exact ih fun q => hz (.tail _ q)
      exact this hn
    rw [hy]
    show (y, u) :: _ = _
    rw [e1, e2, ih]; rfl
end
end Mine
end
section
open PySem PySem.W PyProof.Rows PySem.Calls
set_option linter.unusedSectionVars false
namespace Mine
variable [Hid]

theorem bind_plain {fd : FuncData} {ps : List Arg} {ws : List Value} (h1 : fd.params.posonlyargs = []) (h2 : fd.params.vararg = none) (h3 : fd.params.kwonlyargs = []) (h4 : fd.params.kwarg = none) (h5 : fd.params.args = ps) (h6 : fd.defaults = .none)
    (nd : (ps.map (·.arg)).Nodup) (hl : ps.length = ws.length) : bindArgs fd ⟨ws, []⟩ = pure ((ps.map (·.arg)).zip ws) := by
  have hmis : ((ps.map (·.arg)).filter fun n => (((ps.map (·.arg)).zip ws).lookup n).isNone) = [] := by
    rw [List.filter_eq_nil_iff]
    intro x hx
    have := lookup_zip_mem (ws := ws) (by rw [List.length_map]; exact hl) hx
    cases q : ((ps.map (·.arg)).zip ws).lookup x with
    | none => rw [q] at this; cases this
    | some v => simp
  have hfm : (ps.map (·.arg)).filterMap (fun n => (((ps.map (·.arg)).zip ws).lookup n).map (n, ·)) = (ps.map (·.arg)).zip ws := by
    have := filterMap_look [] [] (ps.map (·.arg)) ws (by simpa using nd) rfl (by rw [List.length_map]; exact hl)
    simpa using this
  unfold bindArgs
  simp only [h1, h2, h3, h4, h5, h6, List.map_nil, List.nil_append, List.append_nil, List.length_map]
  have hs : seqItems? Value.none = pure none := rfl
  rw [hs]
  have hg : ¬ ws.length > ps.length := by lia
  simp only [List.forIn_nil, pure_bind, Option.getD_none, Array.toList_empty, List.drop_nil, List.length_nil, Nat.sub_zero, List.zip_nil_right, hg, decide_false, Bool.false_and, Bool.false_eq_true, if_false,
    List.isEmpty_nil, Bool.not_true]
  rw [show (List.take ps.length (ps.map (·.arg))) = ps.map (·.arg) from List.take_of_length_le (by rw [List.length_map]; exact Nat.le_refl _)]
  rw [hmis, hfm]
  rfl
end Mine
end
section
open PySem PySem.W PyProof.Rows PySem.Calls
set_option linter.unusedSectionVars false
namespace Mine
variable [Hid]

section
variable {T : Tbl} {CA : Str → Option Addr} {K : Frag} {mg mb : Str → Option Value} {B : Heap} {prog : Program} {w : World} {A : Around} {n : Nat} {F : Funs} {s : Shared} {ρ τ : Rho} {σ σ' : Sto} {env : Env} {L : Loc} {d : V} {h h0 : Heap}

/-- a def's frame is laid out: its names are bound -/
theorem frame_in {fd : FuncData} {a : Addr} {ps : List Arg} {vs : List V} {ws : List Value} {s1 : Shared} (I : Inv CA B s.heap ρ σ) (x : VAll s.heap ρ vs ws) (nd : (ps.map (·.arg)).Nodup) (hk0 : ∀ p ∈ ps, fd.scope.names.lookup p.arg = some .local ∨ fd.scope.names.lookup p.arg = some .cell)
    (y : InCallC s (callEnvC fd s.heap.objs.size a).locals (bindL (callEnvC fd s.heap.objs.size a).kindOf ((ps.map (·.arg)).zip ws) fun _ => none) (callEnvC fd s.heap.objs.size a).cells (bindC (callEnvC fd s.heap.objs.size a).kindOf ((ps.map (·.arg)).zip ws) fun _ => none) s1) :
    LocIn B s1.heap ρ (callEnvC fd s.heap.objs.size a) (bindP (ps.map (·.arg)) vs) := by
  have g : Go No s.heap ρ s1.heap ρ := Go.grow y.toInCall.keep
  refine ⟨⟨_, y.toInCall.ns⟩, fun p hp q => ?_, fun z d hz hv => ?_, fun z hz => ?_, fun z c hz => ⟨_, y.cell z c hz⟩, fun z z' c h1 h2 => ?_, fun b hb => ?_⟩
  · obtain ⟨o, e, _⟩ := I.at hp
    have h1 := Heap.lt_size e
    rw [← q] at h1
    exact absurd (Nat.lt_of_lt_of_le h1 y.toInCall.fresh) (Nat.lt_irrefl _)
  · obtain ⟨v, e, hV⟩ := zip_look x hz
    refine ⟨v, hV.mono Soft.no I g, ?_⟩
    by_cases hk : (callEnvC fd s.heap.objs.size a).kindOf z = some .local
    · exact .inl ⟨hk, _, y.toInCall.ns, bindL_at hk nd (.inl e)⟩
    · refine .inr ?_
      have hm : z ∈ ps.map (·.arg) := (List.of_mem_zip (mem_of_lookup hz)).1
      obtain ⟨p, hp, rfl⟩ := List.mem_map.mp hm
      have hc : (callEnvC fd s.heap.objs.size a).kindOf p.arg = some .cell := (hk0 p hp).resolve_left hk
      obtain ⟨c, hc'⟩ := Option.isSome_iff_exists.mp (cellsFrom_some (x := p.arg) fd.scope.names (s.heap.objs.size + 1) [] (.inl hc))
      refine ⟨.inl hc, c, hc', ?_⟩
      have := y.cell p.arg c hc'
      rwa [bindC_at hk nd (.inl e)] at this
  · have := cellsFrom_some (x := z) fd.scope.names (s.heap.objs.size + 1) [] (.inl hz)
    exact Option.isSome_iff_exists.mp this
  · exact name_of_addr y.apart (mem_of_lookup h1) (mem_of_lookup h2)
  · have hge : s.heap.objs.size ≤ b := by
      rcases hb with rfl | ⟨x, hx⟩
      · exact Nat.le_refl _
      · exact Nat.le_of_lt (y.above x b (mem_of_lookup hx))
    cases q : B.get? b with
    | none => rfl
    | some o => exact absurd (Heap.lt_size (I.keep _ _ q)) (Nat.not_lt.mpr hge)

theorem okFn_parts {d : DefRec} (h : okFn T d = true) : d.scope.kind = .function ∧ d.scope.isCoroutine = false ∧ d.scope.isGenerator = false ∧ d.params.posonlyargs = [] ∧ d.params.vararg = none ∧ d.params.kwonlyargs = [] ∧ d.params.kwarg = none ∧
    (d.params.args.map (·.arg)).Nodup ∧ (∀ p ∈ d.params.args, d.scope.names.lookup p.arg = some .local ∨ d.scope.names.lookup p.arg = some .cell) ∧ d.body.all (okS T 60 d.scope) = true := by
  unfold okFn at h
  simp only [Bool.and_eq_true, Bool.not_eq_true', List.isEmpty_iff, Option.isNone_iff_eq_none, decide_eq_true_eq] at h
  obtain ⟨⟨⟨⟨⟨⟨⟨⟨⟨⟨a, b⟩, c⟩, e⟩, f⟩, g⟩, i⟩, j⟩, k⟩, _⟩, l⟩ := h
  refine ⟨beq_iff_eq.mp a, b, c, e, f, g, i, j, fun p hp => ?_, l⟩
  have := List.all_eq_true.mp k p hp
  rcases Bool.or_eq_true_iff.mp this with q | q
  · exact .inl (by simpa using q)
  · exact .inr (by simpa using q)

theorem AOk.room {A : Around} {n : Nat} (a : AOk A (n + 1)) : A.handled = none ∧ A.depth + 3 * n + 5 < recursionLimit ∧ A.units + 10 * n + 84 < cLine := ⟨a.hd, by have := a.dp; (first | exact Nat.le_of_lt (by assumption) | exact Nat.lt_of_lt_of_le (by assumption) (by assumption) | exact Nat.le_trans (by assumption) (by assumption) | exact Nat.lt_succ_of_lt (by assumption)), by have := a.un; omega⟩

/-- a def is called: what its body comes to -/
theorem run_fn {a : Addr} {o : Obj} {fd : FuncData} {d : DefRec} {ws : List Value} {vs : List V} {f : Fl} {L' : Loc} (G : GoodF T CA B (model prog w) n F) (ao : A.handled = none ∧ A.depth + 3 * n + 5 < recursionLimit ∧ A.units + 10 * n + 84 < cLine) (hl : B.NoLimit)
    (ho : B.get? a = some o) (hd : o.data = .func fd) (hp : fd.params = d.params) (hb : fd.body = .stmts d.body) (hsc : fd.scope = d.scope) (hcl : fd.closure = []) (hgl : fd.globals = mainGlobals) (hbi : fd.builtins = builtinsNs) (hcr : B.CodeRec fd.code fd.qualname)
    (ok : okFn T d = true) (hbind : bindArgs fd ⟨ws, []⟩ = pure ((d.params.args.map (·.arg)).zip ws)) (he : exs F.ex (bindP (d.params.args.map (·.arg)) vs) σ d.body = some (f, L', σ'))
    (I : Inv CA B s.heap ρ σ) (x : VAll s.heap ρ vs ws) {R : Result → Shared → Prop}
    (k : ∀ fl h' tk ρ', Inv CA B h' ρ' σ' → Go No s.heap ρ h' ρ' → FlIn h' ρ' f fl → R (.ok (.ret (match fl with | .ret v => v | _ => .none))) { s with heap := h', toks := tk }) : codeAny (model prog w) A (.call (.ref a) ⟨ws, []⟩) R s := by
  obtain ⟨p1, p2, p3, p4, p5, p6, p7, p8, p9, p10⟩ := okFn_parts ok
  have hk0 : ∀ p ∈ d.params.args, fd.scope.names.lookup p.arg = some .local ∨ fd.scope.names.lookup p.arg = some .cell := by rw [hsc]; exact p9
  refine codeAny_call_cells (by have := ao.2.1; omega) (I.keep _ _ ho) hd (hl.keeps I.keep) ?_ hb hbind hcl ?_ (fun s1 y => ?_) (by rw [hsc]; exact p2) (by rw [hsc]; exact p3) (by rw [hsc]; exact p1)
  · obtain ⟨c, oc, vs', t, e1, e2, e3⟩ := hcr
    exact ⟨c, oc, vs', t, e1, I.keep _ _ e2, e3⟩
  · intro z hz
    obtain ⟨p, hp', hq⟩ := List.mem_map.mp (List.of_mem_zip (show (z.1, z.2) ∈ _ from hz)).1
    have := hk0 p hp'
    rw [hq] at this
    rcases this with q | q
    · exact .inl q
    · exact .inr ⟨q, cellsFrom_some _ _ _ (.inl q)⟩
  · have l := frame_in (fd := fd) (a := a) I x p8 hk0 y
    obtain ⟨h1, tk1, rfl, kp⟩ := y.done
    have g1 : Go No s.heap ρ h1 ρ := Go.grow kp
    have I1 : Inv CA B h1 ρ σ := I.grow kp
    have eo : EnvOk (callEnvC fd s.heap.objs.size a) := ⟨by show fd.scope.kind = _; rw [hsc]; exact p1, hgl, hbi⟩
    have ao' : AOk (A.deeper (callEnvC fd s.heap.objs.size a)) n := ⟨ao.1, by show A.depth + 1 + _ + _ < _; have := ao.2.1; omega, by show A.units + 3 + _ + _ < _; have := ao.2.2; omega⟩
    refine exs_ok (m := 60) G ao' eo (by show d.body.all (okS T 60 fd.scope) = true; rw [hsc]; exact p10) he I1 l _ _ fun fl h' tk ρ' I2 g2 l2 hf => ?_
    refine k fl h' tk ρ' I2 ⟨fun b o e hb _ => ?_, fun b o e => ?_, ?_⟩ hf
    · refine g2.ext b o (kp b o e) hb fun hX => ?_
      have hlt := Heap.lt_size e
      rcases hX with q | ⟨z, hz⟩
      · rw [q] at hlt; exact absurd hlt (Nat.lt_irrefl _)
      · have := y.above z b (mem_of_lookup hz)
        exact absurd hlt (Nat.lt_asymm this)
    · exact g2.live b o (kp b o e)
    · obtain ⟨τ, e, hτ⟩ := g2.pre
      refine ⟨τ, e, fun p hp => ?_⟩
      cases q : s.heap.get? p.2 with
      | none => rfl
      | some o' => have := hτ p hp; rw [kp _ _ q] at this; cases this

theorem call_fn {a : Addr} {d : DefRec} {ws : List Value} {vs : List V} {r : V} (G : GoodF T CA B (model prog w) n F) (ao : AOk A (n + 1)) (hl : B.NoLimit) (fa : FnAt T B a d) (he : callD F d vs σ = some (r, σ')) (I : Inv CA B s.heap ρ σ) (x : VAll s.heap ρ vs ws) :
    EvOk CA B (model prog w) A (call (.ref a) ws) s ρ r σ' := by
  obtain ⟨⟨o, fd, ho, hd, hp, hb, hsc, hcl, hgl, hbi, hcr, hdf⟩, ok⟩ := fa
  have pp := okFn_parts ok
  obtain ⟨p1, p2, p3, p4, p5, p6, p7, p8, p9, p10⟩ := pp
  unfold callD at he
  split at he
  · rename_i hlen
    have hbind : bindArgs fd ⟨ws, []⟩ = pure ((d.params.args.map (·.arg)).zip ws) := bind_plain (by rw [hp]; exact p4) (by rw [hp]; exact p5) (by rw [hp]; exact p6) (by rw [hp]; exact p7) (by rw [hp]) hdf p8 (by rw [x.length, hlen])
    intro Q E k
    split at he
    · rename_i v L1 σ1 h1
      have he' : gc σ v σ1 = (r, σ') := Option.some.inj he
      refine wpAny_call (run_fn G ao.room hl ho hd hp hb hsc hcl hgl hbi hcr ok hbind h1 I x fun fl h' tk ρ' I2 g2 hf => ?_)
      cases fl <;> first | exact hf.elim | skip
      obtain ⟨τ, e, hτ⟩ := g2.pre
      subst e
      obtain ⟨ρ2, J, g3, hV⟩ := gc_ok he' I I2 g2 hf
      exact k _ h' tk ρ2 J g3 hV
    · rename_i L1 σ1 h1
      have he' : gc σ .none σ1 = (r, σ') := Option.some.inj he
      refine wpAny_call (run_fn G ao.room hl ho hd hp hb hsc hcl hgl hbi hcr ok hbind h1 I x fun fl h' tk ρ' I2 g2 hf => ?_)
      cases fl <;> first | exact hf.elim | skip
      obtain ⟨τ, e, hτ⟩ := g2.pre
      subst e
      obtain ⟨ρ2, J, g3, hV⟩ := gc_ok (u := .none) he' I I2 g2 .none
      exact k _ h' tk ρ2 J g3 hV
    · cases he
  · exact nomatch he
end
end Mine
end
section
open PySem PySem.W PyProof.Rows PySem.Calls
set_option linter.unusedSectionVars false
namespace Mine
variable [Hid]
section
variable {T : Tbl} {CA : Str → Option Addr} {K : Frag} {mg mb : Str → Option Value} {B : Heap} {prog : Program} {w : World} {A : Around} {n : Nat} {F : Funs} {s : Shared} {ρ τ : Rho} {σ σ' : Sto} {env : Env} {L : Loc} {d : V} {h h0 : Heap}

theorem lookup_rev {l : List (Str × Value)} (nd : (l.map (·.1)).Nodup) (x : Str) : l.reverse.lookup x = l.lookup x := by
  induction l with
  | nil => rfl
  | cons p l ih =>
    obtain ⟨y, v⟩ := p
    rw [List.map_cons, List.nodup_cons] at nd
    rw [List.reverse_cons, List.lookup_append, ih nd.2, List.lookup_cons, List.lookup_cons]
    cases q : x == y with
    | false => cases l.lookup x <;> rfl
    | true =>
      have e : x = y := by simpa using q
      have : l.lookup x = none := by
        cases hq : l.lookup x with
        | none => rfl
        | some u => exact absurd (List.mem_map_of_mem (f := (·.1)) (mem_of_lookup hq)) (e ▸ nd.1)
      rw [this]; rfl

theorem zip_fst_nodup {xs : List Str} : ∀ {ws : List Value}, xs.Nodup → ((xs.zip ws).map (·.1)).Nodup := by
  induction xs with
  | nil => intro ws _; exact List.nodup_nil
  | cons x xs ih =>
    intro ws nd
    induction ws using List.casesOn with
    | nil => exact List.nodup_nil
    | cons w ws =>
      rw [List.nodup_cons] at nd
      rw [List.zip_cons_cons, List.map_cons, List.nodup_cons]
      refine ⟨fun hm => ?_, ih nd.2⟩
      obtain ⟨p, hp, e⟩ := List.mem_map.mp hm
      have := (List.of_mem_zip (show (p.1, p.2) ∈ _ from hp)).1
      rw [e] at this
      exact nd.1 this

/-- a def without cells, its arguments bound by way of its defaults -/
theorem run_fn0 {a : Addr} {o : Obj} {fd : FuncData} {d : DefRec} {ws us : List Value} {vs : List V} {f : Fl} {L' : Loc} (G : GoodF T CA B (model prog w) n F) (ao : A.handled = none ∧ A.depth + 3 * n + 5 < recursionLimit ∧ A.units + 10 * n + 84 < cLine) (hl : B.NoLimit)
    (ho : B.get? a = some o) (hd : o.data = .func fd) (hb : fd.body = .stmts d.body) (hsc : fd.scope = d.scope) (hcl : fd.closure = []) (hgl : fd.globals = mainGlobals) (hbi : fd.builtins = builtinsNs) (hcr : B.CodeRec fd.code fd.qualname)
    (ok : okFn T d = true) (hcell : ∀ x ∈ d.scope.names, x.2 ≠ .cell) (hbind : BindsTo s fd ⟨ws, []⟩ ((d.params.args.map (·.arg)).zip us)) (he : exs F.ex (bindP (d.params.args.map (·.arg)) vs) σ d.body = some (f, L', σ'))
    (I : Inv CA B s.heap ρ σ) (x : VAll s.heap ρ vs us) {R : Result → Shared → Prop}
    (k : ∀ fl h' tk ρ', Inv CA B h' ρ' σ' → Go No s.heap ρ h' ρ' → FlIn h' ρ' f fl → R (.ok (.ret (match fl with | .ret v => v | _ => .none))) { s with heap := h', toks := tk }) : codeAny (model prog w) A (.call (.ref a) ⟨ws, []⟩) R s := by
  obtain ⟨p1, p2, p3, p4, p5, p6, p7, p8, p9, p10⟩ := okFn_parts ok
  have hloc : ∀ x ∈ (d.params.args.map (·.arg)).zip us, d.scope.names.lookup x.1 = some .local := by
    intro z hz
    obtain ⟨p, hp', hq⟩ := List.mem_map.mp (List.of_mem_zip (show (z.1, z.2) ∈ _ from hz)).1
    have := p9 p hp'
    rw [hq] at this
    rcases this with q | q
    · exact q
    · exact absurd rfl (hcell _ (mem_of_lookup q))
  refine codeAny_call_def (by have := ao.2.1; omega) (I.keep _ _ ho) hd (hl.keeps I.keep) ?_ hb hbind (by rw [hsc]; exact hcell) (by rw [hsc]; exact hloc) (fun h1 hns kp => ?_) (by rw [hsc]; exact p2) (by rw [hsc]; exact p3) (by rw [hsc]; exact p1)
  · obtain ⟨c, oc, vs', t, e1, e2, e3⟩ := hcr
    exact ⟨c, oc, vs', t, e1, I.keep _ _ e2, e3⟩
  · have g1 : Go No s.heap ρ h1 ρ := Go.grow kp
    have I1 : Inv CA B h1 ρ σ := I.grow kp
    have eo : EnvOk (callEnv fd s.heap.objs.size a) := ⟨by show fd.scope.kind = _; rw [hsc]; exact p1, hgl, hbi⟩
    have ao' : AOk (A.deeper (callEnv fd s.heap.objs.size a)) n := ⟨ao.1, by show A.depth + 1 + _ + _ < _; have := ao.2.1; omega, by show A.units + 3 + _ + _ < _; have := ao.2.2; omega⟩
    have hcells : (callEnv fd s.heap.objs.size a).cells = [] := hcl
    have l : LocIn B h1 ρ (callEnv fd s.heap.objs.size a) (bindP (d.params.args.map (·.arg)) vs) := by
      refine ⟨⟨_, hns⟩, fun p hp q => ?_, fun z d' hz hv => ?_, fun z hz => ?_, fun z c hz => ?_, fun z z' c hz => ?_, fun b hb' => ?_⟩
      · obtain ⟨o, e, _⟩ := I.at hp
        have h1 := Heap.lt_size e
        rw [← q] at h1
        exact absurd h1 (Nat.lt_irrefl _)
      · obtain ⟨v, e, hV⟩ := zip_look x hz
        refine ⟨v, hV.mono Soft.no I g1, .inl ⟨?_, _, hns, ?_⟩⟩
        · show fd.scope.names.lookup z = _
          rw [hsc]
          exact hloc (z, v) (mem_of_lookup e)
        · show List.lookup z _ = _
          rw [lookup_rev (zip_fst_nodup p8)]; exact e
      · have hz' : fd.scope.names.lookup z = some .cell := hz
        rw [hsc] at hz'
        exact absurd rfl (hcell _ (mem_of_lookup hz'))
      · rw [hcells] at hz; cases hz
      · rw [hcells] at hz; cases hz
      · have hge : s.heap.objs.size ≤ b := by
          rcases hb' with rfl | ⟨x, hx⟩
          · exact Nat.le_refl _
          · rw [hcells] at hx; cases hx
        cases q : B.get? b with
        | none => rfl
        | some o => exact absurd (Heap.lt_size (I.keep _ _ q)) (Nat.not_lt.mpr hge)
    refine exs_ok (m := 60) G ao' eo (by show d.body.all (okS T 60 fd.scope) = true; rw [hsc]; exact p10) he I1 l _ _ fun fl h' tk ρ' I2 g2 l2 hf => ?_
    refine k fl h' tk ρ' I2 ⟨fun b o e hb _ => ?_, fun b o e => ?_, ?_⟩ hf
    · refine g2.ext b o (kp b o e) hb fun hX => ?_
      have hlt := Heap.lt_size e
      rcases hX with q | ⟨z, hz⟩
      · rw [q] at hlt; exact absurd hlt (Nat.lt_irrefl _)
      · rw [hcells] at hz; cases hz
    · exact g2.live b o (kp b o e)
    · obtain ⟨τ, e, hτ⟩ := g2.pre
      refine ⟨τ, e, fun p hp => ?_⟩
      cases q : s.heap.get? p.2 with
      | none => rfl
      | some o' => have := hτ p hp; rw [kp _ _ q] at this; cases this

theorem mk_ok {c : Str} {C : Addr} {vs : List V} {ws : List Value} {r : V} (g : Gnd T CA K mg mb B) (G : GoodF T CA B (model prog w) n F) (ao : AOk A (n + 1)) (hC : CA c = some C) (he : mkC T F c vs σ = some (r, σ')) (I : Inv CA B s.heap ρ σ) (x : VAll s.heap ρ vs ws) :
    EvOk CA B (model prog w) A (call (.ref C) ws) s ρ r σ' := by
  unfold mkC at he
  split at he
  · rename_i d hd
    obtain ⟨f, o, fd, hi, hf, hof, hfd, hb, hsc, hcl, hgl, hbi, hcr, ok, hcell, hdf, hbind⟩ := g.init c C d hd hC
    obtain ⟨_, _, _, hmk, _⟩ := g.cset c C hC
    dsimp only at he
    split at he
    · rename_i hlen
      split at he
      · rename_i L1 σ1 h1
        have he' : gc σ (.obj σ.length) σ1 = (r, σ') := Option.some.inj he
        intro Q E k
        refine wpAny_call ?_
        obtain ⟨hh, gg, dd, tt, oo⟩ := s
        dsimp only at I x
        have X : K.In hh := g.X.keeps I.keep
        refine make_core (makes_of X hmk) (looks_findIn X hi) (fun self => bind_fn X self (beq_iff_eq.mp hf)) (.inl rfl) ?_
        -- the object and its dict
        have k1 : ∀ b o, hh.get? b = some o → ((hh.push emptyDict).push (instObj C hh.objs.size)).get? b = some o := fun b o e => Heap.get?_push_of_some _ (Heap.get?_push_of_some _ e)
        generalize hH : (hh.push emptyDict).push (instObj C hh.objs.size) = H at k1
        have hdx : H.get? hh.objs.size = some (dictOf [] 0) := by rw [← hH]; exact Heap.get?_push_of_some _ (Heap.get?_push_size _ rfl)
        have hx : H.get? (hh.objs.size + 1) = some (instObj C hh.objs.size) := by
          rw [← hH, show hh.objs.size + 1 = (hh.push emptyDict).objs.size from (Heap.size_push ..).symm]; exact Heap.get?_push_size _ rfl
        obtain ⟨n1, n2⟩ := I.none_of_size
        obtain ⟨I1, g1⟩ := I.add k1 (p := (hh.objs.size + 1, hh.objs.size)) (ob := .inst c []) n1 n2 (.inst hC hx hdx .nil)
        have hself : VIn H (ρ ++ [(hh.objs.size + 1, hh.objs.size)]) (.obj σ.length) (.ref (hh.objs.size + 1)) := by
          refine VIn.obj (p := (hh.objs.size + 1, hh.objs.size)) ?_
          rw [← I.len, List.getElem?_append_right (Nat.le_refl _)]; simp
        have xl := x.length
        obtain ⟨us, hus, hbd⟩ := hbind (.ref (hh.objs.size + 1) :: ws) ⟨H, gg, dd, tt, oo⟩ I1.keep (by
          simp only [List.length_cons, List.length_append] at hlen ⊢
          rw [xl, show d.params.args.length - (vs.length + 1) = d.params.args.length - 1 - vs.length by lia]; omega)
        rw [List.length_cons, xl, show d.params.args.length - (vs.length + 1) = d.params.args.length - 1 - vs.length by lia] at hus
        have hfree : ∀ (l : List V) (k : Nat), freeL l = true → freeL (l.drop k) = true := by
          intro l
          induction l with
          | nil => intro k _; simp [freeL]
          | cons a l ih =>
            intro k hk
            induction k using Nat.casesOn with
            | zero => exact hk
            | succ k => rw [freeL, Bool.and_eq_true] at hk; exact ih k hk.2
        have hus' : VAll H (ρ ++ [(hh.objs.size + 1, hh.objs.size)]) ((T.dfl c).drop ((T.dfl c).length - (d.params.args.length - 1 - vs.length))) us :=
          VAll.hide I1 hus
        have hall := VAll.cons hself ((x.mono Soft.no I g1).append hus')
        refine run_fn0 (A := A.under _) (us := .ref (hh.objs.size + 1) :: (ws ++ us)) G ⟨ao.hd, ?_, ?_⟩ g.nolimit hof hfd hb hsc hcl hgl hbi hcr ok hcell hbd h1 I1 hall fun fl h' tk ρ' I2 g2 hfl => ?_
        · rw [depth_under_make]; have := ao.dp; lia
        · show A.units + 1 + _ + _ < _
          have := ao.un; lia
        · cases fl <;> first | exact hfl.elim | skip
          refine ⟨rfl, ?_⟩
          have g12 := g1.trans g2
          obtain ⟨τ, e, hτ⟩ := g12.pre
          subst e
          have hself' := hself.mono Soft.no I1 g2
          obtain ⟨ρ2, J, g3, hV⟩ := gc_ok he' I I2 g12 hself'
          exact k _ h' tk ρ2 J g3 hV
      · cases he
    · exact nomatch he
  · cases he
end
end Mine
end
section
open PySem PySem.W PyProof.Rows PySem.Calls
set_option linter.unusedSectionVars false
namespace Mine
variable [Hid]
section
variable {T : Tbl} {CA : Str → Option Addr} {K : Frag} {mg mb : Str → Option Value} {B : Heap} {prog : Program} {w : World} {A : Around} {n : Nat} {F : Funs} {s : Shared} {ρ τ : Rho} {σ σ' : Sto} {env : Env} {L : Loc} {d : V} {h h0 : Heap}

noncomputable def Keeper' (prog : Program) (w : World) (B : Heap) (f : Value) : Prop := ∀ h : Heap, (∀ b o, B.get? b = some o → h.get? b = some o) → ∃ k, (k = Keeper.frame ∨ k = Keeper.machine ∨ k = Keeper.boundFrame) ∧ Looks (model prog w) h (keeperOf f) k

theorem keep_bi (b : Bi) : Keeper' prog w B (biV b) := fun h _ => ⟨.machine, .inr (.inl rfl), by cases b <;> exact Looks.of_pure rfl⟩
theorem keep_builtin (id : String) : Keeper' prog w B (.builtin id) := fun h _ => ⟨.machine, .inr (.inl rfl), Looks.of_pure rfl⟩
theorem keep_fn {a : Addr} {o : Obj} {fd : FuncData} (ho : B.get? a = some o) (hd : o.data = .func fd) : Keeper' prog w B (.ref a) := fun h k => by
  refine ⟨.frame, .inl rfl, (Looks.ld (part := none) (k _ _ ho)).andThen ?_⟩
  simp only [hd]
  exact .now
theorem keep_cls {C : Addr} (X : K.In B) (hk : keepIn K (.ref C) = true) : Keeper' prog w B (.ref C) := fun h k => keeps_K hk h (X.keeps k)

theorem callW {f : Value} {first : List Value} {args : List Expr} {vs : List V} {m : Nat} {pos : Pos} (G : GoodF T CA B (model prog w) n F) (ao : AOk A n) (eo : EnvOk env) (hk : Keeper' prog w B f) (ok : args.all (fun e => okE T m env.scope e && !isStar e) = true)
    (he : evs (F.ev L) σ args = some (vs, σ')) (I : Inv CA B s.heap ρ σ) (l : LocIn B s.heap ρ env L) {Q E : Value → Shared → Prop}
    (k : ∀ ws h' tk ρ', Inv CA B h' ρ' σ' → Go No s.heap ρ h' ρ' → VAll h' ρ' vs ws → wpAny (model prog w) A (call f (first ++ ws)) Q E { s with heap := h', toks := tk }) :
    wpAny (model prog w) A (callWith pos f first (backTo pos (starEach args env)) []) Q E s := by
  have hpl : (backTo pos (starEach args env)).any (·.1) = false := backTo_plain (by
    rw [List.all_eq_true] at ok ⊢
    intro e he
    have := ok e he
    rw [Bool.and_eq_true] at this
    exact this.2)
  refine callWith_of (P := fun h => ∀ b o, B.get? b = some o → h.get? b = some o) (by rw [hpl]; rfl) hk ?_
  induction args using List.casesOn with
  | nil =>
    cases he
    refine evalArgs_nil3 ⟨I.keep, ?_⟩
    exact k [] s.heap s.toks ρ I Go.refl .nil
  | cons e args =>
    have hs : isStar e = false := by
      simp only [List.all_cons, Bool.and_eq_true] at ok
      simpa using ok.1.2
    have key := evs_ok (pos := pos) (m := m) G ao eo ok he I l
    rw [starEach_cons hs, backTo_cons] at key ⊢
    refine evalArgs_plain (key _ _ fun ws h' tk ρ' I1 g1 hw => ⟨I1.keep, ?_⟩)
    exact k ws h' tk ρ' I1 g1 hw

theorem callN_ok {x : Str} {q pos : Pos} {args : List Expr} {vs : List V} {m : Nat} {σ1 : Sto} (g : Gnd T CA K mg mb B) (G : GoodF T CA B (model prog w) n F) (ao : AOk A (n + 1)) (eo : EnvOk env) (okx : x != Str.ofString "__debug__" && env.scope.names.lookup x == some .globalImplicit)
    (ok : args.all (fun e => okE T m env.scope e && !isStar e) = true) (h1 : evs (F.ev L) σ args = some (vs, σ1)) (he : callN T F x vs σ1 = some (d, σ')) (I : Inv CA B s.heap ρ σ) (l : LocIn B s.heap ρ env L) :
    EvOk CA B (model prog w) A (eval (.Call (.Name x q) args [] pos) env) s ρ d σ' := by
  rw [Bool.and_eq_true] at okx
  have hd : (x == ("__debug__" : Str)) = false := by simpa using okx.1
  have hg : env.kindOf x = some .globalImplicit := beq_iff_eq.mp okx.2
  intro Q E k
  unfold callN at he
  split at he
  · rename_i b hb
    obtain ⟨v, hv, e⟩ := Option.map_eq_some_iff.mp he
    cases e
    obtain ⟨m1, m2⟩ := g.bi x b hb
    refine wpAny_Call_NameR (Name_function_global eo.kind hg (loadGlobal_builtin (by rw [eo.gl]; exact g.ns I) m1 (by rw [eo.bi]; exact g.nb I) m2 ?_) hd)
    refine callW G ao.down eo (keep_bi b) ok h1 I l fun ws h' tk ρ' I1 g1 hw => ?_
    exact (biC_ok ao g.ro hv I1 hw).mono g1 k
  · rename_i df hf
    obtain ⟨a, ha, fa⟩ := g.fn x df hf
    obtain ⟨o, fd, ho, hdd, _⟩ := fa.at_
    refine wpAny_Call_NameR (Name_function_global eo.kind hg (loadGlobal_global (by rw [eo.gl]; exact g.ns I) ha ?_) hd)
    refine callW G ao.down eo (keep_fn ho hdd) ok h1 I l fun ws h' tk ρ' I1 g1 hw => ?_
    exact (call_fn G ao g.nolimit fa he I1 hw).mono g1 k
  · rename_i c hc
    obtain ⟨C, hC, ha⟩ := g.cls x c hc
    obtain ⟨_, _, _, _, hkp⟩ := g.cset c C hC
    refine wpAny_Call_NameR (Name_function_global eo.kind hg (loadGlobal_global (by rw [eo.gl]; exact g.ns I) ha ?_) hd)
    refine callW G ao.down eo (keep_cls g.X hkp) ok h1 I l fun ws h' tk ρ' I1 g1 hw => ?_
    exact (mk_ok g G ao hC he I1 hw).mono g1 k
  · cases he

/-- a call of a method, by a name -/
theorem methTree {M : Model} {E : Value → Shared → Prop} {y m : Str} {q apos pos : Pos} {args : List Expr} {Q : Value → Shared → Prop} (hn : args.length < 20) (hl : (apos.endLine == pos.line) = true) (hpl : (backTo pos (starEach args env)).any (·.1) = false)
    (h : wpAny M A (eval (.Name y q) env) (fun ov s₁ => ∀ pl, wpAny M A (getMethod ov m pl) (fun fx s₂ => wpAny M A (callWith pos fx.1 fx.2 (backTo pos (starEach args env)) []) Q E s₂) E s₁) E s) :
    wpAny M A (eval (.Call (.Attribute (.Name y q) m apos) args [] pos) env) Q E s := by
  show wpAny M A (do
    let ov ← eval (.Name y q) env
    standAt apos.atName
    methodCall (.Name y q) m apos pos env ov (args.length + 0) (backTo pos (starEach args env)) []) Q E s
  refine wpAny_bind (wpAny_mono h (fun ov s₁ h₁ => wpAny_bind (wpAny_standAt ?_)) fun _ _ x => x)
  have hfew : methodCallForm (args.length + 0) (backTo pos (starEach args env)) [] = true := by
    unfold methodCallForm
    simp only [Nat.add_zero, List.all_nil, Bool.and_true, List.isEmpty_nil, if_true, Bool.and_eq_true, decide_eq_true_eq]
    refine ⟨?_, by (first | assumption | (apply Nat.le_trans; assumption; exact Nat.le_of_ble_eq_true rfl))⟩
    rw [List.all_eq_true]
    intro x hx
    rw [List.any_eq_false] at hpl
    simpa using hpl x hx
  unfold methodCall
  rw [hfew]
  refine wpAny_bind (wpAny_holding ?_)
  unfold calleeOf
  rw [if_pos rfl]
  refine wpAny_mono (h₁ _) (fun fx s₂ h₂ => ?_) fun _ _ x => x
  unfold methodCallPos
  rw [if_pos (by rw [hl]; rfl)]
  exact wpAny_bind (wpAny_pure h₂)
end
end Mine
end
section
open PySem PySem.W PyProof.Rows PySem.Calls
set_option linter.unusedSectionVars false
namespace Mine
variable [Hid]
section
variable {T : Tbl} {CA : Str → Option Addr} {K : Frag} {mg mb : Str → Option Value} {B : Heap} {prog : Program} {w : World} {A : Around} {n : Nat} {F : Funs} {s : Shared} {ρ τ : Rho} {σ σ' : Sto} {env : Env} {L : Loc} {d : V} {h h0 : Heap}

/-- a list of the store turned -/
theorem turn_list {a : Addr} {k : Nat} {l' : List V} {vs' : List Value} {its : Array Value} {c : Nat} (I : Inv CA B s.heap ρ σ) (hp : ρ[k]? = some (a, a)) (ha : s.heap.get? a = some (listOf its c)) (f : Array Value → Array Value) (hf : f its = vs'.toArray)
    (r : VAll s.heap ρ l' vs') : Inv CA B (s.heap.update a (Obj.mapSeq f)) ρ (σ.set k (.list l')) ∧ Go No s.heap ρ (s.heap.update a (Obj.mapSeq f)) ρ := by
  have U := PySem.IsL.update (n := c) ha f
  exact I.turn (p := (a, a)) hp (Heap.SameBut.update ..) ⟨_, U⟩ fun g => .list ⟨_, by rw [← hf]; exact U⟩ (r.mono Soft.no I g)

theorem list_of_set {vs : List Value} {l : List V} (r : VAll s.heap ρ l vs) : vs.toArray.size = l.length := by rw [List.size_toArray, r.length]

theorem noDict {a : Addr} {its : Array Value} {c : Nat} (ha : h.get? a = some (listOf its c)) : ∀ b, Value.ref a = .ref b → ∃ o, h.get? b = some o ∧ o.dict = none := fun b e => by
  cases e; exact ⟨_, ha, rfl⟩

theorem evs_nil {f : Sto → Expr → Option (V × Sto)} {es : List Expr} (h : evs f σ es = some ([], σ')) : es = [] ∧ σ' = σ := by
  induction es using List.casesOn with
  | nil => exact ⟨rfl, (congrArg Prod.snd (Option.some.inj h)).symm⟩
  | cons e es => exact ((Ok2.bv fun v σ1 _ => Ok2.bvs fun vs σ2 _ => Ok2.ret (fun q => nomatch q) : Ok2 (evs f σ (e :: es)) fun vs _ => vs = [] → False) _ _ h rfl).elim
theorem evs_one {f : Sto → Expr → Option (V × Sto)} {es : List Expr} {v : V} (h : evs f σ es = some ([v], σ')) : ∃ e, es = [e] ∧ f σ e = some (v, σ') := by
  induction es using List.casesOn with
  | nil => exact nomatch h
  | cons e es =>
    refine (Ok2.bv fun u σ1 h1 => Ok2.bvs fun vs σ2 h2 => Ok2.ret (fun q => ?_) : Ok2 (evs f σ (e :: es)) fun vs σ' => vs = [v] → ∃ e', e :: es = [e'] ∧ f σ e' = some (v, σ')) _ _ h rfl
    cases q
    obtain ⟨rfl, rfl⟩ := evs_nil h2
    exact ⟨e, rfl, h1⟩

section
variable {y m : Str} {q apos pos : Pos} {args : List Expr} {k : Nat} {l0 l : List V} {vs : List V} {mm : Nat} {σ1 σ2 : Sto} (G : GoodF T CA B (model prog w) n F) (ao : AOk A n) (eo : EnvOk env)
    (hn : args.length < 20) (hl : (apos.endLine == pos.line) = true) (oky : okE T (mm + 1) env.scope (.Name y q) = true) (ok : args.all (fun e => okE T mm env.scope e && !isStar e) = true)
    (hq0 : F.ev L σ (.Name y q) = some (.obj k, σ1)) (e0 : σ1[k]? = some (.list l0)) (I : Inv CA B s.heap ρ σ) (lc : LocIn B s.heap ρ env L)
include G ao eo hn hl oky ok hq0 e0 I lc
theorem list_enter {Q E : Value → Shared → Prop} (kk : ∀ a us c ha ta ρa, Inv CA B ha ρa σ1 → Go No s.heap ρ ha ρa → VIn ha ρa (.obj k) (.ref a) → ρa[k]? = some (a, a) → ha.get? a = some (listOf us.toArray c) → VAll ha ρa l0 us → LocIn B ha ρa env L →
      ∀ pl, wpAny (model prog w) A (getMethod (.ref a) m pl) (fun fx s₂ => wpAny (model prog w) A (callWith pos fx.1 fx.2 (backTo pos (starEach args env)) []) Q E s₂) E { s with heap := ha, toks := ta }) :
    wpAny (model prog w) A (eval (.Call (.Attribute (.Name y q) m apos) args [] pos) env) Q E s := by
  have hpl : (backTo pos (starEach args env)).any (·.1) = false := backTo_plain (List.all_eq_true.mpr fun e he => an2 (List.all_eq_true.mp ok e he))
  refine methTree hn hl hpl (G.ev A env L σ _ _ _ _ ao eo oky hq0 s ρ I lc _ _ fun ov ha ta ρa Ia ga va => fun pl => ?_)
  obtain ⟨a, us, c, e, hpa, hxa, ra⟩ := Ia.list (s := { s with heap := ha, toks := ta }) e0 va
  rw [e] at va ⊢
  exact kk a us c ha ta ρa Ia ga va hpa hxa ra (lc.mono I ga) pl

theorem append_ok {v : V} (h1 : evs (F.ev L) σ1 args = some ([v], σ2)) (e1 : σ2[k]? = some (.list l)) (hsz : l.length < most) : EvOk CA B (model prog w) A (eval (.Call (.Attribute (.Name y q) "append" apos) args [] pos) env) s ρ .none (σ2.set k (.list (l ++ [v]))) := by
  intro Q E kk
  refine list_enter G ao eo hn hl oky ok hq0 e0 I lc fun a us c ha ta ρa Ia ga va hpa hxa ra lc1 pl => ?_
  refine getMethod_builtin ⟨_, hxa, rfl⟩ PySem.F.plainAttrs_list PySem.F.slot_list_append PySem.F.type_list_append (noDict hxa) ?_
  refine callW (m := mm) G ao eo (keep_builtin _) ok h1 Ia lc1 fun ws hb tb ρb Ib gb wb => ?_
  cases wb with
  | @cons _ wv _ _ w1 w2 =>
    cases w2
    obtain ⟨a', us', c', e', hpb, hxb, rb⟩ := Ib.list (s := { s with heap := hb, toks := tb }) e1 (va.mono Soft.no Ia gb)
    rw [← Value.ref.inj e'] at hpb hxb
    refine wpAny_list_append_plain ⟨c', hxb⟩ (fun hc pc sc => ?_) (by rw [list_of_set rb]; exact most_lt (Nat.le_of_lt hsz))
    have T := Ib.turn (p := (a, a)) (ob := .list (l ++ [v])) hpb sc (by obtain ⟨z, e⟩ := pc; exact ⟨_, e⟩) fun g => by
      rw [show us'.toArray.push wv = (us' ++ [wv]).toArray by simp] at pc
      exact .list pc ((rb.append (.cons w1 .nil)).mono Soft.no Ib g)
    exact kk _ hc tb ρb T.1 ((ga.trans gb).trans T.2) .none

theorem extend_ok {j : Nat} {r : List V} (h1 : evs (F.ev L) σ1 args = some ([.obj j], σ2)) (e1 : σ2[k]? = some (.list l)) (er : σ2[j]? = some (.list r)) (hsz : l.length + r.length ≤ most) : EvOk CA B (model prog w) A (eval (.Call (.Attribute (.Name y q) "extend" apos) args [] pos) env) s ρ .none (σ2.set k (.list (l ++ r))) := by
  intro Q E kk
  refine list_enter G ao eo hn hl oky ok hq0 e0 I lc fun a us c ha ta ρa Ia ga va hpa hxa ra lc1 pl => ?_
  unfold most at hsz
  refine getMethod_builtin ⟨_, hxa, rfl⟩ PySem.F.plainAttrs_list PySem.F.slot_list_extend PySem.F.type_list_extend (noDict hxa) ?_
  obtain ⟨e, rfl, h1'⟩ := evs_one h1
  have ok1 : (okE T mm env.scope e && !isStar e) = true := an1 ok
  rw [starEach_cons (nt (an2 ok1)), backTo_cons]
  refine PySem.P.extend_list (G.ev A env L σ1 e _ _ mm ao eo (an1 ok1) h1' { s with heap := ha, toks := ta } ρa Ia lc1 _ _ fun v hb tb ρb Ib gb vb => ?_)
  obtain ⟨a', us', c', e', hpb, hxb, rb⟩ := Ib.list (s := { s with heap := hb, toks := tb }) e1 (va.mono Soft.no Ia gb)
  rw [← Value.ref.inj e'] at hpb hxb
  obtain ⟨b, us2, c2, rfl, hpb2, hxb2, rb2⟩ := Ib.list (s := { s with heap := hb, toks := tb }) er vb
  have hs1 : us'.toArray.size + us2.toArray.size ≤ sizeLine := by rw [list_of_set (s := { s with heap := hb, toks := tb }) rb, list_of_set (s := { s with heap := hb, toks := tb }) rb2, sizeLine_val]; (first | assumption | (apply Nat.le_trans; assumption; exact Nat.le_of_ble_eq_true rfl))
  have hT2 := turn_list (s := { s with heap := hb, toks := tb }) (l' := l ++ r) (vs' := us' ++ us2) Ib hpb hxb (fun xs => xs ++ us2.toArray) (by simp) (rb.append rb2)
  refine ⟨b, us'.toArray, us2.toArray, c', c2, by omega, by (first | assumption | (apply Nat.le_trans; assumption; exact Nat.le_of_ble_eq_true rfl)), ?_, rfl, hxb, hxb2, kk _ _ tb ρb hT2.1 ((ga.trans gb).trans hT2.2) .none⟩
  intro q
  simp only [Bool.and_eq_true, Builtin.List.listTooLong, decide_eq_true_eq] at q
  omega

theorem pop_ok (h1 : evs (F.ev L) σ1 args = some ([], σ2)) (e1 : σ2[k]? = some (.list l)) (hv : l.getLast? = some d) (hsz : l.length ≤ most) : EvOk CA B (model prog w) A (eval (.Call (.Attribute (.Name y q) "pop" apos) args [] pos) env) s ρ d (σ2.set k (.list l.dropLast)) := by
  intro Q E kk
  refine list_enter G ao eo hn hl oky ok hq0 e0 I lc fun a us c ha ta ρa Ia ga va hpa hxa ra lc1 pl => ?_
  obtain ⟨rfl, rfl⟩ := evs_nil h1
  rw [e0] at e1
  rw [← Ob.list.inj (Option.some.inj e1)] at hv hsz kk
  refine getMethod_builtin ⟨_, hxa, rfl⟩ PySem.F.plainAttrs_list PySem.F.slot_list_pop PySem.F.type_list_pop (noDict hxa) ?_
  have hg : l0[l0.length - 1]? = some d := by rw [← hv, List.getLast?_eq_getElem?]
  obtain ⟨u, hu, hV⟩ := ra.get hg
  have z1 := list_of_set (s := { s with heap := ha, toks := ta }) ra
  have hT2 := turn_list (s := { s with heap := ha, toks := ta }) (l' := l0.dropLast) (vs' := us.dropLast) Ia hpa hxa (fun xs => xs.eraseIdxIfInBounds (us.toArray.size - 1)) (by
    rw [List.eraseIdxIfInBounds_toArray, List.size_toArray]
    congr 1
    have hpos : us.length - 1 < us.length := by rw [ra.length]; exact (List.getElem?_eq_some_iff.mp hg).1
    rw [List.eraseIdx_eq_dropLast (by omega)]) ra.dropLast
  refine PySem.P.pop_list (y := u) hxa (by rw [z1]; simpa using hu) ?_ (by rw [z1]; exact most_lt hsz)
  exact kk _ _ ta ρa hT2.1 (ga.trans hT2.2) (hV.mono Soft.no Ia hT2.2)

theorem list_meth2 (h1 : evs (F.ev L) σ1 args = some (vs, σ2)) (e1 : σ2[k]? = some (.list l)) : Ok2 (listM m k l vs σ2) fun d σ' => EvOk CA B (model prog w) A (eval (.Call (.Attribute (.Name y q) m apos) args [] pos) env) s ρ d σ' := by
  refine Ok2.dite (fun hm => Ok2.one fun v hv => Ok2.ite fun hsz => Ok2.ret ?_) fun _ => Ok2.dite (fun hm => Ok2.oneObj fun j hv => Ok2.list fun r er => Ok2.ite fun hc => Ok2.ret ?_) fun _ => Ok2.dite (fun hm => Ok2.zero fun hv => Ok2.bV fun v hg => Ok2.ite fun hc => Ok2.ret ?_) fun _ => Ok2.no
  · rw [hm]; exact append_ok G ao eo hn hl oky ok hq0 e0 I lc (hv ▸ h1) e1 (of_decide_eq_true hsz)
  · rw [hm]; exact extend_ok G ao eo hn hl oky ok hq0 e0 I lc (hv ▸ h1) e1 er (of_decide_eq_true (an2 hc))
  · rw [hm]; exact pop_ok G ao eo hn hl oky ok hq0 e0 I lc (hv ▸ h1) e1 hg (of_decide_eq_true (an2 hc))
end
theorem list_meth {y m : Str} {q apos pos : Pos} {args : List Expr} {k : Nat} {l0 l : List V} {vs : List V} {mm : Nat} {σ1 σ2 : Sto} (G : GoodF T CA B (model prog w) n F) (ao : AOk A n) (eo : EnvOk env)
    (hn : args.length < 20) (hl : (apos.endLine == pos.line) = true) (oky : okE T (mm + 1) env.scope (.Name y q) = true) (ok : args.all (fun e => okE T mm env.scope e && !isStar e) = true)
    (h0 : F.ev L σ (.Name y q) = some (.obj k, σ1)) (h1 : evs (F.ev L) σ1 args = some (vs, σ2)) (e0 : σ1[k]? = some (.list l0)) (e1 : σ2[k]? = some (.list l)) (he : listM m k l vs σ2 = some (d, σ'))
    (I : Inv CA B s.heap ρ σ) (lc : LocIn B s.heap ρ env L) : EvOk CA B (model prog w) A (eval (.Call (.Attribute (.Name y q) m apos) args [] pos) env) s ρ d σ' := list_meth2 G ao eo hn hl oky ok h0 e0 I lc h1 e1 d σ' he
end
end Mine
end
section
open PySem PySem.W PyProof.Rows PySem.Calls
set_option linter.unusedSectionVars false
namespace Mine
variable [Hid]
section
variable {T : Tbl} {CA : Str → Option Addr} {K : Frag} {mg mb : Str → Option Value} {B : Heap} {prog : Program} {w : World} {A : Around} {n : Nat} {F : Funs} {s : Shared} {ρ τ : Rho} {σ σ' : Sto} {env : Env} {L : Loc} {d : V} {h h0 : Heap}

theorem FsIn.lookNone {h : Heap} {a : Str} {fs : List (Str × V)} {es : List DictEntry} (H : FsIn h ρ fs es) : fs.lookup a = none → getL a es = some none := by
  induction H with
  | nil => intro _; rfl
  | @cons x d' fs e es hkk hV r ih0 =>
    intro hl
    obtain ⟨t, hk⟩ := hkk
    have hx : e.key.isStr a = (x == a) := by rw [hk]; rfl
    rw [List.lookup_cons] at hl
    by_cases q : x = a
    · subst q
      simp only [beq_self_eq_true] at hl
      exact nomatch hl
    · have q1 : (x == a) = false := by simpa using q
      have q2 : (a == x) = false := by simpa using (Ne.symm q)
      rw [q2] at hl
      have ih := ih0 hl
      unfold getL at ih ⊢
      rw [List.find?_cons, hx, q1]
      dsimp only
      cases hf : es.find? (fun x => x.key.isStr a) with
      | some e' => rw [hf] at ih; exact nomatch ih
      | none =>
        rw [hf] at ih
        dsimp only at ih ⊢
        have hr : e.refKey = false := by unfold DictEntry.refKey; rw [hk]
        rw [List.any_cons, hr]
        exact ih

theorem inst_meth {y m : Str} {q apos pos : Pos} {args : List Expr} {k : Nat} {c : Str} {fs : List (Str × V)} {df : DefRec} {vs : List V} {mm : Nat} {σ1 σ2 : Sto} (g : Gnd T CA K mg mb B) (G : GoodF T CA B (model prog w) n F) (ao : AOk A (n + 1)) (eo : EnvOk env)
    (hn : args.length < 20) (hl : (apos.endLine == pos.line) = true) (oky : okE T (mm + 1) env.scope (.Name y q) = true) (ok : args.all (fun e => okE T mm env.scope e && !isStar e) = true)
    (h0 : F.ev L σ (.Name y q) = some (.obj k, σ1)) (h1 : evs (F.ev L) σ1 args = some (vs, σ2)) (e0 : σ1[k]? = some (.inst c fs)) (hfs : fs.lookup m = none) (hm : m ≠ Str.ofString "__init__") (hd : T.meth c m = some df) (he : callD F df (.obj k :: vs) σ2 = some (d, σ'))
    (I : Inv CA B s.heap ρ σ) (lc : LocIn B s.heap ρ env L) : EvOk CA B (model prog w) A (eval (.Call (.Attribute (.Name y q) m apos) args [] pos) env) s ρ d σ' := by
  have hpl : (backTo pos (starEach args env)).any (·.1) = false := backTo_plain (by
    rw [List.all_eq_true] at ok ⊢
    intro e he
    have := ok e he
    rw [Bool.and_eq_true] at this
    exact this.2)
  intro Q E kk
  refine methTree hn hl hpl (G.ev A env L σ _ _ _ _ ao.down eo oky h0 s ρ I lc _ _ fun ov ha ta ρa Ia ga va => fun pl => ?_)
  obtain ⟨x, dx, C, es, j, rfl, hpx, hc, hx, hdx, hfi⟩ := Ia.inst (s := { s with heap := ha, toks := ta }) e0 va
  obtain ⟨f, m1, m2, m3, fa⟩ := g.meth c C m df hd hc hm
  obtain ⟨o, fd, ho, hdd, _⟩ := fa.at_
  have It : InstAt ha x (instObj C dx) C (some (dictOf es j)) := ⟨hx, rfl, rfl, hdx⟩
  refine method_fn (g.X.keeps Ia.keep) It (plainGet_of m3).1 (plainGet_of m3).2 m1 (beq_iff_eq.mp m2) (by show (lookIn m (dictOf es j)).map _ = _; rw [lookIn_dict, hfi.lookNone hfs]; rfl) ?_
  refine callW (m := mm) G ao.down eo (keep_fn ho hdd) ok h1 Ia (lc.mono I ga) fun ws hb tb ρb Ib gb wb => ?_
  exact (call_fn G ao g.nolimit fa he Ib (.cons (va.mono Soft.no Ia gb) wb)).mono (ga.trans gb) kk

theorem methC_ok {y m : Str} {q apos pos : Pos} {args : List Expr} {mm : Nat} {ov : V} {σ1 : Sto} (g : Gnd T CA K mg mb B) (G : GoodF T CA B (model prog w) n F) (ao : AOk A (n + 1)) (eo : EnvOk env)
    (hn : args.length < 20) (hl : (apos.endLine == pos.line) = true) (oky : okE T (mm + 1) env.scope (.Name y q) = true) (ok : args.all (fun e => okE T mm env.scope e && !isStar e) = true)
    (h0 : F.ev L σ (.Name y q) = some (ov, σ1)) (he : methC T F m ov σ1 (evs (F.ev L) σ1 args) = some (d, σ'))
    (I : Inv CA B s.heap ρ σ) (lc : LocIn B s.heap ρ env L) : EvOk CA B (model prog w) A (eval (.Call (.Attribute (.Name y q) m apos) args [] pos) env) s ρ d σ' := by
  unfold methC at he
  split at he
  · rename_i k
    split at he
    · rename_i l0 e0
      split at he
      · rename_i vs σ2 h1
        split at he
        · rename_i l e1
          exact list_meth G ao.down eo hn hl oky ok h0 h1 e0 e1 he I lc
        · cases he
      · cases he
    · rename_i c fs e0
      split at he
      · cases he
      · rename_i hfs
        split at he
        · cases he
        · rename_i hm
          split at he
          · rename_i df hd
            split at he
            · rename_i vs σ2 h1
              exact inst_meth g G ao eo hn hl oky ok h0 h1 e0 hfs hm hd he I lc
            · cases he
          · cases he
    · cases he
  · cases he
end
end Mine
end
section
open PySem PySem.W PyProof.Rows PySem.Calls
set_option linter.unusedSectionVars false
namespace Mine
variable [Hid]
section
variable {T : Tbl} {CA : Str → Option Addr} {K : Frag} {mg mb : Str → Option Value} {B : Heap} {prog : Program} {w : World} {A : Around} {n : Nat} {F : Funs} {s : Shared} {ρ τ : Rho} {σ σ' : Sto} {env : Env} {L : Loc} {d : V} {h h' h0 : Heap} {P Y : Addr → Prop}

/-- what no value looks at: frames, cells, iterators, a zip's own tuple -/
noncomputable def Aside (P : Addr → Prop) (h : Heap) (b : Addr) : Prop := ∃ o, h.get? b = some o ∧ ((∃ es n, o.data = .dict es n) ∨ (∃ v, o.data = .cell v) ∨ ((∃ fs, o.data = .fields fs) ∧ o.cls ≠ .type "range") ∨ (P b ∧ o.cls = .type "tuple" ∧ ∃ its n, o.data = .seq its n))

/-- only what Y names has changed -/
structure But (P Y : Addr → Prop) (B : Heap) (h : Heap) (ρ : Rho) (h' : Heap) : Prop where
  ext : ∀ b o, h.get? b = some o → ¬ Y b → h'.get? b = some o
  aside : ∀ b, Y b → Aside P h b
  nb : ∀ b, Y b → B.get? b = none
  off : ∀ b, Y b → ∀ p ∈ ρ, b ≠ p.2

theorem But.tup (g : But P Y B h ρ h') {a : Addr} {vs : Array Value} (x : IsTup h a vs) (hh : ¬ P a) : IsTup h' a vs := by
  obtain ⟨o, e, hc, n, hd⟩ := x
  refine ⟨o, g.ext a o e fun hY => ?_, hc, n, hd⟩
  obtain ⟨o', e', q⟩ := g.aside a hY
  rw [e] at e'; cases e'
  rw [hd] at q
  rcases q with ⟨_, _, q⟩ | ⟨_, q⟩ | ⟨⟨_, q⟩, _⟩ | ⟨q, _⟩
  · cases q
  · cases q
  · cases q
  · exact hh q
theorem But.obj (g : But P Y B h ρ h') {a : Addr} {o : Obj} (e : h.get? a = some o) (hd : o.data = .plain) : h'.get? a = some o := by
  refine g.ext a o e fun hY => ?_
  obtain ⟨o', e', q⟩ := g.aside a hY
  rw [e] at e'; cases e'
  rw [hd] at q
  rcases q with ⟨_, _, q⟩ | ⟨_, q⟩ | ⟨⟨_, q⟩, _⟩ | ⟨_, _, _, _, q⟩ <;> cases q
theorem But.range (g : But P Y B h ρ h') {r : Addr} {a b c : Int} {t u v : Tok} (x : IsRange h r a b c t u v) : IsRange h' r a b c t u v := by
  refine g.ext r _ x fun hY => ?_
  obtain ⟨o', e', q⟩ := g.aside r hY
  rw [show h.get? r = _ from x] at e'; cases e'
  rcases q with ⟨_, _, q⟩ | ⟨_, q⟩ | ⟨_, q⟩ | ⟨_, q, _⟩
  · cases q
  · cases q
  · exact q rfl
  · simp at q

section
variable {H1 H2 : Hid} (p1 : ∀ a, P a → H1.H a) (p2 : ∀ a, H2.H a → H1.H a)
include p1 p2
theorem VIn.but (g : But P Y B h ρ h') {d : V} {v : Value} (x : @VIn H1 h ρ d v) : @VIn H2 h' ρ d v :=
  VIn.map tt1 tt2 (fun _ _ => trivial) (fun _ _ _ => ⟨trivial, trivial⟩) (fun _ _ t hh => ⟨g.tup t fun q => hh (p1 _ q), fun q => hh (p2 _ q)⟩) (fun _ _ _ e => e) (fun _ _ _ _ _ _ r => g.range r) x trivial
theorem VAll.but (g : But P Y B h ρ h') {l : List V} {vs : List Value} (x : @VAll H1 h ρ l vs) : @VAll H2 h' ρ l vs :=
  VAll.map tt1 tt2 (fun _ _ => trivial) (fun _ _ _ => ⟨trivial, trivial⟩) (fun _ _ t hh => ⟨g.tup t fun q => hh (p1 _ q), fun q => hh (p2 _ q)⟩) (fun _ _ _ e => e) (fun _ _ _ _ _ _ r => g.range r) x trivial
theorem FsIn.but (g : But P Y B h ρ h') {fs : List (Str × V)} {es : List DictEntry} (H : @FsIn H1 h ρ fs es) : @FsIn H2 h' ρ fs es := by
  induction H with
  | nil => exact @FsIn.nil H2 _ _
  | cons a b c ih => exact @FsIn.cons H2 _ _ _ _ _ _ _ a (VIn.but p1 p2 g b) ih

theorem Inv.but (I : @Inv H1 CA B h ρ σ) (g : But P Y B h ρ h') (hid : ∀ a, H2.H a → ∃ o, h'.get? a = some o ∧ o.cls = .type "tuple" ∧ ∃ its n, o.data = .seq its n) : @Inv H2 CA B h' ρ σ := by
  obtain ⟨Ikeep, Ilen, Iobs, Ind, Ifr, Ihid⟩ := I
  refine @Inv.mk H2 CA B h' ρ σ (fun b o e => g.ext b o (Ikeep b o e) fun hY => by rw [g.nb b hY] at e; exact nomatch e) Ilen (fun i ob p e f => ?_) Ind Ifr fun a ha => ⟨(Ihid a (p2 a ha)).1, hid a ha⟩
  have hm := List.mem_of_getElem? f
  have hp : ∀ o, h.get? p.2 = some o → h'.get? p.2 = some o := fun o q => g.ext _ o q fun hY => g.off _ hY p hm rfl
  have := Iobs i ob p e f
  induction this using ObIn.casesOn with
  | list pl r => exact @ObIn.list H2 _ _ _ _ _ _ (PlainList.keep pl hp) (VAll.but p1 p2 g r)
  | inst hc hx hd hf => exact @ObIn.inst H2 _ _ _ _ _ _ _ _ _ _ hc (g.obj hx rfl) (hp _ hd) (FsIn.but p1 p2 g hf)

/-- what is aside but neither frame nor cell -/
theorem LocIn.but (l : @LocIn H1 B h ρ env L) (g : But P Y B h ρ h') (hy : ∀ b, Y b → ∀ o, h.get? b = some o → (∀ es n, o.data ≠ .dict es n) ∧ ∀ v, o.data ≠ .cell v) : @LocIn H2 B h' ρ env L := by
  have hns : ∀ m, h.Ns env.locals m → h'.Ns env.locals m := fun m ⟨o, es, ep, e, hd, r⟩ => ⟨o, es, ep, g.ext _ _ e fun hY => (hy _ hY _ e).1 _ _ hd, hd, r⟩
  have hcl : ∀ c v, h.IsCell c v → h'.IsCell c v := fun c v ⟨o, e, hd⟩ => ⟨o, g.ext _ _ e fun hY => (hy _ hY _ e).2 _ hd, hd⟩
  obtain ⟨lns, loff, lrd, lcell, lcells, lapart, lnb⟩ := l
  refine @LocIn.mk H2 B h' ρ env L (lns.elim fun m hm => ⟨m, hns m hm⟩) loff (fun x d hx hv => ?_) lcell (fun x c hx => (lcells x c hx).elim fun v hv => ⟨v, hcl c _ hv⟩) lapart lnb
  obtain ⟨v, hV, q⟩ := lrd x d hx hv
  refine ⟨v, VIn.but p1 p2 g hV, ?_⟩
  rcases q with ⟨k, m, hm, e⟩ | ⟨k, c, hc, e⟩
  · exact .inl ⟨k, m, hns m hm, e⟩
  · exact .inr ⟨k, c, hc, hcl c _ e⟩
end

theorem But.go (g : But P Y B h ρ h') (live : ∀ b o, h.get? b = some o → ∃ o', h'.get? b = some o') {X : Addr → Prop} (hX : ∀ b o, h.get? b = some o → Y b → X b) : Go X h ρ h' ρ :=
  ⟨fun b o e _ q => g.ext b o e fun hY => q (hX b o e hY), live, [], (List.append_nil _).symm, fun _ hp => nomatch hp⟩

theorem LocIn.XB (l : LocIn B h ρ env L) (I : Inv CA B h ρ σ) : ∀ b, XOf env b → Aside Hid.H h b ∧ B.get? b = none ∧ ∀ p ∈ ρ, b ≠ p.2 := fun b hb => by
  refine ⟨?_, l.nb b hb, ?_⟩
  · rcases hb with rfl | ⟨x, hx⟩
    · obtain ⟨m, o, es, ep, e, hd, _⟩ := l.ns
      exact ⟨o, e, .inl ⟨_, _, hd⟩⟩
    · obtain ⟨v, o, e, hd⟩ := l.cells x b hx
      exact ⟨o, e, .inr (.inl ⟨_, hd⟩)⟩
  · rcases hb with rfl | ⟨x, hx⟩
    · exact fun p hp => l.off p hp
    · obtain ⟨v, o, e, hd⟩ := l.cells x b hx
      exact I.offD e (by rw [hd]; simp) (by rw [hd]; simp)

/-- a name is bound -/
theorem store_ok {x : Str} {v : Value} {Q : Unit → Shared → Prop} {E : Value → Shared → Prop} (eo : EnvOk env) (hk : env.kindOf x = some .local ∨ env.kindOf x = some .cell) (I : Inv CA B s.heap ρ σ) (l : LocIn B s.heap ρ env L) (hv : VIn s.heap ρ d v)
    (k : ∀ h' tk, Inv CA B h' ρ σ → Go (XOf env) s.heap ρ h' ρ → LocIn B h' ρ env (upd L x d) → (env.kindOf x = some .local → Go (fun b => b = env.locals) s.heap ρ h' ρ) → (∀ b o, s.heap.get? b = some o → ¬ XOf env b → h'.get? b = some o) → Q () { s with heap := h', toks := tk }) : wpAny (model prog w) A (storeName env x v) Q E s := by
  rcases hk with hk | hk
  · obtain ⟨m, hm⟩ := l.ns
    refine wpAny_storeName_local hk hm (fun h' hn hs => ?_) (by rw [eo.kind]; rfl)
    have hl : ∃ o, h'.get? env.locals = some o := by obtain ⟨o, _, _, e, _⟩ := hn; exact ⟨o, e⟩
    have live : ∀ b o, s.heap.get? b = some o → ∃ o', h'.get? b = some o' := fun b o e => by
      by_cases hb : b = env.locals
      · rw [hb]; exact hl
      · exact ⟨o, (hs.2 b hb).trans e⟩
    have g : But Hid.H (fun b => b = env.locals) B s.heap ρ h' := by
      refine ⟨fun b o e hb => (hs.2 b hb).trans e, ?_, ?_, ?_⟩
      · rintro b rfl; exact (l.XB I _ (.inl rfl)).1
      · rintro b rfl; exact (l.XB I _ (.inl rfl)).2.1
      · rintro b rfl; exact (l.XB I _ (.inl rfl)).2.2
    have hcl : ∀ c v, s.heap.IsCell c v → h'.IsCell c v := fun c v ⟨o, e, hd⟩ => ⟨o, (hs.2 c fun q => by
      obtain ⟨o', _, _, e', hd', _⟩ := hm
      rw [q, e'] at e; cases e; rw [hd'] at hd; cases hd).trans e, hd⟩
    refine k h' _ (Inv.but (fun _ q => q) (fun _ q => q) I g fun a ha => ?hid) (g.go live fun b _ _ hb => .inl hb) ⟨⟨_, hn⟩, l.off, fun z dz hz hkz => ?_, l.cell, fun y c hc => (l.cells y c hc).elim fun v hv => ⟨v, hcl c _ hv⟩, l.apart, l.nb⟩ (fun _ => g.go live fun _ _ _ hb => hb) fun b o e hb => (hs.2 b fun q => hb (.inl q)).trans e
    case hid =>
      obtain ⟨o, e, hc, its, n, hd⟩ := (I.hid a ha).2
      refine ⟨o, (hs.2 a fun q => ?_).trans e, hc, its, n, hd⟩
      obtain ⟨o', _, _, e', hd', _⟩ := hm
      rw [q, e'] at e; cases e; rw [hd'] at hd; cases hd
    unfold upd at hz
    split at hz
    · rename_i hzx
      subst hzx
      cases hz
      exact ⟨v, VIn.but (fun _ q => q) (fun _ q => q) g hv, .inl ⟨hk, _, hn, if_pos rfl⟩⟩
    · rename_i hzx
      obtain ⟨u, hU, q⟩ := l.rd z dz hz hkz
      refine ⟨u, VIn.but (fun _ q => q) (fun _ q => q) g hU, ?_⟩
      rcases q with ⟨k1, m1, hm1, e1⟩ | ⟨k1, c, hc, e1⟩
      · refine .inl ⟨k1, _, hn, ?_⟩
        rw [if_neg hzx]
        obtain ⟨o, es, ep, e, hd, _, hf⟩ := hm
        obtain ⟨o', es', ep', e', hd', _, hf'⟩ := hm1
        rw [e] at e'; cases e'
        rw [hd] at hd'; cases hd'
        rw [← hf, hf']; exact e1
      · exact .inr ⟨k1, c, hc, hcl c _ e1⟩
  · obtain ⟨c, hc⟩ := l.cell x hk
    obtain ⟨v0, hv0⟩ := l.cells x c hc
    refine wpAny_storeName_cell eo.kind hk hc hv0 fun h' hn hs => ?_
    have hl : ∃ o, h'.get? c = some o := by obtain ⟨o, e, _⟩ := hn; exact ⟨o, e⟩
    have live : ∀ b o, s.heap.get? b = some o → ∃ o', h'.get? b = some o' := fun b o e => by
      by_cases hb : b = c
      · rw [hb]; exact hl
      · exact ⟨o, (hs.2 b hb).trans e⟩
    have g : But Hid.H (fun b => b = c) B s.heap ρ h' := by
      refine ⟨fun b o e hb => (hs.2 b hb).trans e, ?_, ?_, ?_⟩
      · rintro b rfl; exact (l.XB I _ (.inr ⟨x, hc⟩)).1
      · rintro b rfl; exact (l.XB I _ (.inr ⟨x, hc⟩)).2.1
      · rintro b rfl; exact (l.XB I _ (.inr ⟨x, hc⟩)).2.2
    have hns : ∀ m, s.heap.Ns env.locals m → h'.Ns env.locals m := fun m ⟨o, es, ep, e, hd, r⟩ => ⟨o, es, ep, (hs.2 _ fun q => by
      obtain ⟨o', e', hd'⟩ := hv0
      rw [q, e'] at e; cases e; rw [hd] at hd'; cases hd').trans e, hd, r⟩
    have hcl : ∀ c' v, c' ≠ c → s.heap.IsCell c' v → h'.IsCell c' v := fun c' v hne ⟨o, e, hd⟩ => ⟨o, (hs.2 c' hne).trans e, hd⟩
    refine k h' s.toks (Inv.but (fun _ q => q) (fun _ q => q) I g fun a ha => ?hid) (g.go live fun b _ _ hb => .inr ⟨x, by rw [hb]; exact hc⟩) ⟨l.ns.elim fun m hm => ⟨m, hns m hm⟩, l.off, fun z dz hz hkz => ?_, l.cell, fun y c' hc' => ?_, l.apart, l.nb⟩ (fun q => by rw [hk] at q; exact nomatch q) fun b o e hb => (hs.2 b fun q => hb (.inr ⟨x, by rw [q]; exact hc⟩)).trans e
    case hid =>
      obtain ⟨o, e, hc', its, n, hd⟩ := (I.hid a ha).2
      refine ⟨o, (hs.2 a fun q => ?_).trans e, hc', its, n, hd⟩
      obtain ⟨o', e', hd'⟩ := hv0
      rw [q, e'] at e; cases e; rw [hd'] at hd; cases hd
    · unfold upd at hz
      split at hz
      · rename_i hzx
        subst hzx
        cases hz
        exact ⟨v, VIn.but (fun _ q => q) (fun _ q => q) g hv, .inr ⟨.inl hk, c, hc, hn⟩⟩
      · rename_i hzx
        obtain ⟨u, hU, q⟩ := l.rd z dz hz hkz
        refine ⟨u, VIn.but (fun _ q => q) (fun _ q => q) g hU, ?_⟩
        rcases q with ⟨k1, m1, hm1, e1⟩ | ⟨k1, c', hc', e1⟩
        · exact .inl ⟨k1, m1, hns m1 hm1, e1⟩
        · exact .inr ⟨k1, c', hc', hcl c' _ (fun q => hzx (l.apart z x c (q ▸ hc') hc)) e1⟩
    · by_cases hcc : c' = c
      · rw [hcc]; exact ⟨_, hn⟩
      · exact (l.cells y c' hc').elim fun v hv => ⟨v, hcl c' _ hcc hv⟩
end
end Mine
end
section
open PySem PySem.W PyProof.Rows PySem.Calls
set_option linter.unusedSectionVars false
namespace Mine
variable [Hid]
section
variable {T : Tbl} {CA : Str → Option Addr} {K : Frag} {mg mb : Str → Option Value} {B : Heap} {prog : Program} {w : World} {A : Around} {n : Nat} {F : Funs} {s : Shared} {ρ τ : Rho} {σ σ' : Sto} {env : Env} {L L' : Loc} {d : V} {h h' h0 : Heap} {Y : Addr → Prop}

noncomputable def okNm (sc : Scope) : Expr → Bool
  | .Name x _ => sc.names.lookup x == some .local || sc.names.lookup x == some .cell
  | _ => false

theorem okNm_kind {x : Str} {q : Pos} (h : okNm env.scope (.Name x q) = true) : env.kindOf x = some .local ∨ env.kindOf x = some .cell := by
  unfold okNm at h
  rcases Bool.or_eq_true_iff.mp h with q | q
  · exact .inl (beq_iff_eq.mp q)
  · exact .inr (beq_iff_eq.mp q)

theorem inorder_ok (eo : EnvOk env) {E : Value → Shared → Prop} : ∀ {es : List Expr} {xs : List Str} {ds : List V} {vs : List Value} {L : Loc} {s : Shared} {Q : Unit → Shared → Prop}, es.all (okNm env.scope) = true → names? es = some xs → xs.length = ds.length → Inv CA B s.heap ρ σ → LocIn B s.heap ρ env L → VAll s.heap ρ ds vs →
    (∀ h' tk, Inv CA B h' ρ σ → Go (XOf env) s.heap ρ h' ρ → LocIn B h' ρ env (updL L xs ds) → ((∀ x ∈ xs, env.kindOf x = some .local) → Go (fun b => b = env.locals) s.heap ρ h' ρ) → Q () { s with heap := h', toks := tk }) → wpAny (model prog w) A (assignInOrder ((assignEach es env).map (·.2)) vs) Q E s
  | [], xs, ds, vs, L, s, Q, _, hn, hl, I, l, hv, k => by
    cases hn
    induction ds using List.casesOn with
    | cons => cases hl
    | nil => exact wpAny_pure (k s.heap s.toks I Go.refl l fun _ => Go.refl)
  | e :: es, xs, ds, vs, L, s, Q, ok, hn, hl, I, l, hv, k => by
    simp only [List.all_cons, Bool.and_eq_true] at ok
    cases e with
    | Name x q =>
      unfold names? at hn
      obtain ⟨ys, hys, e⟩ := Option.map_eq_some_iff.mp hn
      subst e
      induction ds using List.casesOn with
      | nil => cases hl
      | cons d ds =>
        cases hv with
        | @cons _ v _ vs hv hvs =>
          show wpAny _ _ (do holding vs (assign (.Name x q) env v); assignInOrder ((assignEach es env).map (·.2)) vs) Q E s
          refine wpAny_bind (wpAny_holding (wpAny_assign_Name (store_ok eo (okNm_kind ok.1) I l hv fun h1 t1 I1 g1 l1 q1 _ => ?_)))
          exact inorder_ok eo ok.2 hys (by simpa using hl) I1 l1 (hvs.mono l.soft I g1) fun h2 t2 I2 g2 l2 q2 => k h2 t2 I2 (g1.trans g2) l2 fun hx => (q1 (hx x (.head _))).trans (q2 fun y hy => hx y (.tail _ hy))
    | _ => cases ok.1

theorem assignEach_len {xs : List Str} : ∀ {es : List Expr}, es.all (okNm env.scope) = true → names? es = some xs → (assignEach es env).length = xs.length ∧ (assignEach es env).findIdx? (·.1) = none := by
  induction xs with
  | nil =>
    intro es ok hn
    cases es with
    | nil => exact ⟨rfl, rfl⟩
    | cons e es =>
      cases e with
      | Name x q => unfold names? at hn; obtain ⟨ys, hys, e⟩ := Option.map_eq_some_iff.mp hn; cases e
      | _ => cases hn
  | cons x xs ih =>
    intro es ok hn
    cases es with
    | nil => cases hn
    | cons e es =>
      simp only [List.all_cons, Bool.and_eq_true] at ok
      cases e with
      | Name y q =>
        unfold names? at hn
        obtain ⟨ys, hys, e⟩ := Option.map_eq_some_iff.mp hn
        obtain ⟨rfl, rfl⟩ := List.cons.inj e
        obtain ⟨a, b⟩ := ih ok.2 hys
        have e : assignEach (.Name y q :: es) env = (false, assign (.Name y q) env) :: assignEach es env := rfl
        rw [e]
        refine ⟨by rw [List.length_cons, a]; rfl, ?_⟩
        rw [List.findIdx?_cons]
        simp [b]
      | _ => cases ok.1

theorem okTarget_tuple {es : List Expr} {k : Nat} {q : Pos} (h : okTarget env.scope (.Tuple es k q) = true) : es.all (okNm env.scope) = true := by
  unfold okTarget at h
  rw [List.all_eq_true] at h ⊢
  intro e he
  have := h e he
  cases e <;> first | exact this | cases this

theorem names_t {k : Nat} {q : Pos} : ∀ {es : List Expr} {xs : List Str}, names? es = some xs → tNames (.Tuple es k q) = xs
  | [], xs, h => by cases h; rfl
  | e :: es, xs, h => by
    cases e with
    | Name x q' =>
      unfold names? at h
      obtain ⟨ys, hys, e⟩ := Option.map_eq_some_iff.mp h
      subst e
      have := names_t (k := k) (q := q) hys
      simp only [tNames, List.filterMap_cons] at this ⊢
      rw [this]
    | _ => cases h

/-- a target is bound -/
theorem asg_ok {t : Expr} {v : Value} {Q : Unit → Shared → Prop} {E : Value → Shared → Prop} (hh : A.handled = none) (eo : EnvOk env) (ok : okTarget env.scope t = true) (hb : bindT L σ t d = some L') (I : Inv CA B s.heap ρ σ) (l : LocIn B s.heap ρ env L) (hv : VIn s.heap ρ d v)
    (k : ∀ h' tk, Inv CA B h' ρ σ → Go (XOf env) s.heap ρ h' ρ → LocIn B h' ρ env L' → ((∀ x ∈ tNames t, env.kindOf x = some .local) → Go (fun b => b = env.locals) s.heap ρ h' ρ) → Q () { s with heap := h', toks := tk }) : wpAny (model prog w) A (assign t env v) Q E s := by
  unfold bindT at hb
  split at hb
  · cases hb
    exact wpAny_assign_Name (store_ok eo (okNm_kind (q := ⟨0, 0, 0, 0⟩) ok) I l hv fun h1 t1 I1 g1 l1 q1 _ => k h1 t1 I1 g1 l1 fun hx => q1 (hx _ (.head _)))
  · rename_i es k0 q
    have ok' := okTarget_tuple ok
    split at hb
    · rename_i xs ds hxs
      split at hb
      · rename_i hlen
        cases hb
        have hlen' := of_decide_eq_true hlen
        cases hv with
        | tup ht r hH =>
          obtain ⟨a, b⟩ := assignEach_len (env := env) ok' hxs
          refine wpAny_assign_Tuple hh ht (by rw [a, hlen', List.size_toArray, r.length]) b fun h1 he => ?_
          have kp : ∀ b o, s.heap.get? b = some o → h1.get? b = some o := fun b o e => he b o (fun q => by rw [q] at e; exact absurd (Heap.lt_size e) (Nat.lt_irrefl _)) e
          have g1 : Go No s.heap ρ h1 ρ := Go.grow kp
          refine inorder_ok (CA := CA) eo ok' hxs hlen' (I.grow kp) (l.mono I g1) (by rw [List.toList_toArray]; exact r.mono Soft.no I g1) fun h2 t2 I2 g2 l2 q2 => ?_
          exact k h2 t2 I2 (g1.weaken.trans g2) l2 fun hx => g1.weaken.trans (q2 fun y hy => hx y (by rw [names_t hxs]; exact hy))
      · cases hb
    · rename_i xs j hxs
      split at hb
      · rename_i ds hds
        split at hb
        · rename_i hlen
          cases hb
          have hlen' := of_decide_eq_true hlen
          obtain ⟨ad, us, c, rfl, _, hx, r⟩ := I.list hds hv
          obtain ⟨a, b⟩ := assignEach_len (env := env) ok' hxs
          have hsz : us.toArray.size = (assignEach es env).length := by rw [a, hlen', List.size_toArray, r.length]
          rw [arm_assign_Tuple]
          refine wpAny_bind (wpAny_standAt ?_)
          unfold unpack
          rw [b]
          have key := kun_itemsOf (prog := prog) (w := w) (A := A) (E := E) (items := us.toArray) (Q := fun vs s' => wpAny (model prog w) A (assignInOrder ((assignEach es env).map (·.2)) vs) Q E s') hh (PySem.IsL.isList (n := c) hx) (fun h1 he => by
            have kp : ∀ b o, s.heap.get? b = some o → h1.get? b = some o := fun b o e => he b o (fun q => by rw [q] at e; exact absurd (Heap.lt_size e) (Nat.lt_irrefl _)) e
            have g1 : Go No s.heap ρ h1 ρ := Go.grow kp
            refine inorder_ok (CA := CA) eo ok' hxs hlen' (I.grow kp) (l.mono I g1) (by rw [List.toList_toArray]; exact r.mono Soft.no I g1) fun h2 t2 I2 g2 l2 q2 => ?_
            exact k h2 t2 I2 (g1.weaken.trans g2) l2 fun hx => g1.weaken.trans (q2 fun y hy => hx y (by rw [names_t hxs]; exact hy)))
          rw [hsz] at key
          exact wpAny_bind (wpAny_holding key)
        · cases hb
      · cases hb
    · cases hb
  · cases hb
end
end Mine
end
section
open PySem PySem.W PyProof.Rows PySem.Calls
set_option linter.unusedSectionVars false
namespace Mine
variable [Hid]
section
variable {T : Tbl} {CA : Str → Option Addr} {K : Frag} {mg mb : Str → Option Value} {B : Heap} {prog : Program} {w : World} {A : Around} {n : Nat} {F : Funs} {s : Shared} {ρ ρ' τ : Rho} {σ σ' : Sto} {env : Env} {L L' : Loc} {d : V} {h h' h0 : Heap} {X Y : Addr → Prop}

inductive ItAt (h : Heap) (ρ : Rho) : It → List V → Nat → Value → List Addr → Prop
  | tup {a I : Addr} {us : List Value} {l : List V} {i : Nat} : IsTup h a us.toArray → VAll h ρ l us → ¬ Hid.H a → h.IsTupleIter I a i → ItAt h ρ (.one (.tup l)) l i (.ref I) [I]
  | list {n : Nat} {a I : Addr} {l : List V} {i : Nat} : ρ[n]? = some (a, a) → h.IsListIter I a i → ItAt h ρ (.one (.obj n)) l i (.ref I) [I]
  | rng {I : Addr} {a b : Int} {l : List V} {i : Nat} : IsRangeIter h I (a + i) ((b - a).toNat - i : Int) 1 → i ≤ (b - a).toNat → l = ((List.range (b - a).toNat).map fun (k : Nat) => V.int (a + k)) → ItAt h ρ (.one (.rng a b)) l i (.ref I) [I]
  | zip {m k : Nat} {z TI TO i1 i2 l1 l2 : Addr} {l : List V} {i : Nat} {x y : Value} : ZipApart z TI TO i1 i2 l1 l2 → ρ[m]? = some (l1, l1) → ρ[k]? = some (l2, l2) → IsZip h z TI TO .none → IsPair h TI (.ref i1) (.ref i2) → IsPair h TO x y → h.IsListIter i1 l1 i → h.IsListIter i2 l2 i → Hid.H TO →
    ItAt h ρ (.two m k) l i (.ref z) [z, TO, i1, i2]

theorem ItAt.aside {it : It} {all : List V} {i : Nat} {Iv : Value} {own : List Addr} (x : ItAt h ρ it all i Iv own) : ∀ b ∈ own, Aside Hid.H h b ∧ ∀ o, h.get? b = some o → (∀ es n, o.data ≠ .dict es n) ∧ (∀ v, o.data ≠ .cell v) ∧ ¬ (o.cls = .type "list" ∨ o.cls = .type "dict") := by
  have li : ∀ {I a i}, h.IsListIter I a i → Aside Hid.H h I ∧ ∀ o, h.get? I = some o → (∀ es n, o.data ≠ .dict es n) ∧ (∀ v, o.data ≠ .cell v) ∧ ¬ (o.cls = .type "list" ∨ o.cls = .type "dict") := fun ⟨o, e, hc, hd⟩ => by
    refine ⟨⟨o, e, .inr (.inr (.inl ⟨⟨_, hd⟩, by rw [hc]; simp⟩))⟩, fun o' e' => ?_⟩
    rw [e] at e'; cases e'
    rw [hd, hc]; simp
  induction x using ItAt.casesOn with
  | @tup a I us l i ht r hH hi =>
    intro b hb
    rw [List.mem_singleton.mp hb]
    obtain ⟨o, e, hc, hd⟩ := hi
    refine ⟨⟨o, e, .inr (.inr (.inl ⟨⟨_, hd⟩, by rw [hc]; simp⟩))⟩, fun o' e' => ?_⟩
    rw [e] at e'; cases e'
    rw [hd, hc]; simp
  | list hp hi => intro b hb; rw [List.mem_singleton.mp hb]; exact li hi
  | @rng I a b l i hi _ hl =>
    intro b hb
    rw [List.mem_singleton.mp hb]
    refine ⟨⟨_, hi, .inr (.inr (.inl ⟨⟨_, rfl⟩, by simp⟩))⟩, fun o' e' => ?_⟩
    rw [show h.get? I = _ from hi] at e'; cases e'
    simp
  | @zip m k z TI TO i1 i2 l1 l2 all i x y D h1 h2 hz hTI hTO hi1 hi2 hH =>
    intro b hb
    simp only [List.mem_cons, List.not_mem_nil, or_false] at hb
    rcases hb with rfl | rfl | rfl | rfl
    · refine ⟨⟨_, hz, .inr (.inr (.inl ⟨⟨_, rfl⟩, by simp⟩))⟩, fun o' e' => ?_⟩
      rw [show h.get? b = _ from hz] at e'; cases e'
      simp
    · refine ⟨⟨_, hTO, .inr (.inr (.inr ⟨hH, rfl, _, _, rfl⟩))⟩, fun o' e' => ?_⟩
      rw [show h.get? b = _ from hTO] at e'; cases e'
      simp
    · exact li hi1
    · exact li hi2

theorem ItAt.go (I : Inv CA B h ρ σ) (S : Soft X h) (g : Go X h ρ h' ρ') {it : It} {all : List V} {i : Nat} {Iv : Value} {own : List Addr} (x : ItAt h ρ it all i Iv own) : ItAt h' ρ' it all i Iv own := by
  have li : ∀ {J a i}, h.IsListIter J a i → h'.IsListIter J a i := fun ⟨o, e, hc, hd⟩ => ⟨o, g.stands S I e (by rw [hc]; simp) (by rw [hd]; simp) (by rw [hd]; simp), hc, hd⟩
  induction x using ItAt.casesOn with
  | tup ht r hH hi =>
    obtain ⟨o, e, hc, hd⟩ := hi
    exact .tup (g.isTup S I ht) (r.mono S I g) hH ⟨o, g.stands S I e (by rw [hc]; simp) (by rw [hd]; simp) (by rw [hd]; simp), hc, hd⟩
  | list hp hi => exact .list (g.get hp) (li hi)
  | rng hi hle hl => exact .rng (g.stands S I hi (by simp) (by simp) (by simp)) hle hl
  | zip D h1 h2 hz hTI hTO hi1 hi2 hH =>
    exact .zip D (g.get h1) (g.get h2) (g.stands S I hz (by simp) (by simp) (by simp)) (g.stands S I hTI (by simp) (by simp) (by simp)) (g.stands S I hTO (by simp) (by simp) (by simp)) (li hi1) (li hi2) hH

/-- the change that an iterator's turn brings -/
theorem ItAt.but (I : Inv CA B h ρ σ) {it : It} {all : List V} {i : Nat} {Iv : Value} {own : List Addr} (x : ItAt h ρ it all i Iv own) (hB : ∀ b ∈ own, B.get? b = none) (e1 : ∀ b o, b ∉ own → h.get? b = some o → h'.get? b = some o) : But Hid.H (· ∈ own) B h ρ h' := by
  refine ⟨fun b o e hb => e1 b o hb e, fun b hb => (x.aside b hb).1, hB, fun b hb => ?_⟩
  obtain ⟨⟨o, e, _⟩, q⟩ := x.aside b hb
  exact I.off e (q o e).2.2

theorem Inv.but1 (I : Inv CA B h ρ σ) (g : But Hid.H Y B h ρ h') (hid : ∀ a, Hid.H a → Y a → (∃ o its n, h.get? a = some o ∧ o.data = .seq its n) → ∃ o, h'.get? a = some o ∧ o.cls = .type "tuple" ∧ ∃ its n, o.data = .seq its n) : Inv CA B h' ρ σ :=
  Inv.but (fun _ q => q) (fun _ q => q) I g fun a ha => by
    obtain ⟨o, e, hc, its, n, hd⟩ := (I.hid a ha).2
    by_cases hY : Y a
    · exact hid a ha hY ⟨o, its, n, e, hd⟩
    · exact ⟨o, g.ext a o e hY, hc, its, n, hd⟩

theorem letGo_ok {t : Expr} {r : Addr} {v : Value} {o : Obj} {nm : String} {Q : Unit → Shared → Prop} {E : Value → Shared → Prop} (e : s.heap.get? r = some o) (hc : o.cls = .type nm) (hn : ["enumerate", "zip", "dict_itemiterator", "dict_reverseitemiterator", "odict_iterator", "itertools.zip_longest", "itertools.pairwise"].contains nm = false) (h : Q () s) :
    wpAny (model prog w) A (letOwnedTupleGo t (.ref r) v) Q E s := by
  have k : wpAny (model prog w) A (do
    let (.ref r, .ref a) := ((.ref r : Value), v) | return
    let o ← load r
    match o.cls, o.data with
    | .type n, .fields vs =>
      if ["enumerate", "zip", "dict_itemiterator", "dict_reverseitemiterator", "odict_iterator", "itertools.zip_longest", "itertools.pairwise"].contains n && vs[0]? == some (rawInt a) then
        rule "for.unpacks-the-owned-tuple"
        updateField r 0 .none
    | _, _ => pure ()) Q E s := by
    cases v with
    | ref a =>
      refine wpAny_bind (wpAny_load e ?_)
      rw [hc]
      cases o.data <;> first | exact wpAny_pure h | skip
      dsimp only
      rw [hn, Bool.false_and]
      exact wpAny_pure h
    | _ => exact wpAny_pure h
  cases t <;> first | exact wpAny_pure h | exact k

theorem zipT_get : ∀ {l r : List V} {i : Nat} {a b : V}, l[i]? = some a → r[i]? = some b → (zipT l r)[i]? = some (.tup [a, b])
  | [], _, _, _, _, h, _ => by simp at h
  | _ :: _, [], _, _, _, _, h => by simp at h
  | _ :: _, _ :: _, 0, _, _, h1, h2 => by simp at h1 h2; subst h1; subst h2; rfl
  | _ :: l, _ :: r, i + 1, _, _, h1, h2 => by unfold zipT; simpa using zipT_get (l := l) (r := r) (i := i) (by simpa using h1) (by simpa using h2)
theorem zipT_end : ∀ {l r : List V} {i : Nat}, l[i]? = none ∨ r[i]? = none → (zipT l r)[i]? = none
  | [], _, _, _ => by unfold zipT; simp
  | _ :: _, [], _, _ => by unfold zipT; simp
  | _ :: _, _ :: _, 0, h => by simp at h
  | _ :: l, _ :: r, i + 1, h => by unfold zipT; simpa using zipT_end (l := l) (r := r) (i := i) (by simpa using h)

noncomputable def isTuple : Expr → Bool
  | .Tuple .. => true
  | _ => false

/-- the next turn's value: what is asked of an item, and of the end -/
noncomputable def HiK (CA : Str → Option Addr) (B : Heap) (prog : Program) (w : World) (A : Around) (t : Expr) (σ : Sto) (s : Shared) (ρ : Rho) (it : It) (all : List V) (i : Nat) (Iv : Value) (own : List Addr) (P : Option Value → Shared → Prop) : Prop :=
  ∀ d v h1 tk, all[i]? = some d → (∀ (Q : Unit → Shared → Prop) (E : Value → Shared → Prop), (∀ h', But Hid.H (· ∈ own) B s.heap ρ h' → (∀ b o, s.heap.get? b = some o → ∃ o', h'.get? b = some o') → Inv CA B h' ρ σ → VIn h' ρ d v → ItAt h' ρ it all (i + 1) Iv own → Q () { s with heap := h', toks := tk }) →
      wpAny (model prog w) A (letOwnedTupleGo t Iv v) Q E { s with heap := h1, toks := tk }) → P (some v) { s with heap := h1, toks := tk }
noncomputable def HdK (B : Heap) (s : Shared) (ρ : Rho) (all : List V) (i : Nat) (own : List Addr) (P : Option Value → Shared → Prop) : Prop :=
  all[i]? = none → ∀ h' tk, But Hid.H (· ∈ own) B s.heap ρ h' → P none { s with heap := h', toks := tk }

theorem notJ {b J : Addr} (h : b ∉ [J]) : b ≠ J := fun q => h (q ▸ List.mem_singleton_self _)
theorem not4 {b x y u v : Addr} (h : b ∉ [x, y, u, v]) : b ≠ x ∧ b ≠ y ∧ b ≠ u ∧ b ≠ v := by
  simp only [List.mem_cons, List.not_mem_nil, or_false, not_or] at h; exact h
theorem lvJ {J : Addr} (hJ : ∃ o, h'.get? J = some o) (he : ∀ b o, b ≠ J → h.get? b = some o → h'.get? b = some o) (b : Addr) (o : Obj) (e : h.get? b = some o) : ∃ o', h'.get? b = some o' := by
  by_cases hb : b = J
  · rw [hb]; exact hJ
  · exact ⟨o, he b o hb e⟩
theorem Inv.butJ {J : Addr} (I : Inv CA B h ρ σ) (g : But Hid.H (· ∈ [J]) B h ρ h') (hJ : ∀ o its n, h.get? J = some o → o.data ≠ .seq its n) : Inv CA B h' ρ σ :=
  I.but1 g fun b _ hb hq => by
    obtain ⟨o, its, n, e, hq⟩ := hq
    exact (hJ o its n (List.mem_singleton.mp hb ▸ e) hq).elim
theorem fieldsJ {J : Addr} {o : Obj} {vs : Array Value} (e : h.get? J = some o) (hd : o.data = .fields vs) (o' : Obj) (its : Array Value) (n : Nat) (e' : h.get? J = some o') : o'.data ≠ .seq its n := fun q => by
  rw [← Option.some.inj (e.symm.trans e'), hd] at q; exact nomatch q

section
variable {t : Expr} {it : It} {all : List V} {i : Nat} {J : Addr} {P : Option Value → Shared → Prop} {E : Value → Shared → Prop}
theorem step_one {h1 : Heap} {tk : Nat} {v : Value} {o : Obj} {nm : String} (hi : HiK CA B prog w A t σ s ρ it all i (.ref J) [J] P) (hx : all[i]? = some d) (x0 : ItAt s.heap ρ it all i (.ref J) [J]) (hB : ∀ b ∈ [J], B.get? b = none) (I : Inv CA B s.heap ρ σ)
    (hJ : ∀ o its n, s.heap.get? J = some o → o.data ≠ .seq its n) (hs : ∀ b o, b ≠ J → s.heap.get? b = some o → h1.get? b = some o) (e : h1.get? J = some o) (hc : o.cls = .type nm) (hn : ["enumerate", "zip", "dict_itemiterator", "dict_reverseitemiterator", "odict_iterator", "itertools.zip_longest", "itertools.pairwise"].contains nm = false)
    (hV : VIn s.heap ρ d v) (up : But Hid.H (· ∈ [J]) B s.heap ρ h1 → ItAt h1 ρ it all (i + 1) (.ref J) [J]) : P (some v) { s with heap := h1, toks := tk } :=
  have g := x0.but I hB (h' := h1) fun b o hb e => hs b o (notJ hb) e
  hi d v h1 tk hx fun Q E kq => letGo_ok e hc hn (kq h1 g (lvJ ⟨o, e⟩ hs) (I.butJ g hJ) (VIn.but (fun _ q => q) (fun _ q => q) g hV) (up g))

theorem step_tup {a : Addr} {us : List Value} (hh : A.handled = none) (htu : IsTup s.heap a us.toArray) (r : VAll s.heap ρ all us) (hH : ¬ Hid.H a) (hit : s.heap.IsTupleIter J a i) (x0 : ItAt s.heap ρ (.one (.tup all)) all i (.ref J) [J]) (hB : ∀ b ∈ [J], B.get? b = none) (I : Inv CA B s.heap ρ σ)
    (hi : HiK CA B prog w A t σ s ρ (.one (.tup all)) all i (.ref J) [J] P) (hd : HdK B s ρ all i [J] P) : wpAny (model prog w) A (pyNext (.ref J)) P E s := by
  obtain ⟨o0, e0, _, hd0⟩ := id hit
  refine (Option.eq_none_or_eq_some all[i]?).elim (fun hx => ?_) fun ⟨d, hx⟩ => ?_
  · exact wpAny_pyNext_tuple_end hh hit htu (by rw [List.getElem?_toArray, List.getElem?_eq_none_iff, r.length]; exact List.getElem?_eq_none_iff.mp hx) fun h1 hs => hd hx h1 s.toks (x0.but I hB fun b o hb e => hs b o (notJ hb) e)
  · obtain ⟨v, hv, hV⟩ := r.get hx
    refine wpAny_pyNext_tuple_item hit htu (x := v) (by simpa using hv) fun h1 hit1 hs => ?_
    obtain ⟨o, e, hc, hd1⟩ := id hit1
    exact step_one hi hx x0 hB I (fieldsJ e0 hd0) hs.extBut e hc (by decide) hV fun g => .tup (g.tup htu hH) (VAll.but (fun _ q => q) (fun _ q => q) g r) hH hit1

theorem step_list {a : Addr} {n : Nat} (hh : A.handled = none) (hp : ρ[n]? = some (a, a)) (hit : s.heap.IsListIter J a i) (hst : items σ (.obj n) = some all) (x0 : ItAt s.heap ρ (.one (.obj n)) all i (.ref J) [J]) (hB : ∀ b ∈ [J], B.get? b = none) (I : Inv CA B s.heap ρ σ)
    (hi : HiK CA B prog w A t σ s ρ (.one (.obj n)) all i (.ref J) [J] P) (hd : HdK B s ρ all i [J] P) : wpAny (model prog w) A (pyNext (.ref J)) P E s := by
  have el : σ[n]? = some (.list all) := (Ok.list (fun l e => Ok.ite fun _ => Ok.ret e) : Ok (items σ (.obj n)) fun l => σ[n]? = some (.list l)) all hst
  obtain ⟨a', us, c, e', hp', hl, r⟩ := I.list el (VIn.obj (p := (a, a)) hp)
  rw [← Value.ref.inj e'] at hl
  have hL : s.heap.IsList a us.toArray := PySem.IsL.isList (n := c) hl
  obtain ⟨o0, e0, _, hd0⟩ := id hit
  refine (Option.eq_none_or_eq_some all[i]?).elim (fun hx => ?_) fun ⟨d, hx⟩ => ?_
  · exact wpAny_pyNext_list_end hh hit hL (by rw [List.getElem?_toArray, List.getElem?_eq_none_iff, r.length]; exact List.getElem?_eq_none_iff.mp hx) fun h1 hs => hd hx h1 s.toks (x0.but I hB fun b o hb e => hs b o (notJ hb) e)
  · obtain ⟨v, hv, hV⟩ := r.get hx
    refine wpAny_pyNext_list_item hit hL (x := v) (by simpa using hv) fun h1 hit1 hs => ?_
    obtain ⟨o, e, hc, hd1⟩ := id hit1
    exact step_one hi hx x0 hB I (fieldsJ e0 hd0) hs.extBut e hc (by decide) hV fun g => .list hp hit1

theorem step_rng {a b : Int} (hh : A.handled = none) (hit : IsRangeIter s.heap J (a + i) ((b - a).toNat - i : Int) 1) (hle : i ≤ (b - a).toNat) (hl : all = ((List.range (b - a).toNat).map fun (k : Nat) => V.int (a + k))) (x0 : ItAt s.heap ρ (.one (.rng a b)) all i (.ref J) [J]) (hB : ∀ b ∈ [J], B.get? b = none) (I : Inv CA B s.heap ρ σ)
    (hi : HiK CA B prog w A t σ s ρ (.one (.rng a b)) all i (.ref J) [J] P) (hd : HdK B s ρ all i [J] P) : wpAny (model prog w) A (pyNext (.ref J)) P E s := by
  by_cases hlt : i < (b - a).toNat
  · have hx : all[i]? = some (.int (a + i)) := by rw [hl, List.getElem?_map, List.getElem?_range hlt]; rfl
    refine wpAny_pyNext_range_item hit (by omega) fun h1 hit1 hs => ?_
    exact step_one hi hx x0 hB I (fieldsJ hit rfl) hs.extBut hit1 rfl (by decide) (.int _ _) fun g => .rng (by
      rw [show a + ((i + 1 : Nat) : Int) = a + i + 1 by lia, show (((b - a).toNat : Int) - ((i + 1 : Nat) : Int)) = (b - a).toNat - i - 1 by omega]; exact hit1) hlt hl
  · have hx : all[i]? = none := by rw [hl, List.getElem?_eq_none_iff, List.length_map, List.length_range]; exact Nat.not_lt.mp hlt
    exact wpAny_pyNext_range_end hh hit (by omega) fun h1 hs => hd hx h1 s.toks (x0.but I hB fun b o hb e => hs b o (notJ hb) e)

theorem step_zip {m k : Nat} {z TI TO i1 i2 l1 l2 : Addr} {x y : Value} (hh : A.handled = none) (D : ZipApart z TI TO i1 i2 l1 l2) (h1 : ρ[m]? = some (l1, l1)) (h2 : ρ[k]? = some (l2, l2)) (hz : IsZip s.heap z TI TO .none) (hTI : IsPair s.heap TI (.ref i1) (.ref i2)) (hTO : IsPair s.heap TO x y) (hi1 : s.heap.IsListIter i1 l1 i) (hi2 : s.heap.IsListIter i2 l2 i) (hH : Hid.H TO)
    (x0 : ItAt s.heap ρ (.two m k) all i (.ref z) [z, TO, i1, i2]) (hB : ∀ b ∈ [z, TO, i1, i2], B.get? b = none) (hst : still σ (.two m k) all = true) (ht : isTuple t = true) (I : Inv CA B s.heap ρ σ)
    (hi : HiK CA B prog w A t σ s ρ (.two m k) all i (.ref z) [z, TO, i1, i2] P) (hd : HdK B s ρ all i [z, TO, i1, i2] P) : wpAny (model prog w) A (pyNext (.ref z)) P E s := by
  obtain ⟨ll, rr, e1, e2, hmk, hall⟩ := still_two hst
  obtain ⟨a1, us1, c1, e', hp1, hL1, r1⟩ := I.list e1 (VIn.obj (p := (l1, l1)) h1)
  rw [← Value.ref.inj e'] at hL1
  obtain ⟨a2, us2, c2, e', hp2, hL2, r2⟩ := I.list e2 (VIn.obj (p := (l2, l2)) h2)
  rw [← Value.ref.inj e'] at hL2
  have hl1 : s.heap.IsList l1 us1.toArray := PySem.IsL.isList (n := c1) hL1
  have hl2 : s.heap.IsList l2 us2.toArray := PySem.IsL.isList (n := c2) hL2
  by_cases hend : ll[i]? = none ∨ rr[i]? = none
  · have hend' : us1.toArray[i]? = none ∨ us2.toArray[i]? = none := by
      refine hend.imp (fun q => ?_) fun q => ?_
      · rw [List.getElem?_toArray, List.getElem?_eq_none_iff, r1.length]; exact List.getElem?_eq_none_iff.mp q
      · rw [List.getElem?_toArray, List.getElem?_eq_none_iff, r2.length]; exact List.getElem?_eq_none_iff.mp q
    exact wpAny_pyNext_zip_end hh D hz hTI hTO hi1 hi2 hl1 hl2 hend' fun h' he => hd (hall ▸ zipT_end hend) h' s.toks (x0.but I hB fun b o hb e => he b o (not4 hb).1 (not4 hb).2.1 (not4 hb).2.2.1 (not4 hb).2.2.2 e)
  · rw [not_or] at hend
    obtain ⟨d1, hd1⟩ := Option.ne_none_iff_exists'.mp hend.1
    obtain ⟨d2, hd2⟩ := Option.ne_none_iff_exists'.mp hend.2
    obtain ⟨v1, hv1, hV1⟩ := r1.get hd1
    obtain ⟨v2, hv2, hV2⟩ := r2.get hd2
    refine wpAny_pyNext_zip_item D hz hTI hTO hi1 hi2 hl1 hl2 (x := v1) (y := v2) (by simpa using hv1) (by simpa using hv2) fun h' hz' hTO' hi1' hi2' hT' _ he => ?_
    cases t <;> first | cases ht | skip
    rename_i es kx pos
    refine hi _ _ h' s.toks (hall ▸ zipT_get hd1 hd2) fun Q E kk => wpAny_letOwnedTupleGo_zip hz' fun h3 hz3 hs3 => ?_
    have hTn : s.heap.objs.size ≠ z := fun q => by
      have := Heap.lt_size hz; rw [q] at this; exact Nat.lt_irrefl _ this
    have up : ∀ b o, b ∉ [z, TO, i1, i2] → s.heap.get? b = some o → h3.get? b = some o := fun b o hb e => hs3.extBut b o (not4 hb).1 (he b o (not4 hb).1 (not4 hb).2.1 (not4 hb).2.2.1 (not4 hb).2.2.2 e)
    have g := x0.but I hB (h' := h3) up
    have hTO3 : IsPair h3 TO v1 v2 := hs3.extBut _ _ D.TOz hTO'
    have hi13 : h3.IsListIter i1 l1 (i + 1) := hi1'.extBut hs3.extBut D.i1z
    have hi23 : h3.IsListIter i2 l2 (i + 1) := hi2'.extBut hs3.extBut D.i2z
    have hTI3 : IsPair h3 TI (.ref i1) (.ref i2) := hs3.extBut _ _ D.TIz (he _ _ D.TIz D.TITO D.TIi1 D.TIi2 hTI)
    have hT3 : IsPair h3 s.heap.objs.size v1 v2 := hs3.extBut _ _ hTn hT'
    have four : ∀ {R : Addr → Prop}, R z → R TO → R i1 → R i2 → ∀ b, b ∈ [z, TO, i1, i2] → R b := fun a b c d _ hb => by
      simp only [List.mem_cons, List.not_mem_nil, or_false] at hb
      rcases hb with q | q | q | q <;> rw [q] <;> assumption
    have I3 : Inv CA B h3 ρ σ := I.but1 g fun b hb hbo hq => by
      obtain ⟨o, its, n, e, hq⟩ := hq
      obtain ⟨oi1, ei1, _, qi1⟩ := hi1
      obtain ⟨oi2, ei2, _, qi2⟩ := hi2
      exact four (R := fun b => s.heap.get? b = some o → ∃ o, h3.get? b = some o ∧ o.cls = .type "tuple" ∧ ∃ its n, o.data = .seq its n) (fun e => (fieldsJ hz rfl o its n e hq).elim) (fun _ => ⟨_, hTO3, rfl, _, _, rfl⟩) (fun e => (fieldsJ ei1 qi1 o its n e hq).elim) (fun e => (fieldsJ ei2 qi2 o its n e hq).elim) b hbo e
    refine kk h3 g (fun b o e => ?_) I3 (.tup (vs := [v1, v2]) ⟨_, hT3, rfl, 0, rfl⟩ (.cons (VIn.but (fun _ q => q) (fun _ q => q) g hV1) (.cons (VIn.but (fun _ q => q) (fun _ q => q) g hV2) .nil)) (I.notHid I.none_of_size.1)) (.zip D h1 h2 hz3 hTI3 hTO3 hi13 hi23 hH)
    by_cases hb : b ∈ [z, TO, i1, i2]
    · exact four (R := fun b => ∃ o', h3.get? b = some o') ⟨_, hz3⟩ ⟨_, hTO3⟩ (hi13.elim fun o q => ⟨o, q.1⟩) (hi23.elim fun o q => ⟨o, q.1⟩) b hb
    · exact ⟨o, up b o hb e⟩
end

theorem step_ok {t : Expr} {it : It} {all : List V} {i : Nat} {Iv : Value} {own : List Addr} {P : Option Value → Shared → Prop} {E : Value → Shared → Prop} (hh : A.handled = none) (x : ItAt s.heap ρ it all i Iv own) (hB : ∀ b ∈ own, B.get? b = none) (hst : still σ it all = true) (ht : (∃ v, it = .one v) ∨ isTuple t = true) (I : Inv CA B s.heap ρ σ)
    (hi : HiK CA B prog w A t σ s ρ it all i Iv own P) (hd : HdK B s ρ all i own P) : wpAny (model prog w) A (pyNext Iv) P E s := by
  have x0 := x
  induction x using ItAt.casesOn with
  | tup htu r hH hit => exact step_tup hh htu r hH hit x0 hB I hi hd
  | list hp hit => exact step_list hh hp hit (still_one.mp hst) x0 hB I hi hd
  | rng hit hle hl => exact step_rng hh hit hle hl x0 hB I hi hd
  | zip D h1 h2 hz hTI hTO hi1 hi2 hH => exact step_zip hh D h1 h2 hz hTI hTO hi1 hi2 hH x0 hB hst (ht.resolve_left fun ⟨v, q⟩ => nomatch q) I hi hd
end
end Mine
end
section
open PySem PySem.W PyProof.Rows PySem.Calls
set_option linter.unusedSectionVars false
namespace Mine
variable [Hid]
section
variable {T : Tbl} {CA : Str → Option Addr} {K : Frag} {mg mb : Str → Option Value} {B : Heap} {prog : Program} {w : World} {A : Around} {n : Nat} {F : Funs} {s : Shared} {ρ ρ' ρb τ : Rho} {σ σ' : Sto} {env : Env} {L L' : Loc} {d : V} {h h' h0 hb : Heap} {X X0 Y P : Addr → Prop}

theorem Go.skip (g1 : Go X0 hb ρb h ρ) (g2 : Go X h ρ h' ρ') (hX : ∀ b, X b → hb.get? b = none ∨ X0 b) : Go X0 hb ρb h' ρ' := by
  obtain ⟨x1, xl, τ, rfl, x2⟩ := g1
  obtain ⟨y1, yl, τ', rfl, y2⟩ := g2
  refine ⟨fun b o e hb hX0 => y1 b o (x1 b o e hb hX0) (fun p hp => ?_) (fun q => ?_), fun b o e => ?_, τ ++ τ', List.append_assoc .., fun p hp => ?_⟩
  · rcases List.mem_append.mp hp with hp | hp
    · exact hb p hp
    · intro q; have := x2 p hp; rw [← q, e] at this; exact nomatch this
  · rcases hX b q with q | q
    · rw [e] at q; exact nomatch q
    · exact hX0 q
  · obtain ⟨o', e'⟩ := xl b o e; exact yl b o' e'
  · rcases List.mem_append.mp hp with hp | hp
    · exact x2 p hp
    · cases q : hb.get? p.2 with
      | none => rfl
      | some o => obtain ⟨o', e'⟩ := xl _ _ q; rw [y2 p hp] at e'; cases e'

/-- a change of what the base does not know -/
theorem Go.skipBut (g1 : Go X0 hb ρb h ρ) (g2 : But P Y B h ρ h') (hY : ∀ b, Y b → hb.get? b = none) : Go X0 hb ρb h' ρ := by
  obtain ⟨x1, xl, τ, rfl, x2⟩ := g1
  refine ⟨fun b o e hb hX0 => g2.ext b o (x1 b o e hb hX0) fun q => ?_, fun b o e => ?_, τ, rfl, x2⟩
  · rw [hY b q] at e; cases e
  · by_cases q : Y b
    · rw [hY b q] at e; cases e
    · obtain ⟨o', e'⟩ := xl b o e; exact ⟨o', g2.ext b o' e' q⟩

theorem self_ok {it : It} {all : List V} {i : Nat} {Iv : Value} {own : List Addr} {Q : Value → Shared → Prop} {E : Value → Shared → Prop} (x : ItAt s.heap ρ it all i Iv own) (h : Q Iv s) : wpAny (model prog w) A (pyIter Iv) Q E s := by
  induction x using ItAt.casesOn with
  | tup _ _ _ hi => exact wpAny_pyIter_tupleiter hi h
  | list _ hi => exact wpAny_pyIter_listiter hi h
  | rng hi _ _ => exact wpAny_pyIter_rangeiter hi h
  | zip _ _ _ hz => exact wpAny_pyIter_zip hz h

/-- an iterator is made -/
theorem iter_ok {wv : V} {v : Value} {vs : List V} {Q : Value → Shared → Prop} {E : Value → Shared → Prop} (hi : items σ wv = some vs) (I : Inv CA B s.heap ρ σ) (hv : VIn s.heap ρ wv v)
    (k : ∀ h' Iv own, (∀ b o, s.heap.get? b = some o → h'.get? b = some o) → ItAt h' ρ (.one wv) vs 0 Iv own → (∀ b ∈ own, s.heap.get? b = none ∧ B.get? b = none ∧ ¬ Hid.H b) → Q Iv { s with heap := h' }) : wpAny (model prog w) A (pyIter v) Q E s := by
  have fresh : ∀ b ∈ [s.heap.objs.size], s.heap.get? b = none ∧ B.get? b = none ∧ ¬ Hid.H b := fun b hb => by
    rw [List.mem_singleton.mp hb]; exact ⟨I.none_of_size.1, I.none_of_size.2, I.notHid I.none_of_size.1⟩
  unfold items at hi
  split at hi
  · rename_i l
    split at hi
    · cases hi
      cases hv with
      | @tup a us _ ht r hH =>
        have kp := push_keep (h := s.heap) { cls := .type "tuple_iterator", data := .fields #[.ref a, .int 0 0] }
        exact wpAny_pyIter_tuple ht (k _ _ _ kp (.tup ((Go.grow (X := No) (ρ := ρ) kp).isTup Soft.no I ht) (r.mono Soft.no I (Go.grow kp)) hH ⟨_, Heap.get?_push_size _ rfl, rfl, rfl⟩) fresh)
    · cases hi
  · rename_i m
    split at hi
    · rename_i l e
      split at hi
      · cases hi
        obtain ⟨a, us, c, rfl, hp, hl, r⟩ := I.list e hv
        have kp := push_keep (h := s.heap) { cls := .type "list_iterator", data := .fields #[.ref a, .int 0 0] }
        exact wpAny_pyIter_list (PySem.IsL.isList (n := c) hl) (k _ _ _ kp (.list hp ⟨_, Heap.get?_push_size _ rfl, rfl, rfl⟩) fresh)
      · cases hi
    · cases hi
  · rename_i a b
    split at hi
    · rename_i hc
      cases hi
      simp only [Bool.and_eq_true, decide_eq_true_eq, small, most] at hc
      cases hv with
      | rng hr =>
        have hsz : Builtin.Range.rangeSize a b 1 = ((b - a).toNat : Int) := by
          unfold Builtin.Range.rangeSize
          rw [if_pos (by omega)]
          split
          · rw [Int.ediv_one]; omega
          · omega
        have kp := push_keep (h := s.heap) { cls := .type "range_iterator", data := .fields #[rawInt a, rawInt (Builtin.Range.rangeSize a b 1), rawInt 1] }
        refine wpAny_pyIter_range hr ?_ (k _ _ _ kp (.rng (a := a) (b := b) ?_ (Nat.zero_le _) rfl) fresh)
        · exact small_one (by omega) (by omega) (by omega) (by omega)
        · have := Heap.get?_push_size s.heap (o := { cls := .type "range_iterator", data := .fields #[rawInt a, rawInt (Builtin.Range.rangeSize a b 1), rawInt 1] }) rfl
          rw [hsz] at this ⊢
          rw [show a + ((0 : Nat) : Int) = a by simp, show ((b - a).toNat : Int) - ((0 : Nat) : Int) = (b - a).toNat by rfl]
          exact this
    · cases hi
  · cases hi

theorem drop_some {all rest : List V} {i : Nat} {v : V} (h : all.drop i = v :: rest) : all[i]? = some v ∧ all.drop (i + 1) = rest := by
  constructor
  · have := congrArg (·[0]?) h
    simpa [List.getElem?_drop] using this
  · rw [← List.drop_drop, h]; rfl
theorem drop_none {all : List V} {i : Nat} (h : all.drop i = []) : all[i]? = none := by
  rw [List.getElem?_eq_none_iff]; exact List.drop_eq_nil_iff.mp h

/-- own places are neither frame nor cell -/
theorem ItAt.soft {it : It} {all : List V} {i : Nat} {Iv : Value} {own : List Addr} (x : ItAt h ρ it all i Iv own) : ∀ b, b ∈ own → ∀ o, h.get? b = some o → (∀ es n, o.data ≠ .dict es n) ∧ ∀ v, o.data ≠ .cell v := fun b hb o e => ⟨((x.aside b hb).2 o e).1, ((x.aside b hb).2 o e).2.1⟩

theorem forL_chk {chk : Sto → Bool} {g : V → Loc → Sto → Option (Fl × Loc × Sto)} {vs : List V} {r : Fl × Loc × Sto} (h : forL chk g vs L σ = some r) : chk σ = true := by
  cases hc : chk σ with
  | true => rfl
  | false => cases vs <;> (unfold forL at h; rw [hc] at h; exact nomatch h)
theorem forL_nil {chk : Sto → Bool} {g : V → Loc → Sto → Option (Fl × Loc × Sto)} {r : Fl × Loc × Sto} (h : forL chk g [] L σ = some r) : (.next, L, σ) = r := by
  have hc := forL_chk h
  unfold forL at h
  rw [hc] at h
  exact Option.some.inj h
theorem forL_cons {chk : Sto → Bool} {g : V → Loc → Sto → Option (Fl × Loc × Sto)} {v : V} {vs : List V} {r : Fl × Loc × Sto} (h : forL chk g (v :: vs) L σ = some r) : ∃ L1 σ1, (g v L σ = some (.next, L1, σ1) ∧ forL chk g vs L1 σ1 = some r) ∨ ∃ w, g v L σ = some (.ret w, L1, σ1) ∧ (.ret w, L1, σ1) = r := by
  have hc := forL_chk h
  unfold forL at h
  rw [hc, if_pos rfl] at h
  cases hf : g v L σ with
  | none => rw [hf] at h; exact nomatch h
  | some p =>
    obtain ⟨fl, L1, σ1⟩ := p
    rw [hf] at h
    cases fl with
    | next => exact ⟨L1, σ1, .inl ⟨rfl, h⟩⟩
    | ret w => exact ⟨L1, σ1, .inr ⟨w, rfl, Option.some.inj h⟩⟩
/-- a for's body: the target bound, then the statements -/
noncomputable def bodyF (F : Funs) (t : Expr) (b : List Stmt) (v : V) (L : Loc) (σ : Sto) : Option (Fl × Loc × Sto) := match bindT L σ t v with | some L1 => exs F.ex L1 σ b | none => none
theorem bodyF_of {t : Expr} {b : List Stmt} {v : V} {r : Fl × Loc × Sto} (h : bodyF F t b v L σ = some r) : ∃ L1, bindT L σ t v = some L1 ∧ exs F.ex L1 σ b = some r := by
  unfold bodyF at h
  cases hb : bindT L σ t v with
  | none => rw [hb] at h; cases h
  | some L1 => rw [hb] at h; exact ⟨L1, rfl, h⟩
/-- what stands ahead of each turn -/
noncomputable def ForI (CA : Str → Option Addr) (B : Heap) (env : Env) (F : Funs) (t : Expr) (b : List Stmt) (s : Shared) (hb : Heap) (ρb : Rho) (wv : V) (all : List V) (Iv : Value) (own : List Addr) (f : Fl) (L' : Loc) (σ' : Sto) (c : Nat) (s' : Shared) : Prop :=
  ∀ C : Prop, (∀ rest L1 σ1 h1 tk ρ1 i, s' = { s with heap := h1, toks := tk } → all.drop i = rest → c = rest.length → forL (fun σ => still σ (.one wv) all) (bodyF F t b) rest L1 σ1 = some (f, L', σ') →
    Inv CA B h1 ρ1 σ1 → Go (XOf env) hb ρb h1 ρ1 → LocIn B h1 ρ1 env L1 → ItAt h1 ρ1 (.one wv) all i Iv own → C) → C

/-- a for goes over its items -/
theorem for_ok {t iter : Expr} {b : List Stmt} {wv : V} {all : List V} {Iv : Value} {own : List Addr} {m : Nat} {f : Fl} {R : Result → Shared → Prop} (G : GoodF T CA B (model prog w) n F) (ao : AOk A n) (eo : EnvOk env) (okT : okTarget env.scope t = true) (okB : b.all (okS T m env.scope) = true)
    (hown : ∀ b ∈ own, hb.get? b = none ∧ B.get? b = none ∧ ¬ Hid.H b)
    (he : forL (fun σ => still σ (.one wv) all) (bodyF F t b) all L σ = some (f, L', σ'))
    (I : Inv CA B s.heap ρ σ) (g : Go (XOf env) hb ρb s.heap ρ) (l : LocIn B s.heap ρ env L) (x : ItAt s.heap ρ (.one wv) all 0 Iv own)
    (k : ∀ fl h' tk ρ', Inv CA B h' ρ' σ' → Go (XOf env) hb ρb h' ρ' → LocIn B h' ρ' env L' → FlIn h' ρ' f fl → R (.ok fl) { s with heap := h', toks := tk }) : codeAny (model prog w) A (.forLoop t Iv b [] env) R s := by
  refine codeAny_forLoop_any (ForI CA B env F t b s hb ρb wv all Iv own f L' σ') (fun c s' hI => hI _ fun rest L1 σ1 h1 tk ρ1 i es hrest ec he1 I1 g1 l1 x1 => ?_) all.length (fun C k => k all L σ s.heap s.toks ρ 0 rfl rfl rfl he I g l x)
  rw [es, ec]
  refine step_ok (s := { s with heap := h1, toks := tk }) (t := t) ao.hd x1 (fun b hb => (hown b hb).2.1) (forL_chk he1) (.inl ⟨_, rfl⟩) I1 ?_ ?_
  · intro dv v h2' tk2 hi go
    refine go _ _ fun h2 gb lv I2 hv x2 => ?_
    induction rest using List.casesOn with
    | nil => exact nomatch (drop_none hrest).symm.trans hi
    | cons v0 rest =>
      obtain ⟨e1, e2⟩ := drop_some hrest
      rw [Option.some.inj (e1.symm.trans hi)] at he1
      obtain ⟨L3, σ3, hr⟩ := forL_cons he1
      have l2 : LocIn B h2 ρ1 env L1 := LocIn.but (fun _ q => q) (fun _ q => q) l1 gb x1.soft
      have g2 := g1.skipBut gb fun b hb => (hown b hb).1
      rcases hr with ⟨hbd, he2⟩ | ⟨r, hbd, he2⟩
      · obtain ⟨L2, hbt, hbd⟩ := bodyF_of hbd
        refine asg_ok (s := { s with heap := h2, toks := tk2 }) ao.hd eo okT hbt I2 l2 hv fun h3 tk3 I3 g3 l3 _ => ?_
        refine exs_ok (s := { s with heap := h3, toks := tk3 }) (m := m) G ao eo okB hbd I3 l3 _ _ fun fv h4 tk4 ρ4 I4 g4 l4 hf => ?_
        cases fv <;> first | exact hf.elim | skip
        exact ⟨rest.length, Nat.lt_succ_self _, fun C k => k rest L3 σ3 h4 tk4 ρ4 (i + 1) rfl e2 rfl he2 I4 ((g2.trans g3).trans g4) l4 ((x2.go I2 l2.soft g3).go I3 l3.soft g4)⟩
      · obtain ⟨L2, hbt, hbd⟩ := bodyF_of hbd
        refine asg_ok (s := { s with heap := h2, toks := tk2 }) ao.hd eo okT hbt I2 l2 hv fun h3 tk3 I3 g3 l3 _ => ?_
        refine exs_ok (s := { s with heap := h3, toks := tk3 }) (m := m) G ao eo okB hbd I3 l3 _ _ fun fv h4 tk4 ρ4 I4 g4 l4 hf => ?_
        cases he2
        cases fv <;> first | exact hf.elim | skip
        exact k _ h4 tk4 ρ4 I4 ((g2.trans g3).trans g4) l4 hf
  · intro hn h2 tk2 gb
    induction rest using List.casesOn with
    | cons v0 rest => exact nomatch (drop_some hrest).1.symm.trans hn
    | nil =>
      cases forL_nil he1
      exact wpAny_execs_nil (k .next h2 tk2 ρ1 (I1.but1 gb fun a ha hb => ((hown a hb).2.2 ha).elim) (g1.skipBut gb fun b hb => (hown b hb).1) (LocIn.but (fun _ q => q) (fun _ q => q) l1 gb x1.soft) True.intro)
end
end Mine
end
section
open PySem PySem.W PyProof.Rows PySem.Calls
set_option linter.unusedSectionVars false
namespace Mine
variable [Hid]
section
variable {T : Tbl} {CA : Str → Option Addr} {K : Frag} {mg mb : Str → Option Value} {B : Heap} {prog : Program} {w : World} {A : Around} {n : Nat} {F : Funs} {s : Shared} {ρ ρ' ρb τ : Rho} {σ σ' : Sto} {env : Env} {L L' : Loc} {d : V} {h h' h0 hb : Heap} {X X0 Y P : Addr → Prop}

theorem turn_at {elt : Expr} {gens : List Comprehension} {sc : Scope} {pos : Pos} {depth : Nat} {it acc : Value} {g : Comprehension} {Q : Fin → Shared → Prop} {E : Value → Shared → Prop} (hg : gens[depth]? = some g) (ha : g.is_async = 0) (hz : ∀ g', gens[depth + 1]? = some g' → g'.is_async = 0 ∧ isSet g'.iter = false)
    (h : wpAny (model prog w) A (pyNext it) (fun r s1 => match r with
      | none => Q (.done .next) s1
      | some v => wpAny (model prog w) A (letOwnedTupleGo g.target it v) (fun _ s1' => wpAny (model prog w) A (assign g.target env v) (fun _ s2 =>
          wpAny (model prog w) A (forIn g.ifs true fun c r => if r = true then do let ok ← isTrue c env (eval c env); pure (ForInStep.yield ok) else pure (ForInStep.yield r)) (fun ok s3 =>
            if ok = true then (match gens[depth + 1]? with
              | some g' => wpAny (model prog w) A (eval g'.iter env) (fun x s4 => wpAny (model prog w) A (pyIter x) (fun it' s5 =>
                  codeAny (model prog w) A (.compStart (.ListComp elt gens sc pos) (depth + 1) it' acc env) (fun r s' => match r with | .ok _ => Q (.again (.compLoop (.ListComp elt gens sc pos) depth it acc env)) s' | .error e => cameBackBy (model prog w) A env E e s') s5) E s4) E s3
              | none => wpAny (model prog w) A (eval elt env) (fun x s4 => wpAny (model prog w) A (call (.builtin "list.append") [acc, x]) (fun _ s5 => Q (.again (.compLoop (.ListComp elt gens sc pos) depth it acc env)) s5) E s4) E s3)
            else Q (.again (.compLoop (.ListComp elt gens sc pos) depth it acc env)) s3) E s2) E s1') E s1) E s) :
    wpAny (model prog w) A (compTurn (.ListComp elt gens sc pos) depth it acc env) Q E s := by
  unfold compTurn
  dsimp only
  rw [hg]
  dsimp only
  have hae : (g.is_async != 0) = false := by rw [ha]; rfl
  rw [hae]
  simp only [Bool.false_eq_true, if_false]
  refine wpAny_bind (wpAny_standAt (wpAny_bind (wpAny_mono h (fun r s₁ h₁ => ?_) fun _ _ h' => h')))
  induction r using Option.casesOn with
  | none => exact wpAny_pure h₁
  | some v =>
    refine wpAny_bind (wpAny_mono h₁ (fun _ s₁' h₁' => ?_) fun _ _ h' => h')
    refine wpAny_bind (wpAny_mono h₁' (fun _ s₂ h₂ => wpAny_bind (wpAny_mono h₂ (fun ok s₃ h₃ => ?_) fun _ _ h' => h')) fun _ _ h' => h')
    induction ok using Bool.casesOn with
    | false => exact wpAny_pure h₃
    | true =>
      simp only [if_true] at h₃
      cases hg' : gens[depth + 1]? with
      | none =>
        rw [hg'] at h₃
        exact wpAny_bind (wpAny_bind (wpAny_mono h₃ (fun x s₄ h₄ => wpAny_bind (wpAny_mono h₄ (fun _ s₅ h₅ => wpAny_pure (wpAny_pure h₅)) fun _ _ h' => h')) fun _ _ h' => h'))
      | some g' =>
        rw [hg'] at h₃
        obtain ⟨z1, z2⟩ := hz g' hg'
        have hae' : (g'.is_async != 0) = false := by rw [z1]; rfl
        have hfs : ∀ x, foldedSetIterable g'.iter env x = pure x := by
          intro x
          cases hq : g'.iter <;> first | rfl | (rw [hq] at z2; cases z2)
        simp only [hae', Bool.false_eq_true, if_false]
        refine wpAny_bind (wpAny_mono h₃ (fun x s₄ h₄ => wpAny_bind (wpAny_standAt (wpAny_bind ?_))) fun _ _ h' => h')
        refine wpAny_of_eq (hfs x) ?_
        refine wpAny_bind (wpAny_holding (wpAny_mono h₄ (fun it' s₅ h₅ => wpAny_bind (wpAny_runOwn (codeAny_mono h₅ fun r s' hr => ?_))) fun _ _ h' => h'))
        cases r with
        | ok f => exact wpAny_pure hr
        | error e => exact hr

theorem start_at {elt : Expr} {gens : List Comprehension} {sc : Scope} {pos : Pos} {depth : Nat} {it acc : Value} {g : Comprehension} {R : Result → Shared → Prop} (hg : gens[depth]? = some g) (ha : g.is_async = 0)
    (h0 : codeAny (model prog w) A (.compLoop (.ListComp elt gens sc pos) depth it acc env) R s)
    (h : wpAny (model prog w) A (pyIter it) (fun it' s' => codeAny (model prog w) A (.compLoop (.ListComp elt gens sc pos) depth it' acc env) R s') (notedBy (model prog w) A env fun x s' => R (.error x) s') s) :
    codeAny (model prog w) A (.compStart (.ListComp elt gens sc pos) depth it acc env) R s := by
  refine codeAny_of_tree ?_
  show wpAny _ _ ((compStart (.ListComp elt gens sc pos) depth it acc env).onRaise (fun x => do noteFrame x env; standAt theWindowsPlace)) _ _ s
  refine wpAny_notedAt ?_
  unfold compStart
  have hcl : (clausesOf (.ListComp elt gens sc pos))[depth]? = some g := hg
  rw [hcl]
  have hae : (g.is_async != 0) = false := by rw [ha]; rfl
  simp only [Option.elim, hae, Bool.false_eq_true, if_false]
  show wpAny _ _ (ask >>= _) _ _ s
  refine wpAny_bind (wpAny_askSetting (wpAny_ite ?_))
  split
  · first
      | exact wpAny_bind (wpAny_pure (wpAny_pure (And.intro rfl h0)))
      | exact wpAny_pure (And.intro rfl h0)
  · first
      | exact wpAny_bind (wpAny_rule (wpAny_bind (wpAny_standAt (wpAny_bind (wpAny_mono h (fun it' s' h' => wpAny_pure (And.intro rfl h')) fun _ _ x => x)))))
      | (refine wpAny_bind (wpAny_rule ?_); show wpAny _ _ (standAt g.iter.pos >>= _) _ _ s; exact wpAny_bind (wpAny_standAt (wpAny_bind (wpAny_mono h (fun it' s' h' => wpAny_pure (And.intro rfl h')) fun _ _ x => x))))

/-- the tests of a clause -/
theorem tests_ok {m : Nat} (G : GoodF T CA B (model prog w) n F) (a : AOk A n) (eo : EnvOk env) {E : Value → Shared → Prop} : ∀ {es : List Expr} {b : Bool} {σ σ' : Sto} {s : Shared} {ρ : Rho} {Q : Bool → Shared → Prop}, es.all (okE T m env.scope) = true → tests (fun σ e => F.tst L σ e) σ es = some (b, σ') → Inv CA B s.heap ρ σ → LocIn B s.heap ρ env L →
    (∀ h' tk ρ', Inv CA B h' ρ' σ' → Go No s.heap ρ h' ρ' → Q b { s with heap := h', toks := tk }) →
    wpAny (model prog w) A (forIn es true fun c r => if r = true then do let ok ← isTrue c env (eval c env); pure (ForInStep.yield ok) else pure (ForInStep.yield r)) Q E s
  | [], b, σ, σ', s, ρ, Q, _, he, I, l, k => by
    cases he
    exact wpAny_pure (k s.heap s.toks ρ I Go.refl)
  | e :: es, b, σ, σ', s, ρ, Q, ok, he, I, l, k => by
    simp only [List.all_cons, Bool.and_eq_true] at ok
    have hrest : ∀ (es : List Expr) (s : Shared), Q false s → wpAny (model prog w) A (forIn es false fun c r => if r = true then do let ok ← isTrue c env (eval c env); pure (ForInStep.yield ok) else pure (ForInStep.yield r)) Q E s := by
      intro es
      induction es with
      | nil => intro s h; exact wpAny_pure h
      | cons e es ih =>
        intro s h
        rw [List.forIn_cons]
        simp only [Bool.false_eq_true, if_false]
        exact wpAny_bind (wpAny_pure (ih s h))
    unfold tests at he
    rw [List.forIn_cons]
    simp only [if_true]
    split at he
    · rename_i σ1 h1
      refine wpAny_bind (wpAny_bind (G.tst A env L σ e true σ1 m a eo ok.1 h1 s ρ I l _ _ fun h1 tk1 ρ1 I1 g1 => wpAny_pure ?_))
      exact tests_ok (s := { s with heap := h1, toks := tk1 }) G a eo ok.2 he I1 (l.mono I g1) fun h2 tk2 ρ2 I2 g2 => k h2 tk2 ρ2 I2 (g1.trans g2)
    · rename_i σ1 h1
      cases he
      refine wpAny_bind (wpAny_bind (G.tst A env L σ e false σ' m a eo ok.1 h1 s ρ I l _ _ fun h1 tk1 ρ1 I1 g1 => wpAny_pure ?_))
      exact hrest es _ (k h1 tk1 ρ1 I1 g1)
    · cases he
end
end Mine
end
section
open PySem PySem.W PyProof.Rows PySem.Calls
set_option linter.unusedSectionVars false
namespace Mine
variable [Hid]
section
variable {T : Tbl} {CA : Str → Option Addr} {K : Frag} {mg mb : Str → Option Value} {B : Heap} {prog : Program} {w : World} {A : Around} {n : Nat} {F : Funs} {s : Shared} {ρ ρ' ρb τ : Rho} {σ σ' : Sto} {env : Env} {L L' : Loc} {d : V} {h h' h0 hb : Heap} {X X0 Y P : Addr → Prop}

noncomputable def emitC (F : Funs) (n : Nat) (elt : Expr) (gs : List Comprehension) (L1 : Loc) (σ2 : Sto) : Option Sto := match gs with
  | [] => (match F.ev L1 σ2 elt with
    | some (w, σ3) => (match σ3[n]? with
      | some (.list l) => if decide (l.length < most) then some (σ3.set n (.list (l ++ [w]))) else none
      | _ => none)
    | none => none)
  | g :: gs' => (match F.ev L1 σ2 g.iter with
    | some (w, σ3) => (match items σ3 w with
      | some ws => clauses F n elt (g :: gs') L1 (.one w) ws σ3
      | none => none)
    | none => none)
noncomputable def turnC (F : Funs) (n : Nat) (elt t : Expr) (ifs : List Expr) (gs : List Comprehension) (L : Loc) (v : V) (σ : Sto) : Option Sto := match bindT L σ t v with
      | some L1 => (match tests (fun σ e => F.tst L1 σ e) σ ifs with
        | some (false, σ2) => some σ2
        | some (true, σ2) => emitC F n elt gs L1 σ2
        | none => none)
      | none => none
theorem clauses_cons {F : Funs} {n : Nat} {elt : Expr} {g : Comprehension} {gs : List Comprehension} {L : Loc} {it : It} {vs : List V} {σ : Sto} :
    clauses F n elt (g :: gs) L it vs σ = compL (fun σ => still σ it vs) (turnC F n elt g.target g.ifs gs L) vs σ := by
  obtain ⟨t, i, ifs, a⟩ := g
  rw [clauses]
  cases gs <;> rfl

theorem updL_out {x : Str} : ∀ {xs : List Str} {vs : List V} {L : Loc}, x ∉ xs → updL L xs vs x = L x
  | [], _, _, _ => by unfold updL; rfl
  | y :: xs, [], _, _ => by unfold updL; rfl
  | y :: xs, v :: vs, L, h => by
    unfold updL
    rw [updL_out fun q => h (.tail _ q)]
    exact if_neg fun q => h (by rw [q]; exact .head _)
theorem bindT_out {t : Expr} {x : Str} (hb : bindT L σ t d = some L') (hx : x ∉ tNames t) : L' x = L x := by
  unfold bindT at hb
  split at hb
  · cases hb; exact if_neg fun q => hx (by rw [q]; exact .head _)
  · split at hb
    · rename_i hxs
      split at hb
      · cases hb; rw [names_t hxs] at hx; exact updL_out hx
      · cases hb
    · rename_i hxs
      split at hb
      · split at hb
        · cases hb; rw [names_t hxs] at hx; exact updL_out hx
        · cases hb
      · cases hb
    · cases hb
  · cases hb

theorem LocIn.less (l : LocIn B h ρ env L') (hL : ∀ x d, L x = some d → L' x = some d) : LocIn B h ρ env L :=
  ⟨l.ns, l.off, fun x d hx hv => l.rd x d (hL x d hx) hv, l.cell, l.cells, l.apart, l.nb⟩

structure OkG (T : Tbl) (m : Nat) (env : Env) (g : Comprehension) : Prop where
  as_ : g.is_async = 0
  tg : okTarget env.scope g.target = true
  loc : ∀ x ∈ tNames g.target, env.kindOf x = some .local
  set : isSet g.iter = false
  ifs : g.ifs.all (okE T m env.scope) = true

theorem LocIn.softL (l : LocIn B h ρ env L) : Soft (fun b => b = env.locals) h := by
  rintro b o rfl e
  obtain ⟨m, o', es, ep, e', hd, _⟩ := l.ns
  rw [e] at e'; cases e'
  exact .inl ⟨_, _, hd⟩

noncomputable def emitP (prog : Program) (w : World) (A : Around) (gens : List Comprehension) (depth : Nat) (elt : Expr) (sc : Scope) (pos : Pos) (env : Env) (acc : Value) (Q' : Shared → Prop) (E : Value → Shared → Prop) (s3 : Shared) : Prop := match gens[depth + 1]? with
  | some g' => wpAny (model prog w) A (eval g'.iter env) (fun x s4 => wpAny (model prog w) A (pyIter x) (fun it' s5 =>
      codeAny (model prog w) A (.compStart (.ListComp elt gens sc pos) (depth + 1) it' acc env) (fun r s' => match r with | .ok _ => Q' s' | .error e => cameBackBy (model prog w) A env E e s') s5) E s4) E s3
  | none => wpAny (model prog w) A (eval elt env) (fun x s4 => wpAny (model prog w) A (call (.builtin "list.append") [acc, x]) (fun _ s5 => Q' s5) E s4) E s3

theorem compL_chk {chk : Sto → Bool} {f : V → Sto → Option Sto} {vs : List V} (h : compL chk f vs σ = some σ') : chk σ = true := by
  cases hc : chk σ with
  | true => rfl
  | false => cases vs <;> (unfold compL at h; rw [hc] at h; exact nomatch h)
theorem compL_nil {chk : Sto → Bool} {f : V → Sto → Option Sto} (h : compL chk f [] σ = some σ') : σ' = σ := by
  have hc := compL_chk h
  unfold compL at h
  rw [hc] at h
  exact (Option.some.inj h).symm
theorem compL_cons {chk : Sto → Bool} {f : V → Sto → Option Sto} {v : V} {vs : List V} (h : compL chk f (v :: vs) σ = some σ') : ∃ σ1, f v σ = some σ1 ∧ compL chk f vs σ1 = some σ' := by
  have hc := compL_chk h
  unfold compL at h
  rw [hc] at h
  cases hf : f v σ with
  | none => rw [hf] at h; cases h
  | some σ1 => rw [hf] at h; exact ⟨σ1, rfl, h⟩
theorem turnC_of {n0 : Nat} {elt t : Expr} {ifs : List Expr} {gs : List Comprehension} {v : V} (h : turnC F n0 elt t ifs gs L v σ = some σ') : ∃ L1, bindT L σ t v = some L1 ∧ ∃ b σ2, tests (fun σ e => F.tst L1 σ e) σ ifs = some (b, σ2) ∧ (if b then emitC F n0 elt gs L1 σ2 else some σ2) = some σ' := by
  unfold turnC at h
  cases hb : bindT L σ t v with
  | none => rw [hb] at h; cases h
  | some L1 =>
    rw [hb] at h
    dsimp only at h
    refine ⟨L1, rfl, ?_⟩
    cases ht : tests (fun σ e => F.tst L1 σ e) σ ifs with
    | none => rw [ht] at h; exact nomatch h
    | some p =>
      obtain ⟨b, σ2⟩ := p
      rw [ht] at h
      exact ⟨b, σ2, rfl, by cases b <;> exact h⟩

/-- what stands ahead of each turn of a clause -/
noncomputable def CompI (CA : Str → Option Addr) (B : Heap) (env : Env) (f : V → Sto → Option Sto) (s : Shared) (X0 : Addr → Prop) (hb : Heap) (ρb : Rho) (L : Loc) (it : It) (all : List V) (Iv : Value) (own : List Addr) (n0 : Nat) (D : Addr) (σ' : Sto) (c : Nat) (s' : Shared) : Prop :=
  ∀ C : Prop, (∀ rest σ1 h1 tk ρ1 i, s' = { s with heap := h1, toks := tk } → all.drop i = rest → c = rest.length → compL (fun σ => still σ it all) f rest σ1 = some σ' →
    Inv CA B h1 ρ1 σ1 → Go X0 hb ρb h1 ρ1 → LocIn B h1 ρ1 env L → ItAt h1 ρ1 it all i Iv own → ρ1[n0]? = some (D, D) → C) → C

section
variable {elt : Expr} {gens gs : List Comprehension} {g : Comprehension} {depth : Nat} {sc : Scope} {pos : Pos} {m n0 : Nat} {D : Addr} (G : GoodF T CA B (model prog w) n F) (ao : AOk A n) (eo : EnvOk env) (hdrop : gens.drop depth = g :: gs)
    (okg : OkG T m env g) (okgs : ∀ g' ∈ gs, g'.is_async = 0 ∧ isSet g'.iter = false)
    (hin : ∀ {L1 : Loc} {σ2 σ3 : Sto} {s : Shared} {ρ : Rho} {Q' : Shared → Prop} {E : Value → Shared → Prop}, (∀ x ∈ gs.flatMap fun g => tNames g.target, L1 x = none) → emitC F n0 elt gs L1 σ2 = some σ3 → Inv CA B s.heap ρ σ2 → LocIn B s.heap ρ env L1 → ρ[n0]? = some (D, D) →
      (∀ h' tk ρ', Inv CA B h' ρ' σ3 → Go (fun b => b = env.locals) s.heap ρ h' ρ' → LocIn B h' ρ' env L1 → Q' { s with heap := h', toks := tk }) → emitP prog w A gens depth elt sc pos env (.ref D) Q' E s)
    (hnd : ((g :: gs).flatMap fun g => tNames g.target).Nodup)
    {P2 : Addr → Prop} {it : It} {all : List V} {Iv : Value} {own : List Addr} {L : Loc} {σ σ' : Sto} {s : Shared} {ρ ρb : Rho} {hb : Heap} {X0 : Addr → Prop} {R : Result → Shared → Prop} (hL : ∀ x ∈ (g :: gs).flatMap fun g => tNames g.target, L x = none)
      (hown : ∀ b ∈ own, hb.get? b = none ∧ B.get? b = none ∧ ¬ P2 b) (hz : (∃ v, it = .one v) ∨ isTuple g.target = true) (le : ∀ a, P2 a → Hid.H a) (hX : hb.get? env.locals = none ∨ X0 env.locals)

include G ao eo okg hin hnd hL hX in
/-- one turn, its value at hand -/
theorem comp_turn {dv : V} {rest : List V} {σ1 : Sto} {h2 : Heap} {tk2 : Nat} {ρ1 : Rho} {i : Nat} {v : Value} {Q' : Shared → Prop} {E : Value → Shared → Prop} (he : compL (fun σ => still σ it all) (turnC F n0 elt g.target g.ifs gs L) (dv :: rest) σ1 = some σ') (e2 : all.drop (i + 1) = rest)
    (I2 : Inv CA B h2 ρ1 σ1) (g2 : Go X0 hb ρb h2 ρ1) (l2 : LocIn B h2 ρ1 env L) (hv : VIn h2 ρ1 dv v) (x2 : ItAt h2 ρ1 it all (i + 1) Iv own) (hD1 : ρ1[n0]? = some (D, D))
    (kk : ∀ s', CompI CA B env (turnC F n0 elt g.target g.ifs gs L) s X0 hb ρb L it all Iv own n0 D σ' rest.length s' → Q' s') :
    wpAny (model prog w) A (assign g.target env v) (fun _ s2 => wpAny (model prog w) A (forIn g.ifs true fun c r => if r = true then do let ok ← isTrue c env (eval c env); pure (ForInStep.yield ok) else pure (ForInStep.yield r)) (fun ok s3 => if ok = true then emitP prog w A gens depth elt sc pos env (.ref D) Q' E s3 else Q' s3) E s2) E { s with heap := h2, toks := tk2 } := by
  obtain ⟨σ4, hq, he1⟩ := compL_cons he
  obtain ⟨L1, hbt, b, σ2, htst, hem⟩ := turnC_of hq
  have hm : ∀ y, y ∈ tNames g.target → L y = none := fun y hy => hL y (by rw [List.flatMap_cons]; exact List.mem_append.mpr (.inl hy))
  have hback : ∀ x d, L x = some d → L1 x = some d := fun y dy hy => by
    rw [bindT_out hbt fun q => nomatch (hm y q).symm.trans hy]; exact hy
  have hL1 : ∀ x ∈ gs.flatMap fun g => tNames g.target, L1 x = none := fun y hy => by
    rw [List.flatMap_cons] at hnd hL
    rw [bindT_out hbt fun q => (List.nodup_append.mp hnd).2.2 y q y hy rfl]
    exact hL y (List.mem_append.mpr (.inr hy))
  refine asg_ok (s := { s with heap := h2, toks := tk2 }) ao.hd eo okg.tg hbt I2 l2 hv fun h3 tk3 I3 g3 l3 q3 => ?_
  have g3' : Go X0 hb ρb h3 ρ1 := g2.skip (q3 okg.loc) fun b hb => by rw [hb]; exact hX
  have x3 := x2.go I2 l2.soft g3
  refine tests_ok (s := { s with heap := h3, toks := tk3 }) (m := m) G ao eo okg.ifs htst I3 l3 fun h4 tk4 ρ4 I4 g4 => ?_
  have l4 := l3.mono I3 g4
  have x4 := x3.go I3 Soft.no g4
  have g4' := g3'.trans g4.weaken
  have hD4 := g4.get hD1
  induction b using Bool.casesOn with
  | false =>
    rw [if_neg (by decide)] at hem ⊢
    rw [Option.some.inj hem] at I4
    exact kk _ fun C k => k rest _ h4 tk4 ρ4 (i + 1) rfl e2 rfl he1 I4 g4' (l4.less hback) x4 hD4
  | true =>
    rw [if_pos rfl] at hem ⊢
    exact hin (s := { s with heap := h4, toks := tk4 }) hL1 hem I4 l4 hD4 fun h5 tk5 ρ5 I5 g5 l5 =>
      kk _ fun C k => k rest σ4 h5 tk5 ρ5 (i + 1) rfl e2 rfl he1 I5 (g4'.skip g5 (fun b hb => by rw [hb]; exact hX)) (l5.less hback) (x4.go I4 l4.softL g5) (g5.get hD4)

include G ao eo hdrop okg okgs hin hnd hL hown hz le hX in
theorem comp_loop (he : clauses F n0 elt (g :: gs) L it all σ = some σ') (I : Inv CA B s.heap ρ σ) (gg : Go X0 hb ρb s.heap ρ) (l : LocIn B s.heap ρ env L) (x : ItAt s.heap ρ it all 0 Iv own) (hD : ρ[n0]? = some (D, D))
      (k : ∀ h' tk ρ', @Inv ⟨P2⟩ CA B h' ρ' σ' → Go X0 hb ρb h' ρ' → @LocIn ⟨P2⟩ B h' ρ' env L → ρ'[n0]? = some (D, D) → R (.ok .next) { s with heap := h', toks := tk }) : codeAny (model prog w) A (.compLoop (.ListComp elt gens sc pos) depth Iv (.ref D) env) R s := by
  rw [clauses_cons] at he
  refine codeAny_loop rfl (CompI CA B env (turnC F n0 elt g.target g.ifs gs L) s X0 hb ρb L it all Iv own n0 D σ') (fun c s' hI => hI _ fun rest σ1 h1 tk ρ1 i es hrest ec he1 I1 g1 l1 x1 hD1 => ?_) all.length
    (fun C k => k all σ s.heap s.toks ρ 0 rfl rfl rfl he I gg l x hD)
  rw [es, ec]
  have hg0 : gens[depth]? = some g := by
    have := congrArg (·[0]?) hdrop
    simpa [List.getElem?_drop] using this
  have hg1 : gens[depth + 1]? = gs[0]? := by
    have := congrArg (·[1]?) hdrop
    simpa [List.getElem?_drop] using this
  show wpAny _ A ((compTurn (.ListComp elt gens sc pos) depth Iv (.ref D) env).onRaise (fun x => do noteFrame x env; theTreesLotGoes x)) _ _ _
  refine wpAny_noted ?_
  refine turn_at hg0 okg.as_ (fun g' hg' => okgs g' (List.mem_of_getElem? (hg1 ▸ hg'))) ?_
  refine step_ok (s := { s with heap := h1, toks := tk }) (t := g.target) ao.hd x1 (fun b hb => (hown b hb).2.1) (compL_chk he1) hz I1 ?_ ?_
  · intro dv v h2' tk2 hi go
    refine go _ _ fun h2 gb lv I2 hv x2 => ?_
    induction rest using List.casesOn with
    | nil => exact nomatch (drop_none hrest).symm.trans hi
    | cons v0 rest =>
      obtain ⟨e1, e2⟩ := drop_some hrest
      rw [Option.some.inj (e1.symm.trans hi)] at he1
      exact comp_turn (Q' := fun s' => _) G ao eo okg hin hnd hL hX he1 e2 I2 (g1.skipBut gb fun b hb => (hown b hb).1) (LocIn.but (fun _ q => q) (fun _ q => q) l1 gb x1.soft) hv x2 hD1 fun s' hs => ⟨rfl, rest.length, Nat.lt_succ_self _, hs⟩
  · intro hn h2 tk2 gb
    induction rest using List.casesOn with
    | cons v0 rest => exact nomatch (drop_some hrest).1.symm.trans hn
    | nil =>
      have e := compL_nil he1
      subst e
      refine k h2 tk2 ρ1 (Inv.but (fun _ q => q) le I1 gb fun a ha => ?_) (g1.skipBut gb fun b hb => (hown b hb).1) (LocIn.but (fun _ q => q) le l1 gb x1.soft) hD1
      obtain ⟨o, e, hc, its, nn, hd⟩ := (I1.hid a (le a ha)).2
      exact ⟨o, gb.ext a o e fun hm => (hown a hm).2.2 ha, hc, its, nn, hd⟩
end

/-- the clauses of a comprehension, from one on -/
theorem comp_ok {elt : Expr} {gens : List Comprehension} {sc : Scope} {pos : Pos} {m n0 : Nat} {D : Addr} (G : GoodF T CA B (model prog w) n F) (ao : AOk A n) (eo : EnvOk env) (okElt : okE T m env.scope elt = true) : ∀ (gs : List Comprehension) (g : Comprehension) (depth : Nat), gens.drop depth = g :: gs →
    OkG T m env g → (∀ g' ∈ gs, OkG T m env g' ∧ okE T m env.scope g'.iter = true) → ((g :: gs).flatMap fun g => tNames g.target).Nodup →
    ∀ {P2 : Addr → Prop} {it : It} {all : List V} {Iv : Value} {own : List Addr} {L : Loc} {σ σ' : Sto} {s : Shared} {ρ ρb : Rho} {hb : Heap} {X0 : Addr → Prop} {R : Result → Shared → Prop}, (∀ x ∈ (g :: gs).flatMap fun g => tNames g.target, L x = none) →
      (∀ b ∈ own, hb.get? b = none ∧ B.get? b = none ∧ ¬ P2 b) → ((∃ v, it = .one v) ∨ isTuple g.target = true) → (∀ a, P2 a → Hid.H a) → (hb.get? env.locals = none ∨ X0 env.locals) →
      clauses F n0 elt (g :: gs) L it all σ = some σ' → Inv CA B s.heap ρ σ → Go X0 hb ρb s.heap ρ → LocIn B s.heap ρ env L → ItAt s.heap ρ it all 0 Iv own → ρ[n0]? = some (D, D) →
      (∀ h' tk ρ', @Inv ⟨P2⟩ CA B h' ρ' σ' → Go X0 hb ρb h' ρ' → @LocIn ⟨P2⟩ B h' ρ' env L → ρ'[n0]? = some (D, D) → R (.ok .next) { s with heap := h', toks := tk }) → codeAny (model prog w) A (.compLoop (.ListComp elt gens sc pos) depth Iv (.ref D) env) R s := by
  intro gs
  induction gs with
  | nil =>
    intro g depth hdrop okg _ hnd P2 it all Iv own L σ σ' s ρ ρb hb X0 R hL hown hz le hX he I gg l x hD k
    refine comp_loop G ao eo hdrop okg (fun g' hg' => nomatch hg') ?_ hnd hL hown hz le hX he I gg l x hD k
    intro L1 σ2 σ3 s ρ Q' E _ hem I l hD kk
    have hg1 : gens[depth + 1]? = none := by
      have := congrArg (·[1]?) hdrop
      simpa [List.getElem?_drop] using this
    unfold emitP
    rw [hg1]
    unfold emitC at hem
    dsimp only at hem ⊢
    split at hem
    · rename_i wv σ4 h1
      split at hem
      · rename_i ll e1
        split at hem
        · rename_i hsz
          cases hem
          refine G.ev A env L1 σ2 elt wv σ4 m ao eo okElt h1 s ρ I l _ _ fun v h5 tk5 ρ5 I5 g5 hv => ?_
          have hD5 := g5.get hD
          obtain ⟨a', us, c, e', hp, hx, r⟩ := I5.list (s := { s with heap := h5, toks := tk5 }) e1 (VIn.obj (p := (D, D)) hD5)
          cases e'
          have hsz' := of_decide_eq_true hsz
          refine wpAny_list_append_plain ⟨c, hx⟩ (fun hc pc sc => ?_) (by rw [list_of_set (s := { s with heap := h5, toks := tk5 }) r]; exact most_lt (Nat.le_of_lt hsz'))
          have T := I5.turn (p := (D, D)) (ob := .list (ll ++ [wv])) hD5 sc (by obtain ⟨z, e⟩ := pc; exact ⟨_, e⟩) fun g => by
            have e : us.toArray.push v = (us ++ [v]).toArray := by simp
            rw [e] at pc
            exact .list pc ((r.append (.cons hv .nil)).mono Soft.no I5 g)
          have gg := g5.trans T.2
          exact kk hc tk5 ρ5 T.1 gg.weaken (l.mono I gg)
        · cases hem
      · cases hem
    · cases hem
  | cons g' gs ih =>
    intro g depth hdrop okg okgs hnd P2 it all Iv own L σ σ' s ρ ρb hb X0 R hL hown hz le hX he I gg l x hD k
    refine comp_loop G ao eo hdrop okg (fun g' hg' => ⟨(okgs g' hg').1.as_, (okgs g' hg').1.set⟩) ?_ hnd hL hown hz le hX he I gg l x hD k
    intro L1 σ2 σ3 s ρ Q' E hL1 hem I l hD kk
    have hg1 : gens[depth + 1]? = some g' := by
      have := congrArg (·[1]?) hdrop
      simpa [List.getElem?_drop] using this
    have hdrop' : gens.drop (depth + 1) = g' :: gs := by rw [← List.drop_drop, hdrop]; rfl
    unfold emitP
    rw [hg1]
    unfold emitC at hem
    dsimp only at hem ⊢
    split at hem
    · rename_i wv σ4 h1
      split at hem
      · rename_i ws hws
        refine G.ev A env L1 σ2 g'.iter wv σ4 m ao eo (okgs g' (.head _)).2 h1 s ρ I l _ _ fun v h5 tk5 ρ5 I5 g5 hv => ?_
        refine iter_ok (s := { s with heap := h5, toks := tk5 }) hws I5 hv fun h6 Iv6 own6 kp x6 hf => ?_
        have I6 := I5.grow kp
        have g6 : Go No h5 ρ5 h6 ρ5 := Go.grow kp
        have l6 := (l.mono I g5).mono I5 g6
        have hnd' : ((g' :: gs).flatMap fun g => tNames g.target).Nodup := by
          rw [List.flatMap_cons] at hnd
          exact (List.nodup_append.mp hnd).2.1
        have body := fun (R : Result → Shared → Prop) (k : ∀ h' tk ρ', Inv CA B h' ρ' σ3 → Go (fun b => b = env.locals) h5 ρ5 h' ρ' → LocIn B h' ρ' env L1 → ρ'[n0]? = some (D, D) → R (.ok .next) { s with heap := h', toks := tk }) =>
          ih g' (depth + 1) hdrop' (okgs g' (.head _)).1 (fun g2 hg2 => okgs g2 (.tail _ hg2)) hnd' (P2 := Hid.H) (it := .one wv) (all := ws) (Iv := Iv6) (own := own6) (L := L1) (σ := σ4) (σ' := σ3) (s := { s with heap := h6, toks := tk5 }) (ρ := ρ5) (ρb := ρ5) (hb := h5) (X0 := fun b => b = env.locals) (R := R) hL1 hf (.inl ⟨_, rfl⟩) (fun _ q => q) (.inr rfl) hem I6 g6.weaken l6 x6 (g5.get hD) k
        refine start_at hg1 (okgs g' (.head _)).1.as_ (body _ fun h7 tk7 ρ7 I7 g7 l7 _ => kk h7 tk7 ρ7 I7 (g5.weaken.trans g7) l7) (self_ok (s := { s with heap := h6, toks := tk5 }) x6 (body _ fun h7 tk7 ρ7 I7 g7 l7 _ => kk h7 tk7 ρ7 I7 (g5.weaken.trans g7) l7))
      · exact nomatch hem
    · cases hem
end
end Mine
end
section
open PySem PySem.W PyProof.Rows PySem.Calls
set_option linter.unusedSectionVars false
namespace Mine
variable [Hid]
section
variable {T : Tbl} {CA : Str → Option Addr} {K : Frag} {mg mb : Str → Option Value} {B : Heap} {prog : Program} {w : World} {A : Around} {n : Nat} {F : Funs} {s : Shared} {ρ ρ' ρb τ : Rho} {σ σ' : Sto} {env : Env} {L L' : Loc} {d : V} {h h' h0 hb : Heap} {X X0 Y P P1 : Addr → Prop}

section
variable (kp : ∀ b o, h.get? b = Option.some o → h'.get? b = Option.some o) (p : ∀ a, P1 a → Hid.H a ∨ h.get? a = Option.none)
include kp p
theorem tup_enter : ∀ a vs, IsTup h a vs → ¬ Hid.H a → IsTup h' a vs ∧ ¬ P1 a := fun _ _ ht hh => ⟨ht.elim fun o q => ⟨o, kp _ _ q.1, q.2⟩, fun q => by
      rcases p _ q with q | q
      · exact hh q
      · obtain ⟨o, e, _⟩ := ht; rw [q] at e; cases e⟩
theorem VIn.enter {d : V} {v : Value} (x : VIn h ρ d v) : @VIn ⟨P1⟩ h' ρ d v :=
  VIn.map (H2 := ⟨P1⟩) tt1 tt2 (fun _ _ => trivial) (fun _ _ _ => ⟨trivial, trivial⟩) (tup_enter kp p) (fun _ _ _ e => e) (fun _ _ _ _ _ _ r => kp _ _ r) x trivial
theorem VAll.enter {l : List V} {vs : List Value} (x : VAll h ρ l vs) : @VAll ⟨P1⟩ h' ρ l vs :=
  VAll.map (H2 := ⟨P1⟩) tt1 tt2 (fun _ _ => trivial) (fun _ _ _ => ⟨trivial, trivial⟩) (tup_enter kp p) (fun _ _ _ e => e) (fun _ _ _ _ _ _ r => kp _ _ r) x trivial
theorem FsIn.enter {fs : List (Str × V)} {es : List DictEntry} (H : FsIn h ρ fs es) : @FsIn ⟨P1⟩ h' ρ fs es := by
  induction H with
  | nil => exact @FsIn.nil ⟨P1⟩ _ _
  | cons a b c ih => exact @FsIn.cons ⟨P1⟩ _ _ _ _ _ _ _ a (VIn.enter kp p b) ih
theorem Inv.enter (I : Inv CA B h ρ σ) (hid : ∀ a, P1 a → ¬ Hid.H a → ∃ o, h'.get? a = some o ∧ o.cls = .type "tuple" ∧ ∃ its n, o.data = .seq its n) : @Inv ⟨P1⟩ CA B h' ρ σ := by
  refine @Inv.mk ⟨P1⟩ CA B h' ρ σ (fun b o e => kp b o (I.keep b o e)) I.len (fun i ob q e f => ?_) I.nd I.fr fun a ha => ?_
  · have := I.obs i ob q e f
    induction this using ObIn.casesOn with
    | list pl r => exact @ObIn.list ⟨P1⟩ _ _ _ _ _ _ (PlainList.keep pl (kp _)) (VAll.enter kp p r)
    | inst hc hx hd hf => exact @ObIn.inst ⟨P1⟩ _ _ _ _ _ _ _ _ _ _ hc (kp _ _ hx) (kp _ _ hd) (FsIn.enter kp p hf)
  · by_cases q : Hid.H a
    · obtain ⟨b, o, e, r⟩ := I.hid a q; exact ⟨b, o, kp _ _ e, r⟩
    · refine ⟨?_, hid a ha q⟩
      rcases p a ha with q' | q'
      · exact absurd q' q
      · cases e : B.get? a with
        | none => rfl
        | some o => rw [I.keep _ _ e] at q'; cases q'
theorem LocIn.enter (l : LocIn B h ρ env L) : @LocIn ⟨P1⟩ B h' ρ env L := by
  have hns : ∀ m, h.Ns env.locals m → h'.Ns env.locals m := fun m ⟨o, es, ep, e, r⟩ => ⟨o, es, ep, kp _ _ e, r⟩
  have hcl : ∀ c v, h.IsCell c v → h'.IsCell c v := fun c v ⟨o, e, r⟩ => ⟨o, kp _ _ e, r⟩
  refine @LocIn.mk ⟨P1⟩ B h' ρ env L (l.ns.elim fun m hm => ⟨m, hns m hm⟩) l.off (fun x d hx hv => ?_) l.cell (fun x c hx => (l.cells x c hx).elim fun v hv => ⟨v, hcl c _ hv⟩) l.apart l.nb
  obtain ⟨v, hV, q⟩ := l.rd x d hx hv
  refine ⟨v, VIn.enter kp p hV, ?_⟩
  rcases q with ⟨k, m, hm, e⟩ | ⟨k, c, hc, e⟩
  · exact .inl ⟨k, m, hns m hm, e⟩
  · exact .inr ⟨k, c, hc, hcl c _ e⟩
end

theorem closure_ok : ∀ (names : List (Str × NameKind)), (∀ x ∈ names, x.2 = .free → ∃ c, env.cells.lookup x.1 = some c) → ∀ acc : List (Str × Addr), ∃ cl, (forIn names acc fun (p : Str × NameKind) (cs : List (Str × Addr)) => (if p.2 == .free then do let c ← cellOf env p.1; pure (ForInStep.yield ((p.1, c) :: cs)) else pure (ForInStep.yield cs) : Sem _)) = pure cl ∧
    (∀ x c, cl.lookup x = some c → env.cells.lookup x = some c ∨ acc.lookup x = some c) ∧ (∀ x, ((x, NameKind.free) ∈ names ∨ (acc.lookup x).isSome) → (cl.lookup x).isSome)
  | [], _, acc => ⟨acc, rfl, fun _ _ h => .inr h, fun x h => h.elim (fun q => nomatch q) id⟩
  | (y, kd) :: names, h, acc => by
    by_cases hk : kd = .free
    · subst hk
      obtain ⟨c, hc⟩ := h (y, .free) (.head _) rfl
      obtain ⟨cl, e, h1, h2⟩ := closure_ok names (fun x hx => h x (.tail _ hx)) ((y, c) :: acc)
      refine ⟨cl, ?_, fun x c' hx => ?_, fun x hx => ?_⟩
      · rw [List.forIn_cons]
        have : cellOf env y = pure c := by unfold cellOf; rw [hc]
        simp only [beq_self_eq_true, if_true, this]
        exact e
      · rcases h1 x c' hx with q | q
        · exact .inl q
        · rw [List.lookup_cons] at q
          by_cases hxy : x = y
          · subst hxy
            simp only [beq_self_eq_true] at q
            cases q; exact .inl hc
          · have : (x == y) = false := by simpa using hxy
            rw [this] at q; exact .inr q
      · refine h2 x ?_
        by_cases hxy : x = y
        · subst hxy; exact .inr (by rw [List.lookup_cons]; simp)
        · have q1 : (x == y) = false := by simpa using hxy
          rcases hx with hx | hx
          · rcases List.mem_cons.mp hx with hx | hx
            · cases hx; exact absurd rfl hxy
            · exact .inl hx
          · exact .inr (by rw [List.lookup_cons, q1]; exact hx)
    · obtain ⟨cl, e, h1, h2⟩ := closure_ok names (fun x hx => h x (.tail _ hx)) acc
      refine ⟨cl, ?_, h1, fun x hx => h2 x ?_⟩
      · rw [List.forIn_cons]
        have : (kd == NameKind.free) = false := by simpa using hk
        simp only [this, Bool.false_eq_true, if_false]
        exact e
      · rcases hx with hx | hx
        · rcases List.mem_cons.mp hx with hx | hx
          · cases hx; exact absurd rfl hk
          · exact .inl hx
        · exact .inr hx

theorem closure_for {sc : Scope} (h : ∀ x ∈ sc.names, x.2 = .free → ∃ c, env.cells.lookup x.1 = some c) : ∃ cl, closureFor sc env = pure cl ∧ (∀ x c, cl.lookup x = some c → env.cells.lookup x = some c) ∧ (∀ x, (x, NameKind.free) ∈ sc.names → ∃ c, cl.lookup x = some c) := by
  obtain ⟨cl, e, h1, h2⟩ := closure_ok sc.names h []
  refine ⟨cl, ?_, fun x c hx => (h1 x c hx).resolve_right (by simp), fun x hx => Option.isSome_iff_exists.mp (h2 x (.inl hx))⟩
  unfold closureFor
  have e' : (forIn sc.names ([] : List (Str × Addr)) fun (p : Str × NameKind) (cs : List (Str × Addr)) => (match p with | (name, kind) => if kind == .free then do let c ← cellOf env name; pure (ForInStep.yield ((name, c) :: cs)) else pure (ForInStep.yield cs) : Sem _)) = pure cl := e
  simp only [bind_pure]
  exact e'

/-- what is gone over is evaluated, and an iterator made -/
noncomputable def OverK (CA : Str → Option Addr) (B : Heap) (t : Expr) (env : Env) (L : Loc) (s : Shared) (ρ : Rho) (wv : It) (vs : List V) (σ1 : Sto) (Q : Value → Shared → Prop) : Prop :=
  ∀ (P1 : Addr → Prop) Iv own h' tk ρ', (∀ a, Hid.H a → P1 a) → @Inv ⟨P1⟩ CA B h' ρ' σ1 → Go No s.heap ρ h' ρ' → @ItAt ⟨P1⟩ h' ρ' wv vs 0 Iv own → (∀ b ∈ own, s.heap.get? b = none ∧ B.get? b = none ∧ ¬ Hid.H b) → @LocIn ⟨P1⟩ B h' ρ' env L → ((∃ v, wv = .one v) ∨ isTuple t = true) → Q Iv { s with heap := h', toks := tk }
noncomputable def Over (CA : Str → Option Addr) (B : Heap) (prog : Program) (w : World) (A : Around) (t it : Expr) (env : Env) (L : Loc) (s : Shared) (ρ : Rho) (wv : It) (vs : List V) (σ1 : Sto) : Prop :=
  ∀ (Q : Value → Shared → Prop) (E : Value → Shared → Prop), OverK CA B t env L s ρ wv vs σ1 Q → wpAny (model prog w) A (eval it env) (fun x s1 => wpAny (model prog w) A (pyIter x) Q E s1) E s

theorem Go.old (g : Go No h ρ h' ρ') {b : Addr} (e : h'.get? b = none) : h.get? b = none := by
  cases q : h.get? b with
  | none => rfl
  | some o => obtain ⟨o', e'⟩ := g.live b o q; rw [e] at e'; cases e'
theorem Inv.oldB (I : Inv CA B h ρ σ) {b : Addr} (e : h.get? b = none) : B.get? b = none := by
  cases q : B.get? b with
  | none => rfl
  | some o => rw [I.keep _ _ q] at e; exact nomatch e

theorem over_one {t it : Expr} {m : Nat} {v : V} {vs : List V} {σ1 : Sto} (G : GoodF T CA B (model prog w) n F) (ao : AOk A n) (eo : EnvOk env) (ok : okE T m env.scope it = true) (h1 : F.ev L σ it = some (v, σ1)) (h2 : items σ1 v = some vs) (I : Inv CA B s.heap ρ σ) (l : LocIn B s.heap ρ env L) :
    Over CA B prog w A t it env L s ρ (.one v) vs σ1 := fun Q E k =>
  G.ev A env L σ it v σ1 m ao eo ok h1 s ρ I l _ _ fun u h1 tk1 ρ1 I1 g1 hu =>
    iter_ok (s := { s with heap := h1, toks := tk1 }) h2 I1 hu fun h2 Iv own kp x hf =>
      k Hid.H Iv own h2 tk1 ρ1 (fun _ q => q) (I1.grow kp) (g1.trans (Go.grow kp)) x (fun b hb => ⟨g1.old (hf b hb).1, (hf b hb).2⟩) ((l.mono I g1).mono I1 (Go.grow kp)) (.inl ⟨_, rfl⟩)

theorem over_zip {t : Expr} {m mm kk : Nat} {x : Str} {q pos : Pos} {a b : Expr} {ll rr : List V} {σ1 σ2 : Sto} (g : Gnd T CA K mg mb B) (G : GoodF T CA B (model prog w) n F) (ao : AOk A n) (eo : EnvOk env) (ok : okE T m env.scope (.Call (.Name x q) [a, b] [] pos) = true) (ht : isTuple t = true) (hzip : T.kind x = some (.bi .zip))
    (hv : F.ev L σ a = some (.obj mm, σ2)) (hw : F.ev L σ2 b = some (.obj kk, σ1)) (e1 : σ1[mm]? = some (.list ll)) (e2 : σ1[kk]? = some (.list rr)) (I : Inv CA B s.heap ρ σ) (l : LocIn B s.heap ρ env L) :
    Over CA B prog w A t (.Call (.Name x q) [a, b] [] pos) env L s ρ (.two mm kk) (zipT ll rr) σ1 := by
  intro Q E k
  induction m using Nat.casesOn with
  | zero => exact nomatch ok
  | succ m =>
    have hd : (x == ("__debug__" : Str)) = false := by simpa using an1 (an2 ok)
    have hg : env.kindOf x = some .globalImplicit := beq_iff_eq.mp (an2 (an2 ok))
    obtain ⟨m1, m2⟩ := g.bi x .zip hzip
    have h1 : evs (F.ev L) σ [a, b] = some ([.obj mm, .obj kk], σ1) := by unfold evs; rw [hv]; dsimp only; unfold evs; rw [hw]; rfl
    refine wpAny_Call_NameR (Name_function_global eo.kind hg (loadGlobal_builtin (by rw [eo.gl]; exact g.ns I) m1 (by rw [eo.bi]; exact g.nb I) m2 ?_) hd)
    refine callW (m := m) G ao eo (keep_bi .zip) (an1 (an1 ok)) h1 I l fun ws h2 tk2 ρ2 I2 g2 hw2 => ?_
    cases hw2 with
    | @cons _ u1 _ us y1 y2 =>
      cases y2 with
      | @cons _ u2 _ us y2 y3 =>
        cases y3
        obtain ⟨a1, us1, c1, rfl, hp1, hL1, r1⟩ := I2.list (s := { s with heap := h2, toks := tk2 }) e1 y1
        obtain ⟨a2, us2, c2, rfl, hp2, hL2, r2⟩ := I2.list (s := { s with heap := h2, toks := tk2 }) e2 y2
        refine call_zip_2 (s := { s with heap := h2, toks := tk2 }) (PySem.IsL.isList (n := c1) hL1) (PySem.IsL.isList (n := c2) hL2) fun h3 z1 z2 z3 z4 z5 _ kp => ?_
        have lt1 : @LT.lt Nat instLTNat a1 h2.objs.size := Heap.lt_size hL1
        have lt2 : @LT.lt Nat instLTNat a2 h2.objs.size := Heap.lt_size hL2
        dsimp only at z1 z2 z3 z4 z5
        have fresh : ∀ b, h2.objs.size ≤ b → h2.get? b = none := fun b hb => by
          cases q : h2.get? b with
          | none => rfl
          | some o => exact absurd (Heap.lt_size q) (Nat.not_lt.mpr hb)
        generalize hN : (h2.objs.size : Nat) = N at z1 z2 z3 z4 z5 lt1 lt2 fresh
        refine wpAny_pyIter_zip (s := { s with heap := h3, toks := tk2 }) z1 ?_
        have p : ∀ a, (Hid.H a ∨ a = N + 3) → Hid.H a ∨ h2.get? a = none := fun a q => q.imp id fun q => fresh a (by rw [q]; exact Nat.le_add_right _ _)
        have D : ZipApart (N + 4) (N + 2) (N + 3) N (N + 1) a1 a2 := by constructor <;> (refine fun (q : @Eq Nat _ _) => ?_) <;> lia
        refine k (fun a => Hid.H a ∨ a = N + 3) (.ref (N + 4)) [N + 4, N + 3, N, N + 1] h3 tk2 ρ2 (fun _ q => .inl q) (Inv.enter kp p I2 fun a q q' => ?_) (g2.trans (Go.grow kp)) (@ItAt.zip ⟨fun a => Hid.H a ∨ a = N + 3⟩ _ _ _ _ _ _ _ _ _ _ _ _ _ _ _ D hp1 hp2 z1 z2 z3 z4 z5 (.inr rfl)) (fun b hb => ?_) (LocIn.enter kp p (l.mono I g2)) (.inr ht)
        · exact q.elim (fun q => absurd q q') fun q => by rw [q]; exact ⟨_, z3, rfl, _, _, rfl⟩
        · have e0 := fresh b (by
            simp only [List.mem_cons, List.not_mem_nil, or_false] at hb
            rcases hb with q | q | q | q <;> rw [q] <;> first | exact Nat.le_add_right _ _ | exact Nat.le_refl _)
          exact ⟨g2.old e0, I2.oldB e0, I2.notHid e0⟩

theorem over_ok2 {t it : Expr} {m : Nat} (g : Gnd T CA K mg mb B) (G : GoodF T CA B (model prog w) n F) (ao : AOk A (n + 1)) (eo : EnvOk env) (ok : okE T m env.scope it = true) (I : Inv CA B s.heap ρ σ) (l : LocIn B s.heap ρ env L) :
    Ok3 (overE T F L σ t it) fun wv vs σ1 => Over CA B prog w A t it env L s ρ wv vs σ1 := by
  have plain : Ok3 (match F.ev L σ it with | some (v, σ1) => (items σ1 v).map fun l => (It.one v, l, σ1) | none => none) fun wv vs σ1 => Over CA B prog w A t it env L s ρ wv vs σ1 :=
    Ok3.bv fun v σ1 h1 => Ok3.map fun vs h2 => over_one G ao.down eo ok h1 h2 I l
  intro wv vs σ1 he
  unfold overE at he
  split at he
  · split at he
    · rename_i hzip
      refine Ok3.bv (P3 := fun wv vs σ1 => Over CA B prog w A _ _ env L s ρ wv vs σ1) (fun v σ2 hv => ?_) wv vs σ1 he
      exact Ok3.bv fun w' σ3 hw => Ok3.obj2 fun mm kk e1 e2 => Ok3.list2 fun ll rr e3 e4 => Ok3.ret (over_zip g G ao.down eo ok rfl hzip (e1 ▸ hv) (e2 ▸ hw) e3 e4 I l)
    · exact plain wv vs σ1 he
  · exact plain wv vs σ1 he
theorem over_ok {t it : Expr} {m : Nat} {wv : It} {vs : List V} {σ1 : Sto} {Q : Value → Shared → Prop} {E : Value → Shared → Prop} (g : Gnd T CA K mg mb B) (G : GoodF T CA B (model prog w) n F) (ao : AOk A (n + 1)) (eo : EnvOk env) (ok : okE T m env.scope it = true) (he : overE T F L σ t it = some (wv, vs, σ1)) (I : Inv CA B s.heap ρ σ) (l : LocIn B s.heap ρ env L)
    (k : ∀ (P1 : Addr → Prop) Iv own h' tk ρ', (∀ a, Hid.H a → P1 a) → @Inv ⟨P1⟩ CA B h' ρ' σ1 → Go No s.heap ρ h' ρ' → @ItAt ⟨P1⟩ h' ρ' wv vs 0 Iv own → (∀ b ∈ own, s.heap.get? b = none ∧ B.get? b = none ∧ ¬ Hid.H b) → @LocIn ⟨P1⟩ B h' ρ' env L → ((∃ v, wv = .one v) ∨ isTuple t = true) → Q Iv { s with heap := h', toks := tk }) :
    wpAny (model prog w) A (eval it env) (fun x s1 => wpAny (model prog w) A (pyIter x) Q E s1) E s := over_ok2 g G ao eo ok I l wv vs σ1 he Q E k
end
end Mine
end
section
open PySem PySem.W PyProof.Rows PySem.Calls
set_option linter.unusedSectionVars false
namespace Mine
variable [Hid]
section
variable {T : Tbl} {CA : Str → Option Addr} {K : Frag} {mg mb : Str → Option Value} {B : Heap} {prog : Program} {w : World} {A : Around} {n : Nat} {F : Funs} {s : Shared} {ρ ρ' ρb τ : Rho} {σ σ' : Sto} {env : Env} {L L' : Loc} {d : V} {h h' h0 hb : Heap} {X X0 Y P P1 : Addr → Prop}

theorem relabel_look {names : List (Str × NameKind)} {f : Str → NameKind → NameKind} {x : Str} {k : NameKind} (h : (names.map fun (p : Str × NameKind) => (p.1, f p.1 p.2)).lookup x = some k) : ∃ k0, names.lookup x = some k0 ∧ (x, k0) ∈ names ∧ k = f x k0 := by
  induction names with
  | nil => cases h
  | cons p r ih =>
    obtain ⟨y, ky⟩ := p
    rw [List.map_cons, List.lookup_cons] at h
    by_cases q : x = y
    · subst q
      simp only [beq_self_eq_true] at h
      cases h
      exact ⟨ky, by rw [List.lookup_cons]; simp, .head _, rfl⟩
    · have q1 : (x == y) = false := by simpa using q
      dsimp only at h
      rw [q1] at h
      obtain ⟨k0, a, b, c⟩ := ih h
      exact ⟨k0, by rw [List.lookup_cons, q1]; exact a, .tail _ b, c⟩

theorem relabel_eq (sc : Scope) (env : Env) : (relabel sc env).names = sc.names.map fun (p : Str × NameKind) => (p.1, if (p.2 == .free && env.scope.kind == .function && env.kindOf p.1 == some .cell) then NameKind.cell else p.2) := by
  unfold relabel
  apply List.map_congr_left
  rintro ⟨x, k⟩ _
  dsimp only
  split <;> rfl

structure OkC (sc : Scope) (env : Env) : Prop where
  kind : sc.kind = .function
  ncell : ∀ x ∈ sc.names, x.2 ≠ .cell
  loc : ∀ x ∈ sc.names, x.2 = .local → sc.names.lookup x.1 = some .local
  free : ∀ x ∈ sc.names, x.2 = .free → env.kindOf x.1 = some .cell

theorem kind_look {sc : Scope} {x : Str} {k : NameKind} (eo : EnvOk env) (oc : OkC sc env) (h : (relabel sc env).names.lookup x = some k) : (k = .local ∧ sc.names.lookup x = some .local) ∨ (k = .cell ∧ (x, NameKind.free) ∈ sc.names ∧ env.kindOf x = some .cell) ∨ (k ≠ .local ∧ k ≠ .cell ∧ k ≠ .free) := by
  rw [relabel_eq] at h
  obtain ⟨k0, a, b, c⟩ := relabel_look (f := fun y k => if (k == .free && env.scope.kind == .function && env.kindOf y == some .cell) then NameKind.cell else k) h
  have hc := oc.ncell _ b
  by_cases hf : k0 = .free
  · subst hf
    have hk := oc.free _ b rfl
    rw [if_pos (by rw [eo.kind, hk]; rfl)] at c
    exact .inr (.inl ⟨c, b, hk⟩)
  · rw [if_neg (by simp [hf])] at c
    subst c
    by_cases hl : k = .local
    · subst hl; exact .inl ⟨rfl, a⟩
    · exact .inr (.inr ⟨hl, hc, hf⟩)

/-- a comprehension from its list on -/
theorem comp_inner {elt : Expr} {gs : List Comprehension} {g : Comprehension} {sc : Scope} {pos : Pos} {cl : List (Str × Addr)} {m : Nat} {P2 : Addr → Prop} {it : It} {all : List V} {Iv : Value} {own : List Addr} {RR : Value → Addr → Result → Shared → Prop} {E : Value → Shared → Prop} (G : GoodF T CA B (model prog w) n F) (ao : AOk A n) (eo : EnvOk env) (oc : OkC sc env)
    (okElt : okE T m (relabel sc env) elt = true) (okg : ∀ cenv : Env, cenv.scope = relabel sc env → OkG T m cenv g ∧ ∀ g' ∈ gs, OkG T m cenv g' ∧ okE T m cenv.scope g'.iter = true) (hnd : ((g :: gs).flatMap fun g => tNames g.target).Nodup) (hloc : ∀ x ∈ (g :: gs).flatMap fun g => tNames g.target, sc.names.lookup x = some .local)
    (hcl1 : ∀ x c, cl.lookup x = some c → env.cells.lookup x = some c) (hcl2 : ∀ x, (x, NameKind.free) ∈ sc.names → ∃ c, cl.lookup x = some c)
    (hown : ∀ b ∈ own, hb.get? b = none ∧ B.get? b = none ∧ ¬ P2 b) (hz : (∃ v, it = .one v) ∨ isTuple g.target = true) (le : ∀ a, P2 a → Hid.H a)
    (he : clauses F σ.length elt (g :: gs) (hide sc L) it all (σ ++ [.list []]) = some σ') (I : Inv CA B s.heap ρ σ) (gg : Go No hb ρb s.heap ρ) (l : LocIn B s.heap ρ env L) (x : ItAt s.heap ρ it all 0 Iv own)
    (k : ∀ h' tk ρ' D C, @Inv ⟨P2⟩ CA B h' ρ' σ' → Go No hb ρb h' ρ' → (∃ m, h'.Ns C m) → ρ'[σ.length]? = some (D, D) → hb.get? C = none → B.get? C = none → (∀ p ∈ ρ', C ≠ p.2) → RR (.ref D) C (.ok .next) { s with heap := h', toks := tk }) :
    wpAny (model prog w) A (newList []) (fun acc s₃ => wpAny (model prog w) A (newFunctionEnv sc env.globals cl [] env.qual none .none (some env)) (fun cenv s₄ =>
        codeAny (model prog w) A (.compStart (.ListComp elt (g :: gs) sc pos) 0 Iv acc { cenv with scope := relabel sc env }) (RR acc cenv.locals) s₄) E s₃) E s := by
  obtain ⟨I1, g1, v1⟩ := I.newList (l := []) (vs := []) .nil
  refine wpAny_newList ?_ (Nat.zero_le _)
  have l1 := l.mono I g1
  have x1 := x.go I Soft.no g1
  have gg1 := gg.trans g1
  have hD1 : (ρ ++ [(s.heap.objs.size, s.heap.objs.size)])[σ.length]? = some (s.heap.objs.size, s.heap.objs.size) := by
    rw [← I.len, List.getElem?_append_right (Nat.le_refl _)]; simp
  generalize hs : s.heap.objs.size = D at *
  generalize (s.heap.push { cls := .type "list", data := .seq ([] : List Value).toArray }) = h1 at *
  generalize ρ ++ [(D, D)] = ρ1 at *
  refine wpAny_newFunctionEnv oc.ncell (by intro y hy; simp at hy) (fun h2 hns hsb => ?_) oc.kind
  dsimp only at hns hsb ⊢
  have kp : ∀ b o, h1.get? b = some o → h2.get? b = some o := fun b o e => hsb.extBut b o (fun q => by
    rw [q] at e; exact absurd (Heap.lt_size e) (Nat.lt_irrefl _)) (Heap.get?_push_of_some _ e)
  have g2 : Go No h1 ρ1 h2 ρ1 := Go.grow kp
  have I2 := I1.grow kp
  have l2 := l1.mono I1 g2
  have x2 := x1.go I1 Soft.no g2
  have gg2 := gg1.trans g2
  have nC := I1.none_of_size
  have hC : hb.get? h1.objs.size = none := by
    cases q : hb.get? h1.objs.size with
    | none => rfl
    | some o => obtain ⟨o', e⟩ := gg1.live _ _ q; rw [nC.1] at e; cases e
  -- the comprehension's own frame
  have key : ∀ cenv : Env, cenv.scope = relabel sc env → cenv.locals = h1.objs.size → cenv.cells = cl → cenv.globals = env.globals → cenv.builtins = env.builtins → ∀ tk : Nat,
      codeAny (model prog w) A (.compStart (.ListComp elt (g :: gs) sc pos) 0 Iv (.ref D) cenv) (RR (.ref D) h1.objs.size) { s with heap := h2, toks := tk } := by
    intro cenv c1 c2 c3 c4 c5 tk
    have eoc : EnvOk cenv := ⟨by rw [c1]; exact oc.kind, by rw [c4]; exact eo.gl, by rw [c5]; exact eo.bi⟩
    have lc : LocIn B h2 ρ1 cenv (hide sc L) := by
      refine ⟨⟨_, by rw [c2]; exact hns⟩, fun p hp q => ?_, fun y dy hy hv => ?_, fun y hy => ?_, fun y c hc => ?_, fun y z c h1 h2 => ?_, fun b hb' => ?_⟩
      · obtain ⟨o, e, _⟩ := I1.at hp
        rw [← q, c2] at e
        exact absurd (Heap.lt_size e) (Nat.lt_irrefl _)
      · unfold hide at hy
        split at hy
        · cases hy
        · rename_i hnl
          have hv' : isVar ((relabel sc env).names.lookup y) = true := by
            have : cenv.kindOf y = (relabel sc env).names.lookup y := by unfold Env.kindOf; rw [c1]
            rw [← this]; exact hv
          cases hk : (relabel sc env).names.lookup y with
          | none => rw [hk] at hv'; cases hv'
          | some kk =>
            rcases kind_look eo oc hk with ⟨_, q⟩ | ⟨q1, q2, q3⟩ | ⟨q1, q2, q3⟩
            · exact absurd q hnl
            · obtain ⟨c, hc⟩ := hcl2 y q2
              obtain ⟨v, hV, q⟩ := l2.rd y dy hy (by rw [q3]; rfl)
              rcases q with ⟨q, _⟩ | ⟨_, c', hc', hcell⟩
              · rw [q3] at q; exact nomatch q
              · have e := hcl1 y c hc
                rw [hc'] at e; cases e
                exact ⟨v, hV, .inr ⟨.inl (by unfold Env.kindOf; rw [c1, hk, q1]), c, by rw [c3]; exact hc, hcell⟩⟩
            · rw [hk] at hv'
              cases kk <;> first | exact absurd rfl q1 | exact absurd rfl q2 | exact absurd rfl q3 | cases hv'
      · have hk : (relabel sc env).names.lookup y = some .cell := by rw [← c1]; exact hy
        rcases kind_look eo oc hk with ⟨q, _⟩ | ⟨_, q2, _⟩ | ⟨_, q, _⟩
        · cases q
        · rw [c3]; exact hcl2 y q2
        · exact absurd rfl q
      · rw [c3] at hc; exact l2.cells y c (hcl1 y c hc)
      · rw [c3] at h1 h2; exact l2.apart y z c (hcl1 y c h1) (hcl1 z c h2)
      · rcases hb' with q | ⟨y, hy⟩
        · rw [q, c2]; exact nC.2
        · rw [c3] at hy; exact l2.nb b (.inr ⟨y, hcl1 y b hy⟩)
    have hL : ∀ y ∈ (g :: gs).flatMap fun g => tNames g.target, hide sc L y = none := fun y hy => by
      unfold hide; rw [if_pos (hloc y hy)]
    obtain ⟨ok1, ok2⟩ := okg cenv c1
    have body := comp_ok (gens := g :: gs) (sc := sc) (pos := pos) (D := D) G ao eoc (by rw [c1]; exact okElt) gs g 0 rfl ok1 ok2 hnd (s := { s with heap := h2, toks := tk }) (X0 := No) (hb := hb) (R := RR (.ref D) h1.objs.size) hL hown hz le (.inl (by rw [c2]; exact hC)) he I2 gg2 lc x2 (g2.get hD1)
      fun h' tk' ρ' I' g' l' hD' => k h' tk' ρ' D h1.objs.size I' g' (by
        obtain ⟨lns, _⟩ := l'
        rw [← c2]; exact lns) hD' hC nC.2 (by
        obtain ⟨_, loff, _⟩ := l'
        rw [← c2]; exact loff)
    exact start_at rfl ok1.as_ body (self_ok (s := { s with heap := h2, toks := tk }) x2 body)
  refine key _ ?_ ?_ ?_ ?_ ?_ _ <;> rfl
end
end Mine
end
section
open PySem PySem.W PyProof.Rows PySem.Calls
set_option linter.unusedSectionVars false
namespace Mine
variable [Hid]
section
variable {T : Tbl} {CA : Str → Option Addr} {K : Frag} {mg mb : Str → Option Value} {B : Heap} {prog : Program} {w : World} {A : Around} {n : Nat} {F : Funs} {s : Shared} {ρ ρ' ρb τ : Rho} {σ σ' : Sto} {env : Env} {L L' : Loc} {d : V} {h h' h0 hb : Heap} {X X0 Y P P1 : Addr → Prop}

theorem comp_parts {elt : Expr} {gs : List Comprehension} {g : Comprehension} {sc : Scope} {pos : Pos} {m : Nat} (ok : okE T (m + 1) env.scope (.ListComp elt (g :: gs) sc pos) = true) :
    OkC sc env ∧ okE T m (relabel sc env) elt = true ∧ (∀ cenv : Env, cenv.scope = relabel sc env → OkG T m cenv g ∧ ∀ g' ∈ gs, OkG T m cenv g' ∧ okE T m cenv.scope g'.iter = true) ∧ ((g :: gs).flatMap fun g => tNames g.target).Nodup ∧
    (∀ x ∈ (g :: gs).flatMap fun g => tNames g.target, sc.names.lookup x = some .local) ∧ okE T m env.scope g.iter = true := by
  have h1 := an1 (an1 (an1 (an1 (an1 ok))))
  have h2' := List.all_eq_true.mp (an2 (an1 (an1 (an1 (an1 ok)))))
  have h3 := an2 (an1 (an1 (an1 ok)))
  have h4 : okE T m (relabel sc env) elt = true := an2 (an1 (an1 ok))
  have h5' := List.all_eq_true.mp (an2 (an1 ok))
  have h6 : (okE T m env.scope g.iter && gs.all fun g => okE T m (relabel sc env) g.iter) = true := an2 ok
  have hG : ∀ cenv : Env, cenv.scope = relabel sc env → ∀ g' ∈ g :: gs, OkG T m cenv g' := by
    intro cenv hc g' hg'
    have := h5' g' hg'
    refine ⟨eq_of_beq (an1 (an1 (an1 (an1 this)))), by rw [hc]; exact an2 (an1 (an1 (an1 this))), fun x hx => ?_, nt (an2 (an1 this)), by rw [hc]; exact an2 this⟩
    unfold Env.kindOf
    rw [hc]
    exact lookup_relabel_local (eq_of_beq (List.all_eq_true.mp (an2 (an1 (an1 this))) x hx))
  refine ⟨⟨by simpa using h1, fun x hx => ?_, fun x hx hl => ?_, fun x hx hf => ?_⟩, h4, fun cenv hc => ⟨hG cenv hc g (.head _), fun g' hg' => ⟨hG cenv hc g' (.tail _ hg'), by rw [hc]; exact List.all_eq_true.mp (an2 h6) g' hg'⟩⟩, of_decide_eq_true h3, fun x hx => ?_, an1 h6⟩
  · simpa using an1 (an1 (h2' x hx))
  · have := an2 (an1 (h2' x hx))
    rw [hl] at this
    exact eq_of_beq this
  · have := an2 (h2' x hx)
    rw [hf] at this
    exact eq_of_beq (an2 this)
  · obtain ⟨g', hg', hx'⟩ := List.mem_flatMap.mp hx
    exact eq_of_beq (List.all_eq_true.mp (an2 (an1 (an1 (h5' g' hg')))) x hx')

/-- a list comprehension, for a value or for a name -/
theorem comp_any {elt : Expr} {gs : List Comprehension} {g : Comprehension} {sc : Scope} {pos p0 : Pos} {m : Nat} {wv : It} {vs : List V} {σ1 : Sto} {use : Option (Value → Sem Unit)} {Q E : Value → Shared → Prop} (gd : Gnd T CA K mg mb B) (G : ∀ P1 : Addr → Prop, @GoodF ⟨P1⟩ T CA B (model prog w) n F) (ao : AOk A (n + 1)) (eo : EnvOk env)
    (ok : okE T (m + 1) env.scope (.ListComp elt (g :: gs) sc pos) = true) (h1 : overE T F L σ g.target g.iter = some (wv, vs, σ1)) (h2 : clauses F σ1.length elt (g :: gs) (hide sc L) wv vs (σ1 ++ [.list []]) = some σ')
    (I : Inv CA B s.heap ρ σ) (l : LocIn B s.heap ρ env L)
    (k : ∀ h' tk ρ' D C, Inv CA B h' ρ' σ' → Go No s.heap ρ h' ρ' → (∃ m, h'.Ns C m) → ρ'[σ1.length]? = some (D, D) → s.heap.get? C = none → B.get? C = none → (∀ p ∈ ρ', C ≠ p.2) → compPost (model prog w) A E use Q (.ref D) C (.ok .next) { s with heap := h', toks := tk }) :
    wpAny (model prog w) A (comprehension (.ListComp elt (g :: gs) sc pos) sc env p0 (newList []) false (eval g.iter env) use) Q E s := by
  obtain ⟨oc, okElt, okg, hnd, hloc, okI⟩ := comp_parts ok
  obtain ⟨cl, hclos, hcl1, hcl2⟩ := closure_for (env := env) (sc := sc) fun x hx hf => l.cell x.1 (oc.free x hx hf)
  have hset : isSet g.iter = false := by
    obtain ⟨a, _⟩ := okg { env with scope := relabel sc env } rfl
    exact a.set
  have hfs : ∀ x, foldedSetIterable g.iter env x = pure x := by
    intro x
    cases hq : g.iter <;> first | rfl | (rw [hq] at hset; cases hset)
  refine wpAny_comprehension_free (use := use) rfl hfs hclos oc.kind oc.loc ?_
  refine over_ok (m := m) gd (G Hid.H) ao eo okI h1 I l fun P1 Iv own h3 tk3 ρ3 le I3 g3 x3 hf l3 hz => ?_
  exact @comp_inner ⟨P1⟩ T CA B prog w A n F { s with heap := h3, toks := tk3 } ρ3 ρ σ1 σ' env L s.heap elt gs g sc pos cl m Hid.H wv vs Iv own _ E (G P1) ao.down eo oc okElt okg hnd hloc hcl1 hcl2 hf hz le h2 I3 g3 l3 x3
    fun h' tk ρ' D C I' g' hn hD hC hB ho => k h' tk ρ' D C I' g' hn hD hC hB ho

/-- the frame of a comprehension is let go -/
theorem letgo_ok {C : Addr} (I : Inv CA B h ρ σ) (l : Go No h0 ρb h ρ) (hn : ∃ m, h.Ns C m) (hC : h0.get? C = none) (hB : B.get? C = none) (ho : ∀ p ∈ ρ, C ≠ p.2) (hs : Heap.SameBut C h h') : But Hid.H (fun b => b = C) B h ρ h' ∧ Inv CA B h' ρ σ ∧ Go No h0 ρb h' ρ := by
  have g : But Hid.H (fun b => b = C) B h ρ h' := by
    refine ⟨fun b o e hb => (hs.2 b hb).trans e, ?_, ?_, ?_⟩
    · rintro b rfl
      obtain ⟨m, o, es, ep, e, hd, _⟩ := hn
      exact ⟨o, e, .inl ⟨_, _, hd⟩⟩
    · rintro b rfl; exact hB
    · rintro b rfl; exact ho
  refine ⟨g, I.but1 g fun a _ hb ⟨o, its, nn, e, hd⟩ => ?_, l.skipBut g fun b hb => by rw [hb]; exact hC⟩
  obtain ⟨m, o', es, ep, e', hd', _⟩ := hn
  rw [hb, e'] at e; cases e; rw [hd'] at hd; cases hd

theorem comp_val {elt : Expr} {gs : List Comprehension} {g : Comprehension} {sc : Scope} {pos : Pos} {m : Nat} {wv : It} {vs : List V} {σ1 : Sto} (gd : Gnd T CA K mg mb B) (G : ∀ P1 : Addr → Prop, @GoodF ⟨P1⟩ T CA B (model prog w) n F) (ao : AOk A (n + 1)) (eo : EnvOk env)
    (ok : okE T (m + 1) env.scope (.ListComp elt (g :: gs) sc pos) = true) (h1 : overE T F L σ g.target g.iter = some (wv, vs, σ1)) (h2 : clauses F σ1.length elt (g :: gs) (hide sc L) wv vs (σ1 ++ [.list []]) = some σ')
    (I : Inv CA B s.heap ρ σ) (l : LocIn B s.heap ρ env L) : EvOk CA B (model prog w) A (eval (.ListComp elt (g :: gs) sc pos) env) s ρ (.obj σ1.length) σ' := by
  intro Q E k
  rw [eval_ListComp]
  have ha : firstAsync (g :: gs) = false := by
    obtain ⟨_, _, okg, _⟩ := comp_parts ok
    have := (okg { env with scope := relabel sc env } rfl).1.as_
    obtain ⟨t, i, f, a⟩ := g
    show (a != 0) = false
    rw [show a = 0 from this]; rfl
  have hi : firstIter (g :: gs) env = eval g.iter env := by cases g; rfl
  rw [ha, hi]
  refine comp_any (use := none) (m := m) gd G ao eo ok h1 h2 I l fun h' tk ρ' D C I' g' hn hD hC hB ho => ?_
  obtain ⟨mm, hn'⟩ := hn
  refine ⟨mm, hn', fun h'' hs => ?_⟩
  obtain ⟨gb, I2, g2⟩ := letgo_ok I' g' ⟨mm, hn'⟩ hC hB ho hs
  exact k _ h'' tk ρ' I2 g2 (VIn.obj (p := (D, D)) hD)

theorem comp_use {elt : Expr} {gs : List Comprehension} {g : Comprehension} {sc : Scope} {pos py spos : Pos} {y : Str} {m : Nat} {wv : It} {vs : List V} {σ1 : Sto} (gd : Gnd T CA K mg mb B) (G : ∀ P1 : Addr → Prop, @GoodF ⟨P1⟩ T CA B (model prog w) n F) (ao : AOk A (n + 1)) (eo : EnvOk env) (hsw : swapsWith (.ListComp elt (g :: gs) sc pos) (some (.Name y py)) spos.line env = pure true) (hy : env.kindOf y = some .local ∨ env.kindOf y = some .cell)
    (ok : okE T (m + 1) env.scope (.ListComp elt (g :: gs) sc pos) = true) (h1 : overE T F L σ g.target g.iter = some (wv, vs, σ1)) (h2 : clauses F σ1.length elt (g :: gs) (hide sc L) wv vs (σ1 ++ [.list []]) = some σ')
    (I : Inv CA B s.heap ρ σ) (l : LocIn B s.heap ρ env L) : ExOk CA B (model prog w) A env (exec (.Assign [.Name y py] (.ListComp elt (g :: gs) sc pos) spos) env) s ρ .next (upd L y (.obj σ1.length)) σ' := by
  intro Q E k
  rw [exec_Assign_Name_used _ _ _ _ hsw]
  have ha : firstAsync (g :: gs) = false := by
    obtain ⟨_, _, okg, _⟩ := comp_parts ok
    have := (okg { env with scope := relabel sc env } rfl).1.as_
    obtain ⟨t, i, f, a⟩ := g
    show (a != 0) = false
    rw [show a = 0 from this]; rfl
  refine wpAny_bind (wpAny_standAt (wpAny_bind ?_))
  show wpAny _ A (do let _ ← comprehension (.ListComp elt (g :: gs) sc pos) sc env _ (newList []) (firstAsync (g :: gs)) (firstIter (g :: gs) env) (some (assign (.Name y py) env))) _ _ s
  have hi : firstIter (g :: gs) env = eval g.iter env := by cases g; rfl
  rw [ha, hi]
  refine wpAny_bind (comp_any (use := some (assign (.Name y py) env)) (Q := fun _ s' => wpAny (model prog w) A (pure ()) (fun _ s'' => wpAny (model prog w) A (pure Flow.next) Q E s'') E s') (m := m) gd G ao eo ok h1 h2 I l fun h' tk ρ' D C I' g' hn hD hC hB ho => ?_)
  obtain ⟨mm, hn'⟩ := hn
  have l' := l.mono I g'
  show wpAny _ A (assign (.Name y py) env (.ref D)) _ _ _
  have hCx : ¬ XOf env C := fun q => by
    obtain ⟨⟨o, e, _⟩, _⟩ := l.XB I C q
    rw [hC] at e; cases e
  refine wpAny_assign_Name (store_ok (s := { s with heap := h', toks := tk }) eo hy I' l' (VIn.obj (p := (D, D)) hD) fun h2 tk2 I2 g2 l2 _ keep => ?_)
  have hn2 : h2.Ns C mm := let ⟨o, es, ep, e, r⟩ := hn'; ⟨o, es, ep, keep C o e hCx, r⟩
  refine ⟨mm, hn2, fun h3 hs => ?_⟩
  have g3 : Go (XOf env) s.heap ρ h2 ρ' := g'.weaken.trans g2
  have gb : But Hid.H (fun b => b = C) B h2 ρ' h3 := by
    refine ⟨fun b o e hb => (hs.2 b hb).trans e, ?_, ?_, ?_⟩
    · rintro b rfl
      obtain ⟨o, es, ep, e, hd, _⟩ := hn2
      exact ⟨o, e, .inl ⟨_, _, hd⟩⟩
    · rintro b rfl; exact hB
    · rintro b rfl; exact ho
  have I3 : Inv CA B h3 ρ' σ' := I2.but1 gb fun a _ hb ⟨o, its, nn, e, hd⟩ => by
    obtain ⟨o', es, ep, e', hd', _⟩ := hn2
    rw [hb, e'] at e; cases e; rw [hd'] at hd; cases hd
  have g4 := g3.skipBut gb fun b hb => by rw [hb]; exact hC
  have l3 : LocIn B h3 ρ' env (upd L y (.obj σ1.length)) := by
    have hns : ∀ m, h2.Ns env.locals m → h3.Ns env.locals m := fun m ⟨o, es, ep, e, r⟩ => ⟨o, es, ep, gb.ext _ _ e fun q => hCx (.inl q.symm), r⟩
    have hcl : ∀ x c v, env.cells.lookup x = some c → h2.IsCell c v → h3.IsCell c v := fun x c v hx ⟨o, e, r⟩ => ⟨o, gb.ext _ _ e fun q => hCx (.inr ⟨x, q ▸ hx⟩), r⟩
    refine ⟨l2.ns.elim fun m hm => ⟨m, hns m hm⟩, l2.off, fun x d hx hv => ?_, l2.cell, fun x c hx => (l2.cells x c hx).elim fun v hv => ⟨v, hcl x c _ hx hv⟩, l2.apart, l2.nb⟩
    obtain ⟨v, hV, q⟩ := l2.rd x d hx hv
    refine ⟨v, VIn.but (fun _ q => q) (fun _ q => q) gb hV, ?_⟩
    rcases q with ⟨k, m, hm, e⟩ | ⟨k, c, hc, e⟩
    · exact .inl ⟨k, m, hns m hm, e⟩
    · exact .inr ⟨k, c, hc, hcl x c _ hc e⟩
  exact wpAny_pure (wpAny_pure (k .next h3 tk2 ρ' I3 g4 l3 True.intro))
end
end Mine
end
section
open PySem PySem.W PyProof.Rows PySem.Calls
set_option linter.unusedSectionVars false
namespace Mine
variable [Hid]
section
variable {T : Tbl} {CA : Str → Option Addr} {K : Frag} {mg mb : Str → Option Value} {B : Heap} {prog : Program} {w : World} {A : Around} {n : Nat} {F : Funs} {s : Shared} {ρ ρ' ρb τ : Rho} {σ σ' : Sto} {env : Env} {L L' : Loc} {d : V} {h h' h0 hb : Heap} {X X0 Y P P1 : Addr → Prop}

theorem marks {op : CmpOp} {r : Expr} (h : isSet r = false) : behindInMarks op r = false := by
  cases r <;> first | rfl | cases h

theorem truthy_ok {b : Bool} {v : Value} {Q : Bool → Shared → Prop} {E : Value → Shared → Prop} (hv : VIn h ρ (.bool b) v) (k : Q b s) : wpAny (model prog w) A (truthy v) Q E s := by
  cases hv; exact wpAny_truthy_bool k

theorem bin_ok {m : Nat} {l r : Expr} {σ1 σ2 : Sto} {a b : V} {M : Value → Value → Sem Value} (G : GoodF T CA B (model prog w) n F) (ao : AOk A n) (eo : EnvOk env) (ok1 : okE T m env.scope l = true) (ok2 : okE T m env.scope r = true)
    (h1 : F.ev L σ l = some (a, σ1)) (h2 : F.ev L σ1 r = some (b, σ2)) (I : Inv CA B s.heap ρ σ) (lc : LocIn B s.heap ρ env L) {Q E : Value → Shared → Prop}
    (k : ∀ u v h' tk ρ', Inv CA B h' ρ' σ2 → Go No s.heap ρ h' ρ' → VIn h' ρ' a u → VIn h' ρ' b v → wpAny (model prog w) A (M u v) Q E { s with heap := h', toks := tk }) :
    wpAny (model prog w) A (eval l env) (fun u s₁ => wpAny (model prog w) A (eval r env) (fun v s₂ => wpAny (model prog w) A (M u v) Q E s₂) E s₁) E s :=
  G.ev A env L σ l a σ1 m ao eo ok1 h1 s ρ I lc _ _ fun u h1 tk1 ρ1 I1 g1 hu =>
    G.ev A env L σ1 r b σ2 m ao eo ok2 h2 { s with heap := h1, toks := tk1 } ρ1 I1 (lc.mono I g1) _ _ fun v h2 tk2 ρ2 I2 g2 hv =>
      k u v h2 tk2 ρ2 I2 (g1.trans g2) (hu.mono Soft.no I1 g2) hv

theorem evS_ok2 (gd : Gnd T CA K mg mb B) (G : ∀ P1 : Addr → Prop, @GoodF ⟨P1⟩ T CA B (model prog w) n F) {e : Expr} {m : Nat} (ao : AOk A (n + 1)) (eo : EnvOk env) (ok : okE T m env.scope e = true) (I : Inv CA B s.heap ρ σ) (l : LocIn B s.heap ρ env L) :
    Ok2 (evS T F L σ e) fun d σ' => EvOk CA B (model prog w) A (eval e env) s ρ d σ' := by
  have G0 : GoodF T CA B (model prog w) n F := G Hid.H
  induction m using Nat.casesOn with
  | zero => exact nomatch ok
  | succ m =>
  have ad := ao.down
  induction e using Expr.casesOn with
  | Constant c kk pos =>
    induction c using Const.casesOn with
    | none => exact Ok2.ret (EvOk.val0 I .none fun Q E h => wpAny_Constant_none h)
    | bool b => exact Ok2.ret (EvOk.val0 I (.bool _) fun Q E h => wpAny_Constant_bool h)
    | int i => exact Ok2.ret (EvOk.val I (.int _ _) fun Q E h => wpAny_Constant_int h)
    | str x => exact Ok2.ret (EvOk.val I (.str _ _) fun Q E h => wpAny_Constant_str h)
    | _ => exact Ok2.no
  | Name x q => exact fun d σ' he => name_ok gd eo ok I l he
  | BinOp lf op r q =>
    exact Ok2.bv fun a σ1 h1 => Ok2.bv fun b σ2 h2 => fun d σ' he Q E k =>
      wpAny_BinOp (bin_ok (M := fun u v => binaryOp op u v) G0 ad eo (an1 ok) (an2 ok) h1 h2 I l fun u v h2 tk2 ρ2 I2 g2 hu hv =>
        (binS_ok (s := { s with heap := h2, toks := tk2 }) he I2 hu hv).mono g2 k)
  | UnaryOp op x q =>
    induction op using UnaryOp.casesOn with
    | USub => exact Ok2.int fun a σ1 h1 => Ok2.ret fun Q E k => wpAny_UnaryOp (G0.ev A env L σ x _ _ m ad eo ok h1 s ρ I l _ _ fun u hp1 tk1 ρ1 I1 g1 hu => by
        cases hu
        exact PySem.P.neg_int (k _ hp1 _ ρ1 I1 g1 (.int _ _)))
    | _ => exact Ok2.no
  | Compare lf ops rs q =>
    induction ops using List.casesOn with
    | nil => exact Ok2.no
    | cons op ops =>
      induction ops using List.casesOn with
      | cons => exact Ok2.no
      | nil =>
        induction rs using List.casesOn with
        | nil => exact Ok2.no
        | cons r rs =>
          induction rs using List.casesOn with
          | cons => exact Ok2.no
          | nil => exact Ok2.bv fun a σ1 h1 => Ok2.bv fun b σ2 h2 => Ok2.map fun c hc Q E k =>
              wpAny_Compare1 (bin_ok (M := fun u v => compareOp op u v) G0 ad eo (an1 ok) (an1 (an1 (an2 ok))) h1 h2 I l fun u v h2 tk2 ρ2 I2 g2 hu hv =>
                (cmpS_ok (s := { s with heap := h2, toks := tk2 }) ao hc I2 hu hv).mono g2 k) (marks (nt (an2 (an1 (an2 ok)))))
  | BoolOp op es q =>
    induction es using List.casesOn with
    | nil => exact Ok2.no
    | cons x es =>
      induction es using List.casesOn with
      | nil => exact Ok2.no
      | cons y es =>
        induction es using List.casesOn with
        | cons => exact Ok2.no
        | nil =>
          refine Ok2.bool fun a σ1 h1 => ?_
          have go : EvOk CA B (model prog w) A (eval x env) s ρ (.bool a) σ1 := G0.ev A env L σ x _ _ m ad eo (an1 ok) h1 s ρ I l
          have on : ∀ d σ', F.ev L σ1 y = some (d, σ') → ∀ hp1 tk1 ρ1, Inv CA B hp1 ρ1 σ1 → Go No s.heap ρ hp1 ρ1 → EvOk CA B (model prog w) A (eval y env) { s with heap := hp1, toks := tk1 } ρ1 d σ' := fun d σ' he hp1 tk1 ρ1 I1 g1 => G0.ev A env L σ1 y d σ' m ad eo (an1 (an2 ok)) he { s with heap := hp1, toks := tk1 } ρ1 I1 (l.mono I g1)
          induction op using BoolOp.casesOn with
          | And =>
            induction a using Bool.casesOn with
            | false => exact Ok2.ret fun Q E k => wpAny_And2 (go _ _ fun u hp1 tk1 ρ1 I1 g1 hu => truthy_ok hu (by rw [if_neg (by decide)]; exact k u hp1 tk1 ρ1 I1 g1 hu))
            | true => exact fun d σ' he Q E k => wpAny_And2 (go _ _ fun u hp1 tk1 ρ1 I1 g1 hu => truthy_ok hu (by rw [if_pos rfl]; exact EvOk.mono g1 (on d σ' he hp1 tk1 ρ1 I1 g1) k))
          | Or =>
            induction a using Bool.casesOn with
            | true => exact Ok2.ret fun Q E k => wpAny_Or2 (go _ _ fun u hp1 tk1 ρ1 I1 g1 hu => truthy_ok hu (by rw [if_pos rfl]; exact k u hp1 tk1 ρ1 I1 g1 hu))
            | false => exact fun d σ' he Q E k => wpAny_Or2 (go _ _ fun u hp1 tk1 ρ1 I1 g1 hu => truthy_ok hu (by rw [if_neg (by decide)]; exact EvOk.mono g1 (on d σ' he hp1 tk1 ρ1 I1 g1) k))
  | IfExp t x y q =>
    refine Ok2.bt fun b σ1 h1 => ?_
    induction b using Bool.casesOn with
    | true => exact fun d σ' he Q E k => wpAny_IfExp (G0.tst A env L σ t true σ1 m ad eo (an1 (an1 ok)) h1 s ρ I l _ _ fun hp1 tk1 ρ1 I1 g1 => by
        rw [if_pos rfl]; exact EvOk.mono g1 (G0.ev A env L σ1 x d σ' m ad eo (an2 (an1 ok)) he { s with heap := hp1, toks := tk1 } ρ1 I1 (l.mono I g1)) k)
    | false => exact fun d σ' he Q E k => wpAny_IfExp (G0.tst A env L σ t false σ1 m ad eo (an1 (an1 ok)) h1 s ρ I l _ _ fun hp1 tk1 ρ1 I1 g1 => by
        rw [if_neg (by decide)]; exact EvOk.mono g1 (G0.ev A env L σ1 y d σ' m ad eo (an2 ok) he { s with heap := hp1, toks := tk1 } ρ1 I1 (l.mono I g1)) k)
  | Tuple es kk q =>
    exact Ok2.bvs fun vs σ1 h1 => Ok2.ite fun hsz => Ok2.ret fun Q E k =>
      Tuple_ (evs_ok (m := m) G0 ad eo ok h1 I l _ _ fun ws hp1 tk1 ρ1 I1 g1 hw =>
        (tuple_new (s := { s with heap := hp1, toks := tk1 }) I1 hw (of_decide_eq_true hsz)).mono g1 k)
  | List es q =>
    exact Ok2.bvs fun vs σ1 h1 => Ok2.ite fun hsz => Ok2.ret fun Q E k =>
      List_ (evs_ok (m := m) G0 ad eo ok h1 I l _ _ fun ws hp1 tk1 ρ1 I1 g1 hw =>
        (list_new (s := { s with heap := hp1, toks := tk1 }) I1 hw (of_decide_eq_true hsz)).mono g1 k)
  | Subscript o i q =>
    have fin : isSlice i = false → Ok2 (match F.ev L σ o with | some (ov, σ1) => (match F.ev L σ1 i with | some (iv, σ2) => (subC T σ2 ov iv).map fun v => (v, σ2) | none => none) | none => none) fun d σ' => EvOk CA B (model prog w) A (eval (.Subscript o i q) env) s ρ d σ' := fun hs =>
      Ok2.bv fun ov σ1 h1 => Ok2.bv fun iv σ2 h2 => Ok2.map fun v hv Q E k =>
        Subscript_ (G0.ev A env L σ o ov σ1 m ad eo (an1 ok) h1 s ρ I l _ _ fun u hp1 tk1 ρ1 I1 g1 hu =>
          G0.ev A env L σ1 i iv σ2 m ad eo (an2 ok) h2 { s with heap := hp1, toks := tk1 } ρ1 I1 (l.mono I g1) _ _ fun u2 h2 tk2 ρ2 I2 g2 hu2 =>
            (subC_ok (s := { s with heap := h2, toks := tk2 }) gd.ro hv I2 (hu.mono Soft.no I1 g2) hu2 hs).mono (g1.trans g2) k)
    induction i using Expr.casesOn with
    | Slice lo hi st p =>
      clear fin
      have ok1 : okE T m env.scope o = true := an1 ok
      induction m using Nat.casesOn with
      | zero => exact nomatch ok1
      | succ m =>
        exact Ok2.bv fun ov σ1 h1 => Ok2.bo fun a σ2 e1 => Ok2.bo fun b σ3 e2 => Ok2.bo fun c σ4 e3 => Ok2.vobj fun kq eo' => Ok2.bk fun ka i1 => Ok2.bk fun kb i2 => Ok2.bk fun kc i3 => Ok2.list fun ll hl => Ok2.ite fun hc => Ok2.ret fun Q E k =>
          Subscript_ (G0.ev A env L σ o ov σ1 (m + 1) ad eo (an1 ok) h1 s ρ I l _ _ fun u hp1 tk1 ρ1 I1 g1 hu =>
            slice_ok (m := m) (ov := .none) (s := { s with heap := hp1, toks := tk1 }) G0 ad eo (an2 ok) e1 e2 e3 i1 i2 i3 hl (of_decide_eq_true (an1 hc)) (of_decide_eq_true (an2 hc)) I1 (l.mono I g1) (eo' ▸ hu) fun v h' tk ρ' I' g' hv => k v h' tk ρ' I' (g1.trans g') hv)
    | _ => exact fin rfl
  | Attribute b a q =>
    induction b using Expr.casesOn with
    | Name y qy => exact Ok2.obj fun kk σ1 h1 => Ok2.inst fun c fs e1 => Ok2.ite fun hf => Ok2.map (g := id) fun v hv Q E k =>
        Attribute_Name_ (G0.ev A env L σ (.Name y qy) _ _ 1 ad eo ok h1 s ρ I l _ _ fun u hp1 tk1 ρ1 I1 g1 hu =>
          (attr_ok (s := { s with heap := hp1, toks := tk1 }) gd I1 e1 hu hf hv).mono g1 k)
    | _ => exact Ok2.no
  | Call f args ks pos =>
    induction ks using List.casesOn with
    | cons => exact Ok2.no
    | nil =>
      have oka := an1 (an1 ok)
      have okn := of_decide_eq_true (an2 (an1 ok))
      have okf := an2 ok
      induction f using Expr.casesOn with
      | Name x qx => exact Ok2.bvs fun vs σ1 h1 => fun d σ' he => callN_ok gd G0 ao eo okf oka h1 he I l
      | Attribute b mm qm =>
        induction b using Expr.casesOn with
        | Name y qy =>
          exact Ok2.bv fun ov σ1 h1 => fun d σ' he => by
            induction m using Nat.casesOn with
            | zero =>
              induction args using List.casesOn with
              | nil => exact methC_ok (mm := 0) gd G0 ao eo okn (an2 okf) (an1 okf) oka h1 he I l
              | cons e es => exact nomatch (an1 (an1 oka))
            | succ m => exact methC_ok (mm := m + 1) gd G0 ao eo okn (an2 okf) (an1 okf) oka h1 he I l
        | _ => exact Ok2.no
      | _ => exact Ok2.no
  | ListComp elt gens sc pos =>
    induction gens using List.casesOn with
    | nil => exact Ok2.no
    | cons g gs =>
      obtain ⟨t, i, ff, a⟩ := g
      exact Ok2.bit fun wv vs σ1 h1 => Ok2.bs fun σ2 h2 => Ok2.ret (comp_val gd G ao eo ok h1 h2 I l)
  | _ => exact Ok2.no
theorem evS_ok (gd : Gnd T CA K mg mb B) (G : ∀ P1 : Addr → Prop, @GoodF ⟨P1⟩ T CA B (model prog w) n F) {e : Expr} {m : Nat} (ao : AOk A (n + 1)) (eo : EnvOk env) (ok : okE T m env.scope e = true) (he : evS T F L σ e = some (d, σ')) (I : Inv CA B s.heap ρ σ) (l : LocIn B s.heap ρ env L) :
    EvOk CA B (model prog w) A (eval e env) s ρ d σ' := evS_ok2 gd G ao eo ok I l d σ' he
end
end Mine
end
section
open PySem PySem.W PyProof.Rows PySem.Calls
set_option linter.unusedSectionVars false
namespace Mine
variable [Hid]
section
variable {T : Tbl} {CA : Str → Option Addr} {K : Frag} {mg mb : Str → Option Value} {B : Heap} {prog : Program} {w : World} {A : Around} {n : Nat} {F : Funs} {s : Shared} {ρ ρ' ρb τ : Rho} {σ σ' : Sto} {env : Env} {L L' : Loc} {d : V} {h h' h0 hb : Heap} {X X0 Y P P1 : Addr → Prop}

theorem FsIn.len {fs : List (Str × V)} {es : List DictEntry} (H : FsIn h ρ fs es) : es.length = fs.length := by
  induction H with
  | nil => rfl
  | cons a b c ih => rw [List.length_cons, List.length_cons, ih]

theorem FsIn.put {a : Str} {hsh : Int} {tk : Tok} {v : Value} (hv : VIn h ρ d v) {fs : List (Str × V)} {es : List DictEntry} (H : FsIn h ρ fs es) : FsIn h ρ (putF a d fs) (putL a hsh (.str a tk) v es) := by
  induction H with
  | nil => exact .cons ⟨tk, rfl⟩ hv .nil
  | @cons x u fs e es hkk hu r ih =>
    obtain ⟨t, hk⟩ := hkk
    have hx : e.key.isStr a = (x == a) := by rw [hk]; rfl
    unfold putF putL
    by_cases q : x = a
    · subst q
      rw [if_pos rfl, if_pos (by rw [hx]; simp)]
      exact .cons ⟨t, hk⟩ hv r
    · rw [if_neg q, if_neg (by rw [hx]; simpa using q)]
      exact .cons ⟨t, hk⟩ hu ih

theorem FsIn.nokey {a : Str} {fs : List (Str × V)} {es : List DictEntry} (H : FsIn h ρ fs es) : es.any (·.refKey) = false := by
  induction H with
  | nil => rfl
  | @cons x u fs e es hkk hu r ih =>
    obtain ⟨t, hk⟩ := hkk
    have hr : e.refKey = false := by unfold DictEntry.refKey; rw [hk]
    rw [List.any_cons, hr, ih]; rfl

theorem putL_len {a : Str} {hsh : Int} {k v : Value} : ∀ es : List DictEntry, (putL a hsh k v es).length ≤ es.length + 1
  | [] => Nat.le_refl _
  | e :: es => by
    unfold putL
    split
    · simp
    · have := putL_len (a := a) (hsh := hsh) (k := k) (v := v) es
      simp; omega

theorem osa_raw {x dx C : Addr} {name : Str} {tk : Tok} {v : Value} {es : List DictEntry} {n : Nat} {R : Result → Shared → Prop} (Xk : K.In s.heap) (hx : s.heap.get? x = some (instObj C dx)) (D : s.heap.get? dx = some (dictOf es n))
    (hp : plainOver K C = true) (ht : takerIn K C name = some none) (hh : (clsIn K C).any (·.hasDict) = true) (hl : es.any (·.refKey) = false) (hz : es.length ≤ 900)
    (h : ∀ h', h'.get? dx = some (dictOf (putL name (PyData.keyHash w.params name) (.str name s.toks) v es) (putN name es n)) → Heap.SameBut dx s.heap h' → R (.ok (.ret .none)) { s with heap := h', toks := s.toks + 1 }) :
    codeAny (model prog w) A (.call (.builtin "object.__setattr__") ⟨[.ref x, .str name tk, v], []⟩) R s := by
  have It : InstAt s.heap x (instObj C dx) C (some (dictOf es n)) := ⟨hx, rfl, rfl, D⟩
  refine osa_open Xk It hp ht fun b => ?_
  obtain ⟨cd, hc, hd'⟩ := any_some hh
  have e := putName_dict name (PyData.keyHash w.params name) (.str name s.toks) v es n
  have D' := Heap.get?_update_self (Obj.putName name (PyData.keyHash w.params name) (.str name s.toks) v) D (by rw [e]; rfl)
  rw [e] at D'
  refine wpAny_bind (wpAny_pure (wpAny_bind (wpAny_bind (wpAny_loadPart hx (wpAny_bind ((looks_clsIn Xk hc).here ?_))))))
  rw [hd']
  refine wpAny_pure (a := some dx) (wpAny_bind (wpAny_pure (wpAny_bind ?_)))
  unfold nsSet
  refine wpAny_bind (wpAny_bind (wpAny_askSetting (wpAny_pure (wpAny_bind (wpAny_mkText (wpAny_bind (wpAny_loadPart D ?_)))))))
  dsimp only
  have c : (!es.toArray.any (·.key.isStr name) && es.toArray.any (·.refKey)) = false := by
    rw [← Array.any_toList, ← Array.any_toList, List.toList_toArray, hl, Bool.and_false]
  rw [aRefKeyMayBeTheName_at, c]
  refine wpAny_updatePart D ?_
  refine wpAny_bind (wpAny_lookBehind D' (pastItsLine_dict (by rw [List.size_toArray, sizeLine_eq]; have := putL_len (a := name) (hsh := PyData.keyHash w.params name) (k := .str name s.toks) (v := v) es; lia)) ?_)
  exact wpAny_pure (h _ D' (Heap.SameBut.update ..))

/-- an attribute is set -/
theorem set_ok {a : Str} {fs : List (Str × V)} {k : Nat} {c : Str} {ov v : Value} {Q : Unit → Shared → Prop} {E : Value → Shared → Prop} (gd : Gnd T CA K mg mb B) (I : Inv CA B s.heap ρ σ) (hs : σ[k]? = some (.inst c fs)) (hov : VIn s.heap ρ (.obj k) ov) (hv : VIn s.heap ρ d v) (hf : T.field c a = true) (hlen : fs.length < 100)
    (kk : ∀ h' tk, Inv CA B h' ρ (σ.set k (.inst c (putF a d fs))) → Go No s.heap ρ h' ρ → Q () { s with heap := h', toks := tk }) : wpAny (model prog w) A (setAttr ov a v) Q E s := by
  obtain ⟨x, dx, C, es, j, rfl, hp, hc, hx, hd, hfs⟩ := I.inst hs hov
  obtain ⟨c1, c2, c3, c4, c5⟩ := gd.cset c C hc
  obtain ⟨_, _, _, ht⟩ := gd.get c C a hc hf
  have Xk := gd.X.keeps I.keep
  have It : InstAt s.heap x (instObj C dx) C (some (dictOf es j)) := ⟨hx, rfl, rfl, hd⟩
  refine set_plain Xk It c1 (osa_raw (s := { s with toks := s.toks + 1 }) Xk hx hd c2 ht c3 (hfs.nokey (a := a)) (by rw [hfs.len]; omega) fun h' D' hs' => ?_)
  have key := I.turn (p := (x, dx)) (ob := .inst c (putF a d fs)) hp hs' ⟨_, D'⟩ fun g => by
    have hfs' := (hfs.put (a := a) (hsh := PyData.keyHash w.params a) (tk := s.toks + 1) hv).mono Soft.no I g
    exact .inst hc (g.ext _ _ hx (I.off hx (by simp)) id) D' hfs'
  exact kk h' _ key.1 key.2
end
end Mine
end
section
open PySem PySem.W PyProof.Rows PySem.Calls
set_option linter.unusedSectionVars false
namespace Mine
variable [Hid]
section
variable {T : Tbl} {CA : Str → Option Addr} {K : Frag} {mg mb : Str → Option Value} {B : Heap} {prog : Program} {w : World} {A : Around} {n : Nat} {F : Funs} {s : Shared} {ρ ρ' ρb τ : Rho} {σ σ' : Sto} {env : Env} {L L' : Loc} {d : V} {h h' h0 hb : Heap} {X X0 Y P P1 : Addr → Prop} {Q : Flow → Shared → Prop} {E : Value → Shared → Prop}

theorem allT_ok {m : Nat} (G : GoodF T CA B (model prog w) n F) (ao : AOk A n) (eo : EnvOk env) {op : BoolOp} : ∀ {es : List Expr} {b : Bool} {σ σ' : Sto} {s : Shared} {ρ : Rho}, es.all (okE T m env.scope) = true → allT op (F.tst L) σ es = some (b, σ') → Inv CA B s.heap ρ σ → LocIn B s.heap ρ env L →
    TsOk CA B (model prog w) A (allTrue op es env) s ρ b σ'
  | [], b, σ, σ', s, ρ, _, he, I, l => by
    cases he
    intro Q E k
    induction op using BoolOp.casesOn with
    | And => exact wpAny_allTrue_And_nil (k s.heap s.toks ρ I Go.refl)
    | Or => exact wpAny_allTrue_Or_nil (k s.heap s.toks ρ I Go.refl)
  | e :: es, b, σ, σ', s, ρ, ok, he, I, l => by
    simp only [List.all_cons, Bool.and_eq_true] at ok
    intro Q E k
    unfold allT at he
    split at he
    · rename_i c σ1 h1
      induction op using BoolOp.casesOn with
      | And =>
        refine wpAny_allTrue_And_cons (G.tst A env L σ e c σ1 m ao eo ok.1 h1 s ρ I l _ _ fun hp tk ρ1 I1 g1 => ?_)
        cases c with
        | false => cases he; exact k hp tk ρ1 I1 g1
        | true =>
          rw [if_pos rfl]
          exact allT_ok (s := { s with heap := hp, toks := tk }) G ao eo ok.2 he I1 (l.mono I g1) _ _ fun h2 t2 ρ2 I2 g2 => k h2 t2 ρ2 I2 (g1.trans g2)
      | Or =>
        refine wpAny_allTrue_Or_cons (G.tst A env L σ e c σ1 m ao eo ok.1 h1 s ρ I l _ _ fun hp tk ρ1 I1 g1 => ?_)
        cases c with
        | true => cases he; exact k hp tk ρ1 I1 g1
        | false =>
          rw [if_neg (by decide)]
          exact allT_ok (s := { s with heap := hp, toks := tk }) G ao eo ok.2 he I1 (l.mono I g1) _ _ fun h2 t2 ρ2 I2 g2 => k h2 t2 ρ2 I2 (g1.trans g2)
    · cases he

theorem tstS_ok2 (G : GoodF T CA B (model prog w) n F) {e : Expr} {m : Nat} (ao : AOk A (n + 1)) (eo : EnvOk env) (ok : okE T m env.scope e = true) (I : Inv CA B s.heap ρ σ) (l : LocIn B s.heap ρ env L) :
    Ok2 (tstS F L σ e) fun b σ' => TsOk CA B (model prog w) A (isTrue e env (eval e env)) s ρ b σ' := by
  induction m using Nat.casesOn with
  | zero => exact nomatch ok
  | succ m =>
  have ad := ao.down
  induction e using Expr.casesOn with
  | UnaryOp op x q =>
    induction op using UnaryOp.casesOn with
    | Not => exact Ok2.bt fun c σ1 h1 => Ok2.ret fun Q E k => wpAny_isTrue_Not (G.tst A env L σ x c _ m ad eo ok h1 s ρ I l _ _ fun hp tk ρ1 I1 g1 => k hp tk ρ1 I1 g1)
    | _ => exact Ok2.no
  | BoolOp op es q => exact fun b σ' he Q E k => wpAny_isTrue_BoolOp (allT_ok G ad eo ok he I l _ _ k)
  | Compare lf ops rs q =>
    induction ops using List.casesOn with
    | nil => exact Ok2.no
    | cons op ops =>
      induction ops using List.casesOn with
      | cons => exact Ok2.no
      | nil =>
        induction rs using List.casesOn with
        | nil => exact Ok2.no
        | cons r rs =>
          induction rs using List.casesOn with
          | cons => exact Ok2.no
          | nil =>
            exact Ok2.bv fun a σ1 h1 => Ok2.bv fun b σ2 h2 => Ok2.map (g := id) fun c hc Q E k =>
              wpAny_isTrue_Compare1 (bin_ok (Q := fun v s₃ => wpAny (model prog w) A (truthy v) Q E s₃) (M := fun u v => compareOp op u v) G ad eo (an1 ok) (an1 (an1 (an2 ok))) h1 h2 I l fun u v h2 tk2 ρ2 I2 g2 hu hv =>
                (cmpS_ok (s := { s with heap := h2, toks := tk2 }) ao hc I2 hu hv).mono g2 fun v h3 tk3 ρ3 I3 g3 hv3 => truthy_ok hv3 (k h3 tk3 ρ3 I3 g3)) (marks (nt (an2 (an1 (an2 ok)))))
  | Name x q =>
    exact Ok2.bool fun c σ1 h1 => Ok2.ret fun Q E k => wpAny_isTrue_value (G.ev A env L σ (.Name x q) _ _ (m + 1) ad eo ok h1 s ρ I l _ _ fun v h3 tk3 ρ3 I3 g3 hv3 => truthy_ok hv3 (k h3 tk3 ρ3 I3 g3))
  | Call f as ks q =>
    exact Ok2.bool fun c σ1 h1 => Ok2.ret fun Q E k => wpAny_isTrue_value (G.ev A env L σ (.Call f as ks q) _ _ (m + 1) ad eo ok h1 s ρ I l _ _ fun v h3 tk3 ρ3 I3 g3 hv3 => truthy_ok hv3 (k h3 tk3 ρ3 I3 g3))
  | _ => exact Ok2.no
theorem tstS_ok (G : GoodF T CA B (model prog w) n F) {e : Expr} {b : Bool} {m : Nat} (ao : AOk A (n + 1)) (eo : EnvOk env) (ok : okE T m env.scope e = true) (he : tstS F L σ e = some (b, σ')) (I : Inv CA B s.heap ρ σ) (l : LocIn B s.heap ρ env L) :
    TsOk CA B (model prog w) A (isTrue e env (eval e env)) s ρ b σ' := tstS_ok2 G ao eo ok I l b σ' he

theorem swaps_no {e : Expr} {t : Option Expr} {line : Nat} (h : isComp e = false) : swapsWith e t line env = pure false := by
  cases e <;> first | rfl | cases h

theorem swaps_name {e : Expr} {x : Str} {q : Pos} {line : Nat} : ∃ b, swapsWith e (some (.Name x q)) line env = pure b := by
  cases e <;> exact ⟨_, rfl⟩

/-- names bound in their order -/
theorem inorder_names (eo : EnvOk env) {E : Value → Shared → Prop} : ∀ {xs : List Str} {ds : List V} {vs : List Value} {L : Loc} {s : Shared} {Q : Unit → Shared → Prop}, (∀ x ∈ xs, env.kindOf x = some .local) → xs.length = ds.length → Inv CA B s.heap ρ σ → LocIn B s.heap ρ env L → VAll s.heap ρ ds vs →
    (∀ h' tk, Inv CA B h' ρ σ → Go (XOf env) s.heap ρ h' ρ → LocIn B h' ρ env (updL L xs ds) → Q () { s with heap := h', toks := tk }) → wpAny (model prog w) A (assignInOrder (xs.map fun n => bindName env n) vs) Q E s
  | [], ds, vs, L, s, Q, _, hl, I, l, hv, k => by
    induction ds using List.casesOn with
    | cons => cases hl
    | nil => exact wpAny_pure (k s.heap s.toks I Go.refl l)
  | x :: xs, ds, vs, L, s, Q, ok, hl, I, l, hv, k => by
    induction ds using List.casesOn with
    | nil => cases hl
    | cons d ds =>
      cases hv with
      | @cons _ v _ vs hv hvs =>
        show wpAny _ _ (do holding vs (bindName env x v); assignInOrder (xs.map fun n => bindName env n) vs) Q E s
        refine wpAny_bind (wpAny_holding (wpAny_bindName (store_ok eo (.inl (ok x (.head _))) I l hv fun h1 t1 I1 g1 l1 q1 _ => ?_)))
        exact inorder_names eo (fun y hy => ok y (.tail _ hy)) (by simpa using hl) I1 l1 (hvs.mono l.soft I g1) fun h2 t2 I2 g2 l2 => k h2 t2 I2 (g1.trans g2) l2

theorem VAll.rev {l : List V} {vs : List Value} (x : VAll h ρ l vs) : VAll h ρ l.reverse vs.reverse := by
  induction l generalizing vs with
  | nil => cases x; exact .nil
  | cons d l ih =>
    cases x with
    | cons a r => rw [List.reverse_cons, List.reverse_cons]; exact (ih r).append (.cons a .nil)

theorem upd_comm {x y : Str} {a b : V} (h : x ≠ y) : upd (upd L x a) y b = upd (upd L y b) x a := by
  funext z
  unfold upd
  by_cases h1 : z = x <;> by_cases h2 : z = y
  · exact absurd (h1.symm.trans h2) h
  · simp [h1, h2, h]
  · subst h2; simp [Ne.symm h]
  · simp [h1, h2]

theorem updL_rev : ∀ {xs : List Str} {ds : List V} {L : Loc}, xs.Nodup → xs.length = ds.length → (xs.length = 2 ∨ xs.length = 3) → updL L xs.reverse ds.reverse = updL L xs ds
  | [x, y], [a, b], L, nd, _, _ => by
    simp only [List.nodup_cons, List.mem_singleton, List.not_mem_nil] at nd
    show upd (upd L y b) x a = upd (upd L x a) y b
    exact upd_comm (Ne.symm nd.1)
  | [x, y, z], [a, b, c], L, nd, _, _ => by
    simp only [List.nodup_cons, List.mem_cons, List.not_mem_nil, or_false, not_or] at nd
    show upd (upd (upd L z c) y b) x a = upd (upd (upd L x a) y b) z c
    rw [upd_comm (L := L) (x := x) (y := y) nd.1.1, upd_comm (L := upd L y b) (x := x) (y := z) nd.1.2, upd_comm (L := L) (x := y) (y := z) nd.2.1]
  | [], _, _, _, _, h => by rcases h with h | h <;> cases h
  | [_], _, _, _, _, h => by rcases h with h | h <;> cases h
  | _ :: _ :: _ :: _ :: _, _, _, _, _, h => by rcases h with h | h <;> simp at h
  | [_, _], [], _, _, h, _ => by cases h
  | [_, _], [_], _, _, h, _ => by simp at h
  | [_, _], _ :: _ :: _ :: _, _, _, h, _ => by simp at h
  | [_, _, _], [], _, _, h, _ => by cases h
  | [_, _, _], [_], _, _, h, _ => by simp at h
  | [_, _, _], [_, _], _, _, h, _ => by simp at h
  | [_, _, _], _ :: _ :: _ :: _ :: _, _, _, h, _ => by simp at h
end
end Mine
end
section
open PySem PySem.W PyProof.Rows PySem.Calls
set_option linter.unusedSectionVars false
namespace Mine
variable [Hid]
section
variable {T : Tbl} {CA : Str → Option Addr} {K : Frag} {mg mb : Str → Option Value} {B : Heap} {prog : Program} {w : World} {A : Around} {n : Nat} {F : Funs} {s : Shared} {ρ ρ' ρb τ : Rho} {σ σ' : Sto} {env : Env} {L L' : Loc} {d : V} {h h' h0 hb : Heap} {X X0 Y P P1 : Addr → Prop} {Q : Flow → Shared → Prop} {E : Value → Shared → Prop}

theorem nodup23 {xs : List Str} (h : xs.eraseDups.length = xs.length) (h2 : xs.length = 2 ∨ xs.length = 3) : xs.Nodup := by
  match xs, h, h2 with
  | [x, y], h, _ =>
    rw [List.eraseDups_cons] at h
    by_cases q : y = x
    · subst q; simp at h
    · simp [Ne.symm q]
  | [x, y, z], h, _ =>
    rw [List.eraseDups_cons] at h
    by_cases q : y = x
    · subst q
      by_cases r : z = y
      · subst r; simp at h
      · have : (z == y) = false := by simpa using r
        simp [this, List.eraseDups_cons] at h
    · by_cases r : z = x
      · subst r
        have : (y == z) = false := by simpa using q
        simp [this, List.eraseDups_cons] at h
      · have h1 : (y == x) = false := by simpa using q
        have h3 : (z == x) = false := by simpa using r
        by_cases t : z = y
        · subst t; simp [h1, List.eraseDups_cons] at h
        · simp [Ne.symm q, Ne.symm r, Ne.symm t]
  | [], _, h2 => rcases h2 with h | h <;> cases h
  | [_], _, h2 => rcases h2 with h | h <;> cases h
  | _ :: _ :: _ :: _ :: _, _, h2 => rcases h2 with h | h <;> simp at h

theorem names_filter {f : Expr → Option Str} (hf : ∀ e x, f e = some x → ∃ q, e = .Name x q ∧ env.kindOf x = some .local) : ∀ {ts : List Expr}, (ts.filterMap f).length = ts.length → names? ts = some (ts.filterMap f) ∧ ∀ x ∈ ts.filterMap f, env.kindOf x = some .local
  | [], _ => ⟨rfl, fun _ h => nomatch h⟩
  | t :: ts, h => by
    rw [List.filterMap_cons] at h ⊢
    cases q : f t with
    | none =>
      rw [q] at h
      dsimp only at h
      have := List.length_filterMap_le f ts
      rw [List.length_cons] at h
      lia
    | some x =>
      rw [q] at h
      dsimp only at h ⊢
      obtain ⟨p, rfl, hk⟩ := hf t x q
      obtain ⟨a, b⟩ := names_filter hf (ts := ts) (by simpa using h)
      refine ⟨by unfold names?; rw [a]; rfl, fun y hy => ?_⟩
      rcases List.mem_cons.mp hy with rfl | hy
      · exact hk
      · exact b y hy

theorem swapped_cases {ts : List Expr} {k : Nat} {q : Pos} {e : Expr} (hc : (match e with | .Tuple vs _ _ => !vs.all (constantsAlone 8) | _ => true) = true) :
    swappedStores [.Tuple ts k q] e env = pure none ∨ ∃ names, swappedStores [.Tuple ts k q] e env = pure (some names) ∧ names? ts = some names ∧ names.Nodup ∧ (names.length = 2 ∨ names.length = 3) ∧ ∀ x ∈ names, env.kindOf x = some .local := by
  cases e <;> first | exact .inl rfl | skip
  rename_i vs kk qq
  unfold swappedStores
  dsimp only at hc ⊢
  split
  · exact .inl rfl
  rename_i h1
  simp only [Bool.or_eq_true, Bool.not_eq_true', not_or, Bool.not_eq_true] at h1
  split
  · exact .inl rfl
  split
  · exact .inl rfl
  rename_i h3
  split
  · exact .inl rfl
  split
  · rename_i h5; rw [h5] at hc; exact nomatch hc
  · simp only [Bool.or_eq_true, not_or, Bool.not_eq_true, bne_eq_false_iff_eq] at h3
    have key := names_filter (env := env) (f := fun e => match e with
      | .Name id pos => if env.kindOf id == some .local && pos.line == (ts.head?.map (·.pos.line)).getD 0 then some id else none
      | _ => none) (fun e x hx => by
        cases e <;> first | cases hx | skip
        rename_i id p
        dsimp only at hx
        split at hx
        · rename_i hh
          cases hx
          rw [Bool.and_eq_true] at hh
          exact ⟨p, rfl, beq_iff_eq.mp hh.1⟩
        · cases hx) h3.1
    have hl : ts.length = 2 ∨ ts.length = 3 := by
      have := h1.1.1
      rcases Bool.eq_false_or_eq_true (ts.length == 2) with a | a
      · exact .inl (by simpa using a)
      · rcases Bool.eq_false_or_eq_true (ts.length == 3) with b | b
        · exact .inr (by simpa using b)
        · simp [a, b] at this
    exact .inr ⟨_, rfl, key.1, nodup23 h3.2 (by rw [h3.1]; exact hl), by rw [h3.1]; exact hl, key.2⟩
end
end Mine
end
section
open PySem PySem.W PyProof.Rows PySem.Calls
set_option linter.unusedSectionVars false
namespace Mine
variable [Hid]
section
variable {T : Tbl} {CA : Str → Option Addr} {K : Frag} {mg mb : Str → Option Value} {B : Heap} {prog : Program} {w : World} {A : Around} {n : Nat} {F : Funs} {s : Shared} {ρ ρ' ρb τ : Rho} {σ σ' : Sto} {env : Env} {L L' : Loc} {d : V} {h h' h0 hb : Heap} {X X0 Y P P1 : Addr → Prop} {Q : Flow → Shared → Prop} {E : Value → Shared → Prop}

/-- a value unpacked into names, the last first -/
theorem swapped_ok {ts : List Expr} {k : Nat} {q : Pos} {names : List Str} {v : Value} {Q : Unit → Shared → Prop} (hh : A.handled = none) (eo : EnvOk env) (hn : names? ts = some names) (nd : names.Nodup) (hl : names.length = 2 ∨ names.length = 3) (hk : ∀ x ∈ names, env.kindOf x = some .local)
    (hb : bindT L σ (.Tuple ts k q) d = some L') (I : Inv CA B s.heap ρ σ) (l : LocIn B s.heap ρ env L) (hv : VIn s.heap ρ d v)
    (kk : ∀ h' tk, Inv CA B h' ρ σ → Go (XOf env) s.heap ρ h' ρ → LocIn B h' ρ env L' → Q () { s with heap := h', toks := tk }) :
    wpAny (model prog w) A (unpackItems v names.length none) (fun items s₂ => wpAny (model prog w) A (assignInOrder (names.reverse.map fun n => bindName env n) items.reverse) Q E s₂) E s := by
  have rest : ∀ {ds : List V} {us : List Value} {h1 : Heap}, names.length = ds.length → L' = updL L names ds → VAll s.heap ρ ds us → Heap.ExtBut s.heap.objs.size s.heap h1 → wpAny (model prog w) A (assignInOrder (names.reverse.map fun n => bindName env n) us.toArray.toList.reverse) Q E { s with heap := h1 } := by
    intro ds us h1 hlen hL r he
    have kp : ∀ b o, s.heap.get? b = some o → h1.get? b = some o := fun b o e => he b o (fun q => by rw [q] at e; exact absurd (Heap.lt_size e) (Nat.lt_irrefl _)) e
    have g1 : Go No s.heap ρ h1 ρ := Go.grow kp
    refine inorder_names (s := { s with heap := h1 }) (CA := CA) (σ := σ) (ds := ds.reverse) eo (fun x hx => hk x (List.mem_reverse.mp hx)) (by simpa using hlen) (I.grow kp) (l.mono I g1) (by rw [List.toList_toArray]; exact (r.mono Soft.no I g1).rev) fun h2 t2 I2 g2 l2 => ?_
    rw [updL_rev nd hlen hl] at l2
    rw [hL] at kk
    exact kk h2 t2 I2 (g1.weaken.trans g2) l2
  unfold bindT at hb
  dsimp only at hb
  rw [hn] at hb
  split at hb
  · rename_i xs ds e1
    cases e1
    split at hb
    · rename_i hlen
      cases hb
      have hlen' := of_decide_eq_true hlen
      cases hv with
      | tup ht r hH =>
        have key := wpAny_unpackItems_tuple (prog := prog) (w := w) (A := A) (E := E) (Q := fun items s₂ => wpAny (model prog w) A (assignInOrder (names.reverse.map fun n => bindName env n) items.reverse) Q E s₂) hh ht fun h1 he => rest hlen' rfl r he
        rw [List.size_toArray, r.length, ← hlen'] at key
        exact key
    · cases hb
  · rename_i xs j e1
    cases e1
    split at hb
    · rename_i ds hds
      split at hb
      · rename_i hlen
        cases hb
        have hlen' := of_decide_eq_true hlen
        obtain ⟨ad, us, c, rfl, _, hx, r⟩ := I.list hds hv
        have key := kun_itemsOf (prog := prog) (w := w) (A := A) (E := E) (items := us.toArray) (Q := fun items s₂ => wpAny (model prog w) A (assignInOrder (names.reverse.map fun n => bindName env n) items.reverse) Q E s₂) hh (PySem.IsL.isList (n := c) hx) fun h1 he => rest hlen' rfl r he
        rw [List.size_toArray, r.length, ← hlen'] at key
        exact key
      · cases hb
    · cases hb
  · cases hb

theorem while_ok {t : Expr} {b : List Stmt} {pos : Pos} {f : Fl} {N m : Nat} (G0 : GoodF T CA B (model prog w) n F) (ad : AOk A n) (eo : EnvOk env) (ok : (okE T m env.scope t && b.all (okS T m env.scope)) = true) (he : whileL (fun L σ => F.tst L σ t) (fun L σ => exs F.ex L σ b) N L σ = some (f, L', σ')) (I : Inv CA B s.heap ρ σ) (l : LocIn B s.heap ρ env L) :
    ExOk CA B (model prog w) A env (exec (.While t b [] pos) env) s ρ f L' σ' := by
  intro Q E k
  refine wpAny_While (codeAny_whileLoop (fun c s' => ∃ L1 σ1 h1 tk ρ1, s' = { s with heap := h1, toks := tk } ∧ whileL (fun L σ => F.tst L σ t) (fun L σ => exs F.ex L σ b) c L1 σ1 = some (f, L', σ') ∧ Inv CA B h1 ρ1 σ1 ∧ Go (XOf env) s.heap ρ h1 ρ1 ∧ LocIn B h1 ρ1 env L1) ?_ N ⟨L, σ, s.heap, s.toks, ρ, rfl, he, I, Go.refl, l⟩)
  rintro c s' ⟨L1, σ1, h1, tk, ρ1, rfl, he1, I1, g1, l1⟩
  induction c using Nat.casesOn with
  | zero => exact nomatch he1
  | succ c =>
    unfold whileL at he1
    split at he1
    · rename_i σ2 ht
      refine G0.tst A env L1 σ1 t true σ2 m ad eo (an1 ok) ht { s with heap := h1, toks := tk } ρ1 I1 l1 _ _ fun hp tk2 ρ2 I2 g2 => ?_
      rw [if_pos rfl]
      split at he1
      · rename_i L2 σ3 hb
        refine exs_ok (s := { s with heap := hp, toks := tk2 }) (m := m) G0 ad eo (an2 ok) hb I2 (l1.mono I1 g2) _ _ fun fl h2 tk3 ρ3 I3 g3 l3 hf => ?_
        cases fl <;> first | exact hf.elim | skip
        exact ⟨c, Nat.lt_succ_self _, L2, σ3, h2, tk3, ρ3, rfl, he1, I3, (g1.trans g2.weaken).trans g3, l3⟩
      · rename_i r L2 σ3 hb
        cases he1
        refine exs_ok (s := { s with heap := hp, toks := tk2 }) (m := m) G0 ad eo (an2 ok) hb I2 (l1.mono I1 g2) _ _ fun fl h2 tk3 ρ3 I3 g3 l3 hf => ?_
        cases fl <;> first | exact hf.elim | skip
        exact k _ h2 tk3 ρ3 I3 ((g1.trans g2.weaken).trans g3) l3 hf
      · exact nomatch he1
    · rename_i σ2 ht
      cases he1
      refine G0.tst A env L' σ1 t false σ' m ad eo (an1 ok) ht { s with heap := h1, toks := tk } ρ1 I1 l1 _ _ fun hp tk2 ρ2 I2 g2 => ?_
      rw [if_neg (by decide)]
      exact wpAny_execs_nil (k .next hp tk2 ρ2 I2 (g1.trans g2.weaken) (l1.mono I1 g2) True.intro)
    · exact nomatch he1

theorem evA_ok {P : Expr → V → Sto → Prop} {e : Expr} {m : Nat} {sc : Scope} (ok : okE T m sc e = true) (h1 : isComp e = false → Ok2 (F.ev L σ e) (P e))
    (h2 : ∀ elt gens sc' p m, okE T (m + 1) sc (.ListComp elt gens sc' p) = true → Ok2 (evS T F L σ (.ListComp elt gens sc' p)) (P (.ListComp elt gens sc' p))) : Ok2 (evA T F L σ e) (P e) := by
  induction m using Nat.casesOn with
  | zero => exact nomatch ok
  | succ m => induction e using Expr.casesOn <;> first | exact h1 rfl | exact h2 _ _ _ _ m ok | exact nomatch ok

theorem assign_ok {t e : Expr} {pos : Pos} {m N : Nat} (gd : Gnd T CA K mg mb B) (G : ∀ P1 : Addr → Prop, @GoodF ⟨P1⟩ T CA B (model prog w) n F) (ao : AOk A (n + 1)) (eo : EnvOk env) (ok : okS T (m + 1) env.scope (.Assign [t] e pos) = true) (I : Inv CA B s.heap ρ σ) (l : LocIn B s.heap ρ env L) :
    Ok3 (exS T F N L σ (.Assign [t] e pos)) fun f L' σ' => ExOk CA B (model prog w) A env (exec (.Assign [t] e pos) env) s ρ f L' σ' := by
  have oke := an1 ok
  have okt := an2 ok
  clear ok
  have G0 : GoodF T CA B (model prog w) n F := G Hid.H
  have ad := ao.down
  induction t using Expr.casesOn with
  | Name x q =>
    refine Ok3.bv fun v σ1 h1 => Ok3.ret ?_
    have plain : ∀ e v σ1, swapsWith e (some (.Name x q)) pos.line env = pure false → EvOk CA B (model prog w) A (eval e env) s ρ v σ1 → ExOk CA B (model prog w) A env (exec (.Assign [.Name x q] e pos) env) s ρ .next (upd L x v) σ1 := fun e v σ1 hs hev Q E k =>
      wpAny_Assign_Name (hev _ _ fun u hp tk ρ1 I1 g1 hu =>
        store_ok (s := { s with heap := hp, toks := tk }) eo (okNm_kind (q := q) okt) I1 (l.mono I g1) hu fun h2 tk2 I2 g2 l2 _ _ => k .next h2 tk2 ρ1 I2 (g1.weaken.trans g2) l2 True.intro) hs
    refine evA_ok (P := fun e v σ1 => ExOk CA B (model prog w) A env (exec (.Assign [.Name x q] e pos) env) s ρ .next (upd L x v) σ1) oke (fun hc v σ1 h1 => plain e v σ1 (swaps_no hc) (G0.ev A env L σ e v _ m ad eo oke h1 s ρ I l)) (fun elt gens sc p m oke => ?_) v σ1 h1
    induction gens using List.casesOn with
    | nil => exact Ok2.no
    | cons g gs =>
      obtain ⟨t, i, ff, a⟩ := g
      refine Ok2.bit fun wv vs σ1 e1 => Ok2.bs fun σ2 e2 => Ok2.ret ?_
      obtain ⟨b, hb⟩ := swaps_name (e := .ListComp elt (⟨t, i, ff, a⟩ :: gs) sc p) (x := x) (q := q) (line := pos.line) (env := env)
      induction b using Bool.casesOn with
      | false => exact plain _ _ _ hb (comp_val gd G ao eo oke e1 e2 I l)
      | true => exact comp_use (m := m) gd G ao eo hb (okNm_kind (q := q) okt) oke e1 e2 I l
  | Tuple ts kk q =>
    refine Ok3.bv fun v σ1 h1 => Ok3.bl fun L1 hb => Ok3.ret fun Q E k => ?_
    have hs : swapsWithSole [.Tuple ts kk q] e pos.line env = pure false := by
      unfold swapsWithSole
      exact swaps_no (nt (an2 (an1 okt)))
    rcases swapped_cases (env := env) (ts := ts) (k := kk) (q := q) (an2 okt) with hw | ⟨names, hw, hn, nd, hl, hk⟩
    · exact Assign_Tuple (G0.ev A env L σ e v _ m ad eo oke h1 s ρ I l _ _ fun u hp tk ρ1 I1 g1 hu =>
        asg_ok (s := { s with heap := hp, toks := tk }) ao.hd eo (an1 (an1 okt)) hb I1 (l.mono I g1) hu fun h2 tk2 I2 g2 l2 _ => k .next h2 tk2 ρ1 I2 (g1.weaken.trans g2) l2 True.intro) hs hw
    · exact Assign_Tuple_swapped (G0.ev A env L σ e v _ m ad eo oke h1 s ρ I l _ _ fun u hp tk ρ1 I1 g1 hu =>
        swapped_ok (s := { s with heap := hp, toks := tk }) (CA := CA) ao.hd eo hn nd hl hk hb I1 (l.mono I g1) hu fun h2 tk2 I2 g2 l2 => k .next h2 tk2 ρ1 I2 (g1.weaken.trans g2) l2 True.intro) hs hw
  | Attribute b a q =>
    induction b using Expr.casesOn with
    | Name y qy =>
      exact Ok3.bv fun v σ1 h1 => Ok3.obj fun j σ2 h2 => Ok3.inst fun c fs e1 => Ok3.ite fun hc => Ok3.ret fun Q E k =>
        plainObj_wpAny_Assign_Attribute (G0.ev A env L σ e v σ1 m ad eo oke h1 s ρ I l _ _ fun u hp tk ρ1 I1 g1 hu =>
          G0.ev A env L σ1 (.Name y qy) (.obj j) σ2 1 ad eo (an1 okt) h2 { s with heap := hp, toks := tk } ρ1 I1 (l.mono I g1) _ _ fun u2 hp2 tk2 ρ2 I2 g2 hu2 =>
          set_ok (s := { s with heap := hp2, toks := tk2 }) gd I2 e1 hu2 (hu.mono Soft.no I1 g2) (an1 hc) (of_decide_eq_true (an2 hc)) fun h3 tk3 I3 g3 => k .next h3 tk3 ρ2 I3 ((g1.trans g2).trans g3).weaken (((l.mono I g1).mono I1 g2).mono I2 g3) True.intro) (swaps_no (nt (an2 okt)))
    | _ => exact Ok3.no
  | Subscript o i q =>
    refine Ok3.bv fun v σ1 h1 => Ok3.obj fun j σ2 h2 => Ok3.int fun kq σ3 h3 => Ok3.list fun ll e1 => Ok3.ite fun hc => Ok3.ret fun Q E k => ?_
    refine wpAny_Assign_Subscript (G0.ev A env L σ e v σ1 m ad eo oke h1 s ρ I l _ _ fun u hp tk ρ1 I1 g1 hu => ?_) (swaps_no (nt (an2 (an1 okt))))
    refine G0.ev A env L σ1 o (.obj j) σ2 m ad eo (an1 (an1 (an1 okt))) h2 { s with heap := hp, toks := tk } ρ1 I1 (l.mono I g1) _ _ fun u2 hp2 tk2 ρ2 I2 g2 hu2 => ?_
    refine G0.ev A env L σ2 i (.int kq) σ3 m ad eo (an2 (an1 (an1 okt))) h3 { s with heap := hp2, toks := tk2 } ρ2 I2 ((l.mono I g1).mono I1 g2) _ _ fun u3 hp3 tk3 ρ3 I3 g3 hu3 => ?_
    obtain ⟨ad', us, c, rfl, hpa, hx, r⟩ := I3.list (s := { s with heap := hp3, toks := tk3 }) e1 (hu2.mono Soft.no I2 g3)
    cases hu3
    have T2 := turn_list (s := { s with heap := hp3, toks := tk3 }) (l' := ll.set kq.toNat v) (vs' := us.set kq.toNat u) I3 hpa hx (·.setIfInBounds kq.toNat u) (by simp) (r.set kq.toNat ((hu.mono Soft.no I1 g2).mono Soft.no I2 g3))
    exact ki_setAt (s := { s with heap := hp3, toks := tk3 }) hx (of_decide_eq_true (an1 (an1 hc))) (Int.lt_trans (of_decide_eq_true (an2 (an2 hc))) (by decide)) (by rw [List.size_toArray, r.length]; exact of_decide_eq_true (an2 (an1 hc)))
      (k .next _ tk3 ρ3 T2.1 (((g1.trans g2).trans g3).trans T2.2).weaken ((((l.mono I g1).mono I1 g2).mono I2 g3).mono I3 T2.2) True.intro)
  | _ => exact Ok3.no

theorem exS_ok3 (gd : Gnd T CA K mg mb B) (G : ∀ P1 : Addr → Prop, @GoodF ⟨P1⟩ T CA B (model prog w) n F) {N : Nat} {st : Stmt} {m : Nat} (ao : AOk A (n + 1)) (eo : EnvOk env) (ok : okS T m env.scope st = true) (I : Inv CA B s.heap ρ σ) (l : LocIn B s.heap ρ env L) :
    Ok3 (exS T F N L σ st) fun f L' σ' => ExOk CA B (model prog w) A env (exec st env) s ρ f L' σ' := by
  have G0 : GoodF T CA B (model prog w) n F := G Hid.H
  induction m using Nat.casesOn with
  | zero => exact nomatch ok
  | succ m =>
  have ad := ao.down
  induction st using Stmt.casesOn with
  | Return o q =>
    induction o using Option.casesOn with
    | none => exact Ok3.no
    | some e => exact Ok3.bv fun v σ1 h1 => Ok3.ret fun Q E k =>
        wpAny_Return_some (G0.ev A env L σ e v _ m ad eo ok h1 s ρ I l _ _ fun u hp tk ρ1 I1 g1 hu => k (.ret u) hp tk ρ1 I1 g1.weaken (l.mono I g1) hu)
  | Assign ts e pos =>
    induction ts using List.casesOn with
    | nil => exact Ok3.no
    | cons t ts =>
      induction ts using List.casesOn with
      | cons => exact Ok3.no
      | nil => exact assign_ok gd G ao eo ok I l
  | AugAssign t op e pos =>
    induction t using Expr.casesOn with
    | Name x q =>
      induction op using Operator.casesOn with
      | Add =>
        have hk := okNm_kind (q := q) (an1 (an1 ok))
        exact Ok3.int1 fun a hx => Ok3.int fun b σ2 h1 => Ok3.ret fun Q E k =>
          wpAny_AugAssign_Name (loadVar eo l hx (by rcases hk with q | q <;> rw [q] <;> rfl) (by simpa using an2 (an1 ok)) fun u hu => by
            cases hu
            exact G0.ev A env L σ e (.int b) _ m ad eo (an2 ok) h1 s ρ I l _ _ fun u hp tk ρ1 I1 g1 hu => by
              cases hu
              exact iadd_int (store_ok (s := { s with heap := hp, toks := tk + 1 }) eo hk I1 (l.mono I g1) (.int _ _) fun h2 tk2 I2 g2 l2 _ _ => k .next h2 tk2 ρ1 I2 (g1.weaken.trans g2) l2 True.intro))
      | _ => exact Ok3.no
    | _ => exact Ok3.no
  | Expr e pos =>
    induction e using Expr.casesOn with
    | Call f as ks q =>
      refine Ok3.bv fun v σ1 h1 => Ok3.ret fun Q E k => ?_
      refine wpAny_Expr_any (G0.ev A env L σ (.Call f as ks q) v _ m ad eo (an1 ok) h1 s ρ I l _ _ fun u hp tk ρ1 I1 g1 hu => k .next hp tk ρ1 I1 g1.weaken (l.mono I g1) True.intro) (by unfold interactive; rw [eo.kind]; rfl) rfl
    | _ => exact Ok3.no
  | If t b o pos =>
    have tail : ∀ (c : Bool) (b : List Stmt), b.all (okS T m env.scope) = true → ∀ σ1 f L' σ', exs F.ex L σ1 b = some (f, L', σ') → ∀ hp tk ρ1, Inv CA B hp ρ1 σ1 → Go No s.heap ρ hp ρ1 → ∀ Q E, (∀ fl h' tk ρ', Inv CA B h' ρ' σ' → Go (XOf env) s.heap ρ h' ρ' → LocIn B h' ρ' env L' → FlIn h' ρ' f fl → Q fl { s with heap := h', toks := tk }) → wpAny (model prog w) A (execs b env) Q E { s with heap := hp, toks := tk } :=
      fun c b okb σ1 f L' σ' he hp tk ρ1 I1 g1 Q E k => exs_ok (s := { s with heap := hp, toks := tk }) (m := m) G0 ad eo okb he I1 (l.mono I g1) _ _ fun fl h2 tk2 ρ2 I2 g2 l2 hf => k fl h2 tk2 ρ2 I2 (g1.weaken.trans g2) l2 hf
    refine Ok3.bt fun c σ1 h1 => ?_
    induction c using Bool.casesOn with
    | true => exact fun f L' σ' he Q E k => wpAny_If (G0.tst A env L σ t true σ1 m ad eo (an1 (an1 ok)) h1 s ρ I l _ _ fun hp tk ρ1 I1 g1 => by
        rw [if_pos rfl]; exact tail true b (an2 (an1 ok)) σ1 f L' σ' he hp tk ρ1 I1 g1 Q E k)
    | false => exact fun f L' σ' he Q E k => wpAny_If (G0.tst A env L σ t false σ1 m ad eo (an1 (an1 ok)) h1 s ρ I l _ _ fun hp tk ρ1 I1 g1 => by
        rw [if_neg (by decide)]; exact tail false o (an2 ok) σ1 f L' σ' he hp tk ρ1 I1 g1 Q E k)
  | While t b o pos =>
    induction o using List.casesOn with
    | cons => exact Ok3.no
    | nil => exact fun f L' σ' he Q E k => while_ok G0 ad eo ok he I l Q E k
  | For t it b o pos =>
    induction o using List.casesOn with
    | cons => exact Ok3.no
    | nil =>
      exact Ok3.bv fun wv σ1 h1 => Ok3.bi fun vs hvs => fun f L' σ' he Q E k => by
          have hset : isSet it = false := nt (an2 ok)
          refine wpAny_For (G0.ev A env L σ it wv σ1 m ad eo (an1 (an1 (an1 ok))) h1 s ρ I l _ _ fun u hp tk ρ1 I1 g1 hu => ?_) (by intro x; cases it <;> first | rfl | cases hset)
          refine iter_ok (s := { s with heap := hp, toks := tk }) hvs I1 hu fun h2 Iv own kp x hf => ?_
          have g2 : Go No hp ρ1 h2 ρ1 := Go.grow kp
          refine for_ok (s := { s with heap := h2, toks := tk }) (iter := it) (hb := s.heap) (ρb := ρ) (m := m) G0 ad eo (an2 (an1 (an1 ok))) (an2 (an1 ok)) (fun b hb => ⟨?_, (hf b hb).2⟩) he (I1.grow kp) (g1.trans g2).weaken ((l.mono I g1).mono I1 g2) x fun fl h3 tk3 ρ3 I3 g3 l3 hfl => k fl h3 tk3 ρ3 I3 g3 l3 hfl
          cases q : s.heap.get? b with
          | none => rfl
          | some o => obtain ⟨o', e⟩ := g1.live b o q; rw [(hf b hb).1] at e; exact nomatch e
  | _ => exact Ok3.no
theorem exS_ok (gd : Gnd T CA K mg mb B) (G : ∀ P1 : Addr → Prop, @GoodF ⟨P1⟩ T CA B (model prog w) n F) {N : Nat} {st : Stmt} {f : Fl} {m : Nat} (ao : AOk A (n + 1)) (eo : EnvOk env) (ok : okS T m env.scope st = true) (he : exS T F N L σ st = some (f, L', σ')) (I : Inv CA B s.heap ρ σ) (l : LocIn B s.heap ρ env L) :
    ExOk CA B (model prog w) A env (exec st env) s ρ f L' σ' := exS_ok3 gd G ao eo ok I l f L' σ' he
end
end Mine
end
section
open PySem PySem.W PyProof.Rows PySem.Calls
set_option linter.unusedSectionVars false
namespace Mine
variable {T : Tbl} {CA : Str → Option Addr} {K : Frag} {mg mb : Str → Option Value} {B : Heap} {prog : Program} {w : World}

theorem good (gd : Gnd T CA K mg mb B) : ∀ (n : Nat) (P1 : Addr → Prop), @GoodF ⟨P1⟩ T CA B (model prog w) n (lvl T n)
  | 0, P1 => by
    refine @GoodF.mk ⟨P1⟩ T CA B (model prog w) 0 (lvl T 0) ?_ ?_ ?_
    · intro A env L σ e d σ' m _ _ _ he; cases he
    · intro A env L σ e d σ' m _ _ _ he; cases he
    · intro A env L σ e d L' σ' m _ _ _ he; cases he
  | n + 1, P1 => by
    have G := good gd n
    refine @GoodF.mk ⟨P1⟩ T CA B (model prog w) (n + 1) (lvl T (n + 1)) ?_ ?_ ?_
    · intro A env L σ e d σ' m ao eo ok he s ρ I l
      exact @evS_ok ⟨P1⟩ _ _ _ _ _ _ _ _ _ _ _ _ _ _ _ _ _ _ gd G _ _ ao eo ok he I l
    · intro A env L σ e d σ' m ao eo ok he s ρ I l
      exact @tstS_ok ⟨P1⟩ _ _ _ _ _ _ _ _ _ _ _ _ _ _ (G P1) _ _ _ ao eo ok he I l
    · intro A env L σ st f L' σ' m ao eo ok he s ρ I l
      exact @exS_ok ⟨P1⟩ _ _ _ _ _ _ _ _ _ _ _ _ _ _ _ _ _ _ gd G _ _ _ _ ao eo ok he I l
end Mine
end
section
open PySem PySem.W PyProof.Rows PySem.Calls
set_option linter.unusedSectionVars false
set_option linter.unusedVariables false
set_option maxRecDepth 100000
namespace Mine

noncomputable def bis : List (Str × Bi) := [("len", .len), ("range", .range), ("abs", .abs), ("max", .max), ("min", .min), ("int", .int), ("tuple", .tuple), ("sum", .sum), ("zip", .zip)]
noncomputable def clss : List Str := ["Corner", "Pattern", "Style"]
noncomputable def fns : List DefRec := [d_root_floor.1, d_nearest_root_share.1, d_way_of.1, d_moved_by.1, d_turned_about.1, d_normal_of.1, d_along_of.1, d_parallel.1, d_area_twice_of.1, d_one_sense.1, d_is_at_least_root.1, d_is_within_limit.1, d_bevel_spots.1, d_join_spots.1, d_square_about.1, d_cap_spots.1, d_dot_spots.1, d_dashed.1, d_plain_line.1, d_side_pieces.1, d_join_pieces.1, d_corners_of.1, d_stroked_line.1, d_stroked.1, d_l_pool.1, d_l_take.1, d_l_one.1, d_l_normal.1, d_l_sensed.1, d_l_at.1, d_l_side.1, d_l_corner.1, d_l_cap.1, d_l_due.1, d_l_drawn.1]
noncomputable def meths : List ((Str × Str) × DefRec) := [
  (("Corner", "__init__"), m_corner_init.1), (("Corner", "is_straight"), m_corner_is_straight.1), (("Corner", "squares"), m_corner_squares.1),
  (("Pattern", "__init__"), m_pattern_init.1), (("Pattern", "is_plain"), m_pattern_is_plain.1),
  (("Style", "__init__"), m_style_init.1), (("Style", "half"), m_style_half.1), (("Style", "steps"), m_style_steps.1)]
noncomputable def flds : List (Str × List Str) := [("Corner", ["spot", "first", "second", "turn", "straight", "one", "other"]), ("Pattern", ["lengths", "place", "left"]), ("Style", ["width", "join", "cap", "limit", "dashes", "start"])]
noncomputable def tbl (r : Nat → Option (List Int)) : Tbl where
  kind x := match bis.lookup x with
    | some b => some (.bi b)
    | none => if clss.contains x then some (.cls x) else if x = "MOST_STEPS" then some (.const (.int 16)) else (fns.find? fun d => d.name == x).map .fn
  meth c m := meths.lookup (c, m)
  dfl c := if c = "Style" then [.str "miter", .str "butt", .tup [.int 4, .int 1], .tup [], .int 0] else []
  field c a := match flds.lookup c with
    | some l => l.contains a
    | none => false
  ro := r
variable (r : Nat → Option (List Int))

theorem k_len : (tbl r).kind "len" = some (.bi .len) := by kernel_rfl
theorem k_zip : (tbl r).kind "zip" = some (.bi .zip) := by kernel_rfl
theorem fns_ok : fns.all (okFn (tbl r)) = true := by kernel_rfl
theorem law_ok : okFn (tbl r) d_law.1 = true := by kernel_rfl
theorem meths_ok : meths.all (fun p => okFn (tbl r) p.2) = true := by kernel_rfl
end Mine
end
section
open PySem PySem.W PyProof.Rows PySem.Calls
set_option linter.unusedSectionVars false
set_option linter.unusedVariables false
set_option maxRecDepth 100000
namespace Mine
theorem fns_recs : ∀ d ∈ fns, d ∈ recsOf vw := by
  have e : fns = ([0, 1, 3, 4, 5, 7, 8, 9, 10, 11, 14, 15, 17, 19, 20, 21, 22, 25, 26, 27, 28, 29, 30, 31, 32, 33, 34, 35, 36, 37, 38, 39, 40, 41, 42] : List Nat).filterMap ((recsOf vw)[·]?) := by
    rw [recs_eq]; rfl
  intro d hd
  rw [e] at hd
  obtain ⟨i, _, hi⟩ := List.mem_filterMap.mp hd
  exact List.mem_of_getElem? hi
end Mine
end
section
open PySem PySem.W PyProof.Rows PySem.Calls
set_option linter.unusedSectionVars false
set_option linter.unusedVariables false
set_option maxRecDepth 100000
namespace Mine
noncomputable def clsAt (c : Str) : Option Addr := if c = "Corner" then some 185 else if c = "Pattern" then some 309 else if c = "Style" then some 410 else none
theorem cls_all {c : Str} {C : Addr} {P : Str → Addr → Prop} (h : clsAt c = some C) (h1 : P "Corner" 185) (h2 : P "Pattern" 309) (h3 : P "Style" 410) : P c C := by
  unfold clsAt at h
  by_cases e : c = "Corner"
  · rw [if_pos e] at h; cases h; rw [e]; exact h1
  rw [if_neg e] at h
  by_cases e : c = "Pattern"
  · rw [if_pos e] at h; cases h; rw [e]; exact h2
  rw [if_neg e] at h
  by_cases e : c = "Style"
  · rw [if_pos e] at h; cases h; rw [e]; exact h3
  rw [if_neg e] at h; cases h
theorem fm {α : Type} {P : α → Prop} {a : α} {l : List α} (h : P a) (t : ∀ x ∈ l, P x) : ∀ x ∈ a :: l, P x := List.forall_mem_cons.mpr ⟨h, t⟩
theorem fm0 {α : Type} {P : α → Prop} : ∀ x ∈ ([] : List α), P x := fun _ h => nomatch h
noncomputable def FldP (p : Params) (C : Addr) (a : Str) : Prop := findIn (kf p) (.ref C) a = some none ∧ plainGet (kf p) C a = true ∧ hasDictIn (kf p) C = true ∧ takerIn (kf p) C a = some none
section
variable (p : Params) (r : Nat → Option (List Int))

theorem fld_Corner : ∀ a, (tbl r).field "Corner" a = true → FldP p 185 a := fun a h =>
  have h1 : (["spot", "first", "second", "turn", "straight", "one", "other"] : List Str).contains a = true := h
  (fm ⟨rfl, rfl, rfl, rfl⟩ <| fm ⟨rfl, rfl, rfl, rfl⟩ <| fm ⟨rfl, rfl, rfl, rfl⟩ <| fm ⟨rfl, rfl, rfl, rfl⟩ <| fm ⟨rfl, rfl, rfl, rfl⟩ <| fm ⟨rfl, rfl, rfl, rfl⟩ <| fm ⟨rfl, rfl, rfl, rfl⟩ <| fm0 : ∀ x ∈ (["spot", "first", "second", "turn", "straight", "one", "other"] : List Str), FldP p 185 x) a (List.contains_iff_mem.mp h1)
theorem cset_Corner : findIn (kf p) (.ref 185) "__setattr__" = some (some (.builtin "object.__setattr__")) ∧ plainOver (kf p) 185 = true ∧ hasDictIn (kf p) 185 = true ∧ makesIn (kf p) 185 = true ∧ keepIn (kf p) (.ref 185) = true := ⟨rfl, rfl, rfl, rfl, rfl⟩
theorem fld_Pattern : ∀ a, (tbl r).field "Pattern" a = true → FldP p 309 a := fun a h =>
  have h1 : (["lengths", "place", "left"] : List Str).contains a = true := h
  (fm ⟨rfl, rfl, rfl, rfl⟩ <| fm ⟨rfl, rfl, rfl, rfl⟩ <| fm ⟨rfl, rfl, rfl, rfl⟩ <| fm0 : ∀ x ∈ (["lengths", "place", "left"] : List Str), FldP p 309 x) a (List.contains_iff_mem.mp h1)
theorem cset_Pattern : findIn (kf p) (.ref 309) "__setattr__" = some (some (.builtin "object.__setattr__")) ∧ plainOver (kf p) 309 = true ∧ hasDictIn (kf p) 309 = true ∧ makesIn (kf p) 309 = true ∧ keepIn (kf p) (.ref 309) = true := ⟨rfl, rfl, rfl, rfl, rfl⟩
theorem fld_Style : ∀ a, (tbl r).field "Style" a = true → FldP p 410 a := fun a h =>
  have h1 : (["width", "join", "cap", "limit", "dashes", "start"] : List Str).contains a = true := h
  (fm ⟨rfl, rfl, rfl, rfl⟩ <| fm ⟨rfl, rfl, rfl, rfl⟩ <| fm ⟨rfl, rfl, rfl, rfl⟩ <| fm ⟨rfl, rfl, rfl, rfl⟩ <| fm ⟨rfl, rfl, rfl, rfl⟩ <| fm ⟨rfl, rfl, rfl, rfl⟩ <| fm0 : ∀ x ∈ (["width", "join", "cap", "limit", "dashes", "start"] : List Str), FldP p 410 x) a (List.contains_iff_mem.mp h1)
theorem cset_Style : findIn (kf p) (.ref 410) "__setattr__" = some (some (.builtin "object.__setattr__")) ∧ plainOver (kf p) 410 = true ∧ hasDictIn (kf p) 410 = true ∧ makesIn (kf p) 410 = true ∧ keepIn (kf p) (.ref 410) = true := ⟨rfl, rfl, rfl, rfl, rfl⟩
theorem fn_175 : ∃ o fd, (kf p).lookup 175 = some o ∧ o.data = .func fd ∧ fd.params = m_corner_is_straight.1.params ∧ fd.body = .stmts m_corner_is_straight.1.body ∧ fd.scope = m_corner_is_straight.1.scope ∧ fd.closure = [] ∧ fd.globals = mainGlobals ∧ fd.builtins = builtinsNs ∧ codeIn (kf p) fd.code fd.qualname = true ∧ fd.defaults = .none := ⟨_, _, rfl, rfl, by kernel_rfl, by kernel_rfl, by kernel_rfl, rfl, rfl, rfl, rfl, rfl⟩
theorem mt_175 : findIn (kf p) (.ref 185) "is_straight" = some (some (.ref 175)) ∧ isFn (kf p) (.ref 175) = true ∧ plainGet (kf p) 185 "is_straight" = true := ⟨rfl, rfl, rfl⟩
theorem fn_182 : ∃ o fd, (kf p).lookup 182 = some o ∧ o.data = .func fd ∧ fd.params = m_corner_squares.1.params ∧ fd.body = .stmts m_corner_squares.1.body ∧ fd.scope = m_corner_squares.1.scope ∧ fd.closure = [] ∧ fd.globals = mainGlobals ∧ fd.builtins = builtinsNs ∧ codeIn (kf p) fd.code fd.qualname = true ∧ fd.defaults = .none := ⟨_, _, rfl, rfl, by kernel_rfl, by kernel_rfl, by kernel_rfl, rfl, rfl, rfl, rfl, rfl⟩
theorem mt_182 : findIn (kf p) (.ref 185) "squares" = some (some (.ref 182)) ∧ isFn (kf p) (.ref 182) = true ∧ plainGet (kf p) 185 "squares" = true := ⟨rfl, rfl, rfl⟩
theorem fn_285 : ∃ o fd, (kf p).lookup 285 = some o ∧ o.data = .func fd ∧ fd.params = m_pattern_is_plain.1.params ∧ fd.body = .stmts m_pattern_is_plain.1.body ∧ fd.scope = m_pattern_is_plain.1.scope ∧ fd.closure = [] ∧ fd.globals = mainGlobals ∧ fd.builtins = builtinsNs ∧ codeIn (kf p) fd.code fd.qualname = true ∧ fd.defaults = .none := ⟨_, _, rfl, rfl, by kernel_rfl, by kernel_rfl, by kernel_rfl, rfl, rfl, rfl, rfl, rfl⟩
theorem mt_285 : findIn (kf p) (.ref 309) "is_plain" = some (some (.ref 285)) ∧ isFn (kf p) (.ref 285) = true ∧ plainGet (kf p) 309 "is_plain" = true := ⟨rfl, rfl, rfl⟩
theorem fn_400 : ∃ o fd, (kf p).lookup 400 = some o ∧ o.data = .func fd ∧ fd.params = m_style_half.1.params ∧ fd.body = .stmts m_style_half.1.body ∧ fd.scope = m_style_half.1.scope ∧ fd.closure = [] ∧ fd.globals = mainGlobals ∧ fd.builtins = builtinsNs ∧ codeIn (kf p) fd.code fd.qualname = true ∧ fd.defaults = .none := ⟨_, _, rfl, rfl, by kernel_rfl, by kernel_rfl, by kernel_rfl, rfl, rfl, rfl, rfl, rfl⟩
theorem mt_400 : findIn (kf p) (.ref 410) "half" = some (some (.ref 400)) ∧ isFn (kf p) (.ref 400) = true ∧ plainGet (kf p) 410 "half" = true := ⟨rfl, rfl, rfl⟩
theorem fn_407 : ∃ o fd, (kf p).lookup 407 = some o ∧ o.data = .func fd ∧ fd.params = m_style_steps.1.params ∧ fd.body = .stmts m_style_steps.1.body ∧ fd.scope = m_style_steps.1.scope ∧ fd.closure = [] ∧ fd.globals = mainGlobals ∧ fd.builtins = builtinsNs ∧ codeIn (kf p) fd.code fd.qualname = true ∧ fd.defaults = .none := ⟨_, _, rfl, rfl, by kernel_rfl, by kernel_rfl, by kernel_rfl, rfl, rfl, rfl, rfl, rfl⟩
theorem mt_407 : findIn (kf p) (.ref 410) "steps" = some (some (.ref 407)) ∧ isFn (kf p) (.ref 407) = true ∧ plainGet (kf p) 410 "steps" = true := ⟨rfl, rfl, rfl⟩
theorem fn_168 : ∃ o fd, (kf p).lookup 168 = some o ∧ o.data = .func fd ∧ fd.params = m_corner_init.1.params ∧ fd.body = .stmts m_corner_init.1.body ∧ fd.scope = m_corner_init.1.scope ∧ fd.closure = [] ∧ fd.globals = mainGlobals ∧ fd.builtins = builtinsNs ∧ codeIn (kf p) fd.code fd.qualname = true ∧ fd.defaults = .none := ⟨_, _, rfl, rfl, by kernel_rfl, by kernel_rfl, by kernel_rfl, rfl, rfl, rfl, rfl, rfl⟩
theorem mt_168 : findIn (kf p) (.ref 185) "__init__" = some (some (.ref 168)) ∧ isFn (kf p) (.ref 168) = true := ⟨rfl, rfl⟩
theorem fn_278 : ∃ o fd, (kf p).lookup 278 = some o ∧ o.data = .func fd ∧ fd.params = m_pattern_init.1.params ∧ fd.body = .stmts m_pattern_init.1.body ∧ fd.scope = m_pattern_init.1.scope ∧ fd.closure = [] ∧ fd.globals = mainGlobals ∧ fd.builtins = builtinsNs ∧ codeIn (kf p) fd.code fd.qualname = true ∧ fd.defaults = .none := ⟨_, _, rfl, rfl, by kernel_rfl, by kernel_rfl, by kernel_rfl, rfl, rfl, rfl, rfl, rfl⟩
theorem mt_278 : findIn (kf p) (.ref 309) "__init__" = some (some (.ref 278)) ∧ isFn (kf p) (.ref 278) = true := ⟨rfl, rfl⟩
theorem mt_393 : findIn (kf p) (.ref 410) "__init__" = some (some (.ref 393)) ∧ isFn (kf p) (.ref 393) = true := ⟨rfl, rfl⟩
theorem dfl_at : ∃ o, (kf p).lookup 386 = some o ∧ ∃ t1 t2 t3, o.data = .seq #[.str "miter" t1, .str "butt" t2, .ref 384, .ref 385, .int 0 t3] := ⟨_, rfl, _, _, _, rfl⟩
theorem lim_at : ∃ o, (kf p).lookup 384 = some o ∧ o.cls = .type "tuple" ∧ ∃ t1 t2, o.data = .seq #[.int 4 t1, .int 1 t2] := ⟨_, rfl, rfl, _, _, rfl⟩
theorem emp_at : ∃ o, (kf p).lookup 385 = some o ∧ o.cls = .type "tuple" ∧ o.data = .seq #[] := ⟨_, rfl, rfl, rfl⟩
theorem most_at : ∃ t, nsIn (kf p) mainGlobals "MOST_STEPS" = some (some (.int 16 t)) := ⟨_, rfl⟩

theorem bi_len : nsIn (kf p) mainGlobals "len" = some none := rfl
theorem bo_len : bootBuiltins "len" = some (biV .len) := by kernel_rfl
theorem bi_range : nsIn (kf p) mainGlobals "range" = some none := rfl
theorem bo_range : bootBuiltins "range" = some (biV .range) := by kernel_rfl
theorem bi_abs : nsIn (kf p) mainGlobals "abs" = some none := rfl
theorem bo_abs : bootBuiltins "abs" = some (biV .abs) := by kernel_rfl
theorem bi_max : nsIn (kf p) mainGlobals "max" = some none := rfl
theorem bo_max : bootBuiltins "max" = some (biV .max) := by kernel_rfl
theorem bi_min : nsIn (kf p) mainGlobals "min" = some none := rfl
theorem bo_min : bootBuiltins "min" = some (biV .min) := by kernel_rfl
theorem bi_int : nsIn (kf p) mainGlobals "int" = some none := rfl
theorem bo_int : bootBuiltins "int" = some (biV .int) := by kernel_rfl
theorem bi_tuple : nsIn (kf p) mainGlobals "tuple" = some none := rfl
theorem bo_tuple : bootBuiltins "tuple" = some (biV .tuple) := by kernel_rfl
theorem bi_sum : nsIn (kf p) mainGlobals "sum" = some none := rfl
theorem bo_sum : bootBuiltins "sum" = some (biV .sum) := by kernel_rfl
theorem bi_zip : nsIn (kf p) mainGlobals "zip" = some none := rfl
theorem bo_zip : bootBuiltins "zip" = some (biV .zip) := by kernel_rfl
theorem ns_Corner : nsIn (kf p) mainGlobals "Corner" = some (some (.ref 185)) := rfl
theorem ns_Pattern : nsIn (kf p) mainGlobals "Pattern" = some (some (.ref 309)) := rfl
theorem ns_Style : nsIn (kf p) mainGlobals "Style" = some (some (.ref 410)) := rfl
end
end Mine
end
section
open PySem PySem.W PyProof.Rows PySem.Calls
set_option linter.unusedSectionVars false
set_option linter.unusedVariables false
set_option maxRecDepth 100000
namespace Mine

variable {r : Nat → Option (List Int)}
theorem look_mem {α β : Type} [BEq α] [LawfulBEq α] {a : α} {b : β} {l : List (α × β)} (h : l.lookup a = some b) : (a, b) ∈ l := by
  induction l with
  | nil => cases h
  | cons q l ih =>
    obtain ⟨k, v⟩ := q
    rw [List.lookup_cons] at h
    cases e : a == k with
    | true => rw [e] at h; cases h; rw [beq_iff_eq.mp e]; exact .head _
    | false => rw [e] at h; exact .tail _ (ih h)
theorem meth_ok {c m : Str} {d : DefRec} (h : (tbl r).meth c m = some d) : okFn (tbl r) d = true := by
  have h' : meths.lookup (c, m) = some d := h
  exact List.all_eq_true.mp (meths_ok r) ((c, m), d) (look_mem h')

section
variable (p : Params) {h : Heap} {mg mb : Str → Option Value}

theorem bind_none {fd : FuncData} {d : DefRec} (hp : fd.params = d.params) (ok : okFn (tbl r) d = true) (hdf : fd.defaults = .none) (ws : List Value) (s : Shared) (hl : ws.length = d.params.args.length) : BindsTo s fd ⟨ws, []⟩ ((d.params.args.map (·.arg)).zip (ws ++ [])) := by
  haveI : Hid := noHid
  obtain ⟨p1, p2, p3, p4, p5, p6, p7, p8, p9, p10⟩ := okFn_parts ok
  rw [List.append_nil]
  exact BindsTo.of_eq (bind_plain (by rw [hp]; exact p4) (by rw [hp]; exact p5) (by rw [hp]; exact p6) (by rw [hp]; exact p7) (by rw [hp]) hdf p8 hl.symm)

theorem style_i (X : (kf p).In h) (ok : okFn (tbl r) m_style_init.1 = true) : InitP (tbl r) (kf p) h "Style" 410 m_style_init.1 := by
  refine ⟨393, _, _, (mt_393 p).1, (mt_393 p).2, X _ _ rfl, rfl, by kernel_rfl, by kernel_rfl, rfl, rfl, rfl, codeRec_of X rfl, ok, by decide +kernel, by kernel_rfl, ?_⟩
  intro ws s kp hl
  have hn : m_style_init.1.params.args.length = 7 := rfl
  have hD : (tbl r).dfl "Style" = [.str "miter", .str "butt", .tup [.int 4, .int 1], .tup [], .int 0] := by
    unfold tbl; simp
  rw [hn, hD] at hl
  rw [hD, hn]
  rw [List.length_drop] at hl
  simp only [List.length_cons, List.length_nil] at hl
  obtain ⟨o, ho, t1, t2, t3, hod⟩ := dfl_at p
  obtain ⟨o4, ho4, hc4, u1, u2, hd4⟩ := lim_at p
  obtain ⟨o5, ho5, hc5, hd5⟩ := emp_at p
  have v1 : @VIn noHid h [] (.str "miter") (.str "miter" t1) := @VIn.str noHid _ _ _ _
  have v2 : @VIn noHid h [] (.str "butt") (.str "butt" t2) := @VIn.str noHid _ _ _ _
  have v3 : @VIn noHid h [] (.tup [.int 4, .int 1]) (.ref 384) := @VIn.tup noHid _ _ 384 [.int 4 u1, .int 1 u2] _ ⟨o4, X _ _ ho4, hc4, 0, hd4⟩ (@VAll.cons noHid _ _ _ _ _ _ (@VIn.int noHid _ _ _ _) (@VAll.cons noHid _ _ _ _ _ _ (@VIn.int noHid _ _ _ _) (@VAll.nil noHid _ _))) id
  have v4 : @VIn noHid h [] (.tup []) (.ref 385) := @VIn.tup noHid _ _ 385 [] _ ⟨o5, X _ _ ho5, hc5, 0, hd5⟩ (@VAll.nil noHid _ _) id
  have v5 : @VIn noHid h [] (.int 0) (.int 0 t3) := @VIn.int noHid _ _ _ _
  have V0 : @VAll noHid h [] [] [] := @VAll.nil noHid _ _
  have V1 := @VAll.cons noHid _ _ _ _ _ _ v5 V0
  have V2 := @VAll.cons noHid _ _ _ _ _ _ v4 V1
  have V3 := @VAll.cons noHid _ _ _ _ _ _ v3 V2
  have V4 := @VAll.cons noHid _ _ _ _ _ _ v2 V3
  have V5 := @VAll.cons noHid _ _ _ _ _ _ v1 V4
  have hoS := kp _ _ (X _ _ ho)
  match ws, hl with
  | [], hl => simp at hl
  | [_], hl => simp at hl
  | [a, b], _ => exact ⟨_, V5, BindsTo.of_defaults (T := 386) rfl hoS hod rfl rfl⟩
  | [a, b, c], _ => exact ⟨_, V4, BindsTo.of_defaults (T := 386) rfl hoS hod rfl rfl⟩
  | [a, b, c, d], _ => exact ⟨_, V3, BindsTo.of_defaults (T := 386) rfl hoS hod rfl rfl⟩
  | [a, b, c, d, e], _ => exact ⟨_, V2, BindsTo.of_defaults (T := 386) rfl hoS hod rfl rfl⟩
  | [a, b, c, d, e, f], _ => exact ⟨_, V1, BindsTo.of_defaults (T := 386) rfl hoS hod rfl rfl⟩
  | [a, b, c, d, e, f, g], _ => exact ⟨_, V0, BindsTo.of_defaults (T := 386) rfl hoS hod rfl rfl⟩
  | _ :: _ :: _ :: _ :: _ :: _ :: _ :: _ :: _, hl => simp at hl

theorem fn_at (X : (kf p).In h) {f : Addr} {d : DefRec} (ok : okFn (tbl r) d = true) (e : ∃ o fd, (kf p).lookup f = some o ∧ o.data = .func fd ∧ fd.params = d.params ∧ fd.body = .stmts d.body ∧ fd.scope = d.scope ∧ fd.closure = [] ∧ fd.globals = mainGlobals ∧ fd.builtins = builtinsNs ∧ codeIn (kf p) fd.code fd.qualname = true ∧ fd.defaults = .none) : FnAt (tbl r) h f d := by
  obtain ⟨o, fd, e1, e2, e3, e4, e5, e6, e7, e8, e9, e10⟩ := e
  exact ⟨⟨o, fd, X _ _ e1, e2, e3, e4, e5, e6, e7, e8, codeRec_of X e9, e10⟩, ok⟩

theorem init_at (X : (kf p).In h) {f : Addr} {c : Str} {C : Addr} {d : DefRec} (ok : okFn (tbl r) d = true) (hc : ∀ x ∈ d.scope.names, x.2 ≠ .cell) (hd0 : (tbl r).dfl c = []) (h1 : findIn (kf p) (.ref C) "__init__" = some (some (.ref f)) ∧ isFn (kf p) (.ref f) = true)
    (e : ∃ o fd, (kf p).lookup f = some o ∧ o.data = .func fd ∧ fd.params = d.params ∧ fd.body = .stmts d.body ∧ fd.scope = d.scope ∧ fd.closure = [] ∧ fd.globals = mainGlobals ∧ fd.builtins = builtinsNs ∧ codeIn (kf p) fd.code fd.qualname = true ∧ fd.defaults = .none) : InitP (tbl r) (kf p) h c C d := by
  obtain ⟨o, fd, e1, e2, e3, e4, e5, e6, e7, e8, e9, e10⟩ := e
  refine ⟨f, o, fd, h1.1, h1.2, X _ _ e1, e2, e4, e5, e6, e7, e8, codeRec_of X e9, ok, hc, by rw [hd0]; rfl, fun ws s kp hl => ⟨[], ?_, bind_none e3 ok e10 ws s ?_⟩⟩
  · rw [hd0, List.drop_nil]; exact @VAll.nil noHid _ _
  · rw [hd0, List.drop_nil] at hl; exact hl

theorem meth_at {C' C f : Addr} {m : Str} {d : DefRec} (hc : some C' = some C) (e : findIn (kf p) (.ref C') m = some (some (.ref f)) ∧ isFn (kf p) (.ref f) = true ∧ plainGet (kf p) C' m = true) (hF : FnAt (tbl r) h f d) : MethP (tbl r) (kf p) h C m d := by
  cases hc; exact ⟨f, e.1, e.2.1, e.2.2, hF⟩
theorem init_is {c : Str} {C : Addr} {d d' : DefRec} (e : (tbl r).meth c "__init__" = some d') (hm : (tbl r).meth c "__init__" = some d) (hi : okFn (tbl r) d' = true → InitP (tbl r) (kf p) h c C d') : InitP (tbl r) (kf p) h c C d := by
  cases e.symm.trans hm; exact hi (meth_ok e)
theorem gnd (g : h.Ns mainGlobals mg) (b : h.Ns builtinsNs mb) (nl : h.NoLimit) (X : (kf p).In h) (hb : ∀ x : Str, x ≠ "__name__" → mb x = bootBuiltins x)
    (hro : ∀ a xs, r a = some xs → ∃ us, h.IsList a us ∧ Ints xs us.toList)
    (fn : ∀ d ∈ recsOf vw, ∃ a o pm code doc, mg d.name = some (.ref a) ∧ h.get? a = some o ∧ o.data = .func (docDef d.name d.params d.body d.scope pm code doc) ∧ h.CodeRec code d.name) : Gnd (tbl r) clsAt (kf p) mg mb h where
  g := g
  b := b
  nolimit := nl
  X := X
  kind := fun x k hk => by
    have hB : ∀ q ∈ bis, mg q.1 = none ∧ mb q.1 = some (biV q.2) := fm ⟨mg_none_of X g (bi_len p), (hb _ (by decide)).trans bo_len⟩ <| fm ⟨mg_none_of X g (bi_range p), (hb _ (by decide)).trans bo_range⟩ <| fm ⟨mg_none_of X g (bi_abs p), (hb _ (by decide)).trans bo_abs⟩ <| fm ⟨mg_none_of X g (bi_max p), (hb _ (by decide)).trans bo_max⟩ <| fm ⟨mg_none_of X g (bi_min p), (hb _ (by decide)).trans bo_min⟩ <| fm ⟨mg_none_of X g (bi_int p), (hb _ (by decide)).trans bo_int⟩ <| fm ⟨mg_none_of X g (bi_tuple p), (hb _ (by decide)).trans bo_tuple⟩ <| fm ⟨mg_none_of X g (bi_sum p), (hb _ (by decide)).trans bo_sum⟩ <| fm ⟨mg_none_of X g (bi_zip p), (hb _ (by decide)).trans bo_zip⟩ <| fm0
    have hC : ∀ c ∈ clss, ∃ C, clsAt c = some C ∧ mg c = some (.ref C) := fm ⟨185, rfl, mg_of X g (ns_Corner p)⟩ <| fm ⟨309, rfl, mg_of X g (ns_Pattern p)⟩ <| fm ⟨410, rfl, mg_of X g (ns_Style p)⟩ <| fm0
    replace hk : (match bis.lookup x with
      | some b => some (Kd.bi b)
      | none => if clss.contains x then some (.cls x) else if x = "MOST_STEPS" then some (.const (.int 16)) else (fns.find? fun d => d.name == x).map .fn) = some k := hk
    cases e : bis.lookup x with
    | some b => rw [e] at hk; cases hk; exact hB _ (look_mem e)
    | none =>
      rw [e] at hk
      dsimp only at hk
      by_cases e1 : clss.contains x = true
      · rw [if_pos e1] at hk; cases hk; exact hC x (List.contains_iff_mem.mp e1)
      rw [if_neg e1] at hk
      by_cases e2 : x = "MOST_STEPS"
      · rw [if_pos e2] at hk; cases hk
        obtain ⟨t, ht⟩ := most_at p
        exact ⟨16, t, rfl, (congrArg mg e2).trans (mg_of X g ht)⟩
      rw [if_neg e2] at hk
      obtain ⟨d, hd, e3⟩ := Option.map_eq_some_iff.mp hk
      cases e3
      have hm := List.mem_of_find?_eq_some hd
      obtain ⟨a, o, pm, code, doc, e1, e2, e3, e4⟩ := fn d (fns_recs d hm)
      exact ⟨a, (congrArg mg (beq_iff_eq.mp (List.find?_some (p := fun d : DefRec => d.name == x) hd))).symm.trans e1, ⟨o, _, e2, e3, rfl, rfl, rfl, rfl, rfl, rfl, e4, rfl⟩, List.all_eq_true.mp (fns_ok r) d hm⟩
  ro := hro
  get := fun c C a hc hf => cls_all (P := fun c C => (tbl r).field c a = true → FldP p C a) hc (fld_Corner p r a) (fld_Pattern p r a) (fld_Style p r a) hf
  cset := fun c C hc => cls_all (P := fun _ C => findIn (kf p) (.ref C) "__setattr__" = some (some (.builtin "object.__setattr__")) ∧ plainOver (kf p) C = true ∧ hasDictIn (kf p) C = true ∧ makesIn (kf p) C = true ∧ keepIn (kf p) (.ref C) = true) hc (cset_Corner p) (cset_Pattern p) (cset_Style p)
  meth := fun c C m d hm hc hne =>
    (fm (fun C hc hne ok => absurd rfl hne) <| fm (fun C hc hne ok => meth_at p hc (mt_175 p) (fn_at p X ok (fn_175 p))) <| fm (fun C hc hne ok => meth_at p hc (mt_182 p) (fn_at p X ok (fn_182 p))) <| fm (fun C hc hne ok => absurd rfl hne) <| fm (fun C hc hne ok => meth_at p hc (mt_285 p) (fn_at p X ok (fn_285 p))) <| fm (fun C hc hne ok => absurd rfl hne) <| fm (fun C hc hne ok => meth_at p hc (mt_400 p) (fn_at p X ok (fn_400 p))) <| fm (fun C hc hne ok => meth_at p hc (mt_407 p) (fn_at p X ok (fn_407 p))) <| fm0 : ∀ q ∈ meths, ∀ C, clsAt q.1.1 = some C → q.1.2 ≠ Str.ofString "__init__" → okFn (tbl r) q.2 = true → MethP (tbl r) (kf p) h C q.1.2 q.2) ((c, m), d) (look_mem (show meths.lookup (c, m) = some d from hm)) C hc hne (meth_ok hm)
  init := fun c C d hm hc => cls_all (P := fun c C => ∀ d, (tbl r).meth c "__init__" = some d → InitP (tbl r) (kf p) h c C d) hc
    (fun d hm => init_is p (by kernel_rfl) hm fun ok => init_at p X ok (by decide +kernel) (by kernel_rfl) (mt_168 p) (fn_168 p))
    (fun d hm => init_is p (by kernel_rfl) hm fun ok => init_at p X ok (by decide +kernel) (by kernel_rfl) (mt_278 p) (fn_278 p))
    (fun d hm => init_is p (d' := m_style_init.1) (by kernel_rfl) hm fun ok => style_i p X ok) d hm
end
end Mine
end
section
open PySem PySem.W PyProof.Rows PySem.Calls
set_option linter.unusedSectionVars false
set_option linter.unusedVariables false
set_option Elab.async false
namespace Mine

theorem ints_of : ∀ {vs : List Value} {xs : List Int}, IntsAre vs xs → Ints xs vs := by
  intro vs
  induction vs with
  | nil => intro xs h; cases xs with
    | nil => exact True.intro
    | cons => cases h
  | cons v vs ih => intro xs h; cases xs with
    | nil => cases h
    | cons x xs => 
      cases h with
      | cons a b c => exact ⟨⟨_, rfl⟩, ih ‹_›⟩

/-- the evaluator's answer is the law's -/
noncomputable def Answers : Prop := ∀ (a : Nat) (xs : List Int), xs.length ≤ 63 → ∃ σ', callD (lvl (tbl fun b => if b = a then some xs else none) 225) d_law.1 [.lst a] [] = some (.bool true, σ')

set_option maxRecDepth 100000 in
set_option maxHeartbeats 8000000 in
theorem holds_of (hev : Answers) : PySem.Challenge.rw_on0251_01.Holds := Mine.hd (by
  intro w s₀ s₁ mg mb G Y fa o pm cd doc dV kV ho hd hcd hD hmg hg args vals as hpre hlay hrd hwl hlo
  have KX := kIn_of Y
  refine Ground.open G ?_
  intro T B D TE TW
  clear D ho hd hcd hD
  have hmg' : mg "law" = some (.ref fa) := hmg
  clear hmg
  wrow_args hpre hlay hrd hwl hlo
  rename_i xs hs1 hs2 hs3 hs4 hs5 as1 as2 l us as3 hL hra hw1 hr0 hI hrw hc1 hc2
  obtain ⟨σ', hev'⟩ := hev l xs (by omega)
  have hlaw : d_law.1 ∈ recsOf vw := by rw [recs_eq]; exact List.mem_of_getElem? (i := 43) rfl
  obtain ⟨fa', o, pm, code, doc, e1, e2, e3, e4⟩ := T.fn d_law.1 hlaw
  have hfa : fa' = fa := by
    have : mg "law" = some (.ref fa') := e1
    rw [hmg'] at this
    injection this with this
    injection this with this
    exact this.symm
  subst hfa
  have gd : Gnd (tbl fun b => if b = l then some xs else none) clsAt (kf w.params) mg mb s₁.heap := gnd w.params T.g T.b T.nolimit KX T.builtins (fun a ys hys => by
    split at hys
    · rename_i hal
      subst hal
      cases hys
      exact ⟨us.toArray, hL, by rw [List.toList_toArray]; exact ints_of hI⟩
    · cases hys) T.fn
  have fa1 : FnAt (tbl fun b => if b = l then some xs else none) s₁.heap fa' d_law.1 := ⟨⟨o, _, e2, e3, rfl, rfl, rfl, rfl, rfl, rfl, e4, rfl⟩, law_ok _⟩
  have I0 : @Inv noHid clsAt s₁.heap s₁.heap [] [] := @Inv.mk noHid _ _ _ _ _ (fun _ _ e => e) rfl (fun _ _ _ e => by simp at e) (fun _ _ _ _ e => by simp at e) (fun _ hp => nomatch hp) fun _ ha => ha.elim
  have key := @call_fn noHid _ clsAt s₁.heap Challenge.rw_on0251_01.row.prog w callerA 225 _ s₁ [] [] σ' fa' d_law.1 [.ref l] [.lst l] (.bool true) (good gd 225 fun _ => False) ⟨rfl, by decide +kernel, by decide +kernel⟩ T.nolimit fa1 hev' I0 (@VAll.cons noHid _ _ _ _ _ _ (@VIn.lst noHid _ _ _) (@VAll.nil noHid _ _))
  refine key _ _ fun v h' tk ρ' I' g' hv => ?_
  cases hv
  refine GoodW.toG ⟨.inl ⟨_, .bool true, [], rfl, fun _ => rfl, .bool true, (by first | kernel_rfl | rfl | trace_state), fun _ => ⟨.nil, fun _ ha => nomatch ha⟩⟩, fun b ob e => g'.ext b ob e (fun _ hp => nomatch hp) id, rfl, hg⟩)
end Mine
end
section
open PySem PySem.W PyProof.Rows PySem.Calls
set_option linter.unusedVariables false
set_option maxRecDepth 100000
namespace Mine
variable {r : Nat → Option (List Int)}

end Mine
end
section
open PySem PySem.W PyProof.Rows PySem.Calls
set_option linter.unusedVariables false
set_option linter.unusedSimpArgs false
set_option maxRecDepth 100000
namespace Mine
variable {r : Nat → Option (List Int)} {T : Tbl} {F : Funs} {L : Loc} {σ : Sto} {n : Nat}

theorem ofString_inj {a b : String} : (Str.ofString a = Str.ofString b) ↔ a = b := by
  constructor
  · intro h
    rw [Str.ofString_eq_toList, Str.ofString_eq_toList] at h
    have h1 := Str.mk.inj h
    have h2 : a.toList.map Char.toNat = b.toList.map Char.toNat := by simpa using h1
    have h3 : a.toList = b.toList := by
      have key : ∀ l m : List Char, l.map Char.toNat = m.map Char.toNat → l = m := by
        intro l
        induction l with
        | nil => intro m h; cases m with
          | nil => rfl
          | cons => cases h
        | cons x l ih => intro m h; cases m with
          | nil => cases h
          | cons y m =>
            simp only [List.map_cons, List.cons.injEq] at h
            rw [ih m h.2, Char.toNat_inj.mp h.1]
      exact key _ _ h2
    exact String.toList_inj.mp h3
  · intro h; rw [h]
theorem bindT_tup {es : List Expr} {k : Nat} {q : Pos} {l : List V} : bindT L σ (.Tuple es k q) (.tup l) = (match names? es with
    | some xs => if decide (xs.length = l.length) then some (updL L xs l) else none
    | none => none) := by
  unfold bindT
  dsimp only
  cases names? es <;> rfl
theorem bindT_obj {es : List Expr} {k : Nat} {q : Pos} {m : Nat} : bindT L σ (.Tuple es k q) (.obj m) = (match names? es with
    | some xs => (match σ[m]? with
      | some (.list l) => if decide (xs.length = l.length) then some (updL L xs l) else none
      | _ => none)
    | none => none) := by
  unfold bindT
  dsimp only
  cases names? es <;> rfl
theorem subC_tup {l : List V} {k : Int} : subC T σ (.tup l) (.int k) = if small k then getAt l k else none := rfl
theorem subC_obj {m : Nat} {k : Int} : subC T σ (.obj m) (.int k) = (match σ[m]? with
    | some (.list l) => if small k then getAt l k else none
    | _ => none) := rfl
theorem subC_lst {a : Nat} {k : Int} : subC T σ (.lst a) (.int k) = if small k then (T.ro a).bind fun xs => getAt (xs.map .int) k else none := rfl
theorem cmp_eqi {a b : Int} : cmpS .Eq σ (.int a) (.int b) = some (decide (a = b)) := by
  simp [cmpS, Mine.data, free, py, okData, PyData.canLay0, PyData.depth, PyData.eqv]
  by_cases h : a = b <;> simp [h]
theorem lvl_ex : (lvl T (n + 1)).ex = exS T (lvl T n) n := rfl
theorem upd_self {x : Str} {v : V} : upd L x v x = some v := if_pos rfl
/-- a body run, its junk kept -/
noncomputable def run (F : Funs) (d : DefRec) (vs : List V) (σ : Sto) : Option (V × Sto) := match exs F.ex (bindP (d.params.args.map (·.arg)) vs) σ d.body with
  | some (.ret v, _, σ') => some (v, σ')
  | some (.next, _, σ') => some (.none, σ')
  | none => none
theorem callD_run {d : DefRec} {vs : List V} (h : vs.length = d.params.args.length) {v : V} {σ' : Sto} (hr : run F d vs σ = some (v, σ')) : callD F d vs σ = some (gc σ v σ') := by
  unfold run at hr
  unfold callD
  rw [if_pos h]
  split at hr
  · rename_i e; cases hr; first | rw [e] | rfl
  · rename_i e; cases hr; first | rw [e] | rfl
  · cases hr
theorem gc_free {v : V} {σ' : Sto} (hf : free v = true) (hp : σ'.take σ.length = σ) : gc σ v σ' = (v, σ) := by
  unfold gc; rw [if_pos hp, if_pos hf]
theorem callD_pure {d : DefRec} {vs : List V} (h : vs.length = d.params.args.length) {v : V} {τ : Sto} (hf : free v = true) (hr : run F d vs σ = some (v, σ ++ τ)) : callD F d vs σ = some (v, σ) := by
  rw [callD_run h hr, gc_free hf (by simp)]
theorem callD_pure0 {d : DefRec} {vs : List V} (h : vs.length = d.params.args.length) {v : V} (hf : free v = true) (hr : run F d vs σ = some (v, σ)) : callD F d vs σ = some (v, σ) := callD_pure (τ := []) h hf (by rw [List.append_nil]; exact hr)

noncomputable def pt (a b : Int) : V := .tup [.int a, .int b]

theorem way_of_run {a b c d : Int} : run (lvl (tbl r) (n + 10)) d_way_of.1 [pt a b, pt c d] σ = some (pt (c - a) (d - b), σ) := by kernel_rfl
theorem moved_by_run {a b c d : Int} : run (lvl (tbl r) (n + 10)) d_moved_by.1 [pt a b, pt c d] σ = some (pt (a + c) (b + d), σ) := by kernel_rfl
theorem turned_about_run {a b : Int} : run (lvl (tbl r) (n + 10)) d_turned_about.1 [pt a b] σ = some (pt (-a) (-b), σ) := by kernel_rfl
theorem along_of_run {a b : Int} : run (lvl (tbl r) (n + 10)) d_along_of.1 [pt a b] σ = some (pt (-b) a, σ) := by kernel_rfl
noncomputable def isq (n : Nat) : Nat := ((List.range 13).filter (fun k => k * k ≤ n)).length - 1
theorem root_all : (List.range 145).map (fun k => run (lvl (tbl r) (n + 20)) d_root_floor.1 [.int (k : Nat)] σ) = (List.range 145).map fun k => some (V.int (isq k : Nat), σ) := by kernel_rfl
theorem root_run {k : Nat} (h : k ≤ 144) : run (lvl (tbl r) (n + 20)) d_root_floor.1 [.int (k : Nat)] σ = some (V.int (isq k : Nat), σ) := by
  have e := congrArg (·[k]?) (root_all (r := r) (n := n) (σ := σ))
  simp only [List.getElem?_map, List.getElem?_range (show k < 145 by omega), Option.map_some] at e
  exact Option.some.inj e
/-- a body run by a script -/
theorem run_sx {d : DefRec} {vs : List V} {v : V} {σ' : Sto} {sc : List An} (fs : FS sc) (h : finX (exsX (sx T n).ex (argX d vs) σ d.body) sc = .ok (.ret v, σ') [] sc) : run (lvl T n) d vs σ = some (v, σ') := by
  obtain ⟨L', e⟩ := sx_run fs h
  unfold run; rw [e]
end Mine
end
section
open PySem PySem.W PyProof.Rows PySem.Calls
set_option linter.unusedVariables false
set_option linter.unusedSimpArgs false
set_option maxRecDepth 100000
namespace Mine
variable {r : Nat → Option (List Int)} {T : Tbl} {F : Funs} {L : Loc} {σ : Sto} {n : Nat}

theorem way_of_c {a b c d : Int} : callD (lvl (tbl r) (n + 10)) d_way_of.1 [pt a b, pt c d] σ = some (pt (c - a) (d - b), σ) := callD_pure0 rfl rfl way_of_run
theorem moved_by_c {a b c d : Int} : callD (lvl (tbl r) (n + 10)) d_moved_by.1 [pt a b, pt c d] σ = some (pt (a + c) (b + d), σ) := callD_pure0 rfl rfl moved_by_run
theorem turned_about_c {a b : Int} : callD (lvl (tbl r) (n + 10)) d_turned_about.1 [pt a b] σ = some (pt (-a) (-b), σ) := callD_pure0 rfl rfl turned_about_run
theorem along_of_c {a b : Int} : callD (lvl (tbl r) (n + 10)) d_along_of.1 [pt a b] σ = some (pt (-b) a, σ) := callD_pure0 rfl rfl along_of_run
theorem root_c {k : Nat} (h : k ≤ 144) : callD (lvl (tbl r) (n + 20)) d_root_floor.1 [.int (k : Nat)] σ = some (V.int (isq k : Nat), σ) := callD_pure0 rfl rfl (root_run h)

theorem msq (s : Int) : 0 ≤ s * s := by
  rcases Int.le_total 0 s with h | h
  · exact Int.mul_nonneg h h
  · have := Int.mul_nonneg (a := -s) (b := -s) (by omega) (by omega)
    rwa [Int.neg_mul_neg] at this

/-- the share of a root, as the program takes it -/
noncomputable def nrs (s q : Int) : Int := if s < 0 then -(((isq ((4 * s * s).fdiv q).toNat + 1) / 2 : Nat) : Int) else (((isq ((4 * s * s).fdiv q).toNat + 1) / 2 : Nat) : Int)

structure ShOk (s q : Int) : Prop where
  lo : -20000 ≤ s
  hi : s ≤ 20000
  q0 : 0 < q
  q1 : q ≤ 100000000
  k : (4 * s * s).fdiv q ≤ 144

theorem nrs_c {s q : Int} (h : ShOk s q) : callD (lvl (tbl r) (n + 40)) d_nearest_root_share.1 [.int s, .int q] σ = some (.int (nrs s q), σ) := by
  refine callD_pure0 rfl rfl ?_
  obtain ⟨h1, h2, h3, h4, h5⟩ := h
  have hnn : 0 ≤ (4 * s * s).fdiv q := by
    rw [Int.fdiv_eq_ediv_of_nonneg _ (by omega)]
    refine Int.ediv_nonneg ?_ (by omega)
    rw [Int.mul_assoc]
    exact Int.mul_nonneg (by decide) (msq s)
  obtain ⟨k, hk⟩ := Int.eq_ofNat_of_zero_le hnn
  have hk' : k ≤ 144 := by omega
  have hd : (isq k + 1 : Int).fdiv 2 = ((isq k + 1) / 2 : Nat) := by
    rw [Int.fdiv_eq_ediv_of_nonneg _ (by decide)]; lia
  have e1 : nrs s q = if s < 0 then -(((isq k + 1) / 2 : Nat) : Int) else (((isq k + 1) / 2 : Nat) : Int) := by
    unfold nrs; rw [hk]; rfl
  have hq0 : ¬ q = 0 := by omega
  have hq1 : q.natAbs < 1073741824 := by omega
  rw [e1]
  by_cases hs : s < 0
  · have e2 : (4 * -s * -s).fdiv q = (k : Int) := by rw [← hk]; congr 1; simp [Int.mul_neg, Int.neg_mul]
    have b1 : -1152921504606846976 < -s := by omega
    have b2 : -s < 1152921504606846976 := by omega
    have b3 : s < 1152921504606846976 := by omega
    have b4 : -1152921504606846976 < s := by omega
    have hr : callD (lvl (tbl r) (n + 36)) d_root_floor.1 [.int ((4 * (if s < 0 then -s else s) * (if s < 0 then -s else s)).fdiv q)] σ = some (.int (isq k : Nat), σ) := by rw [if_pos hs, e2]; exact root_c hk'
    have b5 : -1152921504606846976 < (if s < 0 then -s else s) := by rw [if_pos hs]; exact b1
    have b6 : (if s < 0 then -s else s) < 1152921504606846976 := by rw [if_pos hs]; exact b2
    refine Eq.trans (run_sx (v := V.int (-Int.fdiv (↑(isq k) + 1) 2)) (σ' := σ) (fs_s (@mulR σ 4 (if s < 0 then -s else s) b5 b6) <| fs_s (@mulR σ (4 * if s < 0 then -s else s) (if s < 0 then -s else s) b5 b6) <| fs_s (@fdC σ ((4 * if s < 0 then -s else s) * if s < 0 then -s else s) q hq0 hq1) <| fs_s hr <| fs_s (@fdC σ (↑(isq k) + 1) 2 (by omega) (by omega)) <| fs_t (p := s < 0) hs <| fs_nil) (by kernel_rfl)) ?_
    rw [if_pos hs, hd]
  · have b1 : -1152921504606846976 < s := by omega
    have b2 : s < 1152921504606846976 := by omega
    have b5 : -1152921504606846976 < (if s < 0 then -s else s) := by rw [if_neg hs]; exact b1
    have b6 : (if s < 0 then -s else s) < 1152921504606846976 := by rw [if_neg hs]; exact b2
    have hr : callD (lvl (tbl r) (n + 36)) d_root_floor.1 [.int ((4 * (if s < 0 then -s else s) * (if s < 0 then -s else s)).fdiv q)] σ = some (.int (isq k : Nat), σ) := by rw [if_neg hs, hk]; exact root_c hk'
    refine Eq.trans (run_sx (v := V.int (Int.fdiv ((↑(isq k) : Int) + 1) 2)) (σ' := σ) (fs_s (@mulR σ 4 (if s < 0 then -s else s) b5 b6) <| fs_s (@mulR σ (4 * if s < 0 then -s else s) (if s < 0 then -s else s) b5 b6) <| fs_s (@fdC σ ((4 * if s < 0 then -s else s) * if s < 0 then -s else s) q hq0 hq1) <| fs_s hr <| fs_s (@fdC σ ((↑(isq k) : Int) + 1) 2 (by omega) (by omega)) <| fs_f (p := s < 0) hs <| fs_nil) (by kernel_rfl)) ?_
    rw [if_neg hs, hd]
end Mine
end
section
open PySem PySem.W PyProof.Rows PySem.Calls
set_option linter.unusedVariables false
set_option linter.unusedSimpArgs false
set_option maxRecDepth 100000
namespace Mine
variable {r : Nat → Option (List Int)} {T : Tbl} {F : Funs} {L : Loc} {σ : Sto} {n : Nat}

theorem gl {l : Sto} {k : Nat} : (σ ++ l)[σ.length + k]? = l[k]? := by
  rw [List.getElem?_append_right (Nat.le_add_right _ _), Nat.add_sub_cancel_left]
theorem gl0 {l : Sto} : (σ ++ l)[σ.length]? = l[0]? := gl (k := 0)
noncomputable abbrev Pt := Int × Int
noncomputable def vp (p : Pt) : V := .tup [.int p.1, .int p.2]
noncomputable def nrm (p q : Pt) (h : Int) : Pt := (nrs ((q.2 - p.2) * h) ((q.1 - p.1) * (q.1 - p.1) + (q.2 - p.2) * (q.2 - p.2)), nrs (-(q.1 - p.1) * h) ((q.1 - p.1) * (q.1 - p.1) + (q.2 - p.2) * (q.2 - p.2)))

structure Sd (p q : Pt) : Prop where
  x1 : -1000 ≤ q.1 - p.1
  x2 : q.1 - p.1 ≤ 1000
  y1 : -1000 ≤ q.2 - p.2
  y2 : q.2 - p.2 ≤ 1000
  ne : p ≠ q
structure Hf (h : Int) : Prop where
  lo : 1 ≤ h
  hi : h ≤ 6

theorem sq_le {x b : Int} (h1 : -b ≤ x) (h2 : x ≤ b) : x * x ≤ b * b := by
  have := Int.mul_nonneg (a := b - x) (b := b + x) (by lia) (by lia)
  grind
theorem shok {x y h : Int} (x1 : -1000 ≤ x) (x2 : x ≤ 1000) (y1 : -1000 ≤ y) (y2 : y ≤ 1000) (ne : ¬ (x = 0 ∧ y = 0)) (hh : Hf h) : ShOk (y * h) (x * x + y * y) := by
  have sx := sq_le (b := 1000) x1 x2
  have sy := sq_le (b := 1000) y1 y2
  have px := msq x
  have py := msq y
  have pos : 0 < x * x + y * y := by
    rcases Int.lt_or_eq_of_le (show 0 ≤ x * x + y * y by omega) with q | q
    · exact q
    · have a : x * x = 0 := by omega
      have b : y * y = 0 := by omega
      have a' : x = 0 := by rcases Int.mul_eq_zero.mp a with q | q <;> exact q
      have b' : y = 0 := by rcases Int.mul_eq_zero.mp b with q | q <;> exact q
      exact absurd ⟨a', b'⟩ ne
  obtain ⟨h1, h2⟩ := hh
  have hc : h = 1 ∨ h = 2 ∨ h = 3 ∨ h = 4 ∨ h = 5 ∨ h = 6 := by lia
  refine ⟨?_, ?_, pos, by omega, ?_⟩
  · rcases hc with q | q | q | q | q | q <;> subst q <;> lia
  · rcases hc with q | q | q | q | q | q <;> subst q <;> lia
  · rw [Int.fdiv_eq_ediv_of_nonneg _ (by grind)]
    refine Int.ediv_le_of_le_mul pos ?_
    have e : 4 * (y * h) * (y * h) = 4 * (h * h) * (y * y) := by grind
    rw [e]
    rcases hc with q | q | q | q | q | q <;> subst q <;> grind
theorem Sd.sh {p q : Pt} {h : Int} (s : Sd p q) (hh : Hf h) : ShOk ((q.2 - p.2) * h) ((q.1 - p.1) * (q.1 - p.1) + (q.2 - p.2) * (q.2 - p.2)) ∧ ShOk (-(q.1 - p.1) * h) ((q.1 - p.1) * (q.1 - p.1) + (q.2 - p.2) * (q.2 - p.2)) := by
  obtain ⟨x1, x2, y1, y2, ne⟩ := s
  have ne' : ¬ (q.1 - p.1 = 0 ∧ q.2 - p.2 = 0) := fun ⟨a, b⟩ => ne (Prod.ext (by omega) (by lia))
  refine ⟨shok x1 x2 y1 y2 ne' hh, ?_⟩
  have := shok (x := q.2 - p.2) (y := -(q.1 - p.1)) y1 y2 (by omega) (by omega) (fun ⟨a, b⟩ => ne' ⟨by omega, a⟩) hh
  have e : (q.2 - p.2) * (q.2 - p.2) + -(q.1 - p.1) * -(q.1 - p.1) = (q.1 - p.1) * (q.1 - p.1) + (q.2 - p.2) * (q.2 - p.2) := by grind
  rw [e] at this
  exact this

theorem way_c {p q : Pt} : callD (lvl (tbl r) (n + 10)) d_way_of.1 [vp p, vp q] σ = some (.tup [.int (q.1 - p.1), .int (q.2 - p.2)], σ) := way_of_c
theorem normal_c {p q : Pt} {h : Int} (s : Sd p q) (hh : Hf h) : callD (lvl (tbl r) (n + 60)) d_normal_of.1 [vp p, vp q, .int h] σ = some (vp (nrm p q h), σ) := by
  refine callD_pure0 rfl rfl ?_
  obtain ⟨s1, s2⟩ := s.sh hh
  obtain ⟨h1, h2⟩ := hh
  have b1 : -1152921504606846976 < h := by omega
  have b2 : h < 1152921504606846976 := by omega
  obtain ⟨x1, x2, y1, y2, ne⟩ := s
  have b3 : -1152921504606846976 < q.1 - p.1 := by omega
  have b4 : q.1 - p.1 < 1152921504606846976 := by omega
  have b5 : -1152921504606846976 < q.2 - p.2 := by omega
  have b6 : q.2 - p.2 < 1152921504606846976 := by omega
  exact run_sx (fs_s (@way_c r σ (n + 48) p q) <| fs_s (@mulR σ (q.fst - p.fst) (q.fst - p.fst) b3 b4) <| fs_s (@mulR σ (q.snd - p.snd) (q.snd - p.snd) b5 b6) <| fs_s (@mulR σ (q.snd - p.snd) h b1 b2) <| fs_s (@nrs_c r σ (n + 17) ((q.snd - p.snd) * h) ((q.fst - p.fst) * (q.fst - p.fst) + (q.snd - p.snd) * (q.snd - p.snd)) s1) <| fs_s (@mulR σ (-(q.fst - p.fst)) h b1 b2) <| fs_s (@nrs_c r σ (n + 17) (-(q.fst - p.fst) * h) ((q.fst - p.fst) * (q.fst - p.fst) + (q.snd - p.snd) * (q.snd - p.snd)) s2) <| fs_nil) (by kernel_rfl)
/-- the four corners of a side -/
noncomputable def quad (p q : Pt) (h : Int) : List Pt := [(p.1 + (nrm p q h).1, p.2 + (nrm p q h).2), (q.1 + (nrm p q h).1, q.2 + (nrm p q h).2), (q.1 + -(nrm p q h).1, q.2 + -(nrm p q h).2), (p.1 + -(nrm p q h).1, p.2 + -(nrm p q h).2)]
noncomputable def vps (l : List Pt) : V := .tup (l.map vp)
theorem turned_c {p : Pt} : callD (lvl (tbl r) (n + 10)) d_turned_about.1 [vp p] σ = some (vp (-p.1, -p.2), σ) := turned_about_c
theorem along_c {p : Pt} : callD (lvl (tbl r) (n + 10)) d_along_of.1 [vp p] σ = some (vp (-p.2, p.1), σ) := along_of_c
theorem moved_c {p q : Pt} : callD (lvl (tbl r) (n + 10)) d_moved_by.1 [vp p, vp q] σ = some (vp (p.1 + q.1, p.2 + q.2), σ) := moved_by_c
theorem free_vp {p : Pt} : free (vp p) = true := rfl
theorem freeL_map {l : List Pt} : freeL (l.map vp) = true := by
  induction l with
  | nil => rfl
  | cons p l ih => rw [List.map_cons, freeL, free_vp, ih]; rfl
theorem free_vps {l : List Pt} : free (vps l) = true := by unfold vps; rw [free]; exact freeL_map
theorem parallel_c {p q : Pt} {h : Int} (s : Sd p q) (hh : Hf h) : callD (lvl (tbl r) (n + 80)) d_parallel.1 [vp p, vp q, .int h] σ = some (vps (quad p q h), σ) := by
  refine callD_pure0 rfl free_vps ?_
  exact run_sx (fs_s (@normal_c r σ (n + 18) p q h s hh) <| fs_s (@turned_c r σ (n + 68) (nrm p q h)) <| fs_s (@moved_c r σ (n + 67) p (nrm p q h)) <| fs_s (@moved_c r σ (n + 67) q (nrm p q h)) <| fs_s (@moved_c r σ (n + 67) q ((-(nrm p q h).fst, -(nrm p q h).snd))) <| fs_s (@moved_c r σ (n + 67) p ((-(nrm p q h).fst, -(nrm p q h).snd))) <| fs_nil) (by kernel_rfl)
end Mine
end
section
open PySem PySem.W PyProof.Rows PySem.Calls
set_option linter.unusedVariables false
set_option linter.unusedSimpArgs false
set_option maxRecDepth 100000
namespace Mine
variable {r : Nat → Option (List Int)} {T : Tbl} {F : Funs} {L : Loc} {σ : Sto} {n : Nat}

theorem gc_list {k : Nat} {l : List V} {σ' : Sto} (hp : σ'.take σ.length = σ) (hk : σ.length ≤ k) (hg : σ'[k]? = some (.list l)) (hf : freeL l = true) : gc σ (.obj k) σ' = (.obj σ.length, σ ++ [.list l]) := by
  unfold gc
  rw [if_pos hp, if_neg (by simp [free])]
  dsimp only
  rw [hg]
  dsimp only
  rw [if_pos (by simp [hk, hf])]
theorem forL_inv {chk : Sto → Bool} {f : V → Loc → Sto → Option (Fl × Loc × Sto)} (I : List V → Loc → Sto → Prop) {all : List V} (hc : ∀ done L σ, I done L σ → chk σ = true)
    (hf : ∀ done v rest L σ, all = done ++ v :: rest → I done L σ → ∃ L' σ', f v L σ = some (.next, L', σ') ∧ I (done ++ [v]) L' σ') (h0 : I [] L σ) : ∃ L' σ', forL chk f all L σ = some (.next, L', σ') ∧ I all L' σ' := by
  have key : ∀ (rest done : List V) (L : Loc) (σ : Sto), all = done ++ rest → I done L σ → ∃ L' σ', forL chk f rest L σ = some (.next, L', σ') ∧ I all L' σ' := by
    intro rest
    induction rest with
    | nil =>
      intro done L σ e hI
      rw [List.append_nil] at e
      subst e
      exact ⟨L, σ, by unfold forL; rw [if_pos (hc _ _ _ hI)], hI⟩
    | cons v rest ih =>
      intro done L σ e hI
      obtain ⟨L1, σ1, h1, h2⟩ := hf done v rest L σ e hI
      obtain ⟨L2, σ2, h3, h4⟩ := ih (done ++ [v]) L1 σ1 (by rw [e]; simp) h2
      exact ⟨L2, σ2, by unfold forL; rw [if_pos (hc _ _ _ hI), h1]; exact h3, h4⟩
  exact key all [] L σ rfl h0

noncomputable def isIn (q pk : Int) : V → Bool
  | .int k => decide ((2 * k - 1) ^ 2 * q ≤ 4 * pk * pk)
  | _ => false
noncomputable def cnt (h q pk : Int) : Int := ((((List.range (h + 2 - 1).toNat).map fun (k : Nat) => V.int (1 + k)).filter (isIn q pk)).length : Nat)
noncomputable def cntS (h q pk : Int) : Int := if pk > 0 then cnt h q pk else - cnt h q pk

theorem cnt_all : ∀ h ∈ [1, 2, 3, 4, 5, 6], ∀ t ∈ List.range (4 * h * h + 1), ((List.range (h + 1)).filter fun k => decide ((2 * k + 1) * (2 * k + 1) ≤ t)).length = (isq t + 1) / 2 := by decide +kernel

theorem cnt_eq {h q s : Int} (hh : Hf h) (hs : ShOk s q) (hb : 4 * s * s ≤ 4 * h * h * q) : cnt h q s = ((isq ((4 * s * s).fdiv q).toNat + 1) / 2 : Nat) := by
  obtain ⟨h1, h2⟩ := hh
  obtain ⟨_, _, q0, _, hk⟩ := hs
  have hnn : 0 ≤ (4 * s * s).fdiv q := by
    rw [Int.fdiv_eq_ediv_of_nonneg _ (by omega)]
    refine Int.ediv_nonneg ?_ (by omega)
    rw [Int.mul_assoc]
    exact Int.mul_nonneg (by decide) (msq s)
  obtain ⟨t, ht⟩ := Int.eq_ofNat_of_zero_le hnn
  have ht' : 4 * s * s / q = (t : Int) := by rw [← ht, Int.fdiv_eq_ediv_of_nonneg _ (by lia)]
  obtain ⟨hn, rfl⟩ := Int.eq_ofNat_of_zero_le (show 0 ≤ h by lia)
  have hle : t ≤ 4 * hn * hn := by
    have : 4 * s * s / q ≤ 4 * (hn : Int) * hn := Int.ediv_le_of_le_mul q0 hb
    rw [ht'] at this
    exact_mod_cast this
  have hmem : hn ∈ [1, 2, 3, 4, 5, 6] := by
    simp only [List.mem_cons, List.not_mem_nil, or_false]
    lia
  have key := cnt_all hn hmem t (by rw [List.mem_range]; grind)
  rw [ht, Int.toNat_natCast, ← key]
  unfold cnt
  have e1 : ((hn : Int) + 2 - 1).toNat = hn + 1 := by lia
  rw [e1, List.filter_map, List.length_map]
  congr 3
  funext k
  show isIn q s (.int (1 + (k : Int))) = _
  unfold isIn
  rw [decide_eq_decide]
  have e2 : (2 * (1 + (k : Int)) - 1) ^ 2 = ((2 * k + 1) * (2 * k + 1) : Nat) := by
    push_cast
    grind
  rw [e2, ← Int.le_ediv_iff_mul_le q0, ht']
  exact_mod_cast Iff.rfl

theorem cntS_eq {h q s : Int} (hh : Hf h) (hs : ShOk s q) (hb : 4 * s * s ≤ 4 * h * h * q) : cntS h q s = nrs s q := by
  unfold cntS nrs
  rw [cnt_eq hh hs hb]
  by_cases h1 : s > 0
  · rw [if_pos h1, if_neg (by lia)]
  · rw [if_neg h1]
    by_cases h2 : s < 0
    · rw [if_pos h2]
    · have : s = 0 := by lia
      subst this
      rw [if_neg h2]
      have : (4 * (0 : Int) * 0).fdiv q = 0 := by rfl
      rw [this]
      decide +kernel
end Mine
end
section
open PySem PySem.W PyProof.Rows PySem.Calls
set_option linter.unusedVariables false
set_option linter.unusedSimpArgs false
set_option maxRecDepth 100000
namespace Mine
variable {r : Nat → Option (List Int)} {T : Tbl} {F : Funs} {L : Loc} {σ : Sto} {n : Nat}

theorem Sd.bd {p q : Pt} {h : Int} (s : Sd p q) (hh : Hf h) : (4 * ((q.2 - p.2) * h) * ((q.2 - p.2) * h) ≤ 4 * h * h * ((q.1 - p.1) * (q.1 - p.1) + (q.2 - p.2) * (q.2 - p.2))) ∧ (4 * (-(q.1 - p.1) * h) * (-(q.1 - p.1) * h) ≤ 4 * h * h * ((q.1 - p.1) * (q.1 - p.1) + (q.2 - p.2) * (q.2 - p.2))) := by
  generalize q.1 - p.1 = x
  generalize q.2 - p.2 = y
  have h1 := Int.mul_nonneg (msq h) (msq x)
  have h2 := Int.mul_nonneg (msq h) (msq y)
  constructor <;> grind

theorem cl_end {chk : Sto → Bool} {f : V → Sto → Option Sto} (h : chk σ = true) : compL chk f [] σ = some σ := if_pos h
theorem cl_step {chk : Sto → Bool} {f : V → Sto → Option Sto} {v : V} {us : List V} {s1 : Sto} {o : Option Sto} (h : chk σ = true) (h1 : f v σ = some s1) (h2 : compL chk f us s1 = o) : compL chk f (v :: us) σ = o := by
  unfold compL
  rw [if_pos h, h1]
  exact h2
theorem turn_emit {elt t : Expr} {ifs : List Expr} {L1 : Loc} {v x : V} {s1 s2 : Sto} {k : Nat} {acc : List V} (hb : bindT L σ t v = some L1) (ht : tests (fun σ e => F.tst L1 σ e) σ ifs = some (true, s1)) (he : F.ev L1 s1 elt = some (x, s2)) (hk : s2[k]? = some (.list acc)) (hl : acc.length < 1000000) : turnC F k elt t ifs [] L v σ = some (s2.set k (.list (acc ++ [x]))) := by
  unfold turnC
  rw [hb]
  dsimp only
  rw [ht]
  dsimp only
  unfold emitC
  dsimp only
  rw [he]
  dsimp only
  rw [hk]
  exact if_pos (decide_eq_true hl)
theorem turn_pass {elt t : Expr} {ifs : List Expr} {gs : List Comprehension} {L1 : Loc} {v : V} {s1 : Sto} {k : Nat} (hb : bindT L σ t v = some L1) (ht : tests (fun σ e => F.tst L1 σ e) σ ifs = some (false, s1)) : turnC F k elt t ifs gs L v σ = some s1 := by
  unfold turnC
  rw [hb]
  dsimp only
  rw [ht]
theorem set_end {a b : Ob} : (σ ++ [a]).set σ.length b = σ ++ [b] := by rw [List.set_append_right _ _ (Nat.le_refl _), Nat.sub_self]; rfl
theorem clausesM {α : Type} {e : α → V} {C : List α} {elt t i : Expr} {ifs : List Expr} {a : Nat} {w : It} {acc0 : List V} (p : α → Bool) (g : α → V)
    (hst : ∀ l, still (σ ++ [.list l]) w (C.map e) = true)
    (hb : ∀ c ∈ C, ∀ l, ∃ L1, bindT L (σ ++ [.list l]) t (e c) = some L1 ∧ tests (fun σ e => F.tst L1 σ e) (σ ++ [.list l]) ifs = some (p c, σ ++ [.list l]) ∧ (p c = true → F.ev L1 (σ ++ [.list l]) elt = some (g c, σ ++ [.list l])))
    (hlen : C.length + acc0.length ≤ 1000000) :
    clauses F σ.length elt [⟨t, i, ifs, a⟩] L w (C.map e) (σ ++ [.list acc0]) = some (σ ++ [.list (acc0 ++ (C.filter p).map g)]) := by
  rw [@clauses_cons noHid]
  have key : ∀ (rest : List α) (acc : List V), (∀ c ∈ rest, c ∈ C) → rest.length + acc.length ≤ 1000000 → compL (fun σ => still σ w (C.map e)) (turnC F σ.length elt t ifs [] L) (rest.map e) (σ ++ [.list acc]) = some (σ ++ [.list (acc ++ (rest.filter p).map g)]) := by
    intro rest
    induction rest with
    | nil =>
      intro acc _ _
      rw [List.filter_nil, List.map_nil, List.map_nil, List.append_nil]
      exact cl_end (hst acc)
    | cons v rest ih =>
      intro acc hm hl
      rw [List.length_cons] at hl
      obtain ⟨L1, h1, h2, h3⟩ := hb v (hm v (.head _)) acc
      cases hp : p v with
      | false =>
        rw [List.filter_cons_of_neg (by rw [hp]; decide)]
        exact cl_step (hst acc) (turn_pass h1 (hp ▸ h2)) (ih acc (fun u hu => hm u (.tail _ hu)) (by omega))
      | true =>
        have := ih (acc ++ [g v]) (fun u hu => hm u (.tail _ hu)) (by rw [List.length_append, List.length_singleton]; omega)
        rw [List.append_assoc] at this
        rw [List.filter_cons_of_pos hp]
        exact cl_step (hst acc) ((turn_emit h1 (hp ▸ h2) (h3 hp) gl_at (by omega)).trans (congrArg some set_end)) this
  exact key C acc0 (fun _ h => h) hlen

theorem filter_tt {α : Type} {l : List α} : l.filter (fun _ => true) = l := List.filter_eq_self.mpr (fun _ _ => rfl)
theorem callD_list' {d : DefRec} {vs : List V} (h : vs.length = d.params.args.length) {l : List V} (hf : freeL l = true) (hr : ∃ k σ', run F d vs σ = some (.obj k, σ') ∧ σ'.take σ.length = σ ∧ σ.length ≤ k ∧ σ'[k]? = some (.list l)) : callD F d vs σ = some (.obj σ.length, σ ++ [.list l]) := by
  obtain ⟨k, σ', h1, h2, h3, h4⟩ := hr
  rw [callD_run h h1, gc_list h2 h3 h4 hf]
theorem lt_of {k : Nat} {o : Ob} (h : σ[k]? = some o) : k < σ.length := (List.getElem?_eq_some_iff.mp h).1
theorem take_app {σ0 l : Sto} (h : σ.take σ0.length = σ0) : (σ ++ l).take σ0.length = σ0 := by
  have : σ0.length ≤ σ.length := by
    have := congrArg List.length h
    rw [List.length_take] at this; lia
  rw [List.take_append_of_le_length this, h]
theorem take_set {σ0 : Sto} {k : Nat} {x : Ob} (h : σ.take σ0.length = σ0) (hk : σ0.length ≤ k) : (σ.set k x).take σ0.length = σ0 := by
  rw [List.take_set, h, List.set_eq_of_length_le hk]
theorem set_self {k : Nat} {o x : Ob} (h : σ[k]? = some o) : (σ.set k x)[k]? = some x := by
  rw [List.getElem?_set_self (lt_of h)]
theorem set_ne {k j : Nat} {x : Ob} (h : k ≠ j) : (σ.set k x)[j]? = σ[j]? := List.getElem?_set_ne h
theorem tk0 : σ.take σ.length = σ := List.take_length
theorem callD_pureT {d : DefRec} {vs : List V} (h : vs.length = d.params.args.length) {v : V} {σ' : Sto} (hf : free v = true) (hr : run F d vs σ = some (v, σ')) (ht : σ'.take σ.length = σ) : callD F d vs σ = some (v, σ) := by
  rw [callD_run h hr, gc_free hf ht]
end Mine
end
section
open PySem PySem.W PyProof.Rows PySem.Calls
set_option linter.unusedVariables false
set_option linter.unusedSimpArgs false
set_option maxRecDepth 100000
namespace Mine
variable {r : Nat → Option (List Int)} {T : Tbl} {F : Funs} {L : Loc} {σ : Sto} {n : Nat}

/-- a body that gives back a value with P -/
noncomputable def Ret (F : Funs) (L : Loc) (σ : Sto) (ss : List Stmt) (P : V → Sto → Prop) : Prop := ∃ v L' σ', exs F.ex L σ ss = some (.ret v, L', σ') ∧ P v σ'
theorem Ret.step {s : Stmt} {ss : List Stmt} {P : V → Sto → Prop} (R : Loc → Sto → Prop) (h : ∃ L1 σ1, F.ex L σ s = some (.next, L1, σ1) ∧ R L1 σ1) (k : ∀ L1 σ1, R L1 σ1 → Ret F L1 σ1 ss P) : Ret F L σ (s :: ss) P := by
  obtain ⟨L1, σ1, e, hr⟩ := h
  obtain ⟨v, L', σ', e2, hp⟩ := k _ _ hr
  exact ⟨v, L', σ', by unfold exs; rw [e]; exact e2, hp⟩
theorem Ret.next {s : Stmt} {ss : List Stmt} {P : V → Sto → Prop} {L1 : Loc} {σ1 : Sto} (h : F.ex L σ s = some (.next, L1, σ1)) (k : Ret F L1 σ1 ss P) : Ret F L σ (s :: ss) P := Ret.step (fun a b => a = L1 ∧ b = σ1) ⟨_, _, h, rfl, rfl⟩ fun _ _ ⟨a, b⟩ => a ▸ b ▸ k
theorem Ret.done {s : Stmt} {ss : List Stmt} {P : V → Sto → Prop} {v : V} {L1 : Loc} {σ1 : Sto} (h : F.ex L σ s = some (.ret v, L1, σ1)) (k : P v σ1) : Ret F L σ (s :: ss) P :=
  ⟨v, L1, σ1, by unfold exs; rw [h], k⟩
theorem Ret.run {d : DefRec} {vs : List V} {P : V → Sto → Prop} (h : Ret F (bindP (d.params.args.map (·.arg)) vs) σ d.body P) : ∃ v σ', run F d vs σ = some (v, σ') ∧ P v σ' := by
  obtain ⟨v, L', σ', e, hp⟩ := h
  exact ⟨v, σ', by unfold Mine.run; rw [e], hp⟩
theorem callD_list'' {d : DefRec} {vs : List V} (h : vs.length = d.params.args.length) {l : List V} (hf : freeL l = true) (hr : Ret F (bindP (d.params.args.map (·.arg)) vs) σ d.body fun v σ' => ∃ k, v = .obj k ∧ σ'.take σ.length = σ ∧ σ.length ≤ k ∧ σ'[k]? = some (.list l)) : callD F d vs σ = some (.obj σ.length, σ ++ [.list l]) := by
  obtain ⟨v, σ', e, k, rfl, h1, h2, h3⟩ := hr.run
  exact callD_list' h hf ⟨k, σ', e, h1, h2, h3⟩

theorem whileL_of {t : Loc → Sto → Option (Bool × Sto)} {f : Loc → Sto → Option (Fl × Loc × Sto)} {N : Nat} {o : Option (Fl × Loc × Sto)} (hw : whileL t f N L σ = o) (I : Nat → Loc → Sto → Prop) (Post : Loc → Sto → Prop)
    (step : ∀ m L σ, I m L σ → (∃ σ1, t L σ = some (false, σ1) ∧ Post L σ1) ∨ (∃ m' σ1 L2 σ2, m = m' + 1 ∧ t L σ = some (true, σ1) ∧ f L σ1 = some (.next, L2, σ2) ∧ I m' L2 σ2)) {m0 : Nat} (h0 : I m0 L σ) (hN : m0 < N) : ∃ L' σ', o = some (.next, L', σ') ∧ Post L' σ' := by
  have key : ∀ (N m : Nat) (L : Loc) (σ : Sto), I m L σ → m < N → ∃ L' σ', whileL t f N L σ = some (.next, L', σ') ∧ Post L' σ' := by
    intro N
    induction N with
    | zero => intro m L σ _ h; omega
    | succ N ih =>
      intro m L σ hI hm
      rcases step m L σ hI with ⟨σ1, e1, hP⟩ | ⟨m', σ1, L2, σ2, rfl, e1, e2, hI'⟩
      · exact ⟨L, σ1, by unfold whileL; rw [e1], hP⟩
      · obtain ⟨L3, σ3, e3, hP⟩ := ih m' L2 σ2 hI' (by omega)
        exact ⟨L3, σ3, by unfold whileL; rw [e1]; dsimp only; rw [e2]; exact e3, hP⟩
  obtain ⟨L', σ', e, hP⟩ := key N m0 L σ h0 hN
  exact ⟨L', σ', hw ▸ e, hP⟩


theorem exs_cons {f : Loc → Sto → Stmt → Option (Fl × Loc × Sto)} {s : Stmt} {ss : List Stmt} : exs f L σ (s :: ss) = (match f L σ s with
    | some (.next, L1, σ1) => exs f L1 σ1 ss
    | some (.ret v, L1, σ1) => some (.ret v, L1, σ1)
    | none => none) := rfl
/-- statements run by a script, up to a place -/
theorem Ret.run_to {k : Nat} {E E1 : EX} {ss : List Stmt} {P : V → Sto → Prop} {σ1 : Sto} {sc : List An} (fs : FS sc) (h : exsX (sx T n).ex E σ (ss.take k) sc = .ok (.next, E1, σ1) [] sc) (kk : Ret (lvl T n) E1.loc σ1 (ss.drop k) P) : Ret (lvl T n) E.loc σ ss P := by
  obtain ⟨v, L', σ', e2, hp⟩ := kk
  refine ⟨v, L', σ', ?_, hp⟩
  have key : ∀ (a b : List Stmt) (L : Loc) (σ : Sto) (L1 : Loc) (σ1 : Sto), exs (lvl T n).ex L σ a = some (.next, L1, σ1) → exs (lvl T n).ex L σ (a ++ b) = exs (lvl T n).ex L1 σ1 b := by
    intro a
    induction a with
    | nil => intro b L σ L1 σ1 h; cases h; rfl
    | cons s a ih =>
      intro b L σ L1 σ1 h
      rw [List.cons_append]
      rw [exs_cons] at h ⊢
      cases hq : (lvl T n).ex L σ s with
      | none => rw [hq] at h; cases h
      | some p =>
        obtain ⟨fl, L2, σ2⟩ := p
        rw [hq] at h
        cases fl with
        | next => exact ih b L2 σ2 L1 σ1 h
        | ret v => cases h
  have := key _ (ss.drop k) _ _ _ _ (sx_exs fs h)
  rw [List.take_append_drop] at this
  rw [this]; exact e2
theorem Ret.fin {E : EX} {ss : List Stmt} {P : V → Sto → Prop} {v : V} {σ' : Sto} {sc : List An} (fs : FS sc) (h : finX (exsX (sx T n).ex E σ ss) sc = .ok (.ret v, σ') [] sc) (hp : P v σ') : Ret (lvl T n) E.loc σ ss P :=
  (sx_body fs h).elim fun L' e => ⟨v, L', σ', e, hp⟩
/-- statements that go on to the next, with Q -/
noncomputable def Nx (F : Funs) (L : Loc) (σ : Sto) (ss : List Stmt) (Q : Loc → Sto → Prop) : Prop := ∃ L' σ', exs F.ex L σ ss = some (.next, L', σ') ∧ Q L' σ'
theorem Nx.cons {s : Stmt} {ss : List Stmt} {Q : Loc → Sto → Prop} {L1 : Loc} {σ1 : Sto} (h : F.ex L σ s = some (.next, L1, σ1)) (k : Nx F L1 σ1 ss Q) : Nx F L σ (s :: ss) Q := by
  obtain ⟨L', σ', e, hq⟩ := k
  exact ⟨L', σ', by rw [exs_cons, h]; exact e, hq⟩
theorem Nx.fin {E E' : EX} {ss : List Stmt} {Q : Loc → Sto → Prop} {σ' : Sto} {sc : List An} (fs : FS sc) (h : exsX (sx T n).ex E σ ss sc = .ok (.next, E', σ') [] sc) (hq : Q E'.loc σ') : Nx (lvl T n) E.loc σ ss Q := ⟨_, _, sx_exs fs h, hq⟩
theorem Ret.args {d : DefRec} {vs : List V} {P : V → Sto → Prop} (h : Ret F (argX d vs).loc σ d.body P) : Ret F (bindP (d.params.args.map (·.arg)) vs) σ d.body P := by rw [bindP_loc]; exact h
theorem Ret.for {ss rest : List Stmt} {t it : Expr} {b : List Stmt} {q : Pos} {P : V → Sto → Prop} {w : V} {vs : List V} {σ1 : Sto} (hs : ss = .For t it b [] q :: rest) (hi : (lvl T n).ev L σ it = some (w, σ1)) (hv : items σ1 w = some vs) (I : List V → Loc → Sto → Prop) (hc : ∀ done L σ, I done L σ → items σ w = some vs)
    (hf : ∀ done v rest' L σ, vs = done ++ v :: rest' → I done L σ → ∃ L1, bindT L σ t v = some L1 ∧ Nx (lvl T n) L1 σ b fun L' σ' => I (done ++ [v]) L' σ') (h0 : I [] L σ1) (k : ∀ L' σ', I vs L' σ' → Ret (lvl T (n + 1)) L' σ' rest P) : Ret (lvl T (n + 1)) L σ ss P := by
  subst hs
  refine Ret.step (fun L' σ' => I vs L' σ') ?_ k
  obtain ⟨L', σ', e, hI⟩ := forL_inv (chk := fun σ => still σ (.one w) vs) (f := fun v L σ => match bindT L σ t v with | some L1 => exs (lvl T n).ex L1 σ b | none => none) I (fun done L σ hI => still_one.mpr (hc done L σ hI)) (fun done v rest L σ hall hI => by
    obtain ⟨L1, e1, L', σ', e2, hI'⟩ := hf done v rest L σ hall hI
    exact ⟨L', σ', by rw [e1]; exact e2, hI'⟩) h0
  refine ⟨L', σ', ?_, hI⟩
  show (match (lvl T n).ev L σ it with | some (w, σ1) => (match items σ1 w with | some vs => forL (fun σ => still σ (.one w) vs) (fun v L σ => match bindT L σ t v with | some L1 => exs (lvl T n).ex L1 σ b | none => none) vs L σ1 | none => none) | none => none) = _
  rw [hi]
  dsimp only
  rw [hv]
  exact e
theorem Ret.while {ss rest : List Stmt} {t : Expr} {b : List Stmt} {q : Pos} {P : V → Sto → Prop} {m0 : Nat} (hs : ss = .While t b [] q :: rest) (I : Nat → Loc → Sto → Prop) (Post : Loc → Sto → Prop)
    (step : ∀ m L σ, I m L σ → (∃ σ1, (lvl T n).tst L σ t = some (false, σ1) ∧ Post L σ1) ∨ (∃ m' σ1, m = m' + 1 ∧ (lvl T n).tst L σ t = some (true, σ1) ∧ Nx (lvl T n) L σ1 b fun L2 σ2 => I m' L2 σ2)) (h0 : I m0 L σ) (hN : m0 < n) (k : ∀ L' σ', Post L' σ' → Ret (lvl T (n + 1)) L' σ' rest P) : Ret (lvl T (n + 1)) L σ ss P := by
  subst hs
  refine Ret.step Post ?_ k
  exact whileL_of (t := fun L σ => (lvl T n).tst L σ t) (f := fun L σ => exs (lvl T n).ex L σ b) rfl I Post (fun m L σ hI => (step m L σ hI).imp id fun ⟨m', σ1, e, h1, L2, σ2, h2, h3⟩ => ⟨m', σ1, L2, σ2, e, h1, h2, h3⟩) h0 hN
theorem tests_nil {f : Sto → Expr → Option (Bool × Sto)} : tests f σ [] = some (true, σ) := rfl
theorem tests_one {f : Sto → Expr → Option (Bool × Sto)} {e : Expr} {b : Bool} (h : f σ e = some (b, σ)) : tests f σ [e] = some (b, σ) := by
  unfold tests; rw [h]; cases b <;> rfl
theorem items_rng {a b : Int} (h1 : -1152921504606846976 < a) (h2 : a < 1152921504606846976) (h3 : -1152921504606846976 < b) (h4 : b < 1152921504606846976) (h5 : b - a ≤ 1000000) : items σ (.rng a b) = some ((List.range (b - a).toNat).map fun (k : Nat) => V.int (a + k)) := by
  unfold items
  dsimp only
  rw [small_of h1 h2, small_of h3 h4]
  exact if_pos (by rw [Bool.true_and, Bool.true_and]; exact decide_eq_true h5)
/-- a list comprehension of one clause -/
theorem comp_rule {α : Type} {e : α → V} {C : List α} {elt t it : Expr} {ifs : List Expr} {a : Nat} {sc : Scope} {q : Pos} {w : V} {σ1 : Sto} (p : α → Bool) (g : α → V) (ho : overE T F L σ t it = (match F.ev L σ it with | some (v, σ1) => (items σ1 v).map fun l => (.one v, l, σ1) | none => none)) (hi : F.ev L σ it = some (w, σ1)) (hv : ∀ l, items (σ1 ++ l) w = some (C.map e))
    (hb : ∀ c ∈ C, ∀ l, ∃ L1, bindT (hide sc L) (σ1 ++ [.list l]) t (e c) = some L1 ∧ tests (fun σ e => F.tst L1 σ e) (σ1 ++ [.list l]) ifs = some (p c, σ1 ++ [.list l]) ∧ (p c = true → F.ev L1 (σ1 ++ [.list l]) elt = some (g c, σ1 ++ [.list l])))
    (hlen : C.length ≤ most) : evS T F L σ (.ListComp elt [⟨t, it, ifs, a⟩] sc q) = some (.obj σ1.length, σ1 ++ [.list ((C.filter p).map g)]) := by
  show (match overE T F L σ t it with | some (w, vs, σ1) => (match clauses F σ1.length elt [⟨t, it, ifs, a⟩] (hide sc L) w vs (σ1 ++ [Ob.list []]) with | some σ2 => some (V.obj σ1.length, σ2) | none => none) | none => none) = _
  have hv0 := hv []
  rw [List.append_nil] at hv0
  rw [ho, hi]
  dsimp only
  rw [hv0]
  dsimp only [Option.map]
  rw [clausesM (acc0 := []) p g (fun l => still_one.mpr (hv [Ob.list l])) hb hlen, List.nil_append]
theorem asg_comp {x : Str} {elt : Expr} {gs : List Comprehension} {sc : Scope} {q q1 q2 : Pos} {v : V} {σ1 : Sto} (h : evS T (lvl T n) L σ (.ListComp elt gs sc q) = some (v, σ1)) : (lvl T (n + 1)).ex L σ (.Assign [.Name x q1] (.ListComp elt gs sc q) q2) = some (.next, upd L x v, σ1) := by
  show (match evS T (lvl T n) L σ (.ListComp elt gs sc q) with | some (v, σ1) => some (Fl.next, upd L x v, σ1) | none => none) = _
  rw [h]
theorem ret_comp {elt : Expr} {gs : List Comprehension} {sc : Scope} {q q2 : Pos} {v : V} {σ1 : Sto} (h : evS T (lvl T n) L σ (.ListComp elt gs sc q) = some (v, σ1)) : (lvl T (n + 2)).ex L σ (.Return (some (.ListComp elt gs sc q)) q2) = some (.ret v, L, σ1) := by
  show (match evS T (lvl T n) L σ (.ListComp elt gs sc q) with | some (v, σ1) => some (Fl.ret v, L, σ1) | none => none) = _
  rw [h]
theorem len_comp {z : Int} {x f : Str} {elt : Expr} {gs : List Comprehension} {sc : Scope} {q q1 q2 q3 q4 : Pos} {l : List V} {σ1 : Sto} (hk : T.kind f = some (.bi .len)) (h : evS T (lvl T n) L σ (.ListComp elt gs sc q) = some (.obj σ1.length, σ1 ++ [.list l])) (hl : l.length ≤ 1000000) (hz : (l.length : Int) = z) : (lvl T (n + 3)).ex L σ (.Assign [.Name x q1] (.Call (.Name f q2) [.ListComp elt gs sc q] [] q3) q4) = some (.next, upd L x (.int z), σ1 ++ [.list l]) := by
  rw [← hz]
  have e : (lvl T (n + 2)).ev L σ (.Call (.Name f q2) [.ListComp elt gs sc q] [] q3) = some (.int l.length, σ1 ++ [.list l]) := by
    show (match evs ((lvl T (n + 1)).ev L) σ [.ListComp elt gs sc q] with | some (vs, σ1) => callN T (lvl T (n + 1)) f vs σ1 | none => none) = _
    have e1 : evs ((lvl T (n + 1)).ev L) σ [.ListComp elt gs sc q] = some ([.obj σ1.length], σ1 ++ [.list l]) := by
      unfold evs
      rw [show (lvl T (n + 1)).ev L σ (.ListComp elt gs sc q) = _ from h]
      rfl
    rw [e1]
    dsimp only
    unfold callN
    rw [hk]
    dsimp only
    show Option.map (fun v => (v, _)) (Option.map (fun l : List V => V.int l.length) (match (σ1 ++ [Ob.list l])[σ1.length]? with | some (.list l) => if decide (l.length ≤ most) then some l else none | _ => none)) = _
    rw [gl_at]
    dsimp only
    rw [if_pos (decide_eq_true (by unfold most; exact hl))]
    rfl
  show (match (lvl T (n + 2)).ev L σ (.Call (.Name f q2) [.ListComp elt gs sc q] [] q3) with | some (v, σ1) => some (Fl.next, upd L x v, σ1) | none => none) = _
  rw [e]
/-- a name behind those that are known -/
theorem loc_o {E : EX} {x : Str} (h : E.l.lookup x = none) : E.loc x = E.o x := by
  obtain ⟨l, o⟩ := E
  show loc' l o x = o x
  replace h : l.lookup x = none := h
  induction l with
  | nil => rfl
  | cons p l ih =>
    obtain ⟨y, v⟩ := p
    rw [List.lookup_cons] at h
    by_cases e : x = y
    · rw [e, beq_self_eq_true] at h; cases h
    · rw [show (x == y) = false from beq_eq_false_iff_ne.mpr e] at h
      unfold loc' upd
      rw [if_neg e]; exact ih h
theorem items_obj {k : Nat} {l : List V} (h : σ[k]? = some (.list l)) (hl : l.length ≤ 1000000) : items σ (.obj k) = some l := by
  unfold items
  dsimp only
  rw [h]
  exact if_pos (decide_eq_true (by unfold most; exact hl))
theorem app_c {k : Nat} {l : List V} {v : V} (hl : l.length < 1000000) : listM "append" k l [v] σ = some (.none, σ.set k (.list (l ++ [v]))) := by
  show (if (Str.ofString "append") = Str.ofString "append" then (if decide (l.length < most) then some (V.none, σ.set k (.list (l ++ [v]))) else none) else _) = _
  rw [if_pos rfl]
  exact if_pos (decide_eq_true (by unfold most; exact hl))
theorem lenP {k : Nat} {l : List Pt} (h : σ[k]? = some (.list (l.map vp))) (hl : l.length ≤ 1000000) : biC T .len [.obj k] σ = some (.int l.length) := by
  show Option.map (fun l : List V => V.int l.length) (match σ[k]? with | some (.list l) => if decide (l.length ≤ most) then some l else none | _ => none) = _
  rw [h]
  dsimp only
  rw [List.length_map, if_pos (decide_eq_true (by unfold most; exact hl))]
  show some (V.int ((l.map vp).length : Nat)) = _
  rw [List.length_map]
theorem popC {k : Nat} {l : List V} {v : V} (hv : l.getLast? = some v) (hf : free v = true) (hl : l.length ≤ 1000000) : listM "pop" k l [] σ = some (v, σ.set k (.list l.dropLast)) := by
  show (match l.getLast? with | some v => if free v && decide (l.length ≤ most) then some (v, σ.set k (.list l.dropLast)) else none | none => none) = _
  rw [hv]
  exact if_pos (by rw [hf, Bool.true_and]; exact decide_eq_true (by unfold most; exact hl))
theorem Ret.if_t {ss rest : List Stmt} {t : Expr} {b o : List Stmt} {q : Pos} {P : V → Sto → Prop} {σ1 : Sto} (hs : ss = .If t b o q :: rest) (ht : (lvl T n).tst L σ t = some (true, σ1)) (hb : Ret (lvl T n) L σ1 b P) : Ret (lvl T (n + 1)) L σ ss P := by
  subst hs
  obtain ⟨v, L', σ', e, hp⟩ := hb
  refine Ret.done (L1 := L') ?_ hp
  show (match (lvl T n).tst L σ t with | some (c, σ1) => if c then exs (lvl T n).ex L σ1 b else exs (lvl T n).ex L σ1 o | none => none) = _
  rw [ht]; exact e
theorem items_rng0 {b : Int} (h3 : -1152921504606846976 < b) (h5 : b ≤ 1000000) : items σ (.rng 0 b) = some ((List.range b.toNat).map fun (k : Nat) => V.int k) := by
  rw [items_rng (by decide) (by decide) h3 (by omega) (by omega), Int.sub_zero]
  congr 1
  apply List.map_congr_left
  intro k _
  rw [Int.zero_add]
theorem extC {i j : Nat} {l rr : List V} (h : σ[j]? = some (.list rr)) (hn : j ≠ i) (hl : l.length + rr.length ≤ 1000000) : listM "extend" i l [.obj j] σ = some (.none, σ.set i (.list (l ++ rr))) := by
  show (if (Str.ofString "extend") = Str.ofString "append" then _ else if (Str.ofString "extend") = Str.ofString "extend" then (match σ[j]? with | some (.list r) => if decide (j ≠ i) && decide (l.length + r.length ≤ most) then some (V.none, σ.set i (.list (l ++ r))) else none | _ => none) else _) = _
  rw [if_neg (by decide +kernel), if_pos rfl, h]
  exact if_pos (by rw [decide_eq_true hn, Bool.true_and]; exact decide_eq_true (by unfold most; exact hl))
theorem addC {i j : Nat} {l rr : List V} (h1 : σ[i]? = some (.list l)) (h2 : σ[j]? = some (.list rr)) (hl : l.length + rr.length ≤ 1000000) : binS .Add σ (.obj i) (.obj j) = some (.obj σ.length, σ ++ [.list (l ++ rr)]) := by
  show (match Operator.Add, σ[i]?, σ[j]? with | .Add, some (.list l), some (.list r) => if decide (l.length + r.length ≤ most) then some (V.obj σ.length, σ ++ [Ob.list (l ++ r)]) else none | _, _, _ => none) = _
  rw [h1, h2]
  exact if_pos (decide_eq_true (by unfold most; exact hl))
theorem ext_le {σ0 : Sto} (h : σ.take σ0.length = σ0) : σ0.length ≤ σ.length := by
  have := congrArg List.length h
  rw [List.length_take] at this; omega
theorem Nx.nil {R : Loc → Sto → Prop} (h : R L σ) : Nx F L σ [] R := ⟨L, σ, rfl, h⟩
theorem Nx.step {s : Stmt} {ss : List Stmt} {P R : Loc → Sto → Prop} (h : ∃ L1 σ1, F.ex L σ s = some (.next, L1, σ1) ∧ R L1 σ1) (k : ∀ L1 σ1, R L1 σ1 → Nx F L1 σ1 ss P) : Nx F L σ (s :: ss) P :=
  h.elim fun L1 h => h.elim fun σ1 h => Nx.cons h.1 (k L1 σ1 h.2)
theorem Nx.one {s : Stmt} {Q : Loc → Sto → Prop} (h : ∃ L1 σ1, F.ex L σ s = some (.next, L1, σ1) ∧ Q L1 σ1) : Nx F L σ [s] Q := Nx.step h fun _ _ => Nx.nil
/-- a for over values that a list gives -/
theorem ex_for {α : Type} {g : α → V} {C : List α} {t it : Expr} {b : List Stmt} {q : Pos} {w : V} {σ1 : Sto} (h : (lvl T n).ev L σ it = some (w, σ1)) (hi : items σ1 w = some (C.map g)) (I : List α → Loc → Sto → Prop)
    (hc : ∀ dn L σ, I dn L σ → items σ w = some (C.map g))
    (hf : ∀ dn p rs L σ, C = dn ++ p :: rs → I dn L σ → ∃ L1, bindT L σ t (g p) = some L1 ∧ Nx (lvl T n) L1 σ b (I (dn ++ [p]))) (h0 : I [] L σ1) : ∃ L' σ', (lvl T (n + 1)).ex L σ (.For t it b [] q) = some (.next, L', σ') ∧ I C L' σ' := by
  have key : ∀ (rs dn : List α) (L : Loc) (σ : Sto), C = dn ++ rs → I dn L σ → ∃ L' σ', forL (fun σ => still σ (.one w) (C.map g)) (fun v L σ => match bindT L σ t v with | some L1 => exs (lvl T n).ex L1 σ b | none => none) (rs.map g) L σ = some (.next, L', σ') ∧ I C L' σ' := by
    intro rs
    induction rs with
    | nil =>
      intro dn L σ e hI
      rw [List.append_nil] at e
      exact ⟨L, σ, if_pos (still_one.mpr (hc _ _ _ hI)), e ▸ hI⟩
    | cons v rs ih =>
      intro dn L σ e hI
      obtain ⟨L0, h0, L1, σ1, h1, h2⟩ := hf dn v rs L σ e hI
      obtain ⟨L2, σ2, h3, h4⟩ := ih (dn ++ [v]) L1 σ1 (by rw [e, List.append_assoc]; rfl) h2
      refine ⟨L2, σ2, ?_, h4⟩
      rw [List.map_cons]
      unfold forL
      rw [if_pos (still_one.mpr (hc _ _ _ hI)), h0]
      dsimp only
      rw [h1]
      exact h3
  obtain ⟨L', σ', e, hI⟩ := key C [] L σ1 rfl h0
  refine ⟨L', σ', ?_, hI⟩
  show (match (lvl T n).ev L σ it with | some (w, σ1) => (match items σ1 w with | some vs => forL (fun σ => still σ (.one w) vs) (fun v L σ => match bindT L σ t v with | some L1 => exs (lvl T n).ex L1 σ b | none => none) vs L σ1 | none => none) | none => none) = _
  rw [h]
  dsimp only
  rw [hi]
  exact e
/-- a for over one value -/
theorem ex_for1 {v : V} {t it : Expr} {b : List Stmt} {q : Pos} {w : V} {σ1 : Sto} {L1 : Loc} {Q : Loc → Sto → Prop} (h : (lvl T n).ev L σ it = some (w, σ1)) (hi : items σ1 w = some [v]) (hb : bindT L σ1 t v = some L1) (hx : Nx (lvl T n) L1 σ1 b fun L' σ' => items σ' w = some [v] ∧ Q L' σ') : ∃ L' σ', (lvl T (n + 1)).ex L σ (.For t it b [] q) = some (.next, L', σ') ∧ Q L' σ' := by
  obtain ⟨L', σ', e, h2, h3⟩ := hx
  refine ⟨L', σ', ?_, h3⟩
  show (match (lvl T n).ev L σ it with | some (w, σ1) => (match items σ1 w with | some vs => forL (fun σ => still σ (.one w) vs) (fun v L σ => match bindT L σ t v with | some L1 => exs (lvl T n).ex L1 σ b | none => none) vs L σ1 | none => none) | none => none) = _
  rw [h]
  dsimp only
  rw [hi]
  dsimp only
  unfold forL
  rw [if_pos (still_one.mpr hi), hb]
  dsimp only
  rw [e]
  exact if_pos (still_one.mpr h2)
end Mine
end
section
open PySem PySem.W PyProof.Rows PySem.Calls
set_option linter.unusedVariables false
set_option linter.unusedSimpArgs false
set_option maxRecDepth 100000
namespace Mine
variable {r : Nat → Option (List Int)} {T : Tbl} {F : Funs} {L : Loc} {σ : Sto} {n : Nat}

/-- what a normal's size is counted by -/
noncomputable def inside (h q pk : Int) : List V := ((List.range (h + 2 - 1).toNat).filter fun (k : Nat) => isIn q pk (V.int (1 + k))).map fun (k : Nat) => V.int (1 + k)
theorem law_normal_c {p q : Pt} {h : Int} (s : Sd p q) (hh : Hf h) : callD (lvl (tbl r) (n + 60)) d_l_normal.1 [vp p, vp q, .int h] σ = some (.obj σ.length, σ ++ [.list [.int (nrm p q h).1, .int (nrm p q h).2]]) := by
  obtain ⟨s1, s2⟩ := s.sh hh
  obtain ⟨c1, c2⟩ := s.bd hh
  have e1 := cntS_eq hh s1 c1
  have e2 := cntS_eq hh s2 c2
  obtain ⟨h1, h2⟩ := hh
  have b1 : -1152921504606846976 < h := by omega
  have b2 : h < 1152921504606846976 := by omega
  obtain ⟨x1, x2, y1, y2, ne⟩ := s
  have b3 : -1152921504606846976 < q.1 - p.1 := by omega
  have b4 : q.1 - p.1 < 1152921504606846976 := by omega
  have b5 : -1152921504606846976 < q.2 - p.2 := by omega
  have b6 : q.2 - p.2 < 1152921504606846976 := by omega
  have q0 := s1.q0
  have q1 := s1.q1
  have b7 : -1152921504606846976 < ((q.1 - p.1) * (q.1 - p.1) + (q.2 - p.2) * (q.2 - p.2)) := by omega
  have b8 : ((q.1 - p.1) * (q.1 - p.1) + (q.2 - p.2) * (q.2 - p.2)) < 1152921504606846976 := by omega
  refine callD_list'' rfl rfl (Ret.args ?_)
  refine Ret.run_to (k := 2) (E1 := EX.up (EX.ups (argX d_l_normal.val [vp p, vp q, V.int h]) [Str.ofString "x", Str.ofString "y"] [V.int (q.fst - p.fst), V.int (q.snd - p.snd)]) (Str.ofString "found") (V.obj (List.length σ))) (σ1 := σ ++ [Ob.list []]) (fs_nil) (by kernel_rfl) ?_
  refine Ret.for rfl (w := .obj (σ ++ [Ob.list []]).length) (vs := [.int ((q.2 - p.2) * h), .int (-(q.1 - p.1) * h)]) (σ1 := σ ++ [Ob.list []] ++ [Ob.list [.int ((q.2 - p.2) * h), .int (-(q.1 - p.1) * h)]]) ((sx_ev (E := EX.up (EX.ups (argX d_l_normal.val [vp p, vp q, V.int h]) [Str.ofString "x", Str.ofString "y"] [V.int (q.fst - p.fst), V.int (q.snd - p.snd)]) (Str.ofString "found") (V.obj (List.length σ))) (fs_s (@mulR (σ ++ [Ob.list []]) (q.snd - p.snd) h b1 b2) <| fs_s (@mulR (σ ++ [Ob.list []]) (-(q.fst - p.fst)) h b1 b2) <| fs_nil) (by kernel_rfl))) (items_obj gl_at (Nat.le_of_ble_eq_true rfl))
    (fun done L st => L "half" = some (.int h) ∧ L "x" = some (.int (q.1 - p.1)) ∧ L "y" = some (.int (q.2 - p.2)) ∧ L "found" = some (.obj σ.length) ∧ st.take σ.length = σ ∧
    st[σ.length]? = some (.list (done.map fun v => match v with | .int pk => .int (cntS h ((q.1 - p.1) * (q.1 - p.1) + (q.2 - p.2) * (q.2 - p.2)) pk) | _ => .none)) ∧ st[(σ ++ [Ob.list []]).length]? = some (.list [.int ((q.2 - p.2) * h), .int (-(q.1 - p.1) * h)]))
    (fun done L st hI => items_obj hI.2.2.2.2.2.2 (Nat.le_of_ble_eq_true rfl)) (fun done v rest L st hall hI => ?_) ⟨by kernel_rfl, by kernel_rfl, by kernel_rfl, by kernel_rfl, take_app (take_app tk0), app_l gl_at, gl_at⟩ fun L' st hI => ?_
  · obtain ⟨i1, i2, i3, i4, i5, i6, i7⟩ := hI
    obtain ⟨pk, rfl, p1, p2⟩ : ∃ pk, v = .int pk ∧ -20000 ≤ pk ∧ pk ≤ 20000 := by
      have hm : v ∈ [V.int ((q.2 - p.2) * h), V.int (-(q.1 - p.1) * h)] := by rw [hall]; simp
      simp only [List.mem_cons, List.not_mem_nil, or_false] at hm
      rcases hm with hm | hm
      · exact ⟨_, hm, s1.lo, s1.hi⟩
      · exact ⟨_, hm, s2.lo, s2.hi⟩
    have b12 : -1152921504606846976 < pk := by omega
    have b13 : pk < 1152921504606846976 := by omega
    have hpk : upd L "piece_k" (.int pk) "piece_k" = some (.int pk) := by kernel_rfl
    have hsz : done.length < 1000000 := by
      have := congrArg List.length hall
      simp at this; omega
    have hf2 : (((List.range (h + 2 - 1).toNat).filter fun (k : Nat) => isIn ((q.1 - p.1) * (q.1 - p.1) + (q.2 - p.2) * (q.2 - p.2)) pk (V.int (1 + k))).map fun (k : Nat) => V.int (1 + k)).length = cnt h ((q.1 - p.1) * (q.1 - p.1) + (q.2 - p.2) * (q.2 - p.2)) pk := by
      unfold cnt; rw [List.filter_map]; rfl
    have hl : (((List.range (h + 2 - 1).toNat).filter fun (k : Nat) => isIn ((q.1 - p.1) * (q.1 - p.1) + (q.2 - p.2) * (q.2 - p.2)) pk (V.int (1 + k))).map fun (k : Nat) => V.int (1 + k)).length ≤ 1000000 := by
      rw [List.length_map]
      refine Nat.le_trans (List.length_filter_le _ _) ?_
      rw [List.length_range]; omega
    have ks : σ.length ≠ (σ ++ [Ob.list []]).length := Nat.ne_of_lt lt_new
    generalize hls : (done.map fun v => match v with | V.int pk => V.int (cntS h ((q.1 - p.1) * (q.1 - p.1) + (q.2 - p.2) * (q.2 - p.2)) pk) | _ => V.none) = ls at i6
    have hll : ls.length < 1000000 := by rw [← hls, List.length_map]; exact hsz
    have up : ∀ {z : Int} {τ : Sto}, τ[σ.length]? = some (.list ls) → z = cntS h ((q.1 - p.1) * (q.1 - p.1) + (q.2 - p.2) * (q.2 - p.2)) pk → (τ.set σ.length (.list (ls ++ [.int z])))[σ.length]? = some (.list ((done ++ [V.int pk]).map fun v => match v with | V.int pk => V.int (cntS h ((q.1 - p.1) * (q.1 - p.1) + (q.2 - p.2) * (q.2 - p.2)) pk) | _ => V.none)) := fun hg hz => by
      rw [set_self hg, hz, List.map_append, hls]; rfl
    refine ⟨_, rfl, ?_⟩
    · refine Nx.cons (σ1 := st ++ [Ob.list (inside h ((q.1 - p.1) * (q.1 - p.1) + (q.2 - p.2) * (q.2 - p.2)) pk)]) (len_comp (k_len r) (comp_rule (σ1 := st) (C := List.range (h + 2 - 1).toNat) (e := fun k : Nat => V.int (1 + k)) (w := .rng 1 (h + 2)) (fun k : Nat => isIn ((q.1 - p.1) * (q.1 - p.1) + (q.2 - p.2) * (q.2 - p.2)) pk (V.int (1 + k))) (fun k : Nat => V.int (1 + k)) rfl ?_ (fun l => items_rng (by decide) (by decide) (by omega) (by omega) (by omega)) (fun k hk l => ?_) (by rw [List.length_range]; unfold most; omega)) hl hf2) ?_
      · exact sx_ev (E := { l := [(Str.ofString "piece_k", V.int pk)], o := L }) (fs_v i1 <| fs_nil) (by kernel_rfl)
      · have hk' := List.mem_range.mp hk
        have b16 : -1152921504606846976 < 2 * (1 + (k : Int)) - 1 := by omega
        have b17 : 2 * (1 + (k : Int)) - 1 < 1152921504606846976 := by omega
        have b18 : -1152921504606846976 < 1 + (k : Int) := by omega
        have b19 : 1 + (k : Int) < 1152921504606846976 := by omega
        refine ⟨_, rfl, tests_one ?_, fun _ => ?_⟩
        · exact sx_tst (E := { l := [(Str.ofString "k", V.int (1 + (↑k : Int)))], o := hide { kind := ScopeKind.function, names := [(Str.ofString ".0", NameKind.local), (Str.ofString "k", NameKind.local), (Str.ofString "piece_k", NameKind.free), (Str.ofString "x", NameKind.free), (Str.ofString "y", NameKind.free)], isGenerator := false, isCoroutine := false } (upd L (Str.ofString "piece_k") (V.int pk)) }) (fs_s (@mulR (st ++ [Ob.list l]) 2 (1 + (↑k : Int)) b18 b19) <| fs_s (@powC (st ++ [Ob.list l]) (2 * (1 + (↑k : Int)) - 1) 2 (by omega) (by omega) b16 b17) <| fs_v i2 <| fs_v i2 <| fs_s (@mulR (st ++ [Ob.list l]) (q.fst - p.fst) (q.fst - p.fst) b3 b4) <| fs_v i3 <| fs_v i3 <| fs_s (@mulR (st ++ [Ob.list l]) (q.snd - p.snd) (q.snd - p.snd) b5 b6) <| fs_s (@mulR (st ++ [Ob.list l]) ((2 * (1 + (↑k : Int)) - 1) ^ Int.toNat 2) ((q.fst - p.fst) * (q.fst - p.fst) + (q.snd - p.snd) * (q.snd - p.snd)) b7 b8) <| fs_v (by kernel_rfl : some (V.int pk) = some (V.int pk)) <| fs_s (@mulR (st ++ [Ob.list l]) 4 pk b12 b13) <| fs_v (by kernel_rfl : some (V.int pk) = some (V.int pk)) <| fs_s (@mulR (st ++ [Ob.list l]) (4 * pk) pk b12 b13) <| fs_nil) (by kernel_rfl)
        · exact sx_ev (E := { l := [(Str.ofString "k", V.int (1 + (↑k : Int)))], o := hide { kind := ScopeKind.function, names := [(Str.ofString ".0", NameKind.local), (Str.ofString "k", NameKind.local), (Str.ofString "piece_k", NameKind.free), (Str.ofString "x", NameKind.free), (Str.ofString "y", NameKind.free)], isGenerator := false, isCoroutine := false } (upd L (Str.ofString "piece_k") (V.int pk)) }) (fs_nil) (by kernel_rfl)
      · have ge : σ.length ≤ σ.length := Nat.le_refl _
        have i7' : ∀ x l, ((st ++ l).set σ.length x)[(σ ++ [Ob.list []]).length]? = some (.list [.int ((q.2 - p.2) * h), .int (-(q.1 - p.1) * h)]) := fun x l => by rw [set_ne ks]; exact app_l i7
        have nm : ∀ {z : Int} {x : Str} {w : V}, ([((Str.ofString "size"), V.int z), (Str.ofString "piece_k", V.int pk)] : List (Str × V)).lookup x = none → L x = some w → (EX.mk [((Str.ofString "size"), V.int z), (Str.ofString "piece_k", V.int pk)] L).loc x = some w := fun h1 h2 => (loc_o h1).trans h2
        by_cases hp : pk > 0
        · refine Nx.fin (E := { l := [(Str.ofString "size", V.int (cnt h ((q.fst - p.fst) * (q.fst - p.fst) + (q.snd - p.snd) * (q.snd - p.snd)) pk)), (Str.ofString "piece_k", V.int pk)], o := L }) (E' := { l := [(Str.ofString "size", V.int (cnt h ((q.fst - p.fst) * (q.fst - p.fst) + (q.snd - p.snd) * (q.snd - p.snd)) pk)), (Str.ofString "piece_k", V.int pk)], o := L }) (σ' := List.set (st ++ [Ob.list (inside h ((q.fst - p.fst) * (q.fst - p.fst) + (q.snd - p.snd) * (q.snd - p.snd)) pk)]) (List.length σ) (Ob.list (ls ++ [V.int (cnt h ((q.fst - p.fst) * (q.fst - p.fst) + (q.snd - p.snd) * (q.snd - p.snd)) pk)]))) (fs_v i4 <| fs_o (@app_l st (List.length σ) (Ob.list ls) ([Ob.list (inside h ((q.fst - p.fst) * (q.fst - p.fst) + (q.snd - p.snd) * (q.snd - p.snd)) pk)]) i6) <| fs_t (p := pk > 0) hp <| fs_o (@app_l st (List.length σ) (Ob.list ls) ([Ob.list (inside h ((q.fst - p.fst) * (q.fst - p.fst) + (q.snd - p.snd) * (q.snd - p.snd)) pk)]) i6) <| fs_s (@app_c (st ++ [Ob.list (inside h ((q.fst - p.fst) * (q.fst - p.fst) + (q.snd - p.snd) * (q.snd - p.snd)) pk)]) (List.length σ) ls (V.int (cnt h ((q.fst - p.fst) * (q.fst - p.fst) + (q.snd - p.snd) * (q.snd - p.snd)) pk)) hll) <| fs_nil) (by kernel_rfl) ?_
          exact ⟨nm (by kernel_rfl) i1, nm (by kernel_rfl) i2, nm (by kernel_rfl) i3, nm (by kernel_rfl) i4, take_set (take_app i5) ge, up (app_l i6) (by unfold cntS; rw [if_pos hp]), i7' _ _⟩
        · refine Nx.fin (E := { l := [(Str.ofString "size", V.int (cnt h ((q.fst - p.fst) * (q.fst - p.fst) + (q.snd - p.snd) * (q.snd - p.snd)) pk)), (Str.ofString "piece_k", V.int pk)], o := L }) (E' := { l := [(Str.ofString "size", V.int (cnt h ((q.fst - p.fst) * (q.fst - p.fst) + (q.snd - p.snd) * (q.snd - p.snd)) pk)), (Str.ofString "piece_k", V.int pk)], o := L }) (σ' := List.set (st ++ [Ob.list (inside h ((q.fst - p.fst) * (q.fst - p.fst) + (q.snd - p.snd) * (q.snd - p.snd)) pk)]) (List.length σ) (Ob.list (ls ++ [V.int (-cnt h ((q.fst - p.fst) * (q.fst - p.fst) + (q.snd - p.snd) * (q.snd - p.snd)) pk)]))) (fs_v i4 <| fs_o (@app_l st (List.length σ) (Ob.list ls) ([Ob.list (inside h ((q.fst - p.fst) * (q.fst - p.fst) + (q.snd - p.snd) * (q.snd - p.snd)) pk)]) i6) <| fs_f (p := pk > 0) hp <| fs_o (@app_l st (List.length σ) (Ob.list ls) ([Ob.list (inside h ((q.fst - p.fst) * (q.fst - p.fst) + (q.snd - p.snd) * (q.snd - p.snd)) pk)]) i6) <| fs_s (@app_c (st ++ [Ob.list (inside h ((q.fst - p.fst) * (q.fst - p.fst) + (q.snd - p.snd) * (q.snd - p.snd)) pk)]) (List.length σ) ls (V.int (-cnt h ((q.fst - p.fst) * (q.fst - p.fst) + (q.snd - p.snd) * (q.snd - p.snd)) pk)) hll) <| fs_nil) (by kernel_rfl) ?_
          exact ⟨nm (by kernel_rfl) i1, nm (by kernel_rfl) i2, nm (by kernel_rfl) i3, nm (by kernel_rfl) i4, take_set (take_app i5) ge, up (app_l i6) (by unfold cntS; rw [if_neg hp]), i7' _ _⟩
  · have hv4 := hI.2.2.2.1
    refine Ret.fin (E := { l := [], o := L' }) (v := V.obj (List.length σ)) (σ' := st) (fs_v hv4 <| fs_nil) (by kernel_rfl) ?_
    exact ⟨_, rfl, hI.2.2.2.2.1, Nat.le_refl _, by rw [hI.2.2.2.2.2.1]; show some (Ob.list [V.int (cntS _ _ _), V.int (cntS _ _ _)]) = _; rw [e1, e2]; rfl⟩
end Mine
end
section
open PySem PySem.W PyProof.Rows PySem.Calls
set_option linter.unusedVariables false
set_option linter.unusedSimpArgs false
set_option maxRecDepth 100000
namespace Mine
variable {r : Nat → Option (List Int)} {T : Tbl} {F : Funs} {L : Loc} {σ : Sto} {n : Nat}

noncomputable def ppt (p : Pt) : PyData := .tuple [.int p.1, .int p.2]
theorem py_vp {p : Pt} : py (vp p) = ppt p := by simp [vp, ppt, py, pyL]
theorem pyL_vp {l : List Pt} : pyL (l.map vp) = l.map ppt := by
  induction l with
  | nil => rfl
  | cons p l ih => rw [List.map_cons, List.map_cons, pyL, py_vp, ih]
theorem ppt_ok {p : Pt} : (ppt p).canLay0 = true ∧ (ppt p).depth = 1 := by simp [ppt, PyData.canLay0, PyData.canLayAll0, PyData.depth, PyData.depthAll]
theorem ppts_ok {l : List Pt} : PyData.canLayAll0 (l.map ppt) = true ∧ PyData.depthAll (l.map ppt) ≤ 1 := by
  induction l with
  | nil => simp [PyData.canLayAll0, PyData.depthAll]
  | cons p l ih =>
    rw [List.map_cons, PyData.canLayAll0, PyData.depthAll, ppt_ok.1, ppt_ok.2, ih.1]
    exact ⟨rfl, by omega⟩
theorem eqv_ppt {p q : Pt} : PyData.eqv (ppt p) (ppt q) = decide (p = q) := by
  obtain ⟨a, b⟩ := p
  obtain ⟨c, d⟩ := q
  simp [ppt, PyData.eqv, PyData.eqvAll, Prod.ext_iff]
  by_cases h : a = c <;> by_cases h' : b = d <;> simp [h, h']
theorem eqv_ppts {l m : List Pt} : PyData.eqvAll (l.map ppt) (m.map ppt) = decide (l = m) := by
  induction l generalizing m with
  | nil => cases m <;> simp [PyData.eqvAll]
  | cons p l ih =>
    induction m using List.casesOn with
    | nil => simp [PyData.eqvAll]
    | cons q m =>
      rw [List.map_cons, List.map_cons, PyData.eqvAll, eqv_ppt, ih]
      by_cases h : p = q <;> by_cases h' : l = m <;> simp [h, h']
theorem cmpE {a b : V} {x y : PyData} (hx : Mine.data σ a = some x) (hy : Mine.data σ b = some y) (ox : okData x = true) (oy : okData y = true) : cmpS .Eq σ a b = some (PyData.eqv x y) := by
  simp [cmpS, hx, hy, ox, oy]
theorem cmpN {a b : V} {x y : PyData} (hx : Mine.data σ a = some x) (hy : Mine.data σ b = some y) (ox : okData x = true) (oy : okData y = true) : cmpS .NotEq σ a b = some (!PyData.eqv x y) := by
  simp [cmpS, hx, hy, ox, oy]
theorem data_vp {p : Pt} : Mine.data σ (vp p) = some (ppt p) := by
  rw [← py_vp]; rfl
theorem data_vps {l : List Pt} : Mine.data σ (vps l) = some (.tuple (l.map ppt)) := by
  have : py (vps l) = .tuple (l.map ppt) := by rw [vps, py, pyL_vp]
  rw [← this]
  have h := free_vps (l := l)
  unfold vps at h ⊢
  simp [Mine.data, h]
theorem data_obj {k : Nat} {l : List V} (h : σ[k]? = some (.list l)) (hf : freeL l = true) : Mine.data σ (.obj k) = some (.list (pyL l)) := by
  simp [Mine.data, h, hf]
theorem ok_ppt {p : Pt} : okData (ppt p) = true := by simp [okData, ppt_ok.1, ppt_ok.2]
theorem ok_pptsT {l : List Pt} : okData (.tuple (l.map ppt)) = true := by
  have := ppts_ok (l := l)
  simp [okData, PyData.canLay0, PyData.depth, this.1]; omega
theorem ok_pptsL {l : List Pt} : okData (.list (l.map ppt)) = true := by
  have := ppts_ok (l := l)
  simp [okData, PyData.canLay0, PyData.depth, this.1]; omega
theorem cmp_pt {p q : Pt} : cmpS .Eq σ (vp p) (vp q) = some (decide (p = q)) := by rw [cmpE data_vp data_vp ok_ppt ok_ppt, eqv_ppt]
theorem cmp_ptn {p q : Pt} : cmpS .NotEq σ (vp p) (vp q) = some (!decide (p = q)) := by rw [cmpN data_vp data_vp ok_ppt ok_ppt, eqv_ppt]
theorem cmp_emp {l : List Pt} {k j : Nat} (h : σ[k]? = some (.list (l.map vp))) (h' : σ[j]? = some (.list [])) : cmpS .Eq σ (.obj k) (.obj j) = some (decide (l = [])) := by
  rw [cmpE (data_obj h freeL_map) (data_obj h' rfl) (by rw [pyL_vp]; exact ok_pptsL) rfl, pyL_vp]
  show some (PyData.eqvAll (l.map ppt) []) = _
  rw [show ([] : List PyData) = ([] : List Pt).map ppt from rfl, eqv_ppts]
theorem cmp_tn {l : List Pt} : cmpS .NotEq σ (vps l) (.tup []) = some (!decide (l = [])) := by
  rw [show V.tup [] = vps [] from rfl, cmpN data_vps data_vps ok_pptsT ok_pptsT]
  show some (!PyData.eqvAll (l.map ppt) (([] : List Pt).map ppt)) = _
  rw [eqv_ppts]
/-- pieces -/
noncomputable def ppc (l : List Pt) : PyData := .tuple (l.map ppt)
theorem freeL_pcs {P : List (List Pt)} : freeL (P.map vps) = true := by
  induction P with
  | nil => rfl
  | cons p P ih => rw [List.map_cons, freeL, free_vps, ih]; rfl
theorem pyL_pcs {P : List (List Pt)} : pyL (P.map vps) = P.map ppc := by
  induction P with
  | nil => rfl
  | cons p P ih => rw [List.map_cons, List.map_cons, pyL, ih, vps, py, pyL_vp]; rfl
theorem pcs_ok {P : List (List Pt)} : PyData.canLayAll0 (P.map ppc) = true ∧ PyData.depthAll (P.map ppc) ≤ 2 := by
  induction P with
  | nil => simp [PyData.canLayAll0, PyData.depthAll]
  | cons p P ih =>
    have := ppts_ok (l := p)
    rw [List.map_cons, PyData.canLayAll0, PyData.depthAll, ih.1]
    unfold ppc at ih ⊢
    simp only [PyData.canLay0, PyData.depth, this.1]
    exact ⟨rfl, by omega⟩
theorem eqv_pcs {P Q : List (List Pt)} : PyData.eqvAll (P.map ppc) (Q.map ppc) = decide (P = Q) := by
  induction P generalizing Q with
  | nil => cases Q <;> simp [PyData.eqvAll]
  | cons p P ih =>
    cases Q with
    | nil => simp [PyData.eqvAll]
    | cons q Q =>
      rw [List.map_cons, List.map_cons, PyData.eqvAll, ih]
      have : PyData.eqv (ppc p) (ppc q) = decide (p = q) := by
        show PyData.eqvAll (p.map ppt) (q.map ppt) = _
        exact eqv_ppts
      rw [this]
      by_cases h : p = q <;> by_cases h' : P = Q <;> simp [h, h']
theorem cmp_pcs {P Q : List (List Pt)} {k j : Nat} (h : σ[k]? = some (.list (P.map vps))) (h' : σ[j]? = some (.list (Q.map vps))) : cmpS .NotEq σ (.obj k) (.obj j) = some (!decide (P = Q)) ∧ cmpS .Eq σ (.obj k) (.obj j) = some (decide (P = Q)) := by
  have ok : ∀ P : List (List Pt), okData (.list (P.map ppc)) = true := fun P => by
    have := pcs_ok (P := P)
    simp [okData, PyData.canLay0, PyData.depth, this.1]; omega
  constructor
  · rw [cmpN (data_obj h freeL_pcs) (data_obj h' freeL_pcs) (by rw [pyL_pcs]; exact ok P) (by rw [pyL_pcs]; exact ok Q), pyL_pcs, pyL_pcs]
    show some (!PyData.eqvAll (P.map ppc) (Q.map ppc)) = _
    rw [eqv_pcs]
  · rw [cmpE (data_obj h freeL_pcs) (data_obj h' freeL_pcs) (by rw [pyL_pcs]; exact ok P) (by rw [pyL_pcs]; exact ok Q), pyL_pcs, pyL_pcs]
    show some (PyData.eqvAll (P.map ppc) (Q.map ppc)) = _
    rw [eqv_pcs]

/-- what is drawn: pieces, each closed -/
noncomputable def vdr (l : List Pt) : V := .tup [vps l, .bool true]
noncomputable def pdr (l : List Pt) : PyData := .tuple [ppc l, .bool true]
theorem freeL_drs {P : List (List Pt)} : freeL (P.map vdr) = true := by
  induction P with
  | nil => rfl
  | cons p P ih => rw [List.map_cons, freeL, ih]; simp [vdr, free, freeL, free_vps]
theorem pyL_drs {P : List (List Pt)} : pyL (P.map vdr) = P.map pdr := by
  induction P with
  | nil => rfl
  | cons p P ih => rw [List.map_cons, List.map_cons, pyL, ih]; simp [vdr, pdr, ppc, vps, py, pyL, pyL_vp]
theorem drs_ok {P : List (List Pt)} : PyData.canLayAll0 (P.map pdr) = true ∧ PyData.depthAll (P.map pdr) ≤ 3 := by
  induction P with
  | nil => simp [PyData.canLayAll0, PyData.depthAll]
  | cons p P ih =>
    have := ppts_ok (l := p)
    rw [List.map_cons, PyData.canLayAll0, PyData.depthAll, ih.1]
    unfold pdr ppc at ih ⊢
    simp [PyData.canLay0, PyData.canLayAll0, PyData.depth, PyData.depthAll, this.1]
    have := ih.2
    omega
theorem eqv_drs {P Q : List (List Pt)} : PyData.eqvAll (P.map pdr) (Q.map pdr) = decide (P = Q) := by
  induction P generalizing Q with
  | nil => cases Q <;> simp [PyData.eqvAll]
  | cons p P ih =>
    cases Q with
    | nil => simp [PyData.eqvAll]
    | cons q Q =>
      rw [List.map_cons, List.map_cons, PyData.eqvAll, ih]
      have : PyData.eqv (pdr p) (pdr q) = decide (p = q) := by
        show (PyData.eqvAll (p.map ppt) (q.map ppt) && (PyData.eqv (.bool true) (.bool true) && PyData.eqvAll [] [])) = _
        rw [eqv_ppts]; simp [PyData.eqv, PyData.eqvAll]
      rw [this]
      by_cases h : p = q <;> by_cases h' : P = Q <;> simp [h, h']
theorem cmp_drs {P Q : List (List Pt)} {k j : Nat} (h : σ[k]? = some (.list (P.map vdr))) (h' : σ[j]? = some (.list (Q.map vdr))) : cmpS .NotEq σ (.obj k) (.obj j) = some (!decide (P = Q)) := by
  have ok : ∀ P : List (List Pt), okData (.list (P.map pdr)) = true := fun P => by
    have := drs_ok (P := P)
    simp [okData, PyData.canLay0, PyData.depth, this.1]; omega
  rw [cmpN (data_obj h freeL_drs) (data_obj h' freeL_drs) (by rw [pyL_drs]; exact ok P) (by rw [pyL_drs]; exact ok Q), pyL_drs, pyL_drs]
  show some (!PyData.eqvAll (P.map pdr) (Q.map pdr)) = _
  rw [eqv_drs]

end Mine
end
section
open PySem PySem.W PyProof.Rows PySem.Calls
set_option linter.unusedVariables false
set_option linter.unusedSimpArgs false
set_option maxRecDepth 100000
namespace Mine
variable {r : Nat → Option (List Int)} {T : Tbl} {F : Funs} {L : Loc} {σ : Sto} {n : Nat}

theorem law_at_c {p : Pt} {x y : Int} : callD (lvl (tbl r) (n + 20)) d_l_at.1 [vp p, .int x, .int y] σ = some (vp (p.1 + x, p.2 + y), σ) := by
  refine callD_pure0 rfl rfl ?_
  exact run_sx (fs_nil) (by kernel_rfl)
theorem law_side_c {p q : Pt} {h : Int} (s : Sd p q) (hh : Hf h) : callD (lvl (tbl r) (n + 80)) d_l_side.1 [vp p, vp q, .int h] σ = some (vps (quad p q h), σ) := by
  exact callD_pureT rfl free_vps (run_sx (v := V.tup [vp (p.fst + (nrm p q h).fst, p.snd + (nrm p q h).snd), vp (q.fst + (nrm p q h).fst, q.snd + (nrm p q h).snd), vp (q.fst + -(nrm p q h).fst, q.snd + -(nrm p q h).snd), vp (p.fst + -(nrm p q h).fst, p.snd + -(nrm p q h).snd)]) (σ' := σ ++ [Ob.list [V.int (nrm p q h).fst, V.int (nrm p q h).snd]]) (fs_s (@law_normal_c r σ (n + 18) p q h s hh) <| fs_o (@gl_at σ (Ob.list [V.int (nrm p q h).fst, V.int (nrm p q h).snd]) []) <| fs_s (@law_at_c r (σ ++ [Ob.list [V.int (nrm p q h).fst, V.int (nrm p q h).snd]]) (n + 57) p ((nrm p q h).fst) ((nrm p q h).snd)) <| fs_s (@law_at_c r (σ ++ [Ob.list [V.int (nrm p q h).fst, V.int (nrm p q h).snd]]) (n + 57) q ((nrm p q h).fst) ((nrm p q h).snd)) <| fs_s (@law_at_c r (σ ++ [Ob.list [V.int (nrm p q h).fst, V.int (nrm p q h).snd]]) (n + 57) q (-(nrm p q h).fst) (-(nrm p q h).snd)) <| fs_s (@law_at_c r (σ ++ [Ob.list [V.int (nrm p q h).fst, V.int (nrm p q h).snd]]) (n + 57) p (-(nrm p q h).fst) (-(nrm p q h).snd)) <| fs_nil) (by kernel_rfl)) (take_app tk0)

/-- a corner's piece -/
noncomputable def turn3 (a p b : Pt) : Int := (p.1 - a.1) * (b.2 - p.2) - (p.2 - a.2) * (b.1 - p.1)
noncomputable def crn (a p b : Pt) (h : Int) : List Pt := if turn3 a p b = 0 then [] else
  let s : Int := if turn3 a p b > 0 then 1 else -1
  [p, (p.1 + s * (nrm a p h).1, p.2 + s * (nrm a p h).2), (p.1 + s * (nrm p b h).1, p.2 + s * (nrm p b h).2)]

theorem nrs_small {s q : Int} (h : ShOk s q) : -1000 ≤ nrs s q ∧ nrs s q ≤ 1000 := by
  have hi : ∀ k, isq k ≤ 12 := fun k => by
    unfold isq
    have := List.length_filter_le (fun k' => decide (k' * k' ≤ k)) (List.range 13)
    rw [List.length_range] at this
    omega
  have := hi ((4 * s * s).fdiv q).toNat
  unfold nrs
  split <;> omega

theorem law_corner_c {a p b : Pt} {h : Int} (s1 : Sd a p) (s2 : Sd p b) (hh : Hf h) : callD (lvl (tbl r) (n + 80)) d_l_corner.1 [vp a, vp p, vp b, .int h] σ = some (vps (crn a p b h), σ) := by
  have b1 : -1152921504606846976 < p.1 - a.1 := by have := s1.x1; omega
  have b2 : p.1 - a.1 < 1152921504606846976 := by have := s1.x2; omega
  have b3 : -1152921504606846976 < p.2 - a.2 := by have := s1.y1; omega
  have b4 : p.2 - a.2 < 1152921504606846976 := by have := s1.y2; omega
  by_cases ht : turn3 a p b = 0
  · refine callD_pure0 rfl free_vps ?_
    have e : crn a p b h = [] := if_pos ht
    have ht' : (p.1 - a.1) * (b.2 - p.2) - (p.2 - a.2) * (b.1 - p.1) = 0 := ht
    rw [e]
    exact run_sx (fs_s (@mulL σ (p.fst - a.fst) (b.snd - p.snd) b1 b2) <| fs_s (@mulL σ (p.snd - a.snd) (b.fst - p.fst) b3 b4) <| fs_c (@cmp_eqi σ ((p.fst - a.fst) * (b.snd - p.snd) - (p.snd - a.snd) * (b.fst - p.fst)) 0) <| fs_t (p := (p.fst - a.fst) * (b.snd - p.snd) - (p.snd - a.snd) * (b.fst - p.fst) = 0) ht' <| fs_nil) (by kernel_rfl)
  · have ht' : ¬ (p.1 - a.1) * (b.2 - p.2) - (p.2 - a.2) * (b.1 - p.1) = 0 := ht
    have gc : ∀ {τ : Sto} {k : Nat} {x y : Int}, τ[k]? = some (.list [.int x, .int y]) → subC (tbl r) τ (.obj k) (.int 0) = some (.int x) ∧ subC (tbl r) τ (.obj k) (.int 1) = some (.int y) := fun h => by
      refine ⟨?_, ?_⟩ <;> (unfold subC; dsimp only; rw [h]; rfl)
    have g1 := (gc (app_l (l := [Ob.list [.int (nrm p b h).1, .int (nrm p b h).2]]) (gl_at (σ := σ) (o := Ob.list [.int (nrm a p h).1, .int (nrm a p h).2]) (l := []))))
    have g2 := (gc (gl_at (σ := σ ++ [Ob.list [.int (nrm a p h).1, .int (nrm a p h).2]]) (o := Ob.list [.int (nrm p b h).1, .int (nrm p b h).2]) (l := [])))
    obtain ⟨g3, g4⟩ := g1
    obtain ⟨g5, g6⟩ := g2
    have hn1 := fun j => law_normal_c (r := r) (n := j) (σ := σ) s1 hh
    have hn2 := fun j => law_normal_c (r := r) (n := j) (σ := σ ++ [Ob.list [.int (nrm a p h).1, .int (nrm a p h).2]]) s2 hh
    by_cases hp : (p.2 - a.2) * (b.1 - p.1) < (p.1 - a.1) * (b.2 - p.2)
    · have e : crn a p b h = [p, (p.1 + 1 * (nrm a p h).1, p.2 + 1 * (nrm a p h).2), (p.1 + 1 * (nrm p b h).1, p.2 + 1 * (nrm p b h).2)] := by
        unfold crn; rw [if_neg ht, if_pos (show turn3 a p b > 0 by unfold turn3; omega)]
      rw [e]
      exact callD_pureT rfl free_vps (run_sx (v := V.tup [vp p, vp (p.fst + 1 * (nrm a p h).fst, p.snd + 1 * (nrm a p h).snd), vp (p.fst + 1 * (nrm p b h).fst, p.snd + 1 * (nrm p b h).snd)]) (σ' := σ ++ [Ob.list [V.int (nrm a p h).fst, V.int (nrm a p h).snd]] ++ [Ob.list [V.int (nrm p b h).fst, V.int (nrm p b h).snd]]) (fs_s (@mulL σ (p.fst - a.fst) (b.snd - p.snd) b1 b2) <| fs_s (@mulL σ (p.snd - a.snd) (b.fst - p.fst) b3 b4) <| fs_c (@cmp_eqi σ ((p.fst - a.fst) * (b.snd - p.snd) - (p.snd - a.snd) * (b.fst - p.fst)) 0) <| fs_f (p := (p.fst - a.fst) * (b.snd - p.snd) - (p.snd - a.snd) * (b.fst - p.fst) = 0) ht' <| fs_t (p := (p.fst - a.fst) * (b.snd - p.snd) - (p.snd - a.snd) * (b.fst - p.fst) > 0) (by omega) <| fs_s (@hn1 (n + 17)) <| fs_s (@hn2 (n + 17)) <| fs_v g3 <| fs_s (@mulL (σ ++ [Ob.list [V.int (nrm a p h).fst, V.int (nrm a p h).snd]] ++ [Ob.list [V.int (nrm p b h).fst, V.int (nrm p b h).snd]]) 1 ((nrm a p h).fst) (by omega) (by omega)) <| fs_v g4 <| fs_s (@mulL (σ ++ [Ob.list [V.int (nrm a p h).fst, V.int (nrm a p h).snd]] ++ [Ob.list [V.int (nrm p b h).fst, V.int (nrm p b h).snd]]) 1 ((nrm a p h).snd) (by omega) (by omega)) <| fs_s (@law_at_c r (σ ++ [Ob.list [V.int (nrm a p h).fst, V.int (nrm a p h).snd]] ++ [Ob.list [V.int (nrm p b h).fst, V.int (nrm p b h).snd]]) (n + 57) p (1 * (nrm a p h).fst) (1 * (nrm a p h).snd)) <| fs_v g5 <| fs_s (@mulL (σ ++ [Ob.list [V.int (nrm a p h).fst, V.int (nrm a p h).snd]] ++ [Ob.list [V.int (nrm p b h).fst, V.int (nrm p b h).snd]]) 1 ((nrm p b h).fst) (by omega) (by omega)) <| fs_v g6 <| fs_s (@mulL (σ ++ [Ob.list [V.int (nrm a p h).fst, V.int (nrm a p h).snd]] ++ [Ob.list [V.int (nrm p b h).fst, V.int (nrm p b h).snd]]) 1 ((nrm p b h).snd) (by omega) (by omega)) <| fs_s (@law_at_c r (σ ++ [Ob.list [V.int (nrm a p h).fst, V.int (nrm a p h).snd]] ++ [Ob.list [V.int (nrm p b h).fst, V.int (nrm p b h).snd]]) (n + 57) p (1 * (nrm p b h).fst) (1 * (nrm p b h).snd)) <| fs_nil) (by kernel_rfl)) (take_app (take_app tk0))
    · have e : crn a p b h = [p, (p.1 + -1 * (nrm a p h).1, p.2 + -1 * (nrm a p h).2), (p.1 + -1 * (nrm p b h).1, p.2 + -1 * (nrm p b h).2)] := by
        unfold crn; rw [if_neg ht, if_neg (show ¬ turn3 a p b > 0 by unfold turn3; omega)]
      rw [e]
      exact callD_pureT rfl free_vps (run_sx (v := V.tup [vp p, vp (p.fst + -1 * (nrm a p h).fst, p.snd + -1 * (nrm a p h).snd), vp (p.fst + -1 * (nrm p b h).fst, p.snd + -1 * (nrm p b h).snd)]) (σ' := σ ++ [Ob.list [V.int (nrm a p h).fst, V.int (nrm a p h).snd]] ++ [Ob.list [V.int (nrm p b h).fst, V.int (nrm p b h).snd]]) (fs_s (@mulL σ (p.fst - a.fst) (b.snd - p.snd) b1 b2) <| fs_s (@mulL σ (p.snd - a.snd) (b.fst - p.fst) b3 b4) <| fs_c (@cmp_eqi σ ((p.fst - a.fst) * (b.snd - p.snd) - (p.snd - a.snd) * (b.fst - p.fst)) 0) <| fs_f (p := (p.fst - a.fst) * (b.snd - p.snd) - (p.snd - a.snd) * (b.fst - p.fst) = 0) ht' <| fs_f (p := (p.fst - a.fst) * (b.snd - p.snd) - (p.snd - a.snd) * (b.fst - p.fst) > 0) (by omega) <| fs_s (@hn1 (n + 17)) <| fs_s (@hn2 (n + 17)) <| fs_v g3 <| fs_s (@mulL (σ ++ [Ob.list [V.int (nrm a p h).fst, V.int (nrm a p h).snd]] ++ [Ob.list [V.int (nrm p b h).fst, V.int (nrm p b h).snd]]) (-1) ((nrm a p h).fst) (by omega) (by omega)) <| fs_v g4 <| fs_s (@mulL (σ ++ [Ob.list [V.int (nrm a p h).fst, V.int (nrm a p h).snd]] ++ [Ob.list [V.int (nrm p b h).fst, V.int (nrm p b h).snd]]) (-1) ((nrm a p h).snd) (by omega) (by omega)) <| fs_s (@law_at_c r (σ ++ [Ob.list [V.int (nrm a p h).fst, V.int (nrm a p h).snd]] ++ [Ob.list [V.int (nrm p b h).fst, V.int (nrm p b h).snd]]) (n + 57) p (-1 * (nrm a p h).fst) (-1 * (nrm a p h).snd)) <| fs_v g5 <| fs_s (@mulL (σ ++ [Ob.list [V.int (nrm a p h).fst, V.int (nrm a p h).snd]] ++ [Ob.list [V.int (nrm p b h).fst, V.int (nrm p b h).snd]]) (-1) ((nrm p b h).fst) (by omega) (by omega)) <| fs_v g6 <| fs_s (@mulL (σ ++ [Ob.list [V.int (nrm a p h).fst, V.int (nrm a p h).snd]] ++ [Ob.list [V.int (nrm p b h).fst, V.int (nrm p b h).snd]]) (-1) ((nrm p b h).snd) (by omega) (by omega)) <| fs_s (@law_at_c r (σ ++ [Ob.list [V.int (nrm a p h).fst, V.int (nrm a p h).snd]] ++ [Ob.list [V.int (nrm p b h).fst, V.int (nrm p b h).snd]]) (n + 57) p (-1 * (nrm p b h).fst) (-1 * (nrm p b h).snd)) <| fs_nil) (by kernel_rfl)) (take_app (take_app tk0))

/-- a cap's piece -/
noncomputable def capP (q p : Pt) (h : Int) : List Pt := [(p.1 + (nrm q p h).1, p.2 + (nrm q p h).2), (p.1 + ((nrm q p h).1 - (nrm q p h).2), p.2 + ((nrm q p h).2 + (nrm q p h).1)), (p.1 + (-(nrm q p h).1 - (nrm q p h).2), p.2 + ((nrm q p h).1 - (nrm q p h).2)), (p.1 + -(nrm q p h).1, p.2 + -(nrm q p h).2)]
theorem s_bs : cmpS .Eq σ (.str "butt") (.str "square") = some false := by kernel_rfl
theorem s_ss : cmpS .Eq σ (.str "square") (.str "square") = some true := by kernel_rfl
noncomputable def capOf (kd : Bool) (q p : Pt) (h : Int) : List Pt := if kd then capP q p h else []
noncomputable def kdV (kd : Bool) : V := .str (if kd then "square" else "butt")
theorem law_cap_c {kd : Bool} {q p : Pt} {h : Int} (s : Sd q p) (hh : Hf h) : callD (lvl (tbl r) (n + 80)) d_l_cap.1 [kdV kd, vp q, vp p, .int h] σ = some (vps (capOf kd q p h), σ) := by
  induction kd using Bool.casesOn with
  | false =>
    refine callD_pure0 rfl free_vps ?_
    exact run_sx (fs_c (by kernel_rfl : cmpS CmpOp.Eq σ (kdV false) (V.str (Str.ofString "butt")) = some true) <| fs_b (r := true) rfl <| fs_nil) (by kernel_rfl)
  | true =>
    exact callD_pureT rfl free_vps (run_sx (v := V.tup [vp (p.fst + (nrm q p h).fst, p.snd + (nrm q p h).snd), vp (p.fst + ((nrm q p h).fst - (nrm q p h).snd), p.snd + ((nrm q p h).snd + (nrm q p h).fst)), vp (p.fst + (-(nrm q p h).fst - (nrm q p h).snd), p.snd + ((nrm q p h).fst - (nrm q p h).snd)), vp (p.fst + -(nrm q p h).fst, p.snd + -(nrm q p h).snd)]) (σ' := σ ++ [Ob.list [V.int (nrm q p h).fst, V.int (nrm q p h).snd]]) (fs_c (by kernel_rfl : cmpS CmpOp.Eq σ (kdV true) (V.str (Str.ofString "butt")) = some false) <| fs_b (r := false) rfl <| fs_s (@law_normal_c r σ (n + 18) q p h s hh) <| fs_o (@gl_at σ (Ob.list [V.int (nrm q p h).fst, V.int (nrm q p h).snd]) []) <| fs_s (@law_at_c r (σ ++ [Ob.list [V.int (nrm q p h).fst, V.int (nrm q p h).snd]]) (n + 57) p ((nrm q p h).fst) ((nrm q p h).snd)) <| fs_s (@law_at_c r (σ ++ [Ob.list [V.int (nrm q p h).fst, V.int (nrm q p h).snd]]) (n + 57) p ((nrm q p h).fst - (nrm q p h).snd) ((nrm q p h).snd + (nrm q p h).fst)) <| fs_s (@law_at_c r (σ ++ [Ob.list [V.int (nrm q p h).fst, V.int (nrm q p h).snd]]) (n + 57) p (-(nrm q p h).fst - (nrm q p h).snd) ((nrm q p h).fst - (nrm q p h).snd)) <| fs_s (@law_at_c r (σ ++ [Ob.list [V.int (nrm q p h).fst, V.int (nrm q p h).snd]]) (n + 57) p (-(nrm q p h).fst) (-(nrm q p h).snd)) <| fs_nil) (by kernel_rfl)) (take_app tk0)
theorem cap_spots_c {kd : Bool} {q p : Pt} {h st : Int} (s : Sd q p) (hh : Hf h) : callD (lvl (tbl r) (n + 80)) d_cap_spots.1 [kdV kd, vp q, vp p, .int h, .int st] σ = some (vps (capOf kd q p h), σ) := by
  induction kd using Bool.casesOn with
  | false =>
    refine callD_pure0 rfl free_vps ?_
    exact run_sx (fs_c (by kernel_rfl : cmpS CmpOp.Eq σ (kdV false) (V.str (Str.ofString "round")) = some false) <| fs_b (r := false) rfl <| fs_c (by kernel_rfl : cmpS CmpOp.NotEq σ (kdV false) (V.str (Str.ofString "square")) = some true) <| fs_b (r := true) rfl <| fs_nil) (by kernel_rfl)
  | true =>
    refine callD_pure0 rfl free_vps ?_
    refine Eq.trans (run_sx (v := V.tup [vp (p.fst + (nrm q p h).fst, p.snd + (nrm q p h).snd), vp (p.fst + (nrm q p h).fst + -(nrm q p h).snd, p.snd + (nrm q p h).snd + (nrm q p h).fst), vp (p.fst + -(nrm q p h).fst + -(nrm q p h).snd, p.snd + -(nrm q p h).snd + (nrm q p h).fst), vp (p.fst + -(nrm q p h).fst, p.snd + -(nrm q p h).snd)]) (σ' := σ) (fs_c (by kernel_rfl : cmpS CmpOp.Eq σ (kdV true) (V.str (Str.ofString "round")) = some false) <| fs_b (r := false) rfl <| fs_c (by kernel_rfl : cmpS CmpOp.NotEq σ (kdV true) (V.str (Str.ofString "square")) = some false) <| fs_b (r := false) rfl <| fs_s (@normal_c r σ (n + 18) q p h s hh) <| fs_s (@turned_c r σ (n + 68) (nrm q p h)) <| fs_s (@along_c r σ (n + 68) (nrm q p h)) <| fs_s (@moved_c r σ (n + 67) p (nrm q p h)) <| fs_s (@moved_c r σ (n + 67) p ((-(nrm q p h).fst, -(nrm q p h).snd))) <| fs_s (@moved_c r σ (n + 67) ((p.fst + (nrm q p h).fst, p.snd + (nrm q p h).snd)) ((-(nrm q p h).snd, (nrm q p h).fst))) <| fs_s (@moved_c r σ (n + 67) ((p.fst + -(nrm q p h).fst, p.snd + -(nrm q p h).snd)) ((-(nrm q p h).snd, (nrm q p h).fst))) <| fs_nil) (by kernel_rfl)) ?_
    have e : [(p.1 + (nrm q p h).1, p.2 + (nrm q p h).2), (p.1 + (nrm q p h).1 + -(nrm q p h).2, p.2 + (nrm q p h).2 + (nrm q p h).1), (p.1 + -(nrm q p h).1 + -(nrm q p h).2, p.2 + -(nrm q p h).2 + (nrm q p h).1), (p.1 + -(nrm q p h).1, p.2 + -(nrm q p h).2)] = capP q p h := by unfold capP; grind
    exact congrArg (fun l => some (vps l, σ)) e
noncomputable def sqr (p : Pt) (h : Int) : List Pt := [(p.1 - h, p.2 - h), (p.1 + h, p.2 - h), (p.1 + h, p.2 + h), (p.1 - h, p.2 + h)]
noncomputable def dotOf (kd : Bool) (p : Pt) (h : Int) : List Pt := if kd then sqr p h else []
theorem square_about_c {p : Pt} {h : Int} : callD (lvl (tbl r) (n + 30)) d_square_about.1 [vp p, .int h] σ = some (vps (sqr p h), σ) := by
  refine callD_pure0 rfl free_vps ?_
  exact run_sx (fs_nil) (by kernel_rfl)
theorem dot_spots_c {kd : Bool} {p : Pt} {h st : Int} : callD (lvl (tbl r) (n + 60)) d_dot_spots.1 [kdV kd, vp p, .int h, .int st] σ = some (vps (dotOf kd p h), σ) := by
  induction kd using Bool.casesOn with
  | false =>
    refine callD_pure0 rfl free_vps ?_
    exact run_sx (fs_c (by kernel_rfl : cmpS CmpOp.Eq σ (kdV false) (V.str (Str.ofString "round")) = some false) <| fs_b (r := false) rfl <| fs_c (by kernel_rfl : cmpS CmpOp.Eq σ (kdV false) (V.str (Str.ofString "square")) = some false) <| fs_b (r := false) rfl <| fs_nil) (by kernel_rfl)
  | true =>
    refine callD_pure0 rfl free_vps ?_
    exact run_sx (fs_c (by kernel_rfl : cmpS CmpOp.Eq σ (kdV true) (V.str (Str.ofString "round")) = some false) <| fs_b (r := false) rfl <| fs_c (by kernel_rfl : cmpS CmpOp.Eq σ (kdV true) (V.str (Str.ofString "square")) = some true) <| fs_b (r := true) rfl <| fs_s (@square_about_c r σ (n + 27) p h) <| fs_nil) (by kernel_rfl)
end Mine
end
section
open PySem PySem.W PyProof.Rows PySem.Calls
set_option linter.unusedVariables false
set_option linter.unusedSimpArgs false
set_option maxRecDepth 100000
namespace Mine
variable {r : Nat → Option (List Int)} {T : Tbl} {F : Funs} {L : Loc} {σ : Sto} {n : Nat}

theorem mi_corner : (tbl r).meth "Corner" "__init__" = some m_corner_init.1 := by kernel_rfl
theorem df_corner : (tbl r).dfl "Corner" = [] := by kernel_rfl
theorem gc_inst {k : Nat} {c : Str} {fs : List (Str × V)} {σ' : Sto} (hp : σ'.take σ.length = σ) (hk : σ.length ≤ k) (hg : σ'[k]? = some (.inst c fs)) (hf : freeL (fs.map (·.2)) = true) : gc σ (.obj k) σ' = (.obj σ.length, σ ++ [.inst c fs]) := by
  unfold gc
  rw [if_pos hp, if_neg (by simp [free])]
  dsimp only
  rw [hg]
  dsimp only
  rw [if_pos (by simp [hk, hf])]

noncomputable def strt (a p b : Pt) : Int := (p.1 - a.1) * (b.1 - p.1) + (p.2 - a.2) * (b.2 - p.2)
noncomputable def sg (t : Int) (p : Pt) : Pt := if t < 0 then (-p.1, -p.2) else p
noncomputable def cfl (a p b : Pt) (h : Int) : List (Str × V) := [("spot", vp p), ("first", vp (p.1 - a.1, p.2 - a.2)), ("second", vp (b.1 - p.1, b.2 - p.2)), ("turn", .int (turn3 a p b)), ("straight", .int (strt a p b)), ("one", vp (sg (turn3 a p b) (nrm a p h))), ("other", vp (sg (turn3 a p b) (nrm p b h)))]

theorem way_v {p q : Pt} : callD (lvl (tbl r) (n + 10)) d_way_of.1 [vp p, vp q] σ = some (vp (q.1 - p.1, q.2 - p.2), σ) := way_of_c

theorem mkC_of {d : DefRec} {c : Str} {vs all : List V} {σ' : Sto} {fs : List (Str × V)} (hm : T.meth c (Str.ofString "__init__") = some d) (ha : .obj σ.length :: vs ++ (T.dfl c).drop ((T.dfl c).length - (d.params.args.length - 1 - vs.length)) = all) (hl : all.length = d.params.args.length)
    (hr : ∃ L', exs F.ex (bindP (d.params.args.map (·.arg)) all) (σ ++ [.inst c []]) d.body = some (.next, L', σ')) (ht : σ'.take σ.length = σ) (hg : σ'[σ.length]? = some (.inst c fs)) (hf : freeL (fs.map (·.2)) = true) : mkC T F c vs σ = some (.obj σ.length, σ ++ [.inst c fs]) := by
  obtain ⟨L', hr⟩ := hr
  unfold mkC
  rw [hm]
  dsimp only
  rw [ha, if_pos hl, hr]
  dsimp only
  rw [gc_inst ht (Nat.le_refl _) hg hf]

theorem corner_c {a p b : Pt} {h : Int} (s1 : Sd a p) (s2 : Sd p b) (hh : Hf h) : mkC (tbl r) (lvl (tbl r) (n + 80)) "Corner" [vp a, vp p, vp b, .int h] σ = some (.obj σ.length, σ ++ [.inst "Corner" (cfl a p b h)]) := by
  have b1 : -1152921504606846976 < p.1 - a.1 := by have := s1.x1; omega
  have b2 : p.1 - a.1 < 1152921504606846976 := by have := s1.x2; omega
  have b3 : -1152921504606846976 < p.2 - a.2 := by have := s1.y1; omega
  have b4 : p.2 - a.2 < 1152921504606846976 := by have := s1.y2; omega
  have hn1 := fun j τ => normal_c (r := r) (n := j) (σ := τ) s1 hh
  have hn2 := fun j τ => normal_c (r := r) (n := j) (σ := τ) s2 hh
  have h0 : σ.length < (σ ++ [Ob.inst "Corner" []]).length := lt_new
  have key : ∃ σ', (∃ L', exs (lvl (tbl r) (n + 80)).ex (bindP (m_corner_init.1.params.args.map (·.arg)) [.obj σ.length, vp a, vp p, vp b, .int h]) (σ ++ [Ob.inst "Corner" []]) m_corner_init.1.body = some (.next, L', σ')) ∧ σ'.take σ.length = σ ∧ σ'[σ.length]? = some (.inst "Corner" (cfl a p b h)) := by
    have le := Nat.le_refl σ.length
    have tk : (σ ++ [Ob.inst "Corner" []]).take σ.length = σ := take_app tk0
    by_cases hp : (p.1 - a.1) * (b.2 - p.2) - (p.2 - a.2) * (b.1 - p.1) < 0
    · refine ⟨_, (sx_run (fl := Fl.next) (σ' := List.set (List.set (List.set (List.set (List.set (List.set (List.set (σ ++ [Ob.inst (Str.ofString "Corner") []]) (List.length σ) (Ob.inst (Str.ofString "Corner") (putF (Str.ofString "spot") (vp p) []))) (List.length σ) (Ob.inst (Str.ofString "Corner") (putF (Str.ofString "first") (vp (p.fst - a.fst, p.snd - a.snd)) (putF (Str.ofString "spot") (vp p) [])))) (List.length σ) (Ob.inst (Str.ofString "Corner") (putF (Str.ofString "second") (vp (b.fst - p.fst, b.snd - p.snd)) (putF (Str.ofString "first") (vp (p.fst - a.fst, p.snd - a.snd)) (putF (Str.ofString "spot") (vp p) []))))) (List.length σ) (Ob.inst (Str.ofString "Corner") (putF (Str.ofString "turn") (V.int ((p.fst - a.fst) * (b.snd - p.snd) - (p.snd - a.snd) * (b.fst - p.fst))) (putF (Str.ofString "second") (vp (b.fst - p.fst, b.snd - p.snd)) (putF (Str.ofString "first") (vp (p.fst - a.fst, p.snd - a.snd)) (putF (Str.ofString "spot") (vp p) [])))))) (List.length σ) (Ob.inst (Str.ofString "Corner") (putF (Str.ofString "straight") (V.int ((p.fst - a.fst) * (b.fst - p.fst) + (p.snd - a.snd) * (b.snd - p.snd))) (putF (Str.ofString "turn") (V.int ((p.fst - a.fst) * (b.snd - p.snd) - (p.snd - a.snd) * (b.fst - p.fst))) (putF (Str.ofString "second") (vp (b.fst - p.fst, b.snd - p.snd)) (putF (Str.ofString "first") (vp (p.fst - a.fst, p.snd - a.snd)) (putF (Str.ofString "spot") (vp p) []))))))) (List.length σ) (Ob.inst (Str.ofString "Corner") (putF (Str.ofString "one") (vp (-(nrm a p h).fst, -(nrm a p h).snd)) (putF (Str.ofString "straight") (V.int ((p.fst - a.fst) * (b.fst - p.fst) + (p.snd - a.snd) * (b.snd - p.snd))) (putF (Str.ofString "turn") (V.int ((p.fst - a.fst) * (b.snd - p.snd) - (p.snd - a.snd) * (b.fst - p.fst))) (putF (Str.ofString "second") (vp (b.fst - p.fst, b.snd - p.snd)) (putF (Str.ofString "first") (vp (p.fst - a.fst, p.snd - a.snd)) (putF (Str.ofString "spot") (vp p) [])))))))) (List.length σ) (Ob.inst (Str.ofString "Corner") (putF (Str.ofString "other") (vp (-(nrm p b h).fst, -(nrm p b h).snd)) (putF (Str.ofString "one") (vp (-(nrm a p h).fst, -(nrm a p h).snd)) (putF (Str.ofString "straight") (V.int ((p.fst - a.fst) * (b.fst - p.fst) + (p.snd - a.snd) * (b.snd - p.snd))) (putF (Str.ofString "turn") (V.int ((p.fst - a.fst) * (b.snd - p.snd) - (p.snd - a.snd) * (b.fst - p.fst))) (putF (Str.ofString "second") (vp (b.fst - p.fst, b.snd - p.snd)) (putF (Str.ofString "first") (vp (p.fst - a.fst, p.snd - a.snd)) (putF (Str.ofString "spot") (vp p) []))))))))) (fs_o (@gl_at σ (Ob.inst (Str.ofString "Corner") []) []) <| fs_s (@way_v r (List.set (σ ++ [Ob.inst (Str.ofString "Corner") []]) (List.length σ) (Ob.inst (Str.ofString "Corner") (putF (Str.ofString "spot") (vp p) []))) (n + 68) a p) <| fs_o (@set_at (σ ++ [Ob.inst (Str.ofString "Corner") []]) (List.length σ) (Ob.inst (Str.ofString "Corner") (putF (Str.ofString "spot") (vp p) [])) h0) <| fs_s (@way_v r (List.set (List.set (σ ++ [Ob.inst (Str.ofString "Corner") []]) (List.length σ) (Ob.inst (Str.ofString "Corner") (putF (Str.ofString "spot") (vp p) []))) (List.length σ) (Ob.inst (Str.ofString "Corner") (putF (Str.ofString "first") (vp (p.fst - a.fst, p.snd - a.snd)) (putF (Str.ofString "spot") (vp p) [])))) (n + 68) p b) <| fs_o (@set_at (List.set (σ ++ [Ob.inst (Str.ofString "Corner") []]) (List.length σ) (Ob.inst (Str.ofString "Corner") (putF (Str.ofString "spot") (vp p) []))) (List.length σ) (Ob.inst (Str.ofString "Corner") (putF (Str.ofString "first") (vp (p.fst - a.fst, p.snd - a.snd)) (putF (Str.ofString "spot") (vp p) []))) (by repeat' first | exact lt_new | refine' lt_set ?_ | refine' lt_app ?_ | assumption)) <| fs_o (@set_at (List.set (List.set (σ ++ [Ob.inst (Str.ofString "Corner") []]) (List.length σ) (Ob.inst (Str.ofString "Corner") (putF (Str.ofString "spot") (vp p) []))) (List.length σ) (Ob.inst (Str.ofString "Corner") (putF (Str.ofString "first") (vp (p.fst - a.fst, p.snd - a.snd)) (putF (Str.ofString "spot") (vp p) [])))) (List.length σ) (Ob.inst (Str.ofString "Corner") (putF (Str.ofString "second") (vp (b.fst - p.fst, b.snd - p.snd)) (putF (Str.ofString "first") (vp (p.fst - a.fst, p.snd - a.snd)) (putF (Str.ofString "spot") (vp p) [])))) (by repeat' first | exact lt_new | refine' lt_set ?_ | refine' lt_app ?_ | assumption)) <| fs_o (@set_at (List.set (List.set (σ ++ [Ob.inst (Str.ofString "Corner") []]) (List.length σ) (Ob.inst (Str.ofString "Corner") (putF (Str.ofString "spot") (vp p) []))) (List.length σ) (Ob.inst (Str.ofString "Corner") (putF (Str.ofString "first") (vp (p.fst - a.fst, p.snd - a.snd)) (putF (Str.ofString "spot") (vp p) [])))) (List.length σ) (Ob.inst (Str.ofString "Corner") (putF (Str.ofString "second") (vp (b.fst - p.fst, b.snd - p.snd)) (putF (Str.ofString "first") (vp (p.fst - a.fst, p.snd - a.snd)) (putF (Str.ofString "spot") (vp p) [])))) (by repeat' first | exact lt_new | refine' lt_set ?_ | refine' lt_app ?_ | assumption)) <| fs_s (@mulL (List.set (List.set (List.set (σ ++ [Ob.inst (Str.ofString "Corner") []]) (List.length σ) (Ob.inst (Str.ofString "Corner") (putF (Str.ofString "spot") (vp p) []))) (List.length σ) (Ob.inst (Str.ofString "Corner") (putF (Str.ofString "first") (vp (p.fst - a.fst, p.snd - a.snd)) (putF (Str.ofString "spot") (vp p) [])))) (List.length σ) (Ob.inst (Str.ofString "Corner") (putF (Str.ofString "second") (vp (b.fst - p.fst, b.snd - p.snd)) (putF (Str.ofString "first") (vp (p.fst - a.fst, p.snd - a.snd)) (putF (Str.ofString "spot") (vp p) []))))) (p.fst - a.fst) (b.snd - p.snd) b1 b2) <| fs_o (@set_at (List.set (List.set (σ ++ [Ob.inst (Str.ofString "Corner") []]) (List.length σ) (Ob.inst (Str.ofString "Corner") (putF (Str.ofString "spot") (vp p) []))) (List.length σ) (Ob.inst (Str.ofString "Corner") (putF (Str.ofString "first") (vp (p.fst - a.fst, p.snd - a.snd)) (putF (Str.ofString "spot") (vp p) [])))) (List.length σ) (Ob.inst (Str.ofString "Corner") (putF (Str.ofString "second") (vp (b.fst - p.fst, b.snd - p.snd)) (putF (Str.ofString "first") (vp (p.fst - a.fst, p.snd - a.snd)) (putF (Str.ofString "spot") (vp p) [])))) (by repeat' first | exact lt_new | refine' lt_set ?_ | refine' lt_app ?_ | assumption)) <| fs_o (@set_at (List.set (List.set (σ ++ [Ob.inst (Str.ofString "Corner") []]) (List.length σ) (Ob.inst (Str.ofString "Corner") (putF (Str.ofString "spot") (vp p) []))) (List.length σ) (Ob.inst (Str.ofString "Corner") (putF (Str.ofString "first") (vp (p.fst - a.fst, p.snd - a.snd)) (putF (Str.ofString "spot") (vp p) [])))) (List.length σ) (Ob.inst (Str.ofString "Corner") (putF (Str.ofString "second") (vp (b.fst - p.fst, b.snd - p.snd)) (putF (Str.ofString "first") (vp (p.fst - a.fst, p.snd - a.snd)) (putF (Str.ofString "spot") (vp p) [])))) (by repeat' first | exact lt_new | refine' lt_set ?_ | refine' lt_app ?_ | assumption)) <| fs_s (@mulL (List.set (List.set (List.set (σ ++ [Ob.inst (Str.ofString "Corner") []]) (List.length σ) (Ob.inst (Str.ofString "Corner") (putF (Str.ofString "spot") (vp p) []))) (List.length σ) (Ob.inst (Str.ofString "Corner") (putF (Str.ofString "first") (vp (p.fst - a.fst, p.snd - a.snd)) (putF (Str.ofString "spot") (vp p) [])))) (List.length σ) (Ob.inst (Str.ofString "Corner") (putF (Str.ofString "second") (vp (b.fst - p.fst, b.snd - p.snd)) (putF (Str.ofString "first") (vp (p.fst - a.fst, p.snd - a.snd)) (putF (Str.ofString "spot") (vp p) []))))) (p.snd - a.snd) (b.fst - p.fst) b3 b4) <| fs_o (@set_at (List.set (List.set (σ ++ [Ob.inst (Str.ofString "Corner") []]) (List.length σ) (Ob.inst (Str.ofString "Corner") (putF (Str.ofString "spot") (vp p) []))) (List.length σ) (Ob.inst (Str.ofString "Corner") (putF (Str.ofString "first") (vp (p.fst - a.fst, p.snd - a.snd)) (putF (Str.ofString "spot") (vp p) [])))) (List.length σ) (Ob.inst (Str.ofString "Corner") (putF (Str.ofString "second") (vp (b.fst - p.fst, b.snd - p.snd)) (putF (Str.ofString "first") (vp (p.fst - a.fst, p.snd - a.snd)) (putF (Str.ofString "spot") (vp p) [])))) (by repeat' first | exact lt_new | refine' lt_set ?_ | refine' lt_app ?_ | assumption)) <| fs_o (@set_at (List.set (List.set (List.set (σ ++ [Ob.inst (Str.ofString "Corner") []]) (List.length σ) (Ob.inst (Str.ofString "Corner") (putF (Str.ofString "spot") (vp p) []))) (List.length σ) (Ob.inst (Str.ofString "Corner") (putF (Str.ofString "first") (vp (p.fst - a.fst, p.snd - a.snd)) (putF (Str.ofString "spot") (vp p) [])))) (List.length σ) (Ob.inst (Str.ofString "Corner") (putF (Str.ofString "second") (vp (b.fst - p.fst, b.snd - p.snd)) (putF (Str.ofString "first") (vp (p.fst - a.fst, p.snd - a.snd)) (putF (Str.ofString "spot") (vp p) []))))) (List.length σ) (Ob.inst (Str.ofString "Corner") (putF (Str.ofString "turn") (V.int ((p.fst - a.fst) * (b.snd - p.snd) - (p.snd - a.snd) * (b.fst - p.fst))) (putF (Str.ofString "second") (vp (b.fst - p.fst, b.snd - p.snd)) (putF (Str.ofString "first") (vp (p.fst - a.fst, p.snd - a.snd)) (putF (Str.ofString "spot") (vp p) []))))) (by repeat' first | exact lt_new | refine' lt_set ?_ | refine' lt_app ?_ | assumption)) <| fs_o (@set_at (List.set (List.set (List.set (σ ++ [Ob.inst (Str.ofString "Corner") []]) (List.length σ) (Ob.inst (Str.ofString "Corner") (putF (Str.ofString "spot") (vp p) []))) (List.length σ) (Ob.inst (Str.ofString "Corner") (putF (Str.ofString "first") (vp (p.fst - a.fst, p.snd - a.snd)) (putF (Str.ofString "spot") (vp p) [])))) (List.length σ) (Ob.inst (Str.ofString "Corner") (putF (Str.ofString "second") (vp (b.fst - p.fst, b.snd - p.snd)) (putF (Str.ofString "first") (vp (p.fst - a.fst, p.snd - a.snd)) (putF (Str.ofString "spot") (vp p) []))))) (List.length σ) (Ob.inst (Str.ofString "Corner") (putF (Str.ofString "turn") (V.int ((p.fst - a.fst) * (b.snd - p.snd) - (p.snd - a.snd) * (b.fst - p.fst))) (putF (Str.ofString "second") (vp (b.fst - p.fst, b.snd - p.snd)) (putF (Str.ofString "first") (vp (p.fst - a.fst, p.snd - a.snd)) (putF (Str.ofString "spot") (vp p) []))))) (by repeat' first | exact lt_new | refine' lt_set ?_ | refine' lt_app ?_ | assumption)) <| fs_s (@mulL (List.set (List.set (List.set (List.set (σ ++ [Ob.inst (Str.ofString "Corner") []]) (List.length σ) (Ob.inst (Str.ofString "Corner") (putF (Str.ofString "spot") (vp p) []))) (List.length σ) (Ob.inst (Str.ofString "Corner") (putF (Str.ofString "first") (vp (p.fst - a.fst, p.snd - a.snd)) (putF (Str.ofString "spot") (vp p) [])))) (List.length σ) (Ob.inst (Str.ofString "Corner") (putF (Str.ofString "second") (vp (b.fst - p.fst, b.snd - p.snd)) (putF (Str.ofString "first") (vp (p.fst - a.fst, p.snd - a.snd)) (putF (Str.ofString "spot") (vp p) []))))) (List.length σ) (Ob.inst (Str.ofString "Corner") (putF (Str.ofString "turn") (V.int ((p.fst - a.fst) * (b.snd - p.snd) - (p.snd - a.snd) * (b.fst - p.fst))) (putF (Str.ofString "second") (vp (b.fst - p.fst, b.snd - p.snd)) (putF (Str.ofString "first") (vp (p.fst - a.fst, p.snd - a.snd)) (putF (Str.ofString "spot") (vp p) [])))))) (p.fst - a.fst) (b.fst - p.fst) b1 b2) <| fs_o (@set_at (List.set (List.set (List.set (σ ++ [Ob.inst (Str.ofString "Corner") []]) (List.length σ) (Ob.inst (Str.ofString "Corner") (putF (Str.ofString "spot") (vp p) []))) (List.length σ) (Ob.inst (Str.ofString "Corner") (putF (Str.ofString "first") (vp (p.fst - a.fst, p.snd - a.snd)) (putF (Str.ofString "spot") (vp p) [])))) (List.length σ) (Ob.inst (Str.ofString "Corner") (putF (Str.ofString "second") (vp (b.fst - p.fst, b.snd - p.snd)) (putF (Str.ofString "first") (vp (p.fst - a.fst, p.snd - a.snd)) (putF (Str.ofString "spot") (vp p) []))))) (List.length σ) (Ob.inst (Str.ofString "Corner") (putF (Str.ofString "turn") (V.int ((p.fst - a.fst) * (b.snd - p.snd) - (p.snd - a.snd) * (b.fst - p.fst))) (putF (Str.ofString "second") (vp (b.fst - p.fst, b.snd - p.snd)) (putF (Str.ofString "first") (vp (p.fst - a.fst, p.snd - a.snd)) (putF (Str.ofString "spot") (vp p) []))))) (by repeat' first | exact lt_new | refine' lt_set ?_ | refine' lt_app ?_ | assumption)) <| fs_o (@set_at (List.set (List.set (List.set (σ ++ [Ob.inst (Str.ofString "Corner") []]) (List.length σ) (Ob.inst (Str.ofString "Corner") (putF (Str.ofString "spot") (vp p) []))) (List.length σ) (Ob.inst (Str.ofString "Corner") (putF (Str.ofString "first") (vp (p.fst - a.fst, p.snd - a.snd)) (putF (Str.ofString "spot") (vp p) [])))) (List.length σ) (Ob.inst (Str.ofString "Corner") (putF (Str.ofString "second") (vp (b.fst - p.fst, b.snd - p.snd)) (putF (Str.ofString "first") (vp (p.fst - a.fst, p.snd - a.snd)) (putF (Str.ofString "spot") (vp p) []))))) (List.length σ) (Ob.inst (Str.ofString "Corner") (putF (Str.ofString "turn") (V.int ((p.fst - a.fst) * (b.snd - p.snd) - (p.snd - a.snd) * (b.fst - p.fst))) (putF (Str.ofString "second") (vp (b.fst - p.fst, b.snd - p.snd)) (putF (Str.ofString "first") (vp (p.fst - a.fst, p.snd - a.snd)) (putF (Str.ofString "spot") (vp p) []))))) (by repeat' first | exact lt_new | refine' lt_set ?_ | refine' lt_app ?_ | assumption)) <| fs_s (@mulL (List.set (List.set (List.set (List.set (σ ++ [Ob.inst (Str.ofString "Corner") []]) (List.length σ) (Ob.inst (Str.ofString "Corner") (putF (Str.ofString "spot") (vp p) []))) (List.length σ) (Ob.inst (Str.ofString "Corner") (putF (Str.ofString "first") (vp (p.fst - a.fst, p.snd - a.snd)) (putF (Str.ofString "spot") (vp p) [])))) (List.length σ) (Ob.inst (Str.ofString "Corner") (putF (Str.ofString "second") (vp (b.fst - p.fst, b.snd - p.snd)) (putF (Str.ofString "first") (vp (p.fst - a.fst, p.snd - a.snd)) (putF (Str.ofString "spot") (vp p) []))))) (List.length σ) (Ob.inst (Str.ofString "Corner") (putF (Str.ofString "turn") (V.int ((p.fst - a.fst) * (b.snd - p.snd) - (p.snd - a.snd) * (b.fst - p.fst))) (putF (Str.ofString "second") (vp (b.fst - p.fst, b.snd - p.snd)) (putF (Str.ofString "first") (vp (p.fst - a.fst, p.snd - a.snd)) (putF (Str.ofString "spot") (vp p) [])))))) (p.snd - a.snd) (b.snd - p.snd) b3 b4) <| fs_o (@set_at (List.set (List.set (List.set (σ ++ [Ob.inst (Str.ofString "Corner") []]) (List.length σ) (Ob.inst (Str.ofString "Corner") (putF (Str.ofString "spot") (vp p) []))) (List.length σ) (Ob.inst (Str.ofString "Corner") (putF (Str.ofString "first") (vp (p.fst - a.fst, p.snd - a.snd)) (putF (Str.ofString "spot") (vp p) [])))) (List.length σ) (Ob.inst (Str.ofString "Corner") (putF (Str.ofString "second") (vp (b.fst - p.fst, b.snd - p.snd)) (putF (Str.ofString "first") (vp (p.fst - a.fst, p.snd - a.snd)) (putF (Str.ofString "spot") (vp p) []))))) (List.length σ) (Ob.inst (Str.ofString "Corner") (putF (Str.ofString "turn") (V.int ((p.fst - a.fst) * (b.snd - p.snd) - (p.snd - a.snd) * (b.fst - p.fst))) (putF (Str.ofString "second") (vp (b.fst - p.fst, b.snd - p.snd)) (putF (Str.ofString "first") (vp (p.fst - a.fst, p.snd - a.snd)) (putF (Str.ofString "spot") (vp p) []))))) (by repeat' first | exact lt_new | refine' lt_set ?_ | refine' lt_app ?_ | assumption)) <| fs_s (@hn1 (n + 18) (List.set (List.set (List.set (List.set (List.set (σ ++ [Ob.inst (Str.ofString "Corner") []]) (List.length σ) (Ob.inst (Str.ofString "Corner") (putF (Str.ofString "spot") (vp p) []))) (List.length σ) (Ob.inst (Str.ofString "Corner") (putF (Str.ofString "first") (vp (p.fst - a.fst, p.snd - a.snd)) (putF (Str.ofString "spot") (vp p) [])))) (List.length σ) (Ob.inst (Str.ofString "Corner") (putF (Str.ofString "second") (vp (b.fst - p.fst, b.snd - p.snd)) (putF (Str.ofString "first") (vp (p.fst - a.fst, p.snd - a.snd)) (putF (Str.ofString "spot") (vp p) []))))) (List.length σ) (Ob.inst (Str.ofString "Corner") (putF (Str.ofString "turn") (V.int ((p.fst - a.fst) * (b.snd - p.snd) - (p.snd - a.snd) * (b.fst - p.fst))) (putF (Str.ofString "second") (vp (b.fst - p.fst, b.snd - p.snd)) (putF (Str.ofString "first") (vp (p.fst - a.fst, p.snd - a.snd)) (putF (Str.ofString "spot") (vp p) [])))))) (List.length σ) (Ob.inst (Str.ofString "Corner") (putF (Str.ofString "straight") (V.int ((p.fst - a.fst) * (b.fst - p.fst) + (p.snd - a.snd) * (b.snd - p.snd))) (putF (Str.ofString "turn") (V.int ((p.fst - a.fst) * (b.snd - p.snd) - (p.snd - a.snd) * (b.fst - p.fst))) (putF (Str.ofString "second") (vp (b.fst - p.fst, b.snd - p.snd)) (putF (Str.ofString "first") (vp (p.fst - a.fst, p.snd - a.snd)) (putF (Str.ofString "spot") (vp p) [])))))))) <| fs_s (@hn2 (n + 18) (List.set (List.set (List.set (List.set (List.set (σ ++ [Ob.inst (Str.ofString "Corner") []]) (List.length σ) (Ob.inst (Str.ofString "Corner") (putF (Str.ofString "spot") (vp p) []))) (List.length σ) (Ob.inst (Str.ofString "Corner") (putF (Str.ofString "first") (vp (p.fst - a.fst, p.snd - a.snd)) (putF (Str.ofString "spot") (vp p) [])))) (List.length σ) (Ob.inst (Str.ofString "Corner") (putF (Str.ofString "second") (vp (b.fst - p.fst, b.snd - p.snd)) (putF (Str.ofString "first") (vp (p.fst - a.fst, p.snd - a.snd)) (putF (Str.ofString "spot") (vp p) []))))) (List.length σ) (Ob.inst (Str.ofString "Corner") (putF (Str.ofString "turn") (V.int ((p.fst - a.fst) * (b.snd - p.snd) - (p.snd - a.snd) * (b.fst - p.fst))) (putF (Str.ofString "second") (vp (b.fst - p.fst, b.snd - p.snd)) (putF (Str.ofString "first") (vp (p.fst - a.fst, p.snd - a.snd)) (putF (Str.ofString "spot") (vp p) [])))))) (List.length σ) (Ob.inst (Str.ofString "Corner") (putF (Str.ofString "straight") (V.int ((p.fst - a.fst) * (b.fst - p.fst) + (p.snd - a.snd) * (b.snd - p.snd))) (putF (Str.ofString "turn") (V.int ((p.fst - a.fst) * (b.snd - p.snd) - (p.snd - a.snd) * (b.fst - p.fst))) (putF (Str.ofString "second") (vp (b.fst - p.fst, b.snd - p.snd)) (putF (Str.ofString "first") (vp (p.fst - a.fst, p.snd - a.snd)) (putF (Str.ofString "spot") (vp p) [])))))))) <| fs_o (@set_at (List.set (List.set (List.set (List.set (σ ++ [Ob.inst (Str.ofString "Corner") []]) (List.length σ) (Ob.inst (Str.ofString "Corner") (putF (Str.ofString "spot") (vp p) []))) (List.length σ) (Ob.inst (Str.ofString "Corner") (putF (Str.ofString "first") (vp (p.fst - a.fst, p.snd - a.snd)) (putF (Str.ofString "spot") (vp p) [])))) (List.length σ) (Ob.inst (Str.ofString "Corner") (putF (Str.ofString "second") (vp (b.fst - p.fst, b.snd - p.snd)) (putF (Str.ofString "first") (vp (p.fst - a.fst, p.snd - a.snd)) (putF (Str.ofString "spot") (vp p) []))))) (List.length σ) (Ob.inst (Str.ofString "Corner") (putF (Str.ofString "turn") (V.int ((p.fst - a.fst) * (b.snd - p.snd) - (p.snd - a.snd) * (b.fst - p.fst))) (putF (Str.ofString "second") (vp (b.fst - p.fst, b.snd - p.snd)) (putF (Str.ofString "first") (vp (p.fst - a.fst, p.snd - a.snd)) (putF (Str.ofString "spot") (vp p) [])))))) (List.length σ) (Ob.inst (Str.ofString "Corner") (putF (Str.ofString "straight") (V.int ((p.fst - a.fst) * (b.fst - p.fst) + (p.snd - a.snd) * (b.snd - p.snd))) (putF (Str.ofString "turn") (V.int ((p.fst - a.fst) * (b.snd - p.snd) - (p.snd - a.snd) * (b.fst - p.fst))) (putF (Str.ofString "second") (vp (b.fst - p.fst, b.snd - p.snd)) (putF (Str.ofString "first") (vp (p.fst - a.fst, p.snd - a.snd)) (putF (Str.ofString "spot") (vp p) [])))))) (by repeat' first | exact lt_new | refine' lt_set ?_ | refine' lt_app ?_ | assumption)) <| fs_t (p := (p.fst - a.fst) * (b.snd - p.snd) - (p.snd - a.snd) * (b.fst - p.fst) < 0) hp <| fs_s (@turned_c r (List.set (List.set (List.set (List.set (List.set (σ ++ [Ob.inst (Str.ofString "Corner") []]) (List.length σ) (Ob.inst (Str.ofString "Corner") (putF (Str.ofString "spot") (vp p) []))) (List.length σ) (Ob.inst (Str.ofString "Corner") (putF (Str.ofString "first") (vp (p.fst - a.fst, p.snd - a.snd)) (putF (Str.ofString "spot") (vp p) [])))) (List.length σ) (Ob.inst (Str.ofString "Corner") (putF (Str.ofString "second") (vp (b.fst - p.fst, b.snd - p.snd)) (putF (Str.ofString "first") (vp (p.fst - a.fst, p.snd - a.snd)) (putF (Str.ofString "spot") (vp p) []))))) (List.length σ) (Ob.inst (Str.ofString "Corner") (putF (Str.ofString "turn") (V.int ((p.fst - a.fst) * (b.snd - p.snd) - (p.snd - a.snd) * (b.fst - p.fst))) (putF (Str.ofString "second") (vp (b.fst - p.fst, b.snd - p.snd)) (putF (Str.ofString "first") (vp (p.fst - a.fst, p.snd - a.snd)) (putF (Str.ofString "spot") (vp p) [])))))) (List.length σ) (Ob.inst (Str.ofString "Corner") (putF (Str.ofString "straight") (V.int ((p.fst - a.fst) * (b.fst - p.fst) + (p.snd - a.snd) * (b.snd - p.snd))) (putF (Str.ofString "turn") (V.int ((p.fst - a.fst) * (b.snd - p.snd) - (p.snd - a.snd) * (b.fst - p.fst))) (putF (Str.ofString "second") (vp (b.fst - p.fst, b.snd - p.snd)) (putF (Str.ofString "first") (vp (p.fst - a.fst, p.snd - a.snd)) (putF (Str.ofString "spot") (vp p) []))))))) (n + 66) (nrm a p h)) <| fs_s (@turned_c r (List.set (List.set (List.set (List.set (List.set (σ ++ [Ob.inst (Str.ofString "Corner") []]) (List.length σ) (Ob.inst (Str.ofString "Corner") (putF (Str.ofString "spot") (vp p) []))) (List.length σ) (Ob.inst (Str.ofString "Corner") (putF (Str.ofString "first") (vp (p.fst - a.fst, p.snd - a.snd)) (putF (Str.ofString "spot") (vp p) [])))) (List.length σ) (Ob.inst (Str.ofString "Corner") (putF (Str.ofString "second") (vp (b.fst - p.fst, b.snd - p.snd)) (putF (Str.ofString "first") (vp (p.fst - a.fst, p.snd - a.snd)) (putF (Str.ofString "spot") (vp p) []))))) (List.length σ) (Ob.inst (Str.ofString "Corner") (putF (Str.ofString "turn") (V.int ((p.fst - a.fst) * (b.snd - p.snd) - (p.snd - a.snd) * (b.fst - p.fst))) (putF (Str.ofString "second") (vp (b.fst - p.fst, b.snd - p.snd)) (putF (Str.ofString "first") (vp (p.fst - a.fst, p.snd - a.snd)) (putF (Str.ofString "spot") (vp p) [])))))) (List.length σ) (Ob.inst (Str.ofString "Corner") (putF (Str.ofString "straight") (V.int ((p.fst - a.fst) * (b.fst - p.fst) + (p.snd - a.snd) * (b.snd - p.snd))) (putF (Str.ofString "turn") (V.int ((p.fst - a.fst) * (b.snd - p.snd) - (p.snd - a.snd) * (b.fst - p.fst))) (putF (Str.ofString "second") (vp (b.fst - p.fst, b.snd - p.snd)) (putF (Str.ofString "first") (vp (p.fst - a.fst, p.snd - a.snd)) (putF (Str.ofString "spot") (vp p) []))))))) (n + 66) (nrm p b h)) <| fs_o (@set_at (List.set (List.set (List.set (List.set (σ ++ [Ob.inst (Str.ofString "Corner") []]) (List.length σ) (Ob.inst (Str.ofString "Corner") (putF (Str.ofString "spot") (vp p) []))) (List.length σ) (Ob.inst (Str.ofString "Corner") (putF (Str.ofString "first") (vp (p.fst - a.fst, p.snd - a.snd)) (putF (Str.ofString "spot") (vp p) [])))) (List.length σ) (Ob.inst (Str.ofString "Corner") (putF (Str.ofString "second") (vp (b.fst - p.fst, b.snd - p.snd)) (putF (Str.ofString "first") (vp (p.fst - a.fst, p.snd - a.snd)) (putF (Str.ofString "spot") (vp p) []))))) (List.length σ) (Ob.inst (Str.ofString "Corner") (putF (Str.ofString "turn") (V.int ((p.fst - a.fst) * (b.snd - p.snd) - (p.snd - a.snd) * (b.fst - p.fst))) (putF (Str.ofString "second") (vp (b.fst - p.fst, b.snd - p.snd)) (putF (Str.ofString "first") (vp (p.fst - a.fst, p.snd - a.snd)) (putF (Str.ofString "spot") (vp p) [])))))) (List.length σ) (Ob.inst (Str.ofString "Corner") (putF (Str.ofString "straight") (V.int ((p.fst - a.fst) * (b.fst - p.fst) + (p.snd - a.snd) * (b.snd - p.snd))) (putF (Str.ofString "turn") (V.int ((p.fst - a.fst) * (b.snd - p.snd) - (p.snd - a.snd) * (b.fst - p.fst))) (putF (Str.ofString "second") (vp (b.fst - p.fst, b.snd - p.snd)) (putF (Str.ofString "first") (vp (p.fst - a.fst, p.snd - a.snd)) (putF (Str.ofString "spot") (vp p) [])))))) (by repeat' first | exact lt_new | refine' lt_set ?_ | refine' lt_app ?_ | assumption)) <| fs_o (@set_at (List.set (List.set (List.set (List.set (List.set (σ ++ [Ob.inst (Str.ofString "Corner") []]) (List.length σ) (Ob.inst (Str.ofString "Corner") (putF (Str.ofString "spot") (vp p) []))) (List.length σ) (Ob.inst (Str.ofString "Corner") (putF (Str.ofString "first") (vp (p.fst - a.fst, p.snd - a.snd)) (putF (Str.ofString "spot") (vp p) [])))) (List.length σ) (Ob.inst (Str.ofString "Corner") (putF (Str.ofString "second") (vp (b.fst - p.fst, b.snd - p.snd)) (putF (Str.ofString "first") (vp (p.fst - a.fst, p.snd - a.snd)) (putF (Str.ofString "spot") (vp p) []))))) (List.length σ) (Ob.inst (Str.ofString "Corner") (putF (Str.ofString "turn") (V.int ((p.fst - a.fst) * (b.snd - p.snd) - (p.snd - a.snd) * (b.fst - p.fst))) (putF (Str.ofString "second") (vp (b.fst - p.fst, b.snd - p.snd)) (putF (Str.ofString "first") (vp (p.fst - a.fst, p.snd - a.snd)) (putF (Str.ofString "spot") (vp p) [])))))) (List.length σ) (Ob.inst (Str.ofString "Corner") (putF (Str.ofString "straight") (V.int ((p.fst - a.fst) * (b.fst - p.fst) + (p.snd - a.snd) * (b.snd - p.snd))) (putF (Str.ofString "turn") (V.int ((p.fst - a.fst) * (b.snd - p.snd) - (p.snd - a.snd) * (b.fst - p.fst))) (putF (Str.ofString "second") (vp (b.fst - p.fst, b.snd - p.snd)) (putF (Str.ofString "first") (vp (p.fst - a.fst, p.snd - a.snd)) (putF (Str.ofString "spot") (vp p) []))))))) (List.length σ) (Ob.inst (Str.ofString "Corner") (putF (Str.ofString "one") (vp (-(nrm a p h).fst, -(nrm a p h).snd)) (putF (Str.ofString "straight") (V.int ((p.fst - a.fst) * (b.fst - p.fst) + (p.snd - a.snd) * (b.snd - p.snd))) (putF (Str.ofString "turn") (V.int ((p.fst - a.fst) * (b.snd - p.snd) - (p.snd - a.snd) * (b.fst - p.fst))) (putF (Str.ofString "second") (vp (b.fst - p.fst, b.snd - p.snd)) (putF (Str.ofString "first") (vp (p.fst - a.fst, p.snd - a.snd)) (putF (Str.ofString "spot") (vp p) []))))))) (by repeat' first | exact lt_new | refine' lt_set ?_ | refine' lt_app ?_ | assumption)) <| fs_nil) (by kernel_rfl)), take_set (take_set (take_set (take_set (take_set (take_set (take_set tk le) le) le) le) le) le) le, ?_⟩
      rw [set_at (lt_set (lt_set (lt_set (lt_set (lt_set (lt_set h0))))))]
      have e : cfl a p b h = ([("spot", vp p), ("first", vp (p.1 - a.1, p.2 - a.2)), ("second", vp (b.1 - p.1, b.2 - p.2)), ("turn", .int (turn3 a p b)), ("straight", .int (strt a p b)), ("one", vp (-(nrm a p h).1, -(nrm a p h).2)), ("other", vp (-(nrm p b h).1, -(nrm p b h).2))] : List (Str × V)) := by
        unfold cfl sg; rw [if_pos (show turn3 a p b < 0 from hp), if_pos (show turn3 a p b < 0 from hp)]
      rw [e]; kernel_rfl
    · refine ⟨_, (sx_run (fl := Fl.next) (σ' := List.set (List.set (List.set (List.set (List.set (List.set (List.set (σ ++ [Ob.inst (Str.ofString "Corner") []]) (List.length σ) (Ob.inst (Str.ofString "Corner") (putF (Str.ofString "spot") (vp p) []))) (List.length σ) (Ob.inst (Str.ofString "Corner") (putF (Str.ofString "first") (vp (p.fst - a.fst, p.snd - a.snd)) (putF (Str.ofString "spot") (vp p) [])))) (List.length σ) (Ob.inst (Str.ofString "Corner") (putF (Str.ofString "second") (vp (b.fst - p.fst, b.snd - p.snd)) (putF (Str.ofString "first") (vp (p.fst - a.fst, p.snd - a.snd)) (putF (Str.ofString "spot") (vp p) []))))) (List.length σ) (Ob.inst (Str.ofString "Corner") (putF (Str.ofString "turn") (V.int ((p.fst - a.fst) * (b.snd - p.snd) - (p.snd - a.snd) * (b.fst - p.fst))) (putF (Str.ofString "second") (vp (b.fst - p.fst, b.snd - p.snd)) (putF (Str.ofString "first") (vp (p.fst - a.fst, p.snd - a.snd)) (putF (Str.ofString "spot") (vp p) [])))))) (List.length σ) (Ob.inst (Str.ofString "Corner") (putF (Str.ofString "straight") (V.int ((p.fst - a.fst) * (b.fst - p.fst) + (p.snd - a.snd) * (b.snd - p.snd))) (putF (Str.ofString "turn") (V.int ((p.fst - a.fst) * (b.snd - p.snd) - (p.snd - a.snd) * (b.fst - p.fst))) (putF (Str.ofString "second") (vp (b.fst - p.fst, b.snd - p.snd)) (putF (Str.ofString "first") (vp (p.fst - a.fst, p.snd - a.snd)) (putF (Str.ofString "spot") (vp p) []))))))) (List.length σ) (Ob.inst (Str.ofString "Corner") (putF (Str.ofString "one") (vp (nrm a p h)) (putF (Str.ofString "straight") (V.int ((p.fst - a.fst) * (b.fst - p.fst) + (p.snd - a.snd) * (b.snd - p.snd))) (putF (Str.ofString "turn") (V.int ((p.fst - a.fst) * (b.snd - p.snd) - (p.snd - a.snd) * (b.fst - p.fst))) (putF (Str.ofString "second") (vp (b.fst - p.fst, b.snd - p.snd)) (putF (Str.ofString "first") (vp (p.fst - a.fst, p.snd - a.snd)) (putF (Str.ofString "spot") (vp p) [])))))))) (List.length σ) (Ob.inst (Str.ofString "Corner") (putF (Str.ofString "other") (vp (nrm p b h)) (putF (Str.ofString "one") (vp (nrm a p h)) (putF (Str.ofString "straight") (V.int ((p.fst - a.fst) * (b.fst - p.fst) + (p.snd - a.snd) * (b.snd - p.snd))) (putF (Str.ofString "turn") (V.int ((p.fst - a.fst) * (b.snd - p.snd) - (p.snd - a.snd) * (b.fst - p.fst))) (putF (Str.ofString "second") (vp (b.fst - p.fst, b.snd - p.snd)) (putF (Str.ofString "first") (vp (p.fst - a.fst, p.snd - a.snd)) (putF (Str.ofString "spot") (vp p) []))))))))) (fs_o (@gl_at σ (Ob.inst (Str.ofString "Corner") []) []) <| fs_s (@way_v r (List.set (σ ++ [Ob.inst (Str.ofString "Corner") []]) (List.length σ) (Ob.inst (Str.ofString "Corner") (putF (Str.ofString "spot") (vp p) []))) (n + 68) a p) <| fs_o (@set_at (σ ++ [Ob.inst (Str.ofString "Corner") []]) (List.length σ) (Ob.inst (Str.ofString "Corner") (putF (Str.ofString "spot") (vp p) [])) h0) <| fs_s (@way_v r (List.set (List.set (σ ++ [Ob.inst (Str.ofString "Corner") []]) (List.length σ) (Ob.inst (Str.ofString "Corner") (putF (Str.ofString "spot") (vp p) []))) (List.length σ) (Ob.inst (Str.ofString "Corner") (putF (Str.ofString "first") (vp (p.fst - a.fst, p.snd - a.snd)) (putF (Str.ofString "spot") (vp p) [])))) (n + 68) p b) <| fs_o (@set_at (List.set (σ ++ [Ob.inst (Str.ofString "Corner") []]) (List.length σ) (Ob.inst (Str.ofString "Corner") (putF (Str.ofString "spot") (vp p) []))) (List.length σ) (Ob.inst (Str.ofString "Corner") (putF (Str.ofString "first") (vp (p.fst - a.fst, p.snd - a.snd)) (putF (Str.ofString "spot") (vp p) []))) (by repeat' first | exact lt_new | refine' lt_set ?_ | refine' lt_app ?_ | assumption)) <| fs_o (@set_at (List.set (List.set (σ ++ [Ob.inst (Str.ofString "Corner") []]) (List.length σ) (Ob.inst (Str.ofString "Corner") (putF (Str.ofString "spot") (vp p) []))) (List.length σ) (Ob.inst (Str.ofString "Corner") (putF (Str.ofString "first") (vp (p.fst - a.fst, p.snd - a.snd)) (putF (Str.ofString "spot") (vp p) [])))) (List.length σ) (Ob.inst (Str.ofString "Corner") (putF (Str.ofString "second") (vp (b.fst - p.fst, b.snd - p.snd)) (putF (Str.ofString "first") (vp (p.fst - a.fst, p.snd - a.snd)) (putF (Str.ofString "spot") (vp p) [])))) (by repeat' first | exact lt_new | refine' lt_set ?_ | refine' lt_app ?_ | assumption)) <| fs_o (@set_at (List.set (List.set (σ ++ [Ob.inst (Str.ofString "Corner") []]) (List.length σ) (Ob.inst (Str.ofString "Corner") (putF (Str.ofString "spot") (vp p) []))) (List.length σ) (Ob.inst (Str.ofString "Corner") (putF (Str.ofString "first") (vp (p.fst - a.fst, p.snd - a.snd)) (putF (Str.ofString "spot") (vp p) [])))) (List.length σ) (Ob.inst (Str.ofString "Corner") (putF (Str.ofString "second") (vp (b.fst - p.fst, b.snd - p.snd)) (putF (Str.ofString "first") (vp (p.fst - a.fst, p.snd - a.snd)) (putF (Str.ofString "spot") (vp p) [])))) (by repeat' first | exact lt_new | refine' lt_set ?_ | refine' lt_app ?_ | assumption)) <| fs_s (@mulL (List.set (List.set (List.set (σ ++ [Ob.inst (Str.ofString "Corner") []]) (List.length σ) (Ob.inst (Str.ofString "Corner") (putF (Str.ofString "spot") (vp p) []))) (List.length σ) (Ob.inst (Str.ofString "Corner") (putF (Str.ofString "first") (vp (p.fst - a.fst, p.snd - a.snd)) (putF (Str.ofString "spot") (vp p) [])))) (List.length σ) (Ob.inst (Str.ofString "Corner") (putF (Str.ofString "second") (vp (b.fst - p.fst, b.snd - p.snd)) (putF (Str.ofString "first") (vp (p.fst - a.fst, p.snd - a.snd)) (putF (Str.ofString "spot") (vp p) []))))) (p.fst - a.fst) (b.snd - p.snd) b1 b2) <| fs_o (@set_at (List.set (List.set (σ ++ [Ob.inst (Str.ofString "Corner") []]) (List.length σ) (Ob.inst (Str.ofString "Corner") (putF (Str.ofString "spot") (vp p) []))) (List.length σ) (Ob.inst (Str.ofString "Corner") (putF (Str.ofString "first") (vp (p.fst - a.fst, p.snd - a.snd)) (putF (Str.ofString "spot") (vp p) [])))) (List.length σ) (Ob.inst (Str.ofString "Corner") (putF (Str.ofString "second") (vp (b.fst - p.fst, b.snd - p.snd)) (putF (Str.ofString "first") (vp (p.fst - a.fst, p.snd - a.snd)) (putF (Str.ofString "spot") (vp p) [])))) (by repeat' first | exact lt_new | refine' lt_set ?_ | refine' lt_app ?_ | assumption)) <| fs_o (@set_at (List.set (List.set (σ ++ [Ob.inst (Str.ofString "Corner") []]) (List.length σ) (Ob.inst (Str.ofString "Corner") (putF (Str.ofString "spot") (vp p) []))) (List.length σ) (Ob.inst (Str.ofString "Corner") (putF (Str.ofString "first") (vp (p.fst - a.fst, p.snd - a.snd)) (putF (Str.ofString "spot") (vp p) [])))) (List.length σ) (Ob.inst (Str.ofString "Corner") (putF (Str.ofString "second") (vp (b.fst - p.fst, b.snd - p.snd)) (putF (Str.ofString "first") (vp (p.fst - a.fst, p.snd - a.snd)) (putF (Str.ofString "spot") (vp p) [])))) (by repeat' first | exact lt_new | refine' lt_set ?_ | refine' lt_app ?_ | assumption)) <| fs_s (@mulL (List.set (List.set (List.set (σ ++ [Ob.inst (Str.ofString "Corner") []]) (List.length σ) (Ob.inst (Str.ofString "Corner") (putF (Str.ofString "spot") (vp p) []))) (List.length σ) (Ob.inst (Str.ofString "Corner") (putF (Str.ofString "first") (vp (p.fst - a.fst, p.snd - a.snd)) (putF (Str.ofString "spot") (vp p) [])))) (List.length σ) (Ob.inst (Str.ofString "Corner") (putF (Str.ofString "second") (vp (b.fst - p.fst, b.snd - p.snd)) (putF (Str.ofString "first") (vp (p.fst - a.fst, p.snd - a.snd)) (putF (Str.ofString "spot") (vp p) []))))) (p.snd - a.snd) (b.fst - p.fst) b3 b4) <| fs_o (@set_at (List.set (List.set (σ ++ [Ob.inst (Str.ofString "Corner") []]) (List.length σ) (Ob.inst (Str.ofString "Corner") (putF (Str.ofString "spot") (vp p) []))) (List.length σ) (Ob.inst (Str.ofString "Corner") (putF (Str.ofString "first") (vp (p.fst - a.fst, p.snd - a.snd)) (putF (Str.ofString "spot") (vp p) [])))) (List.length σ) (Ob.inst (Str.ofString "Corner") (putF (Str.ofString "second") (vp (b.fst - p.fst, b.snd - p.snd)) (putF (Str.ofString "first") (vp (p.fst - a.fst, p.snd - a.snd)) (putF (Str.ofString "spot") (vp p) [])))) (by repeat' first | exact lt_new | refine' lt_set ?_ | refine' lt_app ?_ | assumption)) <| fs_o (@set_at (List.set (List.set (List.set (σ ++ [Ob.inst (Str.ofString "Corner") []]) (List.length σ) (Ob.inst (Str.ofString "Corner") (putF (Str.ofString "spot") (vp p) []))) (List.length σ) (Ob.inst (Str.ofString "Corner") (putF (Str.ofString "first") (vp (p.fst - a.fst, p.snd - a.snd)) (putF (Str.ofString "spot") (vp p) [])))) (List.length σ) (Ob.inst (Str.ofString "Corner") (putF (Str.ofString "second") (vp (b.fst - p.fst, b.snd - p.snd)) (putF (Str.ofString "first") (vp (p.fst - a.fst, p.snd - a.snd)) (putF (Str.ofString "spot") (vp p) []))))) (List.length σ) (Ob.inst (Str.ofString "Corner") (putF (Str.ofString "turn") (V.int ((p.fst - a.fst) * (b.snd - p.snd) - (p.snd - a.snd) * (b.fst - p.fst))) (putF (Str.ofString "second") (vp (b.fst - p.fst, b.snd - p.snd)) (putF (Str.ofString "first") (vp (p.fst - a.fst, p.snd - a.snd)) (putF (Str.ofString "spot") (vp p) []))))) (by repeat' first | exact lt_new | refine' lt_set ?_ | refine' lt_app ?_ | assumption)) <| fs_o (@set_at (List.set (List.set (List.set (σ ++ [Ob.inst (Str.ofString "Corner") []]) (List.length σ) (Ob.inst (Str.ofString "Corner") (putF (Str.ofString "spot") (vp p) []))) (List.length σ) (Ob.inst (Str.ofString "Corner") (putF (Str.ofString "first") (vp (p.fst - a.fst, p.snd - a.snd)) (putF (Str.ofString "spot") (vp p) [])))) (List.length σ) (Ob.inst (Str.ofString "Corner") (putF (Str.ofString "second") (vp (b.fst - p.fst, b.snd - p.snd)) (putF (Str.ofString "first") (vp (p.fst - a.fst, p.snd - a.snd)) (putF (Str.ofString "spot") (vp p) []))))) (List.length σ) (Ob.inst (Str.ofString "Corner") (putF (Str.ofString "turn") (V.int ((p.fst - a.fst) * (b.snd - p.snd) - (p.snd - a.snd) * (b.fst - p.fst))) (putF (Str.ofString "second") (vp (b.fst - p.fst, b.snd - p.snd)) (putF (Str.ofString "first") (vp (p.fst - a.fst, p.snd - a.snd)) (putF (Str.ofString "spot") (vp p) []))))) (by repeat' first | exact lt_new | refine' lt_set ?_ | refine' lt_app ?_ | assumption)) <| fs_s (@mulL (List.set (List.set (List.set (List.set (σ ++ [Ob.inst (Str.ofString "Corner") []]) (List.length σ) (Ob.inst (Str.ofString "Corner") (putF (Str.ofString "spot") (vp p) []))) (List.length σ) (Ob.inst (Str.ofString "Corner") (putF (Str.ofString "first") (vp (p.fst - a.fst, p.snd - a.snd)) (putF (Str.ofString "spot") (vp p) [])))) (List.length σ) (Ob.inst (Str.ofString "Corner") (putF (Str.ofString "second") (vp (b.fst - p.fst, b.snd - p.snd)) (putF (Str.ofString "first") (vp (p.fst - a.fst, p.snd - a.snd)) (putF (Str.ofString "spot") (vp p) []))))) (List.length σ) (Ob.inst (Str.ofString "Corner") (putF (Str.ofString "turn") (V.int ((p.fst - a.fst) * (b.snd - p.snd) - (p.snd - a.snd) * (b.fst - p.fst))) (putF (Str.ofString "second") (vp (b.fst - p.fst, b.snd - p.snd)) (putF (Str.ofString "first") (vp (p.fst - a.fst, p.snd - a.snd)) (putF (Str.ofString "spot") (vp p) [])))))) (p.fst - a.fst) (b.fst - p.fst) b1 b2) <| fs_o (@set_at (List.set (List.set (List.set (σ ++ [Ob.inst (Str.ofString "Corner") []]) (List.length σ) (Ob.inst (Str.ofString "Corner") (putF (Str.ofString "spot") (vp p) []))) (List.length σ) (Ob.inst (Str.ofString "Corner") (putF (Str.ofString "first") (vp (p.fst - a.fst, p.snd - a.snd)) (putF (Str.ofString "spot") (vp p) [])))) (List.length σ) (Ob.inst (Str.ofString "Corner") (putF (Str.ofString "second") (vp (b.fst - p.fst, b.snd - p.snd)) (putF (Str.ofString "first") (vp (p.fst - a.fst, p.snd - a.snd)) (putF (Str.ofString "spot") (vp p) []))))) (List.length σ) (Ob.inst (Str.ofString "Corner") (putF (Str.ofString "turn") (V.int ((p.fst - a.fst) * (b.snd - p.snd) - (p.snd - a.snd) * (b.fst - p.fst))) (putF (Str.ofString "second") (vp (b.fst - p.fst, b.snd - p.snd)) (putF (Str.ofString "first") (vp (p.fst - a.fst, p.snd - a.snd)) (putF (Str.ofString "spot") (vp p) []))))) (by repeat' first | exact lt_new | refine' lt_set ?_ | refine' lt_app ?_ | assumption)) <| fs_o (@set_at (List.set (List.set (List.set (σ ++ [Ob.inst (Str.ofString "Corner") []]) (List.length σ) (Ob.inst (Str.ofString "Corner") (putF (Str.ofString "spot") (vp p) []))) (List.length σ) (Ob.inst (Str.ofString "Corner") (putF (Str.ofString "first") (vp (p.fst - a.fst, p.snd - a.snd)) (putF (Str.ofString "spot") (vp p) [])))) (List.length σ) (Ob.inst (Str.ofString "Corner") (putF (Str.ofString "second") (vp (b.fst - p.fst, b.snd - p.snd)) (putF (Str.ofString "first") (vp (p.fst - a.fst, p.snd - a.snd)) (putF (Str.ofString "spot") (vp p) []))))) (List.length σ) (Ob.inst (Str.ofString "Corner") (putF (Str.ofString "turn") (V.int ((p.fst - a.fst) * (b.snd - p.snd) - (p.snd - a.snd) * (b.fst - p.fst))) (putF (Str.ofString "second") (vp (b.fst - p.fst, b.snd - p.snd)) (putF (Str.ofString "first") (vp (p.fst - a.fst, p.snd - a.snd)) (putF (Str.ofString "spot") (vp p) []))))) (by repeat' first | exact lt_new | refine' lt_set ?_ | refine' lt_app ?_ | assumption)) <| fs_s (@mulL (List.set (List.set (List.set (List.set (σ ++ [Ob.inst (Str.ofString "Corner") []]) (List.length σ) (Ob.inst (Str.ofString "Corner") (putF (Str.ofString "spot") (vp p) []))) (List.length σ) (Ob.inst (Str.ofString "Corner") (putF (Str.ofString "first") (vp (p.fst - a.fst, p.snd - a.snd)) (putF (Str.ofString "spot") (vp p) [])))) (List.length σ) (Ob.inst (Str.ofString "Corner") (putF (Str.ofString "second") (vp (b.fst - p.fst, b.snd - p.snd)) (putF (Str.ofString "first") (vp (p.fst - a.fst, p.snd - a.snd)) (putF (Str.ofString "spot") (vp p) []))))) (List.length σ) (Ob.inst (Str.ofString "Corner") (putF (Str.ofString "turn") (V.int ((p.fst - a.fst) * (b.snd - p.snd) - (p.snd - a.snd) * (b.fst - p.fst))) (putF (Str.ofString "second") (vp (b.fst - p.fst, b.snd - p.snd)) (putF (Str.ofString "first") (vp (p.fst - a.fst, p.snd - a.snd)) (putF (Str.ofString "spot") (vp p) [])))))) (p.snd - a.snd) (b.snd - p.snd) b3 b4) <| fs_o (@set_at (List.set (List.set (List.set (σ ++ [Ob.inst (Str.ofString "Corner") []]) (List.length σ) (Ob.inst (Str.ofString "Corner") (putF (Str.ofString "spot") (vp p) []))) (List.length σ) (Ob.inst (Str.ofString "Corner") (putF (Str.ofString "first") (vp (p.fst - a.fst, p.snd - a.snd)) (putF (Str.ofString "spot") (vp p) [])))) (List.length σ) (Ob.inst (Str.ofString "Corner") (putF (Str.ofString "second") (vp (b.fst - p.fst, b.snd - p.snd)) (putF (Str.ofString "first") (vp (p.fst - a.fst, p.snd - a.snd)) (putF (Str.ofString "spot") (vp p) []))))) (List.length σ) (Ob.inst (Str.ofString "Corner") (putF (Str.ofString "turn") (V.int ((p.fst - a.fst) * (b.snd - p.snd) - (p.snd - a.snd) * (b.fst - p.fst))) (putF (Str.ofString "second") (vp (b.fst - p.fst, b.snd - p.snd)) (putF (Str.ofString "first") (vp (p.fst - a.fst, p.snd - a.snd)) (putF (Str.ofString "spot") (vp p) []))))) (by repeat' first | exact lt_new | refine' lt_set ?_ | refine' lt_app ?_ | assumption)) <| fs_s (@hn1 (n + 18) (List.set (List.set (List.set (List.set (List.set (σ ++ [Ob.inst (Str.ofString "Corner") []]) (List.length σ) (Ob.inst (Str.ofString "Corner") (putF (Str.ofString "spot") (vp p) []))) (List.length σ) (Ob.inst (Str.ofString "Corner") (putF (Str.ofString "first") (vp (p.fst - a.fst, p.snd - a.snd)) (putF (Str.ofString "spot") (vp p) [])))) (List.length σ) (Ob.inst (Str.ofString "Corner") (putF (Str.ofString "second") (vp (b.fst - p.fst, b.snd - p.snd)) (putF (Str.ofString "first") (vp (p.fst - a.fst, p.snd - a.snd)) (putF (Str.ofString "spot") (vp p) []))))) (List.length σ) (Ob.inst (Str.ofString "Corner") (putF (Str.ofString "turn") (V.int ((p.fst - a.fst) * (b.snd - p.snd) - (p.snd - a.snd) * (b.fst - p.fst))) (putF (Str.ofString "second") (vp (b.fst - p.fst, b.snd - p.snd)) (putF (Str.ofString "first") (vp (p.fst - a.fst, p.snd - a.snd)) (putF (Str.ofString "spot") (vp p) [])))))) (List.length σ) (Ob.inst (Str.ofString "Corner") (putF (Str.ofString "straight") (V.int ((p.fst - a.fst) * (b.fst - p.fst) + (p.snd - a.snd) * (b.snd - p.snd))) (putF (Str.ofString "turn") (V.int ((p.fst - a.fst) * (b.snd - p.snd) - (p.snd - a.snd) * (b.fst - p.fst))) (putF (Str.ofString "second") (vp (b.fst - p.fst, b.snd - p.snd)) (putF (Str.ofString "first") (vp (p.fst - a.fst, p.snd - a.snd)) (putF (Str.ofString "spot") (vp p) [])))))))) <| fs_s (@hn2 (n + 18) (List.set (List.set (List.set (List.set (List.set (σ ++ [Ob.inst (Str.ofString "Corner") []]) (List.length σ) (Ob.inst (Str.ofString "Corner") (putF (Str.ofString "spot") (vp p) []))) (List.length σ) (Ob.inst (Str.ofString "Corner") (putF (Str.ofString "first") (vp (p.fst - a.fst, p.snd - a.snd)) (putF (Str.ofString "spot") (vp p) [])))) (List.length σ) (Ob.inst (Str.ofString "Corner") (putF (Str.ofString "second") (vp (b.fst - p.fst, b.snd - p.snd)) (putF (Str.ofString "first") (vp (p.fst - a.fst, p.snd - a.snd)) (putF (Str.ofString "spot") (vp p) []))))) (List.length σ) (Ob.inst (Str.ofString "Corner") (putF (Str.ofString "turn") (V.int ((p.fst - a.fst) * (b.snd - p.snd) - (p.snd - a.snd) * (b.fst - p.fst))) (putF (Str.ofString "second") (vp (b.fst - p.fst, b.snd - p.snd)) (putF (Str.ofString "first") (vp (p.fst - a.fst, p.snd - a.snd)) (putF (Str.ofString "spot") (vp p) [])))))) (List.length σ) (Ob.inst (Str.ofString "Corner") (putF (Str.ofString "straight") (V.int ((p.fst - a.fst) * (b.fst - p.fst) + (p.snd - a.snd) * (b.snd - p.snd))) (putF (Str.ofString "turn") (V.int ((p.fst - a.fst) * (b.snd - p.snd) - (p.snd - a.snd) * (b.fst - p.fst))) (putF (Str.ofString "second") (vp (b.fst - p.fst, b.snd - p.snd)) (putF (Str.ofString "first") (vp (p.fst - a.fst, p.snd - a.snd)) (putF (Str.ofString "spot") (vp p) [])))))))) <| fs_o (@set_at (List.set (List.set (List.set (List.set (σ ++ [Ob.inst (Str.ofString "Corner") []]) (List.length σ) (Ob.inst (Str.ofString "Corner") (putF (Str.ofString "spot") (vp p) []))) (List.length σ) (Ob.inst (Str.ofString "Corner") (putF (Str.ofString "first") (vp (p.fst - a.fst, p.snd - a.snd)) (putF (Str.ofString "spot") (vp p) [])))) (List.length σ) (Ob.inst (Str.ofString "Corner") (putF (Str.ofString "second") (vp (b.fst - p.fst, b.snd - p.snd)) (putF (Str.ofString "first") (vp (p.fst - a.fst, p.snd - a.snd)) (putF (Str.ofString "spot") (vp p) []))))) (List.length σ) (Ob.inst (Str.ofString "Corner") (putF (Str.ofString "turn") (V.int ((p.fst - a.fst) * (b.snd - p.snd) - (p.snd - a.snd) * (b.fst - p.fst))) (putF (Str.ofString "second") (vp (b.fst - p.fst, b.snd - p.snd)) (putF (Str.ofString "first") (vp (p.fst - a.fst, p.snd - a.snd)) (putF (Str.ofString "spot") (vp p) [])))))) (List.length σ) (Ob.inst (Str.ofString "Corner") (putF (Str.ofString "straight") (V.int ((p.fst - a.fst) * (b.fst - p.fst) + (p.snd - a.snd) * (b.snd - p.snd))) (putF (Str.ofString "turn") (V.int ((p.fst - a.fst) * (b.snd - p.snd) - (p.snd - a.snd) * (b.fst - p.fst))) (putF (Str.ofString "second") (vp (b.fst - p.fst, b.snd - p.snd)) (putF (Str.ofString "first") (vp (p.fst - a.fst, p.snd - a.snd)) (putF (Str.ofString "spot") (vp p) [])))))) (by repeat' first | exact lt_new | refine' lt_set ?_ | refine' lt_app ?_ | assumption)) <| fs_f (p := (p.fst - a.fst) * (b.snd - p.snd) - (p.snd - a.snd) * (b.fst - p.fst) < 0) hp <| fs_o (@set_at (List.set (List.set (List.set (List.set (σ ++ [Ob.inst (Str.ofString "Corner") []]) (List.length σ) (Ob.inst (Str.ofString "Corner") (putF (Str.ofString "spot") (vp p) []))) (List.length σ) (Ob.inst (Str.ofString "Corner") (putF (Str.ofString "first") (vp (p.fst - a.fst, p.snd - a.snd)) (putF (Str.ofString "spot") (vp p) [])))) (List.length σ) (Ob.inst (Str.ofString "Corner") (putF (Str.ofString "second") (vp (b.fst - p.fst, b.snd - p.snd)) (putF (Str.ofString "first") (vp (p.fst - a.fst, p.snd - a.snd)) (putF (Str.ofString "spot") (vp p) []))))) (List.length σ) (Ob.inst (Str.ofString "Corner") (putF (Str.ofString "turn") (V.int ((p.fst - a.fst) * (b.snd - p.snd) - (p.snd - a.snd) * (b.fst - p.fst))) (putF (Str.ofString "second") (vp (b.fst - p.fst, b.snd - p.snd)) (putF (Str.ofString "first") (vp (p.fst - a.fst, p.snd - a.snd)) (putF (Str.ofString "spot") (vp p) [])))))) (List.length σ) (Ob.inst (Str.ofString "Corner") (putF (Str.ofString "straight") (V.int ((p.fst - a.fst) * (b.fst - p.fst) + (p.snd - a.snd) * (b.snd - p.snd))) (putF (Str.ofString "turn") (V.int ((p.fst - a.fst) * (b.snd - p.snd) - (p.snd - a.snd) * (b.fst - p.fst))) (putF (Str.ofString "second") (vp (b.fst - p.fst, b.snd - p.snd)) (putF (Str.ofString "first") (vp (p.fst - a.fst, p.snd - a.snd)) (putF (Str.ofString "spot") (vp p) [])))))) (by repeat' first | exact lt_new | refine' lt_set ?_ | refine' lt_app ?_ | assumption)) <| fs_o (@set_at (List.set (List.set (List.set (List.set (List.set (σ ++ [Ob.inst (Str.ofString "Corner") []]) (List.length σ) (Ob.inst (Str.ofString "Corner") (putF (Str.ofString "spot") (vp p) []))) (List.length σ) (Ob.inst (Str.ofString "Corner") (putF (Str.ofString "first") (vp (p.fst - a.fst, p.snd - a.snd)) (putF (Str.ofString "spot") (vp p) [])))) (List.length σ) (Ob.inst (Str.ofString "Corner") (putF (Str.ofString "second") (vp (b.fst - p.fst, b.snd - p.snd)) (putF (Str.ofString "first") (vp (p.fst - a.fst, p.snd - a.snd)) (putF (Str.ofString "spot") (vp p) []))))) (List.length σ) (Ob.inst (Str.ofString "Corner") (putF (Str.ofString "turn") (V.int ((p.fst - a.fst) * (b.snd - p.snd) - (p.snd - a.snd) * (b.fst - p.fst))) (putF (Str.ofString "second") (vp (b.fst - p.fst, b.snd - p.snd)) (putF (Str.ofString "first") (vp (p.fst - a.fst, p.snd - a.snd)) (putF (Str.ofString "spot") (vp p) [])))))) (List.length σ) (Ob.inst (Str.ofString "Corner") (putF (Str.ofString "straight") (V.int ((p.fst - a.fst) * (b.fst - p.fst) + (p.snd - a.snd) * (b.snd - p.snd))) (putF (Str.ofString "turn") (V.int ((p.fst - a.fst) * (b.snd - p.snd) - (p.snd - a.snd) * (b.fst - p.fst))) (putF (Str.ofString "second") (vp (b.fst - p.fst, b.snd - p.snd)) (putF (Str.ofString "first") (vp (p.fst - a.fst, p.snd - a.snd)) (putF (Str.ofString "spot") (vp p) []))))))) (List.length σ) (Ob.inst (Str.ofString "Corner") (putF (Str.ofString "one") (vp (nrm a p h)) (putF (Str.ofString "straight") (V.int ((p.fst - a.fst) * (b.fst - p.fst) + (p.snd - a.snd) * (b.snd - p.snd))) (putF (Str.ofString "turn") (V.int ((p.fst - a.fst) * (b.snd - p.snd) - (p.snd - a.snd) * (b.fst - p.fst))) (putF (Str.ofString "second") (vp (b.fst - p.fst, b.snd - p.snd)) (putF (Str.ofString "first") (vp (p.fst - a.fst, p.snd - a.snd)) (putF (Str.ofString "spot") (vp p) []))))))) (by repeat' first | exact lt_new | refine' lt_set ?_ | refine' lt_app ?_ | assumption)) <| fs_nil) (by kernel_rfl)), take_set (take_set (take_set (take_set (take_set (take_set (take_set tk le) le) le) le) le) le) le, ?_⟩
      rw [set_at (lt_set (lt_set (lt_set (lt_set (lt_set (lt_set h0))))))]
      have e : cfl a p b h = ([("spot", vp p), ("first", vp (p.1 - a.1, p.2 - a.2)), ("second", vp (b.1 - p.1, b.2 - p.2)), ("turn", .int (turn3 a p b)), ("straight", .int (strt a p b)), ("one", vp (nrm a p h)), ("other", vp (nrm p b h))] : List (Str × V)) := by
        unfold cfl sg; rw [if_neg (show ¬ turn3 a p b < 0 from hp), if_neg (show ¬ turn3 a p b < 0 from hp)]
      rw [e]; kernel_rfl
  obtain ⟨σ', hr, ht, hg⟩ := key
  exact mkC_of mi_corner (by rw [df_corner]; rfl) rfl hr ht hg rfl

theorem is_straight_c {a p b : Pt} {h : Int} {k : Nat} (hk : σ[k]? = some (.inst "Corner" (cfl a p b h))) : callD (lvl (tbl r) (n + 20)) m_corner_is_straight.1 [.obj k] σ = some (.bool (decide (turn3 a p b = 0) && decide (strt a p b > 0)), σ) := by
  refine callD_pure0 rfl rfl ?_
  by_cases h1 : turn3 a p b = 0
  · refine Eq.trans (run_sx (v := V.bool (decide (strt a p b > 0))) (σ' := σ) (fs_o hk <| fs_c (@cmp_eqi σ (turn3 a p b) 0) <| fs_t (p := turn3 a p b = 0) h1 <| fs_o hk <| fs_nil) (by kernel_rfl)) ?_
    rw [h1]; rfl
  · refine Eq.trans (run_sx (v := V.bool false) (σ' := σ) (fs_o hk <| fs_c (@cmp_eqi σ (turn3 a p b) 0) <| fs_f (p := turn3 a p b = 0) h1 <| fs_nil) (by kernel_rfl)) ?_
    rw [decide_eq_false h1]; rfl

theorem squares_c {a p b : Pt} {h : Int} {k : Nat} (s1 : Sd a p) (s2 : Sd p b) (hk : σ[k]? = some (.inst "Corner" (cfl a p b h))) : callD (lvl (tbl r) (n + 20)) m_corner_squares.1 [.obj k] σ = some (.int (((p.1 - a.1) * (p.1 - a.1) + (p.2 - a.2) * (p.2 - a.2)) * ((b.1 - p.1) * (b.1 - p.1) + (b.2 - p.2) * (b.2 - p.2))), σ) := by
  have b1 : -1152921504606846976 < p.1 - a.1 := by have := s1.x1; omega
  have b2 : p.1 - a.1 < 1152921504606846976 := by have := s1.x2; omega
  have b3 : -1152921504606846976 < p.2 - a.2 := by have := s1.y1; omega
  have b4 : p.2 - a.2 < 1152921504606846976 := by have := s1.y2; omega
  have b5 : -1152921504606846976 < b.1 - p.1 := by have := s2.x1; omega
  have b6 : b.1 - p.1 < 1152921504606846976 := by have := s2.x2; omega
  have b7 : -1152921504606846976 < b.2 - p.2 := by have := s2.y1; omega
  have b8 : b.2 - p.2 < 1152921504606846976 := by have := s2.y2; omega
  have q1 := sq_le (b := 1000) s1.x1 s1.x2
  have q2 := sq_le (b := 1000) s1.y1 s1.y2
  have q3 := msq (p.1 - a.1)
  have q4 := msq (p.2 - a.2)
  have b9 : -1152921504606846976 < (p.1 - a.1) * (p.1 - a.1) + (p.2 - a.2) * (p.2 - a.2) := by omega
  have b10 : (p.1 - a.1) * (p.1 - a.1) + (p.2 - a.2) * (p.2 - a.2) < 1152921504606846976 := by omega
  refine callD_pure0 rfl rfl ?_
  exact run_sx (fs_o hk <| fs_o hk <| fs_s (@mulL σ (p.fst - a.fst) (p.fst - a.fst) b1 b2) <| fs_s (@mulL σ (p.snd - a.snd) (p.snd - a.snd) b3 b4) <| fs_s (@mulL σ (b.fst - p.fst) (b.fst - p.fst) b5 b6) <| fs_s (@mulL σ (b.snd - p.snd) (b.snd - p.snd) b7 b8) <| fs_s (@mulL σ ((p.fst - a.fst) * (p.fst - a.fst) + (p.snd - a.snd) * (p.snd - a.snd)) ((b.fst - p.fst) * (b.fst - p.fst) + (b.snd - p.snd) * (b.snd - p.snd)) b9 b10) <| fs_nil) (by kernel_rfl)

theorem root_c2 {l sq : Int} (h1 : -100000000 ≤ l) (h2 : l ≤ 100000000) (hlt : l * l < sq) : callD (lvl (tbl r) (n + 20)) d_is_at_least_root.1 [.int l, .int 1, .int sq] σ = some (.bool false, σ) := by
  have b1 : -1152921504606846976 < l := by omega
  have b2 : l < 1152921504606846976 := by omega
  refine callD_pure0 rfl rfl ?_
  have hn : ¬ sq ≤ l * l := by omega
  by_cases hl : l < 0
  · exact run_sx (fs_b (r := false) rfl <| fs_b (r := false) rfl <| fs_b (r := true) rfl <| fs_t (p := l < 0) hl <| fs_b (r := true) rfl <| fs_nil) (by kernel_rfl)
  · have hl' : 0 ≤ l := by omega
    have hn' : ¬ l * l ≥ 1 * 1 * sq := by omega
    refine Eq.trans (run_sx (v := V.bool (decide (l * l ≥ 1 * 1 * sq))) (σ' := σ) (fs_b (r := false) rfl <| fs_b (r := false) rfl <| fs_b (r := true) rfl <| fs_f (p := l < 0) hl <| fs_b (r := false) rfl <| fs_b (r := true) rfl <| fs_s (@mulL σ l l b1 b2) <| fs_s (@mulL σ 1 1 (by omega) (by omega)) <| fs_s (@mulL σ (1 * 1) sq (by omega) (by omega)) <| fs_nil) (by kernel_rfl)) ?_
    rw [decide_eq_false hn']
theorem lagrange {a p b : Pt} : strt a p b * strt a p b + turn3 a p b * turn3 a p b = ((p.1 - a.1) * (p.1 - a.1) + (p.2 - a.2) * (p.2 - a.2)) * ((b.1 - p.1) * (b.1 - p.1) + (b.2 - p.2) * (b.2 - p.2)) := by
  unfold strt turn3
  generalize p.1 - a.1 = x
  generalize p.2 - a.2 = y
  generalize b.1 - p.1 = u
  generalize b.2 - p.2 = v
  grind
theorem mul_bd {x y : Int} (x1 : -1000 ≤ x) (x2 : x ≤ 1000) (y1 : -1000 ≤ y) (y2 : y ≤ 1000) : -1000000 ≤ x * y ∧ x * y ≤ 1000000 := by
  have a := Int.mul_nonneg (a := 1000 - x) (b := 1000 + y) (by omega) (by omega)
  have b := Int.mul_nonneg (a := 1000 + x) (b := 1000 - y) (by omega) (by omega)
  have c := Int.mul_nonneg (a := 1000 - x) (b := 1000 - y) (by omega) (by omega)
  have d := Int.mul_nonneg (a := 1000 + x) (b := 1000 + y) (by omega) (by omega)
  constructor <;> grind
theorem within_c {a p b : Pt} {h : Int} {k : Nat} (s1 : Sd a p) (s2 : Sd p b) (ht : turn3 a p b ≠ 0) (hk : σ[k]? = some (.inst "Corner" (cfl a p b h))) : callD (lvl (tbl r) (n + 60)) d_is_within_limit.1 [.obj k, .tup [.int 1, .int 1]] σ = some (.bool false, σ) := by
  have e := lagrange (a := a) (p := p) (b := b)
  have pos : 0 < turn3 a p b * turn3 a p b := by
    rcases Int.lt_or_eq_of_le (msq (turn3 a p b)) with q | q
    · exact q
    · rcases Int.mul_eq_zero.mp q.symm with q | q <;> exact absurd q ht
  have m1 := mul_bd s1.x1 s1.x2 s2.x1 s2.x2
  have m2 := mul_bd s1.y1 s1.y2 s2.y1 s2.y2
  have b1 : -100000000 ≤ strt a p b := by unfold strt; omega
  have b2 : strt a p b ≤ 100000000 := by unfold strt; omega
  refine callD_pure0 rfl rfl ?_
  have hr := root_c2 (r := r) (σ := σ) (n := n + 38) b1 b2 (show strt a p b * strt a p b < ((p.1 - a.1) * (p.1 - a.1) + (p.2 - a.2) * (p.2 - a.2)) * ((b.1 - p.1) * (b.1 - p.1) + (b.2 - p.2) * (b.2 - p.2)) by omega)
  have hq := fun j => squares_c (r := r) (n := j) s1 s2 hk
  have hr' : callD (lvl (tbl r) (n + 58)) d_is_at_least_root.1 [.int (1 * 1 * strt a p b), .int (2 * 1 * 1 - 1 * 1), .int (((p.1 - a.1) * (p.1 - a.1) + (p.2 - a.2) * (p.2 - a.2)) * ((b.1 - p.1) * (b.1 - p.1) + (b.2 - p.2) * (b.2 - p.2)))] σ = some (.bool false, σ) := by
    rw [show (1 * 1 * strt a p b : Int) = strt a p b by omega]; exact hr
  exact run_sx (fs_s (@mulL σ 1 1 (by omega) (by omega)) <| fs_o hk <| fs_s (@mulL σ (1 * 1) (strt a p b) (by omega) (by omega)) <| fs_s (@mulL σ 2 1 (by omega) (by omega)) <| fs_s (@mulL σ (2 * 1) 1 (by omega) (by omega)) <| fs_s (@mulL σ 1 1 (by omega) (by omega)) <| fs_o hk <| fs_s (@hq (n + 37)) <| fs_s hr' <| fs_nil) (by kernel_rfl)
end Mine
end
section
open PySem PySem.W PyProof.Rows PySem.Calls
set_option linter.unusedVariables false
set_option linter.unusedSimpArgs false
set_option maxRecDepth 100000
namespace Mine
variable {r : Nat → Option (List Int)} {T : Tbl} {F : Funs} {L : Loc} {σ : Sto} {n : Nat}

theorem bevel_c {a p b : Pt} {h : Int} {k : Nat} (ht : turn3 a p b ≠ 0) (hk : σ[k]? = some (.inst "Corner" (cfl a p b h))) : callD (lvl (tbl r) (n + 30)) d_bevel_spots.1 [.obj k] σ = some (vps (crn a p b h), σ) := by
  refine callD_pure0 rfl free_vps ?_
  have e : crn a p b h = [p, (p.1 + (sg (turn3 a p b) (nrm a p h)).1, p.2 + (sg (turn3 a p b) (nrm a p h)).2), (p.1 + (sg (turn3 a p b) (nrm p b h)).1, p.2 + (sg (turn3 a p b) (nrm p b h)).2)] := by
    unfold crn sg
    rw [if_neg ht]
    by_cases hp : turn3 a p b > 0
    · rw [if_pos hp, if_neg (by omega), if_neg (by omega)]
      simp
    · rw [if_neg hp, if_pos (by omega), if_pos (by omega)]
      simp
  rw [e]
  exact run_sx (fs_o hk <| fs_o hk <| fs_o hk <| fs_s (@moved_c r σ (n + 17) p (sg (turn3 a p b) (nrm a p h))) <| fs_o hk <| fs_o hk <| fs_s (@moved_c r σ (n + 17) p (sg (turn3 a p b) (nrm p b h))) <| fs_nil) (by kernel_rfl)

noncomputable def jnV (jn : Bool) : V := .str (if jn then "miter" else "bevel")
theorem join_c {jn : Bool} {a p b : Pt} {h st : Int} (s1 : Sd a p) (s2 : Sd p b) (hh : Hf h) : callD (lvl (tbl r) (n + 100)) d_join_spots.1 [jnV jn, vp a, vp p, vp b, .int h, .tup [.int 1, .int 1], .int st] σ = some (vps (crn a p b h), σ) := by
  have hk : (σ ++ [Ob.inst "Corner" (cfl a p b h)])[σ.length]? = some (.inst "Corner" (cfl a p b h)) := gl_at
  have hs := fun m => is_straight_c (r := r) (n := m) hk
  have hc := fun m => corner_c (r := r) (n := m) (σ := σ) s1 s2 hh
  by_cases ht : turn3 a p b = 0
  · have e : crn a p b h = [] := if_pos ht
    rw [e]
    by_cases hq : strt a p b > 0
    · have hb : (decide (turn3 a p b = 0) && decide (strt a p b > 0)) = true := by rw [decide_eq_true ht, decide_eq_true hq]; rfl
      exact callD_pureT rfl free_vps (run_sx (v := V.tup []) (σ' := σ ++ [Ob.inst (Str.ofString "Corner") (cfl a p b h)]) (fs_s (@hc (n + 18)) <| fs_o hk <| fs_s (@hs (n + 77)) <| fs_b hb <| fs_nil) (by kernel_rfl)) (take_app tk0)
    · have hb : (decide (turn3 a p b = 0) && decide (strt a p b > 0)) = false := by rw [decide_eq_false hq, Bool.and_false]
      cases jn with
      | false => exact callD_pureT rfl free_vps (run_sx (v := V.tup []) (σ' := σ ++ [Ob.inst (Str.ofString "Corner") (cfl a p b h)]) (fs_s (@hc (n + 18)) <| fs_o hk <| fs_s (@hs (n + 77)) <| fs_b hb <| fs_c (by kernel_rfl : cmpS CmpOp.Eq (σ ++ [Ob.inst (Str.ofString "Corner") (cfl a p b h)]) (jnV false) (V.str (Str.ofString "round")) = some false) <| fs_b (r := false) rfl <| fs_o hk <| fs_c (@cmp_eqi (σ ++ [Ob.inst (Str.ofString "Corner") (cfl a p b h)]) (turn3 a p b) 0) <| fs_t (p := turn3 a p b = 0) ht <| fs_nil) (by kernel_rfl)) (take_app tk0)
      | true => exact callD_pureT rfl free_vps (run_sx (v := V.tup []) (σ' := σ ++ [Ob.inst (Str.ofString "Corner") (cfl a p b h)]) (fs_s (@hc (n + 18)) <| fs_o hk <| fs_s (@hs (n + 77)) <| fs_b hb <| fs_c (by kernel_rfl : cmpS CmpOp.Eq (σ ++ [Ob.inst (Str.ofString "Corner") (cfl a p b h)]) (jnV true) (V.str (Str.ofString "round")) = some false) <| fs_b (r := false) rfl <| fs_o hk <| fs_c (@cmp_eqi (σ ++ [Ob.inst (Str.ofString "Corner") (cfl a p b h)]) (turn3 a p b) 0) <| fs_t (p := turn3 a p b = 0) ht <| fs_nil) (by kernel_rfl)) (take_app tk0)
  · have hw := fun m => within_c (r := r) (n := m) s1 s2 ht hk
    have hb := fun m => bevel_c (r := r) (n := m) ht hk
    have hb0 : (decide (turn3 a p b = 0) && decide (strt a p b > 0)) = false := by rw [decide_eq_false ht]; rfl
    cases jn with
    | false => exact callD_pureT rfl free_vps (run_sx (v := vps (crn a p b h)) (σ' := σ ++ [Ob.inst (Str.ofString "Corner") (cfl a p b h)]) (fs_s (@hc (n + 18)) <| fs_o hk <| fs_s (@hs (n + 77)) <| fs_b hb0 <| fs_c (by kernel_rfl : cmpS CmpOp.Eq (σ ++ [Ob.inst (Str.ofString "Corner") (cfl a p b h)]) (jnV false) (V.str (Str.ofString "round")) = some false) <| fs_b (r := false) rfl <| fs_o hk <| fs_c (@cmp_eqi (σ ++ [Ob.inst (Str.ofString "Corner") (cfl a p b h)]) (turn3 a p b) 0) <| fs_f (p := turn3 a p b = 0) ht <| fs_c (by kernel_rfl : cmpS CmpOp.Eq (σ ++ [Ob.inst (Str.ofString "Corner") (cfl a p b h)]) (jnV false) (V.str (Str.ofString "miter")) = some false) <| fs_b (r := false) rfl <| fs_b (r := false) rfl <| fs_s (@hb (n + 68)) <| fs_nil) (by kernel_rfl)) (take_app tk0)
    | true => exact callD_pureT rfl free_vps (run_sx (v := vps (crn a p b h)) (σ' := σ ++ [Ob.inst (Str.ofString "Corner") (cfl a p b h)]) (fs_s (@hc (n + 18)) <| fs_o hk <| fs_s (@hs (n + 77)) <| fs_b hb0 <| fs_c (by kernel_rfl : cmpS CmpOp.Eq (σ ++ [Ob.inst (Str.ofString "Corner") (cfl a p b h)]) (jnV true) (V.str (Str.ofString "round")) = some false) <| fs_b (r := false) rfl <| fs_o hk <| fs_c (@cmp_eqi (σ ++ [Ob.inst (Str.ofString "Corner") (cfl a p b h)]) (turn3 a p b) 0) <| fs_f (p := turn3 a p b = 0) ht <| fs_c (by kernel_rfl : cmpS CmpOp.Eq (σ ++ [Ob.inst (Str.ofString "Corner") (cfl a p b h)]) (jnV true) (V.str (Str.ofString "miter")) = some true) <| fs_b (r := true) rfl <| fs_s (@hw (n + 36)) <| fs_b (r := false) rfl <| fs_b (r := false) rfl <| fs_s (@hb (n + 68)) <| fs_nil) (by kernel_rfl)) (take_app tk0)
end Mine
end
section
open PySem PySem.W PyProof.Rows PySem.Calls
set_option linter.unusedVariables false
set_option linter.unusedSimpArgs false
set_option maxRecDepth 100000
namespace Mine
variable {r : Nat → Option (List Int)} {T : Tbl} {F : Funs} {L : Loc} {σ : Sto} {n : Nat}

/-- like neighbours fall together -/
noncomputable def ddS (acc : List Pt) (p : Pt) : List Pt := if acc = [] ∨ acc.getLast? ≠ some p then acc ++ [p] else acc
noncomputable def dd (l : List Pt) : List Pt := l.foldl ddS []
/-- the end goes where it is the start -/
noncomputable def stripF : Nat → List Pt → List Pt
  | 0, l => l
  | m + 1, l => if 1 < l.length ∧ l.getLast? = l.head? then stripF m l.dropLast else l
noncomputable def strip (l : List Pt) : List Pt := stripF l.length l
noncomputable def pln (c : Bool) (l : List Pt) : List Pt := if c then strip (dd l) else dd l

theorem sub_last {k : Nat} {l : List V} {v : V} (h : σ[k]? = some (.list l)) (hv : l.getLast? = some v) : subC T σ (.obj k) (.int (-1)) = some v := by
  have hl : l ≠ [] := by intro e; rw [e] at hv; cases hv
  have hp : 0 < l.length := List.length_pos_iff.mpr hl
  rw [subC_obj, h]
  dsimp only
  rw [if_pos (by decide)]
  unfold getAt place
  rw [if_neg (by decide), if_pos (by omega)]
  show l[((-1 : Int) + l.length).toNat]? = _
  rw [show ((-1 : Int) + l.length).toNat = l.length - 1 by omega, ← List.getLast?_eq_getElem?]
  exact hv
theorem sub_at {k j : Nat} {l : List V} {v : V} (h : σ[k]? = some (.list l)) (hv : l[j]? = some v) (hj : j < 1000000) : subC T σ (.obj k) (.int j) = some v := by
  have hlt := (List.getElem?_eq_some_iff.mp hv).1
  rw [subC_obj, h]
  dsimp only
  rw [if_pos (by simp [small]; omega)]
  unfold getAt place
  rw [if_pos (by omega), if_pos (by omega)]
  show l[((j : Int)).toNat]? = _
  rw [Int.toNat_natCast]; exact hv
theorem sub_0 {k : Nat} {l : List V} {v : V} (h : σ[k]? = some (.list l)) (hv : l.head? = some v) : subC T σ (.obj k) (.int 0) = some v := by
  have := sub_at (T := T) (j := 0) h (by rw [← List.head?_eq_getElem?]; exact hv) (by decide)
  simpa using this
theorem last_map {l : List Pt} : (l.map vp).getLast? = l.getLast?.map vp := by rw [List.getLast?_map]
theorem vp_inj {p q : Pt} (h : vp p = vp q) : p = q := by
  unfold vp at h
  injection h with h
  injection h with h1 h
  injection h with h2 h
  injection h1 with h1
  injection h2 with h2
  exact Prod.ext h1 h2

theorem vps_inj {l m : List Pt} (h : l.map vp = m.map vp) : l = m := by
  induction l generalizing m with
  | nil => cases m with
    | nil => rfl
    | cons => cases h
  | cons p l ih => cases m with
    | nil => cases h
    | cons q m =>
      rw [List.map_cons, List.map_cons] at h
      injection h with h1 h2
      rw [vp_inj h1, ih h2]

theorem plain_line_c {c : Bool} {l : List Pt} (hl : l.length ≤ 1000) (hn : l.length < n + 50) : ∃ k σ', callD (lvl (tbl r) (n + 60)) d_plain_line.1 [.tup [vps l, .bool c]] σ = some (.tup [.obj k, .bool (c && decide (1 < (pln c l).length))], σ') ∧ σ'.take σ.length = σ ∧ σ.length ≤ k ∧ σ'[k]? = some (.list ((pln c l).map vp)) := by
  suffices hR : Ret (lvl (tbl r) (n + 60)) (bindP (d_plain_line.1.params.args.map (·.arg)) [.tup [vps l, .bool c]]) σ d_plain_line.1.body fun v σ' => ∃ k, v = .tup [.obj k, .bool (c && decide (1 < (pln c l).length))] ∧ σ'.take σ.length = σ ∧ σ.length ≤ k ∧ σ'[k]? = some (.list ((pln c l).map vp)) by
    obtain ⟨v, σ', h1, k, rfl, h2, h3, h4⟩ := hR.run
    refine ⟨k, σ', ?_, h2, h3, h4⟩
    rw [callD_run rfl h1]
    unfold gc
    rw [if_pos h2, if_neg (by simp [free, freeL])]
  have hl' : l.length ≤ 1000000 := by omega
  refine Ret.args ?_
  refine Ret.run_to (k := 2) (E1 := EX.up (EX.ups (argX d_plain_line.val [V.tup [vps l, V.bool c]]) [Str.ofString "spots", Str.ofString "is_closed"] [vps l, V.bool c]) (Str.ofString "found") (V.obj (List.length σ))) (σ1 := σ ++ [Ob.list []]) (fs_nil) (by kernel_rfl) ?_
  refine Ret.for rfl (w := vps l) (vs := l.map vp) (σ1 := σ ++ [Ob.list []]) ((sx_ev (E := EX.up (EX.ups (argX d_plain_line.val [V.tup [vps l, V.bool c]]) [Str.ofString "spots", Str.ofString "is_closed"] [vps l, V.bool c]) (Str.ofString "found") (V.obj (List.length σ))) (fs_nil) (by kernel_rfl))) (by unfold items vps; exact if_pos (decide_eq_true (by rw [List.length_map]; unfold most; exact hl')))
    (fun done L st => ∃ dn : List Pt, done = dn.map vp ∧ L "found" = some (.obj σ.length) ∧ L "is_closed" = some (.bool c) ∧ st.take σ.length = σ ∧ st[σ.length]? = some (.list ((dd dn).map vp)) ∧ (dd dn).length ≤ dn.length)
    (fun done L st hI => by unfold items vps; exact if_pos (decide_eq_true (by rw [List.length_map]; unfold most; exact hl'))) (fun done v rest L st hall hI => ?_) ⟨[], rfl, by kernel_rfl, by kernel_rfl, take_app tk0, gl_at, Nat.le_refl _⟩ fun L' st hI => ?_
  · obtain ⟨dn, rfl, i1, i2, i3, i4, i5⟩ := hI
    obtain ⟨p, rfl⟩ : ∃ p, v = vp p := by
      have hm : v ∈ l.map vp := by rw [hall]; simp
      obtain ⟨p, _, e⟩ := List.mem_map.mp hm
      exact ⟨p, e.symm⟩
    have hdn : dn.length < 1000 := by
      have := congrArg List.length hall
      simp at this; omega
    have hc : cmpS .Eq (st ++ [.list []]) (.obj σ.length) (.obj st.length) = some (decide (dd dn = [])) := cmp_emp (app_l i4) gl_at
    have hsz : ((dd dn).map vp).length < 1000000 := by rw [List.length_map]; omega
    have e4 : dd (dn ++ [p]) = ddS (dd dn) p := by unfold dd; rw [List.foldl_append]; rfl
    have e5 : ∀ x, (dd dn).map vp ++ [vp p] = x → x = ((dd dn) ++ [p]).map vp := fun x e => by rw [← e, List.map_append]; rfl
    have nm : ∀ {x : Str} {w : V}, ([(Str.ofString "spot", vp p)] : List (Str × V)).lookup x = none → L x = some w → (EX.mk [(Str.ofString "spot", vp p)] L).loc x = some w := fun h1 h2 => (loc_o h1).trans h2
    have fin : dd (dn ++ [p]) = dd dn ++ [p] → ((st ++ [Ob.list []]).set σ.length (.list ((dd dn).map vp ++ [vp p])))[σ.length]? = some (.list ((dd (dn ++ [p])).map vp)) ∧ (dd (dn ++ [p])).length ≤ (dn ++ [p]).length := fun e => by
      refine ⟨by rw [set_self (app_l i4), e, List.map_append]; rfl, ?_⟩
      rw [e, List.length_append, List.length_append]; simp; omega
    refine ⟨_, rfl, ?_⟩
    rcases hlast : (dd dn).getLast? with _ | q
    · have he : dd dn = [] := List.getLast?_eq_none_iff.mp hlast
      refine Nx.fin (E := { l := [(Str.ofString "spot", vp p)], o := L }) (E' := { l := [(Str.ofString "spot", vp p)], o := L }) (σ' := List.set (st ++ [Ob.list []]) (List.length σ) (Ob.list (List.map vp (dd dn) ++ [vp p]))) (fs_v i1 <| fs_c hc <| fs_t (p := dd dn = []) he <| fs_b (r := true) rfl <| fs_v i1 <| fs_o (@app_l st (List.length σ) (Ob.list (List.map vp (dd dn))) ([Ob.list []]) i4) <| fs_o (@app_l st (List.length σ) (Ob.list (List.map vp (dd dn))) ([Ob.list []]) i4) <| fs_s (@app_c (st ++ [Ob.list []]) (List.length σ) (List.map vp (dd dn)) (vp p) hsz) <| fs_nil) (by kernel_rfl) ?_
      exact ⟨dn ++ [p], by rw [List.map_append]; rfl, nm (by kernel_rfl) i1, nm (by kernel_rfl) i2, take_set (take_app i3) (Nat.le_refl _), fin (by rw [e4]; unfold ddS; rw [if_pos (.inl he)])⟩
    · have he : ¬ dd dn = [] := by intro e; rw [e] at hlast; cases hlast
      have hs : subC (tbl r) (st ++ [.list []]) (.obj σ.length) (.int (-1)) = some (vp q) := sub_last (app_l i4) (by rw [last_map, hlast]; rfl)
      by_cases hpq : p = q
      · have hb : (!decide (p = q)) = false := by rw [decide_eq_true hpq]; rfl
        refine Nx.fin (E := { l := [(Str.ofString "spot", vp p)], o := L }) (E' := { l := [(Str.ofString "spot", vp p)], o := L }) (σ' := st ++ [Ob.list []]) (fs_v i1 <| fs_c hc <| fs_f (p := dd dn = []) he <| fs_v i1 <| fs_v hs <| fs_c (@cmp_ptn (st ++ [Ob.list []]) p q) <| fs_b hb <| fs_b (r := false) rfl <| fs_nil) (by kernel_rfl) ?_
        have e6 : dd (dn ++ [p]) = dd dn := by rw [e4]; unfold ddS; rw [if_neg (by rw [hlast, hpq]; simp [he])]
        exact ⟨dn ++ [p], by rw [List.map_append]; rfl, nm (by kernel_rfl) i1, nm (by kernel_rfl) i2, take_app i3, by rw [e6]; exact app_l i4, by rw [e6, List.length_append]; omega⟩
      · have hb : (!decide (p = q)) = true := by rw [decide_eq_false hpq]; rfl
        refine Nx.fin (E := { l := [(Str.ofString "spot", vp p)], o := L }) (E' := { l := [(Str.ofString "spot", vp p)], o := L }) (σ' := List.set (st ++ [Ob.list []]) (List.length σ) (Ob.list (List.map vp (dd dn) ++ [vp p]))) (fs_v i1 <| fs_c hc <| fs_f (p := dd dn = []) he <| fs_v i1 <| fs_v hs <| fs_c (@cmp_ptn (st ++ [Ob.list []]) p q) <| fs_b hb <| fs_b (r := true) rfl <| fs_v i1 <| fs_o (@app_l st (List.length σ) (Ob.list (List.map vp (dd dn))) ([Ob.list []]) i4) <| fs_o (@app_l st (List.length σ) (Ob.list (List.map vp (dd dn))) ([Ob.list []]) i4) <| fs_s (@app_c (st ++ [Ob.list []]) (List.length σ) (List.map vp (dd dn)) (vp p) hsz) <| fs_nil) (by kernel_rfl) ?_
        exact ⟨dn ++ [p], by rw [List.map_append]; rfl, nm (by kernel_rfl) i1, nm (by kernel_rfl) i2, take_set (take_app i3) (Nat.le_refl _), fin (by rw [e4]; unfold ddS; rw [if_pos (.inr (by rw [hlast]; simpa using Ne.symm hpq))])⟩
  obtain ⟨dn, e0, i1, i2, i3, i4, i5⟩ := hI
  have hdl : l = dn := vps_inj e0
  subst hdl
  refine Ret.while rfl (m0 := (dd l).length) (fun m L st => L "found" = some (.obj σ.length) ∧ L "is_closed" = some (.bool c) ∧ st.take σ.length = σ ∧ ∃ cur : List Pt, st[σ.length]? = some (.list (cur.map vp)) ∧ cur.length = m ∧ m ≤ l.length ∧ pln c l = if c then stripF m cur else cur)
    (fun L st => L "found" = some (.obj σ.length) ∧ L "is_closed" = some (.bool c) ∧ st.take σ.length = σ ∧ st[σ.length]? = some (.list ((pln c l).map vp)) ∧ (pln c l).length ≤ l.length) (fun m L st hI => ?_) ⟨i1, i2, i3, dd l, i4, rfl, i5, by unfold pln strip; cases c <;> rfl⟩ (by omega) fun L2 σ2 hI => ?_
  · obtain ⟨j1, j2, j3, cur, j4, rfl, j5, j6⟩ := hI
    cases c with
    | false =>
      refine .inl ⟨st, ?_, j1, j2, j3, by rw [j6]; exact j4, by rw [j6]; exact j5⟩
      exact sx_tst (E := { l := [], o := L }) (fs_v j2 <| fs_b (r := false) rfl <| fs_nil) (by kernel_rfl)
    | true =>
      rw [if_pos rfl] at j6
      have hcl : cur.length ≤ 1000000 := by omega
      by_cases h1 : 1 < cur.length
      · obtain ⟨q, hq⟩ : ∃ q, cur.getLast? = some q := by
          cases hh : cur.getLast? with
          | none => rw [List.getLast?_eq_none_iff.mp hh] at h1; simp at h1
          | some q => exact ⟨q, rfl⟩
        obtain ⟨u, hu⟩ : ∃ u, cur.head? = some u := by
          cases hh : cur.head? with
          | none => rw [List.head?_eq_none_iff.mp hh] at h1; simp at h1
          | some q => exact ⟨q, rfl⟩
        have s1 : subC (tbl r) st (.obj σ.length) (.int (-1)) = some (vp q) := sub_last j4 (by rw [last_map, hq]; rfl)
        have s2 : subC (tbl r) st (.obj σ.length) (.int 0) = some (vp u) := sub_0 j4 (by rw [List.head?_map, hu]; rfl)
        obtain ⟨m', hm'⟩ : ∃ m', cur.length = m' + 1 := ⟨cur.length - 1, by omega⟩
        have h1' : (cur.length : Int) > 1 := by omega
        by_cases hqu : q = u
        · refine .inr ⟨m', st, hm', ?_, ?_⟩
          · exact sx_tst (E := { l := [], o := L }) (fs_v j2 <| fs_b (r := true) rfl <| fs_v j1 <| fs_v (@lenP (tbl r) st (List.length σ) cur j4 hcl) <| fs_t (p := (↑(List.length cur) : Int) > 1) h1' <| fs_v j1 <| fs_v s1 <| fs_v j1 <| fs_v s2 <| fs_c (@cmp_pt st q u) <| fs_t (p := q = u) hqu <| fs_nil) (by kernel_rfl)
          · have hp := fun τ => popC (σ := τ) (k := σ.length) (l := cur.map vp) (v := vp q) (by rw [last_map, hq]; rfl) free_vp (by rw [List.length_map]; exact hcl)
            refine Nx.fin (E := { l := [], o := L }) (E' := { l := [], o := L }) (σ' := List.set st (List.length σ) (Ob.list (List.dropLast (List.map vp cur)))) (fs_v j1 <| fs_o j4 <| fs_o j4 <| fs_s (@hp st) <| fs_nil) (by kernel_rfl) ?_
            exact ⟨j1, j2, take_set j3 (Nat.le_refl _), cur.dropLast, by rw [set_self j4, List.map_dropLast], by rw [List.length_dropLast]; omega, by omega, by rw [if_pos rfl, j6, hm', stripF, if_pos ⟨h1, by rw [hq, hu, hqu]⟩]⟩
        · have e : pln true l = cur := by rw [j6, hm', stripF, if_neg (by rw [hq, hu]; simp [hqu])]
          refine .inl ⟨st, ?_, j1, j2, j3, by rw [e]; exact j4, by rw [e]; exact j5⟩
          exact sx_tst (E := { l := [], o := L }) (fs_v j2 <| fs_b (r := true) rfl <| fs_v j1 <| fs_v (@lenP (tbl r) st (List.length σ) cur j4 hcl) <| fs_t (p := (↑(List.length cur) : Int) > 1) h1' <| fs_v j1 <| fs_v s1 <| fs_v j1 <| fs_v s2 <| fs_c (@cmp_pt st q u) <| fs_f (p := q = u) hqu <| fs_nil) (by kernel_rfl)
      · have hst : stripF cur.length cur = cur := by
          cases hc : cur.length with
          | zero => rfl
          | succ m' => rw [stripF, if_neg (fun h => h1 h.1)]
        have h1n : ¬ (cur.length : Int) > 1 := by omega
        refine .inl ⟨st, ?_, j1, j2, j3, by rw [j6, hst]; exact j4, by rw [j6, hst]; exact j5⟩
        exact sx_tst (E := { l := [], o := L }) (fs_v j2 <| fs_b (r := true) rfl <| fs_v j1 <| fs_v (@lenP (tbl r) st (List.length σ) cur j4 hcl) <| fs_f (p := (↑(List.length cur) : Int) > 1) h1n <| fs_nil) (by kernel_rfl)
  obtain ⟨j1, j2, j3, j4, j5⟩ := hI
  have hpl : (pln c l).length ≤ 1000000 := by omega
  cases c with
  | false =>
    refine Ret.fin (E := { l := [], o := L2 }) (v := V.tup [V.obj (List.length σ), V.bool false]) (σ' := σ2) (fs_v j1 <| fs_v j2 <| fs_b (r := false) rfl <| fs_nil) (by kernel_rfl) ?_
    exact ⟨_, rfl, j3, Nat.le_refl _, j4⟩
  | true =>
    refine Ret.fin (E := { l := [], o := L2 }) (v := V.tup [V.obj (List.length σ), V.bool (decide ((↑(List.length (pln true l)) : Int) > 1))]) (σ' := σ2) (fs_v j1 <| fs_v j2 <| fs_b (r := true) rfl <| fs_v j1 <| fs_v (@lenP (tbl r) σ2 (List.length σ) (pln true l) j4 hpl) <| fs_nil) (by kernel_rfl) ?_
    exact ⟨_, by rw [show decide (((pln true l).length : Int) > 1) = decide (1 < (pln true l).length) from decide_eq_decide.mpr (by omega)]; rfl, j3, Nat.le_refl _, j4⟩
end Mine
end
section
open PySem PySem.W PyProof.Rows PySem.Calls
set_option linter.unusedVariables false
set_option linter.unusedSimpArgs false
set_option maxRecDepth 100000
namespace Mine
variable {r : Nat → Option (List Int)} {T : Tbl} {F : Funs} {L : Loc} {σ : Sto} {n : Nat}

noncomputable def at0 (l : List Pt) (i : Nat) : Pt := l.getD i (0, 0)
theorem at0_get {l : List Pt} {i : Nat} (h : i < l.length) : (l.map vp)[i]? = some (vp (at0 l i)) := by
  rw [List.getElem?_map, List.getElem?_eq_getElem h]
  simp [at0, List.getD, List.getElem?_eq_getElem h]
noncomputable def sides (l : List Pt) (h : Int) : List (List Pt) := (List.range (l.length - 1)).map fun i => quad (at0 l i) (at0 l (i + 1)) h
/-- neighbours are apart -/
noncomputable def Apart (l : List Pt) : Prop := ∀ i, i + 1 < l.length → Sd (at0 l i) (at0 l (i + 1))

theorem side_pieces_c {k : Nat} {l : List Pt} {h : Int} (hk : σ[k]? = some (.list (l.map vp))) (ha : Apart l) (hl : l.length ≤ 1000) (hh : Hf h) : callD (lvl (tbl r) (n + 120)) d_side_pieces.1 [.obj k, .int h] σ = some (.obj σ.length, σ ++ [.list ((sides l h).map vps)]) := by
  have b1 : -1152921504606846976 < (l.length : Int) - 1 := by omega
  have b3 : (l.length : Int) - 1 ≤ 1000000 := by omega
  refine callD_list'' rfl freeL_pcs (Ret.args ?_)
  refine Ret.done (ret_comp (comp_rule (C := List.range (l.length - 1)) (e := fun (i : Nat) => V.int i) (w := .rng 0 ((l.length : Int) - 1)) (σ1 := σ) (fun _ => true) (fun i => vps (quad (at0 l i) (at0 l (i + 1)) h)) rfl ?_ (fun l' => by rw [items_rng0 b1 b3, show ((l.length : Int) - 1).toNat = l.length - 1 by omega]) (fun i hi l' => ?_) (by rw [List.length_range]; unfold most; omega))) ⟨_, rfl, take_app tk0, Nat.le_refl _, by rw [gl_at, filter_tt]; unfold sides; rw [List.map_map]; rfl⟩
  · have hlen := lenP (T := tbl r) hk (by (first | assumption | (apply Nat.le_trans; assumption; exact Nat.le_of_ble_eq_true rfl)))
    exact sx_ev (E := argX d_side_pieces.val [V.obj k, V.int h]) (fs_v hlen <| fs_nil) (by kernel_rfl)
  · have hi' := List.mem_range.mp hi
    have h1 : i + 1 < l.length := by omega
    have s1 : subC (tbl r) (σ ++ [.list l']) (.obj k) (.int (i : Nat)) = some (vp (at0 l i)) := sub_at (app_l hk) (at0_get (by (first | exact Nat.le_of_lt (by assumption) | exact Nat.lt_of_lt_of_le (by assumption) (by assumption) | exact Nat.le_trans (by assumption) (by assumption) | exact Nat.lt_succ_of_lt (by assumption)))) (by omega)
    have s2 : subC (tbl r) (σ ++ [.list l']) (.obj k) (.int ((i : Int) + 1)) = some (vp (at0 l (i + 1))) := sub_at (j := i + 1) (app_l hk) (at0_get (l := l) h1) (by omega)
    have hp := fun j τ => parallel_c (r := r) (n := j) (σ := τ) (ha i h1) hh
    refine ⟨_, rfl, tests_nil, fun _ => ?_⟩
    exact sx_ev (E := { l := [(Str.ofString "place", V.int (↑i : Int))], o := hide { kind := ScopeKind.function, names := [(Str.ofString ".0", NameKind.local), (Str.ofString "place", NameKind.local), (Str.ofString "parallel", NameKind.globalImplicit), (Str.ofString "half", NameKind.free), (Str.ofString "line", NameKind.free)], isGenerator := false, isCoroutine := false } (EX.loc (argX d_side_pieces.val [V.obj k, V.int h])) }) (fs_v (r := V.obj k) rfl <| fs_v s1 <| fs_v (r := V.obj k) rfl <| fs_v s2 <| fs_v (r := V.int h) rfl <| fs_s (@hp (n + 37) (σ ++ [Ob.list l'])) <| fs_nil) (by kernel_rfl)

noncomputable def vtri (t : Pt × Pt × Pt) : V := .tup [vp t.1, vp t.2.1, vp t.2.2]
/-- the corners of a line -/
noncomputable def cors (c : Bool) (l : List Pt) : List (Pt × Pt × Pt) := if c then (List.range l.length).map fun i => (at0 l (if i = 0 then l.length - 1 else i - 1), at0 l i, at0 l ((i + 1) % l.length))
  else (List.range (l.length - 2)).map fun i => (at0 l i, at0 l (i + 1), at0 l (i + 2))
theorem freeL_tri {P : List (Pt × Pt × Pt)} : freeL (P.map vtri) = true := by
  induction P with
  | nil => rfl
  | cons p P ih => rw [List.map_cons, freeL, ih]; simp [vtri, free, freeL, free_vp]

theorem fmod_cast {i m : Nat} : (((i + 1) % m : Nat) : Int) = ((i : Int) + 1).fmod m := by
  rw [Int.fmod_eq_emod_of_nonneg _ (Int.natCast_nonneg m)]
  rw [Int.natCast_emod, Int.natCast_add]
  rfl
theorem corners_t {k : Nat} {l : List Pt} (hk : σ[k]? = some (.list (l.map vp))) (hl : l.length ≤ 1000) (hl2 : 2 ≤ l.length) : callD (lvl (tbl r) (n + 60)) d_corners_of.1 [.obj k, .bool true] σ = some (.obj σ.length, σ ++ [.list ((cors true l).map vtri)]) := by
  have b1 : -1152921504606846976 < (l.length : Int) := by omega
  have b3 : (l.length : Int) ≤ 1000000 := by omega
  have hlen := lenP (T := tbl r) hk (by omega)
  refine callD_list'' rfl freeL_tri (Ret.args ?_)
  refine Ret.run_to (k := 1) (E1 := EX.up (argX d_corners_of.val [V.obj k, V.bool true]) (Str.ofString "many") (V.int (↑(List.length l) : Int))) (σ1 := σ) (fs_v hlen <| fs_nil) (by kernel_rfl) ?_
  refine Ret.if_t (σ1 := σ) rfl ((sx_tst (E := EX.up (argX d_corners_of.val [V.obj k, V.bool true]) (Str.ofString "many") (V.int (↑(List.length l) : Int))) (fs_nil) (by kernel_rfl))) ?_
  refine Ret.done (ret_comp (comp_rule (C := List.range l.length) (e := fun (i : Nat) => V.int i) (w := .rng 0 (l.length : Int)) (σ1 := σ) (fun _ => true) (fun i => vtri (at0 l (if i = 0 then l.length - 1 else i - 1), at0 l i, at0 l ((i + 1) % l.length))) rfl ?_ (fun l' => by rw [items_rng0 b1 b3, Int.toNat_natCast]) (fun i hi l' => ?_) (by rw [List.length_range]; unfold most; omega))) ⟨_, rfl, take_app tk0, Nat.le_refl _, by rw [gl_at, filter_tt]; unfold cors; rw [if_pos rfl, List.map_map]; rfl⟩
  · exact sx_ev (E := EX.up (argX d_corners_of.val [V.obj k, V.bool true]) (Str.ofString "many") (V.int (↑(List.length l) : Int))) (fs_nil) (by kernel_rfl)
  · have hi' : i < l.length := List.mem_range.mp hi
    have hk' := app_l (l := [.list l']) hk
    have s1 : subC (tbl r) (σ ++ [.list l']) (.obj k) (.int (i : Nat)) = some (vp (at0 l i)) := sub_at hk' (at0_get (by omega)) (by omega)
    have s2 : subC (tbl r) (σ ++ [.list l']) (.obj k) (.int ((i : Int) - 1)) = some (vp (at0 l (if i = 0 then l.length - 1 else i - 1))) := by
      by_cases h0 : i = 0
      · subst h0
        rw [if_pos rfl, show (((0 : Nat) : Int) - 1) = -1 from by decide]
        refine sub_last hk' ?_
        rw [List.getLast?_eq_getElem?, List.length_map]
        exact at0_get (by omega)
      · rw [if_neg h0]
        have := sub_at (T := tbl r) (j := i - 1) hk' (at0_get (l := l) (by omega)) (by omega)
        rwa [show ((i - 1 : Nat) : Int) = (i : Int) - 1 by omega] at this
    have s3 : subC (tbl r) (σ ++ [.list l']) (.obj k) (.int (((i : Int) + 1).fmod l.length)) = some (vp (at0 l ((i + 1) % l.length))) := by
      have hlt : (i + 1) % l.length < l.length := Nat.mod_lt _ (by (first | exact Nat.le_of_lt (by assumption) | exact Nat.lt_of_lt_of_le (by assumption) (by assumption) | exact Nat.le_trans (by assumption) (by assumption) | exact Nat.lt_succ_of_lt (by assumption)))
      have := sub_at (T := tbl r) (j := (i + 1) % l.length) hk' (at0_get (l := l) hlt) (by omega)
      rwa [fmod_cast] at this
    have hz : (l.length : Int) ≠ 0 := by omega
    refine ⟨_, rfl, tests_nil, fun _ => ?_⟩
    exact sx_ev (E := { l := [(Str.ofString "place", V.int (↑i : Int))], o := hide { kind := ScopeKind.function, names := [(Str.ofString ".0", NameKind.local), (Str.ofString "place", NameKind.local), (Str.ofString "many", NameKind.free), (Str.ofString "spots", NameKind.free)], isGenerator := false, isCoroutine := false } (EX.loc (EX.up (argX d_corners_of.val [V.obj k, V.bool true]) (Str.ofString "many") (V.int (↑(List.length l) : Int)))) }) (fs_v (r := V.obj k) rfl <| fs_v s2 <| fs_v (r := V.obj k) rfl <| fs_v s1 <| fs_v (r := V.obj k) rfl <| fs_v (r := V.int (↑(List.length l) : Int)) rfl <| fs_s (@mdC (σ ++ [Ob.list l']) ((↑i : Int) + 1) ((↑(List.length l) : Int)) hz) <| fs_v s3 <| fs_nil) (by kernel_rfl)

theorem corners_f {k : Nat} {l : List Pt} (hk : σ[k]? = some (.list (l.map vp))) (hl : l.length ≤ 1000) (hl2 : 2 ≤ l.length) : callD (lvl (tbl r) (n + 60)) d_corners_of.1 [.obj k, .bool false] σ = some (.obj σ.length, σ ++ [.list ((cors false l).map vtri)]) := by
  have b1 : -1152921504606846976 < (l.length : Int) - 1 := by omega
  have b2 : (l.length : Int) - 1 < 1152921504606846976 := by omega
  have b3 : (l.length : Int) - 1 - 1 ≤ 1000000 := by omega
  have hlen := lenP (T := tbl r) hk (by omega)
  refine callD_list'' rfl freeL_tri (Ret.args ?_)
  refine Ret.run_to (k := 2) (E1 := EX.up (argX d_corners_of.val [V.obj k, V.bool false]) (Str.ofString "many") (V.int (↑(List.length l) : Int))) (σ1 := σ) (fs_v hlen <| fs_b (r := false) rfl <| fs_nil) (by kernel_rfl) ?_
  refine Ret.done (ret_comp (comp_rule (C := List.range (l.length - 2)) (e := fun (i : Nat) => V.int (1 + i)) (w := .rng 1 ((l.length : Int) - 1)) (σ1 := σ) (fun _ => true) (fun i => vtri (at0 l i, at0 l (i + 1), at0 l (i + 2))) rfl ?_ (fun l' => by rw [items_rng (by decide) (by decide) b1 b2 b3, show ((l.length : Int) - 1 - 1).toNat = l.length - 2 by omega]) (fun i hi l' => ?_) (by rw [List.length_range]; unfold most; omega))) ⟨_, rfl, take_app tk0, Nat.le_refl _, by rw [gl_at, filter_tt]; unfold cors; rw [if_neg (by decide), List.map_map]; rfl⟩
  · exact sx_ev (E := EX.up (argX d_corners_of.val [V.obj k, V.bool false]) (Str.ofString "many") (V.int (↑(List.length l) : Int))) (fs_nil) (by kernel_rfl)
  · have hi' : i < l.length - 2 := List.mem_range.mp hi
    have hk' := app_l (l := [.list l']) hk
    have s1 : subC (tbl r) (σ ++ [.list l']) (.obj k) (.int (1 + (i : Int))) = some (vp (at0 l (i + 1))) := by
      have := sub_at (T := tbl r) (j := i + 1) hk' (at0_get (l := l) (by omega)) (by omega)
      rwa [show ((i + 1 : Nat) : Int) = 1 + (i : Int) by omega] at this
    have s2 : subC (tbl r) (σ ++ [.list l']) (.obj k) (.int (1 + (i : Int) - 1)) = some (vp (at0 l i)) := by
      have := sub_at (T := tbl r) (j := i) hk' (at0_get (l := l) (by omega)) (by omega)
      rwa [show ((i : Nat) : Int) = 1 + (i : Int) - 1 by lia] at this
    have s3 : subC (tbl r) (σ ++ [.list l']) (.obj k) (.int (1 + (i : Int) + 1)) = some (vp (at0 l (i + 2))) := by
      have := sub_at (T := tbl r) (j := i + 2) hk' (at0_get (l := l) (by omega)) (by omega)
      rwa [show ((i + 2 : Nat) : Int) = 1 + (i : Int) + 1 by omega] at this
    refine ⟨_, rfl, tests_nil, fun _ => ?_⟩
    exact sx_ev (E := { l := [(Str.ofString "place", V.int (1 + (↑i : Int)))], o := hide { kind := ScopeKind.function, names := [(Str.ofString ".0", NameKind.local), (Str.ofString "place", NameKind.local), (Str.ofString "spots", NameKind.free)], isGenerator := false, isCoroutine := false } (EX.loc (EX.up (argX d_corners_of.val [V.obj k, V.bool false]) (Str.ofString "many") (V.int (↑(List.length l) : Int)))) }) (fs_v (r := V.obj k) rfl <| fs_v s2 <| fs_v (r := V.obj k) rfl <| fs_v s1 <| fs_v (r := V.obj k) rfl <| fs_v s3 <| fs_nil) (by kernel_rfl)
end Mine
end
section
open PySem PySem.W PyProof.Rows PySem.Calls
set_option linter.unusedVariables false
set_option linter.unusedSimpArgs false
set_option maxRecDepth 100000
namespace Mine
variable {r : Nat → Option (List Int)} {T : Tbl} {F : Funs} {L : Loc} {σ : Sto} {n : Nat}

theorem run_list {α : Type} (l : List α) (a k : Nat) : ((List.range k).map (a + ·)).filterMap (l[·]?) = (l.drop a).take k := by
  have h := pick_run l.toArray a k
  rw [List.toList_toArray] at h
  rw [← h]
  simp
theorem sliceG_plain {α : Type} (l : List α) (lo hi : Option Int) : sliceG l lo hi none = (l.drop (lo.elim 0 (clipAt l.length))).take (hi.elim l.length (clipAt l.length) - lo.elim 0 (clipAt l.length)) := by
  unfold sliceG
  rw [sliceBounds_plain]
  simp only [sliceRange_one, run_list]
theorem slice_first {α : Type} (l : List α) : sliceG l none (some 1) none = l.take 1 := by
  rw [sliceG_plain]
  have e : clipAt l.length 1 = min 1 l.length := clipAt_nat l.length 1
  simp only [Option.elim, List.drop_zero, Nat.sub_zero, e]
  cases l with
  | nil => rfl
  | cons a l => rw [show min 1 (a :: l).length = 1 by simp]
theorem slice_tail {α : Type} (l : List α) : sliceG l (some 1) none none = l.drop 1 := by
  rw [sliceG_plain]
  have e : clipAt l.length 1 = min 1 l.length := clipAt_nat l.length 1
  simp only [Option.elim, e]
  cases l with
  | nil => rfl
  | cons a l => rw [show min 1 (a :: l).length = 1 by simp, List.take_of_length_le (by simp)]
theorem slice_init {α : Type} (l : List α) : sliceG l none (some (-1)) none = l.dropLast := by
  rw [sliceG_plain]
  have e : clipAt l.length (-1) = l.length - 1 := clipAt_neg l.length 1 (by decide)
  simp only [Option.elim, List.drop_zero, Nat.sub_zero, e]
  rw [List.dropLast_eq_take]
theorem slice_rev {α : Type} (l : List α) : sliceG l none none (some (-1)) = l.reverse := by
  unfold sliceG
  rw [krv_bounds]
  show (sliceRange ((l.length : Int) - 1) (-1) (-1)).filterMap (l[·]?) = _
  rw [krv_sliceRange, krv_range, List.filterMap_reverse]
  have := run_list l 0 l.length
  rw [List.drop_zero, List.take_of_length_le (Nat.le_refl _), show ((0 + ·) : Nat → Nat) = id from funext fun k => Nat.zero_add k, List.map_id] at this
  rw [this]

theorem mi_style : (tbl r).meth "Style" "__init__" = some m_style_init.1 := by kernel_rfl
theorem df_style : (tbl r).dfl "Style" = [.str "miter", .str "butt", .tup [.int 4, .int 1], .tup [], .int 0] := by kernel_rfl
/-- a style's fields -/
noncomputable def stl (w : Int) (jn kd : Bool) : List (Str × V) := [("width", .int w), ("join", jnV jn), ("cap", kdV kd), ("limit", .tup [.int 1, .int 1]), ("dashes", .tup []), ("start", .int 0)]
theorem half_c {w : Int} {jn kd : Bool} {k : Nat} (hk : σ[k]? = some (.inst "Style" (stl w jn kd))) : callD (lvl (tbl r) (n + 20)) m_style_half.1 [.obj k] σ = some (.int (w.fdiv 2), σ) := by
  refine callD_pure0 rfl rfl ?_
  exact run_sx (fs_o hk <| fs_s (@fdC σ w 2 (by omega) (by lia)) <| fs_nil) (by kernel_rfl)

theorem style_c {w : Int} {jn kd : Bool} : mkC (tbl r) (lvl (tbl r) (n + 30)) "Style" [.int w, jnV jn, kdV kd, .tup [.int 1, .int 1]] σ = some (.obj σ.length, σ ++ [.inst "Style" (stl w jn kd)]) := by
  have le := Nat.le_refl σ.length
  have h0 : σ.length < (σ ++ [Ob.inst "Style" []]).length := lt_new
  have tk : (σ ++ [Ob.inst "Style" []]).take σ.length = σ := take_app tk0
  refine mkC_of (all := [.obj σ.length, .int w, jnV jn, kdV kd, .tup [.int 1, .int 1], .tup [], .int 0]) mi_style (by rw [df_style]; rfl) rfl (sx_run (fl := Fl.next) (σ' := List.set (List.set (List.set (List.set (List.set (List.set (σ ++ [Ob.inst (Str.ofString "Style") []]) (List.length σ) (Ob.inst (Str.ofString "Style") (putF (Str.ofString "width") (V.int w) []))) (List.length σ) (Ob.inst (Str.ofString "Style") (putF (Str.ofString "join") (jnV jn) (putF (Str.ofString "width") (V.int w) [])))) (List.length σ) (Ob.inst (Str.ofString "Style") (putF (Str.ofString "cap") (kdV kd) (putF (Str.ofString "join") (jnV jn) (putF (Str.ofString "width") (V.int w) []))))) (List.length σ) (Ob.inst (Str.ofString "Style") (putF (Str.ofString "limit") (V.tup [V.int 1, V.int 1]) (putF (Str.ofString "cap") (kdV kd) (putF (Str.ofString "join") (jnV jn) (putF (Str.ofString "width") (V.int w) [])))))) (List.length σ) (Ob.inst (Str.ofString "Style") (putF (Str.ofString "dashes") (V.tup []) (putF (Str.ofString "limit") (V.tup [V.int 1, V.int 1]) (putF (Str.ofString "cap") (kdV kd) (putF (Str.ofString "join") (jnV jn) (putF (Str.ofString "width") (V.int w) []))))))) (List.length σ) (Ob.inst (Str.ofString "Style") (putF (Str.ofString "start") (V.int 0) (putF (Str.ofString "dashes") (V.tup []) (putF (Str.ofString "limit") (V.tup [V.int 1, V.int 1]) (putF (Str.ofString "cap") (kdV kd) (putF (Str.ofString "join") (jnV jn) (putF (Str.ofString "width") (V.int w) [])))))))) (fs_o (@gl_at σ (Ob.inst (Str.ofString "Style") []) []) <| fs_o (@set_at (σ ++ [Ob.inst (Str.ofString "Style") []]) (List.length σ) (Ob.inst (Str.ofString "Style") (putF (Str.ofString "width") (V.int w) [])) h0) <| fs_o (@set_at (List.set (σ ++ [Ob.inst (Str.ofString "Style") []]) (List.length σ) (Ob.inst (Str.ofString "Style") (putF (Str.ofString "width") (V.int w) []))) (List.length σ) (Ob.inst (Str.ofString "Style") (putF (Str.ofString "join") (jnV jn) (putF (Str.ofString "width") (V.int w) []))) (by repeat' first | exact lt_new | refine' lt_set ?_ | refine' lt_app ?_ | assumption)) <| fs_o (@set_at (List.set (List.set (σ ++ [Ob.inst (Str.ofString "Style") []]) (List.length σ) (Ob.inst (Str.ofString "Style") (putF (Str.ofString "width") (V.int w) []))) (List.length σ) (Ob.inst (Str.ofString "Style") (putF (Str.ofString "join") (jnV jn) (putF (Str.ofString "width") (V.int w) [])))) (List.length σ) (Ob.inst (Str.ofString "Style") (putF (Str.ofString "cap") (kdV kd) (putF (Str.ofString "join") (jnV jn) (putF (Str.ofString "width") (V.int w) [])))) (by repeat' first | exact lt_new | refine' lt_set ?_ | refine' lt_app ?_ | assumption)) <| fs_v (by kernel_rfl : biC (tbl r) Bi.tuple [V.tup []] (List.set (List.set (List.set (List.set (σ ++ [Ob.inst (Str.ofString "Style") []]) (List.length σ) (Ob.inst (Str.ofString "Style") (putF (Str.ofString "width") (V.int w) []))) (List.length σ) (Ob.inst (Str.ofString "Style") (putF (Str.ofString "join") (jnV jn) (putF (Str.ofString "width") (V.int w) [])))) (List.length σ) (Ob.inst (Str.ofString "Style") (putF (Str.ofString "cap") (kdV kd) (putF (Str.ofString "join") (jnV jn) (putF (Str.ofString "width") (V.int w) []))))) (List.length σ) (Ob.inst (Str.ofString "Style") (putF (Str.ofString "limit") (V.tup [V.int 1, V.int 1]) (putF (Str.ofString "cap") (kdV kd) (putF (Str.ofString "join") (jnV jn) (putF (Str.ofString "width") (V.int w) [])))))) = some (V.tup [])) <| fs_o (@set_at (List.set (List.set (List.set (σ ++ [Ob.inst (Str.ofString "Style") []]) (List.length σ) (Ob.inst (Str.ofString "Style") (putF (Str.ofString "width") (V.int w) []))) (List.length σ) (Ob.inst (Str.ofString "Style") (putF (Str.ofString "join") (jnV jn) (putF (Str.ofString "width") (V.int w) [])))) (List.length σ) (Ob.inst (Str.ofString "Style") (putF (Str.ofString "cap") (kdV kd) (putF (Str.ofString "join") (jnV jn) (putF (Str.ofString "width") (V.int w) []))))) (List.length σ) (Ob.inst (Str.ofString "Style") (putF (Str.ofString "limit") (V.tup [V.int 1, V.int 1]) (putF (Str.ofString "cap") (kdV kd) (putF (Str.ofString "join") (jnV jn) (putF (Str.ofString "width") (V.int w) []))))) (by repeat' first | exact lt_new | refine' lt_set ?_ | refine' lt_app ?_ | assumption)) <| fs_o (@set_at (List.set (List.set (List.set (List.set (σ ++ [Ob.inst (Str.ofString "Style") []]) (List.length σ) (Ob.inst (Str.ofString "Style") (putF (Str.ofString "width") (V.int w) []))) (List.length σ) (Ob.inst (Str.ofString "Style") (putF (Str.ofString "join") (jnV jn) (putF (Str.ofString "width") (V.int w) [])))) (List.length σ) (Ob.inst (Str.ofString "Style") (putF (Str.ofString "cap") (kdV kd) (putF (Str.ofString "join") (jnV jn) (putF (Str.ofString "width") (V.int w) []))))) (List.length σ) (Ob.inst (Str.ofString "Style") (putF (Str.ofString "limit") (V.tup [V.int 1, V.int 1]) (putF (Str.ofString "cap") (kdV kd) (putF (Str.ofString "join") (jnV jn) (putF (Str.ofString "width") (V.int w) [])))))) (List.length σ) (Ob.inst (Str.ofString "Style") (putF (Str.ofString "dashes") (V.tup []) (putF (Str.ofString "limit") (V.tup [V.int 1, V.int 1]) (putF (Str.ofString "cap") (kdV kd) (putF (Str.ofString "join") (jnV jn) (putF (Str.ofString "width") (V.int w) [])))))) (by repeat' first | exact lt_new | refine' lt_set ?_ | refine' lt_app ?_ | assumption)) <| fs_nil) (by kernel_rfl)) (take_set (take_set (take_set (take_set (take_set (take_set tk le) le) le) le) le) le) (by rw [set_at (lt_set (lt_set (lt_set (lt_set (lt_set h0)))))]; kernel_rfl) ?_
  cases jn <;> cases kd <;> rfl

/-- corners that lie apart -/
noncomputable def ApartC (C : List (Pt × Pt × Pt)) : Prop := ∀ t ∈ C, Sd t.1 t.2.1 ∧ Sd t.2.1 t.2.2
noncomputable def crnT (h : Int) (t : Pt × Pt × Pt) : List Pt := crn t.1 t.2.1 t.2.2 h

theorem join_pieces_c {k s : Nat} {C : List (Pt × Pt × Pt)} {w : Int} {jn kd : Bool} {st : Int} (hk : σ[k]? = some (.list (C.map vtri))) (hs : σ[s]? = some (.inst "Style" (stl w jn kd))) (ha : ApartC C) (hl : C.length ≤ 1000) (hh : Hf (w.fdiv 2)) : callD (lvl (tbl r) (n + 150)) d_join_pieces.1 [.obj k, .obj s, .int st] σ = some (.obj σ.length, σ ++ [.list ((C.map (crnT (w.fdiv 2))).map vps)]) := by
  refine callD_list'' rfl freeL_pcs (Ret.args ?_)
  have hh2 := fun j => half_c (r := r) (n := j) hs
  refine Ret.run_to (k := 1) (E1 := EX.up (argX d_join_pieces.val [V.obj k, V.obj s, V.int st]) (Str.ofString "half") (V.int (Int.fdiv w 2))) (σ1 := σ) (fs_o hs <| fs_s (@hh2 (n + 128)) <| fs_nil) (by kernel_rfl) ?_
  refine Ret.done (ret_comp (comp_rule (C := C) (e := vtri) (w := .obj k) (σ1 := σ) (fun _ => true) (fun t => vps (crnT (w.fdiv 2) t)) rfl ?_ (fun l => items_obj (app_l hk) (by rw [List.length_map]; omega)) (fun t ht l => ?_) (by unfold most; omega))) ⟨_, rfl, take_app tk0, Nat.le_refl _, by rw [gl_at, filter_tt, List.map_map]; rfl⟩
  · exact sx_ev (E := EX.up (argX d_join_pieces.val [V.obj k, V.obj s, V.int st]) (Str.ofString "half") (V.int (Int.fdiv w 2))) (fs_nil) (by kernel_rfl)
  · obtain ⟨s1, s2⟩ := ha t ht
    have hs' := app_l (l := [.list l]) hs
    have hj := fun j τ => join_c (r := r) (n := j) (σ := τ) (jn := jn) (st := st) s1 s2 hh
    refine ⟨_, bindT_tup, tests_nil, fun _ => ?_⟩
    exact sx_ev (E := { l := [], o := updL (hide { kind := ScopeKind.function, names := [(Str.ofString ".0", NameKind.local), (Str.ofString "ahead", NameKind.local), (Str.ofString "spot", NameKind.local), (Str.ofString "behind", NameKind.local), (Str.ofString "join_spots", NameKind.globalImplicit), (Str.ofString "half", NameKind.free), (Str.ofString "steps", NameKind.free), (Str.ofString "style", NameKind.free)], isGenerator := false, isCoroutine := false } (EX.loc (EX.up (argX d_join_pieces.val [V.obj k, V.obj s, V.int st]) (Str.ofString "half") (V.int (Int.fdiv w 2))))) ((fun (x : List Str) ↦ Str.ofString "ahead" :: x) ((fun (x : List Str) ↦ Str.ofString "spot" :: x) ((fun (x : List Str) ↦ Str.ofString "behind" :: x) []))) [vp t.fst, vp t.snd.fst, vp t.snd.snd] }) (fs_v (r := V.obj s) rfl <| fs_o hs' <| fs_v (r := vp t.fst) rfl <| fs_v (r := vp t.snd.fst) rfl <| fs_v (r := vp t.snd.snd) rfl <| fs_v (r := V.int (Int.fdiv w 2)) rfl <| fs_v (r := V.obj s) rfl <| fs_o hs' <| fs_v (r := V.int st) rfl <| fs_s (@hj (n + 47) (σ ++ [Ob.list l])) <| fs_nil) (by kernel_rfl)
end Mine
end
section
open PySem PySem.W PyProof.Rows PySem.Calls
set_option linter.unusedVariables false
set_option linter.unusedSimpArgs false
set_option maxRecDepth 100000
namespace Mine
variable {r : Nat → Option (List Int)} {T : Tbl} {F : Funs} {L : Loc} {σ : Sto} {n : Nat}

theorem get_take {σ0 : Sto} {k : Nat} {o : Ob} (h : σ.take σ0.length = σ0) (hk : σ0[k]? = some o) : σ[k]? = some o := by
  have hlt := lt_of hk
  rw [← h, List.getElem?_take_of_lt hlt] at hk
  exact hk

/-- neighbours differ -/
noncomputable def Nb (l : List Pt) : Prop := ∀ i, i + 1 < l.length → at0 l i ≠ at0 l (i + 1)
noncomputable def Box (l : List Pt) : Prop := ∀ p ∈ l, (-100 ≤ p.1 ∧ p.1 ≤ 100) ∧ (-100 ≤ p.2 ∧ p.2 ≤ 100)
theorem at0_app_l {l m : List Pt} {i : Nat} (h : i < l.length) : at0 (l ++ m) i = at0 l i := by
  unfold at0; rw [List.getD_eq_getElem?_getD, List.getD_eq_getElem?_getD, List.getElem?_append_left h]
theorem at0_app_r {l : List Pt} {p : Pt} : at0 (l ++ [p]) l.length = p := by
  unfold at0; rw [List.getD_eq_getElem?_getD, List.getElem?_append_right (Nat.le_refl _)]; simp
theorem at0_last {l : List Pt} {p : Pt} (h : l.getLast? = some p) : at0 l (l.length - 1) = p := by
  rw [List.getLast?_eq_getElem?] at h
  unfold at0; rw [List.getD_eq_getElem?_getD, h]; rfl
theorem at0_head {l : List Pt} {p : Pt} (h : l.head? = some p) : at0 l 0 = p := by
  rw [List.head?_eq_getElem?] at h
  unfold at0; rw [List.getD_eq_getElem?_getD, h]; rfl
theorem at0_mem {l : List Pt} {i : Nat} (h : i < l.length) : at0 l i ∈ l := by
  unfold at0; rw [List.getD_eq_getElem?_getD, List.getElem?_eq_getElem h]; exact List.getElem_mem h
theorem at0_drop {l : List Pt} {i : Nat} (h : i < l.length - 1) : at0 l.dropLast i = at0 l i := by
  unfold at0; rw [List.getD_eq_getElem?_getD, List.getD_eq_getElem?_getD, List.getElem?_dropLast, if_pos h]
theorem last_some {l : List Pt} (h : l ≠ []) : l.getLast? = some (at0 l (l.length - 1)) := by
  cases hh : l.getLast? with
  | none => exact absurd (List.getLast?_eq_none_iff.mp hh) h
  | some q => rw [at0_last hh]
theorem head_some {l : List Pt} (h : l ≠ []) : l.head? = some (at0 l 0) := by
  cases hh : l.head? with
  | none => exact absurd (List.head?_eq_none_iff.mp hh) h
  | some q => rw [at0_head hh]
theorem Nb.nil : Nb [] := fun i h => by simp at h
theorem Nb.snoc {l : List Pt} {p : Pt} (h : Nb l) (hp : l = [] ∨ l.getLast? ≠ some p) : Nb (l ++ [p]) := by
  intro i hi
  rw [List.length_append, List.length_singleton] at hi
  by_cases h1 : i + 1 < l.length
  · rw [at0_app_l (by omega), at0_app_l h1]; exact h i h1
  · have e : i + 1 = l.length := by omega
    rw [e, at0_app_r, at0_app_l (by omega)]
    intro hq
    have hne : l ≠ [] := by intro h0; rw [h0] at e; simp at e
    rcases hp with hp | hp
    · exact hne hp
    · apply hp
      rw [last_some hne, show l.length - 1 = i by omega, hq]
theorem Nb.ddS {l : List Pt} {p : Pt} (h : Nb l) : Nb (ddS l p) := by
  unfold Mine.ddS
  split
  · exact h.snoc ‹_›
  · exact h
theorem Nb.dd {l : List Pt} : Nb (dd l) := by
  unfold Mine.dd
  have key : ∀ (l acc : List Pt), Nb acc → Nb (l.foldl Mine.ddS acc) := by
    intro l
    induction l with
    | nil => intro acc h; exact h
    | cons p l ih => intro acc h; exact ih _ h.ddS
  exact key l [] Nb.nil
theorem Nb.drop {l : List Pt} (h : Nb l) : Nb l.dropLast := by
  intro i hi
  rw [List.length_dropLast] at hi
  rw [at0_drop (by omega), at0_drop (by omega)]
  exact h i (by omega)
theorem stripF_ok : ∀ (m : Nat) (l : List Pt), l.length ≤ m → Nb l → Nb (stripF m l) ∧ (1 < (stripF m l).length → (stripF m l).getLast? ≠ (stripF m l).head?) ∧ (∀ p ∈ stripF m l, p ∈ l) ∧ (stripF m l).length ≤ l.length := by
  intro m
  induction m with
  | zero =>
    intro l hl h
    have : l = [] := List.length_eq_zero_iff.mp (by omega)
    subst this
    exact ⟨h, fun h => by simp [stripF] at h, fun p hp => hp, Nat.le_refl _⟩
  | succ m ih =>
    intro l hl h
    unfold stripF
    split
    · rename_i hc
      obtain ⟨a, b, c, d⟩ := ih l.dropLast (by rw [List.length_dropLast]; omega) h.drop
      exact ⟨a, b, fun p hp => List.dropLast_subset _ (c p hp), by rw [List.length_dropLast] at d; omega⟩
    · rename_i hc
      exact ⟨h, fun h1 h2 => hc ⟨h1, h2⟩, fun p hp => hp, Nat.le_refl _⟩
theorem dd_sub {l : List Pt} : ∀ p ∈ dd l, p ∈ l := by
  unfold dd
  have key : ∀ (l acc : List Pt), ∀ p ∈ l.foldl ddS acc, p ∈ acc ∨ p ∈ l := by
    intro l
    induction l with
    | nil => intro acc p h; exact .inl h
    | cons q l ih =>
      intro acc p h
      rcases ih _ p h with h | h
      · unfold ddS at h
        split at h
        · rcases List.mem_append.mp h with h | h
          · exact .inl h
          · rw [List.mem_singleton] at h; subst h; exact .inr (.head _)
        · exact .inl h
      · exact .inr (.tail _ h)
  intro p h
  rcases key l [] p h with h | h
  · cases h
  · exact h
theorem dd_len {l : List Pt} : (dd l).length ≤ l.length := by
  unfold dd
  have key : ∀ (l acc : List Pt), (l.foldl ddS acc).length ≤ acc.length + l.length := by
    intro l
    induction l with
    | nil => intro acc; exact Nat.le_refl _
    | cons q l ih =>
      intro acc
      refine Nat.le_trans (ih _) ?_
      unfold ddS
      split <;> simp <;> omega
  simpa using key l []

structure Fine (c : Bool) (m : List Pt) : Prop where
  nb : Nb m
  cy : c = true → 1 < m.length → at0 m (m.length - 1) ≠ at0 m 0
  bx : Box m
theorem pln_fine {c : Bool} {l : List Pt} (h : Box l) : Fine c (pln c l) ∧ (pln c l).length ≤ l.length := by
  unfold pln
  cases c with
  | false => exact ⟨⟨Nb.dd, fun h => (nomatch h), fun p hp => h p (dd_sub p hp)⟩, dd_len⟩
  | true =>
    obtain ⟨a, b, c, d⟩ := stripF_ok (dd l).length (dd l) (Nat.le_refl _) Nb.dd
    refine ⟨⟨a, fun _ h1 e => ?_, fun p hp => h p (dd_sub p (c p hp))⟩, Nat.le_trans d dd_len⟩
    have hne : strip (dd l) ≠ [] := by intro h0; rw [if_pos rfl, h0] at h1; simp at h1
    refine b h1 ?_
    show (strip (dd l)).getLast? = (strip (dd l)).head?
    rw [last_some hne, head_some hne]
    exact congrArg some e
theorem sd_of {m : List Pt} {i j : Nat} (h : Box m) (hi : i < m.length) (hj : j < m.length) (hne : at0 m i ≠ at0 m j) : Sd (at0 m i) (at0 m j) := by
  obtain ⟨⟨a1, a2⟩, a3, a4⟩ := h _ (at0_mem hi)
  obtain ⟨⟨b1, b2⟩, b3, b4⟩ := h _ (at0_mem hj)
  exact ⟨by omega, by omega, by omega, by omega, hne⟩
theorem Fine.apart {c : Bool} {m : List Pt} (h : Fine c m) : Apart m := fun i hi => sd_of h.bx (by omega) hi (h.nb i hi)
theorem Fine.around {m : List Pt} (h : Fine true m) (h2 : 2 ≤ m.length) : Apart (m ++ m.take 1) := by
  have e : m.take 1 = [at0 m 0] := by
    cases m with
    | nil => simp at h2
    | cons a m => rfl
  rw [e]
  have hb : Box (m ++ [at0 m 0]) := by
    intro p hp
    rcases List.mem_append.mp hp with hp | hp
    · exact h.bx p hp
    · rw [List.mem_singleton] at hp; subst hp; exact h.bx _ (at0_mem (by omega))
  intro i hi
  refine sd_of hb (by omega) hi ?_
  rw [List.length_append, List.length_singleton] at hi
  by_cases h1 : i + 1 < m.length
  · rw [at0_app_l (by omega), at0_app_l h1]; exact h.nb i h1
  · rw [show i + 1 = m.length by omega, at0_app_r, at0_app_l (by omega), show i = m.length - 1 by omega]
    exact h.cy rfl (by omega)
theorem Fine.cors {c : Bool} {m : List Pt} (h : Fine c m) (h2 : 2 ≤ m.length) : ApartC (cors c m) := by
  intro t ht
  unfold Mine.cors at ht
  cases c with
  | false =>
    rw [if_neg (by decide)] at ht
    obtain ⟨i, hi, rfl⟩ := List.mem_map.mp ht
    have := List.mem_range.mp hi
    exact ⟨h.apart i (by omega), h.apart (i + 1) (by omega)⟩
  | true =>
    rw [if_pos rfl] at ht
    obtain ⟨i, hi, rfl⟩ := List.mem_map.mp ht
    have hi' := List.mem_range.mp hi
    constructor
    · dsimp only
      by_cases h0 : i = 0
      · rw [if_pos h0, h0]
        exact sd_of h.bx (by omega) (by omega) (h.cy rfl (by omega))
      · rw [if_neg h0]
        have := h.apart (i - 1) (by omega)
        rwa [show i - 1 + 1 = i by omega] at this
    · dsimp only
      by_cases h0 : i + 1 < m.length
      · rw [Nat.mod_eq_of_lt h0]; exact h.apart i h0
      · have e : i + 1 = m.length := by omega
        rw [e, Nat.mod_self, show i = m.length - 1 by omega]
        exact sd_of h.bx (by omega) (by omega) (h.cy rfl (by omega))
theorem Sd.symm {p q : Pt} (h : Sd p q) : Sd q p := by
  obtain ⟨a, b, c, d, e⟩ := h
  exact ⟨by omega, by omega, by omega, by omega, e.symm⟩
theorem Fine.c1 {c : Bool} {m : List Pt} (h : Fine c m) (h2 : 2 ≤ m.length) : Sd (at0 m 1) (at0 m 0) := (h.apart 0 (by omega)).symm
theorem Fine.c2 {c : Bool} {m : List Pt} (h : Fine c m) (h2 : 2 ≤ m.length) : Sd (at0 m (m.length - 2)) (at0 m (m.length - 1)) := by
  have := h.apart (m.length - 2) (by omega)
  rwa [show m.length - 2 + 1 = m.length - 1 by omega] at this

/-- a line's pieces, when it has two spots or more -/
noncomputable def pcs (c kd : Bool) (m : List Pt) (h : Int) : List (List Pt) := sides (if c then m ++ m.take 1 else m) h ++ (cors c m).map (crnT h) ++ (if c then [] else [capOf kd (at0 m 1) (at0 m 0) h, capOf kd (at0 m (m.length - 2)) (at0 m (m.length - 1)) h])
noncomputable def pieces (c kd : Bool) (l : List Pt) (h : Int) : List (List Pt) :=
  if pln c l = [] then [] else if (pln c l).length = 1 then [dotOf kd (at0 (pln c l) 0) h] else pcs c kd (pln c l) h
end Mine
end
section
open PySem PySem.W PyProof.Rows PySem.Calls
set_option linter.unusedVariables false
set_option linter.unusedSimpArgs false
set_option maxRecDepth 100000
namespace Mine
variable {r : Nat → Option (List Int)} {T : Tbl} {F : Funs} {L : Loc} {σ : Sto} {n : Nat}

theorem sub_last2 {k : Nat} {m : List Pt} (h : σ[k]? = some (.list (m.map vp))) (h2 : 2 ≤ m.length) : subC T σ (.obj k) (.int (-2)) = some (vp (at0 m (m.length - 2))) := by
  rw [subC_obj, h]
  dsimp only
  rw [if_pos (by decide)]
  unfold getAt place
  rw [if_neg (by decide), List.length_map, if_pos (by omega)]
  show (m.map vp)[((-2 : Int) + m.length).toNat]? = _
  rw [show ((-2 : Int) + m.length).toNat = m.length - 2 by omega]
  exact at0_get (by omega)
theorem stroked_line_c {s : Nat} {c : Bool} {l : List Pt} {w : Int} {jn kd : Bool} {st : Int} (hs : σ[s]? = some (.inst "Style" (stl w jn kd))) (hb : Box l) (hl : l.length ≤ 100) (hh : Hf (w.fdiv 2)) : callD (lvl (tbl r) (n + 160)) d_stroked_line.1 [.tup [vps l, .bool c], .obj s, .int st] σ = some (.obj σ.length, σ ++ [.list ((pieces c kd l (w.fdiv 2)).map vps)]) := by
  refine callD_list'' rfl freeL_pcs (Ret.args ?_)
  obtain ⟨k, σ1, p1, p2, p3, p4⟩ := plain_line_c (r := r) (σ := σ) (n := n + 98) (c := c) (l := l) (by (first | assumption | (apply Nat.le_trans; assumption; exact Nat.le_of_ble_eq_true rfl))) (by omega)
  obtain ⟨hf, hlen⟩ := pln_fine (c := c) hb
  generalize hm : pln c l = m at *
  have hs1 := get_take p2 hs
  have k1 := lt_of p4
  have hm1 : m.length ≤ 1000 := by omega
  have hm' : m.length ≤ 1000000 := by (first | assumption | (apply Nat.le_trans; assumption; exact Nat.le_of_ble_eq_true rfl))
  have em : cmpS .Eq (σ1 ++ [.list []]) (.obj k) (.obj σ1.length) = some (decide (m = [])) := cmp_emp (app_l p4) gl_at
  rw [show n + 98 + 60 = n + 158 from rfl] at p1
  have le1 : σ.length ≤ (σ1 ++ [Ob.list []]).length := ext_le (take_app p2)
  by_cases h0 : m = []
  · refine Ret.fin (v := V.obj (List.length (σ1 ++ [Ob.list []]))) (σ' := σ1 ++ [Ob.list []] ++ [Ob.list []]) (fs_s p1 <| fs_o hs1 <| fs_s (@half_c r σ1 (n + 138) w jn kd s hs1) <| fs_c em <| fs_t (p := m = []) h0 <| fs_nil) (by kernel_rfl) ?_
    exact ⟨_, rfl, take_app (take_app p2), le1, by rw [gl_at]; simp [pieces, hm, h0]⟩
  · have e0 : ∀ τ, τ[k]? = some (.list (m.map vp)) → subC (tbl r) τ (.obj k) (.int 0) = some (vp (at0 m 0)) := fun τ h => sub_0 h (by rw [List.head?_map, head_some h0]; rfl)
    by_cases h1 : m.length = 1
    · have h1' : ((m.length : Nat) : Int) = 1 := by grind
      refine Ret.fin (v := V.obj (List.length (σ1 ++ [Ob.list []]))) (σ' := σ1 ++ [Ob.list []] ++ [Ob.list [vps (dotOf kd (at0 m 0) (Int.fdiv w 2))]]) (fs_s p1 <| fs_o hs1 <| fs_s (@half_c r σ1 (n + 138) w jn kd s hs1) <| fs_c em <| fs_f (p := m = []) h0 <| fs_v (@lenP (tbl r) (σ1 ++ [Ob.list []]) k m (app_l (by with_reducible assumption)) hm') <| fs_c (@cmp_eqi (σ1 ++ [Ob.list []]) ((↑(List.length m) : Int)) 1) <| fs_t (p := (↑(List.length m) : Int) = 1) h1' <| fs_o (@app_l σ1 s (Ob.inst (Str.ofString "Style") (stl w jn kd)) ([Ob.list []]) hs1) <| fs_v (@e0 (σ1 ++ [Ob.list []]) (app_l (by with_reducible assumption))) <| fs_s (@dot_spots_c r (σ1 ++ [Ob.list []]) (n + 96) kd (at0 m 0) (Int.fdiv w 2) st) <| fs_nil) (by kernel_rfl) ?_
      exact ⟨_, rfl, take_app (take_app p2), le1, by rw [gl_at]; simp [pieces, hm, h0, h1]⟩
    · have h2 : 2 ≤ m.length := by
        have := List.length_pos_iff.mpr h0
        lia
      have h1' : ¬ (m.length : Int) = 1 := by omega
      have et' : m.take 1 = [at0 m 0] := by
        cases m with
        | nil => exact absurd rfl h0
        | cons a m => rfl
      cases c with
      | true =>
        rw [show (true && decide (1 < m.length)) = true by rw [decide_eq_true (show 1 < m.length by (first | assumption | (apply Nat.le_trans; assumption; exact Nat.le_of_ble_eq_true rfl)))]; rfl] at p1
        have hsl : (decide ((none : Option Int) ≠ some 0) && decide ((m.map vp).length ≤ most)) = true := by rw [List.length_map, decide_eq_true (show m.length ≤ most from hm')]; rfl
        have esl : m.map vp ++ sliceG (m.map vp) none (some 1) none = (m ++ [at0 m 0]).map vp := by rw [slice_first, ← List.map_take, et', List.map_append]
        have hadd : ∀ τ j, τ[k]? = some (.list (m.map vp)) → τ[j]? = some (.list (sliceG (m.map vp) none (some 1) none)) → binS .Add τ (.obj k) (.obj j) = some (.obj τ.length, τ ++ [.list ((m ++ [at0 m 0]).map vp)]) := fun τ j a b => by
          rw [addC a b (by rw [slice_first, List.length_map, List.length_take]; omega), esl]
        have hsd : ∀ j τ i, τ[i]? = some (.list ((m ++ [at0 m 0]).map vp)) → callD (lvl (tbl r) (j + 120)) d_side_pieces.1 [.obj i, .int (w.fdiv 2)] τ = some (.obj τ.length, τ ++ [.list ((sides (m ++ [at0 m 0]) (w.fdiv 2)).map vps)]) := fun j τ i a => side_pieces_c a (by rw [← et']; exact hf.around h2) (by rw [List.length_append]; show m.length + 1 ≤ 1000; omega) hh
        have hcn : ∀ j τ, τ[k]? = some (.list (m.map vp)) → callD (lvl (tbl r) (j + 60)) d_corners_of.1 [.obj k, .bool true] τ = some (.obj τ.length, τ ++ [.list ((cors true m).map vtri)]) := fun j τ a => corners_t a hm1 h2
        have hjn : ∀ j τ i, τ[i]? = some (.list ((cors true m).map vtri)) → τ[s]? = some (.inst "Style" (stl w jn kd)) → callD (lvl (tbl r) (j + 150)) d_join_pieces.1 [.obj i, .obj s, .int st] τ = some (.obj τ.length, τ ++ [.list (((cors true m).map (crnT (w.fdiv 2))).map vps)]) := fun j τ i a b => join_pieces_c a b (hf.cors h2) (by unfold cors; rw [if_pos rfl, List.length_map, List.length_range]; exact hm1) hh
        have hex : ∀ τ i j, τ[j]? = some (.list (((cors true m).map (crnT (w.fdiv 2))).map vps)) → i < j → listM "extend" i ((sides (m ++ [at0 m 0]) (w.fdiv 2)).map vps) [.obj j] τ = some (.none, τ.set i (.list (((sides (m ++ [at0 m 0]) (w.fdiv 2)) ++ ((cors true m).map (crnT (w.fdiv 2)))).map vps))) := fun τ i j a b => by
          rw [extC a (Nat.ne_of_gt b) (by unfold sides cors; simp; omega), List.map_append]
        refine Ret.fin (v := V.obj (List.length (σ1 ++ [Ob.list []] ++ [Ob.list (sliceG (List.map vp m) none (some 1) none)] ++ [Ob.list (List.map vp (m ++ [at0 m 0]))]))) (σ' := List.set (σ1 ++ [Ob.list []] ++ [Ob.list (sliceG (List.map vp m) none (some 1) none)] ++ [Ob.list (List.map vp (m ++ [at0 m 0]))] ++ [Ob.list (List.map vps (sides (m ++ [at0 m 0]) (Int.fdiv w 2)))] ++ [Ob.list (List.map vtri (cors true m))] ++ [Ob.list (List.map vps (List.map (crnT (Int.fdiv w 2)) (cors true m)))]) (List.length (σ1 ++ [Ob.list []] ++ [Ob.list (sliceG (List.map vp m) none (some 1) none)] ++ [Ob.list (List.map vp (m ++ [at0 m 0]))])) (Ob.list (List.map vps (sides (m ++ [at0 m 0]) (Int.fdiv w 2) ++ List.map (crnT (Int.fdiv w 2)) (cors true m))))) (fs_s p1 <| fs_o hs1 <| fs_s (@half_c r σ1 (n + 138) w jn kd s hs1) <| fs_c em <| fs_f (p := m = []) h0 <| fs_v (@lenP (tbl r) (σ1 ++ [Ob.list []]) k m (app_l (by with_reducible assumption)) hm') <| fs_c (@cmp_eqi (σ1 ++ [Ob.list []]) ((↑(List.length m) : Int)) 1) <| fs_f (p := (↑(List.length m) : Int) = 1) h1' <| fs_b (r := true) rfl <| fs_o (@app_l σ1 k (Ob.list (List.map vp m)) ([Ob.list []]) p4) <| fs_b hsl <| fs_s (@hadd (σ1 ++ [Ob.list []] ++ [Ob.list (sliceG (List.map vp m) none (some 1) none)]) (List.length (σ1 ++ [Ob.list []])) (app_l (app_l (by with_reducible assumption))) (gl_at)) <| fs_s (@hsd (n + 38) (σ1 ++ [Ob.list []] ++ [Ob.list (sliceG (List.map vp m) none (some 1) none)] ++ [Ob.list (List.map vp (m ++ [at0 m 0]))]) (List.length (σ1 ++ [Ob.list []] ++ [Ob.list (sliceG (List.map vp m) none (some 1) none)])) (gl_at)) <| fs_o (@gl_at (σ1 ++ [Ob.list []] ++ [Ob.list (sliceG (List.map vp m) none (some 1) none)] ++ [Ob.list (List.map vp (m ++ [at0 m 0]))]) (Ob.list (List.map vps (sides (m ++ [at0 m 0]) (Int.fdiv w 2)))) []) <| fs_s (@hcn (n + 96) (σ1 ++ [Ob.list []] ++ [Ob.list (sliceG (List.map vp m) none (some 1) none)] ++ [Ob.list (List.map vp (m ++ [at0 m 0]))] ++ [Ob.list (List.map vps (sides (m ++ [at0 m 0]) (Int.fdiv w 2)))]) (by repeat' first | with_reducible assumption | with_reducible exact gl_at | with_reducible exact set_at (by repeat' first | exact lt_new | refine' lt_set ?_ | refine' lt_app ?_ | assumption) | with_reducible refine' app_l ?_ | with_reducible refine' get_set ?_ ?_)) <| fs_s (@hjn (n + 7) (σ1 ++ [Ob.list []] ++ [Ob.list (sliceG (List.map vp m) none (some 1) none)] ++ [Ob.list (List.map vp (m ++ [at0 m 0]))] ++ [Ob.list (List.map vps (sides (m ++ [at0 m 0]) (Int.fdiv w 2)))] ++ [Ob.list (List.map vtri (cors true m))]) (List.length (σ1 ++ [Ob.list []] ++ [Ob.list (sliceG (List.map vp m) none (some 1) none)] ++ [Ob.list (List.map vp (m ++ [at0 m 0]))] ++ [Ob.list (List.map vps (sides (m ++ [at0 m 0]) (Int.fdiv w 2)))])) (gl_at) (by repeat' first | with_reducible assumption | with_reducible exact gl_at | with_reducible exact set_at (by repeat' first | exact lt_new | refine' lt_set ?_ | refine' lt_app ?_ | assumption) | with_reducible refine' app_l ?_ | with_reducible refine' get_set ?_ ?_)) <| fs_o (@app_l (σ1 ++ [Ob.list []] ++ [Ob.list (sliceG (List.map vp m) none (some 1) none)] ++ [Ob.list (List.map vp (m ++ [at0 m 0]))] ++ [Ob.list (List.map vps (sides (m ++ [at0 m 0]) (Int.fdiv w 2)))] ++ [Ob.list (List.map vtri (cors true m))]) (List.length (σ1 ++ [Ob.list []] ++ [Ob.list (sliceG (List.map vp m) none (some 1) none)] ++ [Ob.list (List.map vp (m ++ [at0 m 0]))])) (Ob.list (List.map vps (sides (m ++ [at0 m 0]) (Int.fdiv w 2)))) ([Ob.list (List.map vps (List.map (crnT (Int.fdiv w 2)) (cors true m)))]) (app_l gl_at)) <| fs_s (@hex (σ1 ++ [Ob.list []] ++ [Ob.list (sliceG (List.map vp m) none (some 1) none)] ++ [Ob.list (List.map vp (m ++ [at0 m 0]))] ++ [Ob.list (List.map vps (sides (m ++ [at0 m 0]) (Int.fdiv w 2)))] ++ [Ob.list (List.map vtri (cors true m))] ++ [Ob.list (List.map vps (List.map (crnT (Int.fdiv w 2)) (cors true m)))]) (List.length (σ1 ++ [Ob.list []] ++ [Ob.list (sliceG (List.map vp m) none (some 1) none)] ++ [Ob.list (List.map vp (m ++ [at0 m 0]))])) (List.length (σ1 ++ [Ob.list []] ++ [Ob.list (sliceG (List.map vp m) none (some 1) none)] ++ [Ob.list (List.map vp (m ++ [at0 m 0]))] ++ [Ob.list (List.map vps (sides (m ++ [at0 m 0]) (Int.fdiv w 2)))] ++ [Ob.list (List.map vtri (cors true m))])) (gl_at) (by repeat' first | exact lt_new | refine' lt_set ?_ | refine' lt_app ?_ | assumption)) <| fs_b (r := false) rfl <| fs_nil) (by kernel_rfl) ?_
        refine ⟨_, rfl, take_set (take_app (take_app (take_app (take_app (take_app (take_app p2)))))) ?_, ?_, ?_⟩
        · exact ext_le (take_app (take_app (take_app p2)))
        · exact ext_le (take_app (take_app (take_app p2)))
        · rw [set_at (lt_app (lt_app lt_new))]
          simp [pieces, hm, h0, h1, pcs, et']
      | false =>
        have p1 : callD (lvl (tbl r) (n + 158)) d_plain_line.1 [.tup [vps l, .bool false]] σ = some (.tup [.obj k, .bool false], σ1) := p1
        have hsd : ∀ j τ, τ[k]? = some (.list (m.map vp)) → callD (lvl (tbl r) (j + 120)) d_side_pieces.1 [.obj k, .int (w.fdiv 2)] τ = some (.obj τ.length, τ ++ [.list ((sides m (w.fdiv 2)).map vps)]) := fun j τ a => side_pieces_c a hf.apart hm1 hh
        have hcn : ∀ j τ, τ[k]? = some (.list (m.map vp)) → callD (lvl (tbl r) (j + 60)) d_corners_of.1 [.obj k, .bool false] τ = some (.obj τ.length, τ ++ [.list ((cors false m).map vtri)]) := fun j τ a => corners_f a hm1 h2
        have hjn : ∀ j τ i, τ[i]? = some (.list ((cors false m).map vtri)) → τ[s]? = some (.inst "Style" (stl w jn kd)) → callD (lvl (tbl r) (j + 150)) d_join_pieces.1 [.obj i, .obj s, .int st] τ = some (.obj τ.length, τ ++ [.list (((cors false m).map (crnT (w.fdiv 2))).map vps)]) := fun j τ i a b => join_pieces_c a b (hf.cors h2) (by unfold cors; rw [if_neg (by decide), List.length_map, List.length_range]; omega) hh
        have hsz : ∀ x : List Pt, (((sides m (w.fdiv 2)) ++ ((cors false m).map (crnT (w.fdiv 2))) ++ [x]).map vps).length < 1000000 := fun x => by unfold sides cors; simp; omega
        have hex : ∀ τ i j, τ[j]? = some (.list (((cors false m).map (crnT (w.fdiv 2))).map vps)) → i < j → listM "extend" i ((sides m (w.fdiv 2)).map vps) [.obj j] τ = some (.none, τ.set i (.list (((sides m (w.fdiv 2)) ++ ((cors false m).map (crnT (w.fdiv 2)))).map vps))) := fun τ i j a b => by
          rw [extC a (Nat.ne_of_gt b) (by unfold sides cors; simp; omega), List.map_append]
        have esn : ∀ (A : List (List Pt)) x, A.map vps ++ [vps x] = (A ++ [x]).map vps := fun A x => by rw [List.map_append]; rfl
        have hap1 : ∀ τ i x, listM "append" i (((sides m (w.fdiv 2)) ++ ((cors false m).map (crnT (w.fdiv 2)))).map vps) [vps x] τ = some (.none, τ.set i (.list (((sides m (w.fdiv 2)) ++ ((cors false m).map (crnT (w.fdiv 2))) ++ [x]).map vps))) := fun τ i x => by
          rw [app_c (by have := hsz []; rw [List.length_map] at this ⊢; rw [List.length_append] at this; (first | exact Nat.le_of_lt (by assumption) | exact Nat.lt_of_lt_of_le (by assumption) (by assumption) | exact Nat.le_trans (by assumption) (by assumption) | exact Nat.lt_succ_of_lt (by assumption))), esn]
        have hap2 : ∀ τ i x y, listM "append" i (((sides m (w.fdiv 2)) ++ ((cors false m).map (crnT (w.fdiv 2))) ++ [x]).map vps) [vps y] τ = some (.none, τ.set i (.list (((sides m (w.fdiv 2)) ++ ((cors false m).map (crnT (w.fdiv 2))) ++ [x] ++ [y]).map vps))) := fun τ i x y => by
          rw [app_c (hsz x), esn]
        have hik : (σ1 ++ [Ob.list []]).length ≠ k := Nat.ne_of_gt (lt_app k1)
        have e1 : ∀ τ, τ[k]? = some (.list (m.map vp)) → subC (tbl r) τ (.obj k) (.int 1) = some (vp (at0 m 1)) := fun τ h => sub_at (j := 1) h (at0_get (by (first | assumption | (apply Nat.le_trans; assumption; exact Nat.le_of_ble_eq_true rfl)))) (by decide)
        have e2 : ∀ τ, τ[k]? = some (.list (m.map vp)) → subC (tbl r) τ (.obj k) (.int (-1)) = some (vp (at0 m (m.length - 1))) := fun τ h => sub_last h (by rw [last_map, last_some h0]; rfl)
        have e3 : ∀ τ, τ[k]? = some (.list (m.map vp)) → subC (tbl r) τ (.obj k) (.int (-2)) = some (vp (at0 m (m.length - 2))) := fun τ h => sub_last2 h h2
        have c1 := fun j τ => cap_spots_c (r := r) (n := j) (σ := τ) (kd := kd) (h := w.fdiv 2) (st := st) (hf.c1 h2) hh
        have c2 := fun j τ => cap_spots_c (r := r) (n := j) (σ := τ) (kd := kd) (h := w.fdiv 2) (st := st) (hf.c2 h2) hh
        have hsn : (σ1 ++ [Ob.list []]).length ≠ s := Nat.ne_of_gt (lt_app (lt_of hs1))
        refine Ret.fin (v := V.obj (List.length (σ1 ++ [Ob.list []]))) (σ' := List.set (List.set (List.set (σ1 ++ [Ob.list []] ++ [Ob.list (List.map vps (sides m (Int.fdiv w 2)))] ++ [Ob.list (List.map vtri (cors false m))] ++ [Ob.list (List.map vps (List.map (crnT (Int.fdiv w 2)) (cors false m)))]) (List.length (σ1 ++ [Ob.list []])) (Ob.list (List.map vps (sides m (Int.fdiv w 2) ++ List.map (crnT (Int.fdiv w 2)) (cors false m))))) (List.length (σ1 ++ [Ob.list []])) (Ob.list (List.map vps (sides m (Int.fdiv w 2) ++ List.map (crnT (Int.fdiv w 2)) (cors false m) ++ [capOf kd (at0 m 1) (at0 m 0) (Int.fdiv w 2)])))) (List.length (σ1 ++ [Ob.list []])) (Ob.list (List.map vps (sides m (Int.fdiv w 2) ++ List.map (crnT (Int.fdiv w 2)) (cors false m) ++ [capOf kd (at0 m 1) (at0 m 0) (Int.fdiv w 2)] ++ [capOf kd (at0 m (List.length m - 2)) (at0 m (List.length m - 1)) (Int.fdiv w 2)])))) (fs_s p1 <| fs_o hs1 <| fs_s (@half_c r σ1 (n + 138) w jn kd s hs1) <| fs_c em <| fs_f (p := m = []) h0 <| fs_v (@lenP (tbl r) (σ1 ++ [Ob.list []]) k m (app_l (by with_reducible assumption)) hm') <| fs_c (@cmp_eqi (σ1 ++ [Ob.list []]) ((↑(List.length m) : Int)) 1) <| fs_f (p := (↑(List.length m) : Int) = 1) h1' <| fs_b (r := false) rfl <| fs_s (@hsd (n + 38) (σ1 ++ [Ob.list []]) (app_l (by with_reducible assumption))) <| fs_o (@gl_at (σ1 ++ [Ob.list []]) (Ob.list (List.map vps (sides m (Int.fdiv w 2)))) []) <| fs_s (@hcn (n + 96) (σ1 ++ [Ob.list []] ++ [Ob.list (List.map vps (sides m (Int.fdiv w 2)))]) (app_l (app_l (by with_reducible assumption)))) <| fs_s (@hjn (n + 7) (σ1 ++ [Ob.list []] ++ [Ob.list (List.map vps (sides m (Int.fdiv w 2)))] ++ [Ob.list (List.map vtri (cors false m))]) (List.length (σ1 ++ [Ob.list []] ++ [Ob.list (List.map vps (sides m (Int.fdiv w 2)))])) (gl_at) (app_l (app_l (app_l (by with_reducible assumption))))) <| fs_o (@app_l (σ1 ++ [Ob.list []] ++ [Ob.list (List.map vps (sides m (Int.fdiv w 2)))] ++ [Ob.list (List.map vtri (cors false m))]) (List.length (σ1 ++ [Ob.list []])) (Ob.list (List.map vps (sides m (Int.fdiv w 2)))) ([Ob.list (List.map vps (List.map (crnT (Int.fdiv w 2)) (cors false m)))]) (app_l gl_at)) <| fs_s (@hex (σ1 ++ [Ob.list []] ++ [Ob.list (List.map vps (sides m (Int.fdiv w 2)))] ++ [Ob.list (List.map vtri (cors false m))] ++ [Ob.list (List.map vps (List.map (crnT (Int.fdiv w 2)) (cors false m)))]) (List.length (σ1 ++ [Ob.list []])) (List.length (σ1 ++ [Ob.list []] ++ [Ob.list (List.map vps (sides m (Int.fdiv w 2)))] ++ [Ob.list (List.map vtri (cors false m))])) (gl_at) (by repeat' first | exact lt_new | refine' lt_set ?_ | refine' lt_app ?_ | assumption)) <| fs_b (r := true) rfl <| fs_o (@set_at (σ1 ++ [Ob.list []] ++ [Ob.list (List.map vps (sides m (Int.fdiv w 2)))] ++ [Ob.list (List.map vtri (cors false m))] ++ [Ob.list (List.map vps (List.map (crnT (Int.fdiv w 2)) (cors false m)))]) (List.length (σ1 ++ [Ob.list []])) (Ob.list (List.map vps (sides m (Int.fdiv w 2) ++ List.map (crnT (Int.fdiv w 2)) (cors false m)))) (by repeat' first | exact lt_new | refine' lt_set ?_ | refine' lt_app ?_ | assumption)) <| fs_o (@get_set (σ1 ++ [Ob.list []] ++ [Ob.list (List.map vps (sides m (Int.fdiv w 2)))] ++ [Ob.list (List.map vtri (cors false m))] ++ [Ob.list (List.map vps (List.map (crnT (Int.fdiv w 2)) (cors false m)))]) s (List.length (σ1 ++ [Ob.list []])) (Ob.inst (Str.ofString "Style") (stl w jn kd)) (Ob.list (List.map vps (sides m (Int.fdiv w 2) ++ List.map (crnT (Int.fdiv w 2)) (cors false m)))) (by repeat' first | with_reducible assumption | with_reducible exact gl_at | with_reducible exact set_at (by repeat' first | exact lt_new | refine' lt_set ?_ | refine' lt_app ?_ | assumption) | with_reducible refine' app_l ?_ | with_reducible refine' get_set ?_ ?_) hsn) <| fs_v (@e1 (List.set (σ1 ++ [Ob.list []] ++ [Ob.list (List.map vps (sides m (Int.fdiv w 2)))] ++ [Ob.list (List.map vtri (cors false m))] ++ [Ob.list (List.map vps (List.map (crnT (Int.fdiv w 2)) (cors false m)))]) (List.length (σ1 ++ [Ob.list []])) (Ob.list (List.map vps (sides m (Int.fdiv w 2) ++ List.map (crnT (Int.fdiv w 2)) (cors false m))))) (by repeat' first | with_reducible assumption | with_reducible exact gl_at | with_reducible exact set_at (by repeat' first | exact lt_new | refine' lt_set ?_ | refine' lt_app ?_ | assumption) | with_reducible refine' app_l ?_ | with_reducible refine' get_set ?_ ?_)) <| fs_v (@e0 (List.set (σ1 ++ [Ob.list []] ++ [Ob.list (List.map vps (sides m (Int.fdiv w 2)))] ++ [Ob.list (List.map vtri (cors false m))] ++ [Ob.list (List.map vps (List.map (crnT (Int.fdiv w 2)) (cors false m)))]) (List.length (σ1 ++ [Ob.list []])) (Ob.list (List.map vps (sides m (Int.fdiv w 2) ++ List.map (crnT (Int.fdiv w 2)) (cors false m))))) (by repeat' first | with_reducible assumption | with_reducible exact gl_at | with_reducible exact set_at (by repeat' first | exact lt_new | refine' lt_set ?_ | refine' lt_app ?_ | assumption) | with_reducible refine' app_l ?_ | with_reducible refine' get_set ?_ ?_)) <| fs_s (@c1 (n + 76) (List.set (σ1 ++ [Ob.list []] ++ [Ob.list (List.map vps (sides m (Int.fdiv w 2)))] ++ [Ob.list (List.map vtri (cors false m))] ++ [Ob.list (List.map vps (List.map (crnT (Int.fdiv w 2)) (cors false m)))]) (List.length (σ1 ++ [Ob.list []])) (Ob.list (List.map vps (sides m (Int.fdiv w 2) ++ List.map (crnT (Int.fdiv w 2)) (cors false m)))))) <| fs_o (@set_at (σ1 ++ [Ob.list []] ++ [Ob.list (List.map vps (sides m (Int.fdiv w 2)))] ++ [Ob.list (List.map vtri (cors false m))] ++ [Ob.list (List.map vps (List.map (crnT (Int.fdiv w 2)) (cors false m)))]) (List.length (σ1 ++ [Ob.list []])) (Ob.list (List.map vps (sides m (Int.fdiv w 2) ++ List.map (crnT (Int.fdiv w 2)) (cors false m)))) (by repeat' first | exact lt_new | refine' lt_set ?_ | refine' lt_app ?_ | assumption)) <| fs_s (@hap1 (List.set (σ1 ++ [Ob.list []] ++ [Ob.list (List.map vps (sides m (Int.fdiv w 2)))] ++ [Ob.list (List.map vtri (cors false m))] ++ [Ob.list (List.map vps (List.map (crnT (Int.fdiv w 2)) (cors false m)))]) (List.length (σ1 ++ [Ob.list []])) (Ob.list (List.map vps (sides m (Int.fdiv w 2) ++ List.map (crnT (Int.fdiv w 2)) (cors false m))))) (List.length (σ1 ++ [Ob.list []])) (capOf kd (at0 m 1) (at0 m 0) (Int.fdiv w 2))) <| fs_o (@set_at (List.set (σ1 ++ [Ob.list []] ++ [Ob.list (List.map vps (sides m (Int.fdiv w 2)))] ++ [Ob.list (List.map vtri (cors false m))] ++ [Ob.list (List.map vps (List.map (crnT (Int.fdiv w 2)) (cors false m)))]) (List.length (σ1 ++ [Ob.list []])) (Ob.list (List.map vps (sides m (Int.fdiv w 2) ++ List.map (crnT (Int.fdiv w 2)) (cors false m))))) (List.length (σ1 ++ [Ob.list []])) (Ob.list (List.map vps (sides m (Int.fdiv w 2) ++ List.map (crnT (Int.fdiv w 2)) (cors false m) ++ [capOf kd (at0 m 1) (at0 m 0) (Int.fdiv w 2)]))) (by repeat' first | exact lt_new | refine' lt_set ?_ | refine' lt_app ?_ | assumption)) <| fs_o (@get_set (List.set (σ1 ++ [Ob.list []] ++ [Ob.list (List.map vps (sides m (Int.fdiv w 2)))] ++ [Ob.list (List.map vtri (cors false m))] ++ [Ob.list (List.map vps (List.map (crnT (Int.fdiv w 2)) (cors false m)))]) (List.length (σ1 ++ [Ob.list []])) (Ob.list (List.map vps (sides m (Int.fdiv w 2) ++ List.map (crnT (Int.fdiv w 2)) (cors false m))))) s (List.length (σ1 ++ [Ob.list []])) (Ob.inst (Str.ofString "Style") (stl w jn kd)) (Ob.list (List.map vps (sides m (Int.fdiv w 2) ++ List.map (crnT (Int.fdiv w 2)) (cors false m) ++ [capOf kd (at0 m 1) (at0 m 0) (Int.fdiv w 2)]))) (by repeat' first | with_reducible assumption | with_reducible exact gl_at | with_reducible exact set_at (by repeat' first | exact lt_new | refine' lt_set ?_ | refine' lt_app ?_ | assumption) | with_reducible refine' app_l ?_ | with_reducible refine' get_set ?_ ?_) hsn) <| fs_v (@e3 (List.set (List.set (σ1 ++ [Ob.list []] ++ [Ob.list (List.map vps (sides m (Int.fdiv w 2)))] ++ [Ob.list (List.map vtri (cors false m))] ++ [Ob.list (List.map vps (List.map (crnT (Int.fdiv w 2)) (cors false m)))]) (List.length (σ1 ++ [Ob.list []])) (Ob.list (List.map vps (sides m (Int.fdiv w 2) ++ List.map (crnT (Int.fdiv w 2)) (cors false m))))) (List.length (σ1 ++ [Ob.list []])) (Ob.list (List.map vps (sides m (Int.fdiv w 2) ++ List.map (crnT (Int.fdiv w 2)) (cors false m) ++ [capOf kd (at0 m 1) (at0 m 0) (Int.fdiv w 2)])))) (by repeat' first | with_reducible assumption | with_reducible exact gl_at | with_reducible exact set_at (by repeat' first | exact lt_new | refine' lt_set ?_ | refine' lt_app ?_ | assumption) | with_reducible refine' app_l ?_ | with_reducible refine' get_set ?_ ?_)) <| fs_v (@e2 (List.set (List.set (σ1 ++ [Ob.list []] ++ [Ob.list (List.map vps (sides m (Int.fdiv w 2)))] ++ [Ob.list (List.map vtri (cors false m))] ++ [Ob.list (List.map vps (List.map (crnT (Int.fdiv w 2)) (cors false m)))]) (List.length (σ1 ++ [Ob.list []])) (Ob.list (List.map vps (sides m (Int.fdiv w 2) ++ List.map (crnT (Int.fdiv w 2)) (cors false m))))) (List.length (σ1 ++ [Ob.list []])) (Ob.list (List.map vps (sides m (Int.fdiv w 2) ++ List.map (crnT (Int.fdiv w 2)) (cors false m) ++ [capOf kd (at0 m 1) (at0 m 0) (Int.fdiv w 2)])))) (by repeat' first | with_reducible assumption | with_reducible exact gl_at | with_reducible exact set_at (by repeat' first | exact lt_new | refine' lt_set ?_ | refine' lt_app ?_ | assumption) | with_reducible refine' app_l ?_ | with_reducible refine' get_set ?_ ?_)) <| fs_s (@c2 (n + 76) (List.set (List.set (σ1 ++ [Ob.list []] ++ [Ob.list (List.map vps (sides m (Int.fdiv w 2)))] ++ [Ob.list (List.map vtri (cors false m))] ++ [Ob.list (List.map vps (List.map (crnT (Int.fdiv w 2)) (cors false m)))]) (List.length (σ1 ++ [Ob.list []])) (Ob.list (List.map vps (sides m (Int.fdiv w 2) ++ List.map (crnT (Int.fdiv w 2)) (cors false m))))) (List.length (σ1 ++ [Ob.list []])) (Ob.list (List.map vps (sides m (Int.fdiv w 2) ++ List.map (crnT (Int.fdiv w 2)) (cors false m) ++ [capOf kd (at0 m 1) (at0 m 0) (Int.fdiv w 2)]))))) <| fs_o (@set_at (List.set (σ1 ++ [Ob.list []] ++ [Ob.list (List.map vps (sides m (Int.fdiv w 2)))] ++ [Ob.list (List.map vtri (cors false m))] ++ [Ob.list (List.map vps (List.map (crnT (Int.fdiv w 2)) (cors false m)))]) (List.length (σ1 ++ [Ob.list []])) (Ob.list (List.map vps (sides m (Int.fdiv w 2) ++ List.map (crnT (Int.fdiv w 2)) (cors false m))))) (List.length (σ1 ++ [Ob.list []])) (Ob.list (List.map vps (sides m (Int.fdiv w 2) ++ List.map (crnT (Int.fdiv w 2)) (cors false m) ++ [capOf kd (at0 m 1) (at0 m 0) (Int.fdiv w 2)]))) (by repeat' first | exact lt_new | refine' lt_set ?_ | refine' lt_app ?_ | assumption)) <| fs_s (@hap2 (List.set (List.set (σ1 ++ [Ob.list []] ++ [Ob.list (List.map vps (sides m (Int.fdiv w 2)))] ++ [Ob.list (List.map vtri (cors false m))] ++ [Ob.list (List.map vps (List.map (crnT (Int.fdiv w 2)) (cors false m)))]) (List.length (σ1 ++ [Ob.list []])) (Ob.list (List.map vps (sides m (Int.fdiv w 2) ++ List.map (crnT (Int.fdiv w 2)) (cors false m))))) (List.length (σ1 ++ [Ob.list []])) (Ob.list (List.map vps (sides m (Int.fdiv w 2) ++ List.map (crnT (Int.fdiv w 2)) (cors false m) ++ [capOf kd (at0 m 1) (at0 m 0) (Int.fdiv w 2)])))) (List.length (σ1 ++ [Ob.list []])) (capOf kd (at0 m 1) (at0 m 0) (Int.fdiv w 2)) (capOf kd (at0 m (List.length m - 2)) (at0 m (List.length m - 1)) (Int.fdiv w 2))) <| fs_nil) (by kernel_rfl) ?_
        refine ⟨_, rfl, take_set (take_set (take_set (take_app (take_app (take_app (take_app p2)))) le1) le1) le1, le1, ?_⟩
        rw [set_at (lt_set (lt_set (lt_app (lt_app lt_new))))]
        simp [pieces, hm, h0, h1, pcs, et']
end Mine
end
section
open PySem PySem.W PyProof.Rows PySem.Calls
set_option linter.unusedVariables false
set_option linter.unusedSimpArgs false
set_option maxRecDepth 100000
namespace Mine
variable {r : Nat → Option (List Int)} {T : Tbl} {F : Funs} {L : Loc} {σ : Sto} {n : Nat}

theorem snoc_ind {α : Type} {P : List α → Prop} (h0 : P []) (hs : ∀ l a, P l → P (l ++ [a])) (l : List α) : P l := by
  have key : ∀ m : List α, P m.reverse := by
    intro m
    induction m with
    | nil => exact h0
    | cons a m ih => rw [List.reverse_cons]; exact hs _ _ ih
  have := key l.reverse
  rwa [List.reverse_reverse] at this
theorem dd_snoc {l : List Pt} {p : Pt} : dd (l ++ [p]) = ddS (dd l) p := by unfold dd; rw [List.foldl_append]; rfl
theorem dd_last {l : List Pt} : (dd l).getLast? = l.getLast? := by
  refine snoc_ind (P := fun l => (dd l).getLast? = l.getLast?) rfl (fun l p ih => ?_) l
  rw [dd_snoc]
  unfold ddS
  split
  · simp
  · rename_i h
    have h' : (dd l).getLast? = some p := by
      by_cases e : (dd l).getLast? = some p
      · exact e
      · exact absurd (.inr e) h
    rw [h']; simp
noncomputable def newAt (l : List Pt) (k : Nat) : Bool := decide (k = 0) || !decide (at0 l k = at0 l (k - 1))
theorem dd_eq {l : List Pt} : dd l = ((List.range l.length).filter (newAt l)).map (at0 l) := by
  refine snoc_ind (P := fun l => dd l = ((List.range l.length).filter (newAt l)).map (at0 l)) rfl (fun l p ih => ?_) l
  have e1 : ((List.range l.length).filter (newAt (l ++ [p]))).map (at0 (l ++ [p])) = dd l := by
    rw [ih]
    have e2 : (List.range l.length).filter (newAt (l ++ [p])) = (List.range l.length).filter (newAt l) := by
      apply List.filter_congr
      intro k hk
      have hk' := List.mem_range.mp hk
      unfold newAt
      rw [at0_app_l hk', at0_app_l (by omega)]
    rw [e2]
    apply List.map_congr_left
    intro k hk
    exact at0_app_l (List.mem_range.mp (List.mem_filter.mp hk).1)
  rw [dd_snoc, List.length_append, List.length_singleton, List.range_succ, List.filter_append, List.map_append, e1]
  have e3 : at0 (l ++ [p]) l.length = p := at0_app_r
  unfold ddS
  by_cases h0 : l = []
  · subst h0
    simp [newAt, dd, at0]
  · have hlp : 0 < l.length := List.length_pos_iff.mpr h0
    have e4 : at0 (l ++ [p]) (l.length - 1) = at0 l (l.length - 1) := at0_app_l (by omega)
    have hd : (dd l).getLast? = some (at0 l (l.length - 1)) := by rw [dd_last, last_some h0]
    have hd0 : dd l ≠ [] := by intro e; rw [e] at hd; cases hd
    by_cases hp : p = at0 l (l.length - 1)
    · rw [if_neg (by rw [hd]; simp [hd0, hp])]
      have : newAt (l ++ [p]) l.length = false := by
        unfold newAt; rw [e3, e4]; simp [hp]; omega
      simp [this]
    · rw [if_pos (.inr (by rw [hd]; simpa using Ne.symm hp))]
      have : newAt (l ++ [p]) l.length = true := by
        unfold newAt; rw [e3, e4]; simp [hp]
      simp [this, e3]
theorem zip_next {A : List Pt} : zipT (A.map vp) ((A.drop 1).map vp) = (List.range (A.length - 1)).map fun i => .tup [vp (at0 A i), vp (at0 A (i + 1))] := by
  cases A with
  | nil => rfl
  | cons a A =>
    rw [List.drop_succ_cons, List.drop_zero, List.length_cons, Nat.add_sub_cancel]
    induction A generalizing a with
    | nil => rfl
    | cons b A ih =>
      have e := ih b
      rw [List.map_cons] at e
      rw [List.length_cons, List.range_succ_eq_map]
      simp only [List.map_cons, List.map_map, zipT]
      rw [e]
      rfl
end Mine
end
section
open PySem PySem.W PyProof.Rows PySem.Calls
set_option linter.unusedVariables false
set_option linter.unusedSimpArgs false
set_option maxRecDepth 100000
namespace Mine
variable {r : Nat → Option (List Int)} {T : Tbl} {F : Funs} {L : Loc} {σ : Sto} {n : Nat}

theorem still_two_mk {m k : Nat} {l r : List V} (h1 : σ[m]? = some (Ob.list l)) (h2 : σ[k]? = some (Ob.list r)) (hne : m ≠ k) (hl : l.length ≤ 1000) (hr : r.length ≤ 1000) : still σ (.two m k) (zipT l r) = true := by
  unfold still
  dsimp only
  rw [h1, h2]
  simp only [Bool.and_eq_true, decide_eq_true_eq]
  exact ⟨⟨⟨hne, by unfold most; (first | assumption | (apply Nat.le_trans; assumption; exact Nat.le_of_ble_eq_true rfl))⟩, by unfold most; (first | assumption | (apply Nat.le_trans; assumption; exact Nat.le_of_ble_eq_true rfl))⟩, trivial⟩
/-- the places of the corners -/
noncomputable def plc (c : Bool) (n : Nat) : List Nat := if c then List.range n else (List.range (n - 2)).map (1 + ·)
noncomputable def tri (m : List Pt) (k : Nat) : Pt × Pt × Pt := (at0 m (if k = 0 then m.length - 1 else k - 1), at0 m k, at0 m ((k + 1) % m.length))
theorem cors_eq {c : Bool} {m : List Pt} : cors c m = (plc c m.length).map (tri m) := by
  cases c with
  | true => rfl
  | false =>
    unfold cors plc
    rw [if_neg (by decide), if_neg (by decide), List.map_map]
    apply List.map_congr_left
    intro i hi
    have := List.mem_range.mp hi
    simp only [tri, Function.comp]
    rw [if_neg (by lia), Nat.mod_eq_of_lt (by omega), show 1 + i - 1 = i by lia, show 1 + i = i + 1 by lia]
noncomputable def plV (c : Bool) (n : Nat) : V := if c then .rng 0 n else .rng 1 ((n : Int) - 1)
theorem items_plc {c : Bool} {n : Nat} (h : n ≤ 1000) : items σ (plV c n) = some ((plc c n).map fun (k : Nat) => V.int k) := by
  unfold plV plc
  cases c with
  | true =>
    rw [if_pos rfl, if_pos rfl]
    unfold items
    dsimp only
    rw [if_pos (by unfold small most; simp only [Bool.and_eq_true, decide_eq_true_eq]; omega), show ((n : Int) - 0).toNat = n by lia]
    congr 1
    apply List.map_congr_left
    intro k _
    rw [Int.zero_add]
  | false =>
    rw [if_neg (by decide), if_neg (by decide)]
    unfold items
    dsimp only
    rw [if_pos (by unfold small most; simp only [Bool.and_eq_true, decide_eq_true_eq]; omega), show ((n : Int) - 1 - 1).toNat = n - 2 by omega, List.map_map]
    congr 1

theorem tests_is {f : Sto → Expr → Option (Bool × Sto)} {e : Expr} {b b' : Bool} (hb : b' = b) (h : f σ e = some (b, σ)) : tests f σ [e] = some (b', σ) := hb ▸ tests_one h
/-- a list comprehension of one clause over two lists side by side -/
theorem zip_comp {α : Type} {e : α → V} {C : List α} {elt ea eb : Expr} {ts : List Expr} {x : Nat} {zf : Str} {q1 q2 q3 q : Pos} {a : Nat} {sc : Scope} {m k : Nat} {l rr : List V} {σ1 σ2 : Sto} (g : α → V) (hk : T.kind zf = some (.bi .zip)) (h1 : F.ev L σ ea = some (.obj m, σ1)) (h2 : F.ev L σ1 eb = some (.obj k, σ2)) (h3 : σ2[m]? = some (Ob.list l)) (h4 : σ2[k]? = some (Ob.list rr)) (hne : m ≠ k) (hl : l.length ≤ 1000) (hr : rr.length ≤ 1000) (hz : zipT l rr = C.map e)
    (hb : ∀ c ∈ C, ∀ l, ∃ L1, bindT (hide sc L) (σ2 ++ [Ob.list l]) (.Tuple ts x q1) (e c) = some L1 ∧ F.ev L1 (σ2 ++ [Ob.list l]) elt = some (g c, σ2 ++ [Ob.list l]))
    (hlen : C.length ≤ most) : evS T F L σ (.ListComp elt [⟨.Tuple ts x q1, .Call (.Name zf q2) [ea, eb] [] q3, [], a⟩] sc q) = some (.obj σ2.length, σ2 ++ [Ob.list (C.map g)]) := by
  have ho : overE T F L σ (.Tuple ts x q1) (.Call (.Name zf q2) [ea, eb] [] q3) = some (.two m k, C.map e, σ2) := by
    unfold overE
    dsimp only
    rw [hk]
    dsimp only
    rw [h1]
    dsimp only
    rw [h2]
    dsimp only
    rw [h3, h4]
    dsimp only
    rw [hz]
  show (match overE T F L σ (.Tuple ts x q1) (.Call (.Name zf q2) [ea, eb] [] q3) with | some (w, vs, σ1) => (match clauses F σ1.length elt [⟨.Tuple ts x q1, .Call (.Name zf q2) [ea, eb] [] q3, [], a⟩] (hide sc L) w vs (σ1 ++ [Ob.list []]) with | some σ2 => some (V.obj σ1.length, σ2) | none => none) | none => none) = _
  rw [ho]
  dsimp only
  rw [clausesM (acc0 := []) (fun _ => true) g (fun l' => by rw [← hz]; exact still_two_mk (app_l h3) (app_l h4) hne hl hr) (fun c hc l' => (hb c hc l').elim fun L1 ⟨b1, b2⟩ => ⟨L1, b1, tests_nil, fun _ => b2⟩) hlen, List.nil_append, filter_tt]
theorem due1 {a : Nat} {l : List Pt} {c kd : Bool} {h : Int} (ha : σ[a]? = some (Ob.list (l.map vp))) (hl : l.length ≤ 100) (hb : Box l) (hh : Hf h) : Ret (lvl (tbl r) (n + 160)) (bindP (d_l_due.1.params.args.map (·.arg)) [.obj a, .bool c, kdV kd, .int h]) σ (d_l_due.1.body) (fun v σ' => ∃ k, v = .obj k ∧ σ'.take σ.length = σ ∧ σ.length ≤ k ∧ σ'[k]? = some (Ob.list ((pieces c kd l h).map vps))) := by
  refine Ret.args ?_
  have hl' : l.length ≤ 1000000 := by (first | assumption | (apply Nat.le_trans; assumption; exact Nat.le_of_ble_eq_true rfl))
  have hdd : ((List.range l.length).filter (newAt l)).map (fun i => vp (at0 l i)) = (dd l).map vp := by rw [dd_eq, List.map_map]; rfl
  refine Ret.next (L1 := (EX.up (argX d_l_due.1 [.obj a, .bool c, kdV kd, .int h]) (Str.ofString "line") (.obj σ.length)).loc) (σ1 := σ ++ [Ob.list (((List.range l.length).filter (newAt l)).map fun i => vp (at0 l i))]) (asg_comp (comp_rule (σ1 := σ) (C := List.range l.length) (e := fun k : Nat => V.int k) (w := .rng 0 l.length) (newAt l) (fun i => vp (at0 l i)) rfl ?_ (fun τ => items_rng0 (by omega) (by omega)) (fun i hi l' => ?_) (by rw [List.length_range]; exact hl'))) ?_
  · exact (sx_ev (E := argX d_l_due.val [V.obj a, V.bool c, kdV kd, V.int h]) (fs_v (@lenP (tbl r) σ a l ha hl') <| fs_nil) (by kernel_rfl))
  · have hi' : i < l.length := List.mem_range.mp hi
    have hk' := app_l (l := [Ob.list l']) ha
    have s1 : subC (tbl r) (σ ++ [Ob.list l']) (.obj a) (.int (i : Nat)) = some (vp (at0 l i)) := sub_at hk' (at0_get (by omega)) (by (first | exact Nat.le_of_lt (by assumption) | exact Nat.lt_of_lt_of_le (by assumption) (by assumption) | exact Nat.le_trans (by assumption) (by assumption) | exact Nat.lt_succ_of_lt (by assumption)))
    by_cases h0 : i = 0
    · have h0' : (i : Int) = 0 := by omega
      refine ⟨_, rfl, tests_is (b := true) (by unfold newAt; rw [decide_eq_true h0]; rfl) ?_, fun _ => ?_⟩
      · exact (sx_tst (E := { l := [(Str.ofString "place_k", V.int (↑i : Int))], o := hide { kind := ScopeKind.function, names := [(Str.ofString ".0", NameKind.local), (Str.ofString "place_k", NameKind.local), (Str.ofString "spots", NameKind.free)], isGenerator := false, isCoroutine := false } (EX.loc (argX d_l_due.val [V.obj a, V.bool c, kdV kd, V.int h])) }) (fs_c (@cmp_eqi (σ ++ [Ob.list l']) ((↑i : Int)) 0) <| fs_t (p := (↑i : Int) = 0) h0' <| fs_nil) (by kernel_rfl))
      · exact (sx_ev (E := { l := [(Str.ofString "place_k", V.int (↑i : Int))], o := hide { kind := ScopeKind.function, names := [(Str.ofString ".0", NameKind.local), (Str.ofString "place_k", NameKind.local), (Str.ofString "spots", NameKind.free)], isGenerator := false, isCoroutine := false } (EX.loc (argX d_l_due.val [V.obj a, V.bool c, kdV kd, V.int h])) }) (fs_v (r := V.obj a) rfl <| fs_v s1 <| fs_nil) (by kernel_rfl))
    · have h0' : ¬ (i : Int) = 0 := by omega
      have s2 : subC (tbl r) (σ ++ [Ob.list l']) (.obj a) (.int ((i : Int) - 1)) = some (vp (at0 l (i - 1))) := by
        rw [show (i : Int) - 1 = ((i - 1 : Nat) : Int) by omega]
        exact sub_at hk' (at0_get (by omega)) (by omega)
      by_cases he : at0 l i = at0 l (i - 1)
      · have he' : (!decide (at0 l i = at0 l (i - 1))) = false := by rw [decide_eq_true he]; rfl
        refine ⟨_, rfl, tests_is (b := false) (by unfold newAt; rw [decide_eq_false h0, he']; rfl) ?_, fun _ => ?_⟩
        · exact (sx_tst (E := { l := [(Str.ofString "place_k", V.int (↑i : Int))], o := hide { kind := ScopeKind.function, names := [(Str.ofString ".0", NameKind.local), (Str.ofString "place_k", NameKind.local), (Str.ofString "spots", NameKind.free)], isGenerator := false, isCoroutine := false } (EX.loc (argX d_l_due.val [V.obj a, V.bool c, kdV kd, V.int h])) }) (fs_c (@cmp_eqi (σ ++ [Ob.list l']) ((↑i : Int)) 0) <| fs_f (p := (↑i : Int) = 0) h0' <| fs_v (r := V.obj a) rfl <| fs_v s1 <| fs_v (r := V.obj a) rfl <| fs_v s2 <| fs_c (@cmp_ptn (σ ++ [Ob.list l']) (at0 l i) (at0 l (i - 1))) <| fs_b he' <| fs_nil) (by kernel_rfl))
        · exact (sx_ev (E := { l := [(Str.ofString "place_k", V.int (↑i : Int))], o := hide { kind := ScopeKind.function, names := [(Str.ofString ".0", NameKind.local), (Str.ofString "place_k", NameKind.local), (Str.ofString "spots", NameKind.free)], isGenerator := false, isCoroutine := false } (EX.loc (argX d_l_due.val [V.obj a, V.bool c, kdV kd, V.int h])) }) (fs_v (r := V.obj a) rfl <| fs_v s1 <| fs_nil) (by kernel_rfl))
      · have he' : (!decide (at0 l i = at0 l (i - 1))) = true := by rw [decide_eq_false he]; rfl
        refine ⟨_, rfl, tests_is (b := true) (by unfold newAt; rw [decide_eq_false h0, he']; rfl) ?_, fun _ => ?_⟩
        · exact (sx_tst (E := { l := [(Str.ofString "place_k", V.int (↑i : Int))], o := hide { kind := ScopeKind.function, names := [(Str.ofString ".0", NameKind.local), (Str.ofString "place_k", NameKind.local), (Str.ofString "spots", NameKind.free)], isGenerator := false, isCoroutine := false } (EX.loc (argX d_l_due.val [V.obj a, V.bool c, kdV kd, V.int h])) }) (fs_c (@cmp_eqi (σ ++ [Ob.list l']) ((↑i : Int)) 0) <| fs_f (p := (↑i : Int) = 0) h0' <| fs_v (r := V.obj a) rfl <| fs_v s1 <| fs_v (r := V.obj a) rfl <| fs_v s2 <| fs_c (@cmp_ptn (σ ++ [Ob.list l']) (at0 l i) (at0 l (i - 1))) <| fs_b he' <| fs_nil) (by kernel_rfl))
        · exact (sx_ev (E := { l := [(Str.ofString "place_k", V.int (↑i : Int))], o := hide { kind := ScopeKind.function, names := [(Str.ofString ".0", NameKind.local), (Str.ofString "place_k", NameKind.local), (Str.ofString "spots", NameKind.free)], isGenerator := false, isCoroutine := false } (EX.loc (argX d_l_due.val [V.obj a, V.bool c, kdV kd, V.int h])) }) (fs_v (r := V.obj a) rfl <| fs_v s1 <| fs_nil) (by kernel_rfl))
  have hdl : (dd l).length ≤ 100 := Nat.le_trans dd_len hl
  refine Ret.while rfl (m0 := (dd l).length) (fun m L st => (L "is_closed" = some (.bool c) ∧ L "kind" = some (kdV kd) ∧ L "half" = some (.int h)) ∧ st.take σ.length = σ ∧ ∃ j, L "line" = some (.obj j) ∧ σ.length ≤ j ∧ ∃ cur : List Pt, st[j]? = some (Ob.list (cur.map vp)) ∧ cur.length = m ∧ m ≤ 100 ∧ pln c l = if c then stripF m cur else cur)
    (fun L st => (L "is_closed" = some (.bool c) ∧ L "kind" = some (kdV kd) ∧ L "half" = some (.int h)) ∧ st.take σ.length = σ ∧ ∃ j, L "line" = some (.obj j) ∧ σ.length ≤ j ∧ st[j]? = some (Ob.list ((pln c l).map vp))) (fun m L st hI => ?_) ⟨⟨by kernel_rfl, by kernel_rfl, by kernel_rfl⟩, take_app tk0, _, by kernel_rfl, Nat.le_refl _, dd l, by rw [gl_at, hdd], rfl, hdl, by unfold pln strip; cases c <;> rfl⟩ (by omega) fun L2 σ2 h2 => ?_
  · obtain ⟨hd, k4, j, j4, j6, cur, j5, rfl, j7, j8⟩ := hI
    obtain ⟨k1, k2, k3⟩ := id hd
    cases c with
    | false => exact .inl ⟨st, (sx_tst (E := { l := [], o := L }) (fs_v k1 <| fs_b (r := false) rfl <| fs_nil) (by kernel_rfl)), hd, k4, j, j4, j6, by rw [j8]; exact j5⟩
    | true =>
      rw [if_pos rfl] at j8
      have hcl : cur.length ≤ 1000000 := by (first | assumption | (apply Nat.le_trans; assumption; exact Nat.le_of_ble_eq_true rfl))
      by_cases h1 : 1 < cur.length
      · have hne : cur ≠ [] := by intro e; rw [e] at h1; exact absurd h1 (by decide)
        have hq := last_some hne
        have hu := head_some hne
        have s1 : subC (tbl r) st (.obj j) (.int (-1)) = some (vp (at0 cur (cur.length - 1))) := sub_last j5 (by rw [last_map, hq]; rfl)
        have s2 : subC (tbl r) st (.obj j) (.int 0) = some (vp (at0 cur 0)) := sub_0 j5 (by rw [List.head?_map, hu]; rfl)
        obtain ⟨m', hm'⟩ : ∃ m', cur.length = m' + 1 := ⟨cur.length - 1, by omega⟩
        have h1' : (cur.length : Int) > 1 := by omega
        by_cases hqu : at0 cur 0 = at0 cur (cur.length - 1)
        · refine .inr ⟨m', st, hm', ?_, ?_⟩
          · exact (sx_tst (E := { l := [], o := L }) (fs_v k1 <| fs_b (r := true) rfl <| fs_v j4 <| fs_v (@lenP (tbl r) st j cur j5 hcl) <| fs_t (p := (↑(List.length cur) : Int) > 1) h1' <| fs_v j4 <| fs_v s2 <| fs_v j4 <| fs_v s1 <| fs_c (@cmp_pt st (at0 cur 0) (at0 cur (List.length cur - 1))) <| fs_t (p := at0 cur 0 = at0 cur (List.length cur - 1)) hqu <| fs_nil) (by kernel_rfl))
          · have hsl : (decide ((none : Option Int) ≠ some 0) && decide ((cur.map vp).length ≤ most)) = true := by rw [List.length_map, decide_eq_true (show cur.length ≤ most from hcl)]; rfl
            refine Nx.fin (E := { l := [], o := L }) (E' := EX.up { l := [], o := L } (Str.ofString "line") (V.obj (List.length st))) (σ' := st ++ [Ob.list (sliceG (List.map vp cur) none (some (-1)) none)]) (fs_v j4 <| fs_o j5 <| fs_b hsl <| fs_nil) (by kernel_rfl) ?_
            have nm : ∀ {x : Str} {w : V}, ([((Str.ofString "line"), V.obj st.length)] : List (Str × V)).lookup x = none → L x = some w → (EX.mk [((Str.ofString "line"), V.obj st.length)] L).loc x = some w := fun h1 h2 => (loc_o h1).trans h2
            exact ⟨⟨nm (by kernel_rfl) k1, nm (by kernel_rfl) k2, nm (by kernel_rfl) k3⟩, take_app k4, _, by kernel_rfl, Nat.le_trans j6 (Nat.le_of_lt (lt_of j5)), cur.dropLast, by rw [gl_at, slice_init, List.map_dropLast], by rw [List.length_dropLast]; omega, by omega, by rw [if_pos rfl, j8, hm', stripF, if_pos ⟨h1, by rw [hq, hu, hqu]⟩]⟩
        · refine .inl ⟨st, ?_, hd, k4, j, j4, j6, ?_⟩
          · exact (sx_tst (E := { l := [], o := L }) (fs_v k1 <| fs_b (r := true) rfl <| fs_v j4 <| fs_v (@lenP (tbl r) st j cur j5 hcl) <| fs_t (p := (↑(List.length cur) : Int) > 1) h1' <| fs_v j4 <| fs_v s2 <| fs_v j4 <| fs_v s1 <| fs_c (@cmp_pt st (at0 cur 0) (at0 cur (List.length cur - 1))) <| fs_f (p := at0 cur 0 = at0 cur (List.length cur - 1)) hqu <| fs_nil) (by kernel_rfl))
          · rw [j8, hm', stripF, if_neg (by rw [hq, hu]; simp [Ne.symm hqu])]; exact j5
      · have hst : stripF cur.length cur = cur := by
          cases hc : cur.length with
          | zero => rfl
          | succ m' => rw [stripF, if_neg (fun h => h1 h.1)]
        have h1n : ¬ (cur.length : Int) > 1 := by omega
        refine .inl ⟨st, ?_, hd, k4, j, j4, j6, by rw [j8, hst]; exact j5⟩
        exact (sx_tst (E := { l := [], o := L }) (fs_v k1 <| fs_b (r := true) rfl <| fs_v j4 <| fs_v (@lenP (tbl r) st j cur j5 hcl) <| fs_f (p := (↑(List.length cur) : Int) > 1) h1n <| fs_nil) (by kernel_rfl))
  generalize hm : pln c l = m at *
  obtain ⟨hf, hlen⟩ := pln_fine (c := c) hb
  rw [hm] at hf hlen
  have hm1 : m.length ≤ 1000 := by lia
  have hm' : m.length ≤ 1000000 := by (first | assumption | (apply Nat.le_trans; assumption; exact Nat.le_of_ble_eq_true rfl))
  obtain ⟨⟨i1, i2, i3⟩, i4, j, j1, j3, j2⟩ := h2
  have em : cmpS .Eq (σ2 ++ [Ob.list []]) (.obj j) (.obj σ2.length) = some (decide (m = [])) := cmp_emp (app_l j2) gl_at
  have le2 : σ.length ≤ (σ2 ++ [Ob.list []]).length := ext_le (take_app i4)
  by_cases h0 : m = []
  · refine Ret.fin (E := { l := [], o := L2 }) (v := V.obj (List.length (σ2 ++ [Ob.list []]))) (σ' := σ2 ++ [Ob.list []] ++ [Ob.list []]) (fs_v j1 <| fs_c em <| fs_t (p := m = []) h0 <| fs_nil) (by kernel_rfl) ?_
    exact ⟨_, rfl, take_app (take_app i4), le2, by rw [gl_at]; simp [pieces, hm, h0]⟩
  have e0 : ∀ τ, τ[j]? = some (Ob.list (m.map vp)) → subC (tbl r) τ (.obj j) (.int 0) = some (vp (at0 m 0)) := fun τ h => sub_0 h (by rw [List.head?_map, head_some h0]; rfl)
  by_cases h1 : m.length = 1
  · have h1' : ((m.length : Nat) : Int) = 1 := by grind
    cases kd with
    | true =>
      change L2 "kind" = some (.str "square") at i2
      refine Ret.fin (E := { l := [], o := L2 }) (v := V.obj (List.length (σ2 ++ [Ob.list []]))) (σ' := σ2 ++ [Ob.list []] ++ [Ob.list [V.tup [V.tup [V.int ((at0 m 0).fst - h), V.int ((at0 m 0).snd - h)], V.tup [V.int ((at0 m 0).fst + h), V.int ((at0 m 0).snd - h)], V.tup [V.int ((at0 m 0).fst + h), V.int ((at0 m 0).snd + h)], V.tup [V.int ((at0 m 0).fst - h), V.int ((at0 m 0).snd + h)]]]]) (fs_v j1 <| fs_c em <| fs_f (p := m = []) h0 <| fs_v j1 <| fs_v (@lenP (tbl r) (σ2 ++ [Ob.list []]) j m (app_l (by with_reducible assumption)) hm') <| fs_c (@cmp_eqi (σ2 ++ [Ob.list []]) ((↑(List.length m) : Int)) 1) <| fs_t (p := (↑(List.length m) : Int) = 1) h1' <| fs_v j1 <| fs_v (@e0 (σ2 ++ [Ob.list []]) (app_l (by with_reducible assumption))) <| fs_v i3 <| fs_v i3 <| fs_v i3 <| fs_v i3 <| fs_v i3 <| fs_v i3 <| fs_v i3 <| fs_v i3 <| fs_v i2 <| fs_c (@s_ss (σ2 ++ [Ob.list []])) <| fs_b (r := true) rfl <| fs_nil) (by kernel_rfl) ?_
      exact ⟨_, rfl, take_app (take_app i4), le2, by rw [gl_at]; simp [pieces, hm, h0, h1, dotOf, sqr, vps, vp]⟩
    | false =>
      change L2 "kind" = some (.str "butt") at i2
      refine Ret.fin (E := { l := [], o := L2 }) (v := V.obj (List.length (σ2 ++ [Ob.list []]))) (σ' := σ2 ++ [Ob.list []] ++ [Ob.list [V.tup []]]) (fs_v j1 <| fs_c em <| fs_f (p := m = []) h0 <| fs_v j1 <| fs_v (@lenP (tbl r) (σ2 ++ [Ob.list []]) j m (app_l (by with_reducible assumption)) hm') <| fs_c (@cmp_eqi (σ2 ++ [Ob.list []]) ((↑(List.length m) : Int)) 1) <| fs_t (p := (↑(List.length m) : Int) = 1) h1' <| fs_v j1 <| fs_v (@e0 (σ2 ++ [Ob.list []]) (app_l (by with_reducible assumption))) <| fs_v i3 <| fs_v i3 <| fs_v i3 <| fs_v i3 <| fs_v i3 <| fs_v i3 <| fs_v i3 <| fs_v i3 <| fs_v i2 <| fs_c (@s_bs (σ2 ++ [Ob.list []])) <| fs_b (r := false) rfl <| fs_nil) (by kernel_rfl) ?_
      exact ⟨_, rfl, take_app (take_app i4), le2, by rw [gl_at]; simp [pieces, hm, h0, h1, dotOf, vps]⟩
  have h2 : 2 ≤ m.length := by
    have := List.length_pos_iff.mpr h0
    lia
  have h1' : ¬ (m.length : Int) = 1 := by omega
  have et' : m.take 1 = [at0 m 0] := by
    cases m with
    | nil => exact absurd rfl h0
    | cons a m => rfl
  have hA : ∃ A : List Pt, A = (if c then m ++ [at0 m 0] else m) ∧ Apart A ∧ A.length ≤ 1000 := by
    refine ⟨_, rfl, ?_, ?_⟩
    · cases c with
      | true => rw [if_pos rfl, ← et']; exact hf.around h2
      | false => exact hf.apart
    · cases c with
      | true => rw [if_pos rfl, List.length_append]; exact Nat.le_of_lt_succ (show m.length + 1 < 1001 by omega)
      | false => exact hm1
  obtain ⟨A, eA, aA, lA⟩ := hA
  refine Ret.run_to (E := { l := [], o := L2 }) (k := 2) (E1 := { l := [], o := L2 }) (σ1 := σ2 ++ [Ob.list []]) (fs_v j1 <| fs_c em <| fs_f (p := m = []) h0 <| fs_v j1 <| fs_v (@lenP (tbl r) (σ2 ++ [Ob.list []]) j m (app_l (by with_reducible assumption)) hm') <| fs_c (@cmp_eqi (σ2 ++ [Ob.list []]) ((↑(List.length m) : Int)) 1) <| fs_f (p := (↑(List.length m) : Int) = 1) h1' <| fs_nil) (by kernel_rfl) ?_
  refine Ret.step (fun L st => (L "is_closed" = some (.bool c) ∧ L "kind" = some (kdV kd) ∧ L "half" = some (.int h)) ∧ st.take σ.length = σ ∧ L "line" = some (.obj j) ∧ st[j]? = some (Ob.list (m.map vp)) ∧ ∃ q, L "around" = some (.obj q) ∧ st[q]? = some (Ob.list (A.map vp))) ?_ fun L3 σ3 h3 => ?_
  · have nm : ∀ {u x : Str} {v w : V}, ([(u, v)] : List (Str × V)).lookup x = none → L2 x = some w → (EX.mk [(u, v)] L2).loc x = some w := fun h1 h2 => (loc_o h1).trans h2
    cases c with
    | true =>
      have hsl : (decide ((none : Option Int) ≠ some 0) && decide ((m.map vp).length ≤ most)) = true := by rw [List.length_map, decide_eq_true (show m.length ≤ most from hm')]; rfl
      have esl : m.map vp ++ sliceG (m.map vp) none (some 1) none = (m ++ [at0 m 0]).map vp := by rw [slice_first, ← List.map_take, et', List.map_append]
      have hadd : ∀ τ i, τ[j]? = some (Ob.list (m.map vp)) → τ[i]? = some (Ob.list (sliceG (m.map vp) none (some 1) none)) → binS .Add τ (.obj j) (.obj i) = some (.obj τ.length, τ ++ [Ob.list ((m ++ [at0 m 0]).map vp)]) := fun τ i a b => by
        rw [addC a b (by rw [slice_first, List.length_map, List.length_take]; omega), esl]
      exact ⟨_, σ2 ++ [Ob.list []] ++ [Ob.list (sliceG (m.map vp) none (some 1) none)] ++ [Ob.list ((m ++ [at0 m 0]).map vp)], (sx_ex (E := { l := [], o := L2 }) (E' := EX.up { l := [], o := L2 } (Str.ofString "around") (V.obj (List.length (σ2 ++ [Ob.list []] ++ [Ob.list (sliceG (List.map vp m) none (some 1) none)])))) (fs_v i1 <| fs_b (r := true) rfl <| fs_v j1 <| fs_v j1 <| fs_o (@app_l σ2 j (Ob.list (List.map vp m)) ([Ob.list []]) j2) <| fs_b hsl <| fs_s (@hadd (σ2 ++ [Ob.list []] ++ [Ob.list (sliceG (List.map vp m) none (some 1) none)]) (List.length (σ2 ++ [Ob.list []])) (app_l (app_l (by with_reducible assumption))) (gl_at)) <| fs_nil) (by kernel_rfl)), ⟨nm (by kernel_rfl) i1, nm (by kernel_rfl) i2, nm (by kernel_rfl) i3⟩, take_app (take_app (take_app i4)), nm (by kernel_rfl) j1, app_l (app_l (app_l j2)), (σ2 ++ [Ob.list []] ++ [Ob.list (sliceG (m.map vp) none (some 1) none)]).length, by kernel_rfl, by rw [gl_at, eA, if_pos rfl]⟩
    | false => exact ⟨_, σ2 ++ [Ob.list []], (sx_ex (E := { l := [], o := L2 }) (E' := EX.up { l := [], o := L2 } (Str.ofString "around") (V.obj j)) (fs_v i1 <| fs_b (r := false) rfl <| fs_v j1 <| fs_nil) (by kernel_rfl)), ⟨nm (by kernel_rfl) i1, nm (by kernel_rfl) i2, nm (by kernel_rfl) i3⟩, take_app i4, nm (by kernel_rfl) j1, app_l j2, j, by kernel_rfl, by rw [app_l j2, eA, if_neg (by decide)]⟩
  clear i1 i2 i3 i4 j1 j2 em e0
  obtain ⟨⟨i1, i2, i3⟩, i4, j1, j2, q, q1, q2⟩ := h3
  have le3 : σ.length ≤ σ3.length := ext_le i4
  have hz : zipT (A.map vp) (sliceG (A.map vp) (some 1) none none) = (List.range (A.length - 1)).map fun i => .tup [vp (at0 A i), vp (at0 A (i + 1))] := by
    rw [slice_tail, ← zip_next, List.map_drop]
  have hsl : (decide ((none : Option Int) ≠ some 0) && decide ((A.map vp).length ≤ most)) = true := by rw [List.length_map, decide_eq_true (show A.length ≤ most by unfold most; (first | assumption | (apply Nat.le_trans; assumption; exact Nat.le_of_ble_eq_true rfl)))]; rfl
  refine Ret.next (L1 := (EX.mk [(Str.ofString "found", .obj (σ3 ++ [Ob.list (sliceG (A.map vp) (some 1) none none)]).length)] L3).loc) (σ1 := σ3 ++ [Ob.list (sliceG (A.map vp) (some 1) none none)] ++ [Ob.list ((List.range (A.length - 1)).map fun i => vps (quad (at0 A i) (at0 A (i + 1)) h))]) (asg_comp (zip_comp (σ1 := σ3) (m := q) (k := σ3.length) (fun i => vps (quad (at0 A i) (at0 A (i + 1)) h)) (k_zip r) ?_ ?_ (app_l q2) gl_at (Nat.ne_of_lt (lt_of q2)) (by rw [List.length_map]; exact lA) (by rw [slice_tail, List.length_drop, List.length_map]; omega) hz (fun i hi l' => ?_) (by rw [List.length_range]; unfold most; omega))) ?_
  · exact (sx_ev (E := { l := [], o := L3 }) (fs_v q1 <| fs_nil) (by kernel_rfl))
  · exact (sx_ev (E := { l := [], o := L3 }) (fs_v q1 <| fs_o q2 <| fs_b hsl <| fs_nil) (by kernel_rfl))
  · have hi' := List.mem_range.mp hi
    have hs : Sd (at0 A i) (at0 A (i + 1)) := aA i (by omega)
    exact ⟨_, rfl, (sx_ev (E := { l := [], o := updL (hide { kind := ScopeKind.function, names := [(Str.ofString ".0", NameKind.local), (Str.ofString "one", NameKind.local), (Str.ofString "other", NameKind.local), (Str.ofString "_law_side", NameKind.globalImplicit), (Str.ofString "half", NameKind.free)], isGenerator := false, isCoroutine := false } L3) ((fun (x : List Str) ↦ Str.ofString "one" :: x) ((fun (x : List Str) ↦ Str.ofString "other" :: x) [])) [vp (at0 A i), vp (at0 A (i + 1))] }) (fs_v (r := vp (at0 A i)) rfl <| fs_v (r := vp (at0 A (i + 1))) rfl <| fs_v i3 <| fs_s (law_side_c (r := r) (n := n + 78) (σ := σ3 ++ [Ob.list (sliceG (List.map vp A) (some 1) none none)] ++ [Ob.list l']) hs hh) <| fs_nil) (by kernel_rfl))⟩
  have hsd : (List.range (A.length - 1)).map (fun i => vps (quad (at0 A i) (at0 A (i + 1)) h)) = (sides A h).map vps := by unfold sides; rw [List.map_map]; rfl
  rw [hsd]
  generalize hσ4 : σ3 ++ [Ob.list (sliceG (A.map vp) (some 1) none none)] = σ4
  replace i4 : σ4.take σ.length = σ := hσ4 ▸ take_app i4
  replace j2 : σ4[j]? = some (Ob.list (m.map vp)) := hσ4 ▸ app_l j2
  clear hσ4 hsd hsl hz q1 q2
  have jf : j ≠ σ4.length := Nat.ne_of_lt (lt_of j2)
  have lf : σ.length ≤ σ4.length := ext_le i4
  have nm : ∀ {l : List (Str × V)} {L : Loc} {x : Str} {w : V}, l.lookup x = none → L x = some w → (EX.mk l L).loc x = some w := fun h1 h2 => (loc_o h1).trans h2
  refine Ret.next (L1 := (EX.mk [(Str.ofString "places", plV c m.length), (Str.ofString "found", .obj σ4.length)] L3).loc) (σ1 := σ4 ++ [Ob.list ((sides A h).map vps)]) ?_ ?_
  · have j2 : (σ4 ++ [Ob.list ((sides A h).map vps)])[j]? = some (Ob.list (m.map vp)) := app_l j2
    cases c with
    | true => exact (sx_ex (E := { l := [(Str.ofString "found", V.obj (List.length σ4))], o := L3 }) (E' := EX.up { l := [(Str.ofString "found", V.obj (List.length σ4))], o := L3 } (Str.ofString "places") (V.rng 0 (↑(List.length m) : Int))) (fs_v i1 <| fs_b (r := true) rfl <| fs_v j1 <| fs_v (@lenP (tbl r) (σ4 ++ [Ob.list (List.map vps (sides A h))]) j m j2 hm') <| fs_nil) (by kernel_rfl))
    | false => exact (sx_ex (E := { l := [(Str.ofString "found", V.obj (List.length σ4))], o := L3 }) (E' := EX.up { l := [(Str.ofString "found", V.obj (List.length σ4))], o := L3 } (Str.ofString "places") (V.rng 1 ((↑(List.length m) : Int) - 1))) (fs_v i1 <| fs_b (r := false) rfl <| fs_v j1 <| fs_v (@lenP (tbl r) (σ4 ++ [Ob.list (List.map vps (sides A h))]) j m j2 hm') <| fs_nil) (by kernel_rfl))
  refine Ret.for rfl (w := plV c m.length) (vs := (plc c m.length).map fun (k : Nat) => V.int k) (σ1 := σ4 ++ [Ob.list ((sides A h).map vps)]) (sx_ev (E := { l := [(Str.ofString "places", plV c (List.length m)), (Str.ofString "found", V.obj (List.length σ4))], o := L3 }) (fs_nil) (by kernel_rfl)) (items_plc hm1) (fun done L st => (L "is_closed" = some (.bool c) ∧ L "kind" = some (kdV kd) ∧ L "half" = some (.int h)) ∧ st.take σ.length = σ ∧ L "line" = some (.obj j) ∧ st[j]? = some (Ob.list (m.map vp)) ∧ L "found" = some (.obj σ4.length) ∧ st[σ4.length]? = some (Ob.list ((sides A h).map vps ++ done.map fun v : V => match v with | V.int k => vps (crnT h (tri m k.toNat)) | _ => .none))) (fun done L st hI => items_plc hm1) (fun done v rest L st hall hI => ?_) ⟨⟨nm (by kernel_rfl) i1, nm (by kernel_rfl) i2, nm (by kernel_rfl) i3⟩, take_app i4, nm (by kernel_rfl) j1, app_l j2, by kernel_rfl, by rw [gl_at, List.map_nil, List.append_nil]⟩ fun L6 σ6 h6 => ?_
  · clear i1 i2 i3 i4 j1 j2
    obtain ⟨⟨i1, i2, i3⟩, i4, j1, j2, f1, f2⟩ := hI
    obtain ⟨k, hk, rfl⟩ : ∃ k ∈ plc c m.length, v = V.int (k : Nat) := by
      have hv : v ∈ (plc c m.length).map fun (k : Nat) => V.int k := by rw [hall]; simp
      obtain ⟨k, hk, rfl⟩ := List.mem_map.mp hv
      exact ⟨k, hk, rfl⟩
    obtain ⟨s1, s2⟩ := hf.cors h2 (tri m k) (by rw [cors_eq]; exact List.mem_map_of_mem hk)
    have hsz : ((sides A h).map vps ++ done.map fun v : V => match v with | V.int k => vps (crnT h (tri m k.toNat)) | _ => .none).length < 1000000 := by
      have e := congrArg List.length hall
      rw [List.length_map, List.length_append] at e
      have h' : (plc c m.length).length ≤ m.length := by unfold plc; cases c <;> simp
      rw [List.length_append, List.length_map, List.length_map]
      unfold sides
      rw [List.length_map, List.length_range]
      omega
    have hkm : k < m.length := by
      unfold plc at hk
      cases c with
      | true => simpa using hk
      | false => 
        obtain ⟨i, hi, rfl⟩ := List.mem_map.mp hk
        have := List.mem_range.mp hi
        omega
    have e1 : subC (tbl r) st (.obj j) (.int (k : Nat)) = some (vp (at0 m k)) := sub_at j2 (at0_get hkm) (by (first | exact Nat.le_of_lt (by assumption) | exact Nat.lt_of_lt_of_le (by assumption) (by assumption) | exact Nat.le_trans (by assumption) (by assumption) | exact Nat.lt_succ_of_lt (by assumption)))
    have e2 : subC (tbl r) st (.obj j) (.int ((k : Int) - 1)) = some (vp (at0 m (if k = 0 then m.length - 1 else k - 1))) := by
      by_cases h0 : k = 0
      · rw [if_pos h0, h0]
        refine sub_last j2 ?_
        rw [List.getLast?_eq_getElem?, List.length_map]
        exact at0_get (by omega)
      · rw [if_neg h0, show (k : Int) - 1 = ((k - 1 : Nat) : Int) by omega]
        exact sub_at j2 (at0_get (by omega)) (by omega)
    have e3 : subC (tbl r) st (.obj j) (.int (((k : Int) + 1).fmod m.length)) = some (vp (at0 m ((k + 1) % m.length))) := by
      have hlt : (k + 1) % m.length < m.length := Nat.mod_lt _ (by (first | exact Nat.le_of_lt (by assumption) | exact Nat.lt_of_lt_of_le (by assumption) (by assumption) | exact Nat.le_trans (by assumption) (by assumption) | exact Nat.lt_succ_of_lt (by assumption)))
      rw [← fmod_cast]
      exact sub_at j2 (at0_get hlt) (by (first | exact Nat.le_of_lt (by assumption) | exact Nat.lt_of_lt_of_le (by assumption) (by assumption) | exact Nat.le_trans (by assumption) (by assumption) | exact Nat.lt_succ_of_lt (by assumption)))
    have hN0 : (m.length : Int) ≠ 0 := by omega
    have e4 : ∀ n τ, callD (lvl (tbl r) (n + 80)) d_l_corner.1 [vp (at0 m (if k = 0 then m.length - 1 else k - 1)), vp (at0 m k), vp (at0 m ((k + 1) % m.length)), .int h] τ = some (vps (crnT h (tri m k)), τ) := fun n τ => law_corner_c s1 s2 hh
    refine ⟨_, rfl, ?_⟩
    generalize hls : ((sides A h).map vps ++ done.map fun v : V => match v with | V.int k => vps (crnT h (tri m k.toNat)) | _ => .none) = ls at *
    refine Nx.fin (E := { l := [(Str.ofString "place_k", V.int (↑k : Int))], o := L }) (E' := { l := [(Str.ofString "place_k", V.int (↑k : Int))], o := L }) (σ' := List.set st (List.length σ4) (Ob.list (ls ++ [vps (crnT h (tri m k))]))) (fs_v f1 <| fs_o f2 <| fs_v j1 <| fs_v e2 <| fs_v j1 <| fs_v e1 <| fs_v j1 <| fs_v j1 <| fs_v (@lenP (tbl r) st j m j2 hm') <| fs_s (@mdC st ((↑k : Int) + 1) ((↑(List.length m) : Int)) hN0) <| fs_v e3 <| fs_v i3 <| fs_s (@e4 (n + 76) st) <| fs_o f2 <| fs_s (@app_c st (List.length σ4) ls (vps (crnT h (tri m k))) hsz) <| fs_nil) (by kernel_rfl) ?_
    exact ⟨⟨nm (by kernel_rfl) i1, nm (by kernel_rfl) i2, nm (by kernel_rfl) i3⟩, take_set i4 lf, nm (by kernel_rfl) j1, by rw [set_ne (Ne.symm jf)]; exact j2, nm (by kernel_rfl) f1, by rw [set_self f2, ← hls, List.map_append, List.append_assoc]; rfl⟩
  clear i1 i2 i3 i4 j1 j2
  obtain ⟨⟨i1, i2, i3⟩, i4, j1, j2, f1, f2⟩ := h6
  have hc : ((plc c m.length).map fun (k : Nat) => V.int k).map (fun v => match v with | .int k => vps (crnT h (tri m k.toNat)) | _ => .none) = ((cors c m).map (crnT h)).map vps := by rw [cors_eq, List.map_map, List.map_map, List.map_map]; rfl
  rw [hc, ← List.map_append] at f2
  have ep : pieces c kd l h = pcs c kd m h := by simp [pieces, hm, h0, h1]
  rw [ep]
  cases c with
  | true =>
    refine Ret.fin (E := { l := [], o := L6 }) (v := V.obj (List.length σ4)) (σ' := σ6) (fs_v i1 <| fs_b (r := false) rfl <| fs_v f1 <| fs_nil) (by kernel_rfl) ?_
    exact ⟨_, rfl, i4, lf, by rw [f2, eA, if_pos rfl, ← et', pcs, if_pos rfl, if_pos rfl, List.append_nil]⟩
  | false =>
    have e0 : subC (tbl r) σ6 (.obj j) (.int 0) = some (vp (at0 m 0)) := sub_0 j2 (by rw [List.head?_map, head_some h0]; rfl)
    have e1 : subC (tbl r) σ6 (.obj j) (.int 1) = some (vp (at0 m 1)) := sub_at (j := 1) j2 (at0_get (by (first | assumption | (apply Nat.le_trans; assumption; exact Nat.le_of_ble_eq_true rfl)))) (by decide)
    have e2 : subC (tbl r) σ6 (.obj j) (.int (-1)) = some (vp (at0 m (m.length - 1))) := sub_last j2 (by rw [last_map, last_some h0]; rfl)
    have e3 : subC (tbl r) σ6 (.obj j) (.int (-2)) = some (vp (at0 m (m.length - 2))) := sub_last2 j2 h2
    have c1 := fun j τ => law_cap_c (r := r) (n := j) (σ := τ) (kd := kd) (h := h) (hf.c1 h2) hh
    have c2 := fun j τ => law_cap_c (r := r) (n := j) (σ := τ) (kd := kd) (h := h) (hf.c2 h2) hh
    have hadd : ∀ τ i u v, τ[i]? = some (Ob.list [u, v]) → τ[σ4.length]? = some (Ob.list ((sides A h ++ (cors false m).map (crnT h)).map vps)) → binS .Add τ (.obj σ4.length) (.obj i) = some (.obj τ.length, τ ++ [Ob.list ((sides A h ++ (cors false m).map (crnT h)).map vps ++ [u, v])]) := fun τ i u v a b => addC b a (by unfold sides cors; simp; omega)
    refine Ret.fin (E := { l := [], o := L6 }) (v := V.obj (List.length (σ6 ++ [Ob.list [vps (capOf kd (at0 m 1) (at0 m 0) h), vps (capOf kd (at0 m (List.length m - 2)) (at0 m (List.length m - 1)) h)]]))) (σ' := σ6 ++ [Ob.list [vps (capOf kd (at0 m 1) (at0 m 0) h), vps (capOf kd (at0 m (List.length m - 2)) (at0 m (List.length m - 1)) h)]] ++ [Ob.list (List.map vps (sides A h ++ List.map (crnT h) (cors false m)) ++ [vps (capOf kd (at0 m 1) (at0 m 0) h), vps (capOf kd (at0 m (List.length m - 2)) (at0 m (List.length m - 1)) h)])]) (fs_v i1 <| fs_b (r := true) rfl <| fs_v f1 <| fs_v i2 <| fs_v j1 <| fs_v e1 <| fs_v j1 <| fs_v e0 <| fs_v i3 <| fs_s (@c1 (n + 75) σ6) <| fs_v i2 <| fs_v j1 <| fs_v e3 <| fs_v j1 <| fs_v e2 <| fs_v i3 <| fs_s (@c2 (n + 75) σ6) <| fs_s (@hadd (σ6 ++ [Ob.list [vps (capOf kd (at0 m 1) (at0 m 0) h), vps (capOf kd (at0 m (List.length m - 2)) (at0 m (List.length m - 1)) h)]]) (List.length σ6) (vps (capOf kd (at0 m 1) (at0 m 0) h)) (vps (capOf kd (at0 m (List.length m - 2)) (at0 m (List.length m - 1)) h)) (gl_at) (app_l (by with_reducible assumption))) <| fs_nil) (by kernel_rfl) ?_
    exact ⟨_, rfl, take_app (take_app i4), ext_le (take_app i4), by rw [gl_at, eA, if_neg (by decide)]; simp [pcs]⟩
theorem due_c {a : Nat} {l : List Pt} {c kd : Bool} {h : Int} (ha : σ[a]? = some (Ob.list (l.map vp))) (hl : l.length ≤ 100) (hb : Box l) (hh : Hf h) : callD (lvl (tbl r) (n + 160)) d_l_due.1 [.obj a, .bool c, kdV kd, .int h] σ = some (.obj σ.length, σ ++ [Ob.list ((pieces c kd l h).map vps)]) := callD_list'' rfl freeL_pcs (due1 ha hl hb hh)
end Mine
end
section
open PySem PySem.W PyProof.Rows PySem.Calls
set_option linter.unusedVariables false
set_option linter.unusedSimpArgs false
set_option maxRecDepth 100000
namespace Mine
variable {r : Nat → Option (List Int)} {T : Tbl} {F : Funs} {L : Loc} {σ : Sto} {n : Nat}

theorem callD_free {d : DefRec} {vs : List V} (h : vs.length = d.params.args.length) {v : V} (hf : free v = true) (hr : Ret F (bindP (d.params.args.map (·.arg)) vs) σ d.body fun u σ' => u = v ∧ σ'.take σ.length = σ) : callD F d vs σ = some (v, σ) := by
  obtain ⟨u, σ', e, rfl, h1⟩ := hr.run
  rw [callD_run h e, gc_free hf h1]
theorem range_split {α : Type} {N : Nat} {g : Nat → α} {done rest : List α} {v : α} (h : (List.range N).map g = done ++ v :: rest) : v = g done.length ∧ done.length < N := by
  have e := congrArg (·[done.length]?) h
  have hl := congrArg List.length h
  simp only [List.length_map, List.length_range, List.length_append, List.length_cons] at hl
  have hlt : done.length < N := by omega
  simp only [List.getElem?_map, List.getElem?_append_right (Nat.le_refl _), Nat.sub_self, List.getElem?_cons_zero] at e
  rw [List.getElem?_range hlt] at e
  exact ⟨(Option.some.inj e).symm, hlt⟩

noncomputable def sumR (f : Nat → Int) : Nat → Int
  | 0 => 0
  | k + 1 => sumR f k + f k
noncomputable def crs (p q : Pt) : Int := p.1 * q.2 - p.2 * q.1
noncomputable def shoT (m : List Pt) (i : Nat) : Int := crs (at0 m (if i = 0 then m.length - 1 else i - 1)) (at0 m i)
noncomputable def sho (m : List Pt) : Int := sumR (shoT m) m.length
noncomputable def fanT (m : List Pt) (i : Nat) : Int := ((at0 m (i + 1)).1 - (at0 m 0).1) * ((at0 m (i + 2)).2 - (at0 m 0).2) - ((at0 m (i + 1)).2 - (at0 m 0).2) * ((at0 m (i + 2)).1 - (at0 m 0).1)
noncomputable def fan (m : List Pt) : Int := sumR (fanT m) (m.length - 2)
theorem sho_fan {m : List Pt} : sho m = fan m := by
  by_cases h1 : m.length ≤ 1
  · unfold sho fan
    rcases Nat.lt_or_ge m.length 1 with h | h
    · rw [show m.length = 0 by omega]; rfl
    · have e : m.length = 1 := by omega
      rw [e]
      simp [sumR, shoT, e, crs]
      grind
  · have key : ∀ k, sumR (shoT m) (k + 2) - shoT m 0 + crs (at0 m (k + 1)) (at0 m 0) = sumR (fanT m) k := by
      intro k
      induction k with
      | zero =>
        simp [sumR, shoT, crs]
        grind
      | succ k ih =>
        rw [show sumR (fanT m) (k + 1) = sumR (fanT m) k + fanT m k from rfl, ← ih, show sumR (shoT m) (k + 1 + 2) = sumR (shoT m) (k + 2) + shoT m (k + 2) from rfl]
        simp [shoT, fanT, crs]
        grind
    have := key (m.length - 2)
    rw [show m.length - 2 + 2 = m.length by omega, show m.length - 2 + 1 = m.length - 1 by grind] at this
    unfold sho fan
    rw [← this]
    simp [shoT]

noncomputable def Box2 (l : List Pt) : Prop := ∀ p ∈ l, (-10000 ≤ p.1 ∧ p.1 ≤ 10000) ∧ (-10000 ≤ p.2 ∧ p.2 ≤ 10000)

theorem tupC {k : Nat} {l : List V} (h : σ[k]? = some (.list l)) (hl : l.length ≤ 1000000) : biC T .tuple [.obj k] σ = some (.tup l) := by
  show (match σ[k]? with | some (.list l) => if decide (l.length ≤ most) then some (V.tup l) else none | _ => none) = _
  rw [h]
  exact if_pos (decide_eq_true (by unfold most; exact hl))
theorem tupP {k : Nat} {l : List Pt} (h : σ[k]? = some (.list (l.map vp))) (hl : l.length ≤ 1000000) : biC T .tuple [.obj k] σ = some (vps l) := tupC h (by rw [List.length_map]; exact hl)
theorem area_c {k : Nat} {m : List Pt} (hk : σ[k]? = some (.list (m.map vp))) (hl : m.length ≤ 1000) (hb : Box2 m) : callD (lvl (tbl r) (n + 40)) d_area_twice_of.1 [.obj k] σ = some (.int (sho m), σ) := by
  refine callD_free rfl rfl (Ret.args ?_)
  have hl' : m.length ≤ 1000000 := by omega
  refine Ret.run_to (k := 1) (E1 := EX.up (argX d_area_twice_of.val [V.obj k]) (Str.ofString "found") (V.int 0)) (σ1 := σ) (fs_nil) (by kernel_rfl) ?_
  refine Ret.for rfl (w := .rng 0 m.length) (vs := (List.range m.length).map fun k : Nat => V.int k) (σ1 := σ) (sx_ev (E := EX.up (argX d_area_twice_of.val [V.obj k]) (Str.ofString "found") (V.int 0)) (fs_v (@lenP (tbl r) σ k m hk hl') <| fs_nil) (by kernel_rfl)) (items_rng0 (by omega) (by omega)) (fun done L st => L "found" = some (.int (sumR (shoT m) done.length)) ∧ L "spots" = some (.obj k) ∧ st = σ) (fun done L st hI => items_rng0 (by omega) (by omega)) (fun done v rest L st hall hI => ?_) ⟨by kernel_rfl, by kernel_rfl, rfl⟩ fun L2 σ2 h2 => ?_
  · obtain ⟨i1, i2, rfl⟩ := hI
    obtain ⟨rfl, hlt⟩ := range_split hall
    rw [List.length_append, List.length_singleton]
    generalize done.length = i at *
    have e1 : subC (tbl r) st (.obj k) (.int (i : Nat)) = some (vp (at0 m i)) := sub_at hk (at0_get hlt) (by (first | exact Nat.le_of_lt (by assumption) | exact Nat.lt_of_lt_of_le (by assumption) (by assumption) | exact Nat.le_trans (by assumption) (by assumption) | exact Nat.lt_succ_of_lt (by assumption)))
    have e2 : subC (tbl r) st (.obj k) (.int ((i : Int) - 1)) = some (vp (at0 m (if i = 0 then m.length - 1 else i - 1))) := by
      by_cases h0 : i = 0
      · rw [if_pos h0, h0]
        refine sub_last hk ?_
        rw [List.getLast?_eq_getElem?, List.length_map]
        exact at0_get (by omega)
      · rw [if_neg h0, show (i : Int) - 1 = ((i - 1 : Nat) : Int) by omega]
        exact sub_at hk (at0_get (by omega)) (by omega)
    obtain ⟨⟨q1, q2⟩, q3, q4⟩ := hb _ (at0_mem (l := m) (i := if i = 0 then m.length - 1 else i - 1) (by split <;> omega))
    have es : sumR (shoT m) (i + 1) = sumR (shoT m) i + ((at0 m (if i = 0 then m.length - 1 else i - 1)).1 * (at0 m i).2 - (at0 m (if i = 0 then m.length - 1 else i - 1)).2 * (at0 m i).1) := rfl
    rw [es]
    generalize at0 m (if i = 0 then m.length - 1 else i - 1) = q at *
    generalize at0 m i = p at *
    have c1 : -1152921504606846976 < q.1 := by omega
    have c2 : q.1 < 1152921504606846976 := by omega
    have c3 : -1152921504606846976 < q.2 := by omega
    have c4 : q.2 < 1152921504606846976 := by omega
    refine ⟨_, rfl, ?_⟩
    refine Nx.fin (E := { l := [(Str.ofString "place", V.int (↑i : Int))], o := L }) (E' := EX.up (EX.ups { l := [(Str.ofString "place", V.int (↑i : Int))], o := L } [Str.ofString "one", Str.ofString "other"] [vp q, vp p]) (Str.ofString "found") (V.int (sumR (shoT m) i + (q.fst * p.snd - q.snd * p.fst)))) (σ' := st) (fs_v i2 <| fs_v e2 <| fs_v i2 <| fs_v e1 <| fs_v i1 <| fs_s (@mulL st q.fst p.snd c1 c2) <| fs_s (@mulL st q.snd p.fst c3 c4) <| fs_nil) (by kernel_rfl) ?_
    exact ⟨by kernel_rfl, (loc_o (by kernel_rfl)).trans i2, rfl⟩
  · obtain ⟨h2, _, rfl⟩ := h2
    rw [List.length_map, List.length_range] at h2
    refine Ret.fin (E := { l := [], o := L2 }) (v := V.int (sumR (shoT m) (List.length m))) (σ' := σ2) (fs_v h2 <| fs_nil) (by kernel_rfl) ?_
    exact ⟨rfl, tk0⟩

noncomputable def sns (l : List Pt) : Option (List Pt) := if sho (strip (dd l)) = 0 then none else some (if sho (strip (dd l)) > 0 then strip (dd l) else (strip (dd l)).reverse)
noncomputable def snV : Option (List Pt) → V
  | none => .none
  | some l => vps l
theorem free_snV {o : Option (List Pt)} : free (snV o) = true := by
  cases o with
  | none => rfl
  | some l => exact free_vps
theorem strip_sub {l : List Pt} : (∀ p ∈ strip (dd l), p ∈ l) ∧ (strip (dd l)).length ≤ l.length := by
  obtain ⟨_, _, c, d⟩ := stripF_ok (dd l).length (dd l) (Nat.le_refl _) Nb.dd
  exact ⟨fun p hp => dd_sub p (c p hp), Nat.le_trans d dd_len⟩

theorem one_sense_c {l : List Pt} (hl : l.length ≤ 50) (hb : Box2 l) : callD (lvl (tbl r) (n + 60)) d_one_sense.1 [vps l] σ = some (snV (sns l), σ) := by
  refine callD_free rfl free_snV (Ret.args ?_)
  have hit : ∀ τ, items τ (vps l) = some (l.map vp) := fun τ => by unfold items vps; exact if_pos (decide_eq_true (by rw [List.length_map]; unfold most; (first | assumption | (apply Nat.le_trans; assumption; exact Nat.le_of_ble_eq_true rfl))))
  have hbm : Box2 (strip (dd l)) := fun p hp => hb p (strip_sub.1 p hp)
  have hlm : (strip (dd l)).length ≤ 50 := Nat.le_trans strip_sub.2 hl
  refine Ret.run_to (k := 1) (E1 := EX.up (argX d_one_sense.val [vps l]) (Str.ofString "found") (V.obj (List.length σ))) (σ1 := σ ++ [Ob.list []]) (fs_nil) (by kernel_rfl) ?_
  refine Ret.for rfl (w := vps l) (vs := l.map vp) (σ1 := σ ++ [Ob.list []]) (sx_ev (E := EX.up (argX d_one_sense.val [vps l]) (Str.ofString "found") (V.obj (List.length σ))) (fs_nil) (by kernel_rfl)) (hit _)
    (fun done L st => ∃ dn : List Pt, done = dn.map vp ∧ L "found" = some (.obj σ.length) ∧ st.take σ.length = σ ∧ st[σ.length]? = some (Ob.list ((dd dn).map vp)))
    (fun done L st hI => hit _) (fun done v rest L st hall hI => ?_) ⟨[], rfl, by kernel_rfl, take_app tk0, gl_at⟩ fun L2 σ2 hI => ?_
  · obtain ⟨dn, rfl, i1, i3, i4⟩ := hI
    obtain ⟨p, rfl⟩ : ∃ p, v = vp p := by
      have hm : v ∈ l.map vp := by rw [hall]; simp
      obtain ⟨p, _, e⟩ := List.mem_map.mp hm
      exact ⟨p, e.symm⟩
    have hdn : (dd dn).length ≤ dn.length := dd_len
    have hsz : ((dd dn).map vp).length < 1000000 := by
      have := congrArg List.length hall
      rw [List.length_map, List.length_append, List.length_map] at this
      rw [List.length_map]; omega
    have hc : cmpS .Eq (st ++ [Ob.list []]) (.obj σ.length) (.obj st.length) = some (decide (dd dn = [])) := cmp_emp (app_l i4) gl_at
    have e4 : dd (dn ++ [p]) = ddS (dd dn) p := dd_snoc
    have e0 : dn.map vp ++ [vp p] = (dn ++ [p]).map vp := by rw [List.map_append]; rfl
    have nm : (EX.mk [(Str.ofString "spot", vp p)] L).loc "found" = some (.obj σ.length) := (loc_o (by kernel_rfl)).trans i1
    have fin : dd (dn ++ [p]) = dd dn ++ [p] → ((st ++ [Ob.list []]).set σ.length (Ob.list ((dd dn).map vp ++ [vp p])))[σ.length]? = some (Ob.list ((dd (dn ++ [p])).map vp)) := fun e => by
      rw [set_self (app_l i4), e, List.map_append]; rfl
    refine ⟨_, rfl, ?_⟩
    rcases hlast : (dd dn).getLast? with _ | q
    · have he : dd dn = [] := List.getLast?_eq_none_iff.mp hlast
      refine Nx.fin (E := { l := [(Str.ofString "spot", vp p)], o := L }) (E' := { l := [(Str.ofString "spot", vp p)], o := L }) (σ' := List.set (st ++ [Ob.list []]) (List.length σ) (Ob.list (List.map vp (dd dn) ++ [vp p]))) (fs_v i1 <| fs_c hc <| fs_t (p := dd dn = []) he <| fs_b (r := true) rfl <| fs_v i1 <| fs_o (@app_l st (List.length σ) (Ob.list (List.map vp (dd dn))) ([Ob.list []]) i4) <| fs_o (@app_l st (List.length σ) (Ob.list (List.map vp (dd dn))) ([Ob.list []]) i4) <| fs_s (@app_c (st ++ [Ob.list []]) (List.length σ) (List.map vp (dd dn)) (vp p) hsz) <| fs_nil) (by kernel_rfl) ?_
      exact ⟨dn ++ [p], e0, nm, take_set (take_app i3) (Nat.le_refl _), fin (by rw [e4]; unfold ddS; rw [if_pos (.inl he)])⟩
    · have he : ¬ dd dn = [] := by intro e; rw [e] at hlast; cases hlast
      have hs : subC (tbl r) (st ++ [Ob.list []]) (.obj σ.length) (.int (-1)) = some (vp q) := sub_last (app_l i4) (by rw [last_map, hlast]; rfl)
      by_cases hpq : p = q
      · have hb : (!decide (p = q)) = false := by rw [decide_eq_true hpq]; rfl
        refine Nx.fin (E := { l := [(Str.ofString "spot", vp p)], o := L }) (E' := { l := [(Str.ofString "spot", vp p)], o := L }) (σ' := st ++ [Ob.list []]) (fs_v i1 <| fs_c hc <| fs_f (p := dd dn = []) he <| fs_v i1 <| fs_v hs <| fs_c (@cmp_ptn (st ++ [Ob.list []]) p q) <| fs_b hb <| fs_b (r := false) rfl <| fs_nil) (by kernel_rfl) ?_
        have e6 : dd (dn ++ [p]) = dd dn := by rw [e4]; unfold ddS; rw [if_neg (by rw [hlast, hpq]; simp [he])]
        exact ⟨dn ++ [p], e0, nm, take_app i3, by rw [e6]; exact app_l i4⟩
      · have hb : (!decide (p = q)) = true := by rw [decide_eq_false hpq]; rfl
        refine Nx.fin (E := { l := [(Str.ofString "spot", vp p)], o := L }) (E' := { l := [(Str.ofString "spot", vp p)], o := L }) (σ' := List.set (st ++ [Ob.list []]) (List.length σ) (Ob.list (List.map vp (dd dn) ++ [vp p]))) (fs_v i1 <| fs_c hc <| fs_f (p := dd dn = []) he <| fs_v i1 <| fs_v hs <| fs_c (@cmp_ptn (st ++ [Ob.list []]) p q) <| fs_b hb <| fs_b (r := true) rfl <| fs_v i1 <| fs_o (@app_l st (List.length σ) (Ob.list (List.map vp (dd dn))) ([Ob.list []]) i4) <| fs_o (@app_l st (List.length σ) (Ob.list (List.map vp (dd dn))) ([Ob.list []]) i4) <| fs_s (@app_c (st ++ [Ob.list []]) (List.length σ) (List.map vp (dd dn)) (vp p) hsz) <| fs_nil) (by kernel_rfl) ?_
        exact ⟨dn ++ [p], e0, nm, take_set (take_app i3) (Nat.le_refl _), fin (by rw [e4]; unfold ddS; rw [if_pos (.inr (by rw [hlast]; simpa using Ne.symm hpq))])⟩
  have hd50 : (dd l).length ≤ 50 := Nat.le_trans dd_len hl
  obtain ⟨dn, e0, i1, i3, i4⟩ := hI
  have hdl : l = dn := vps_inj e0
  subst hdl
  refine Ret.while rfl (m0 := (dd l).length) (fun m L st => L "found" = some (.obj σ.length) ∧ st.take σ.length = σ ∧ ∃ cur : List Pt, st[σ.length]? = some (Ob.list (cur.map vp)) ∧ cur.length = m ∧ m ≤ 50 ∧ strip (dd l) = stripF m cur)
    (fun L st => L "found" = some (.obj σ.length) ∧ st.take σ.length = σ ∧ st[σ.length]? = some (Ob.list ((strip (dd l)).map vp))) (fun m L st hI => ?_) ⟨i1, i3, dd l, i4, rfl, hd50, rfl⟩ (by omega) fun L3 σ3 h3 => ?_
  · obtain ⟨j1, j3, cur, j4, rfl, j5, j6⟩ := hI
    have hcl : cur.length ≤ 1000000 := by (first | assumption | (apply Nat.le_trans; assumption; exact Nat.le_of_ble_eq_true rfl))
    by_cases h1 : 1 < cur.length
    · have hne : cur ≠ [] := by intro e; rw [e] at h1; exact absurd h1 (by decide)
      have hq := last_some hne
      have hu := head_some hne
      have s1 : subC (tbl r) st (.obj σ.length) (.int (-1)) = some (vp (at0 cur (cur.length - 1))) := sub_last j4 (by rw [last_map, hq]; rfl)
      have s2 : subC (tbl r) st (.obj σ.length) (.int 0) = some (vp (at0 cur 0)) := sub_0 j4 (by rw [List.head?_map, hu]; rfl)
      obtain ⟨m', hm'⟩ : ∃ m', cur.length = m' + 1 := ⟨cur.length - 1, by omega⟩
      have h1' : (cur.length : Int) > 1 := by omega
      by_cases hqu : at0 cur (cur.length - 1) = at0 cur 0
      · refine .inr ⟨m', st, hm', (sx_tst (E := { l := [], o := L }) (fs_v j1 <| fs_v (@lenP (tbl r) st (List.length σ) cur j4 hcl) <| fs_t (p := (↑(List.length cur) : Int) > 1) h1' <| fs_v j1 <| fs_v s1 <| fs_v j1 <| fs_v s2 <| fs_c (@cmp_pt st (at0 cur (List.length cur - 1)) (at0 cur 0)) <| fs_t (p := at0 cur (List.length cur - 1) = at0 cur 0) hqu <| fs_nil) (by kernel_rfl)), ?_⟩
        have hp := fun τ => popC (σ := τ) (k := σ.length) (l := cur.map vp) (v := vp (at0 cur (cur.length - 1))) (by rw [last_map, hq]; rfl) free_vp (by rw [List.length_map]; exact hcl)
        refine Nx.fin (E := { l := [], o := L }) (E' := { l := [], o := L }) (σ' := List.set st (List.length σ) (Ob.list (List.dropLast (List.map vp cur)))) (fs_v j1 <| fs_o j4 <| fs_o j4 <| fs_s (@hp st) <| fs_nil) (by kernel_rfl) ?_
        exact ⟨j1, take_set j3 (Nat.le_refl _), cur.dropLast, by rw [set_self j4, List.map_dropLast], by rw [List.length_dropLast]; omega, by omega, by rw [j6, hm', stripF, if_pos ⟨h1, by rw [hq, hu, hqu]⟩]⟩
      · exact .inl ⟨st, (sx_tst (E := { l := [], o := L }) (fs_v j1 <| fs_v (@lenP (tbl r) st (List.length σ) cur j4 hcl) <| fs_t (p := (↑(List.length cur) : Int) > 1) h1' <| fs_v j1 <| fs_v s1 <| fs_v j1 <| fs_v s2 <| fs_c (@cmp_pt st (at0 cur (List.length cur - 1)) (at0 cur 0)) <| fs_f (p := at0 cur (List.length cur - 1) = at0 cur 0) hqu <| fs_nil) (by kernel_rfl)), j1, j3, by rw [j6, hm', stripF, if_neg (by rw [hq, hu]; simp [hqu])]; exact j4⟩
    · have hst : stripF cur.length cur = cur := by
        cases hc : cur.length with
        | zero => rfl
        | succ m' => rw [stripF, if_neg (fun h => h1 h.1)]
      have h1n : ¬ (cur.length : Int) > 1 := by omega
      exact .inl ⟨st, (sx_tst (E := { l := [], o := L }) (fs_v j1 <| fs_v (@lenP (tbl r) st (List.length σ) cur j4 hcl) <| fs_f (p := (↑(List.length cur) : Int) > 1) h1n <| fs_nil) (by kernel_rfl)), j1, j3, by rw [j6, hst]; exact j4⟩
  clear i1 i3 i4 hit
  obtain ⟨i1, i3, i4⟩ := h3
  unfold sns
  generalize strip (dd l) = m at *
  have ar := fun n => area_c (r := r) (n := n) i4 (by (first | assumption | (apply Nat.le_trans; assumption; exact Nat.le_of_ble_eq_true rfl))) hbm
  have hm' : m.length ≤ 1000000 := by omega
  by_cases hz : sho m = 0
  · refine Ret.fin (E := { l := [], o := L3 }) (v := V.none) (σ' := σ3) (fs_v i1 <| fs_s (@ar (n + 18)) <| fs_c (@cmp_eqi σ3 (sho m) 0) <| fs_t (p := sho m = 0) hz <| fs_nil) (by kernel_rfl) ?_
    exact ⟨by rw [if_pos hz]; rfl, i3⟩
  · by_cases hp : sho m > 0
    · refine Ret.fin (E := { l := [], o := L3 }) (v := vps m) (σ' := σ3) (fs_v i1 <| fs_s (@ar (n + 18)) <| fs_c (@cmp_eqi σ3 (sho m) 0) <| fs_f (p := sho m = 0) hz <| fs_t (p := sho m > 0) hp <| fs_v i1 <| fs_v (@tupP (tbl r) σ3 (List.length σ) m i4 hm') <| fs_nil) (by kernel_rfl) ?_
      exact ⟨by rw [if_neg hz, if_pos hp]; rfl, i3⟩
    · have hsl : (decide ((some (-1) : Option Int) ≠ some 0) && decide ((m.map vp).length ≤ most)) = true := by rw [List.length_map, decide_eq_true (show m.length ≤ most from hm')]; rfl
      have hrev : ∀ τ i, τ[i]? = some (Ob.list (sliceG (m.map vp) none none (some (-1)))) → biC (tbl r) .tuple [.obj i] τ = some (vps m.reverse) := fun τ i h => tupP (by rw [h, slice_rev, List.map_reverse]) (by rw [List.length_reverse]; exact hm')
      refine Ret.fin (E := { l := [], o := L3 }) (v := vps (List.reverse m)) (σ' := σ3 ++ [Ob.list (sliceG (List.map vp m) none none (some (-1)))]) (fs_v i1 <| fs_s (@ar (n + 18)) <| fs_c (@cmp_eqi σ3 (sho m) 0) <| fs_f (p := sho m = 0) hz <| fs_f (p := sho m > 0) hp <| fs_v i1 <| fs_o i4 <| fs_b hsl <| fs_v (@hrev (σ3 ++ [Ob.list (sliceG (List.map vp m) none none (some (-1)))]) (List.length σ3) (gl_at)) <| fs_nil) (by kernel_rfl) ?_
      exact ⟨by rw [if_neg hz, if_neg hp]; rfl, take_app i3⟩
end Mine
end
section
open PySem PySem.W PyProof.Rows PySem.Calls
set_option linter.unusedVariables false
set_option linter.unusedSimpArgs false
set_option maxRecDepth 100000
namespace Mine
variable {r : Nat → Option (List Int)} {T : Tbl} {F : Funs} {L : Loc} {σ : Sto} {n : Nat}

theorem strip_ne {l : List Pt} (h : l ≠ []) : strip (dd l) ≠ [] := by
  have hd : dd l ≠ [] := by
    intro e
    have := dd_last (l := l)
    rw [e, last_some h] at this
    cases this
  have key : ∀ (m : Nat) (l : List Pt), l ≠ [] → stripF m l ≠ [] := by
    intro m
    induction m with
    | zero => intro l h; exact h
    | succ m ih =>
      intro l h
      unfold stripF
      split
      · rename_i hc
        apply ih
        intro e
        have := congrArg List.length e
        rw [List.length_dropLast] at this
        simp at this
        omega
      · exact h
  exact key _ _ hd
theorem sub_tup {l : List Pt} {j : Nat} (h : j < l.length) (hj : j < 1000000) : subC T σ (.tup (l.map vp)) (.int j) = some (vp (at0 l j)) := by
  rw [subC_tup]
  rw [if_pos (by simp [small]; omega)]
  unfold getAt place
  rw [if_pos (by omega), List.length_map, if_pos (by omega)]
  show (l.map vp)[((j : Int)).toNat]? = _
  rw [Int.toNat_natCast]; exact at0_get h

theorem sensed_c {l : List Pt} (hl : l.length ≤ 50) (hb : Box2 l) (hne : l ≠ []) : callD (lvl (tbl r) (n + 60)) d_l_sensed.1 [vps l] σ = some (snV (sns l), σ) := by
  refine callD_free rfl free_snV (Ret.args ?_)
  have hbm : Box2 (strip (dd l)) := fun p hp => hb p (strip_sub.1 p hp)
  have hlm : (strip (dd l)).length ≤ 50 := Nat.le_trans strip_sub.2 hl
  have hd50 : (dd l).length ≤ 50 := Nat.le_trans dd_len hl
  have hdd : ((List.range l.length).filter (newAt l)).map (fun i => vp (at0 l i)) = (dd l).map vp := by rw [dd_eq, List.map_map]; rfl
  have hll : biC (tbl r) .len [vps l] σ = some (.int l.length) := by
    show Option.map (fun l : List V => V.int l.length) (if decide ((l.map vp).length ≤ most) then some (l.map vp) else none) = _
    rw [List.length_map, if_pos (decide_eq_true (show l.length ≤ most by unfold most; omega))]
    show some (V.int ((l.map vp).length : Nat)) = _
    rw [List.length_map]
  refine Ret.next (L1 := (EX.up (argX d_l_sensed.1 [vps l]) (Str.ofString "found") (.obj σ.length)).loc) (σ1 := σ ++ [Ob.list (((List.range l.length).filter (newAt l)).map fun i => vp (at0 l i))]) (asg_comp (comp_rule (σ1 := σ) (C := List.range l.length) (e := fun k : Nat => V.int k) (w := .rng 0 l.length) (newAt l) (fun i => vp (at0 l i)) rfl ?_ (fun τ => items_rng0 (by omega) (by omega)) (fun i hi l' => ?_) (by rw [List.length_range]; unfold most; omega))) ?_
  · exact (sx_ev (E := argX d_l_sensed.val [vps l]) (fs_v hll <| fs_nil) (by kernel_rfl))
  · have hi' : i < l.length := List.mem_range.mp hi
    have s1 : subC (tbl r) (σ ++ [Ob.list l']) (vps l) (.int (i : Nat)) = some (vp (at0 l i)) := sub_tup hi' (by omega)
    by_cases h0 : i = 0
    · have h0' : (i : Int) = 0 := by omega
      refine ⟨_, rfl, tests_is (b := true) (by unfold newAt; rw [decide_eq_true h0]; rfl) ?_, fun _ => ?_⟩
      · exact (sx_tst (E := { l := [(Str.ofString "place_k", V.int (↑i : Int))], o := hide { kind := ScopeKind.function, names := [(Str.ofString ".0", NameKind.local), (Str.ofString "place_k", NameKind.local), (Str.ofString "spots", NameKind.free)], isGenerator := false, isCoroutine := false } (EX.loc (argX d_l_sensed.val [vps l])) }) (fs_c (@cmp_eqi (σ ++ [Ob.list l']) ((↑i : Int)) 0) <| fs_t (p := (↑i : Int) = 0) h0' <| fs_nil) (by kernel_rfl))
      · exact (sx_ev (E := { l := [(Str.ofString "place_k", V.int (↑i : Int))], o := hide { kind := ScopeKind.function, names := [(Str.ofString ".0", NameKind.local), (Str.ofString "place_k", NameKind.local), (Str.ofString "spots", NameKind.free)], isGenerator := false, isCoroutine := false } (EX.loc (argX d_l_sensed.val [vps l])) }) (fs_v (r := vps l) rfl <| fs_v s1 <| fs_nil) (by kernel_rfl))
    · have h0' : ¬ (i : Int) = 0 := by omega
      have s2 : subC (tbl r) (σ ++ [Ob.list l']) (vps l) (.int ((i : Int) - 1)) = some (vp (at0 l (i - 1))) := by
        rw [show (i : Int) - 1 = ((i - 1 : Nat) : Int) by omega]
        exact sub_tup (by omega) (by omega)
      by_cases he : at0 l i = at0 l (i - 1)
      · have he' : (!decide (at0 l i = at0 l (i - 1))) = false := by rw [decide_eq_true he]; rfl
        refine ⟨_, rfl, tests_is (b := false) (by unfold newAt; rw [decide_eq_false h0, he']; rfl) ?_, fun _ => ?_⟩
        · exact (sx_tst (E := { l := [(Str.ofString "place_k", V.int (↑i : Int))], o := hide { kind := ScopeKind.function, names := [(Str.ofString ".0", NameKind.local), (Str.ofString "place_k", NameKind.local), (Str.ofString "spots", NameKind.free)], isGenerator := false, isCoroutine := false } (EX.loc (argX d_l_sensed.val [vps l])) }) (fs_c (@cmp_eqi (σ ++ [Ob.list l']) ((↑i : Int)) 0) <| fs_f (p := (↑i : Int) = 0) h0' <| fs_v (r := vps l) rfl <| fs_v s1 <| fs_v (r := vps l) rfl <| fs_v s2 <| fs_c (@cmp_ptn (σ ++ [Ob.list l']) (at0 l i) (at0 l (i - 1))) <| fs_b he' <| fs_nil) (by kernel_rfl))
        · exact (sx_ev (E := { l := [(Str.ofString "place_k", V.int (↑i : Int))], o := hide { kind := ScopeKind.function, names := [(Str.ofString ".0", NameKind.local), (Str.ofString "place_k", NameKind.local), (Str.ofString "spots", NameKind.free)], isGenerator := false, isCoroutine := false } (EX.loc (argX d_l_sensed.val [vps l])) }) (fs_v (r := vps l) rfl <| fs_v s1 <| fs_nil) (by kernel_rfl))
      · have he' : (!decide (at0 l i = at0 l (i - 1))) = true := by rw [decide_eq_false he]; rfl
        refine ⟨_, rfl, tests_is (b := true) (by unfold newAt; rw [decide_eq_false h0, he']; rfl) ?_, fun _ => ?_⟩
        · exact (sx_tst (E := { l := [(Str.ofString "place_k", V.int (↑i : Int))], o := hide { kind := ScopeKind.function, names := [(Str.ofString ".0", NameKind.local), (Str.ofString "place_k", NameKind.local), (Str.ofString "spots", NameKind.free)], isGenerator := false, isCoroutine := false } (EX.loc (argX d_l_sensed.val [vps l])) }) (fs_c (@cmp_eqi (σ ++ [Ob.list l']) ((↑i : Int)) 0) <| fs_f (p := (↑i : Int) = 0) h0' <| fs_v (r := vps l) rfl <| fs_v s1 <| fs_v (r := vps l) rfl <| fs_v s2 <| fs_c (@cmp_ptn (σ ++ [Ob.list l']) (at0 l i) (at0 l (i - 1))) <| fs_b he' <| fs_nil) (by kernel_rfl))
        · exact (sx_ev (E := { l := [(Str.ofString "place_k", V.int (↑i : Int))], o := hide { kind := ScopeKind.function, names := [(Str.ofString ".0", NameKind.local), (Str.ofString "place_k", NameKind.local), (Str.ofString "spots", NameKind.free)], isGenerator := false, isCoroutine := false } (EX.loc (argX d_l_sensed.val [vps l])) }) (fs_v (r := vps l) rfl <| fs_v s1 <| fs_nil) (by kernel_rfl))
  refine Ret.while rfl (m0 := (dd l).length) (fun m L st => st.take σ.length = σ ∧ ∃ j, L "found" = some (.obj j) ∧ ∃ cur : List Pt, st[j]? = some (Ob.list (cur.map vp)) ∧ cur.length = m ∧ m ≤ 50 ∧ strip (dd l) = stripF m cur)
    (fun L st => st.take σ.length = σ ∧ ∃ j, L "found" = some (.obj j) ∧ st[j]? = some (Ob.list ((strip (dd l)).map vp))) (fun m L st hI => ?_) ⟨take_app tk0, σ.length, by kernel_rfl, dd l, by rw [gl_at, hdd], rfl, hd50, rfl⟩ (by omega) fun L3 σ3 h3 => ?_
  · obtain ⟨j3, j, j1, cur, j4, rfl, j5, j6⟩ := hI
    have hcl : cur.length ≤ 1000000 := by (first | assumption | (apply Nat.le_trans; assumption; exact Nat.le_of_ble_eq_true rfl))
    by_cases h1 : 1 < cur.length
    · have hne : cur ≠ [] := by intro e; rw [e] at h1; exact absurd h1 (by decide)
      have hq := last_some hne
      have hu := head_some hne
      have s1 : subC (tbl r) st (.obj j) (.int (-1)) = some (vp (at0 cur (cur.length - 1))) := sub_last j4 (by rw [last_map, hq]; rfl)
      have s2 : subC (tbl r) st (.obj j) (.int 0) = some (vp (at0 cur 0)) := sub_0 j4 (by rw [List.head?_map, hu]; rfl)
      obtain ⟨m', hm'⟩ : ∃ m', cur.length = m' + 1 := ⟨cur.length - 1, by omega⟩
      have h1' : (cur.length : Int) > 1 := by omega
      by_cases hqu : at0 cur (cur.length - 1) = at0 cur 0
      · refine .inr ⟨m', st, hm', (sx_tst (E := { l := [], o := L }) (fs_v j1 <| fs_v (@lenP (tbl r) st j cur j4 hcl) <| fs_t (p := (↑(List.length cur) : Int) > 1) h1' <| fs_v j1 <| fs_v s1 <| fs_v j1 <| fs_v s2 <| fs_c (@cmp_pt st (at0 cur (List.length cur - 1)) (at0 cur 0)) <| fs_t (p := at0 cur (List.length cur - 1) = at0 cur 0) hqu <| fs_nil) (by kernel_rfl)), ?_⟩
        have hsl : (decide ((none : Option Int) ≠ some 0) && decide ((cur.map vp).length ≤ most)) = true := by rw [List.length_map, decide_eq_true (show cur.length ≤ most from hcl)]; rfl
        refine Nx.fin (E := { l := [], o := L }) (E' := EX.up { l := [], o := L } (Str.ofString "found") (V.obj (List.length st))) (σ' := st ++ [Ob.list (sliceG (List.map vp cur) none (some (-1)) none)]) (fs_v j1 <| fs_o j4 <| fs_b hsl <| fs_nil) (by kernel_rfl) ?_
        exact ⟨take_app j3, st.length, by kernel_rfl, cur.dropLast, by rw [gl_at, slice_init, List.map_dropLast], by rw [List.length_dropLast]; omega, by omega, by rw [j6, hm', stripF, if_pos ⟨h1, by rw [hq, hu, hqu]⟩]⟩
      · exact .inl ⟨st, (sx_tst (E := { l := [], o := L }) (fs_v j1 <| fs_v (@lenP (tbl r) st j cur j4 hcl) <| fs_t (p := (↑(List.length cur) : Int) > 1) h1' <| fs_v j1 <| fs_v s1 <| fs_v j1 <| fs_v s2 <| fs_c (@cmp_pt st (at0 cur (List.length cur - 1)) (at0 cur 0)) <| fs_f (p := at0 cur (List.length cur - 1) = at0 cur 0) hqu <| fs_nil) (by kernel_rfl)), j3, j, j1, by rw [j6, hm', stripF, if_neg (by rw [hq, hu]; simp [hqu])]; exact j4⟩
    · have hst : stripF cur.length cur = cur := by
        cases hc : cur.length with
        | zero => rfl
        | succ m' => rw [stripF, if_neg (fun h => h1 h.1)]
      have h1n : ¬ (cur.length : Int) > 1 := by omega
      exact .inl ⟨st, (sx_tst (E := { l := [], o := L }) (fs_v j1 <| fs_v (@lenP (tbl r) st j cur j4 hcl) <| fs_f (p := (↑(List.length cur) : Int) > 1) h1n <| fs_nil) (by kernel_rfl)), j3, j, j1, by rw [j6, hst]; exact j4⟩
  have hne' := strip_ne hne
  unfold sns
  generalize strip (dd l) = m at *
  obtain ⟨i3, j, i1, i4⟩ := h3
  have hm0 : 0 < m.length := List.length_pos_iff.mpr hne'
  have hm' : m.length ≤ 1000000 := by (first | assumption | (apply Nat.le_trans; assumption; exact Nat.le_of_ble_eq_true rfl))
  have e0 : subC (tbl r) σ3 (.obj j) (.int 0) = some (vp (at0 m 0)) := sub_0 i4 (by rw [List.head?_map, head_some hne']; rfl)
  refine Ret.run_to (E := { l := [], o := L3 }) (k := 1) (E1 := EX.ups { l := [], o := L3 } [Str.ofString "area", Str.ofString "x", Str.ofString "y"] [V.int 0, V.int (at0 m 0).fst, V.int (at0 m 0).snd]) (σ1 := σ3) (fs_v i1 <| fs_v e0 <| fs_v i1 <| fs_v e0 <| fs_nil) (by kernel_rfl) ?_
  have nm : ∀ {l : List (Str × V)} {L : Loc} {x : Str} {w : V}, l.lookup x = none → L x = some w → (EX.mk l L).loc x = some w := fun h1 h2 => (loc_o h1).trans h2
  have hv : ∀ τ, items τ (.rng 1 ((m.length : Int) - 1)) = some ((List.range (m.length - 2)).map fun i : Nat => V.int (1 + i)) := fun τ => by
    rw [items_rng (by decide) (by decide) (by omega) (by omega) (by omega), show ((m.length : Int) - 1 - 1).toNat = m.length - 2 by omega]
  refine Ret.for rfl (w := .rng 1 ((m.length : Int) - 1)) (vs := (List.range (m.length - 2)).map fun i : Nat => V.int (1 + i)) (σ1 := σ3) (sx_ev (E := EX.ups { l := [], o := L3 } [Str.ofString "area", Str.ofString "x", Str.ofString "y"] [V.int 0, V.int (at0 m 0).fst, V.int (at0 m 0).snd]) (fs_v i1 <| fs_v (@lenP (tbl r) σ3 j m i4 hm') <| fs_nil) (by kernel_rfl)) (hv _) (fun done L st => L "found" = some (.obj j) ∧ L "area" = some (.int (sumR (fanT m) done.length)) ∧ L "x" = some (.int (at0 m 0).1) ∧ L "y" = some (.int (at0 m 0).2) ∧ st = σ3) (fun done L st hI => hv _) (fun done v rest L st hall hI => ?_) ⟨nm (by kernel_rfl) i1, by kernel_rfl, by kernel_rfl, by kernel_rfl, rfl⟩ fun L5 σ5 h5 => ?_
  · clear i1 hv
    obtain ⟨i1, i2, i5, i6, rfl⟩ := hI
    obtain ⟨rfl, hlt⟩ := range_split hall
    rw [List.length_append, List.length_singleton]
    generalize done.length = i at *
    have e1 : subC (tbl r) st (.obj j) (.int (1 + (i : Int))) = some (vp (at0 m (i + 1))) := by
      rw [show 1 + (i : Int) = ((i + 1 : Nat) : Int) by omega]
      exact sub_at i4 (at0_get (by omega)) (by omega)
    have e2 : subC (tbl r) st (.obj j) (.int (1 + (i : Int) + 1)) = some (vp (at0 m (i + 2))) := by
      rw [show 1 + (i : Int) + 1 = ((i + 2 : Nat) : Int) by omega]
      exact sub_at i4 (at0_get (by omega)) (by omega)
    obtain ⟨⟨p1, p2⟩, p3, p4⟩ := hbm _ (at0_mem hm0)
    obtain ⟨⟨q1, q2⟩, q3, q4⟩ := hbm _ (at0_mem (l := m) (i := i + 1) (by omega))
    have es : sumR (fanT m) (i + 1) = sumR (fanT m) i + ((at0 m (i + 1)).1 - (at0 m 0).1) * ((at0 m (i + 2)).2 - (at0 m 0).2) - ((at0 m (i + 1)).2 - (at0 m 0).2) * ((at0 m (i + 2)).1 - (at0 m 0).1) := (Int.add_sub_assoc _ _ _).symm
    rw [es]
    clear hall
    generalize at0 m 0 = p at *
    generalize at0 m (i + 1) = q at *
    generalize at0 m (i + 2) = u at *
    have c1 : -1152921504606846976 < q.1 - p.1 := by omega
    have c2 : q.1 - p.1 < 1152921504606846976 := by omega
    have c3 : -1152921504606846976 < q.2 - p.2 := by omega
    have c4 : q.2 - p.2 < 1152921504606846976 := by omega
    refine ⟨_, rfl, ?_⟩
    refine Nx.fin (E := { l := [(Str.ofString "place_k", V.int (1 + (↑i : Int)))], o := L }) (E' := EX.up (EX.ups { l := [(Str.ofString "place_k", V.int (1 + (↑i : Int)))], o := L } [Str.ofString "one", Str.ofString "other"] [vp q, vp u]) (Str.ofString "area") (V.int (sumR (fanT m) i + (q.fst - p.fst) * (u.snd - p.snd) - (q.snd - p.snd) * (u.fst - p.fst)))) (σ' := st) (fs_v i1 <| fs_v e1 <| fs_v i1 <| fs_v e2 <| fs_v i2 <| fs_v i5 <| fs_v i6 <| fs_s (@mulL st (q.fst - p.fst) (u.snd - p.snd) c1 c2) <| fs_v i6 <| fs_v i5 <| fs_s (@mulL st (q.snd - p.snd) (u.fst - p.fst) c3 c4) <| fs_nil) (by kernel_rfl) ?_
    exact ⟨nm (by kernel_rfl) i1, by kernel_rfl, nm (by kernel_rfl) i5, nm (by kernel_rfl) i6, rfl⟩
  clear i1
  obtain ⟨h1, h2, _, _, rfl⟩ := h5
  rw [List.length_map, List.length_range] at h2
  replace h2 : L5 "area" = some (.int (sho m)) := by rw [h2, sho_fan]; rfl
  by_cases hz : sho m = 0
  · refine Ret.fin (E := { l := [], o := L5 }) (v := V.none) (σ' := σ5) (fs_v h2 <| fs_c (@cmp_eqi σ5 (sho m) 0) <| fs_t (p := sho m = 0) hz <| fs_nil) (by kernel_rfl) ?_
    exact ⟨by rw [if_pos hz]; rfl, i3⟩
  · by_cases hp : sho m > 0
    · skip
      refine Ret.fin (E := { l := [], o := L5 }) (v := vps m) (σ' := σ5) (fs_v h2 <| fs_c (@cmp_eqi σ5 (sho m) 0) <| fs_f (p := sho m = 0) hz <| fs_v h2 <| fs_t (p := sho m > 0) hp <| fs_v h1 <| fs_v (@tupP (tbl r) σ5 j m i4 hm') <| fs_nil) (by kernel_rfl) ?_
      exact ⟨by rw [if_neg hz, if_pos hp]; rfl, i3⟩
    · have hsl : (decide ((some (-1) : Option Int) ≠ some 0) && decide ((m.map vp).length ≤ most)) = true := by rw [List.length_map, decide_eq_true (show m.length ≤ most from hm')]; rfl
      have hrev : ∀ τ i, τ[i]? = some (Ob.list (sliceG (m.map vp) none none (some (-1)))) → biC (tbl r) .tuple [.obj i] τ = some (vps m.reverse) := fun τ i h => tupP (by rw [h, slice_rev, List.map_reverse]) (by rw [List.length_reverse]; exact hm')
      refine Ret.fin (E := { l := [], o := L5 }) (v := vps (List.reverse m)) (σ' := σ5 ++ [Ob.list (sliceG (List.map vp m) none none (some (-1)))]) (fs_v h2 <| fs_c (@cmp_eqi σ5 (sho m) 0) <| fs_f (p := sho m = 0) hz <| fs_v h2 <| fs_f (p := sho m > 0) hp <| fs_v h1 <| fs_o i4 <| fs_b hsl <| fs_v (@hrev (σ5 ++ [Ob.list (sliceG (List.map vp m) none none (some (-1)))]) (List.length σ5) (gl_at)) <| fs_nil) (by kernel_rfl) ?_
      exact ⟨by rw [if_neg hz, if_neg hp]; rfl, take_app i3⟩
end Mine
end
section
open PySem PySem.W PyProof.Rows PySem.Calls
set_option linter.unusedVariables false
set_option linter.unusedSimpArgs false
set_option maxRecDepth 100000
namespace Mine
variable {r : Nat → Option (List Int)} {T : Tbl} {F : Funs} {L : Loc} {σ : Sto} {n : Nat}

/-- a piece is small -/
noncomputable def Sm (P : List Pt) : Prop := P.length ≤ 4 ∧ Box2 P
theorem nrm_small {p q : Pt} {h : Int} (s : Sd p q) (hh : Hf h) : (-1000 ≤ (nrm p q h).1 ∧ (nrm p q h).1 ≤ 1000) ∧ (-1000 ≤ (nrm p q h).2 ∧ (nrm p q h).2 ≤ 1000) := ⟨nrs_small (s.sh hh).1, nrs_small (s.sh hh).2⟩
noncomputable def In1 (p : Pt) : Prop := (-100 ≤ p.1 ∧ p.1 ≤ 100) ∧ (-100 ≤ p.2 ∧ p.2 ≤ 100)
theorem sm_quad {p q : Pt} {h : Int} (s : Sd p q) (hh : Hf h) (hp : In1 p) (hq : In1 q) : Sm (quad p q h) := by
  obtain ⟨⟨a, b⟩, c, d⟩ := nrm_small s hh
  obtain ⟨⟨e, f⟩, g, i⟩ := hp
  obtain ⟨⟨e', f'⟩, g', i'⟩ := hq
  refine ⟨by simp [quad], ?_⟩
  intro u hu
  simp only [quad, List.mem_cons, List.not_mem_nil, or_false] at hu
  rcases hu with rfl | rfl | rfl | rfl <;> dsimp only <;> omega
theorem sm_nil : Sm [] := ⟨by simp, fun u hu => by cases hu⟩
theorem sm_crn {a p b : Pt} {h : Int} (s1 : Sd a p) (s2 : Sd p b) (hh : Hf h) (hp : In1 p) : Sm (crn a p b h) := by
  obtain ⟨⟨x1, x2⟩, x3, x4⟩ := nrm_small s1 hh
  obtain ⟨⟨y1, y2⟩, y3, y4⟩ := nrm_small s2 hh
  obtain ⟨⟨e, f⟩, g, i⟩ := hp
  unfold crn
  split
  · exact sm_nil
  · refine ⟨by simp, ?_⟩
    intro u hu
    simp only [List.mem_cons, List.not_mem_nil, or_false] at hu
    by_cases ht : turn3 a p b > 0
    · simp only [if_pos ht] at hu
      rcases hu with rfl | rfl | rfl <;> (try dsimp only) <;> omega
    · simp only [if_neg ht] at hu
      rcases hu with rfl | rfl | rfl <;> (try dsimp only) <;> omega
theorem sm_cap {kd : Bool} {p q : Pt} {h : Int} (s : Sd q p) (hh : Hf h) (hp : In1 p) : Sm (capOf kd q p h) := by
  obtain ⟨⟨a, b⟩, c, d⟩ := nrm_small s hh
  obtain ⟨⟨e, f⟩, g, i⟩ := hp
  cases kd with
  | false => exact sm_nil
  | true =>
    refine ⟨by simp [capOf, capP], ?_⟩
    intro u hu
    simp only [capOf, capP, if_true, List.mem_cons, List.not_mem_nil, or_false] at hu
    rcases hu with rfl | rfl | rfl | rfl <;> dsimp only <;> omega
theorem sm_dot {kd : Bool} {p : Pt} {h : Int} (hh : Hf h) (hp : In1 p) : Sm (dotOf kd p h) := by
  obtain ⟨⟨e, f⟩, g, i⟩ := hp
  obtain ⟨h1, h2⟩ := hh
  cases kd with
  | false => exact sm_nil
  | true =>
    refine ⟨by simp [dotOf, sqr], ?_⟩
    intro u hu
    simp only [dotOf, sqr, if_true, List.mem_cons, List.not_mem_nil, or_false] at hu
    rcases hu with rfl | rfl | rfl | rfl <;> dsimp only <;> omega
theorem around_box {c : Bool} {m : List Pt} (h : Box m) : Box (if c then m ++ m.take 1 else m) := by
  cases c with
  | false => exact h
  | true =>
    intro p hp
    rw [if_pos rfl] at hp
    rcases List.mem_append.mp hp with hp | hp
    · exact h p hp
    · exact h p (List.mem_of_mem_take hp)
theorem pieces_sm {c kd : Bool} {l : List Pt} {h : Int} (hb : Box l) (hh : Hf h) : (∀ P ∈ pieces c kd l h, Sm P) ∧ (pieces c kd l h).length ≤ 2 * l.length + 3 := by
  obtain ⟨hf, hlen⟩ := pln_fine (c := c) hb
  unfold pieces
  generalize pln c l = m at *
  have ix : ∀ {m : List Pt}, Box m → ∀ {i}, i < m.length → In1 (at0 m i) := fun h i hi => h _ (at0_mem hi)
  split
  · exact ⟨fun P hP => (nomatch hP), by simp⟩
  · rename_i h0
    have hpos : 0 < m.length := List.length_pos_iff.mpr h0
    split
    · refine ⟨fun P hP => ?_, by simp⟩
      rw [List.mem_singleton] at hP
      subst hP
      exact sm_dot hh (ix hf.bx hpos)
    · rename_i h1
      have h2 : 2 ≤ m.length := by omega
      unfold pcs
      constructor
      · intro P hP
        rw [List.mem_append, List.mem_append] at hP
        rcases hP with (hP | hP) | hP
        · have ha : Apart (if c then m ++ m.take 1 else m) := by
            cases c with
            | false => exact hf.apart
            | true => exact hf.around h2
          have hb2 := around_box (c := c) hf.bx
          obtain ⟨i, hi, rfl⟩ := List.mem_map.mp hP
          have := List.mem_range.mp hi
          exact sm_quad (ha i (by omega)) hh (ix hb2 (by omega)) (ix hb2 (by omega))
        · obtain ⟨t, ht, rfl⟩ := List.mem_map.mp hP
          obtain ⟨s1, s2⟩ := hf.cors h2 t ht
          refine sm_crn s1 s2 hh ?_
          rw [cors_eq] at ht
          obtain ⟨k, hk, rfl⟩ := List.mem_map.mp ht
          refine ix hf.bx ?_
          unfold plc at hk
          cases c with
          | true => simpa using hk
          | false => 
            obtain ⟨i, hi, rfl⟩ := List.mem_map.mp hk
            have := List.mem_range.mp hi
            omega
        · cases c with
          | true => cases hP
          | false =>
            simp only [Bool.false_eq_true, if_false, List.mem_cons, List.not_mem_nil, or_false] at hP
            rcases hP with rfl | rfl
            · exact sm_cap (hf.c1 h2) hh (ix hf.bx (by omega))
            · exact sm_cap (hf.c2 h2) hh (ix hf.bx (by omega))
      · rw [List.length_append, List.length_append, List.length_map]
        have e1 : (cors c m).length ≤ m.length := by unfold cors; cases c <;> simp
        have e2 : (sides (if c then m ++ m.take 1 else m) h).length ≤ m.length := by
          unfold sides
          cases c <;> simp <;> omega
        have e3 : (if c then ([] : List (List Pt)) else [capOf kd (at0 m 1) (at0 m 0) h, capOf kd (at0 m (m.length - 2)) (at0 m (m.length - 1)) h]).length ≤ 2 := by cases c <;> simp
        omega

theorem mi_ptn : (tbl r).meth "Pattern" "__init__" = some m_pattern_init.1 := by kernel_rfl
noncomputable def ptn : List (Str × V) := [("lengths", .tup []), ("place", .int 0), ("left", .int 0)]
theorem cmp_nil {j k : Nat} (h : σ[k]? = some (.list [])) (h' : σ[j]? = some (.list [])) : cmpS .NotEq σ (.obj k) (.obj j) = some false := by
  rw [(cmp_pcs (P := []) (Q := []) h h').1]; rfl
theorem pattern_c : mkC (tbl r) (lvl (tbl r) (n + 30)) "Pattern" [.tup [], .int 0] σ = some (.obj σ.length, σ ++ [.inst "Pattern" ptn]) := by
  have key : ∃ σ', (∃ L', exs (lvl (tbl r) (n + 30)).ex (bindP (m_pattern_init.1.params.args.map (·.arg)) [.obj σ.length, .tup [], .int 0]) (σ ++ [Ob.inst "Pattern" []]) m_pattern_init.1.body = some (.next, L', σ')) ∧ σ'.take σ.length = σ ∧ σ'[σ.length]? = some (.inst "Pattern" ptn) := by
    have le := Nat.le_refl σ.length
    have h0 : σ.length < (σ ++ [Ob.inst "Pattern" []]).length := lt_new
    refine ⟨_, (sx_run (fl := Fl.next) (σ' := List.set (List.set (List.set (σ ++ [Ob.inst (Str.ofString "Pattern") []] ++ [Ob.list []] ++ [Ob.list []]) (List.length σ) (Ob.inst (Str.ofString "Pattern") (putF (Str.ofString "lengths") (V.tup []) []))) (List.length σ) (Ob.inst (Str.ofString "Pattern") (putF (Str.ofString "place") (V.int 0) (putF (Str.ofString "lengths") (V.tup []) [])))) (List.length σ) (Ob.inst (Str.ofString "Pattern") (putF (Str.ofString "left") (V.int 0) (putF (Str.ofString "place") (V.int 0) (putF (Str.ofString "lengths") (V.tup []) []))))) (fs_s (by kernel_rfl : evS (tbl r) (lvl (tbl r) (n + 27)) (EX.loc { l := List.zip (List.map (fun (x : Arg) ↦ x.arg) m_pattern_init.val.params.args) [V.obj (List.length σ), V.tup [], V.int 0], o := fun (y : Str) ↦ none }) (σ ++ [Ob.inst (Str.ofString "Pattern") []]) (Expr.ListComp (Expr.Name (Str.ofString "length") { line := 177, col := 12, endLine := 177, endCol := 18 }) [{ target := Expr.Name (Str.ofString "length") { line := 177, col := 23, endLine := 177, endCol := 29 }, iter := Expr.Name (Str.ofString "lengths") { line := 177, col := 33, endLine := 177, endCol := 40 }, ifs := [Expr.Compare (Expr.Name (Str.ofString "length") { line := 177, col := 44, endLine := 177, endCol := 50 }) [CmpOp.Lt] [Expr.Constant (Const.int 0) 0 { line := 177, col := 53, endLine := 177, endCol := 54 }] { line := 177, col := 44, endLine := 177, endCol := 54 }], is_async := 0 }] { kind := ScopeKind.function, names := [(Str.ofString ".0", NameKind.local), (Str.ofString "length", NameKind.local)], isGenerator := false, isCoroutine := false } { line := 177, col := 11, endLine := 177, endCol := 55 }) = some ((V.obj (List.length (σ ++ [Ob.inst (Str.ofString "Pattern") []])), σ ++ [Ob.inst (Str.ofString "Pattern") []] ++ [Ob.list []]))) <| fs_c (@cmp_nil (σ ++ [Ob.inst (Str.ofString "Pattern") []] ++ [Ob.list []] ++ [Ob.list []]) (List.length (σ ++ [Ob.inst (Str.ofString "Pattern") []] ++ [Ob.list []])) (List.length (σ ++ [Ob.inst (Str.ofString "Pattern") []])) (app_l gl_at) (gl_at)) <| fs_b (r := false) rfl <| fs_v (by kernel_rfl : biC (tbl r) Bi.len [V.tup []] (σ ++ [Ob.inst (Str.ofString "Pattern") []] ++ [Ob.list []] ++ [Ob.list []]) = some (V.int (↑(List.length ([] : List V)) : Int))) <| fs_s (@mdC (σ ++ [Ob.inst (Str.ofString "Pattern") []] ++ [Ob.list []] ++ [Ob.list []]) ((↑(List.length ([] : List V)) : Int)) 2 (by omega)) <| fs_c (by kernel_rfl : cmpS CmpOp.Eq (σ ++ [Ob.inst (Str.ofString "Pattern") []] ++ [Ob.list []] ++ [Ob.list []]) (V.int (Int.fmod (↑(List.length ([] : List V)) : Int) 2)) (V.int 0) = some true) <| fs_b (r := true) rfl <| fs_v (by kernel_rfl : biC (tbl r) Bi.tuple [V.tup []] (σ ++ [Ob.inst (Str.ofString "Pattern") []] ++ [Ob.list []] ++ [Ob.list []]) = some (V.tup [])) <| fs_o (@app_l (σ ++ [Ob.inst (Str.ofString "Pattern") []] ++ [Ob.list []]) (List.length σ) (Ob.inst (Str.ofString "Pattern") []) ([Ob.list []]) (app_l gl_at)) <| fs_o (@set_at (σ ++ [Ob.inst (Str.ofString "Pattern") []] ++ [Ob.list []] ++ [Ob.list []]) (List.length σ) (Ob.inst (Str.ofString "Pattern") (putF (Str.ofString "lengths") (V.tup []) [])) (by repeat' first | exact lt_new | refine' lt_set ?_ | refine' lt_app ?_ | assumption)) <| fs_o (@set_at (List.set (σ ++ [Ob.inst (Str.ofString "Pattern") []] ++ [Ob.list []] ++ [Ob.list []]) (List.length σ) (Ob.inst (Str.ofString "Pattern") (putF (Str.ofString "lengths") (V.tup []) []))) (List.length σ) (Ob.inst (Str.ofString "Pattern") (putF (Str.ofString "place") (V.int 0) (putF (Str.ofString "lengths") (V.tup []) []))) (by repeat' first | exact lt_new | refine' lt_set ?_ | refine' lt_app ?_ | assumption)) <| fs_o (@set_at (List.set (List.set (σ ++ [Ob.inst (Str.ofString "Pattern") []] ++ [Ob.list []] ++ [Ob.list []]) (List.length σ) (Ob.inst (Str.ofString "Pattern") (putF (Str.ofString "lengths") (V.tup []) []))) (List.length σ) (Ob.inst (Str.ofString "Pattern") (putF (Str.ofString "place") (V.int 0) (putF (Str.ofString "lengths") (V.tup []) [])))) (List.length σ) (Ob.inst (Str.ofString "Pattern") (putF (Str.ofString "left") (V.int 0) (putF (Str.ofString "place") (V.int 0) (putF (Str.ofString "lengths") (V.tup []) [])))) (by repeat' first | exact lt_new | refine' lt_set ?_ | refine' lt_app ?_ | assumption)) <| fs_v (by kernel_rfl : biC (tbl r) Bi.sum [V.tup []] (List.set (List.set (List.set (σ ++ [Ob.inst (Str.ofString "Pattern") []] ++ [Ob.list []] ++ [Ob.list []]) (List.length σ) (Ob.inst (Str.ofString "Pattern") (putF (Str.ofString "lengths") (V.tup []) []))) (List.length σ) (Ob.inst (Str.ofString "Pattern") (putF (Str.ofString "place") (V.int 0) (putF (Str.ofString "lengths") (V.tup []) [])))) (List.length σ) (Ob.inst (Str.ofString "Pattern") (putF (Str.ofString "left") (V.int 0) (putF (Str.ofString "place") (V.int 0) (putF (Str.ofString "lengths") (V.tup []) []))))) = some (V.int 0)) <| fs_b (r := false) rfl <| fs_nil) (by kernel_rfl)), take_set (take_set (take_set (take_app (take_app (take_app tk0))) le) le) le, ?_⟩
    rw [set_at (lt_set (lt_set (lt_app (lt_app h0))))]
    kernel_rfl
  obtain ⟨σ', h1, h2, h3⟩ := key
  exact mkC_of mi_ptn rfl rfl h1 h2 h3 rfl
theorem is_plain_c {k : Nat} (hk : σ[k]? = some (.inst "Pattern" ptn)) : callD (lvl (tbl r) (n + 20)) m_pattern_is_plain.1 [.obj k] σ = some (.bool true, σ) := by
  refine callD_pure0 rfl rfl ?_
  exact run_sx (fs_o hk <| fs_v (by kernel_rfl : biC (tbl r) Bi.sum [V.tup []] σ = some (V.int 0)) <| fs_c (@cmp_eqi σ 0 0) <| fs_nil) (by kernel_rfl)
noncomputable def con (l : List Pt) (c : Bool) : V := .tup [vps l, .bool c]
theorem dashed_c {l : List Pt} {c : Bool} : callD (lvl (tbl r) (n + 60)) d_dashed.1 [con l c, .tup [], .int 0] σ = some (.obj σ.length, σ ++ [.list [con l c]]) := by
  have hf : freeL [con l c] = true := by simp [con, freeL, free, free_vps]
  refine callD_list'' rfl hf (Ret.args ?_)
  have hp : ∀ n τ k, τ[k]? = some (Ob.inst "Pattern" ptn) → callD (lvl (tbl r) (n + 20)) m_pattern_is_plain.1 [.obj k] τ = some (.bool true, τ) := fun n τ k h => is_plain_c h
  refine Ret.fin (v := V.obj (List.length (σ ++ [Ob.inst (Str.ofString "Pattern") ptn]))) (σ' := σ ++ [Ob.inst (Str.ofString "Pattern") ptn] ++ [Ob.list [con l c]]) (fs_s (@pattern_c r σ (n + 28)) <| fs_o (@gl_at σ (Ob.inst (Str.ofString "Pattern") ptn) []) <| fs_s (@hp (n + 36) (σ ++ [Ob.inst (Str.ofString "Pattern") ptn]) (List.length σ) (gl_at)) <| fs_b (r := true) rfl <| fs_b (r := true) rfl <| fs_nil) (by kernel_rfl) ?_
  exact ⟨_, rfl, take_app (take_app tk0), ext_le (take_app tk0), gl_at⟩
theorem steps_c {w : Int} {jn kd : Bool} {k : Nat} (hk : σ[k]? = some (.inst "Style" (stl w jn kd))) : ∃ st, callD (lvl (tbl r) (n + 60)) m_style_steps.1 [.obj k, .int 4] σ = some (.int st, σ) := by
  refine ⟨if 2 + (w.fdiv 2).fdiv 4 < 16 then 2 + (w.fdiv 2).fdiv 4 else 16, callD_pure0 rfl rfl ?_⟩
  exact run_sx (fs_o hk <| fs_s (@half_c r σ (n + 35) w jn kd k hk) <| fs_s (@fdC σ (Int.fdiv w 2) 4 (by omega) (by omega)) <| fs_nil) (by kernel_rfl)
end Mine
end
section
open PySem PySem.W PyProof.Rows PySem.Calls
set_option linter.unusedVariables false
set_option linter.unusedSimpArgs false
set_option maxRecDepth 100000
namespace Mine
variable {r : Nat → Option (List Int)} {T : Tbl} {F : Funs} {L : Loc} {σ : Sto} {n : Nat}

/-- what is drawn -/
noncomputable def drawn (C : List (List Pt × Bool)) (kd : Bool) (h : Int) : List (List Pt) := (C.flatMap fun p => pieces p.2 kd p.1 h).filterMap sns
noncomputable def conP (p : List Pt × Bool) : V := con p.1 p.2
structure SI (σ : Sto) (s : Nat) (sp : Int) (acc : List (List Pt)) (L : Loc) (st : Sto) : Prop where
  fo : L "found" = some (.obj σ.length)
  sy : L "style" = some (.obj s)
  sp : L "steps" = some (.int sp)
  tk : st.take σ.length = σ
  ac : st[σ.length]? = some (.list (acc.map vdr))
theorem isn_some {l : List Pt} : cmpS .IsNot σ (vps l) .none = some true := rfl
theorem isn_none : cmpS .IsNot σ .none .none = some false := rfl

theorem stroked_low {a s : Nat} {w : Int} {jn kd : Bool} (hs : σ[s]? = some (.inst "Style" (stl w jn kd))) (hw : w.fdiv 2 < 1) : callD (lvl (tbl r) (n + 200)) d_stroked.1 [.obj a, .obj s, .int 4] σ = some (.obj σ.length, σ ++ [.list []]) := by
  refine callD_list'' rfl rfl (Ret.args ?_)
  refine Ret.fin (v := V.obj (List.length σ)) (σ' := σ ++ [Ob.list []]) (fs_o (@app_l σ s (Ob.inst (Str.ofString "Style") (stl w jn kd)) ([Ob.list []]) hs) <| fs_s (@half_c r (σ ++ [Ob.list []]) (n + 177) w jn kd s (app_l (by with_reducible assumption))) <| fs_t (p := Int.fdiv w 2 < 1) hw <| fs_nil) (by kernel_rfl) ?_
  exact ⟨_, rfl, take_app tk0, Nat.le_refl _, gl_at⟩

theorem stroked_c {a s : Nat} {C : List (List Pt × Bool)} {w : Int} {jn kd : Bool} (ha : σ[a]? = some (.list (C.map conP))) (hs : σ[s]? = some (.inst "Style" (stl w jn kd))) (hC : ∀ p ∈ C, Box p.1 ∧ p.1.length ≤ 100) (hl : C.length ≤ 100) (hh : Hf (w.fdiv 2)) : callD (lvl (tbl r) (n + 200)) d_stroked.1 [.obj a, .obj s, .int 4] σ = some (.obj σ.length, σ ++ [.list ((drawn C kd (w.fdiv 2)).map vdr)]) := by
  refine callD_list'' rfl freeL_drs (Ret.args ?_)
  have hnl : ¬ w.fdiv 2 < 1 := by have := hh.lo; omega
  obtain ⟨sp, hsp⟩ := steps_c (r := r) (n := n + 138) (app_l (l := [Ob.list []]) hs)
  rw [show n + 138 + 60 = n + 198 from rfl] at hsp
  refine Ret.run_to (k := 3) (E1 := EX.up (EX.up (argX d_stroked.val [V.obj a, V.obj s, V.int 4]) (Str.ofString "found") (V.obj (List.length σ))) (Str.ofString "steps") (V.int sp)) (σ1 := σ ++ [Ob.list []]) (fs_o (@app_l σ s (Ob.inst (Str.ofString "Style") (stl w jn kd)) ([Ob.list []]) hs) <| fs_s (@half_c r (σ ++ [Ob.list []]) (n + 177) w jn kd s (app_l (by with_reducible assumption))) <| fs_f (p := Int.fdiv w 2 < 1) hnl <| fs_o (@app_l σ s (Ob.inst (Str.ofString "Style") (stl w jn kd)) ([Ob.list []]) hs) <| fs_s hsp <| fs_nil) (by kernel_rfl) ?_
  have ha1 : ∀ {st : Sto}, st.take σ.length = σ → items st (.obj a) = some (C.map conP) := fun h => items_obj (get_take h ha) (by rw [List.length_map]; omega)
  refine Ret.step (fun L st => SI σ s sp (drawn C kd (w.fdiv 2)) L st ∧ (drawn C kd (w.fdiv 2)).length ≤ 300 * C.length) (ex_for (w := .obj a) (g := conP) (C := C) (σ1 := σ ++ [Ob.list []]) (sx_ev (E := EX.up (EX.up (argX d_stroked.val [V.obj a, V.obj s, V.int 4]) (Str.ofString "found") (V.obj (List.length σ))) (Str.ofString "steps") (V.int sp)) (fs_nil) (by kernel_rfl)) (ha1 (take_app tk0)) (fun dn L st => SI σ s sp (drawn dn kd (w.fdiv 2)) L st ∧ (drawn dn kd (w.fdiv 2)).length ≤ 300 * dn.length) (fun dn L st hI => ha1 hI.1.tk) (fun dn p rs L st hC' hI => ?_) ⟨⟨by kernel_rfl, by kernel_rfl, by kernel_rfl, take_app tk0, gl_at⟩, Nat.le_refl _⟩) fun L1 σ1 h1 => ?_
  · obtain ⟨⟨i1, i2, i3, i4, i5⟩, i6⟩ := hI
    obtain ⟨l, c⟩ := p
    obtain ⟨hb, hll⟩ : Box l ∧ l.length ≤ 100 := hC (l, c) (by rw [hC']; simp)
    have hs1 := get_take i4 hs
    have hdn : dn.length < 100 := by
      have := congrArg List.length hC'
      rw [List.length_append, List.length_cons] at this; omega
    have hgr : (drawn (dn ++ [(l, c)]) kd (w.fdiv 2)) = drawn dn kd (w.fdiv 2) ++ (pieces c kd l (w.fdiv 2)).filterMap sns := by
      unfold drawn; rw [List.flatMap_append, List.filterMap_append, List.flatMap_singleton]
    have hgo : st.length ≠ σ.length := Nat.ne_of_gt (lt_of i5)
    have hne : (st ++ [Ob.list [con l c]]).length ≠ σ.length := Nat.ne_of_gt (lt_app (lt_of i5))
    obtain ⟨hps, hpl⟩ := pieces_sm (c := c) (kd := kd) hb hh
    have hfl : ((pieces c kd l (w.fdiv 2)).filterMap sns).length ≤ (pieces c kd l (w.fdiv 2)).length := List.length_filterMap_le _ _
    rw [hgr]
    generalize drawn dn kd (w.fdiv 2) = acc at *
    have hpl2 : ((pieces c kd l (w.fdiv 2)).map vps).length ≤ 1000000 := by rw [List.length_map]; omega
    have nm : ∀ {l : List (Str × V)} {L : Loc} {x : Str} {w : V}, l.lookup x = none → L x = some w → (EX.mk l L).loc x = some w := fun h1 h2 => (loc_o h1).trans h2
    refine ⟨upd L "contour" (con l c), rfl, Nx.one (ex_for1 (v := con l c) (w := .obj st.length) (σ1 := st ++ [Ob.list [con l c]]) (sx_ev (E := { l := [(Str.ofString "contour", con l c)], o := L }) (fs_v i2 <| fs_o hs1 <| fs_v i2 <| fs_o hs1 <| fs_s (@dashed_c r st (n + 137) l c) <| fs_nil) (by kernel_rfl)) (items_obj gl_at (Nat.le_of_ble_eq_true rfl)) rfl ?_)⟩
    have hk : ∀ n, callD (lvl (tbl r) (n + 160)) d_stroked_line.1 [con l c, .obj s, .int sp] (st ++ [Ob.list [con l c]]) = some (.obj (st ++ [Ob.list [con l c]]).length, st ++ [Ob.list [con l c]] ++ [Ob.list ((pieces c kd l (w.fdiv 2)).map vps)]) := fun n => stroked_line_c (app_l hs1) hb hll hh
    have nm2 : ∀ {x : Str} {w : V}, ([(Str.ofString "line", con l c), (Str.ofString "contour", con l c)] : List (Str × V)).lookup x = none → L x = some w → upd (upd L "contour" (con l c)) "line" (con l c) x = some w := fun h1 h2 => (loc_o (E := EX.mk [(Str.ofString "line", con l c), (Str.ofString "contour", con l c)] L) h1).trans h2
    refine Nx.step (ex_for (g := vps) (C := pieces c kd l (w.fdiv 2)) (w := .obj (st ++ [Ob.list [con l c]]).length) (σ1 := st ++ [Ob.list [con l c]] ++ [Ob.list ((pieces c kd l (w.fdiv 2)).map vps)]) (sx_ev (E := { l := [(Str.ofString "line", con l c), (Str.ofString "contour", con l c)], o := L }) (fs_v i2 <| fs_v i3 <| fs_s (@hk (n + 36)) <| fs_nil) (by kernel_rfl)) (items_obj gl_at hpl2) (fun dq L st2 => SI σ s sp (acc ++ dq.filterMap sns) L st2 ∧ st2[st.length]? = some (Ob.list [con l c]) ∧ st2[(st ++ [Ob.list [con l c]]).length]? = some (Ob.list ((pieces c kd l (w.fdiv 2)).map vps))) (fun dq L st2 hI => items_obj hI.2.2 hpl2) (fun dq P rs L st2 hC2 hI => ?_) ⟨⟨nm2 (by kernel_rfl) i1, nm2 (by kernel_rfl) i2, nm2 (by kernel_rfl) i3, take_app (take_app i4), by rw [app_l (app_l i5), List.filterMap_nil, List.append_nil]⟩, app_l gl_at, gl_at⟩) fun L' σ' h => Nx.nil ?_
    rotate_left
    · obtain ⟨h1, h2, h3⟩ := h
      exact ⟨items_obj h2 (Nat.le_of_ble_eq_true rfl), h1, by rw [List.length_append, List.length_append]; show _ ≤ 300 * (dn.length + 1); omega⟩
    · clear i1 i2 i3 i4 i5 hs1 hk
      obtain ⟨⟨i1, i2, i3, i4, i5⟩, i7, i8⟩ := hI
      obtain ⟨m1, m2⟩ := hps P (by rw [hC2]; simp)
      have hk := fun n => one_sense_c (r := r) (n := n) (σ := st2) (l := P) (by omega) m2
      have hdq : dq.length ≤ (pieces c kd l (w.fdiv 2)).length := by rw [hC2, List.length_append]; omega
      have hf2 : (dq.filterMap sns).length ≤ dq.length := List.length_filterMap_le _ _
      have hsz : ((acc ++ dq.filterMap sns).map vdr).length < 1000000 := by rw [List.length_map, List.length_append]; omega
      refine ⟨_, rfl, ?_⟩
      cases hsn : sns P with
      | none =>
        rw [hsn] at hk
        have hk : ∀ n, callD (lvl (tbl r) (n + 60)) d_one_sense.1 [vps P] st2 = some (.none, st2) := hk
        refine Nx.fin (E := { l := [(Str.ofString "piece", vps P)], o := L }) (E' := EX.up { l := [(Str.ofString "piece", vps P)], o := L } (Str.ofString "spots") V.none) (σ' := st2) (fs_s (@hk (n + 135)) <| fs_c (@isn_none st2) <| fs_b (r := false) rfl <| fs_nil) (by kernel_rfl) ?_
        exact ⟨⟨nm (by kernel_rfl) i1, nm (by kernel_rfl) i2, nm (by kernel_rfl) i3, i4, by rw [i5, List.filterMap_append]; simp [hsn]⟩, i7, i8⟩
      | some m =>
        rw [hsn] at hk
        have hk : ∀ n, callD (lvl (tbl r) (n + 60)) d_one_sense.1 [vps P] st2 = some (vps m, st2) := hk
        refine Nx.fin (E := { l := [(Str.ofString "piece", vps P)], o := L }) (E' := EX.up { l := [(Str.ofString "piece", vps P)], o := L } (Str.ofString "spots") (vps m)) (σ' := List.set st2 (List.length σ) (Ob.list (List.map vdr (acc ++ List.filterMap sns dq) ++ [V.tup [vps m, V.bool true]]))) (fs_s (@hk (n + 135)) <| fs_c (@isn_some st2 m) <| fs_b (r := true) rfl <| fs_v i1 <| fs_o i5 <| fs_o i5 <| fs_s (@app_c st2 (List.length σ) (List.map vdr (acc ++ List.filterMap sns dq)) (V.tup [vps m, V.bool true]) hsz) <| fs_nil) (by kernel_rfl) ?_
        refine ⟨⟨nm (by kernel_rfl) i1, nm (by kernel_rfl) i2, nm (by kernel_rfl) i3, take_set i4 (Nat.le_refl _), ?_⟩, ?_, ?_⟩
        · rw [set_self i5, List.filterMap_append]; simp [hsn]; rfl
        · rw [set_ne (Ne.symm hgo)]; exact i7
        · rw [set_ne (Ne.symm hne)]; exact i8
  · obtain ⟨⟨i1, i2, i3, i4, i5⟩, _⟩ := h1
    refine Ret.fin (E := { l := [], o := L1 }) (v := V.obj (List.length σ)) (σ' := σ1) (fs_v i1 <| fs_nil) (by kernel_rfl) ?_
    exact ⟨_, rfl, i4, Nat.le_refl _, i5⟩
end Mine
end
section
open PySem PySem.W PyProof.Rows PySem.Calls
set_option linter.unusedVariables false
set_option linter.unusedSimpArgs false
set_option maxRecDepth 100000
namespace Mine
variable {r : Nat → Option (List Int)} {T : Tbl} {F : Funs} {L : Loc} {σ : Sto} {n : Nat}

/-- the source of draws -/
noncomputable def Src (s : Nat) (σ : Sto) : Prop := ∃ a b, σ[s]? = some (.list [.int a, .int b]) ∧ 0 ≤ b ∧ b < 2147483647
/-- only the source may have changed -/
noncomputable def Keep (s : Nat) (σ σ' : Sto) : Prop := σ.length ≤ σ'.length ∧ ∀ k, k ≠ s → k < σ.length → σ'[k]? = σ[k]?
theorem Keep.refl {s : Nat} : Keep s σ σ := ⟨Nat.le_refl _, fun _ _ _ => rfl⟩
theorem Keep.trans {s : Nat} {σ1 σ2 σ3 : Sto} (h : Keep s σ1 σ2) (h' : Keep s σ2 σ3) : Keep s σ1 σ3 := ⟨Nat.le_trans h.1 h'.1, fun k hk hl => by rw [h'.2 k hk (Nat.lt_of_lt_of_le hl h.1), h.2 k hk hl]⟩
theorem Keep.app {s : Nat} {l : Sto} : Keep s σ (σ ++ l) := ⟨by rw [List.length_append]; omega, fun k _ hl => List.getElem?_append_left hl⟩
theorem Keep.get {s k : Nat} {o : Ob} {σ' : Sto} (h : Keep s σ σ') (hk : k ≠ s) (ho : σ[k]? = some o) : σ'[k]? = some o := by rw [h.2 k hk (lt_of ho), ho]
theorem Src.app {s : Nat} {l : Sto} (h : Src s σ) : Src s (σ ++ l) := by
  obtain ⟨a, b, h1, h2⟩ := h
  exact ⟨a, b, app_l h1, h2⟩
theorem Keep.set {s : Nat} {o : Ob} : Keep s σ (σ.set s o) := ⟨by rw [List.length_set]; exact Nat.le_refl _, fun k hk _ => set_ne (Ne.symm hk)⟩
theorem Keep.setn {s j : Nat} {o : Ob} {σ0 : Sto} (h : Keep s σ0 σ) (hj : σ0.length ≤ j) : Keep s σ0 (σ.set j o) := ⟨by rw [List.length_set]; exact h.1, fun k hk hl => by rw [set_ne (by omega)]; exact h.2 k hk hl⟩
theorem Src.setn {s j : Nat} {o : Ob} (h : Src s σ) (hj : j ≠ s) : Src s (σ.set j o) := by
  obtain ⟨a, b, h1, h2⟩ := h
  exact ⟨a, b, by rw [set_ne hj]; exact h1, h2⟩
theorem gc_keep {s : Nat} {v : V} {σ' : Sto} (hf : free v = true) (hs : Src s σ) (hk : Keep s σ σ') (hs' : Src s σ') : ∃ σ2, gc σ v σ' = (v, σ2) ∧ Keep s σ σ2 ∧ Src s σ2 := by
  unfold gc
  by_cases ht : σ'.take σ.length = σ
  · rw [if_pos ht, if_pos hf]; exact ⟨_, rfl, Keep.refl, hs⟩
  · rw [if_neg ht]; exact ⟨_, rfl, hk, hs'⟩

/-- a list's place is set -/
theorem asg_sub {o i e : Expr} {q q2 : Pos} {v : V} {j : Nat} {z : Int} {l : List V} (he : (lvl T n).ev L σ e = some (v, σ)) (ho : (lvl T n).ev L σ o = some (.obj j, σ)) (hi : (lvl T n).ev L σ i = some (.int z, σ)) (hl : σ[j]? = some (.list l)) (h0 : 0 ≤ z) (h1 : z < l.length) (h2 : small z = true) : (lvl T (n + 1)).ex L σ (.Assign [.Subscript o i q] e q2) = some (.next, L, σ.set j (.list (l.set z.toNat v))) := by
  rw [lvl_ex]
  delta exS
  dsimp only
  rw [he]
  dsimp only
  rw [ho]
  dsimp only
  rw [hi]
  dsimp only
  rw [hl]
  exact if_pos (by rw [decide_eq_true h0, decide_eq_true h1, h2]; rfl)
theorem take_c {s t : Nat} (hs : Src s σ) (h1 : 1 ≤ t) (h2 : t ≤ 8) : ∃ k σ', callD (lvl (tbl r) (n + 40)) d_l_take.1 [.obj s, .int (t : Nat)] σ = some (.int (k : Nat), σ') ∧ k < t ∧ Keep s σ σ' ∧ Src s σ' := by
  suffices hR : Ret (lvl (tbl r) (n + 40)) (bindP (d_l_take.1.params.args.map (·.arg)) [.obj s, .int (t : Nat)]) σ d_l_take.1.body fun v σ' => ∃ k : Nat, v = .int k ∧ k < t ∧ Keep s σ σ' ∧ Src s σ' by
    obtain ⟨v, σ', e, k, rfl, hk, hK, hS⟩ := hR.run
    obtain ⟨σ2, e2, hK2, hS2⟩ := gc_keep (v := .int k) rfl hs hK hS
    exact ⟨k, σ2, by rw [callD_run rfl e, e2], hk, hK2, hS2⟩
  obtain ⟨a, b, ha, hb0, hb1⟩ := hs
  have g0 : subC (tbl r) σ (.obj s) (.int 0) = some (.int a) := sub_0 ha rfl
  have g1 : subC (tbl r) σ (.obj s) (.int 1) = some (.int b) := sub_at (j := 1) ha rfl (by decide)
  have t0 : (t : Int) ≠ 0 := by omega
  have t1 : (t : Int).natAbs < 1073741824 := by omega
  have b1 : -1152921504606846976 < b := by omega
  have b2 : b < 1152921504606846976 := by omega
  have fin : ∀ (x : Int) {P : Nat → Prop}, (∀ k, P k) → ∃ k : Nat, V.int (x.fmod t) = .int k ∧ k < t ∧ P k := fun x P hP => by
    have h3 := Int.fmod_nonneg_of_pos x (show (0 : Int) < t by omega)
    have h4 := Int.fmod_lt_of_pos x (show (0 : Int) < t by omega)
    exact ⟨(x.fmod t).toNat, by rw [Int.toNat_of_nonneg h3], by omega, hP _⟩
  refine Ret.args ?_
  by_cases hp : a > 0
  · refine Ret.if_t rfl (σ1 := σ) (Eq.trans (sx_tst (E := argX d_l_take.val [V.obj s, V.int (↑t : Int)]) (fs_v g0 <| fs_nil) (by kernel_rfl)) (show some (decide (a > 0), σ) = some (true, σ) by rw [decide_eq_true hp])) ?_
    refine Ret.run_to (k := 1) (E1 := EX.up (argX d_l_take.val [V.obj s, V.int (↑t : Int)]) (Str.ofString "way_now") (V.int (Int.fmod a (↑t : Int)))) (σ1 := σ) (fs_v g0 <| fs_s (@mdC σ a ((↑t : Int)) t0) <| fs_nil) (by kernel_rfl) ?_
    refine Ret.next (asg_sub (v := .int (a.fdiv t)) (j := s) (z := 0) (sx_ev (E := EX.up (argX d_l_take.val [V.obj s, V.int (↑t : Int)]) (Str.ofString "way_now") (V.int (Int.fmod a (↑t : Int)))) (fs_v g0 <| fs_s (@fdC σ a ((↑t : Int)) t0 t1) <| fs_nil) (by kernel_rfl)) (sx_ev (E := EX.up (argX d_l_take.val [V.obj s, V.int (↑t : Int)]) (Str.ofString "way_now") (V.int (Int.fmod a (↑t : Int)))) (fs_nil) (by kernel_rfl)) (sx_ev (E := EX.up (argX d_l_take.val [V.obj s, V.int (↑t : Int)]) (Str.ofString "way_now") (V.int (Int.fmod a (↑t : Int)))) (fs_nil) (by kernel_rfl)) ha (by decide) (by first | exact (show (0 : Int) < 2 by decide) | exact (show (1 : Int) < 2 by decide)) (by decide)) ?_
    refine Ret.fin (v := V.int (Int.fmod a (↑t : Int))) (σ' := List.set σ s (Ob.list (List.set [V.int a, V.int b] (Int.toNat 0) (V.int (Int.fdiv a (↑t : Int)))))) (fs_nil) (by kernel_rfl) ?_
    exact fin a fun _ => ⟨Keep.set, _, _, set_self ha, hb0, hb1⟩
  · have hc0 : 0 ≤ (b * 39373 + 7).fmod 2147483647 := Int.fmod_nonneg_of_pos _ (by decide)
    have hc1 : (b * 39373 + 7).fmod 2147483647 < 2147483647 := Int.fmod_lt_of_pos _ (by decide)
    have b3 : -1152921504606846976 < (b * 39373 + 7).fmod 2147483647 := by omega
    have b4 : (b * 39373 + 7).fmod 2147483647 < 1152921504606846976 := by omega
    have g2 : subC (tbl r) (σ.set s (Ob.list [.int a, .int ((b * 39373 + 7).fmod 2147483647)])) (.obj s) (.int 1) = some (.int ((b * 39373 + 7).fmod 2147483647)) := sub_at (j := 1) (set_self ha) rfl (by decide)
    refine Ret.run_to (k := 1) (E1 := argX d_l_take.val [V.obj s, V.int (↑t : Int)]) (σ1 := σ) (fs_v g0 <| fs_f (p := a > 0) hp <| fs_nil) (by kernel_rfl) ?_
    refine Ret.next (σ1 := σ.set s (Ob.list [.int a, .int ((b * 39373 + 7).fmod 2147483647)])) (asg_sub (v := .int ((b * 39373 + 7).fmod 2147483647)) (j := s) (z := 1) (sx_ev (E := argX d_l_take.val [V.obj s, V.int (↑t : Int)]) (fs_v g1 <| fs_s (@mulL σ b 39373 b1 b2) <| fs_s (@mdC σ (b * 39373 + 7) 2147483647 (by omega)) <| fs_nil) (by kernel_rfl)) (sx_ev (E := argX d_l_take.val [V.obj s, V.int (↑t : Int)]) (fs_nil) (by kernel_rfl)) (sx_ev (E := argX d_l_take.val [V.obj s, V.int (↑t : Int)]) (fs_nil) (by kernel_rfl)) ha (by decide) (by first | exact (show (0 : Int) < 2 by decide) | exact (show (1 : Int) < 2 by decide)) (by decide)) ?_
    refine Ret.fin (v := V.int (Int.fmod (Int.fdiv (Int.fmod (Int.fmod (b * 39373 + 7) 2147483647 * Int.fmod (b * 39373 + 7) 2147483647) 2147483629) 32) (↑t : Int))) (σ' := List.set σ s (Ob.list [V.int a, V.int (Int.fmod (b * 39373 + 7) 2147483647)])) (fs_v g2 <| fs_v g2 <| fs_s (@mulL (List.set σ s (Ob.list [V.int a, V.int (Int.fmod (b * 39373 + 7) 2147483647)])) (Int.fmod (b * 39373 + 7) 2147483647) (Int.fmod (b * 39373 + 7) 2147483647) b3 b4) <| fs_s (@mdC (List.set σ s (Ob.list [V.int a, V.int (Int.fmod (b * 39373 + 7) 2147483647)])) (Int.fmod (b * 39373 + 7) 2147483647 * Int.fmod (b * 39373 + 7) 2147483647) 2147483629 (by omega)) <| fs_s (@fdC (List.set σ s (Ob.list [V.int a, V.int (Int.fmod (b * 39373 + 7) 2147483647)])) (Int.fmod (Int.fmod (b * 39373 + 7) 2147483647 * Int.fmod (b * 39373 + 7) 2147483647) 2147483629) 32 (by omega) (by omega)) <| fs_s (@mdC (List.set σ s (Ob.list [V.int a, V.int (Int.fmod (b * 39373 + 7) 2147483647)])) (Int.fdiv (Int.fmod (Int.fmod (b * 39373 + 7) 2147483647 * Int.fmod (b * 39373 + 7) 2147483647) 2147483629) 32) ((↑t : Int)) t0) <| fs_nil) (by kernel_rfl) ?_
    exact fin _ fun _ => ⟨Keep.set, _, _, set_self ha, hc0, hc1⟩

theorem get_mem {l : List V} {k : Nat} {t : Nat} (h : k < l.length) (ht : σ[t]? = some (.list l)) (hl : l.length ≤ 8) : ∃ v ∈ l, subC T σ (.obj t) (.int (k : Nat)) = some v :=
  ⟨l[k], List.getElem_mem h, sub_at ht (List.getElem?_eq_getElem h) (by omega)⟩
theorem one_c {s t : Nat} {l : List V} (hs : Src s σ) (ht : σ[t]? = some (.list l)) (hts : t ≠ s) (hf : ∀ v ∈ l, free v = true) (h1 : 1 ≤ l.length) (h2 : l.length ≤ 8) : ∃ v σ', callD (lvl (tbl r) (n + 60)) d_l_one.1 [.obj s, .obj t] σ = some (v, σ') ∧ v ∈ l ∧ Keep s σ σ' ∧ Src s σ' := by
  suffices hR : Ret (lvl (tbl r) (n + 60)) (bindP (d_l_one.1.params.args.map (·.arg)) [.obj s, .obj t]) σ d_l_one.1.body fun v σ' => v ∈ l ∧ Keep s σ σ' ∧ Src s σ' by
    obtain ⟨v, σ', e, hk, hK, hS⟩ := hR.run
    obtain ⟨σ2, e2, hK2, hS2⟩ := gc_keep (hf v hk) hs hK hS
    exact ⟨v, σ2, by rw [callD_run rfl e, e2], hk, hK2, hS2⟩
  obtain ⟨k, σ', e, hk, hK, hS⟩ := take_c (r := r) (n := n + 17) hs h1 h2
  rw [show n + 17 + 40 = n + 57 from rfl] at e
  obtain ⟨v, hv, hg⟩ := get_mem (T := tbl r) hk (hK.get hts ht) h2
  have hlen : biC (tbl r) .len [.obj t] σ = some (.int l.length) := by
    show Option.map (fun l : List V => V.int l.length) (match σ[t]? with | some (.list l) => if decide (l.length ≤ most) then some l else none | _ => none) = _
    rw [ht]
    dsimp only
    rw [if_pos (decide_eq_true (show l.length ≤ most by unfold most; omega))]
    rfl
  refine Ret.args ?_
  refine Ret.fin (v := v) (σ' := σ') (fs_v hlen <| fs_s e <| fs_v hg <| fs_nil) (by kernel_rfl) ?_
  exact ⟨hv, hK, hS⟩

theorem pool_c {k : Nat} {a : Nat} {xs : List Int} (ha : r a = some xs) (hk : k ≤ 1) (hx : xs.length ≤ 63) : ∃ x b, callD (lvl (tbl r) (n + 40)) d_l_pool.1 [.lst a, .int (k : Nat)] σ = some (.obj σ.length, σ ++ [.list [.int x, .int b]]) ∧ 0 ≤ b ∧ b < 2147483647 := by
  have hro : (tbl r).ro a = some xs := ha
  have hlen : biC (tbl r) .len [.lst a] σ = some (.int xs.length) := by
    show ((tbl r).ro a).bind (fun xs => if decide (xs.length ≤ most) then some (V.int xs.length) else none) = _
    rw [hro]
    exact if_pos (decide_eq_true (show xs.length ≤ most by unfold most; omega))
  have k1 : -1152921504606846976 < (k : Int) := by omega
  have k2 : (k : Int) < 1152921504606846976 := by omega
  suffices hR : Ret (lvl (tbl r) (n + 40)) (bindP (d_l_pool.1.params.args.map (·.arg)) [.lst a, .int (k : Nat)]) σ d_l_pool.1.body fun v σ' => ∃ x b, v = .obj σ.length ∧ σ' = σ ++ [Ob.list [.int x, .int b]] ∧ 0 ≤ b ∧ b < 2147483647 by
    obtain ⟨v, σ', e, x, b, rfl, rfl, h1, h2⟩ := hR.run
    exact ⟨x, b, callD_list' rfl rfl ⟨_, _, e, take_app tk0, Nat.le_refl _, gl_at⟩, h1, h2⟩
  refine Ret.args (Ret.step (fun L st => ∃ c : Int, L = (EX.up (argX d_l_pool.1 [.lst a, .int (k : Nat)]) (Str.ofString "cell") (.int c)).loc ∧ st = σ) ?_ fun L1 σ1 h1 => ?_)
  · by_cases hlt : k < xs.length
    · have hlt' : (k : Int) < (xs.length : Int) := by omega
      have hs : subC (tbl r) σ (.lst a) (.int k) = some (.int xs[k]) := by
        rw [subC_lst, hro, if_pos (small_of k1 k2)]
        show getAt (xs.map .int) (k : Int) = _
        unfold getAt place
        rw [if_pos (by omega), List.length_map, if_pos (by omega)]
        show (xs.map V.int)[((k : Int)).toNat]? = _
        rw [Int.toNat_natCast, List.getElem?_map, List.getElem?_eq_getElem hlt]
        rfl
      exact ⟨_, σ, (sx_ex (E := argX d_l_pool.val [V.lst a, V.int (↑k : Int)]) (E' := EX.up (argX d_l_pool.val [V.lst a, V.int (↑k : Int)]) (Str.ofString "cell") (V.int xs[k])) (fs_v hlen <| fs_t (p := (↑k : Int) < (↑(List.length xs) : Int)) hlt' <| fs_v hs <| fs_nil) (by kernel_rfl)), _, rfl, rfl⟩
    · have hlt' : ¬ (k : Int) < (xs.length : Int) := by omega
      exact ⟨_, σ, (sx_ex (E := argX d_l_pool.val [V.lst a, V.int (↑k : Int)]) (E' := EX.up (argX d_l_pool.val [V.lst a, V.int (↑k : Int)]) (Str.ofString "cell") (V.int 0)) (fs_v hlen <| fs_f (p := (↑k : Int) < (↑(List.length xs) : Int)) hlt' <| fs_nil) (by kernel_rfl)), _, rfl, rfl⟩
  · obtain ⟨c, rfl, rfl⟩ := h1
    have hm : ∀ τ (g : Int) (b : Bool), binS .Mult τ (.int g) (.int (if b then 1 else 0)) = some (.int (g * if b then 1 else 0), τ) := fun τ g b => by cases b <;> exact mulR (by decide) (by decide)
    refine Ret.fin (v := V.obj (List.length σ1)) (σ' := σ1 ++ [Ob.list [V.int ((if -1 - c > c then -1 - c else c) * if decide ((if -1 - c > c then -1 - c else c) ≥ 10 ^ Int.toNat 18) = true then 1 else 0), V.int (Int.fmod ((Int.fmod (if -1 - c > c then -1 - c else c) 2147483629 + 7919 * (↑k : Int) * (↑k : Int) + 31 * (↑k : Int) + 17) * 48271) 2147483647)]]) (fs_s (@mdC σ1 (if -1 - c > c then -1 - c else c) 2147483629 (by omega)) <| fs_s (@mulR σ1 7919 ((↑k : Int)) k1 k2) <| fs_s (@mulR σ1 (7919 * (↑k : Int)) ((↑k : Int)) k1 k2) <| fs_s (@mulR σ1 31 ((↑k : Int)) k1 k2) <| fs_s (@mulR σ1 (Int.fmod (if -1 - c > c then -1 - c else c) 2147483629 + 7919 * (↑k : Int) * (↑k : Int) + 31 * (↑k : Int) + 17) 48271 (by omega) (by omega)) <| fs_s (@mdC σ1 ((Int.fmod (if -1 - c > c then -1 - c else c) 2147483629 + 7919 * (↑k : Int) * (↑k : Int) + 31 * (↑k : Int) + 17) * 48271) 2147483647 (by omega)) <| fs_s (@powC σ1 10 18 (by omega) (by omega) (by omega) (by omega)) <| fs_s (@mulR σ1 (if -1 - c > c then -1 - c else c) (if decide ((if -1 - c > c then -1 - c else c) ≥ 10 ^ Int.toNat 18) = true then 1 else 0) (by omega) (by omega)) <| fs_nil) (by kernel_rfl) ?_
    exact ⟨_, _, rfl, rfl, Int.fmod_nonneg_of_pos _ (by decide), Int.fmod_lt_of_pos _ (by decide)⟩
end Mine
end
section
open PySem PySem.W PyProof.Rows PySem.Calls
set_option linter.unusedVariables false
set_option linter.unusedSimpArgs false
set_option maxRecDepth 100000
namespace Mine
variable {r : Nat → Option (List Int)} {T : Tbl} {F : Funs} {L : Loc} {σ : Sto} {n : Nat}

theorem gc_nf {k : Nat} {l : List V} {σ' : Sto} (hg : σ'[k]? = some (.list l)) (hf : freeL l = false) : gc σ (.obj k) σ' = (.obj k, σ') := by
  unfold gc
  by_cases ht : σ'.take σ.length = σ
  · rw [if_pos ht, if_neg (by simp [free])]
    dsimp only
    rw [hg]
    dsimp only
    rw [if_neg (by simp [hf])]
  · rw [if_neg ht]

noncomputable def steps8 : List V := [.tup [.int 0, .int 0], .tup [.int 8, .int 0], .tup [.int 8, .int 0], .tup [.int (-8), .int 0], .tup [.int 3, .int 4], .tup [.int (-6), .int 8], .tup [.int 0, .int (-9)], .tup [.int 5, .int 7]]
theorem steps8_ok : ∀ v ∈ steps8, ∃ p : Pt, v = vp p ∧ (-9 ≤ p.1 ∧ p.1 ≤ 9) ∧ (-9 ≤ p.2 ∧ p.2 ≤ 9) := by
  intro v hv
  simp only [steps8, List.mem_cons, List.not_mem_nil, or_false] at hv
  rcases hv with h | h | h | h | h | h | h | h <;> subst h
  · exact ⟨(0, 0), rfl, by decide, by decide⟩
  · exact ⟨(8, 0), rfl, by decide, by decide⟩
  · exact ⟨(8, 0), rfl, by decide, by decide⟩
  · exact ⟨(-8, 0), rfl, by decide, by decide⟩
  · exact ⟨(3, 4), rfl, by decide, by decide⟩
  · exact ⟨(-6, 8), rfl, by decide, by decide⟩
  · exact ⟨(0, -9), rfl, by decide, by decide⟩
  · exact ⟨(5, 7), rfl, by decide, by decide⟩

structure DrI (σ : Sto) (s i : Nat) (L : Loc) (st : Sto) : Prop where
  so : L "source" = some (.obj s)
  ex : ∃ (k : Nat) (l : List Pt) (p : Pt), L "spots" = some (.obj k) ∧ L "here" = some (vp p) ∧ st[k]? = some (.list (l.map vp)) ∧ σ.length ≤ k ∧ l.length = i ∧ (∀ q ∈ l, (-9 * (i : Int) ≤ q.1 ∧ q.1 ≤ 9 * i) ∧ (-9 * (i : Int) ≤ q.2 ∧ q.2 ≤ 9 * i)) ∧ (-9 * (i : Int) ≤ p.1 ∧ p.1 ≤ 9 * i) ∧ (-9 * (i : Int) ≤ p.2 ∧ p.2 ≤ 9 * i)
  kp : Keep s σ st
  sr : Src s st

theorem drawn_c {s : Nat} (hs : Src s σ) : ∃ (l : List Pt) (c : Bool) (j k : Nat) (σ' : Sto), callD (lvl (tbl r) (n + 100)) d_l_drawn.1 [.obj s] σ = some (.obj j, σ') ∧ Keep s σ σ' ∧ Src s σ' ∧ σ'[j]? = some (.list [.obj k, .bool c]) ∧ σ'[k]? = some (.list (l.map vp)) ∧ σ.length ≤ j ∧ σ.length ≤ k ∧ Box l ∧ l.length ≤ 6 := by
  have hlt : s < σ.length := by obtain ⟨a, b, h, _⟩ := hs; exact lt_of h
  suffices hR : Ret (lvl (tbl r) (n + 100)) (bindP (d_l_drawn.1.params.args.map (·.arg)) [.obj s]) σ d_l_drawn.1.body fun v σ' => ∃ (l : List Pt) (c : Bool) (j k : Nat), v = .obj j ∧ Keep s σ σ' ∧ Src s σ' ∧ σ'[j]? = some (.list [.obj k, .bool c]) ∧ σ'[k]? = some (.list (l.map vp)) ∧ σ.length ≤ j ∧ σ.length ≤ k ∧ Box l ∧ l.length ≤ 6 by
    obtain ⟨v, σ', e, l, c, j, k, rfl, h1, h2, h3, h4⟩ := hR.run
    refine ⟨l, c, j, k, σ', ?_, h1, h2, h3, h4⟩
    rw [callD_run rfl e, gc_nf h3 (by simp [freeL, free])]
  refine Ret.args ?_
  refine Ret.run_to (k := 1) (E1 := EX.ups (argX d_l_drawn.val [V.obj s]) [Str.ofString "spots", Str.ofString "here"] [V.obj (List.length σ), V.tup [V.int 0, V.int 0]]) (σ1 := σ ++ [Ob.list []]) (fs_nil) (by kernel_rfl) ?_
  obtain ⟨v, σ1, e, hv, hK, hS⟩ := one_c (r := r) (n := n + 37) (s := s) (t := (σ ++ [Ob.list []]).length) (σ := σ ++ [Ob.list []] ++ [Ob.list [.int 1, .int 2, .int 3, .int 4, .int 5, .int 6, .int 4, .int 0]]) hs.app.app gl_at (Nat.ne_of_gt (lt_app hlt)) (by decide) (by decide) (by decide)
  rw [show n + 37 + 60 = n + 97 from rfl] at e
  obtain ⟨M, rfl, hM⟩ : ∃ M : Nat, v = .int (M : Nat) ∧ M ≤ 6 := by
    simp only [List.mem_cons, List.not_mem_nil, or_false] at hv
    rcases hv with h | h | h | h | h | h | h | h <;> subst h
    · exact ⟨1, rfl, by decide⟩
    · exact ⟨2, rfl, by decide⟩
    · exact ⟨3, rfl, by decide⟩
    · exact ⟨4, rfl, by decide⟩
    · exact ⟨5, rfl, by decide⟩
    · exact ⟨6, rfl, by decide⟩
    · exact ⟨4, rfl, by decide⟩
    · exact ⟨0, rfl, by decide⟩
  have hit : ∀ τ, items τ (.rng 0 M) = some ((List.range M).map fun k : Nat => V.int k) := fun τ => items_rng0 (by omega) (by omega)
  refine Ret.step (fun L st => DrI σ s (List.range M).length L st) (ex_for (w := .rng 0 M) (g := fun k : Nat => V.int k) (C := List.range M) (σ1 := σ1) (sx_ev (E := EX.ups (argX d_l_drawn.val [V.obj s]) [Str.ofString "spots", Str.ofString "here"] [V.obj (List.length σ), V.tup [V.int 0, V.int 0]]) (fs_s e <| fs_nil) (by kernel_rfl)) (hit _) (fun dn L st => DrI σ s dn.length L st) (fun dn L st hI => hit _) (fun dn i rs L st hC hI => ?_) ⟨by kernel_rfl, ⟨σ.length, [], (0, 0), by kernel_rfl, by kernel_rfl, hK.get (Nat.ne_of_gt hlt) (app_l gl_at), Nat.le_refl _, rfl, fun q hq => (nomatch hq), by decide, by decide⟩, (Keep.app.trans Keep.app).trans hK, hS⟩) fun L1 σ2 h1 => ?_
  · obtain ⟨i1, ⟨k, l, p, i2, i3, i4, i5, i6, i7, i8, i9⟩, i10, i11⟩ := hI
    have hdn : dn.length < 6 := by
      have := congrArg List.length hC
      rw [List.length_range, List.length_append, List.length_cons] at this; omega
    have hks : k ≠ s := by omega
    obtain ⟨v, σ2, e, hv, hK, hS⟩ := one_c (r := r) (n := n + 37) (s := s) (t := st.length) (σ := st ++ [Ob.list steps8]) i11.app gl_at (by have := i10.1; omega) (by decide) (by decide) (by decide)
    obtain ⟨q, rfl, ⟨q1, q2⟩, q3, q4⟩ := steps8_ok v hv
    unfold steps8 at e
    have hg : σ2[k]? = some (Ob.list (l.map vp)) := hK.get hks (app_l i4)
    have hlen : (l.map vp).length < 1000000 := by rw [List.length_map]; omega
    have nm : ∀ {l : List (Str × V)} {L : Loc} {x : Str} {w : V}, l.lookup x = none → L x = some w → (EX.mk l L).loc x = some w := fun h1 h2 => (loc_o h1).trans h2
    refine ⟨_, rfl, ?_⟩
    refine Nx.fin (E := { l := [(Str.ofString "turn", V.int (↑i : Int))], o := L }) (E' := EX.up (EX.ups { l := [(Str.ofString "turn", V.int (↑i : Int))], o := L } [Str.ofString "x", Str.ofString "y"] [V.int q.fst, V.int q.snd]) (Str.ofString "here") (V.tup [V.int (p.fst + q.fst), V.int (p.snd + q.snd)])) (σ' := List.set σ2 k (Ob.list (List.map vp l ++ [V.tup [V.int (p.fst + q.fst), V.int (p.snd + q.snd)]]))) (fs_v i1 <| fs_s e <| fs_v i3 <| fs_v i3 <| fs_v i2 <| fs_o hg <| fs_o hg <| fs_s (@app_c σ2 k (List.map vp l) (V.tup [V.int (p.fst + q.fst), V.int (p.snd + q.snd)]) hlen) <| fs_nil) (by kernel_rfl) ?_
    rw [List.length_append, List.length_singleton]
    refine ⟨nm (by kernel_rfl) i1, ⟨k, l ++ [(p.1 + q.1, p.2 + q.2)], (p.1 + q.1, p.2 + q.2), nm (by kernel_rfl) i2, by kernel_rfl, by rw [set_self hg, List.map_append]; rfl, i5, by rw [List.length_append, i6]; rfl, fun u hu => ?_, by dsimp only; omega, by dsimp only; omega⟩, (i10.trans (Keep.app.trans hK)).setn i5, hS.setn hks⟩
    rcases List.mem_append.mp hu with hu | hu
    · have := i7 u hu
      omega
    · rw [List.mem_singleton] at hu
      subst hu
      dsimp only
      omega
  rw [List.length_range] at h1
  clear hK hS e hv
  obtain ⟨i1, ⟨k, l, p, i2, i3, i4, i5, i6, i7, i8, i9⟩, i10, i11⟩ := h1
  obtain ⟨d, σ3, e, hd, hK, hS⟩ := take_c (r := r) (n := n + 56) (s := s) (t := 2) i11 (by decide) (by decide)
  rw [show n + 56 + 40 = n + 96 from rfl] at e
  have hg : σ3[k]? = some (Ob.list (l.map vp)) := hK.get (by omega) i4
  have e : callD (lvl (tbl r) (n + 96)) d_l_take.1 [.obj s, .int 2] σ2 = some (.int (d : Nat), σ3) := e
  refine Ret.fin (E := { l := [], o := L1 }) (v := V.obj (List.length σ3)) (σ' := σ3 ++ [Ob.list [V.obj k, V.bool (decide ((↑d : Int) = 0))]]) (fs_v i2 <| fs_v i1 <| fs_s e <| fs_c (@cmp_eqi σ3 ((↑d : Int)) 0) <| fs_nil) (by kernel_rfl) ?_
  exact ⟨l, _, _, k, rfl, (i10.trans hK).trans Keep.app, hS.app, gl_at, app_l hg, Nat.le_trans i10.1 hK.1, i5, fun q hq => (have := i7 q hq; ⟨⟨by omega, by omega⟩, by omega, by omega⟩), by omega⟩
end Mine
end
section
open PySem PySem.W PyProof.Rows PySem.Calls
set_option linter.unusedVariables false
set_option linter.unusedSimpArgs false
set_option maxRecDepth 100000
namespace Mine
variable {r : Nat → Option (List Int)} {T : Tbl} {F : Funs} {L : Loc} {σ : Sto} {n : Nat}

theorem nm1 {u x : Str} {v w : V} (h : ([(u, v)] : List (Str × V)).lookup x = none) (hx : L x = some w) : upd L u v x = some w := (loc_o (E := EX.mk [(u, v)] L) h).trans hx
theorem nm2 {u u' x : Str} {v v' w : V} (h : ([(u, v), (u', v')] : List (Str × V)).lookup x = none) (hx : L x = some w) : upd (upd L u' v') u v x = some w := (loc_o (E := EX.mk [(u, v), (u', v')] L) h).trans hx
/-- a list comprehension by its turns -/
theorem comp_go {elt t it : Expr} {ifs : List Expr} {gs : List Comprehension} {a : Nat} {sc : Scope} {q : Pos} {w : V} {vs : List V} {σ1 st : Sto}
    (ho : overE T F L σ t it = (match F.ev L σ it with | some (v, σ1) => (items σ1 v).map fun l => (.one v, l, σ1) | none => none)) (hi : F.ev L σ it = some (w, σ1)) (hv : items σ1 w = some vs)
    (hc : compL (fun σ => still σ (.one w) vs) (turnC F σ1.length elt t ifs gs (hide sc L)) vs (σ1 ++ [.list []]) = some st) : evS T F L σ (.ListComp elt (⟨t, it, ifs, a⟩ :: gs) sc q) = some (.obj σ1.length, st) := by
  show (match overE T F L σ t it with | some (w, vs, σ1) => (match clauses F σ1.length elt (⟨t, it, ifs, a⟩ :: gs) (hide sc L) w vs (σ1 ++ [Ob.list []]) with | some σ2 => some (V.obj σ1.length, σ2) | none => none) | none => none) = _
  rw [ho, hi]
  dsimp only
  rw [hv]
  dsimp only [Option.map]
  rw [@clauses_cons noHid, hc]
theorem cl_nil {w : V} {vs : List V} {f : V → Sto → Option Sto} (h : items σ w = some vs) : compL (fun σ => still σ (.one w) vs) f [] σ = some σ := cl_end (still_one.mpr h)
theorem cl_cons {w v : V} {vs us : List V} {f : V → Sto → Option Sto} {s1 st : Sto} (h : items σ w = some vs) (h1 : f v σ = some s1) (h2 : compL (fun σ => still σ (.one w) vs) f us s1 = some st) : compL (fun σ => still σ (.one w) vs) f (v :: us) σ = some st := cl_step (still_one.mpr h) h1 h2
theorem turn_skip {elt t c : Expr} {gs : List Comprehension} {L1 : Loc} {v : V} {s1 : Sto} {k : Nat} (hb : bindT L σ t v = some L1) (ht : F.tst L1 σ c = some (false, s1)) : turnC F k elt t [c] gs L v σ = some s1 := turn_pass hb (by unfold tests; rw [ht])
theorem turn_in {elt t t2 it2 : Expr} {ifs2 : List Expr} {a2 : Nat} {gs : List Comprehension} {L1 : Loc} {v w : V} {ws : List V} {s2 st : Sto} {k : Nat} (hb : bindT L σ t v = some L1) (hi : F.ev L1 σ it2 = some (w, s2)) (hv : items s2 w = some ws) (hc : clauses F k elt (⟨t2, it2, ifs2, a2⟩ :: gs) L1 (.one w) ws s2 = some st) : turnC F k elt t [] (⟨t2, it2, ifs2, a2⟩ :: gs) L v σ = some st := by
  unfold turnC
  rw [hb]
  dsimp only [tests]
  unfold emitC
  dsimp only
  rw [hi]
  dsimp only
  rw [hv]
  exact hc
theorem bind_two {es : List Expr} {k m : Nat} {q : Pos} {x y : Str} {u v : V} (h : σ[m]? = some (.list [u, v])) (hn : names? es = some [x, y]) : bindT L σ (.Tuple es k q) (.obj m) = some (upd (upd L x u) y v) := by
  rw [bindT_obj, hn]
  dsimp only
  rw [h]
  rfl
/-- a comprehension over two lists of lists, the inner elements read alone -/
theorem comp_flat {α : Type} {e : α → V} {C1 C2 : List α} {elt t it t2 it2 : Expr} {ifs2 : List Expr} {a a2 : Nat} {sc : Scope} {q : Pos} {u d1 d2 : Nat} (p : α → Bool) (g : α → V)
    (ho : overE T F L σ t it = (match F.ev L σ it with | some (v, σ1) => (items σ1 v).map fun l => (.one v, l, σ1) | none => none)) (hi : F.ev L σ it = some (.obj u, σ)) (hu : σ[u]? = some (.list [.obj d1, .obj d2])) (h1 : σ[d1]? = some (.list (C1.map e))) (h2 : σ[d2]? = some (.list (C2.map e))) (l1 : C1.length ≤ 1000) (l2 : C2.length ≤ 1000)
    (hb : ∀ d l, ∃ L1, bindT (hide sc L) (σ ++ [.list l]) t (.obj d) = some L1 ∧ F.ev L1 (σ ++ [.list l]) it2 = some (.obj d, σ ++ [.list l]) ∧ ∀ c, c ∈ C1 ∨ c ∈ C2 → ∀ l, ∃ L2, bindT L1 (σ ++ [.list l]) t2 (e c) = some L2 ∧ tests (fun σ e => F.tst L2 σ e) (σ ++ [.list l]) ifs2 = some (p c, σ ++ [.list l]) ∧ (p c = true → F.ev L2 (σ ++ [.list l]) elt = some (g c, σ ++ [.list l]))) :
    evS T F L σ (.ListComp elt [⟨t, it, [], a⟩, ⟨t2, it2, ifs2, a2⟩] sc q) = some (.obj σ.length, σ ++ [.list (((C1 ++ C2).filter p).map g)]) := by
  have key : ∀ (d : Nat) (C : List α) (acc : List V), σ[d]? = some (.list (C.map e)) → C.length ≤ 1000 → acc.length ≤ 1000 → (∀ c, c ∈ C → c ∈ C1 ∨ c ∈ C2) → turnC F σ.length elt t [] [⟨t2, it2, ifs2, a2⟩] (hide sc L) (.obj d) (σ ++ [.list acc]) = some (σ ++ [.list (acc ++ (C.filter p).map g)]) := by
    intro d C acc hd hC ha hm
    obtain ⟨L1, b1, b2, b3⟩ := hb d acc
    have hit : ∀ l, items (σ ++ [Ob.list l]) (.obj d) = some (C.map e) := fun l => items_obj (app_l hd) (by rw [List.length_map]; omega)
    exact turn_in b1 b2 (hit _) (clausesM p g (fun l => still_one.mpr (hit l)) (fun c hc l => b3 c (hm c hc) l) (by omega))
  have hit : ∀ l, items (σ ++ l) (.obj u) = some [.obj d1, .obj d2] := fun l => items_obj (app_l hu) (Nat.le_of_ble_eq_true rfl)
  have hf : ((C1.filter p).map g).length ≤ C1.length := by rw [List.length_map]; exact List.length_filter_le _ _
  rw [List.filter_append, List.map_append]
  exact comp_go ho hi (by have := hit []; rwa [List.append_nil] at this) (cl_cons (hit _) (key d1 C1 [] h1 l1 (Nat.zero_le _) fun _ => .inl) (cl_cons (hit _) (key d2 C2 _ h2 l2 (Nat.le_trans hf l1) fun _ => .inr) (cl_nil (hit _))))

noncomputable def forB : Stmt → List Stmt
  | .For _ _ b _ _ => b
  | _ => []
noncomputable def w0 : {s : Stmt // d_law.1.body[0]? = some s} := ⟨_, rfl⟩
noncomputable def w1 : {s : Stmt // d_law.1.body[1]? = some s} := ⟨_, rfl⟩
noncomputable def w2 : {s : Stmt // d_law.1.body[2]? = some s} := ⟨_, rfl⟩
noncomputable def u1 : {s : Stmt // (forB w0.1)[0]? = some s} := ⟨_, rfl⟩
noncomputable def u2 : {s : Stmt // (forB w0.1)[1]? = some s} := ⟨_, rfl⟩
noncomputable def u3 : {s : Stmt // (forB w0.1)[2]? = some s} := ⟨_, rfl⟩
noncomputable def u4 : {s : Stmt // (forB w0.1)[3]? = some s} := ⟨_, rfl⟩
noncomputable def u5 : {s : Stmt // (forB w0.1)[4]? = some s} := ⟨_, rfl⟩
noncomputable def u6 : {s : Stmt // (forB w0.1)[5]? = some s} := ⟨_, rfl⟩
noncomputable def u7 : {s : Stmt // (forB w0.1)[6]? = some s} := ⟨_, rfl⟩
noncomputable def u8 : {s : Stmt // (forB w0.1)[7]? = some s} := ⟨_, rfl⟩
noncomputable def u9 : {s : Stmt // (forB w0.1)[8]? = some s} := ⟨_, rfl⟩
noncomputable def u10 : {s : Stmt // (forB w0.1)[9]? = some s} := ⟨_, rfl⟩
theorem law_body : d_law.1.body = [w0.1, w1.1, w2.1] := rfl
theorem law_turn : forB w0.1 = [u1.1, u2.1, u3.1, u4.1, u5.1, u6.1, u7.1, u8.1, u9.1, u10.1] := rfl

structure Par where
  (s q j1 k1 j2 k2 : Nat)
  (l1 l2 : List Pt)
  (c1 c2 : Bool)
  (h : Int)
structure Base (P : Par) (σ : Sto) : Prop where
  bq : σ[P.q]? = some (.list [.obj P.j1, .obj P.j2])
  b1 : σ[P.j1]? = some (.list [.obj P.k1, .bool P.c1])
  b2 : σ[P.j2]? = some (.list [.obj P.k2, .bool P.c2])
  b3 : σ[P.k1]? = some (.list (P.l1.map vp))
  b4 : σ[P.k2]? = some (.list (P.l2.map vp))
  x1 : Box P.l1
  x2 : Box P.l2
  y1 : P.l1.length ≤ 6
  y2 : P.l2.length ≤ 6
  jj : P.j1 ≠ P.j2
  hh : Hf P.h
  nq : P.q ≠ P.s
  n1 : P.j1 ≠ P.s
  n2 : P.j2 ≠ P.s
  n3 : P.k1 ≠ P.s
  n4 : P.k2 ≠ P.s
theorem Base.keep {P : Par} {σ' : Sto} (h : Base P σ) (k : Keep P.s σ σ') : Base P σ' := { h with
  bq := k.get h.nq h.bq
  b1 := k.get h.n1 h.b1
  b2 := k.get h.n2 h.b2
  b3 := k.get h.n3 h.b3
  b4 := k.get h.n4 h.b4 }
theorem Base.pre {P : Par} {σ' : Sto} (h : Base P σ) (k : σ'.take σ.length = σ) : Base P σ' := { h with
  bq := get_take k h.bq
  b1 := get_take k h.b1
  b2 := get_take k h.b2
  b3 := get_take k h.b3
  b4 := get_take k h.b4 }

structure R1 (a s : Nat) (L : Loc) (σ : Sto) : Prop where
  sc : L "script" = some (.lst a)
  so : L "source" = some (.obj s)
  sr : Src s σ
theorem law1 {a k : Nat} {xs : List Int} (ha : r a = some xs) (hx : xs.length ≤ 63) (hk : k ≤ 1) (h1 : L "script" = some (.lst a)) (h2 : L "k" = some (.int (k : Nat))) : ∃ L1 σ1, (lvl (tbl r) (n + 100)).ex L σ u1.1 = some (.next, L1, σ1) ∧ ∃ s, R1 a s L1 σ1 := by
  obtain ⟨x, b, e, b0, b1⟩ := pool_c (r := r) (σ := σ) (n := n + 58) ha hk hx
  rw [show n + 58 + 40 = n + 98 from rfl] at e
  exact ⟨upd L "source" (.obj σ.length), σ ++ [Ob.list [.int x, .int b]], (sx_ex (E := { l := [], o := L }) (E' := EX.up { l := [], o := L } (Str.ofString "source") (V.obj (List.length σ))) (fs_v h1 <| fs_v h2 <| fs_s e <| fs_nil) (by kernel_rfl)), σ.length, nm1 (by kernel_rfl) h1, upd_self, x, b, gl_at, b0, b1⟩

structure R2 (a : Nat) (P : Par) (L : Loc) (σ : Sto) : Prop where
  sc : L "script" = some (.lst a)
  so : L "source" = some (.obj P.s)
  li : L "lines" = some (.obj P.q)
  hf : L "half" = some (.int P.h)
  sr : Src P.s σ
  bs : Base P σ
theorem law2 {a s : Nat} (h : R1 a s L σ) : ∃ L1 σ1, (lvl (tbl r) (n + 200)).ex L σ u2.1 = some (.next, L1, σ1) ∧ ∃ P, R2 a P L1 σ1 := by
  obtain ⟨i1, i2, i3⟩ := h
  obtain ⟨l1, c1, j1, k1, σ1, e1, K1, S1, a1, a2, a3, a4, a5, a6⟩ := drawn_c (r := r) (n := n + 96) i3
  obtain ⟨l2, c2, j2, k2, σ2, e2, K2, S2, b1, b2, b3, b4, b5, b6⟩ := drawn_c (r := r) (n := n + 96) S1
  obtain ⟨d, σ3, e3, hd, K3, S3⟩ := take_c (r := r) (n := n + 156) (t := 6) (S2.app (l := [.list [.obj j1, .obj j2]])) (by decide) (by decide)
  rw [show n + 96 + 100 = n + 196 from rfl] at e1 e2
  rw [show n + 156 + 40 = n + 196 from rfl] at e3
  have hs : s < σ.length := by obtain ⟨_, _, h, _⟩ := i3; exact lt_of h
  have q1 := K1.1
  have q2 := K2.1
  have hj1 := lt_of a1
  have hk1 := lt_of a2
  have K4 : Keep s σ2 σ3 := Keep.app.trans K3
  have e3 : callD (lvl (tbl r) (n + 196)) d_l_take.1 [.obj s, .int 6] (σ2 ++ [Ob.list [.obj j1, .obj j2]]) = some (.int (d : Nat), σ3) := e3
  refine ⟨upd (upd L "lines" (.obj σ2.length)) "half" (.int (1 + (d : Int))), σ3, (sx_ex (E := { l := [], o := L }) (E' := EX.ups { l := [], o := L } [Str.ofString "lines", Str.ofString "half"] [V.obj (List.length σ2), V.int (1 + (↑d : Int))]) (fs_v i2 <| fs_s e1 <| fs_v i2 <| fs_s e2 <| fs_v i2 <| fs_s e3 <| fs_nil) (by kernel_rfl)), ⟨s, σ2.length, j1, k1, j2, k2, l1, l2, c1, c2, 1 + (d : Int)⟩, nm2 (by kernel_rfl) i1, nm2 (by kernel_rfl) i2, by kernel_rfl, upd_self, S3, ?_⟩
  · exact {
      bq := K3.get (by dsimp only; omega) gl_at
      b1 := K4.get (by dsimp only; omega) (K2.get (by dsimp only; omega) a1)
      b2 := K4.get (by dsimp only; omega) b1
      b3 := K4.get (by dsimp only; omega) (K2.get (by dsimp only; omega) a2)
      b4 := K4.get (by dsimp only; omega) b2
      x1 := a5, x2 := b5, y1 := a6, y2 := b6
      jj := by dsimp only; omega
      hh := ⟨by dsimp only; omega, by dsimp only; omega⟩
      nq := by dsimp only; omega
      n1 := by dsimp only; omega
      n2 := by dsimp only; omega
      n3 := by dsimp only; omega
      n4 := by dsimp only; omega }
end Mine
end
section
open PySem PySem.W PyProof.Rows PySem.Calls
set_option linter.unusedVariables false
set_option linter.unusedSimpArgs false
set_option maxRecDepth 100000
namespace Mine
variable {r : Nat → Option (List Int)} {T : Tbl} {F : Funs} {L : Loc} {σ : Sto} {n : Nat}

structure R3 (a : Nat) (P : Par) (kd jn : Bool) (L : Loc) (σ : Sto) : Prop where
  sc : L "script" = some (.lst a)
  so : L "source" = some (.obj P.s)
  li : L "lines" = some (.obj P.q)
  hf : L "half" = some (.int P.h)
  ki : L "kind" = some (kdV kd)
  jo : L "join" = some (jnV jn)
  sr : Src P.s σ
  bs : Base P σ
theorem Src.lt {s : Nat} (h : Src s σ) : s < σ.length := by obtain ⟨_, _, h, _⟩ := h; exact lt_of h
theorem law3 {a : Nat} {P : Par} (h : R2 a P L σ) : ∃ L1 σ1, (lvl (tbl r) (n + 200)).ex L σ u3.1 = some (.next, L1, σ1) ∧ ∃ kd jn, R3 a P kd jn L1 σ1 := by
  obtain ⟨i1, i2, i3, i4, i5, i6⟩ := h
  have hs := i5.lt
  obtain ⟨v1, σ1, e1, m1, K1, S1⟩ := one_c (r := r) (n := n + 137) (σ := σ ++ [.list [.str "butt", .str "square"]]) (t := σ.length) i5.app gl_at (by omega) (by intro v hv; simp only [List.mem_cons, List.not_mem_nil, or_false] at hv; rcases hv with rfl | rfl <;> rfl) (by decide) (by decide)
  have q1 := K1.1
  have q0 := S1.lt
  obtain ⟨v2, σ2, e2, m2, K2, S2⟩ := one_c (r := r) (n := n + 137) (σ := σ1 ++ [.list [.str "bevel", .str "miter"]]) (t := σ1.length) S1.app gl_at (by omega) (by intro v hv; simp only [List.mem_cons, List.not_mem_nil, or_false] at hv; rcases hv with rfl | rfl <;> rfl) (by decide) (by decide)
  rw [show n + 137 + 60 = n + 197 from rfl] at e1 e2
  obtain ⟨kd, rfl⟩ : ∃ kd, v1 = kdV kd := by
    simp only [List.mem_cons, List.not_mem_nil, or_false] at m1
    rcases m1 with rfl | rfl
    · exact ⟨false, rfl⟩
    · exact ⟨true, rfl⟩
  obtain ⟨jn, rfl⟩ : ∃ jn, v2 = jnV jn := by
    simp only [List.mem_cons, List.not_mem_nil, or_false] at m2
    rcases m2 with rfl | rfl
    · exact ⟨false, rfl⟩
    · exact ⟨true, rfl⟩
  exact ⟨upd (upd L "kind" (kdV kd)) "join" (jnV jn), σ2, (sx_ex (E := { l := [], o := L }) (E' := EX.ups { l := [], o := L } [Str.ofString "kind", Str.ofString "join"] [kdV kd, jnV jn]) (fs_v i2 <| fs_s e1 <| fs_v i2 <| fs_s e2 <| fs_nil) (by kernel_rfl)), kd, jn, nm2 (by kernel_rfl) i1, nm2 (by kernel_rfl) i2, nm2 (by kernel_rfl) i3, nm2 (by kernel_rfl) i4, by kernel_rfl, upd_self, S2, i6.keep ((Keep.app.trans K1).trans (Keep.app.trans K2))⟩

structure R4 (a : Nat) (P : Par) (kd jn : Bool) (w : Int) (y : Nat) (L : Loc) (σ : Sto) : Prop where
  sc : L "script" = some (.lst a)
  li : L "lines" = some (.obj P.q)
  hf : L "half" = some (.int P.h)
  ki : L "kind" = some (kdV kd)
  jo : L "join" = some (jnV jn)
  sy : L "style" = some (.obj y)
  bs : Base P σ
  ys : σ[y]? = some (.inst "Style" (stl w jn kd))
  wh : w.fdiv 2 = P.h
theorem law4 {a : Nat} {P : Par} {kd jn : Bool} (h : R3 a P kd jn L σ) : ∃ L1 σ1, (lvl (tbl r) (n + 200)).ex L σ u4.1 = some (.next, L1, σ1) ∧ ∃ w y, R4 a P kd jn w y L1 σ1 := by
  obtain ⟨i1, i2, i3, i4, i5, i6, i7, i8⟩ := h
  obtain ⟨d, σ1, e1, hd, K1, S1⟩ := take_c (r := r) (n := n + 156) (t := 2) i7 (by decide) (by decide)
  rw [show n + 156 + 40 = n + 196 from rfl] at e1
  have hst := fun n => style_c (r := r) (n := n) (σ := σ1) (w := 2 * P.h + (d : Int)) (jn := jn) (kd := kd)
  have e1 : callD (lvl (tbl r) (n + 196)) d_l_take.1 [.obj P.s, .int 2] σ = some (.int (d : Nat), σ1) := e1
  have b1 : -1152921504606846976 < P.h := by have := i8.hh.lo; omega
  have b2 : P.h < 1152921504606846976 := by have := i8.hh.hi; omega
  refine ⟨upd L "style" (.obj σ1.length), σ1 ++ [Ob.inst "Style" (stl (2 * P.h + (d : Int)) jn kd)], (sx_ex (E := { l := [], o := L }) (E' := EX.up { l := [], o := L } (Str.ofString "style") (V.obj (List.length σ1))) (fs_v i4 <| fs_s (@mulR σ 2 P.h b1 b2) <| fs_v i2 <| fs_s e1 <| fs_v i6 <| fs_v i5 <| fs_s (@hst (n + 168)) <| fs_nil) (by kernel_rfl)), 2 * P.h + (d : Int), σ1.length, nm1 (by kernel_rfl) i1, nm1 (by kernel_rfl) i3, nm1 (by kernel_rfl) i4, nm1 (by kernel_rfl) i5, nm1 (by kernel_rfl) i6, upd_self, i8.keep (K1.trans Keep.app), gl_at, ?_⟩
  rw [Int.fdiv_eq_ediv_of_nonneg _ (by decide)]
  omega

structure R5 (a : Nat) (P : Par) (kd jn : Bool) (w : Int) (y u d1 d2 : Nat) (L : Loc) (σ : Sto) : Prop extends R4 a P kd jn w y L σ where
  du : L "due" = some (.obj u)
  d0 : σ[u]? = some (.list [.obj d1, .obj d2])
  p1 : σ[d1]? = some (.list ((pieces P.c1 kd P.l1 P.h).map vps))
  p2 : σ[d2]? = some (.list ((pieces P.c2 kd P.l2 P.h).map vps))
theorem R4.pre {a : Nat} {P : Par} {kd jn : Bool} {w : Int} {y : Nat} {σ' : Sto} (h : R4 a P kd jn w y L σ) (k : σ'.take σ.length = σ) : R4 a P kd jn w y L σ' := { h with bs := h.bs.pre k, ys := get_take k h.ys }
theorem R5.pre {a : Nat} {P : Par} {kd jn : Bool} {w : Int} {y u d1 d2 : Nat} {σ' : Sto} (h : R5 a P kd jn w y u d1 d2 L σ) (k : σ'.take σ.length = σ) : R5 a P kd jn w y u d1 d2 L σ' := { h.toR4.pre k with du := h.du, d0 := get_take k h.d0, p1 := get_take k h.p1, p2 := get_take k h.p2 }
theorem R4.up {a : Nat} {P : Par} {kd jn : Bool} {w : Int} {y : Nat} {u : Str} {v : V} {σ' : Sto} (h : R4 a P kd jn w y L σ) (k : σ'.take σ.length = σ) (hu : [Str.ofString "script", Str.ofString "lines", Str.ofString "half", Str.ofString "kind", Str.ofString "join", Str.ofString "style"].all (fun x => (x == u) == false) = true) : R4 a P kd jn w y (upd L u v) σ' := by
  have key : ∀ x ∈ [Str.ofString "script", Str.ofString "lines", Str.ofString "half", Str.ofString "kind", Str.ofString "join", Str.ofString "style"], upd L u v x = L x := fun x hx => if_neg fun e => by
    have := List.all_eq_true.mp hu x hx
    rw [e, beq_self_eq_true] at this
    cases this
  exact { sc := (key _ (.head _)).trans h.sc, li := (key _ (.tail _ (.head _))).trans h.li, hf := (key _ (.tail _ (.tail _ (.head _)))).trans h.hf, ki := (key _ (.tail _ (.tail _ (.tail _ (.head _))))).trans h.ki, jo := (key _ (.tail _ (.tail _ (.tail _ (.tail _ (.head _)))))).trans h.jo, sy := (key _ (.tail _ (.tail _ (.tail _ (.tail _ (.tail _ (.head _))))))).trans h.sy, bs := h.bs.pre k, ys := get_take k h.ys, wh := h.wh }
theorem law5 {a : Nat} {P : Par} {kd jn : Bool} {w : Int} {y : Nat} (h : R4 a P kd jn w y L σ) : ∃ L1 σ1, (lvl (tbl r) (n + 220)).ex L σ u5.1 = some (.next, L1, σ1) ∧ ∃ u d1 d2, R5 a P kd jn w y u d1 d2 L1 σ1 := by
  have b := h.bs
  have hi2 := h.li
  have hi3 := h.hf
  have hi4 := h.ki
  have hq : ∀ {τ : Sto}, τ.take σ.length = σ → items τ (.obj P.q) = some [.obj P.j1, .obj P.j2] := fun k => items_obj (get_take k b.bq) (Nat.le_of_ble_eq_true rfl)
  obtain ⟨s0, e0⟩ : ∃ s0, s0 = σ ++ [Ob.list []] := ⟨_, rfl⟩
  have k0 : s0.take σ.length = σ := by rw [e0]; exact take_app tk0
  have g0 : s0[σ.length]? = some (.list []) := by rw [e0]; exact gl_at
  have c1 := fun n => due_c (r := r) (n := n) (σ := s0) (c := P.c1) (kd := kd) (get_take k0 b.b3) (by have := b.y1; omega) b.x1 b.hh
  obtain ⟨s1, e1⟩ : ∃ s1, s1 = (s0 ++ [Ob.list ((pieces P.c1 kd P.l1 P.h).map vps)]).set σ.length (.list [.obj s0.length]) := ⟨_, rfl⟩
  have n0 : σ.length ≠ s0.length := Nat.ne_of_lt (lt_of g0)
  have k1 : s1.take σ.length = σ := by rw [e1]; exact take_set (take_app k0) (Nat.le_refl _)
  have g1 : s1[σ.length]? = some (.list [.obj s0.length]) := by rw [e1]; exact set_self (app_l g0)
  have p1 : s1[s0.length]? = some (.list ((pieces P.c1 kd P.l1 P.h).map vps)) := by rw [e1]; exact get_set gl_at n0
  have c2 := fun n => due_c (r := r) (n := n) (σ := s1) (c := P.c2) (kd := kd) (get_take k1 b.b4) (by have := b.y2; omega) b.x2 b.hh
  have n1 : σ.length ≠ s1.length := Nat.ne_of_lt (lt_of g1)
  obtain ⟨s2, e2⟩ : ∃ s2, s2 = (s1 ++ [Ob.list ((pieces P.c2 kd P.l2 P.h).map vps)]).set σ.length (.list [.obj s0.length, .obj s1.length]) := ⟨_, rfl⟩
  have k2 : s2.take σ.length = σ := by rw [e2]; exact take_set (take_app k1) (Nat.le_refl _)
  refine ⟨_, s2, asg_comp (comp_go (w := .obj P.q) (vs := [.obj P.j1, .obj P.j2]) rfl (sx_ev (E := { l := [], o := L }) (fs_v hi2 <| fs_nil) (by kernel_rfl)) (hq tk0) (e0 ▸ cl_cons (hq k0) (e1 ▸ turn_emit (bind_two (get_take k0 b.b1) rfl) tests_nil ?_ (app_l g0) (Nat.zero_lt_succ _)) (cl_cons (hq k1) (e2 ▸ turn_emit (bind_two (get_take k1 b.b2) rfl) tests_nil ?_ (app_l g1) (Nat.le_of_ble_eq_true rfl)) (cl_nil (hq k2))))), σ.length, s0.length, s1.length, { h.up k2 (by kernel_rfl) with du := upd_self, d0 := by rw [e2]; exact set_self (app_l g1), p1 := by rw [e2]; exact get_set (app_l p1) n0, p2 := by rw [e2]; exact get_set gl_at n1 }⟩
  · exact (sx_ev (E := { l := [(Str.ofString "is_closed", V.bool P.c1), (Str.ofString "spots", V.obj P.k1)], o := hide { kind := ScopeKind.function, names := [(Str.ofString ".0", NameKind.local), (Str.ofString "spots", NameKind.local), (Str.ofString "is_closed", NameKind.local), (Str.ofString "_law_due", NameKind.globalImplicit), (Str.ofString "half", NameKind.free), (Str.ofString "kind", NameKind.free)], isGenerator := false, isCoroutine := false } L }) (fs_v hi4 <| fs_v hi3 <| fs_s (@c1 (n + 58)) <| fs_nil) (by kernel_rfl))
  · exact (sx_ev (E := { l := [(Str.ofString "is_closed", V.bool P.c2), (Str.ofString "spots", V.obj P.k2)], o := hide { kind := ScopeKind.function, names := [(Str.ofString ".0", NameKind.local), (Str.ofString "spots", NameKind.local), (Str.ofString "is_closed", NameKind.local), (Str.ofString "_law_due", NameKind.globalImplicit), (Str.ofString "half", NameKind.free), (Str.ofString "kind", NameKind.free)], isGenerator := false, isCoroutine := false } L }) (fs_v hi4 <| fs_v hi3 <| fs_s (@c2 (n + 58)) <| fs_nil) (by kernel_rfl))

end Mine
end
section
open PySem PySem.W PyProof.Rows PySem.Calls
set_option linter.unusedVariables false
set_option linter.unusedSimpArgs false
set_option maxRecDepth 100000
namespace Mine
variable {r : Nat → Option (List Int)} {T : Tbl} {F : Funs} {L : Loc} {σ : Sto} {n : Nat}

theorem R5.place {a : Nat} {P : Par} {kd jn : Bool} {w : Int} {y u d1 d2 : Nat} {v : V} (h : R5 a P kd jn w y u d1 d2 L σ) : R5 a P kd jn w y u d1 d2 (upd L "place_k" v) σ := {
  sc := nm1 (by kernel_rfl) h.sc
  li := nm1 (by kernel_rfl) h.li
  hf := nm1 (by kernel_rfl) h.hf
  ki := nm1 (by kernel_rfl) h.ki
  jo := nm1 (by kernel_rfl) h.jo
  sy := nm1 (by kernel_rfl) h.sy
  bs := h.bs, ys := h.ys, wh := h.wh
  du := nm1 (by kernel_rfl) h.du
  d0 := h.d0, p1 := h.p1, p2 := h.p2 }
theorem two_rng : items σ (.rng 0 2) = some ([0, 1].map fun (k : Nat) => V.int k) := items_rng0 (by decide) (by decide)
theorem law6 {a : Nat} {P : Par} {kd jn : Bool} {w : Int} {y u d1 d2 : Nat} (h : R5 a P kd jn w y u d1 d2 L σ) : ∃ L1 σ1, (lvl (tbl r) (n + 220)).ex L σ u6.1 = some (.next, L1, σ1) ∧ R5 a P kd jn w y u d1 d2 L1 σ1 := by
  refine ex_for (w := .rng 0 2) (σ1 := σ) (C := [0, 1]) (g := fun (k : Nat) => V.int k) (sx_ev (E := { l := [], o := L }) (fs_nil) (by kernel_rfl)) two_rng (fun _ L st => R5 a P kd jn w y u d1 d2 L st) (fun _ _ _ _ => two_rng) (fun dn p rs L st hC h => ?_) h
  refine ⟨_, rfl, ?_⟩
  have hh := h.bs.hh
  have hw : Hf (w.fdiv 2) := by rw [h.wh]; exact hh
  obtain ⟨j, k, l, c, d, f1, f2, f3, f4, f5, f6, f7, f8⟩ : ∃ j k l c d, subC (tbl r) st (.obj P.q) (.int (p : Nat)) = some (.obj j) ∧ subC (tbl r) st (.obj j) (.int 0) = some (.obj k) ∧ subC (tbl r) st (.obj j) (.int 1) = some (.bool c) ∧ st[k]? = some (.list (l.map vp)) ∧ Box l ∧ l.length ≤ 6 ∧ (∀ τ, subC (tbl r) (st ++ τ) (.obj u) (.int (p : Nat)) = some (.obj d)) ∧ st[d]? = some (.list ((pieces c kd l (w.fdiv 2)).map vps)) := by
    have hp : p = 0 ∨ p = 1 := by
      have : p ∈ [0, 1] := by rw [hC]; simp
      simpa using this
    rcases hp with rfl | rfl
    · exact ⟨P.j1, P.k1, P.l1, P.c1, d1, sub_at (j := 0) h.bs.bq rfl (by decide), sub_at (j := 0) h.bs.b1 rfl (by decide), sub_at (j := 1) h.bs.b1 rfl (by decide), h.bs.b3, h.bs.x1, h.bs.y1, fun τ => sub_at (j := 0) (app_l h.d0) rfl (by decide), by rw [h.wh]; exact h.p1⟩
    · exact ⟨P.j2, P.k2, P.l2, P.c2, d2, sub_at (j := 1) h.bs.bq rfl (by decide), sub_at (j := 0) h.bs.b2 rfl (by decide), sub_at (j := 1) h.bs.b2 rfl (by decide), h.bs.b4, h.bs.x2, h.bs.y2, fun τ => sub_at (j := 1) (app_l h.d0) rfl (by decide), by rw [h.wh]; exact h.p2⟩
  have hk := fun n => stroked_line_c (r := r) (n := n) (σ := st) (st := 3) (c := c) h.ys f5 (by omega) hw
  have hl : l.length ≤ 1000000 := by omega
  have hcm := (cmp_pcs (σ := st ++ [Ob.list ((pieces c kd l (w.fdiv 2)).map vps)]) (k := st.length) (j := d) gl_at (app_l f8)).1
  rw [decide_eq_true rfl] at hcm
  have i1 := h.li
  have i2 := h.sy
  have i3 := h.du
  refine Nx.fin (E := { l := [(Str.ofString "place_k", V.int (↑p : Int))], o := L }) (E' := { l := [(Str.ofString "place_k", V.int (↑p : Int))], o := L }) (σ' := st ++ [Ob.list (List.map vps (pieces c kd l (Int.fdiv w 2)))]) (fs_v i1 <| fs_v f1 <| fs_v f2 <| fs_v (@tupP (tbl r) st k l f4 hl) <| fs_v i1 <| fs_v f1 <| fs_v f3 <| fs_v i2 <| fs_s (@hk (n + 56)) <| fs_v i3 <| fs_v (@f7 ([Ob.list (List.map vps (pieces c kd l (Int.fdiv w 2)))])) <| fs_c hcm <| fs_b (r := false) rfl <| fs_nil) (by kernel_rfl) ?_
  exact h.place.pre (take_app tk0)

/-- the pieces as the law senses them -/
noncomputable def sensed (C : List (List Pt)) : List (Option (List Pt)) := (C.filter fun p => !decide (p = [])).map sns
theorem sensed_some {C : List (List Pt)} : (sensed C).filterMap id = C.filterMap sns := by
  unfold sensed
  induction C with
  | nil => rfl
  | cons p C ih =>
    by_cases h : p = []
    · rw [List.filter_cons_of_neg (by rw [decide_eq_true h]; decide), ih, h]; rfl
    · rw [List.filter_cons_of_pos (by rw [decide_eq_false h]; rfl), List.map_cons, List.filterMap_cons, List.filterMap_cons, ih]; rfl

structure R7 (a : Nat) (P : Par) (kd jn : Bool) (w : Int) (y v : Nat) (L : Loc) (σ : Sto) : Prop extends R4 a P kd jn w y L σ where
  pc : L "pieces" = some (.obj v)
  pv : σ[v]? = some (.list ((sensed (pieces P.c1 kd P.l1 P.h ++ pieces P.c2 kd P.l2 P.h)).map snV))
theorem law7 {a : Nat} {P : Par} {kd jn : Bool} {w : Int} {y u d1 d2 : Nat} (h : R5 a P kd jn w y u d1 d2 L σ) : ∃ L1 σ1, (lvl (tbl r) (n + 220)).ex L σ u7.1 = some (.next, L1, σ1) ∧ ∃ v, R7 a P kd jn w y v L1 σ1 := by
  have i7 := h.du
  have b := h.bs
  obtain ⟨s1, t1⟩ := pieces_sm (c := P.c1) (kd := kd) b.x1 b.hh
  obtain ⟨s2, t2⟩ := pieces_sm (c := P.c2) (kd := kd) b.x2 b.hh
  have y1 := b.y1
  have y2 := b.y2
  refine ⟨_, _, asg_comp (comp_flat (e := vps) (C1 := pieces P.c1 kd P.l1 P.h) (C2 := pieces P.c2 kd P.l2 P.h) (u := u) (d1 := d1) (d2 := d2) (fun p => !decide (p = [])) (fun p => snV (sns p)) rfl (sx_ev (E := { l := [], o := L }) (fs_v i7 <| fs_nil) (by kernel_rfl)) h.d0 h.p1 h.p2 (by omega) (by omega) (fun d l => ⟨_, rfl, ?_, fun c hc l => ⟨_, rfl, tests_one ?_, fun hne => ?_⟩⟩)), σ.length, { h.toR4.up (take_app tk0) (by kernel_rfl) with pc := upd_self, pv := by rw [gl_at]; unfold sensed; rw [List.map_map]; rfl }⟩
  · exact (sx_ev (E := { l := [(Str.ofString "some", V.obj d)], o := hide { kind := ScopeKind.function, names := [(Str.ofString ".0", NameKind.local), (Str.ofString "some", NameKind.local), (Str.ofString "piece", NameKind.local), (Str.ofString "_law_sensed", NameKind.globalImplicit)], isGenerator := false, isCoroutine := false } L }) (fs_nil) (by kernel_rfl))
  · exact (sx_tst (E := { l := [(Str.ofString "piece", vps c), (Str.ofString "some", V.obj d)], o := hide { kind := ScopeKind.function, names := [(Str.ofString ".0", NameKind.local), (Str.ofString "some", NameKind.local), (Str.ofString "piece", NameKind.local), (Str.ofString "_law_sensed", NameKind.globalImplicit)], isGenerator := false, isCoroutine := false } L }) (fs_c (@cmp_tn (σ ++ [Ob.list l]) c) <| fs_nil) (by kernel_rfl))
  · obtain ⟨m1, m2⟩ := hc.elim (s1 c) (s2 c)
    have hcs := fun n => sensed_c (r := r) (n := n) (σ := σ ++ [Ob.list l]) (l := c) (by omega) m2 (by intro e; rw [e] at hne; cases hne)
    exact (sx_ev (E := { l := [(Str.ofString "piece", vps c), (Str.ofString "some", V.obj d)], o := hide { kind := ScopeKind.function, names := [(Str.ofString ".0", NameKind.local), (Str.ofString "some", NameKind.local), (Str.ofString "piece", NameKind.local), (Str.ofString "_law_sensed", NameKind.globalImplicit)], isGenerator := false, isCoroutine := false } L }) (fs_s (@hcs (n + 158)) <| fs_nil) (by kernel_rfl))
end Mine
end
section
open PySem PySem.W PyProof.Rows PySem.Calls
set_option linter.unusedVariables false
set_option linter.unusedSimpArgs false
set_option maxRecDepth 100000
namespace Mine
variable {r : Nat → Option (List Int)} {T : Tbl} {F : Funs} {L : Loc} {σ : Sto} {n : Nat}

structure R8 (a : Nat) (P : Par) (kd jn : Bool) (w : Int) (y v t : Nat) (L : Loc) (σ : Sto) : Prop extends R7 a P kd jn w y v L σ where
  co : L "contours" = some (.obj t)
  cv : σ[t]? = some (.list ([(P.l1, P.c1), (P.l2, P.c2)].map conP))
theorem R7.pre {a : Nat} {P : Par} {kd jn : Bool} {w : Int} {y v : Nat} {σ' : Sto} (h : R7 a P kd jn w y v L σ) (k : σ'.take σ.length = σ) : R7 a P kd jn w y v L σ' := { h.toR4.pre k with pc := h.pc, pv := get_take k h.pv }
theorem R8.pre {a : Nat} {P : Par} {kd jn : Bool} {w : Int} {y v t : Nat} {σ' : Sto} (h : R8 a P kd jn w y v t L σ) (k : σ'.take σ.length = σ) : R8 a P kd jn w y v t L σ' := { h.toR7.pre k with co := h.co, cv := get_take k h.cv }
theorem law8 {a : Nat} {P : Par} {kd jn : Bool} {w : Int} {y v : Nat} (h : R7 a P kd jn w y v L σ) : ∃ L1 σ1, (lvl (tbl r) (n + 220)).ex L σ u8.1 = some (.next, L1, σ1) ∧ ∃ t, R8 a P kd jn w y v t L1 σ1 := by
  have b := h.bs
  have hi2 := h.li
  have q1 : P.l1.length ≤ 1000000 := by have := b.y1; omega
  have q2 : P.l2.length ≤ 1000000 := by have := b.y2; omega
  have hq : ∀ {τ : Sto}, τ.take σ.length = σ → items τ (.obj P.q) = some [.obj P.j1, .obj P.j2] := fun k => items_obj (get_take k b.bq) (Nat.le_of_ble_eq_true rfl)
  obtain ⟨s0, e0⟩ : ∃ s0, s0 = σ ++ [Ob.list []] := ⟨_, rfl⟩
  have k0 : s0.take σ.length = σ := by rw [e0]; exact take_app tk0
  have g0 : s0[σ.length]? = some (.list []) := by rw [e0]; exact gl_at
  obtain ⟨s1, e1⟩ : ∃ s1, s1 = s0.set σ.length (.list [con P.l1 P.c1]) := ⟨_, rfl⟩
  have k1 : s1.take σ.length = σ := by rw [e1]; exact take_set k0 (Nat.le_refl _)
  have g1 : s1[σ.length]? = some (.list [con P.l1 P.c1]) := by rw [e1]; exact set_self g0
  obtain ⟨s2, e2⟩ : ∃ s2, s2 = s1.set σ.length (.list [con P.l1 P.c1, con P.l2 P.c2]) := ⟨_, rfl⟩
  have k2 : s2.take σ.length = σ := by rw [e2]; exact take_set k1 (Nat.le_refl _)
  have f1 := get_take k0 b.b3
  have f2 := get_take k1 b.b4
  refine ⟨_, s2, asg_comp (comp_go (w := .obj P.q) (vs := [.obj P.j1, .obj P.j2]) rfl (sx_ev (E := { l := [], o := L }) (fs_v hi2 <| fs_nil) (by kernel_rfl)) (hq tk0) (e0 ▸ cl_cons (hq k0) (e1 ▸ turn_emit (bind_two (get_take k0 b.b1) rfl) tests_nil ?_ g0 (Nat.zero_lt_succ _)) (cl_cons (hq k1) (e2 ▸ turn_emit (bind_two (get_take k1 b.b2) rfl) tests_nil ?_ g1 (Nat.le_of_ble_eq_true rfl)) (cl_nil (hq k2))))), σ.length, { h.toR4.up k2 (by kernel_rfl) with pc := (nm1 (by kernel_rfl) h.pc), pv := get_take k2 h.pv, co := upd_self, cv := by rw [e2]; exact set_self g1 }⟩
  · exact (sx_ev (E := { l := [(Str.ofString "is_closed", V.bool P.c1), (Str.ofString "spots", V.obj P.k1)], o := hide { kind := ScopeKind.function, names := [(Str.ofString ".0", NameKind.local), (Str.ofString "spots", NameKind.local), (Str.ofString "is_closed", NameKind.local), (Str.ofString "tuple", NameKind.globalImplicit)], isGenerator := false, isCoroutine := false } L }) (fs_v (@tupP (tbl r) s0 P.k1 P.l1 f1 q1) <| fs_nil) (by kernel_rfl))
  · exact (sx_ev (E := { l := [(Str.ofString "is_closed", V.bool P.c2), (Str.ofString "spots", V.obj P.k2)], o := hide { kind := ScopeKind.function, names := [(Str.ofString ".0", NameKind.local), (Str.ofString "spots", NameKind.local), (Str.ofString "is_closed", NameKind.local), (Str.ofString "tuple", NameKind.globalImplicit)], isGenerator := false, isCoroutine := false } L }) (fs_v (@tupP (tbl r) s1 P.k2 P.l2 f2 q2) <| fs_nil) (by kernel_rfl))

theorem isn_o {o : Option (List Pt)} : cmpS .IsNot σ (snV o) .none = some o.isSome := by cases o <;> rfl
theorem some_drs {S : List (Option (List Pt))} : (S.filter Option.isSome).map (fun o => V.tup [snV o, .bool true]) = (S.filterMap id).map vdr := by
  induction S with
  | nil => rfl
  | cons o S ih =>
    cases o with
    | none =>
      rw [List.filter_cons_of_neg (by decide), List.filterMap_cons]
      exact ih
    | some m =>
      rw [List.filter_cons_of_pos rfl, List.map_cons, ih]
      rfl
noncomputable def ifL : Stmt → Expr
  | .If (.Compare l _ _ _) _ _ _ => l
  | _ => .Name "k" default
noncomputable def ifR : Stmt → Expr
  | .If (.Compare _ _ [r] _) _ _ _ => r
  | _ => .Name "k" default
theorem law9 {a : Nat} {P : Par} {kd jn : Bool} {w : Int} {y v t : Nat} (h : R8 a P kd jn w y v t L σ) : ∃ L1 σ1, (lvl (tbl r) (n + 224)).ex L σ u9.1 = some (.next, L1, σ1) ∧ R8 a P kd jn w y v t L1 σ1 := by
  have i6 := h.sy
  have i7 := h.pc
  have i8 := h.co
  have b := h.bs
  have y1 := b.y1
  have y2 := b.y2
  have hst := fun n => stroked_c (r := r) (n := n) (σ := σ) h.cv h.ys (by
    intro p hp
    cases hp with
    | head => exact ⟨b.x1, by dsimp only; omega⟩
    | tail _ hp => cases hp with
      | head => exact ⟨b.x2, by dsimp only; omega⟩
      | tail _ hp => cases hp) (Nat.le_of_ble_eq_true rfl) (by rw [h.wh]; exact b.hh)
  rw [h.wh] at hst
  have hdr : drawn [(P.l1, P.c1), (P.l2, P.c2)] kd P.h = (pieces P.c1 kd P.l1 P.h ++ pieces P.c2 kd P.l2 P.h).filterMap sns := by
    unfold drawn
    rw [List.flatMap_cons, List.flatMap_cons, List.flatMap_nil, List.append_nil]
  obtain ⟨s1, t1⟩ := pieces_sm (c := P.c1) (kd := kd) b.x1 b.hh
  obtain ⟨s2, t2⟩ := pieces_sm (c := P.c2) (kd := kd) b.x2 b.hh
  have hpv := h.pv
  have hlen : (sensed (pieces P.c1 kd P.l1 P.h ++ pieces P.c2 kd P.l2 P.h)).length ≤ 1000000 := by
    unfold sensed
    rw [List.length_map]
    refine Nat.le_trans (List.length_filter_le _ _) ?_
    rw [List.length_append]; omega
  rw [hdr, ← sensed_some] at hst
  generalize sensed (pieces P.c1 kd P.l1 P.h ++ pieces P.c2 kd P.l2 P.h) = S at hst hpv hlen
  have hcm := cmp_drs (σ := σ ++ [Ob.list ((S.filterMap id).map vdr)] ++ [Ob.list ((S.filterMap id).map vdr)]) (k := σ.length) (j := (σ ++ [Ob.list ((S.filterMap id).map vdr)]).length) (app_l gl_at) gl_at
  rw [decide_eq_true rfl] at hcm
  have hc : evS (tbl r) (lvl (tbl r) (n + 221)) L (σ ++ [Ob.list ((S.filterMap id).map vdr)]) (ifR u9.1) = some (.obj (σ ++ [Ob.list ((S.filterMap id).map vdr)]).length, σ ++ [Ob.list ((S.filterMap id).map vdr)] ++ [Ob.list ((S.filter Option.isSome).map fun o => V.tup [snV o, .bool true])]) := by
    refine comp_rule (C := S) (e := snV) (w := .obj v) Option.isSome (fun o => V.tup [snV o, .bool true]) rfl ?_ (fun l => items_obj (app_l (app_l hpv)) (by rw [List.length_map]; exact hlen)) (fun o ho l => ⟨_, rfl, tests_one ?_, fun _ => ?_⟩) hlen
    · exact (sx_ev (E := { l := [], o := L }) (fs_v i7 <| fs_nil) (by kernel_rfl))
    · exact (sx_tst (E := { l := [(Str.ofString "piece", snV o)], o := hide { kind := ScopeKind.function, names := [(Str.ofString ".0", NameKind.local), (Str.ofString "piece", NameKind.local)], isGenerator := false, isCoroutine := false } L }) (fs_c (@isn_o (σ ++ [Ob.list (List.map (fun (o : Option (List Pt)) ↦ V.tup [snV o, V.bool true]) (List.filter Option.isSome S))] ++ [Ob.list l]) o) <| fs_nil) (by kernel_rfl))
    · exact (sx_ev (E := { l := [(Str.ofString "piece", snV o)], o := hide { kind := ScopeKind.function, names := [(Str.ofString ".0", NameKind.local), (Str.ofString "piece", NameKind.local)], isGenerator := false, isCoroutine := false } L }) (fs_nil) (by kernel_rfl))
  rw [some_drs] at hc
  refine ⟨L, σ ++ [Ob.list ((S.filterMap id).map vdr)] ++ [Ob.list ((S.filterMap id).map vdr)], ?_, h.pre (take_app (take_app tk0))⟩
  exact sx_ex (E := { l := [], o := L }) (E' := { l := [], o := L }) (fs_v i8 <| fs_v i6 <| fs_s (@hst (n + 21)) <| fs_s hc <| fs_c hcm <| fs_b (r := false) rfl <| fs_nil) (by kernel_rfl)
theorem fdiv_low : ∀ v ∈ [V.int 1, V.int 0, V.int (-4)], ∃ w : Int, v = .int w ∧ w.fdiv 2 < 1 := by
  intro v hv
  simp only [List.mem_cons, List.not_mem_nil, or_false] at hv
  rcases hv with rfl | rfl | rfl
  · exact ⟨_, rfl, by decide⟩
  · exact ⟨_, rfl, by decide⟩
  · exact ⟨_, rfl, by decide⟩
/-- a comprehension whose test passes no value -/
theorem comp_skip {elt t it c : Expr} {a : Nat} {sc : Scope} {q : Pos} {w : V} {vs : List V} {σ1 : Sto} (I : Sto → Prop)
    (ho : overE T F L σ t it = (match F.ev L σ it with | some (v, σ1) => (items σ1 v).map fun l => (.one v, l, σ1) | none => none)) (hi : F.ev L σ it = some (w, σ1)) (hv : items σ1 w = some vs) (hI : ∀ st, I st → items st w = some vs) (h0 : I (σ1 ++ [.list []]))
    (hf : ∀ v ∈ vs, ∀ st, I st → ∃ L1 st', bindT (hide sc L) st t v = some L1 ∧ F.tst L1 st c = some (false, st') ∧ I st') : ∃ st, evS T F L σ (.ListComp elt [⟨t, it, [c], a⟩] sc q) = some (.obj σ1.length, st) ∧ I st := by
  have key : ∀ (us : List V) (st : Sto), (∀ v ∈ us, v ∈ vs) → I st → ∃ st', compL (fun σ => still σ (.one w) vs) (turnC F σ1.length elt t [c] [] (hide sc L)) us st = some st' ∧ I st' := by
    intro us
    induction us with
    | nil => exact fun st _ h => ⟨st, cl_nil (hI _ h), h⟩
    | cons v us ih =>
      intro st hu h
      obtain ⟨L1, s1, h1, h2, h3⟩ := hf v (hu v (.head _)) st h
      obtain ⟨s2, h4, h5⟩ := ih s1 (fun x hx => hu x (.tail _ hx)) h3
      exact ⟨s2, cl_cons (hI _ h) (turn_skip h1 h2) h4, h5⟩
  obtain ⟨st, h1, h2⟩ := key vs _ (fun _ h => h) h0
  exact ⟨st, comp_go ho hi hv h1, h2⟩
theorem law10 {a : Nat} {P : Par} {kd jn : Bool} {w : Int} {y v t : Nat} (h : R8 a P kd jn w y v t L σ) : ∃ L1 σ1, (lvl (tbl r) (n + 224)).ex L σ u10.1 = some (.next, L1, σ1) ∧ L1 "script" = some (.lst a) := by
  have i4 := h.ki
  have i5 := h.jo
  have i8 := h.co
  obtain ⟨s1, e1⟩ : ∃ s1, s1 = σ ++ [Ob.list [V.int 1, V.int 0, V.int (-4)]] ++ [Ob.list []] := ⟨_, rfl⟩
  have g0 : s1[σ.length]? = some (.list [V.int 1, V.int 0, V.int (-4)]) := by rw [e1]; exact app_l gl_at
  have g1 : s1[(σ ++ [Ob.list [V.int 1, V.int 0, V.int (-4)]]).length]? = some (.list []) := by rw [e1]; exact gl_at
  obtain ⟨st, hc, hk⟩ : ∃ st, evS (tbl r) (lvl (tbl r) (n + 221)) L σ (ifL u10.1) = some (.obj (σ ++ [Ob.list [V.int 1, V.int 0, V.int (-4)]]).length, st) ∧ st.take s1.length = s1 := by
    refine comp_skip (w := .obj σ.length) (vs := [V.int 1, V.int 0, V.int (-4)]) (fun st => st.take s1.length = s1) rfl ?_ (items_obj gl_at (Nat.le_of_ble_eq_true rfl)) (fun st hs => items_obj (get_take hs g0) (Nat.le_of_ble_eq_true rfl)) (e1 ▸ tk0) (fun v hv st hs => ?_)
    · exact (sx_ev (E := { l := [], o := L }) (fs_nil) (by kernel_rfl))
    · obtain ⟨w', rfl, hw'⟩ := fdiv_low v hv
      have e2 := fun n => style_c (r := r) (n := n) (σ := st) (w := w') (jn := jn) (kd := kd)
      have e3 := fun n => stroked_low (r := r) (n := n) (σ := st ++ [Ob.inst "Style" (stl w' jn kd)]) (a := t) (s := st.length) (w := w') (jn := jn) (kd := kd) gl_at hw'
      have e4 := cmp_nil (σ := st ++ [Ob.inst "Style" (stl w' jn kd)] ++ [Ob.list []] ++ [Ob.list []]) (k := (st ++ [Ob.inst "Style" (stl w' jn kd)]).length) (j := (st ++ [Ob.inst "Style" (stl w' jn kd)] ++ [Ob.list []]).length) (app_l gl_at) gl_at
      refine ⟨_, st ++ [Ob.inst "Style" (stl w' jn kd)] ++ [Ob.list []] ++ [Ob.list []], rfl, ?_, take_app (take_app (take_app hs))⟩
      exact (sx_tst (E := { l := [(Str.ofString "width", V.int w')], o := hide { kind := ScopeKind.function, names := [(Str.ofString ".0", NameKind.local), (Str.ofString "width", NameKind.local), (Str.ofString "stroked", NameKind.globalImplicit), (Str.ofString "Style", NameKind.globalImplicit), (Str.ofString "contours", NameKind.free), (Str.ofString "join", NameKind.free), (Str.ofString "kind", NameKind.free)], isGenerator := false, isCoroutine := false } L }) (fs_v i8 <| fs_v i5 <| fs_v i4 <| fs_s (@e2 (n + 188)) <| fs_s (@e3 (n + 19)) <| fs_c e4 <| fs_nil) (by kernel_rfl))
  have hcm := cmp_nil (σ := st ++ [Ob.list []]) (k := (σ ++ [Ob.list [V.int 1, V.int 0, V.int (-4)]]).length) (j := st.length) (app_l (get_take hk g1)) gl_at
  refine ⟨L, st ++ [Ob.list []], ?_, h.sc⟩
  exact sx_ex (E := { l := [], o := L }) (E' := { l := [], o := L }) (fs_s hc <| fs_c hcm <| fs_b (r := false) rfl <| fs_nil) (by kernel_rfl)
end Mine
end
section
open PySem PySem.W PyProof.Rows PySem.Calls
set_option linter.unusedVariables false
set_option linter.unusedSimpArgs false
set_option maxRecDepth 100000
namespace Mine
variable {r : Nat → Option (List Int)} {T : Tbl} {F : Funs} {L : Loc} {σ : Sto} {n : Nat}

theorem turn_c {a k : Nat} {xs : List Int} (ha : r a = some xs) (hx : xs.length ≤ 63) (hk : k ≤ 1) (h1 : L "script" = some (.lst a)) (h2 : L "k" = some (.int (k : Nat))) : Nx (lvl (tbl r) (n + 224)) L σ (forB w0.1) fun L' _ => L' "script" = some (.lst a) := by
  rw [law_turn]
  refine Nx.step (law1 (n := n + 124) ha hx hk h1 h2) fun L1 σ1 ⟨s, h1⟩ => ?_
  refine Nx.step (law2 (n := n + 24) h1) fun L2 σ2 ⟨P, h2⟩ => ?_
  refine Nx.step (law3 (n := n + 24) h2) fun L3 σ3 ⟨kd, jn, h3⟩ => ?_
  refine Nx.step (law4 (n := n + 24) h3) fun L4 σ4 ⟨w, y, h4⟩ => ?_
  refine Nx.step (law5 (n := n + 4) h4) fun L5 σ5 ⟨u, d1, d2, h5⟩ => ?_
  refine Nx.step (law6 (n := n + 4) h5) fun L6 σ6 h6 => ?_
  refine Nx.step (law7 (n := n + 4) h6) fun L7 σ7 ⟨v, h7⟩ => ?_
  refine Nx.step (law8 (n := n + 4) h7) fun L8 σ8 ⟨t, h8⟩ => ?_
  refine Nx.step (law9 (n := n) h8) fun L9 σ9 h9 => ?_
  exact Nx.step (law10 (n := n) h9) fun L10 σ10 h10 => Nx.nil h10

noncomputable def itOf : Stmt → Expr
  | .For _ it _ _ _ => it
  | _ => .Name "k" default
theorem w0_eq : ∃ q1 q2, w0.1 = .For (.Name "k" q1) (itOf w0.1) (forB w0.1) [] q2 := ⟨_, _, rfl⟩
theorem lenLst {a : Nat} {xs : List Int} (ha : r a = some xs) (hx : xs.length ≤ 63) : biC (tbl r) .len [.lst a] σ = some (.int xs.length) := by
  show (r a).bind (fun xs => if decide (xs.length ≤ most) then some (V.int xs.length) else none) = _
  rw [ha]
  exact if_pos (decide_eq_true (Nat.le_trans hx (by decide)))
theorem w0_it {a : Nat} {xs : List Int} (ha : r a = some xs) (hx : xs.length ≤ 63) (h1 : L "script" = some (.lst a)) : ∃ M : Nat, M ≤ 2 ∧ (lvl (tbl r) (n + 50)).ev L σ (itOf w0.1) = some (.rng 0 (M : Nat), σ) := by
  have hl := lenLst (σ := σ) ha hx
  obtain ⟨M, hM, e⟩ : ∃ M : Nat, M ≤ 2 ∧ (if (if (2 : Int) < xs.length then (2 : Int) else xs.length) > 1 then (if (2 : Int) < xs.length then (2 : Int) else xs.length) else 1) = M := by
    by_cases h2 : (2 : Int) < xs.length
    · exact ⟨2, by decide, by rw [if_pos h2]; rfl⟩
    · rw [if_neg h2]
      by_cases h3 : (xs.length : Int) > 1
      · exact ⟨xs.length, by omega, by rw [if_pos h3]⟩
      · exact ⟨1, by decide, by rw [if_neg h3]; rfl⟩
  refine ⟨M, hM, ?_⟩
  rw [← e]
  exact (sx_ev (E := { l := [], o := L }) (fs_v h1 <| fs_v hl <| fs_nil) (by kernel_rfl))

noncomputable def pcB : List (List Pt) := [[(0, 2), (-2, 2), (-2, -2), (0, -2)], [(9, -2), (11, -2), (11, 2), (9, 2)]]
theorem pcB_eq : (pieces false true [(0, 0), (9, 0)] ((4 : Int).fdiv 2)).drop 1 = pcB := by decide +kernel
theorem law_ret {a : Nat} {xs : List Int} (ha : r a = some xs) (hx : xs.length ≤ 63) : Ret (lvl (tbl r) (n + 225)) (bindP (d_law.1.params.args.map (·.arg)) [.lst a]) σ d_law.1.body fun v σ' => v = .bool true := by
  rw [law_body]
  have h0 : bindP (d_law.1.params.args.map (·.arg)) [.lst a] "script" = some (.lst a) := by kernel_rfl
  generalize bindP (d_law.1.params.args.map (·.arg)) [.lst a] = L at *
  refine Ret.step (fun L' _ => L' "script" = some (.lst a)) ?_ fun L1 σ1 h1 => ?_
  · obtain ⟨q1, q2, e⟩ := w0_eq
    obtain ⟨M, hM, hit⟩ := w0_it (n := n + 174) (σ := σ) ha hx h0
    rw [e]
    have hitems : ∀ σ, items σ (.rng 0 (M : Nat)) = some ((List.range M).map fun (k : Nat) => V.int k) := fun σ => items_plc (c := true) (by omega)
    exact ex_for hit (hitems _) (fun _ L _ => L "script" = some (.lst a)) (fun _ _ _ _ => hitems _) (fun dn p rs L σ hC h => by
      have hp : p < M := by
        have : p ∈ List.range M := by rw [hC]; simp
        simpa using this
      exact ⟨_, rfl, turn_c ha hx (by omega) (by simp [upd, ofString_inj, h]) upd_self⟩) h0
  · have e1 : ∀ n, mkC (tbl r) (lvl (tbl r) (n + 30)) "Style" [.int 4, .str "bevel", .str "square", .tup [.int 1, .int 1]] σ1 = some (.obj σ1.length, σ1 ++ [.inst "Style" (stl 4 false true)]) := fun n => style_c (jn := false) (kd := true)
    have e2 := fun n => stroked_line_c (r := r) (n := n) (σ := σ1 ++ [.inst "Style" (stl 4 false true)]) (s := σ1.length) (c := false) (l := [(0, 0), (9, 0)]) (st := 3) (by rw [gl0]; rfl) (by
      intro p hp
      simp only [List.mem_cons, List.not_mem_nil, or_false] at hp
      rcases hp with rfl | rfl <;> decide) (by decide) ⟨by decide, by decide⟩
    have hq := pcB_eq
    have hlen : (pieces false true [(0, 0), (9, 0)] ((4 : Int).fdiv 2)).length ≤ 1000000 := by
      have := (pieces_sm (c := false) (kd := true) (l := [(0, 0), (9, 0)]) (h := (4 : Int).fdiv 2) (by
        intro p hp
        simp only [List.mem_cons, List.not_mem_nil, or_false] at hp
        rcases hp with rfl | rfl <;> decide) ⟨by decide, by decide⟩).2
      simp only [List.length_cons, List.length_nil] at this
      omega
    generalize pieces false true [(0, 0), (9, 0)] ((4 : Int).fdiv 2) = Q at *
    have hq' : (Q.map vps).tail = pcB.map vps := by rw [← List.drop_one, ← List.map_drop, hq]
    have e3 : ∀ n, callD (lvl (tbl r) (n + 160)) d_stroked_line.1 [.tup [.tup [.tup [.int 0, .int 0], .tup [.int 9, .int 0]], .bool false], .obj σ1.length, .int 3] (σ1 ++ [.inst "Style" (stl 4 false true)]) = some (.obj (σ1 ++ [Ob.inst "Style" (stl 4 false true)]).length, σ1 ++ [Ob.inst "Style" (stl 4 false true)] ++ [Ob.list (Q.map vps)]) := e2
    have hsl : (decide ((none : Option Int) ≠ some 0) && decide ((Q.map vps).length ≤ most)) = true := by rw [List.length_map, decide_eq_true (show Q.length ≤ most from hlen)]; rfl
    have hcm := fun σ k j h h' => (cmp_pcs (P := pcB) (Q := pcB) (σ := σ) (k := k) (j := j) h h').2
    rw [decide_eq_true rfl] at hcm
    refine Ret.run_to (E := { l := [], o := L1 }) (k := 1) (E1 := EX.up { l := [], o := L1 } (Str.ofString "both_ends") (V.obj (List.length (σ1 ++ [Ob.inst (Str.ofString "Style") (stl 4 false true)] ++ [Ob.list (List.map vps Q)])))) (σ1 := σ1 ++ [Ob.inst (Str.ofString "Style") (stl 4 false true)] ++ [Ob.list (List.map vps Q)] ++ [Ob.list (sliceG (List.map vps Q) (some 1) none none)]) (fs_s (@e1 (n + 191)) <| fs_s (@e3 (n + 62)) <| fs_o (@gl_at (σ1 ++ [Ob.inst (Str.ofString "Style") (stl 4 false true)]) (Ob.list (List.map vps Q)) []) <| fs_b hsl <| fs_nil) (by kernel_rfl) ?_
    have hs2 : sliceG (Q.map vps) (some 1) none none = pcB.map vps := by rw [slice_tail, ← List.map_drop, hq]
    rw [hs2]
    refine Ret.fin (v := V.bool true) (σ' := σ1 ++ [Ob.inst (Str.ofString "Style") (stl 4 false true)] ++ [Ob.list (List.map vps Q)] ++ [Ob.list (List.map vps pcB)] ++ [Ob.list [V.tup [V.tup [V.int 0, V.int 2], V.tup [V.int (-2), V.int 2], V.tup [V.int (-2), V.int (-2)], V.tup [V.int 0, V.int (-2)]], V.tup [V.tup [V.int 9, V.int (-2)], V.tup [V.int 11, V.int (-2)], V.tup [V.int 11, V.int 2], V.tup [V.int 9, V.int 2]]]]) (fs_c (@hcm (σ1 ++ [Ob.inst (Str.ofString "Style") (stl 4 false true)] ++ [Ob.list (List.map vps Q)] ++ [Ob.list (List.map vps pcB)] ++ [Ob.list [V.tup [V.tup [V.int 0, V.int 2], V.tup [V.int (-2), V.int 2], V.tup [V.int (-2), V.int (-2)], V.tup [V.int 0, V.int (-2)]], V.tup [V.tup [V.int 9, V.int (-2)], V.tup [V.int 11, V.int (-2)], V.tup [V.int 11, V.int 2], V.tup [V.int 9, V.int 2]]]]) (List.length (σ1 ++ [Ob.inst (Str.ofString "Style") (stl 4 false true)] ++ [Ob.list (List.map vps Q)])) (List.length (σ1 ++ [Ob.inst (Str.ofString "Style") (stl 4 false true)] ++ [Ob.list (List.map vps Q)] ++ [Ob.list (List.map vps pcB)])) (app_l gl_at) gl_at) <| fs_nil) (by kernel_rfl) rfl
theorem law_answers {a : Nat} {xs : List Int} (ha : r a = some xs) (hx : xs.length ≤ 63) : ∃ σ', callD (lvl (tbl r) (n + 225)) d_law.1 [.lst a] σ = some (.bool true, σ') := by
  obtain ⟨v, σ', e, rfl⟩ := (law_ret (σ := σ) (n := n) ha hx).run
  rw [callD_run rfl e]
  unfold gc
  by_cases ht : σ'.take σ.length = σ
  · rw [if_pos ht, if_pos (show free (.bool true) = true from rfl)]; exact ⟨_, rfl⟩
  · rw [if_neg ht]; exact ⟨_, rfl⟩
end Mine
end
section
open PySem PySem.W PyProof.Rows PySem.Calls
set_option maxRecDepth 100000
namespace Mine
theorem answers : Answers := fun a xs h => law_answers (n := 0) (r := fun b => if b = a then some xs else none) (if_pos rfl) h
end Mine
end
theorem PySem.Challenge.cw_on0251_01_holds : PySem.Challenge.rw_on0251_01.Holds :=
  Mine.holds_of Mine.answers
