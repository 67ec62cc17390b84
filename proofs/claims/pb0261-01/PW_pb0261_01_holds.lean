import PyProof.Rows.All
import Wide.All
import OpenK.AllK
import Wide.FinOn
import PySem.Challenge.RW_pb0261_01
open PySem PySem.W PySem.W.X PyProof.Rows
set_option Elab.async false
set_option maxRecDepth 100000
set_option linter.all false
namespace Mine
-- part WS2

noncomputable def theBody : List Stmt := PySem.Challenge.rw_pb0261_01.prog.main.body
/-- the text that the one long statement stores -/
noncomputable def longText : Str := match theBody.drop 15 with
  | .Assign _ (.Constant (.str x) _ _) _ :: _ => x
  | _ => default

theorem road_all (lk : Look) : ∀ l : List Stmt, noRoadLSs lk l = l.all (noRoadLS lk)
  | [] => rfl
  | s :: r => congrArg (and (noRoadLS lk s)) (road_all lk r)
theorem road_asg (lk : Look) (n : PySem.Expr) (x : Str) (k : Tok) (p q : Pos) : noRoadLS lk (.Assign [n] (.Constant (.str x) k p) q) = (lk.stores [n] && (noRoadL lk n && true) && lk.str x) := rfl

theorem all_three {α : Type} (f : α → Bool) (i : Nat) (l : List α) (a : (l.take i).all f = true) (b : ((l.drop i).take 1).all f = true) (c : (l.drop (i + 1)).all f = true) : l.all f = true := by
  have e : l = l.take i ++ ((l.drop i).take 1 ++ l.drop (i + 1)) := by
    have : l.drop (i + 1) = (l.drop i).drop 1 := by rw [List.drop_drop]
    rw [this, List.take_append_drop, List.take_append_drop]
  rw [e, List.all_append, List.all_append, a, b, c]
  rfl

/-- the look at the top's statements -/
noncomputable def lk0 : Look := { strict := !(importedModules theBody).all cThrough.contains, foot := none, bare := (["vars", "dir", "locals"] : List Str).filter (readsOut PySem.Challenge.rw_pb0261_01.prog theBody) }

theorem long_word : lk0.word longText = true := by k_qdec
theorem long_road1 : (!(longText.cps.toList.any (fun c => c == 123 || c == 125))) = true := by k_qdec
theorem long_road2 : (!(longText.cps.toList.any (· == 46))) = true := by k_qdec
theorem any_list (a : Array Nat) (f : Nat → Bool) : a.any f = a.toList.any f := by rw [Array.any_toList]
theorem long_str : lk0.str longText = true := by
  have r : roadStr longText = false := by
    unfold roadStr
    have h1 := long_road1
    have h2 := long_road2
    rw [Bool.not_eq_true'] at h1 h2
    rw [any_list, any_list longText.cps (· == 46), h1, h2]
    rfl
  unfold Look.str
  rw [r, long_word, Bool.or_true]
  rfl

theorem long_is : (theBody.drop 15).take 1 = [Stmt.Assign [.Name "RESERVED" ⟨96, 0, 96, 8⟩] (.Constant (.str longText) 0 ⟨96, 11, 96, 1873⟩) ⟨96, 0, 96, 1873⟩] := rfl
theorem long_name : noRoadL lk0 (.Name "RESERVED" ⟨96, 0, 96, 8⟩) = true := by k_qdec
theorem long_stores : lk0.stores [.Name "RESERVED" ⟨96, 0, 96, 8⟩] = true := by k_qdec
theorem road_long : ((theBody.drop 15).take 1).all (noRoadLS lk0) = true := by
  rw [long_is]
  show (noRoadLS lk0 (Stmt.Assign [.Name "RESERVED" ⟨96, 0, 96, 8⟩] (.Constant (.str longText) 0 ⟨96, 11, 96, 1873⟩) ⟨96, 0, 96, 1873⟩) && true) = true
  rw [road_asg, long_stores, long_name, long_str]
  rfl
theorem road_1 : (theBody.take 15).all (noRoadLS lk0) = true := by k_qdec
theorem road_3 : (theBody.drop 16).all (noRoadLS lk0) = true := by k_qdec
theorem road_top : noRoadLSs lk0 theBody = true := by
  rw [road_all]
  exact all_three _ 15 _ road_1 road_long road_3

theorem road_topP (p : Program) (e : p = PySem.Challenge.rw_pb0261_01.row.prog) : noRoadLSs { strict := !(importedModules p.main.body).all cThrough.contains, foot := none, bare := (["vars", "dir", "locals"] : List Str).filter (readsOut p p.main.body) } p.main.body = true := by
  subst e
  exact road_top

theorem ws_top : looksOpen PySem.Challenge.rw_pb0261_01.row.prog = true := by
  unfold looksOpen
  repeat' (with_reducible refine look_both ?_ ?_)
  all_goals (first | with_reducible exact road_topP _ rfl | k_qdec | exact rfl)
theorem ws_part : PySem.Challenge.rw_pb0261_01.row.partSaid = true := by
  unfold OpenRow.partSaid
  repeat' (with_reducible refine look_both ?_ ?_)
  all_goals (first | with_reducible exact ws_top | k_qdec | exact rfl)
theorem ws_row : PySem.Challenge.rw_pb0261_01.row.wellSaid = true := by
  unfold OpenRow.wellSaid
  repeat' (with_reducible refine look_both ?_ ?_)
  all_goals (first | with_reducible exact ws_part | k_qdec | exact rfl)
theorem ws : PySem.Challenge.rw_pb0261_01.wellSaid = true := by
  unfold OpenLaw.wellSaid
  repeat' (with_reducible refine look_both ?_ ?_)
  all_goals (first | with_reducible exact ws_row | k_qdec | exact rfl)

-- part Hd12
/-- the objects of the top that stand in no written part -/
noncomputable def restL (P : Params) : List (Nat × Obj) := [
  (24, { cls := .type SL.s2766695959194262286x5, data := Data.seq #[] }),
  (25, { cls := .type SL.s11030030927630378310x26, data := Data.fields #[.builtin SL.s10062305145149207511x16, .type SL.s17162191345867700912x4] }),
  (26, { cls := .type SL.s14018661285674007319x4, data := Data.dict #[{ hash := PyData.keyHash P ⟨⟨[95, 95, 109, 111, 100, 117, 108, 101, 95, 95]⟩⟩, key := .str ⟨⟨[95, 95, 109, 111, 100, 117, 108, 101, 95, 95]⟩⟩ 211, val := .str ⟨⟨[108, 101, 100, 103, 101, 114, 115, 112, 101, 97, 107, 46, 101, 110, 118, 114, 101, 97, 100]⟩⟩ 194 }, { hash := PyData.keyHash P ⟨⟨[95, 95, 113, 117, 97, 108, 110, 97, 109, 101, 95, 95]⟩⟩, key := .str ⟨⟨[95, 95, 113, 117, 97, 108, 110, 97, 109, 101, 95, 95]⟩⟩ 213, val := .str ⟨⟨[70, 105, 108, 101, 83, 112, 101, 99]⟩⟩ 212 }, { hash := PyData.keyHash P ⟨⟨[95, 95, 102, 105, 114, 115, 116, 108, 105, 110, 101, 110, 111, 95, 95]⟩⟩, key := .str ⟨⟨[95, 95, 102, 105, 114, 115, 116, 108, 105, 110, 101, 110, 111, 95, 95]⟩⟩ 215, val := .int 7 214 }, { hash := PyData.keyHash P ⟨⟨[95, 95, 105, 110, 105, 116, 95, 95]⟩⟩, key := .str ⟨⟨[95, 95, 105, 110, 105, 116, 95, 95]⟩⟩ 223, val := .ref 37 }, { hash := PyData.keyHash P ⟨⟨[116, 111, 108, 100]⟩⟩, key := .str ⟨⟨[116, 111, 108, 100]⟩⟩ 231, val := .ref 44 }, { hash := PyData.keyHash P ⟨⟨[95, 95, 115, 116, 97, 116, 105, 99, 95, 97, 116, 116, 114, 105, 98, 117, 116, 101, 115, 95, 95]⟩⟩, key := .str ⟨⟨[95, 95, 115, 116, 97, 116, 105, 99, 95, 97, 116, 116, 114, 105, 98, 117, 116, 101, 115, 95, 95]⟩⟩ 242, val := .ref 45 }] 6 }),
  (27, { cls := .type SL.s2766695959194262286x5, data := Data.seq #[] }),
  (28, { cls := .none, data := Data.fields #[.int 9 0, .int 4 0, .ref 36, .int 21 0, .int 4 0, .ref 43] }),
  (29, { cls := .type SL.s5856160107412720595x4, data := Data.fields #[.str ⟨⟨[70, 105, 108, 101, 83, 112, 101, 99]⟩⟩ 206, .str ⟨⟨[70, 105, 108, 101, 83, 112, 101, 99]⟩⟩ 207, .str ⟨⟨[47, 99, 108, 97, 105, 109, 47, 99, 117, 116, 46, 112, 121]⟩⟩ 208, .int 7 0, .int 0 0, .int 0 0, .int 0 0, .int 0 0, .ref 27, .bool false, .int 181 0, .ref 28, .none, .none, .none, .none, .int 209 0, .int 7 0, .str ⟨⟨[47, 99, 108, 97, 105, 109, 47, 99, 117, 116, 46, 112, 121]⟩⟩ 210] }),
  (30, { cls := .type SL.s658472552662922059x5, slots := #[some (.ref 29), some (.ref 3), some (.ref 26), none, some (.str ⟨⟨[108, 101, 100, 103, 101, 114, 115, 112, 101, 97, 107, 46, 101, 110, 118, 114, 101, 97, 100]⟩⟩ 194), none, some (.ref 0)] }),
  (50, { cls := .type SL.s4290257624100764138x5, data := Data.fields #[.ref 47, .ref 47, .ref 47] }),
  (51, { cls := .type SL.s11030030927630378310x26, data := Data.fields #[.builtin SL.s4860613602091757760x24, .ref 47] }),
  (93, { cls := .type SL.s11030030927630378310x26, data := Data.fields #[.builtin SL.s10062305145149207511x16, .type SL.s17162191345867700912x4] }),
  (94, { cls := .type SL.s14018661285674007319x4, data := Data.dict #[{ hash := PyData.keyHash P ⟨⟨[95, 95, 109, 111, 100, 117, 108, 101, 95, 95]⟩⟩, key := .str ⟨⟨[95, 95, 109, 111, 100, 117, 108, 101, 95, 95]⟩⟩ 306, val := .str ⟨⟨[108, 101, 100, 103, 101, 114, 115, 112, 101, 97, 107, 46, 101, 114, 114, 111, 114, 115]⟩⟩ 297 }, { hash := PyData.keyHash P ⟨⟨[95, 95, 113, 117, 97, 108, 110, 97, 109, 101, 95, 95]⟩⟩, key := .str ⟨⟨[95, 95, 113, 117, 97, 108, 110, 97, 109, 101, 95, 95]⟩⟩ 308, val := .str ⟨⟨[76, 101, 100, 103, 101, 114, 69, 114, 114, 111, 114]⟩⟩ 307 }, { hash := PyData.keyHash P ⟨⟨[95, 95, 102, 105, 114, 115, 116, 108, 105, 110, 101, 110, 111, 95, 95]⟩⟩, key := .str ⟨⟨[95, 95, 102, 105, 114, 115, 116, 108, 105, 110, 101, 110, 111, 95, 95]⟩⟩ 310, val := .int 84 309 }, { hash := PyData.keyHash P ⟨⟨[95, 95, 105, 110, 105, 116, 95, 95]⟩⟩, key := .str ⟨⟨[95, 95, 105, 110, 105, 116, 95, 95]⟩⟩ 321, val := .ref 107 }, { hash := PyData.keyHash P ⟨⟨[116, 111, 108, 100]⟩⟩, key := .str ⟨⟨[116, 111, 108, 100]⟩⟩ 328, val := .ref 114 }, { hash := PyData.keyHash P ⟨⟨[95, 95, 115, 116, 97, 116, 105, 99, 95, 97, 116, 116, 114, 105, 98, 117, 116, 101, 115, 95, 95]⟩⟩, key := .str ⟨⟨[95, 95, 115, 116, 97, 116, 105, 99, 95, 97, 116, 116, 114, 105, 98, 117, 116, 101, 115, 95, 95]⟩⟩ 331, val := .ref 115 }] 6 }),
  (95, { cls := .type SL.s2766695959194262286x5, data := Data.seq #[] }),
  (96, { cls := .none, data := Data.fields #[.int 86 0, .int 4 0, .ref 106, .int 91 0, .int 4 0, .ref 113] }),
  (97, { cls := .type SL.s5856160107412720595x4, data := Data.fields #[.str ⟨⟨[76, 101, 100, 103, 101, 114, 69, 114, 114, 111, 114]⟩⟩ 301, .str ⟨⟨[76, 101, 100, 103, 101, 114, 69, 114, 114, 111, 114]⟩⟩ 302, .str ⟨⟨[47, 99, 108, 97, 105, 109, 47, 99, 117, 116, 46, 112, 121]⟩⟩ 303, .int 84 0, .int 0 0, .int 0 0, .int 0 0, .int 0 0, .ref 95, .bool false, .int 181 0, .ref 96, .none, .none, .none, .none, .int 304 0, .int 84 0, .str ⟨⟨[47, 99, 108, 97, 105, 109, 47, 99, 117, 116, 46, 112, 121]⟩⟩ 305] }),
  (98, { cls := .type SL.s658472552662922059x5, slots := #[some (.ref 97), some (.ref 3), some (.ref 94), none, some (.str ⟨⟨[108, 101, 100, 103, 101, 114, 115, 112, 101, 97, 107, 46, 101, 114, 114, 111, 114, 115]⟩⟩ 297), none, some (.ref 0)] }),
  (119, { cls := .type SL.s4290257624100764138x5, data := Data.fields #[.ref 117, .ref 117, .ref 117] }),
  (120, { cls := .type SL.s11030030927630378310x26, data := Data.fields #[.builtin SL.s4860613602091757760x24, .ref 117] }),
  (122, { cls := .type SL.s11030030927630378310x26, data := Data.fields #[.builtin SL.s10062305145149207511x16, .type SL.s17162191345867700912x4] }),
  (123, { cls := .type SL.s14018661285674007319x4, data := Data.dict #[{ hash := PyData.keyHash P ⟨⟨[95, 95, 109, 111, 100, 117, 108, 101, 95, 95]⟩⟩, key := .str ⟨⟨[95, 95, 109, 111, 100, 117, 108, 101, 95, 95]⟩⟩ 346, val := .str ⟨⟨[108, 101, 100, 103, 101, 114, 115, 112, 101, 97, 107, 46, 101, 114, 114, 111, 114, 115]⟩⟩ 297 }, { hash := PyData.keyHash P ⟨⟨[95, 95, 113, 117, 97, 108, 110, 97, 109, 101, 95, 95]⟩⟩, key := .str ⟨⟨[95, 95, 113, 117, 97, 108, 110, 97, 109, 101, 95, 95]⟩⟩ 348, val := .str ⟨⟨[71, 114, 97, 109, 109, 97, 114, 70, 97, 117, 108, 116]⟩⟩ 347 }, { hash := PyData.keyHash P ⟨⟨[95, 95, 102, 105, 114, 115, 116, 108, 105, 110, 101, 110, 111, 95, 95]⟩⟩, key := .str ⟨⟨[95, 95, 102, 105, 114, 115, 116, 108, 105, 110, 101, 110, 111, 95, 95]⟩⟩ 350, val := .int 93 349 }, { hash := PyData.keyHash P ⟨⟨[95, 95, 115, 116, 97, 116, 105, 99, 95, 97, 116, 116, 114, 105, 98, 117, 116, 101, 115, 95, 95]⟩⟩, key := .str ⟨⟨[95, 95, 115, 116, 97, 116, 105, 99, 95, 97, 116, 116, 114, 105, 98, 117, 116, 101, 115, 95, 95]⟩⟩ 351, val := .ref 128 }] 4 }),
  (124, { cls := .type SL.s2766695959194262286x5, data := Data.seq #[] }),
  (125, { cls := .none, data := Data.fields #[] }),
  (126, { cls := .type SL.s5856160107412720595x4, data := Data.fields #[.str ⟨⟨[71, 114, 97, 109, 109, 97, 114, 70, 97, 117, 108, 116]⟩⟩ 341, .str ⟨⟨[71, 114, 97, 109, 109, 97, 114, 70, 97, 117, 108, 116]⟩⟩ 342, .str ⟨⟨[47, 99, 108, 97, 105, 109, 47, 99, 117, 116, 46, 112, 121]⟩⟩ 343, .int 93 0, .int 0 0, .int 0 0, .int 0 0, .int 0 0, .ref 124, .bool false, .int 181 0, .ref 125, .none, .none, .none, .none, .int 344 0, .int 93 0, .str ⟨⟨[47, 99, 108, 97, 105, 109, 47, 99, 117, 116, 46, 112, 121]⟩⟩ 345] }),
  (127, { cls := .type SL.s658472552662922059x5, slots := #[some (.ref 126), some (.ref 3), some (.ref 123), none, some (.str ⟨⟨[108, 101, 100, 103, 101, 114, 115, 112, 101, 97, 107, 46, 101, 114, 114, 111, 114, 115]⟩⟩ 297), none, some (.ref 0)] }),
  (131, { cls := .type SL.s4290257624100764138x5, data := Data.fields #[.ref 130, .ref 130, .ref 130] }),
  (132, { cls := .type SL.s11030030927630378310x26, data := Data.fields #[.builtin SL.s4860613602091757760x24, .ref 130] }),
  (140, { cls := .type SL.s2766695959194262286x5, data := Data.seq #[] }),
  (141, { cls := .type SL.s11030030927630378310x26, data := Data.fields #[.builtin SL.s10062305145149207511x16, .type SL.s17162191345867700912x4] }),
  (142, { cls := .type SL.s14018661285674007319x4, data := Data.dict #[{ hash := PyData.keyHash P ⟨⟨[95, 95, 109, 111, 100, 117, 108, 101, 95, 95]⟩⟩, key := .str ⟨⟨[95, 95, 109, 111, 100, 117, 108, 101, 95, 95]⟩⟩ 373, val := .str ⟨⟨[108, 101, 100, 103, 101, 114, 115, 112, 101, 97, 107, 46, 114, 101, 97, 100, 101, 114]⟩⟩ 355 }, { hash := PyData.keyHash P ⟨⟨[95, 95, 113, 117, 97, 108, 110, 97, 109, 101, 95, 95]⟩⟩, key := .str ⟨⟨[95, 95, 113, 117, 97, 108, 110, 97, 109, 101, 95, 95]⟩⟩ 375, val := .str ⟨⟨[82, 101, 97, 100, 101, 114]⟩⟩ 374 }, { hash := PyData.keyHash P ⟨⟨[95, 95, 102, 105, 114, 115, 116, 108, 105, 110, 101, 110, 111, 95, 95]⟩⟩, key := .str ⟨⟨[95, 95, 102, 105, 114, 115, 116, 108, 105, 110, 101, 110, 111, 95, 95]⟩⟩ 377, val := .int 99 376 }, { hash := PyData.keyHash P ⟨⟨[95, 95, 105, 110, 105, 116, 95, 95]⟩⟩, key := .str ⟨⟨[95, 95, 105, 110, 105, 116, 95, 95]⟩⟩ 387, val := .ref 154 }, { hash := PyData.keyHash P ⟨⟨[112, 101, 101, 107]⟩⟩, key := .str ⟨⟨[112, 101, 101, 107]⟩⟩ 396, val := .ref 162 }, { hash := PyData.keyHash P ⟨⟨[105, 115, 95, 100, 111, 110, 101]⟩⟩, key := .str ⟨⟨[105, 115, 95, 100, 111, 110, 101]⟩⟩ 403, val := .ref 169 }, { hash := PyData.keyHash P ⟨⟨[102, 97, 117, 108, 116]⟩⟩, key := .str ⟨⟨[102, 97, 117, 108, 116]⟩⟩ 411, val := .ref 176 }, { hash := PyData.keyHash P ⟨⟨[116, 97, 107, 101]⟩⟩, key := .str ⟨⟨[116, 97, 107, 101]⟩⟩ 419, val := .ref 183 }, { hash := PyData.keyHash P ⟨⟨[105, 115, 95, 107, 105, 110, 100]⟩⟩, key := .str ⟨⟨[105, 115, 95, 107, 105, 110, 100]⟩⟩ 430, val := .ref 191 }, { hash := PyData.keyHash P ⟨⟨[105, 115, 95, 119, 111, 114, 100]⟩⟩, key := .str ⟨⟨[105, 115, 95, 119, 111, 114, 100]⟩⟩ 440, val := .ref 198 }, { hash := PyData.keyHash P ⟨⟨[115, 107, 105, 112]⟩⟩, key := .str ⟨⟨[115, 107, 105, 112]⟩⟩ 448, val := .ref 205 }, { hash := PyData.keyHash P ⟨⟨[110, 101, 101, 100]⟩⟩, key := .str ⟨⟨[110, 101, 101, 100]⟩⟩ 456, val := .ref 212 }, { hash := PyData.keyHash P ⟨⟨[111, 110, 101, 95, 111, 102]⟩⟩, key := .str ⟨⟨[111, 110, 101, 95, 111, 102]⟩⟩ 464, val := .ref 219 }, { hash := PyData.keyHash P ⟨⟨[119, 111, 114, 100]⟩⟩, key := .str ⟨⟨[119, 111, 114, 100]⟩⟩ 471, val := .ref 226 }, { hash := PyData.keyHash P ⟨⟨[105, 115, 95, 110, 97, 109, 101]⟩⟩, key := .str ⟨⟨[105, 115, 95, 110, 97, 109, 101]⟩⟩ 480, val := .ref 234 }, { hash := PyData.keyHash P ⟨⟨[110, 97, 109, 101]⟩⟩, key := .str ⟨⟨[110, 97, 109, 101]⟩⟩ 487, val := .ref 241 }, { hash := PyData.keyHash P ⟨⟨[110, 97, 109, 101, 115]⟩⟩, key := .str ⟨⟨[110, 97, 109, 101, 115]⟩⟩ 495, val := .ref 248 }, { hash := PyData.keyHash P ⟨⟨[105, 115, 95, 115, 105, 103, 110]⟩⟩, key := .str ⟨⟨[105, 115, 95, 115, 105, 103, 110]⟩⟩ 505, val := .ref 256 }, { hash := PyData.keyHash P ⟨⟨[115, 107, 105, 112, 95, 115, 105, 103, 110]⟩⟩, key := .str ⟨⟨[115, 107, 105, 112, 95, 115, 105, 103, 110]⟩⟩ 513, val := .ref 263 }, { hash := PyData.keyHash P ⟨⟨[110, 101, 101, 100, 95, 115, 105, 103, 110]⟩⟩, key := .str ⟨⟨[110, 101, 101, 100, 95, 115, 105, 103, 110]⟩⟩ 521, val := .ref 270 }, { hash := PyData.keyHash P ⟨⟨[105, 115, 95, 110, 117, 109, 98, 101, 114]⟩⟩, key := .str ⟨⟨[105, 115, 95, 110, 117, 109, 98, 101, 114]⟩⟩ 528, val := .ref 277 }, { hash := PyData.keyHash P ⟨⟨[115, 105, 103, 110, 101, 100]⟩⟩, key := .str ⟨⟨[115, 105, 103, 110, 101, 100]⟩⟩ 535, val := .ref 284 }, { hash := PyData.keyHash P ⟨⟨[119, 104, 111, 108, 101]⟩⟩, key := .str ⟨⟨[119, 104, 111, 108, 101]⟩⟩ 542, val := .ref 291 }, { hash := PyData.keyHash P ⟨⟨[108, 105, 116, 101, 114, 97, 108]⟩⟩, key := .str ⟨⟨[108, 105, 116, 101, 114, 97, 108]⟩⟩ 549, val := .ref 298 }, { hash := PyData.keyHash P ⟨⟨[111, 99, 116, 101, 116, 115]⟩⟩, key := .str ⟨⟨[111, 99, 116, 101, 116, 115]⟩⟩ 556, val := .ref 305 }, { hash := PyData.keyHash P ⟨⟨[95, 95, 115, 116, 97, 116, 105, 99, 95, 97, 116, 116, 114, 105, 98, 117, 116, 101, 115, 95, 95]⟩⟩, key := .str ⟨⟨[95, 95, 115, 116, 97, 116, 105, 99, 95, 97, 116, 116, 114, 105, 98, 117, 116, 101, 115, 95, 95]⟩⟩ 560, val := .ref 306 }] 26 }),
  (143, { cls := .type SL.s2766695959194262286x5, data := Data.seq #[] }),
  (144, { cls := .none, data := Data.fields #[.int 101 0, .int 4 0, .ref 153, .int 106 0, .int 4 0, .ref 161, .int 111 0, .int 4 0, .ref 168, .int 114 0, .int 4 0, .ref 175, .int 119 0, .int 4 0, .ref 182, .int 126 0, .int 4 0, .ref 190, .int 130 0, .int 4 0, .ref 197, .int 138 0, .int 4 0, .ref 204, .int 144 0, .int 4 0, .ref 211, .int 147 0, .int 4 0, .ref 218, .int 150 0, .int 4 0, .ref 225, .int 155 0, .int 4 0, .ref 233, .int 158 0, .int 4 0, .ref 240, .int 163 0, .int 4 0, .ref 247, .int 169 0, .int 4 0, .ref 255, .int 172 0, .int 4 0, .ref 262, .int 175 0, .int 4 0, .ref 269, .int 178 0, .int 4 0, .ref 276, .int 181 0, .int 4 0, .ref 283, .int 184 0, .int 4 0, .ref 290, .int 187 0, .int 4 0, .ref 297, .int 192 0, .int 4 0, .ref 304] }),
  (145, { cls := .type SL.s5856160107412720595x4, data := Data.fields #[.str ⟨⟨[82, 101, 97, 100, 101, 114]⟩⟩ 368, .str ⟨⟨[82, 101, 97, 100, 101, 114]⟩⟩ 369, .str ⟨⟨[47, 99, 108, 97, 105, 109, 47, 99, 117, 116, 46, 112, 121]⟩⟩ 370, .int 99 0, .int 0 0, .int 0 0, .int 0 0, .int 0 0, .ref 143, .bool false, .int 181 0, .ref 144, .none, .none, .none, .none, .int 371 0, .int 99 0, .str ⟨⟨[47, 99, 108, 97, 105, 109, 47, 99, 117, 116, 46, 112, 121]⟩⟩ 372] }),
  (146, { cls := .type SL.s658472552662922059x5, slots := #[some (.ref 145), some (.ref 3), some (.ref 142), none, some (.str ⟨⟨[108, 101, 100, 103, 101, 114, 115, 112, 101, 97, 107, 46, 114, 101, 97, 100, 101, 114]⟩⟩ 355), none, some (.ref 0)] }),
  (311, { cls := .type SL.s4290257624100764138x5, data := Data.fields #[.ref 308, .ref 308, .ref 308] }),
  (312, { cls := .type SL.s11030030927630378310x26, data := Data.fields #[.builtin SL.s4860613602091757760x24, .ref 308] }),
  (313, { cls := .type SL.s2766695959194262286x5, data := Data.seq #[] }),
  (314, { cls := .type SL.s11030030927630378310x26, data := Data.fields #[.builtin SL.s10062305145149207511x16, .type SL.s17162191345867700912x4] }),
  (315, { cls := .type SL.s14018661285674007319x4, data := Data.dict #[{ hash := PyData.keyHash P ⟨⟨[95, 95, 109, 111, 100, 117, 108, 101, 95, 95]⟩⟩, key := .str ⟨⟨[95, 95, 109, 111, 100, 117, 108, 101, 95, 95]⟩⟩ 577, val := .str ⟨⟨[108, 101, 100, 103, 101, 114, 115, 112, 101, 97, 107, 46, 116, 111, 107, 101, 110, 115]⟩⟩ 568 }, { hash := PyData.keyHash P ⟨⟨[95, 95, 113, 117, 97, 108, 110, 97, 109, 101, 95, 95]⟩⟩, key := .str ⟨⟨[95, 95, 113, 117, 97, 108, 110, 97, 109, 101, 95, 95]⟩⟩ 579, val := .str ⟨⟨[84, 111, 107, 101, 110]⟩⟩ 578 }, { hash := PyData.keyHash P ⟨⟨[95, 95, 102, 105, 114, 115, 116, 108, 105, 110, 101, 110, 111, 95, 95]⟩⟩, key := .str ⟨⟨[95, 95, 102, 105, 114, 115, 116, 108, 105, 110, 101, 110, 111, 95, 95]⟩⟩ 581, val := .int 195 580 }, { hash := PyData.keyHash P ⟨⟨[95, 95, 105, 110, 105, 116, 95, 95]⟩⟩, key := .str ⟨⟨[95, 95, 105, 110, 105, 116, 95, 95]⟩⟩ 594, val := .ref 328 }, { hash := PyData.keyHash P ⟨⟨[116, 111, 108, 100]⟩⟩, key := .str ⟨⟨[116, 111, 108, 100]⟩⟩ 601, val := .ref 335 }, { hash := PyData.keyHash P ⟨⟨[95, 95, 115, 116, 97, 116, 105, 99, 95, 97, 116, 116, 114, 105, 98, 117, 116, 101, 115, 95, 95]⟩⟩, key := .str ⟨⟨[95, 95, 115, 116, 97, 116, 105, 99, 95, 97, 116, 116, 114, 105, 98, 117, 116, 101, 115, 95, 95]⟩⟩ 606, val := .ref 336 }] 6 }),
  (316, { cls := .type SL.s2766695959194262286x5, data := Data.seq #[] }),
  (317, { cls := .none, data := Data.fields #[.int 197 0, .int 4 0, .ref 327, .int 203 0, .int 4 0, .ref 334] }),
  (318, { cls := .type SL.s5856160107412720595x4, data := Data.fields #[.str ⟨⟨[84, 111, 107, 101, 110]⟩⟩ 572, .str ⟨⟨[84, 111, 107, 101, 110]⟩⟩ 573, .str ⟨⟨[47, 99, 108, 97, 105, 109, 47, 99, 117, 116, 46, 112, 121]⟩⟩ 574, .int 195 0, .int 0 0, .int 0 0, .int 0 0, .int 0 0, .ref 316, .bool false, .int 181 0, .ref 317, .none, .none, .none, .none, .int 575 0, .int 195 0, .str ⟨⟨[47, 99, 108, 97, 105, 109, 47, 99, 117, 116, 46, 112, 121]⟩⟩ 576] }),
  (319, { cls := .type SL.s658472552662922059x5, slots := #[some (.ref 318), some (.ref 3), some (.ref 315), none, some (.str ⟨⟨[108, 101, 100, 103, 101, 114, 115, 112, 101, 97, 107, 46, 116, 111, 107, 101, 110, 115]⟩⟩ 568), none, some (.ref 0)] }),
  (341, { cls := .type SL.s4290257624100764138x5, data := Data.fields #[.ref 338, .ref 338, .ref 338] }),
  (342, { cls := .type SL.s11030030927630378310x26, data := Data.fields #[.builtin SL.s4860613602091757760x24, .ref 338] })]
noncomputable def topL (P : Params) : List Obj := [boot_o_0 P, boot_o_1 P, boot_o_2 P, boot_o_3 P, boot_o_4 P, boot_o_5 P, boot_o_6 P, boot_o_7 P, boot_o_8 P, boot_o_9 P, boot_o_10 P,
  { cls := .type SL.s2766695959194262286x5, data := Data.seq #[] },
  { cls := .none, data := Data.fields #[] },
  { cls := .type SL.s5856160107412720595x4, data := Data.fields #[.str ⟨⟨[60, 109, 111, 100, 117, 108, 101, 62]⟩⟩ 182, .str ⟨⟨[60, 109, 111, 100, 117, 108, 101, 62]⟩⟩ 183, .str ⟨⟨[47, 99, 108, 97, 105, 109, 47, 99, 117, 116, 46, 112, 121]⟩⟩ 184, .int 1 0, .int 0 0, .int 0 0, .int 0 0, .int 0 0, .ref 11, .bool false, .int 181 0, .ref 12, .none, .none, .none, .none, .int 185 0, .int 1 0, .str ⟨⟨[47, 99, 108, 97, 105, 109, 47, 99, 117, 116, 46, 112, 121]⟩⟩ 186] },
  { cls := .type SL.s658472552662922059x5, slots := #[some (.ref 13), some (.ref 3), some (.ref 3), none, some (.str ⟨⟨[95, 95, 109, 97, 105, 110, 95, 95]⟩⟩ 164), none, some (.ref 0)] }]
noncomputable def everyO (l : List Obj) : Bool → List Obj := @List.rec Obj (fun _ => Bool → List Obj) (fun _ => []) (fun x _ ih b => @Bool.rec (fun _ => List Obj) (ih true) (x :: ih false) b) l
noncomputable def treeO (n : Nat) : List Obj → BT := @Nat.rec (fun _ => List Obj → BT) (fun _ => .nil) (fun _ ih l => @List.rec Obj (fun _ => BT) .nil (fun x t _ => .node x (ih (everyO t true)) (ih (everyO t false))) l) n
noncomputable def mergeO (n : Nat) : Nat → Frag → Frag → List Obj := @Nat.rec (fun _ => Nat → Frag → Frag → List Obj) (fun _ _ _ => [])
  (fun _ ih i a b => @List.rec (Nat × Obj) (fun _ => List Obj) (b.map (·.2)) (fun x t _ => @Bool.rec (fun _ => List Obj) (@List.rec (Nat × Obj) (fun _ => List Obj) [] (fun y u _ => y.2 :: ih (i + 1) a u) b) (x.2 :: ih (i + 1) t b) (Nat.beq x.1 i)) a) n
noncomputable abbrev PR : Program := PySem.Challenge.rw_pb0261_01.row.prog
noncomputable abbrev bodyE : List Stmt := behindTheImports PR
noncomputable abbrev envE : Env := { scope := PR.main.scope, locals := mainNs, globals := mainNs, cells := [], code := .ref 13, frame := some 14 }
noncomputable abbrev cE : Code := .body bodyE envE
noncomputable abbrev posO : Pos := ⟨0, 0, 0, 0⟩
noncomputable abbrev posZ : Pos := ⟨220, 0, 245, 16⟩
noncomputable abbrev annE : Option Value := some (.ref 6)
noncomputable def TA (P : Params) : BT := treeO 8 (topL P)
noncomputable def LZ (K : Params → Frag) (P : Params) : List Obj := mergeO 393 0 (K P) (restL P)
noncomputable def TZ (K : Params → Frag) (P : Params) : BT := treeO 12 (LZ K P)
/-- the module's dict, and its lines, as they stood earlier -/
noncomputable def cutD (n : Nat) (v : Value) (o : Obj) : Obj := match o.data with
  | .dict es _ => { o with data := .dict ⟨(es.toList.take n).modify 0 fun e => { e with val := v }⟩ n }
  | _ => o
noncomputable def cutF (n : Nat) (o : Obj) : Obj := match o.data with
  | .fields es => { o with data := .fields ⟨es.toList.take n⟩ }
  | _ => o
noncomputable def cutL (n m : Nat) (v : Value) (k : Nat) (l : List Obj) : List Obj := ((l.take n).modify 3 (cutD m v)).modify 12 (cutF k)
noncomputable def treeA (K : Params → Frag) (P : Params) : BT := treeO 12 (cutL 133 21 (.str ⟨⟨[108, 101, 100, 103, 101, 114, 115, 112, 101, 97, 107, 46, 101, 114, 114, 111, 114, 115]⟩⟩ 297) 30 (LZ K P))
noncomputable def treeB (K : Params → Frag) (P : Params) : BT := treeO 12 (cutL 313 24 (.str ⟨⟨[108, 101, 100, 103, 101, 114, 115, 112, 101, 97, 107, 46, 114, 101, 97, 100, 101, 114]⟩⟩ 355) 36 (LZ K P))
noncomputable abbrev bodA : List Stmt := bodyE.take 14
noncomputable abbrev bodB : List Stmt := (bodyE.drop 14).take 4
noncomputable abbrev bodC : List Stmt := (bodyE.drop 14).drop 4
noncomputable abbrev posA : Pos := ⟨93, 0, 94, 8⟩
noncomputable abbrev posB : Pos := ⟨99, 0, 193, 16⟩
noncomputable def HZ (K : Params → Frag) (P : Params) : Heap := ⟨⟨LZ K P⟩, {}⟩

noncomputable abbrev qv : Program := { PR with main := { PR.main with body := ([0, 2, 3, 4, 5, 6, 7, 8, 9, 10, 12, 13, 15, 16, 17, 19, 21, 22, 23, 24, 25] : List Nat).filterMap fun i => PR.main.body[i]? } }
theorem pre_w (w : World) : (fun (os : OsState) => topGo treeTable PR w 11 annE 12 ⟨boot_heap w.params, #[], boot_drawn, boot_toks, os⟩ (topStub PR)) = fun os => some (⟨absHeap (TA w.params) 15 {}, #[], {}, 187, os⟩, ⟨denote treeTable cE, cE, posO, [topFrame posO]⟩) := by
  delta cE envE bodyE PR annE posO
  rw [PySem.W.Fast.te15667345088766844465, PySem.W.Fast.te14364793385576792824, PySem.W.Fast.te2368527892694137696, PySem.W.Fast.te7047069445994506646, PySem.W.Fast.te11892475500146522536]
  kernel_rfl
theorem size_w (w : World) : ((boot_heap w.params).isNs mainGlobals && (#[] : Array GenState).size == 0, (boot_heap w.params).objs.size, (boot_heap w.params).nsMap mainGlobals "__annotations__") = (true, 11, annE) := by
  kernel_rfl
theorem open_w (w : World) : (fencedOpening treeTable PR w 5096).map (fun s => (s.heap, s.gens, s.drawn, s.toks)) = some (boot_heap w.params, #[], boot_drawn, boot_toks) :=
  boot_open (by kernel_rfl) rfl (fun s => by kernel_rfl) w
/-- the walk of the head that runs the top on a tree, out of the plainer one -/
theorem walkX_of_O {q : Program} {loose : List Str} {XP : (Str → Option Value) → Heap → Prop} {K : Params → Frag} {as : List Addr} {n t : Nat} {r : RowW} {d : DefRec} {kwd : List (Str × Expr)} {run : Value → List Value → Sem Value}
    (e : ∀ P, as = (K P).map (·.1)) (h : WalkO q loose XP (fun w h => (K w.params).In h) r d kwd run) : WalkX q loose XP (obsZ as) (valZ K n t) r d kwd run := by
  intro w s₀ s₁ mg mb G y a o pm cd doc dV kV ho hd hcd hD hmg hg args vals as' L hpre hlay hrd hwl hlo
  exact h w s₀ s₁ mg mb G (InK.keeps w _ _ (z_facts e y).2.1 L.keeps) a o pm cd doc dV kV ho hd hcd hD hmg hg args vals as' hpre hlay hrd hwl hlo
section
local macro_rules | `(tactic| o_law) => `(tactic| refine holds_law ws fun said => ?_)
local macro_rules | `(tactic| refine $t) => `(tactic| (refine' $t; (case hl => exact False.elim (by assumption)); (case hw => exact False.elim (by assumption)); (case hc => exact False.elim (by assumption))))
/-- says nothing: it makes the written part of the top (hd.heap_350) known -/
theorem hd (no : False) : PySem.Challenge.rw_pb0261_01.Holds := by
  w_on
  o_law
  z_head
end
noncomputable def asK : List Addr := [0, 1, 2, 3, 4, 5, 6, 7, 8, 9, 10, 11, 12, 13, 14, 15, 16, 17, 18, 19, 20, 21, 22, 23, 31, 32, 33, 34, 35, 36, 37, 38, 39, 40, 41, 42, 43, 44, 45, 46, 47, 48, 49, 52, 53, 54, 55, 56, 57, 58, 59, 60, 61, 62, 63, 64, 65, 66, 67, 68, 69, 70, 71, 72, 73, 74, 75, 76, 77, 78, 79, 80, 81, 82, 83, 84, 85, 86, 87, 88, 89, 90, 91, 92, 99, 100, 101, 102, 103, 104, 105, 106, 107, 108, 109, 110, 111, 112, 113, 114, 115, 116, 117, 118, 121, 128, 129, 130, 133, 134, 135, 136, 137, 138, 139, 147, 148, 149, 150, 151, 152, 153, 154, 155, 156, 157, 158, 159, 160, 161, 162, 163, 164, 165, 166, 167, 168, 169, 170, 171, 172, 173, 174, 175, 176, 177, 178, 179, 180, 181, 182, 183, 184, 185, 186, 187, 188, 189, 190, 191, 192, 193, 194, 195, 196, 197, 198, 199, 200, 201, 202, 203, 204, 205, 206, 207, 208, 209, 210, 211, 212, 213, 214, 215, 216, 217, 218, 219, 220, 221, 222, 223, 224, 225, 226, 227, 228, 229, 230, 231, 232, 233, 234, 235, 236, 237, 238, 239, 240, 241, 242, 243, 244, 245, 246, 247, 248, 249, 250, 251, 252, 253, 254, 255, 256, 257, 258, 259, 260, 261, 262, 263, 264, 265, 266, 267, 268, 269, 270, 271, 272, 273, 274, 275, 276, 277, 278, 279, 280, 281, 282, 283, 284, 285, 286, 287, 288, 289, 290, 291, 292, 293, 294, 295, 296, 297, 298, 299, 300, 301, 302, 303, 304, 305, 306, 307, 308, 309, 310, 320, 321, 322, 323, 324, 325, 326, 327, 328, 329, 330, 331, 332, 333, 334, 335, 336, 337, 338, 339, 340, 343, 344, 345, 346, 347, 348, 349, 350, 351, 352, 353, 354, 355, 356, 357, 358, 359, 360, 361, 362, 363, 364, 365, 366, 367, 368, 369, 370, 371, 372, 373, 374, 375, 376, 377, 378, 379, 380, 381, 382, 383, 384, 385, 386, 387, 388, 389, 390, 391, 392]
noncomputable abbrev looseK : List Str := [Str.ofString "LedgerError", Str.ofString "Token"]
theorem run_a (w : World) : (fun (os : OsState) => segRunT treeTable PR w 11 annE 1 993 ⟨TA w.params, 15, {}, #[], {}, 187, os⟩ (piecesOf bodA envE cE posO [topFrame posO])) = fun os => some (.next, ⟨treeA hd.heap_350 w.params, 133, {}, #[], {}, 355, os⟩, cE, posA) := by
  delta cE envE bodA bodB bodC bodyE PR annE posO posZ posA posB
  rw [PySem.W.Fast.te10110043849684766642, PySem.W.Fast.te14364793385576792824, PySem.W.Fast.te2368527892694137696, PySem.W.Fast.te7047069445994506646]
  kernel_rfl
theorem run_b (w : World) : (fun (os : OsState) => segRunT treeTable PR w 11 annE 1 952 ⟨treeA hd.heap_350 w.params, 133, {}, #[], {}, 355, os⟩ (piecesOf bodB envE cE posA [topFrame posO])) = fun os => some (.next, ⟨treeB hd.heap_350 w.params, 313, {}, #[], {}, 568, os⟩, cE, posB) := by
  delta cE envE bodA bodB bodC bodyE PR annE posO posZ posA posB
  rw [PySem.W.Fast.te10110043849684766642, PySem.W.Fast.te14364793385576792824, PySem.W.Fast.te2368527892694137696, PySem.W.Fast.te7047069445994506646]
  kernel_rfl
theorem run_c (w : World) : (fun (os : OsState) => segRunT treeTable PR w 11 annE 1 543 ⟨treeB hd.heap_350 w.params, 313, {}, #[], {}, 568, os⟩ (piecesOf bodC envE cE posB [topFrame posO])) = fun os => some (.next, ⟨TZ hd.heap_350 w.params, 393, {}, #[], {}, 736, os⟩, cE, posZ) := by
  delta cE envE bodA bodB bodC bodyE PR annE posO posZ posA posB
  rw [PySem.W.Fast.te10110043849684766642, PySem.W.Fast.te14364793385576792824, PySem.W.Fast.te2368527892694137696, PySem.W.Fast.te7047069445994506646]
  kernel_rfl
theorem fin_w (w : World) : (fun (os : OsState) => topRun treeTable PR w 11 annE 2 ⟨absHeap (TZ hd.heap_350 w.params) 393 {}, #[], {}, 736, os⟩ ⟨doneF .next, cE, posZ, [topFrame posO]⟩) = fun os => some ⟨HZ hd.heap_350 w.params, #[], {}, 736, os⟩ := by
  delta cE envE bodyE PR annE posO posZ
  rw [PySem.W.Fast.te14082659384304107361, PySem.W.Fast.te14364793385576792824, PySem.W.Fast.te2368527892694137696, PySem.W.Fast.te7047069445994506646]
  kernel_rfl
theorem body_cut : bodA ++ (bodB ++ (bodC ++ [])) = bodyE := by
  rw [List.append_nil]
  show bodyE.take 14 ++ ((bodyE.drop 14).take 4 ++ (bodyE.drop 14).drop 4) = bodyE
  rw [List.take_append_drop, List.take_append_drop]
theorem top_w (w : World) (os : OsState) : topRun treeTable PR w 11 annE (12 + (1 + (993 + (952 + (543 + 2))))) ⟨boot_heap w.params, #[], boot_drawn, boot_toks, os⟩ (topStub PR) = some ⟨HZ hd.heap_350 w.params, #[], {}, 736, os⟩ := by
  have h3 := piece_app (rest := []) (segRun_of (congrFun (run_c w) os)) (congrFun (fin_w w) os)
  have h2 := piece_app (segRun_of (congrFun (run_b w) os)) h3
  have h1 := piece_app (segRun_of (congrFun (run_a w) os)) h2
  rw [body_cut] at h1
  exact go_top (congrFun (pre_w w) os) (piece_block rfl h1)
theorem look_a (w : World) : (fun (os : OsState) => (staticsOk (importedModules PR.main.body) (boot_heap w.params) (HZ hd.heap_350 w.params) && namesBound PR (HZ hd.heap_350 w.params) && gensDone ⟨HZ hd.heap_350 w.params, #[], {}, 736, os⟩ && laidKept (boot_heap w.params) (HZ hd.heap_350 w.params))) = fun _ => true := by
  delta PR
  rw [PySem.W.Fast.te5923862056798008813, PySem.W.Fast.te2368527892694137696, PySem.W.Fast.te7047069445994506646]
  kernel_rfl
theorem look_b (w : World) : (fun (os : OsState) => openSeen qv looseK (importedModules PR.main.body) (fun s => xlAt qv [] s && recOk PySem.Challenge.rw_pb0261_01.row.records s) true ⟨HZ hd.heap_350 w.params, #[], {}, 736, os⟩) = fun _ => openGood qv looseK := by
  delta qv PR looseK
  rw [PySem.W.Fast.te4187177175401517315, PySem.W.Fast.te5923862056798008813, PySem.W.Fast.te2368527892694137696, PySem.W.Fast.te7047069445994506646]
  kernel_rfl
theorem look_c (w : World) : (fun (os : OsState) => obsZ asK ⟨HZ hd.heap_350 w.params, #[], {}, 736, os⟩) = fun _ => valZ hd.heap_350 393 736 w := by
  kernel_rfl
theorem left_v : LeftO PR qv looseK (fun s => xlAt qv [] s && recOk PySem.Challenge.rw_pb0261_01.row.records s) (obsZ asK) (valZ hd.heap_350 393 736) 5096 := by
  refine LeftO.of_pieces open_w size_w top_w rfl fun w => ?_
  exact funext fun os => looks_pair (congrFun (look_a w) os) (looks_pair (congrFun (look_b w) os) (congrFun (look_c w) os))
theorem view_w : hd.view_732 = qv := by kernel_rfl
theorem left_k : LeftO PR hd.view_732 looseK (fun s => xlAt hd.view_732 [] s && recOk PySem.Challenge.rw_pb0261_01.row.records s) (obsZ asK) (valZ hd.heap_350 393 736) 5096 := by
  rw [view_w]
  exact left_v
section
local macro_rules | `(tactic| o_law) => `(tactic| refine holds_law ws fun said => ?_)
local macro_rules | `(tactic| k_head) => `(tactic| refine holds_openX (q := hd.view_732) (loose := looseK) (Xt := fun s => xlAt hd.view_732 [] s && recOk PySem.Challenge.rw_pb0261_01.row.records s) (XP := XL hd.view_732 []) (Yf := obsZ asK) (Ya := valZ hd.heap_350 393 736) (N := 5096) left_k (fun s e => xl_of s (Bool.and_eq_true_iff.mp e).1) XL.keeps (by rfl) (by rfl) (by rfl) (fun s e => recFacts_of (Bool.and_eq_true_iff.mp e).2) (by rfl) (by first | assumption | decide +kernel) (by decide +kernel) ⟨rfl, rfl, rfl, rfl, rfl, by decide +kernel⟩ ?hw ?hc)
set_option maxHeartbeats 2000000 in
open_top hd9 for PySem.Challenge.rw_pb0261_01
end

theorem fill_k : (fun (_ : Params → Frag) => PySem.Challenge.rw_pb0261_01.foot = 5) hd.heap_350 := by
  k_fill
  rfl
local macro_rules | `(tactic| walk_at $s:str) => `(tactic| k_extra $s)
local macro_rules | `(tactic| k_mem) => `(tactic| k_extra "k_mem")
local macro_rules | `(tactic| k_all) => `(tactic| k_extra "k_all")
local macro_rules | `(tactic| k_ne) => `(tactic| k_extra "k_ne")
local macro_rules | `(tactic| k_in) => `(tactic| k_extra "k_in")
local macro_rules | `(tactic| cell_enter) => `(tactic| k_extra "cell_enter")
-- part C1
-- the written part is made known to the walk

noncomputable abbrev ent (w : World) (n : Str) (k : Tok) (v : Value) : DictEntry := ⟨PyData.keyHash w.params n, .str n k, v⟩
noncomputable abbrev rdObj (w : World) (l dn : Addr) (k1 k2 k3 : Tok) (i : Int) (t : Tok) : Obj :=
  dictOf [ent w "tokens" k1 (.ref l), ent w "at" k2 (.int i t), ent w "named" k3 (.ref dn)] 3

noncomputable abbrev Claim (w : World) (deep : Nat) (f : Addr) (vs : List Value) (news : List (Addr × Obj))
    (ends : (Heap → Addr → (Str → Option Value) → Shared → (Value → Shared → Prop) → (Value → Shared → Prop) → Prop)) : Prop :=
  ∀ {prog p : Program} {loose : List Str} {mean : ExcName → Option Value} {mg mb : Str → Option Value} {dp un : Nat} {gd : Option (List Code)} {cn : Str} {cs : Scope} {a : Addr} {ccd : Value} {cl : List (Str × Addr)} {outer : List Env} {A₀ : Around} {base h₀ : Heap} {L : Addr} {m : Str → Option Value} {s : Shared} {Q E : Value → Shared → Prop},
    Below A₀ base outer h₀ → Fr h₀ L s.heap m → (hd.heap_350 w.params).In h₀ → News h₀ L s.heap news → Top p loose mean mg mb h₀ → cs.kind = .function → dp + deep < recursionLimit → un + 8 * deep < cLine →
    ends h₀ L m s Q E →
      wpAny (model prog w) (ktrTop dp un gd cn cs L a ccd cl outer) (call (.ref f) vs) Q E s

theorem nm_len : (⟨⟨[108, 101, 110]⟩⟩ : Str) = Str.ofString "len" := by decide +kernel
theorem nm_min : (⟨⟨[109, 105, 110]⟩⟩ : Str) = Str.ofString "min" := by decide +kernel
theorem nm_range : (⟨⟨[114, 97, 110, 103, 101]⟩⟩ : Str) = Str.ofString "range" := by decide +kernel
theorem nm_tuple : (⟨⟨[116, 117, 112, 108, 101]⟩⟩ : Str) = Str.ofString "tuple" := by decide +kernel
theorem nm_split : (⟨⟨[115, 112, 108, 105, 116]⟩⟩ : Str) = Str.ofString "split" := by decide +kernel
theorem nm_lower : (⟨⟨[108, 111, 119, 101, 114]⟩⟩ : Str) = Str.ofString "lower" := by decide +kernel
theorem nm_append : (⟨⟨[97, 112, 112, 101, 110, 100]⟩⟩ : Str) = Str.ofString "append" := by decide +kernel
theorem nm_Exception : (⟨⟨[69, 120, 99, 101, 112, 116, 105, 111, 110]⟩⟩ : Str) = Str.ofString "Exception" := by decide +kernel
theorem nm_init : (⟨⟨[95, 95, 105, 110, 105, 116, 95, 95]⟩⟩ : Str) = Str.ofString "__init__" := by decide +kernel


theorem said_1 : True := by
  k_with "cell_enter" => (refine' code_def ?k1q7 ?k2q7 ?k3q7 ?k4q7 ?k5q7 ?kAq7 ?kFq7 ?kKq7 ?k6q7 ?k7q7 ?k8q7 ?k9q7 ?kBq7 ?_ ?c2q7 ?c3q7 ?c4q7 ?c5q7; (case kAq7 => exact rfl); (case kFq7 => exact rfl); (case kKq7 => assumption); (case k1q7 => k_asm); (case k2q7 => k_asm); (case k3q7 => k_asm); (case k4q7 => k_asm); (case k5q7 => k_asm); (case k6q7 => k_is); (case k7q7 => k_is); (case k8q7 => ktr_room); (case k9q7 => first | exact BindsTo.of_eq rfl | exact binds_K (by k_in) rfl (by k_is) rfl rfl rfl); (case c5q7 => decide); (case kBq7 => exact locs rfl); (case c2q7 => exact rfl); (case c3q7 => exact rfl); (case c4q7 => exact rfl); k_whole; intro g' L' h' FG' F' N' B' X' T'; (try dsimp only); (try simp only [nm_len, nm_min, nm_range, nm_tuple, nm_split, nm_lower, nm_append, nm_Exception, nm_init]); (try k_lift B'); (try k_fold))
  k_with "k_mem" => (first | assumption | exact List.Mem.head _ | (refine' List.Mem.tail _ ?_; k_extra "k_mem"))
  trivial
section
variable {prog : Program} {w : World} {A : Around} {E : Value → Shared → Prop} {s : Shared} {h₀ : Heap} {L : Addr} {news : List (Addr × Obj)}
theorem len_xs {l : Addr} {xs : List Addr} {nl : Nat} {Q : Value → Shared → Prop} (N : News h₀ L s.heap news) (hm : (l, W.listOf (xs.map Value.ref).toArray nl) ∈ news) (hn : xs.length ≤ 1000)
    (h : Q (.int xs.length (s.toks + 1)) { s with toks := s.toks + 1 + 1 }) : wpAny (model prog w) A (call (.builtin "len") [.ref l]) Q E s := by
  refine len_list (News.isList N hm) (by simp; omega) ?_
  simpa using h
theorem item_xs {value slice : PySem.Expr} {l : Addr} {xs : List Addr} {nl : Nat} {k : Int} {u : Tok} {Q : Value → Shared → Prop} (N : News h₀ L s.heap news) (hm : (l, W.listOf (xs.map Value.ref).toArray nl) ∈ news)
    (h0 : 0 ≤ k) (h1 : k < xs.length) (hn : xs.length ≤ 1000) (h : Q (.ref (xs.getD k.toNat 0)) s)
    (hs : subscripted slice false (.ref l) (.int k u) = operate [.ref l, .int k u] (getItem (.ref l) (.int k u)) := by with_unfolding_all rfl) :
    wpAny (model prog w) A (subscriptTail value slice (.ref l) (.int k u)) Q E s := by
  have hl := News.isList N hm
  refine tail_any hl.typeIs slot_list_getitem.lookup (wpAny_getItem_list hl h0 (by omega) (x := .ref (xs.getD k.toNat 0)) ?_ h) hs
  have : k.toNat < xs.length := by omega
  simp [this]
end


theorem said_2 : True := by
  k_with "call builtin:len" => (k_here; (with_reducible show wpAny _ _ (call (Value.builtin "len") [Value.ref _]) _ _ _); k_dflt (refine' len_xs ?k1q7 ?k2q7 ?k3q7 ?_; (case k1q7 => k_asm); (case k2q7 => k_mem); (case k3q7 => assumption); k_whole))
  k_with "subscriptTail" => (k_here; (with_reducible show wpAny _ _ (subscriptTail _ _ (Value.ref _) (Value.int _ _)) _ _ _); (with_unfolding_all refine' item_xs ?k1q7 ?k2q7 ?k3q7 ?k4q7 ?k5q7 ?_ ?k6q7; (case k1q7 => k_asm); (case k2q7 => k_mem); (case k3q7 => omega); (case k4q7 => omega); (case k5q7 => assumption); (case k6q7 => with_unfolding_all rfl); k_whole))
  trivial
/-- a token: its kind and its worth -/
noncomputable abbrev TD := Str × Str
noncomputable abbrev tkObj (w : World) (d : TD) (p : Addr) (k1 k2 k3 k4 t1 t2 : Tok) : Obj :=
  dictOf [ent w "kind" k1 (.str d.1 t1), ent w "worth" k2 (.str d.2 t2), ent w "at" k3 (.ref p), ent w "is_in_a" k4 (.bool false)] 4
noncomputable abbrev atObj (i : Nat) (t3 t4 : Tok) : Obj := { cls := .type "tuple", data := .seq #[.int ((i : Int) + 1) t3, .int 12 t4] }
/-- the ledger bears the i-th token of a text at x -/
noncomputable def TokAt (w : World) (news : List (Addr × Obj)) (x : Addr) (d : TD) (i : Nat) : Prop :=
  ∃ (dx p : Addr) (k1 k2 k3 k4 t1 t2 t3 t4 : Tok), (x, instObj 338 dx) ∈ news ∧
    (dx, tkObj w d p k1 k2 k3 k4 t1 t2) ∈ news ∧ (p, atObj i t3 t4) ∈ news
/-- and the whole text -/
structure ToksIn (w : World) (news : List (Addr × Obj)) (r l dn dr : Addr) (nl : Nat) (xs : List Addr) (ds : List TD) : Prop where
  inst : (r, instObj 308 dr) ∈ news
  list : (l, W.listOf (xs.map Value.ref).toArray nl) ∈ news
  len : xs.length = ds.length
  few : xs.length ≤ 1000
  short : ∀ (i : Nat) (d : TD), ds[i]? = some d → d.2.length ≤ 1000
  toks : ∀ (i : Nat) (x : Addr) (d : TD), xs[i]? = some x → ds[i]? = some d → TokAt w news x d i
theorem TokAt.mono {w : World} {news news' : List (Addr × Obj)} {x : Addr} {d : TD} {i : Nat} (h : TokAt w news x d i) (hs : ∀ p ∈ news, p ∈ news') : TokAt w news' x d i := by
  obtain ⟨dx, p, k1, k2, k3, k4, t1, t2, t3, t4, a, b, c⟩ := h
  exact ⟨dx, p, k1, k2, k3, k4, t1, t2, t3, t4, hs _ a, hs _ b, hs _ c⟩
theorem ToksIn.mono {w : World} {news news' : List (Addr × Obj)} {r l dn dr : Addr} {nl : Nat} {xs : List Addr} {ds : List TD} (h : ToksIn w news r l dn dr nl xs ds) (hs : ∀ p ∈ news, p ∈ news') : ToksIn w news' r l dn dr nl xs ds :=
  ⟨hs _ h.inst, hs _ h.list, h.len, h.few, h.short, fun i x d a b => (h.toks i x d a b).mono hs⟩
theorem nt {h₀ h : Heap} {L : Addr} {p : Addr × Obj} {news : List (Addr × Obj)} (N : News h₀ L h (p :: news)) : News h₀ L h news := fun q hq => N q (.tail _ hq)
theorem endV {Q : Value → Shared → Prop} {v v' : Value} {s' : Shared} (h : Q v s') (e : v' = v) : Q v' s' := e ▸ h


/-- what a call that only reads asks of the ledger -/
structure RdIn (w : World) (news : List (Addr × Obj)) (r l dn dr : Addr) (nl : Nat) (k1 k2 k3 : Tok) (i : Nat) (t : Tok) (xs : List Addr) (ds : List TD) : Prop extends ToksIn w news r l dn dr nl xs ds where
  dict : (dr, rdObj w l dn k1 k2 k3 i t) ∈ news
  at_ : i ≤ 1000
theorem RdIn.mono {w : World} {news news' : List (Addr × Obj)} {r l dn dr : Addr} {nl : Nat} {k1 k2 k3 : Tok} {i : Nat} {t : Tok} {xs : List Addr} {ds : List TD} (h : RdIn w news r l dn dr nl k1 k2 k3 i t xs ds) (hs : ∀ p ∈ news, p ∈ news') :
    RdIn w news' r l dn dr nl k1 k2 k3 i t xs ds := ⟨h.toToksIn.mono hs, hs _ h.dict, h.at_⟩

theorem RdIn.cons {w : World} {news : List (Addr × Obj)} {p : Addr × Obj} {r l dn dr : Addr} {nl : Nat} {k1 k2 k3 : Tok} {i : Nat} {t : Tok} {xs : List Addr} {ds : List TD} (h : RdIn w news r l dn dr nl k1 k2 k3 i t xs ds) :
    RdIn w (p :: news) r l dn dr nl k1 k2 k3 i t xs ds := h.mono fun _ hp => .tail _ hp

variable {w : World} {r dr l dn : Addr} {k1 k2 k3 : Tok} {i : Nat} {t : Tok} {xs : List Addr} {ds : List TD} {nl : Nat} {news : List (Addr × Obj)}

set_option maxHeartbeats 4000000 in
theorem peek_spec {k : Int} {tk : Tok} (hT : RdIn w news r l dn dr nl k1 k2 k3 i t xs ds) (hk : 0 ≤ k ∧ k ≤ 1000) :
    Claim w 2 162 [.ref r, .int k tk] news
      (fun h₀ L m s Q _ => (∀ x d dx p q1 q2 q3 q4 u1 u2 u3 u4 h' tk', ds[i + k.toNat]? = some d → (x, instObj 338 dx) ∈ news → (dx, tkObj w d p q1 q2 q3 q4 u1 u2) ∈ news → (p, atObj (i + k.toNat) u3 u4) ∈ news → Fr h₀ L h' m → News h₀ L h' news → Q (.ref x) { s with heap := h', toks := tk' }) ∧
        ∀ h' tk', ds[i + k.toNat]? = none → Fr h₀ L h' m → News h₀ L h' news → Q .none { s with heap := h', toks := tk' }) := by
  intro prog p loose mean mg mb dp un gd cn cs a ccd cl outer A₀ base h₀ L m s Q E hB hF hX hN hTop hcs hd hu hret
  have hr := hT.inst
  have hl := hT.list
  have hlen := hT.len
  have hn := hT.few
  have htoks := hT.toks
  have hdict := hT.dict
  have hi := hT.at_
  clear hT
  refine wpAny_call ?_
  k_dflt cell_enter
  k_steps
  · rename_i hlt _ _ _ _ _
    have hj : ((i : Int) + k).toNat = i + k.toNat := by omega
    have hx : i + k.toNat < xs.length := by omega
    rw [hj]
    have e1 : xs[i + k.toNat]? = some (xs.getD (i + k.toNat) 0) := by simp [hx]
    have e2 : ds[i + k.toNat]? = some (ds[i + k.toNat]'(by omega)) := by simp [← hlen, hx]
    obtain ⟨dx, p, q1, q2, q3, q4, u1, u2, u3, u4, a1, a2, a3⟩ := htoks _ _ _ e1 e2
    exact hret.1 _ _ _ _ _ _ _ _ _ _ _ _ _ _ e2 a1 a2 a3 (by assumption) (by assumption)
  · have hx : ¬ i + k.toNat < xs.length := by omega
    exact hret.2 _ _ (by simp [← hlen]; omega) (by assumption) (by assumption)

noncomputable def kindB (ds : List TD) (j : Nat) (kind : Str) : Bool := match ds[j]? with
  | some d => d.1 == kind
  | none => false



theorem said_3 : True := by
  k_with "call ref" => (k_here; (with_reducible show wpAny _ _ (call (Value.ref 162) [_, Value.int _ _]) _ _ _); k_dflt (refine' peek_spec ?Tq7 ?kq7 ?Bq7 ?Fq7 ?Xq7 ?Nq7 ?Pq7 ?Cq7 ?Dq7 ?Uq7 ⟨fun x' d' dx' p' _ _ _ _ _ _ _ _ h' tk' hds tm1 tm2 tm3 F' N' => ?_, fun h' tk' hds F' N' => ?_⟩; (case Nq7 => k_asm); (case Tq7 => first | assumption | exact RdIn.cons (by assumption) | exact RdIn.cons (RdIn.cons (by assumption)) | exact RdIn.cons (RdIn.cons (RdIn.cons (by assumption)))); (case kq7 => omega); (case Bq7 => k_asm); (case Fq7 => k_asm); (case Xq7 => k_asm); (case Pq7 => k_asm); (case Cq7 => first | exact rfl | assumption); (case Dq7 => ktr_room); (case Uq7 => ktr_units)); skip)
  trivial
set_option maxHeartbeats 4000000 in
theorem is_kind_spec {k : Int} {tk : Tok} {kind : Str} {tk2 : Tok} (hT : RdIn w news r l dn dr nl k1 k2 k3 i t xs ds) (hk : 0 ≤ k ∧ k ≤ 1000) :
    Claim w 4 191 [.ref r, .str kind tk2, .int k tk] news
      (fun h₀ L m s Q _ => ∀ h' tk', Fr h₀ L h' m → News h₀ L h' news → Q (.bool (kindB ds (i + k.toNat) kind)) { s with heap := h', toks := tk' }) := by
  intro prog p loose mean mg mb dp un gd cn cs a ccd cl outer A₀ base h₀ L m s Q E hB hF hX hN hTop hcs hd hu hret
  have hr := hT.inst
  have hdict := hT.dict
  refine wpAny_call ?_
  k_dflt cell_enter
  k_steps
  all_goals exact endV (hret _ _ (by assumption) (by assumption)) (by simp only [kindB, *])

set_option maxHeartbeats 4000000 in
theorem is_kind_spec2 {kind : Str} {tk2 : Tok} (hT : RdIn w news r l dn dr nl k1 k2 k3 i t xs ds) :
    Claim w 4 191 [.ref r, .str kind tk2] news
      (fun h₀ L m s Q _ => ∀ h' tk', Fr h₀ L h' m → News h₀ L h' news → Q (.bool (kindB ds i kind)) { s with heap := h', toks := tk' }) := by
  intro prog p loose mean mg mb dp un gd cn cs a ccd cl outer A₀ base h₀ L m s Q E hB hF hX hN hTop hcs hd hu hret
  have hr := hT.inst
  have hdict := hT.dict
  refine wpAny_call ?_
  k_dflt cell_enter
  k_steps
  all_goals exact endV (hret _ _ (by assumption) (by assumption)) (by simp_all [kindB])

-- part C2
theorem said_4 : True := by
  k_with "call ref" => (k_here; (with_reducible show wpAny _ _ (call (Value.ref 191) [_, _, Value.int _ _]) _ _ _); k_dflt (refine' is_kind_spec ?Tq7 ?kq7 ?Bq7 ?Fq7 ?Xq7 ?Nq7 ?Pq7 ?Cq7 ?Dq7 ?Uq7 (fun h' tk' F' N' => ?_); (case Nq7 => k_asm); (case Tq7 => first | assumption | exact RdIn.cons (by assumption) | exact RdIn.cons (RdIn.cons (by assumption)) | exact RdIn.cons (RdIn.cons (RdIn.cons (by assumption)))); (case kq7 => omega); (case Bq7 => k_asm); (case Fq7 => k_asm); (case Xq7 => k_asm); (case Pq7 => k_asm); (case Cq7 => first | exact rfl | assumption); (case Dq7 => ktr_room); (case Uq7 => ktr_units)))
  k_with "call builtin:str.split" => (k_here; (rename (PySem.Txt.split _ _ = _) => hs9); k_dflt (refine' KSpl.split1 ?aq7 ?bq7 ?cq7 ?_ ?zq7; (case aq7 => k_asm); (case bq7 => k_asm); (case cq7 => decide); (case zq7 => assumption)); intro D' l' h' k' e' a' F' N' l1; (try k_lt l1); (have e2' := e'.trans hs9); kspl_open e2'; (simp only [strValues, List.map_cons, List.map_nil] at N' a'))
  trivial
theorem off_of_lt {I : Addr} {l : List (Addr × Obj)} (h : ∀ p ∈ l, p.1 < I) : ∀ p ∈ l, p.1 ≠ I := fun p hp => Nat.ne_of_lt (h p hp)
theorem said_5 : True := by
  k_with "pyIter ref" => ((with_reducible show wpAny _ _ (pyIter (Value.ref _)) (fun it s₂ => LoopAtV _ _ _ _ _ _ _ _ _ it s₂) _ _); (rename Fr _ _ _ _ => lF'); (rename News _ _ _ _ => lN'); (with_unfolding_all refine' iter_listUnr ?aq7 lF' lN' ?mq7 ?cq7 ?dq7 ?_; (case aq7 => rfl); (case mq7 => k_mem); (case cq7 => rfl); (case dq7 => rfl)); clear lF'; intro i' l1)
  k_with "UnrEnd" => (refine UnrEnd.intro (by assumption) (by assumption) _ (fun p hp => hp) (off_of_lt (by assumption)) ⟨by k_mem, ?_⟩)
  trivial
noncomputable abbrev sWord : Str := ⟨⟨[119, 111, 114, 100]⟩⟩
noncomputable abbrev sLit : Str := ⟨⟨[108, 105, 116, 101, 114, 97, 108]⟩⟩
noncomputable def wordB (ds : List TD) (j : Nat) (x : Str) : Bool := match ds[j]? with
  | some d => d.1 == sWord && d.2 == x
  | none => false

theorem wA {j : Nat} {x : Str} (hk : kindB ds j sWord = false) : wordB ds j x = false := by
  unfold kindB at hk
  unfold wordB
  split <;> simp_all
theorem wB {j : Nat} {x : Str} {d : TD} (hd : ds[j]? = some d) (hn : (d.2 != x) = true) : wordB ds j x = false := by
  unfold wordB
  rw [hd]
  simp_all
theorem wC {j : Nat} {x : Str} {d : TD} (hd : ds[j]? = some d) (hk : kindB ds j sWord = true) (hn : (d.2 != x) = false) : wordB ds j x = true := by
  unfold kindB at hk
  unfold wordB
  rw [hd] at hk ⊢
  simp_all
theorem wD {j : Nat} {k : Str} {P : Prop} (hd : ds[j]? = none) (hk : kindB ds j k = true) : P := by
  unfold kindB at hk
  rw [hd] at hk
  cases hk
theorem b1 {a : Bool} (h : a = false) : Value.bool false = .bool a := by rw [h]
theorem b2 {a : Bool} (h : a = true) : Value.bool true = .bool a := by rw [h]
theorem b3 {a b : Bool} (h : a = false) : Value.bool false = .bool (a && b) := by rw [h]; rfl
theorem b4 {a b : Bool} (h : a = true) (h' : b = false) : Value.bool false = .bool (a && b) := by rw [h, h']; rfl
theorem b5 {a b : Bool} (h : a = true) (h' : b = true) : Value.bool true = .bool (a && b) := by rw [h, h']; rfl

set_option maxHeartbeats 4000000 in
theorem is_word_spec1 {words x : Str} {tk2 : Tok} (hT : RdIn w news r l dn dr nl k1 k2 k3 i t xs ds) (hsp : Txt.split words ⟨⟨[32]⟩⟩ = [x]) (hz : words.length + 2 ≤ sizeLine) :
    Claim w 6 198 [.ref r, .str words tk2] news
      (fun h₀ L m s Q _ => ∀ h' tk', Fr h₀ L h' m → News h₀ L h' news → Q (.bool (wordB ds i x)) { s with heap := h', toks := tk' }) := by
  intro prog p loose mean mg mb dp un gd cn cs a ccd cl outer A₀ base h₀ L m s Q E hB hF hX hN hTop hcs hd hu hret
  have hr := hT.inst
  have hdict := hT.dict
  refine wpAny_call ?_
  k_dflt cell_enter
  k_steps
  all_goals first
    | (refine endV (hret _ _ (by assumption) (by first | assumption | exact nt (by assumption) | exact nt (nt (by assumption)))) ?_; first | exact b1 (wA (by assumption)) | exact b1 (wB (by assumption) (by assumption)) | exact b2 (wC (by assumption) (by assumption) (by assumption)))
    | exact wD (by assumption) (by assumption)

set_option maxHeartbeats 8000000 in
theorem is_word_spec2 {words x y : Str} {tk2 : Tok} (hT : RdIn w news r l dn dr nl k1 k2 k3 i t xs ds) (hsp : Txt.split words ⟨⟨[32]⟩⟩ = [x, y]) (hz : words.length + 2 ≤ sizeLine) :
    Claim w 6 198 [.ref r, .str words tk2] news
      (fun h₀ L m s Q _ => ∀ h' tk', Fr h₀ L h' m → News h₀ L h' news → Q (.bool (wordB ds i x && wordB ds (i + 1) y)) { s with heap := h', toks := tk' }) := by
  intro prog p loose mean mg mb dp un gd cn cs a ccd cl outer A₀ base h₀ L m s Q E hB hF hX hN hTop hcs hd hu hret
  have hr := hT.inst
  have hdict := hT.dict
  refine wpAny_call ?_
  k_dflt cell_enter
  k_steps
  all_goals first
    | (refine endV (hret _ _ (by assumption) (by first | assumption | exact nt (by assumption) | exact nt (nt (by assumption)))) ?_; first | exact b3 (wA (by assumption)) | exact b3 (wB (by assumption) (by assumption)) | exact b4 (wC (by assumption) (by assumption) (by assumption)) (wA (by assumption)) | exact b4 (wC (by assumption) (by assumption) (by assumption)) (wB (by assumption) (by assumption)) | exact b5 (wC (by assumption) (by assumption) (by assumption)) (wC (by assumption) (by assumption) (by assumption)))
    | exact wD (by assumption) (by assumption)

-- part C3


theorem said_6 : True := by
  k_with "call ref" => (k_here; (with_reducible show wpAny _ _ (call (Value.ref 198) [_, _]) _ _ _); k_dflt (first   | (refine' is_word_spec1 ?Tq7 ?Sq7 ?Zq7 ?Bq7 ?Fq7 ?Xq7 ?Nq7 ?Pq7 ?Cq7 ?Dq7 ?Uq7 (fun h' tk' F' N' => ?_); (case Nq7 => k_asm); (case Sq7 => assumption); (case Zq7 => assumption); (case Tq7 => first | assumption | exact RdIn.cons (by assumption) | exact RdIn.cons (RdIn.cons (by assumption)) | exact RdIn.cons (RdIn.cons (RdIn.cons (by assumption)))); (case Bq7 => k_asm); (case Fq7 => k_asm); (case Xq7 => k_asm); (case Pq7 => k_asm); (case Cq7 => first | exact rfl | assumption); (case Dq7 => ktr_room); (case Uq7 => ktr_units))   | (refine' is_word_spec2 ?Tq7 ?Sq7 ?Zq7 ?Bq7 ?Fq7 ?Xq7 ?Nq7 ?Pq7 ?Cq7 ?Dq7 ?Uq7 (fun h' tk' F' N' => ?_); (case Nq7 => k_asm); (case Sq7 => assumption); (case Zq7 => assumption); (case Tq7 => first | assumption | exact RdIn.cons (by assumption) | exact RdIn.cons (RdIn.cons (by assumption)) | exact RdIn.cons (RdIn.cons (RdIn.cons (by assumption)))); (case Bq7 => k_asm); (case Fq7 => k_asm); (case Xq7 => k_asm); (case Pq7 => k_asm); (case Cq7 => first | exact rfl | assumption); (case Dq7 => ktr_room); (case Uq7 => ktr_units))))
  k_with "k_all" => (first | assumption | exact List.forall_mem_nil _ | (refine' List.forall_mem_cons.mpr ⟨?aq7, ?bq7⟩; (case aq7 => k_ne); (case bq7 => k_extra "k_all")))
  trivial
/-- one entry is picked out of a ledger -/
inductive Pick (d : Addr) (o : Obj) : List (Addr × Obj) → List (Addr × Obj) → Prop where
  | head {r : List (Addr × Obj)} : Pick d o ((d, o) :: r) r
  | tail {p : Addr × Obj} {r r' : List (Addr × Obj)} (h : Pick d o r r') : Pick d o (p :: r) (p :: r')
theorem Pick.mem {d : Addr} {o : Obj} {r r' : List (Addr × Obj)} (h : Pick d o r r') : ∀ p ∈ (d, o) :: r', p ∈ r := by
  induction h with
  | head => exact fun p hp => hp
  | tail h ih =>
    intro p hp
    rcases List.mem_cons.mp hp with e | hp
    · exact .tail _ (ih p (e ▸ .head _))
    · rcases List.mem_cons.mp hp with e | hp
      · exact e ▸ .head _
      · exact .tail _ (ih p (.tail _ hp))
theorem Pick.led {h₀ h : Heap} {L d : Addr} {o : Obj} {r r' : List (Addr × Obj)} (P : Pick d o r r') (N : News h₀ L h r) : News h₀ L h ((d, o) :: r') := fun p hp => N p (P.mem p hp)
theorem ToksIn.rd (hT : ToksIn w news r l dn dr nl xs ds) (hi : i ≤ 1000) : RdIn w ((dr, rdObj w l dn k1 k2 k3 i t) :: news) r l dn dr nl k1 k2 k3 i t xs ds :=
  ⟨hT.mono fun _ hp => .tail _ hp, .head _, hi⟩

set_option maxHeartbeats 4000000 in
theorem skip_if {led : List (Addr × Obj)} {words x : Str} {tk2 : Tok} (hP : Pick dr (rdObj w l dn k1 k2 k3 i t) led news) (hne : ∀ p ∈ news, p.1 ≠ dr) (hT : ToksIn w news r l dn dr nl xs ds) (hi : i ≤ 1000)
    (hsp : Txt.split words ⟨⟨[32]⟩⟩ = [x]) (hz : words.length + 2 ≤ sizeLine) :
    Claim w 8 205 [.ref r, .str words tk2] led
      (fun h₀ L m s Q _ => (wordB ds i x = true → ∀ h' tk' t', Fr h₀ L h' m → News h₀ L h' ((dr, rdObj w l dn k1 k2 k3 (i + 1 : Nat) t') :: news) → Q (.bool true) { s with heap := h', toks := tk' }) ∧
        (wordB ds i x = false → ∀ h' tk', Fr h₀ L h' m → News h₀ L h' ((dr, rdObj w l dn k1 k2 k3 i t) :: news) → Q (.bool false) { s with heap := h', toks := tk' })) := by
  intro prog p loose mean mg mb dp un gd cn cs a ccd cl outer A₀ base h₀ L m s Q E hB hF hX hN hTop hcs hd hu hret
  have hr := hT.inst
  have hN := hP.led hN
  have hR := hT.rd (k1 := k1) (k2 := k2) (k3 := k3) (t := t) hi
  clear hP hT
  refine wpAny_call ?_
  k_dflt cell_enter
  k_steps
  · exact hret.1 (by assumption) _ _ _ (by assumption) (nt (by assumption))
  · exact hret.2 (by assumption) _ _ (by assumption) (by assumption)

theorem skip_fn {led : List (Addr × Obj)} {words x : Str} {tk2 : Tok} (hP : Pick dr (rdObj w l dn k1 k2 k3 i t) led news) (hne : ∀ p ∈ news, p.1 ≠ dr) (hT : ToksIn w news r l dn dr nl xs ds) (hi : i ≤ 1000)
    (hsp : Txt.split words ⟨⟨[32]⟩⟩ = [x]) (hz : words.length + 2 ≤ sizeLine) :
    Claim w 8 205 [.ref r, .str words tk2] led
      (fun h₀ L m s Q _ => ∀ h' tk' t', Fr h₀ L h' m → News h₀ L h' ((dr, rdObj w l dn k1 k2 k3 (i + (wordB ds i x).toNat : Nat) t') :: news) → Q (.bool (wordB ds i x)) { s with heap := h', toks := tk' }) := by
  intro prog p loose mean mg mb dp un gd cn cs a ccd cl outer A₀ base h₀ L m s Q E hB hF hX hN hTop hcs hd hu hret
  refine skip_if hP hne hT hi hsp hz hB hF hX hN hTop hcs hd hu ⟨fun hw h' tk' t' F' N' => ?_, fun hw h' tk' F' N' => ?_⟩
  · rw [hw] at hret
    exact hret _ _ _ F' N'
  · rw [hw] at hret
    exact hret _ _ _ F' N'

-- part X1
section
open  PySem.Calls PySem.Spec Builtin Builtin.ObjectAttr
noncomputable abbrev gfBm : List Value := [.ref 117, .type "Exception", .type "BaseException", .type "object"]
noncomputable abbrev sGF : Str := ⟨⟨[71, 114, 97, 109, 109, 97, 114, 70, 97, 117, 108, 116]⟩⟩
noncomputable abbrev gfCls : Obj := excClassObj sGF sGF 130 129 [.ref 117] gfBm true [] [] false none none (some (.ref 121)) none (some (.str sGF 339)) (some (.str sGF 347)) (some (.bool true)) "Exception.__new__"
theorem gf_look (P : Params) : (hd.heap_350 P).lookup 130 = some gfCls := rfl
theorem gf_obj {P : Params} {h : Heap} (X : (hd.heap_350 P).In h) : h.get? 130 = some gfCls := X _ _ (gf_look P)

section
variable {M : Model} {A : Around} {E : Value → Shared → Prop} {h : Heap} {g : Array GenState} {d : Drawn} {t : Nat} {os : OsState}
theorem gf_check_new {rest : List Value} {Q : Unit → Shared → Prop} (hC : h.get? 130 = some gfCls) (hq : Q () ⟨h, g, d, t, os⟩) :
    wpAny M A (checkBuiltinCall "Exception.__new__" ⟨.ref 130 :: rest, []⟩) Q E ⟨h, g, d, t, os⟩ := by
  have F := PySem.F.excBase_Exception
  have hcont : (Value.ref 130 :: gfBm).contains (.type "Exception") = true := by decide
  have hstar := F.noStar
  simp only [checkBuiltinCall, F.newKind, F.newSplit, F.newRow]
  repeat (first | refine wpAny_loadPart_at hC ?_ | (refine wpAny_isSubtype_exc hC ?_; rw [hcont]) | refine wpAny_staticBase_exc hC ?_ | refine wpAny_madeBy_exc hC ?_ | simp only [bne_self_eq_false, Bool.false_eq_true, if_false] | wp_step)
  exact hq
end
section
variable {prog : Program} {w : World} {A : Around} {R : Result → Shared → Prop} {h : Heap} {g : Array GenState} {d : Drawn} {t : Nat} {os : OsState}
noncomputable abbrev excO (t0 : Addr) (dx : Option Addr) : Obj := { cls := .ref 130, dict := dx, data := .fields #[.ref t0, .none, .none, .none, .bool false, .none] }
theorem gf_new {rest : List Value} (hC : h.get? 130 = some gfCls)
    (hq : R (.ok (.ret (.ref (h.objs.size + 1)))) ⟨(h.push { cls := .type "tuple", data := .seq rest.toArray }).push (excO h.objs.size none), g, d, t, os⟩) (hrest : rest.length ≤ sizeLine) :
    codeAny (model prog w) A (.builtin "Exception.__new__" ⟨.ref 130 :: rest, []⟩) R ⟨h, g, d, t, os⟩ := by
  have F := PySem.F.excBase_Exception
  have hends := F.ends
  have hcB : (Value.ref 130 :: gfBm).contains (.type "Exception") = true := by decide
  have hcA : (Value.ref 130 :: gfBm).contains (.type "AttributeError") = false := by decide
  have hcN : (Value.ref 130 :: gfBm).contains (.type "NameError") = false := by decide
  refine codeAny_builtinAt F.entry ?_
  unfold Builtin.«BaseException.__new__»
  refine PySem.wpAt_bind ?_
  show PySem.wpAt _ _ _ (stack >>= _) _ _ _
  refine PySem.wpAt_bind (PySem.wpAt_stack fun p below => PySem.wpAt_of_wpAny ?_)
  wp_walk
  refine PySem.wpAt_of_wpAny ?_
  rw [F.owner]
  repeat (first | with_reducible refine wpAny_madeHere_exc F.canon hC ?_ | with_reducible refine wpAny_loadPart_at hC ?_ | (with_reducible refine wpAny_isSubtype_exc hC ?_; first | rw [hcB] | rw [hcA] | rw [hcN]) | wp_step)
  show R _ _
  rw [Heap.size_push]
  exact hq

/-- the class is called: the object is made, and then its __init__ is called -/
theorem gf_type_call {Q : PySem.Fin → Shared → Prop} {E : Value → Shared → Prop} {rest : List Value} {P : Params} (X : (hd.heap_350 P).In h)
    (hq : wpAny (model prog w) A (call (.ref 107) (.ref (h.objs.size + 1) :: rest)) (fun r s' => r = .none ∧ Q (.done (.ret (.ref (h.objs.size + 1)))) s') E ⟨(h.push { cls := .type "tuple", data := .seq rest.toArray }).push (excO h.objs.size none), g, d, t, os⟩)
    (hrest : rest.length ≤ sizeLine) :
    wpAny (model prog w) A (Builtin.«type.__call__» ⟨.ref 130 :: rest, []⟩) Q E ⟨h, g, d, t, os⟩ := by
  have F := PySem.F.excBase_Exception
  have hC := gf_obj X
  repeat (first | with_reducible refine wpAny_loadPart_at hC ?_ | with_reducible refine wpAny_madeBy_exc hC ?_ | wp_step)
  refine codeAny_call_builtin_code (Code.quiet_builtin _ F.quiet) (gf_check_new hC ?_)
  refine gf_new hC ?_ hrest
  show wpAny _ _ _ _ _ _
  have keeps : ∀ b o, h.get? b = some o → ((h.push { cls := .type "tuple", data := .seq rest.toArray }).push (excO h.objs.size none)).get? b = some o := fun b o e => Heap.get?_push_of_some _ (Heap.get?_push_of_some _ e)
  have X₁ := Frag.In.keeps X keeps
  have hC₁ := keeps _ _ hC
  have hget : ((h.push { cls := .type "tuple", data := .seq rest.toArray }).push (excO h.objs.size none)).get? (h.objs.size + 1) = some (excO h.objs.size none) := by heap_get
  have hcC : (Value.ref 130 :: gfBm).contains (.ref 130) = true := by decide
  have hi : findIn (hd.heap_350 P) (.ref 130) "__init__" = some (some (.ref 107)) := by k_is
  have hf : typeIn (hd.heap_350 P) (.ref 107) = some (.type "function") := by k_is
  unfold isInstance
  repeat (first | with_reducible refine wpAny_loadPart_at hget ?_ | (with_reducible refine wpAny_isSubtype_exc hC₁ ?_; rw [hcC]) | wp_step)
  show wpAny _ _ (typeLookup (.ref 130) _) _ _ _
  refine (looks_findIn X₁ hi).at ?_
  refine wpAny_holding (wpAny_bind ?_)
  refine (bind_fn X₁ _ hf).at ?_
  refine wpAny_bind (wpAny_mono hq (fun r s' hr => ?_) fun _ _ x => x)
  obtain ⟨rfl, hQ⟩ := hr
  wp_walk
  exact hQ
theorem gf_call {Q : Value → Shared → Prop} {E : Value → Shared → Prop} {rest : List Value} {P : Params} (X : (hd.heap_350 P).In h)
    (hq : wpAny (model prog w) (A.under (.builtin "type.__call__" ⟨.ref 130 :: rest, []⟩)) (call (.ref 107) (.ref (h.objs.size + 1) :: rest)) (fun r s' => r = .none ∧ Q (.ref (h.objs.size + 1)) s') E ⟨(h.push { cls := .type "tuple", data := .seq rest.toArray }).push (excO h.objs.size none), g, d, t, os⟩)
    (hrest : rest.length ≤ sizeLine) :
    wpAny (model prog w) A (call (.ref 130) rest) Q E ⟨h, g, d, t, os⟩ := by
  have hC := gf_obj X
  have f1 := tc_lookup
  have f2 := tc_bind (.ref 130)
  have hT : (⟨h, g, d, t, os⟩ : Shared).TypeIs (.ref 130) "type" := ⟨_, hC, rfl⟩
  refine wpAny_call (codeAny_of_tree ?_)
  show wpAny _ _ (callAny (.ref 130) _) _ _ _
  repeat (any_goals (first | assumption | with_reducible refine wpAny_loadPart_at hC ?_ | wp_step))
  refine ⟨rfl, ?_⟩
  refine codeAny_call_builtin_at (Code.quiet_builtin _ (by decide +kernel)) entry_typeCall (wpAny_check_type_call_sub hC (gf_type_call X ?_ hrest))
  exact hq

theorem gf_check_init {M : Model} {E : Value → Shared → Prop} {e : Addr} {oe : Obj} {rest : List Value} {Q : Unit → Shared → Prop} (hC : h.get? 130 = some gfCls) (he : h.get? e = some oe) (hcls : oe.cls = .ref 130) (hq : Q () ⟨h, g, d, t, os⟩) :
    wpAny M A (checkBuiltinCall "Exception.__init__" ⟨.ref e :: rest, []⟩) Q E ⟨h, g, d, t, os⟩ := by
  have F := PySem.F.excBase_Exception
  have hcB : (Value.ref 130 :: gfBm).contains (.type "Exception") = true := by decide
  have hshort := F.noStar
  simp only [checkBuiltinCall, F.initKind, F.initSplit, F.initRow]
  repeat (first | (with_reducible refine wpAny_loadPart_at he ?_; rw [hcls]) | with_reducible refine wpAny_loadPart_at hC ?_ | (with_reducible refine wpAny_isSubtype_exc hC ?_; rw [hcB]) | wp_step)
  refine PySem.wpAny_onRaise ?_
  rw [show ∀ (a b : String) (n : Nat), Bind.check ⟨.positional, "*", "Exception", .self, [⟨"args", .varPos, false⟩]⟩ a b n (List.map (fun x => x.fst) ({ pos := Value.ref e :: rest } : Args).kw) = pure () from
    fun a b n => check_star_args _ _ _ _ _ _]
  exact PySem.wpAny_pure hq
theorem gf_binit {E : Value → Shared → Prop} {Q : Value → Shared → Prop} {s : Shared} {P : Params} {h₀ : Heap} {L e t0 : Addr} {m : Str → Option Value} {news : List (Addr × Obj)} {v : Value}
    (F : Fr h₀ L s.heap m) (X : (hd.heap_350 P).In h₀) (N : News h₀ L s.heap ((e, excO t0 none) :: news)) (hne : ∀ p ∈ news, p.1 ≠ e)
    (hq : ∀ h' t1, Fr h₀ L h' m → News h₀ L h' ((e, excO t1 none) :: news) → Q .none { s with heap := h' }) :
    wpAny (model prog w) A (call (.builtin "Exception.__init__") [.ref e, v]) Q E s := by
  obtain ⟨h, g, d, t, os⟩ := s
  have Fx := PySem.F.excBase_Exception
  have he : h.get? e = some (excO t0 none) := (N _ (.head _)).1
  have X' := Frag.In.keeps X F.keep
  refine wpAny_call (codeAny_call_builtin Fx.init.plain Fx.initEntry (gf_check_init (gf_obj X') he rfl ?_))
  have N1 := N.push F { cls := .type "tuple", data := .seq [v].toArray }
  have F1 := F.push { cls := .type "tuple", data := .seq [v].toArray }
  have hlt := Heap.lt_size he
  have hp1 : ∀ p ∈ [(h.objs.size, ({ cls := .type "tuple", data := .seq [v].toArray } : Obj))], p.1 ≠ e := by
    intro p hp
    rw [List.mem_singleton.mp hp]
    exact Nat.ne_of_gt hlt
  obtain ⟨F2, N2⟩ := news_upd (f := Obj.mapFields (·.setIfInBounds 0 (.ref h.objs.size))) (o' := excO h.objs.size none) (pre := [(h.objs.size, ({ cls := .type "tuple", data := .seq [v].toArray } : Obj))]) F1 N1 hp1 hne rfl rfl
  have z := hq _ _ F2 (fun p hp => N2 p (.tail _ hp))
  wp_walk
  exact z

theorem gf_osa {R : Result → Shared → Prop} {s : Shared} {P : Params} {x : Addr} {ox : Obj} {od : Option Obj} {name : Str} {tk : Tok} {v : Value} (X : (hd.heap_350 P).In s.heap) (I : PySem.W.InstAt s.heap x ox 130 od)
    (ht : findIn (hd.heap_350 P) (.ref 130) name = some none)
    (h : wpAny (model prog w) A.in1 (Builtin.ObjectAttr.storeInOwnDict (.ref x) (.ref 130) (.str name tk) name v false)
      (fun fin s' => match fin with | .done f => R (.ok f) s' | .again c' => c'.quiet = true ∧ codeAny (model prog w) A c' R s') (fun e s' => R (.error e) s') s) :
    codeAny (model prog w) A (.call (.builtin "object.__setattr__") ⟨[.ref x, .str name tk, v], []⟩) R s := by
  have SF := PySem.F.store_object
  have SE := PySem.F.store_Exception
  have hc : clsIn (hd.heap_350 P) 130 = some { name := sGF, bases := [.ref 117], mro := .ref 130 :: gfBm, ns := 129, qualname := sGF } := rfl
  have sub : Looks (model prog w) s.heap (isInstance (.ref x) (.type "object")) true := I.type.andThen (looks_mroIn X (by unfold mroIn; rw [hc]; rfl))
  refine codeAny_call_builtin SF.slot.plain SF.entry (@check_slot (model prog w) _ _ s "object.__setattr__" "object" "__setattr__" (.ref x) [.str name tk, v] [] _ SF.kind SF.split sub (SF.args (.ref x) (.str name tk) v) ?_)
  have hm : Looks (model prog w) s.heap (mroOf (.ref 130)) (.ref 130 :: gfBm) := (looks_clsIn X hc).andThen .now
  have L3 : Looks (model prog w) s.heap (storeTaker? none) none := .now
  rw [osa_eq, refuse_eq]
  refine PySem.wpAny_bind (PySem.wpAny_bind (I.type.here (PySem.wpAny_bind (hm.here ?_))))
  rw [refuseLoop_ref, refuseLoop_ref, SE.passes]
  refine PySem.wpAny_pure (PySem.wpAny_bind (I.type.here (PySem.wpAny_bind ((looks_findIn X ht).here (PySem.wpAny_bind (L3.here ?_))))))
  exact h

noncomputable abbrev entX (w : World) (n : Str) (k : Tok) (v : Value) : DictEntry := ⟨PyData.keyHash w.params n, .str n k, v⟩
/-- the first attribute: the dict is made -/
theorem gf_set_new {E : Value → Shared → Prop} {Q : Unit → Shared → Prop} {s : Shared} {h₀ : Heap} {L e t0 : Addr} {m : Str → Option Value} {news : List (Addr × Obj)} {name : Str} {v : Value}
    (F : Fr h₀ L s.heap m) (X : (hd.heap_350 w.params).In h₀) (N : News h₀ L s.heap ((e, excO t0 none) :: news)) (hne : ∀ p ∈ news, p.1 ≠ e) (ht : findIn (hd.heap_350 w.params) (.ref 130) name = some none)
    (hq : ∀ h' de k, Fr h₀ L h' m → News h₀ L h' ((e, excO t0 (some de)) :: (de, dictOf [entX w name k v] 1) :: news) → (∀ p ∈ news, p.1 < de) → e < de → Q () { s with heap := h', toks := s.toks + 2 }) :
    wpAny (model prog w) A (setAttr (.ref e) name v) Q E s := by
  have X' := Frag.In.keeps X F.keep
  have he : s.heap.get? e = some (excO t0 none) := (N _ (.head _)).1
  have hlt := Heap.lt_size he
  have hs : findIn (hd.heap_350 w.params) (.ref 130) "__setattr__" = some (some (.builtin "object.__setattr__")) := by k_is
  have hc : clsIn (hd.heap_350 w.params) 130 = some { name := sGF, bases := [.ref 117], mro := .ref 130 :: gfBm, ns := 129, qualname := sGF } := rfl
  have I : PySem.W.InstAt s.heap e (excO t0 none) 130 none := ⟨he, rfl, rfl, trivial⟩
  refine set_plain X' I hs ?_
  refine gf_osa (s := { s with toks := s.toks + 1 }) X' I ht ?_
  have N1 := N.push F { cls := .type "dict", data := .dict #[] }
  have F1 := F.push { cls := .type "dict", data := .dict #[] }
  obtain ⟨F2, N2⟩ := news_upd (f := fun o => { o with dict := some s.heap.objs.size }) (o' := excO t0 (some s.heap.objs.size)) (pre := [(s.heap.objs.size, ({ cls := .type "dict", data := .dict #[] } : Obj))]) F1 N1
    (fun p hp => by rw [List.mem_singleton.mp hp]; exact Nat.ne_of_gt hlt) hne rfl rfl
  obtain ⟨F3, N3⟩ := news_upd (f := Obj.putName name (PyData.keyHash w.params name) (.str name (s.toks + 1)) v) (o' := dictOf [entX w name (s.toks + 1) v] 1) (pre := []) F2 N2 (fun _ hp => nomatch hp)
    (fun p hp => by
      rcases List.mem_cons.mp hp with rfl | hp
      · exact Nat.ne_of_lt hlt
      · exact Nat.ne_of_lt (Heap.lt_size (N _ (.tail _ hp)).1)) (putName_dict _ _ _ _ [] 0) rfl
  have D2 := (N2 _ (.head _)).1
  have D3 := (N3 _ (.head _)).1
  have z := hq _ s.heap.objs.size (s.toks + 1) F3 (fun p hp => N3 p (by
    rcases List.mem_cons.mp hp with rfl | hp
    · exact .tail _ (.head _)
    · rcases List.mem_cons.mp hp with rfl | hp
      · exact .head _
      · exact .tail _ (.tail _ hp))) (fun p hp => Heap.lt_size (N _ (.tail _ hp)).1) hlt
  refine PySem.wpAny_bind (PySem.wpAny_pure (PySem.wpAny_bind (PySem.wpAny_bind (wpAny_loadPart he (PySem.wpAny_bind ((looks_clsIn (M := model prog w) X' hc).at ?_))))))
  refine PySem.wpAny_bind (wpAny_alloc ?_)
  refine PySem.wpAny_bind (wpAny_update (N1 _ (.tail _ (.head _))).1 ?_)
  refine PySem.wpAny_pure ?_
  refine PySem.wpAny_bind (PySem.wpAny_pure (PySem.wpAny_bind ?_))
  unfold nsSet
  refine PySem.wpAny_bind (PySem.wpAny_bind (wpAny_askSetting (PySem.wpAny_pure (PySem.wpAny_bind (wpAny_mkText (PySem.wpAny_bind (wpAny_loadPart D2 ?_)))))))
  dsimp only
  rw [aRefKeyMayBeTheName_at, show (!(#[] : Array DictEntry).any (·.key.isStr name) && (#[] : Array DictEntry).any (·.refKey)) = false by simp]
  refine wpAny_updatePart D2 ?_
  refine PySem.wpAny_bind (wpAny_lookBehind D3 (pastItsLine_dict (by rw [List.size_toArray, sizeLine_eq]; show 1 ≤ 16777216 + 1; decide)) ?_)
  exact PySem.wpAny_pure z

/-- a later attribute -/
theorem gf_set_old {E : Value → Shared → Prop} {Q : Unit → Shared → Prop} {s : Shared} {h₀ : Heap} {L e de t0 : Addr} {m : Str → Option Value} {news : List (Addr × Obj)} {name : Str} {v : Value} {es es' : List DictEntry} {n n' : Nat}
    (F : Fr h₀ L s.heap m) (X : (hd.heap_350 w.params).In h₀) (N : News h₀ L s.heap ((e, excO t0 (some de)) :: (de, dictOf es n) :: news)) (hne : ∀ p ∈ news, p.1 ≠ de) (hed : e ≠ de) (ht : findIn (hd.heap_350 w.params) (.ref 130) name = some none)
    (hl : (getL name es).isSome = true) (e1 : (putL name (PyData.keyHash w.params name) (.str name (s.toks + 1)) v es, putN name es n) = (es', n')) (hz : es'.length ≤ 1000)
    (hq : ∀ h', Fr h₀ L h' m → News h₀ L h' ((e, excO t0 (some de)) :: (de, dictOf es' n') :: news) → Q () { s with heap := h', toks := s.toks + 2 }) :
    wpAny (model prog w) A (setAttr (.ref e) name v) Q E s := by
  have X' := Frag.In.keeps X F.keep
  have he : s.heap.get? e = some (excO t0 (some de)) := (N _ (.head _)).1
  have hd1 : s.heap.get? de = some (dictOf es n) := (N _ (.tail _ (.head _))).1
  have hs : findIn (hd.heap_350 w.params) (.ref 130) "__setattr__" = some (some (.builtin "object.__setattr__")) := by k_is
  have hc : clsIn (hd.heap_350 w.params) 130 = some { name := sGF, bases := [.ref 117], mro := .ref 130 :: gfBm, ns := 129, qualname := sGF } := rfl
  have I : PySem.W.InstAt s.heap e (excO t0 (some de)) 130 (some (dictOf es n)) := ⟨he, rfl, rfl, hd1⟩
  obtain ⟨e2, e3⟩ := Prod.mk.inj e1
  refine set_plain X' I hs ?_
  refine gf_osa (s := { s with toks := s.toks + 1 }) X' I ht ?_
  obtain ⟨F3, N3⟩ := news_upd (f := Obj.putName name (PyData.keyHash w.params name) (.str name (s.toks + 1)) v) (o' := dictOf es' n') (pre := [(e, excO t0 (some de))]) F N (fun p hp => by rw [List.mem_singleton.mp hp]; exact hed) hne
    (by rw [putName_dict, e2, e3]) rfl
  have D3 := (N3 _ (.tail _ (.head _))).1
  have z := hq _ F3 N3
  refine PySem.wpAny_bind (PySem.wpAny_pure (PySem.wpAny_bind (PySem.wpAny_bind (wpAny_loadPart he (PySem.wpAny_bind ((looks_clsIn (M := model prog w) X' hc).at ?_))))))
  refine PySem.wpAny_pure ?_
  refine PySem.wpAny_bind (PySem.wpAny_pure (PySem.wpAny_bind ?_))
  unfold nsSet
  refine PySem.wpAny_bind (PySem.wpAny_bind (wpAny_askSetting (PySem.wpAny_pure (PySem.wpAny_bind (wpAny_mkText (PySem.wpAny_bind (wpAny_loadPart hd1 ?_)))))))
  dsimp only
  have c : (!es.toArray.any (·.key.isStr name) && es.toArray.any (·.refKey)) = false := by
    rw [← Array.any_toList, ← Array.any_toList]
    unfold getL at hl
    split at hl
    · rename_i en he
      rw [List.any_eq_true.mpr ⟨en, List.mem_of_find?_eq_some he, List.find?_some he⟩]; rfl
    · split at hl
      · cases hl
      · rename_i z; rw [Bool.not_eq_true] at z; rw [z, Bool.and_false]
  rw [aRefKeyMayBeTheName_at, c]
  refine wpAny_updatePart hd1 ?_
  refine PySem.wpAny_bind (wpAny_lookBehind D3 (pastItsLine_dict (by rw [List.size_toArray, sizeLine_eq]; omega)) ?_)
  exact PySem.wpAny_pure z
end

end
-- part C4
theorem meta_Exc : typeOf (.type "Exception") = pure (.type "type") := by kernel_rfl
theorem said_7 : True := by
  k_with "getMethod type:Exception" => (k_here; refine' method_type ?Fq7 ?Xq7 ?mq7 (by decide +kernel) ?eq7 ?hq7 ?_; (case Fq7 => k_asm); (case Xq7 => k_asm); (case mq7 => exact meta_Exc); (case eq7 => k_dflt k_is); (case hq7 => k_handed))
  k_with "setAttr ref" => (k_here; k_dflt (first | (refine' gf_set_new ?Fq7 ?Xq7 ?Nq7 ?neq7 ?tq7 ?_; (case Nq7 => k_asm); (case Fq7 => k_asm); (case Xq7 => k_asm); (case neq7 => assumption); (case tq7 => k_is); k_whole; intro h' de' k' F' N' l1 l2) | (refine' gf_set_old ?Fq7 ?Xq7 ?Nq7 ?neq7 ?edq7 ?tq7 ?lq7 ?eq7 ?zq7 ?_; (case Nq7 => k_asm); (case Fq7 => k_asm); (case Xq7 => k_asm); (case neq7 => first | assumption | (intro p hp; exact Nat.ne_of_lt (by first | exact (by assumption : ∀ p ∈ _, p.1 < _) p hp))); (case edq7 => exact Nat.ne_of_lt (by assumption)); (case tq7 => k_is); (case lq7 => k_get); (case eq7 => k_put); (case zq7 => exact Nat.le_of_ble_eq_true rfl); k_whole; intro h' F' N')))
  k_with "call builtin:Exception.__init__" => (k_here; k_dflt (refine' gf_binit ?Fq7 ?Xq7 ?Nq7 ?neq7 ?_; (case Nq7 => k_asm); (case Fq7 => k_asm); (case Xq7 => k_asm); (case neq7 => assumption); k_whole; intro h' t1' F' N'))
  trivial
set_option maxHeartbeats 4000000 in
theorem gf_init {e t0 p : Addr} {what : Str} {tw : Tok} (hne : ∀ q ∈ news, q.1 ≠ e) :
    Claim w 2 107 [.ref e, .str what tw, .ref p] ((e, excO t0 none) :: news)
      (fun h₀ L m s Q _ => ∀ h' tk' t1 de q1 q2, Fr h₀ L h' m → News h₀ L h' ((e, excO t1 (some de)) :: (de, dictOf [ent w ⟨⟨[119, 104, 97, 116]⟩⟩ q1 (.str what tw), ent w ⟨⟨[97, 116]⟩⟩ q2 (.ref p)] 2) :: news) → (∀ q ∈ news, q.1 < de) → e < de → Q .none { s with heap := h', toks := tk' }) := by
  intro prog p loose mean mg mb dp un gd cn cs a ccd cl outer A₀ base h₀ L m s Q E hB hF hX hN hTop hcs hd hu hret
  refine wpAny_call ?_
  k_dflt cell_enter
  k_steps
  all_goals exact hret _ _ _ _ _ _ (by assumption) (by assumption) (by assumption) (by assumption)

set_option maxHeartbeats 4000000 in
theorem gf_make {pt : Addr} {what : Str} {tw : Tok} :
    Claim w 4 130 [.str what tw, .ref pt] news
      (fun h₀ L m s Q _ => ∀ e h' tk' t1 de q1 q2, Fr h₀ L h' m → News h₀ L h' ((e, excO t1 (some de)) :: (de, dictOf [ent w ⟨⟨[119, 104, 97, 116]⟩⟩ q1 (.str what tw), ent w ⟨⟨[97, 116]⟩⟩ q2 (.ref pt)] 2) :: news) → (∀ q ∈ news, q.1 < e) → (∀ q ∈ news, q.1 < de) → e < de → Q (.ref e) { s with heap := h', toks := tk' }) := by
  intro prog p loose mean mg mb dp un gd cn cs a ccd cl outer A₀ base h₀ L m s Q E hB hF hX hN hTop hcs hd hu hret
  obtain ⟨h, g, d, t, os⟩ := s
  refine gf_call (Frag.In.keeps hX hF.keep) ?_ (by rw [sizeLine_eq]; show 2 ≤ _; decide)
  have N1 := (hN.push hF { cls := .type "tuple", data := .seq [Value.str what tw, Value.ref pt].toArray }).push (hF.push _) (excO h.objs.size none)
  rw [Heap.size_push] at N1
  have N2 : News h₀ L ((h.push { cls := .type "tuple", data := .seq [Value.str what tw, Value.ref pt].toArray }).push (excO h.objs.size none)) ((h.objs.size + 1, excO h.objs.size none) :: news) := fun q hq => N1 q (by
    rcases List.mem_cons.mp hq with rfl | hq
    · exact .head _
    · exact .tail _ (.tail _ hq))
  have lt1 : ∀ q ∈ news, q.1 < h.objs.size := fun q hq => Heap.lt_size (hN q hq).1
  refine gf_init (fun q hq => Nat.ne_of_lt (Nat.lt_succ_of_lt (lt1 q hq))) hB ((hF.push _).push _) hX N2 hTop hcs ?_ ?_ ?_
  · show dp + 1 + 2 < recursionLimit
    omega
  · show un + _ + 8 * 2 < cLine
    have hc : (Code.builtin "type.__call__" ⟨[Value.ref 130, Value.str what tw, Value.ref pt], []⟩).cUnits ≤ 8 := by
      simp [Code.cUnits, Code.frames, Code.isFrame]
    omega
  · intro h' tk' t1 de q1 q2 F' N' l1 l2
    exact ⟨rfl, hret _ _ _ _ _ _ _ F' N' (fun q hq => Nat.lt_succ_of_lt (lt1 q hq)) l1 l2⟩

-- part X2
section
open  PySem.Calls PySem.Spec Builtin Builtin.ObjectAttr
/-- an exception of the text's own class that bears a dict, on its way through the frames -/
noncomputable abbrev excV (de : Addr) (vs : Array Value) : Obj := { cls := .ref 130, dict := some de, data := .fields vs }
noncomputable def TrD (h base : Heap) (e de : Addr) (fl : Value) : Prop :=
  ∃ vs T oT ts, h.get? e = some (excV de vs) ∧ vs[1]? = some (.ref T) ∧ base.get? T = none ∧ T ≠ e ∧ h.get? T = some oT ∧ oT.data = .fields ts ∧ ts[3]? = some fl
noncomputable def FlyD (base : Heap) (l : List Env) (e de : Addr) (fl : Value) (h : Heap) : Prop :=
  base.StaysIn h ∧ base.get? e = none ∧ h.FunFrames base l ∧ TrD h base e de fl

section
variable {M : Model} {A : Around} {E : Value → Shared → Prop} {s : Shared} {base : Heap} {env : Env} {outer l : List Env} {L e de : Addr} {fl : Value} {Q : Unit → Shared → Prop}

/-- a new row of the traceback, for the frame at hand -/
theorem fly_entry {vs : Array Value} {head : Value} {hadNext : Bool}
    (hfr : A.frames = some (env :: outer)) (hl : s.heap.FunFrames base (env :: outer)) (hf : env.frame = some L) (he : s.heap.get? e = some (excV de vs)) (hkb : base.StaysIn s.heap) (hen : base.get? e = none) (hsz : 1 < vs.size)
    (hQ : ∀ h', FlyD base (env :: outer) e de (rawInt L) h' → s.heap.UpToSlots h' → Q () { s with heap := h' }) :
    wpAny M A (do let a ← frameOf env; let pl ← entryPlaceOf L hadNext; let b ← EntryCells.newEntry head a .none (rawInt L) .none pl; setField (.ref e) 1 b) Q E s := by
  have hene : e ∉ (env :: outer).filterMap (·.frame) := fun hm => by
    obtain ⟨_, o, ho, hnf⟩ := hl.mem hm
    rw [he] at ho
    cases ho
    exact hnf vs rfl
  refine PySem.wpAny_bind (wpAny_frameOf_fun hfr hl hf fun h₁ hs₁ => ?_)
  refine PySem.wpAny_bind (wpAny_entryPlaceOf fun pl hpl => ?_)
  unfold EntryCells.newEntry newFields
  refine PySem.wpAny_bind (wpAny_newObj_type ?_ (hpl.sizeOk5 _ _ _ _ _))
  have he₁ : h₁.get? e = some (excV de vs) := (hs₁.2.1 e hene).trans he
  have kb₁ : base.StaysIn h₁ := fun b o hbo => (hs₁.2.1 b fun hm => by rw [(hl.mem hm).1] at hbo; cases hbo).trans (hkb b o hbo)
  generalize hrow : ([head, .ref L, .none, rawInt L, .none] ++ (if pl.isEmpty then List.replicate 6 Value.none else pl)) = row
  have h3 : row.toArray[3]? = some (rawInt L) := by subst hrow; simp
  have he₂ := Heap.get?_push_of_some (h := h₁) { cls := .type "traceback", dict := none, data := .fields row.toArray } he₁
  refine wpAny_setField he₂ rfl hsz (hQ _ ?_ ?_)
  · have hTe : h₁.objs.size ≠ e := Nat.ne_of_gt (Heap.lt_size he₁)
    refine ⟨fun b o hb => ?_, hen, ?_, vs.setIfInBounds 1 (.ref h₁.objs.size), h₁.objs.size, ({ cls := .type "traceback", dict := none, data := .fields row.toArray } : Obj), row.toArray, ?_, ?_, kb₁.fresh, hTe, ?_, rfl, h3⟩
    · rw [Heap.get?_update_other _ _ (fun q => by rw [← q, hen] at hb; cases hb)]
      exact Heap.get?_push_of_some _ (kb₁ b o hb)
    · refine hl.of_keeps fun b o hb hnf => ?_
      obtain ⟨sl, hs⟩ := hs₁.2.2 b o hb
      refine ⟨_, (Heap.get?_update_other _ _ (fun q => ?_)).trans (Heap.get?_push_of_some _ hs), rfl⟩
      rw [← q, he] at hb
      cases hb
      exact hnf vs rfl
    · exact Heap.get?_update_self _ he₂ rfl
    · simp [hsz]
    · exact (Heap.get?_update_other _ _ (Ne.symm hTe)).trans (Heap.get?_push_size h₁ rfl)
  · intro b o hb hnf
    obtain ⟨sl, hs⟩ := hs₁.2.2 b o hb
    refine ⟨sl, (Heap.get?_update_other _ _ (fun q => ?_)).trans (Heap.get?_push_of_some _ hs)⟩
    rw [← q, he] at hb
    cases hb
    exact hnf vs rfl

theorem fly_land (H : FlyD base l e de fl s.heap) (hQ : ∀ h', FlyD base l e de .none h' → s.heap.UpToSlots h' → Q () { s with heap := h' }) : wpAny M A (setFlight (.ref e) none) Q E s := by
  obtain ⟨hkb, hen, hl, vs, T, oT, ts, he, h1, hnT, hTe, hT, hdT, h3⟩ := H
  have hsz3 : 3 < ts.size := (Array.getElem?_eq_some_iff.mp h3).1
  have noRecord : ∀ b o, s.heap.get? b = some o → (∀ vs, o.data ≠ .fields vs) → T ≠ b := fun b o hb hnf q => by
    rw [← q, hT] at hb; injection hb with hb; subst hb; exact hnf ts hdT
  unfold setFlight
  refine PySem.wpAny_bind (wpAny_field he rfl h1 ?_)
  rw [if_pos (show (Value.ref T != Value.none) = true from by simp)]
  refine wpAny_setField hT hdT hsz3 (hQ _ ⟨fun b o hb => ?_, hen, ?_, vs, T, Obj.mapFields (·.setIfInBounds 3 Value.none) oT, ts.setIfInBounds 3 Value.none, ?_, h1, hnT, hTe, ?_, ?_, ?_⟩ fun b o hb hnf => ⟨o.slots, (Heap.get?_update_other _ _ (noRecord b o hb hnf)).trans hb⟩)
  · exact (Heap.get?_update_other _ _ (fun q => by rw [← q, hnT] at hb; cases hb)).trans (hkb b o hb)
  · exact hl.of_keeps fun b o hb hnf => ⟨o, (Heap.get?_update_other _ _ (noRecord b o hb hnf)).trans hb, rfl⟩
  · exact (Heap.get?_update_other _ _ hTe).trans he
  · exact Heap.get?_update_self _ hT (Obj.isFreed_of_fields (Obj.data_mapFields hdT _))
  · exact Obj.data_mapFields hdT _
  · simp [hsz3]

theorem fly_again (hf : env.frame = some L) (H : FlyD base l e de (rawInt L) s.heap) (h : Q () s) : wpAny M A (noteFrame (.ref e) env) Q E s := by
  obtain ⟨hkb, hen, hl, vs, T, oT, ts, he, h1, hnT, hTe, hT, hdT, h3⟩ := H
  unfold noteFrame
  simp only [hf]
  refine PySem.wpAny_bind (wpAny_field he rfl h1 ?_)
  rw [if_pos (show (Value.ref T != Value.none) = true from by simp)]
  refine PySem.wpAny_bind (wpAny_field hT hdT h3 ?_)
  rw [if_pos (show (rawInt L == rawInt L) = true from by simp)]
  exact PySem.wpAny_pure h

theorem fly_note (hfr : A.frames = some (env :: outer)) (hf : env.frame = some L) (H : FlyD base (env :: outer) e de .none s.heap)
    (hQ : ∀ h', FlyD base (env :: outer) e de (rawInt L) h' → s.heap.UpToSlots h' → Q () { s with heap := h' }) : wpAny M A (noteFrame (.ref e) env) Q E s := by
  obtain ⟨hkb, hen, hl, vs, T, oT, ts, he, h1, hnT, hTe, hT, hdT, h3⟩ := H
  unfold noteFrame
  simp only [hf]
  refine PySem.wpAny_bind (wpAny_field he rfl h1 ?_)
  rw [if_pos (show (Value.ref T != Value.none) = true from by simp)]
  refine PySem.wpAny_bind (wpAny_field hT hdT h3 ?_)
  rw [if_neg (show ¬ ((Value.none == rawInt L) = true) from by simp [rawInt])]
  refine PySem.wpAny_bind (wpAny_setField hT hdT (Array.getElem?_eq_some_iff.mp h3).1 ?_)
  have noRecord : ∀ b o, s.heap.get? b = some o → (∀ vs, o.data ≠ .fields vs) → T ≠ b := fun b o hb hnf q => by
    rw [← q, hT] at hb; injection hb with hb; subst hb; exact hnf ts hdT
  refine fly_entry hfr (hl.of_keeps fun b o hb hnf => ⟨o, (Heap.get?_update_other _ _ (noRecord b o hb hnf)).trans hb, rfl⟩) hf ((Heap.get?_update_other _ _ hTe).trans he)
    (fun b o hb => (Heap.get?_update_other _ _ (fun q => by rw [← q, hnT] at hb; cases hb)).trans (hkb b o hb)) hen (Array.getElem?_eq_some_iff.mp h1).1 fun h' H' U => hQ h' H' fun b o hb hnf => ?_
  exact U b o ((Heap.get?_update_other _ _ (noRecord b o hb hnf)).trans hb) hnf

/-- the frame that raises is left -/
theorem fly_first {vs : Array Value} (hfr : A.frames = some (env :: outer)) (hl : s.heap.FunFrames base (env :: outer)) (hf : env.frame = some L) (he : s.heap.get? e = some (excV de vs)) (hkb : base.StaysIn s.heap) (hen : base.get? e = none) (h1 : vs[1]? = some .none)
    (hQ : ∀ h', FlyD base outer e de .none h' → s.heap.UpToSlots h' → Q () { s with heap := h' }) : wpAny M A (leaving env (.ref e)) Q E s := by
  unfold leaving noteFrame
  simp only [hf]
  refine PySem.wpAny_bind (PySem.wpAny_bind (wpAny_field he rfl h1 ?_))
  rw [if_neg (by decide)]
  refine fly_entry hfr hl hf he hkb hen (Array.getElem?_eq_some_iff.mp h1).1 fun h' H' U => ?_
  refine fly_land H' fun h2 H2 U2 => ?_
  obtain ⟨a, b, ⟨_, _, c⟩, d⟩ := H2
  exact hQ h2 ⟨a, b, c, d⟩ (U.trans U2)
/-- a further frame is left -/
theorem fly_next (hfr : A.frames = some (env :: outer)) (hf : env.frame = some L) (H : FlyD base (env :: outer) e de .none s.heap)
    (hQ : ∀ h', FlyD base outer e de .none h' → s.heap.UpToSlots h' → Q () { s with heap := h' }) : wpAny M A (leaving env (.ref e)) Q E s := by
  unfold leaving
  refine PySem.wpAny_bind (fly_note hfr hf H fun h' H' U => ?_)
  refine fly_land H' fun h2 H2 U2 => ?_
  obtain ⟨a, b, ⟨_, _, c⟩, d⟩ := H2
  exact hQ h2 ⟨a, b, c, d⟩ (U.trans U2)
end

/-- raised, and the frames above left: the ledger still stands -/
noncomputable def RaisedD (base : Heap) (l : List Env) (e de : Addr) (news : List (Addr × Obj)) (h : Heap) : Prop :=
  ∃ B, base.StaysIn B ∧ (∀ q ∈ news, B.get? q.1 = some q.2 ∧ base.get? q.1 = none) ∧ FlyD B l e de .none h
theorem RaisedD.sub {base h : Heap} {l : List Env} {e de : Addr} {news news' : List (Addr × Obj)} (R : RaisedD base l e de news h) (hs : ∀ q ∈ news', q ∈ news) : RaisedD base l e de news' h := by
  obtain ⟨B, a, b, c⟩ := R
  exact ⟨B, a, fun q hq => b q (hs q hq), c⟩
theorem FlyD.base {base B h : Heap} {l : List Env} {e de : Addr} {fl : Value} (k : base.StaysIn B) (x : FlyD B l e de fl h) : FlyD base l e de fl h := by
  obtain ⟨f1, f2, f3, vs, T, oT, ts, a1, a2, a3, a4⟩ := x
  exact ⟨fun b o q => f1 b o (k b o q), fresh_of_stays k f2, funFrames_base k f3, vs, T, oT, ts, a1, a2, fresh_of_stays k a3, a4⟩

section
variable {M : Model} {A : Around} {E : Value → Shared → Prop} {s' : Shared} {base g g₂ h : Heap} {outer : List Env} {L a e de t1 : Addr} {m : Str → Option Value} {name : Str} {scope : Scope} {cd : Value} {Q : Unit → Shared → Prop} {news : List (Addr × Obj)}
theorem leave_raiseD (K : Below A base outer g) (F : Fr g L s'.heap m) (N : News g L s'.heap ((e, excO t1 (some de)) :: news)) (hne : ∀ q ∈ news, q.1 ≠ e)
    (hQ : ∀ h', RaisedD base outer e de news h' → g.UpToSlots h' → Q () { s' with heap := h' }) (hk : scope.kind = .function := by rfl) :
    wpAny M (A.deeper (envOf name scope L a cd)) (leaving (envOf name scope L a cd) (.ref e)) Q E s' := by
  have K' := K.push (name := name) (a := a) (cd := cd) F hk
  have he := N _ (.head _)
  have heb : base.get? e = none := fresh_of_stays K.stays he.2.2
  have hin : ∀ env ∈ (envOf name scope L a cd :: outer), ∀ b, env.frame = some b → b ∈ e :: (envOf name scope L a cd :: outer).filterMap (·.frame) := fun env he b hb => .tail _ (List.mem_filterMap.mpr ⟨env, he, hb⟩)
  have st : base.StaysIn (hideAll s'.heap (e :: (envOf name scope L a cd :: outer).filterMap (·.frame))) := fun b o q => hideAll_get _ (K'.stays b o q) fun hm => by
    rcases List.mem_cons.mp hm with rfl | hm
    · rw [heb] at q; cases q
    · rw [(K'.frames.mem hm).1] at q; cases q
  have hl : ∀ q ∈ news, (hideAll s'.heap (e :: (envOf name scope L a cd :: outer).filterMap (·.frame))).get? q.1 = some q.2 ∧ base.get? q.1 = none := fun q hq => by
    refine ⟨hideAll_get _ (N q (.tail _ hq)).1 fun hm => ?_, fresh_of_stays K.stays (N q (.tail _ hq)).2.2⟩
    rcases List.mem_cons.mp hm with e1 | hm
    · exact hne q hq e1
    · obtain ⟨env, he, hf⟩ := List.mem_filterMap.mp hm
      rcases List.mem_cons.mp he with rfl | he
      · exact (N q (.tail _ hq)).2.1 (Option.some.inj hf).symm
      · obtain ⟨o, ho, _⟩ := (K.frames.mem (List.mem_filterMap.mpr ⟨env, he, hf⟩)).2
        rw [(N q (.tail _ hq)).2.2] at ho; cases ho
  refine fly_first (vs := #[.ref t1, .none, .none, .none, .bool false, .none]) (L := L) K'.stack (funFrames_hide K'.frames hin) rfl he.1 (fun b o q => of_hideAll _ q) (hideAll_none _ (.head _)) rfl fun h' H' U => ?_
  exact hQ h' ⟨_, st, hl, H'⟩ ((Heap.UpToSlots.of_keeps F.keep).trans U)

theorem leave_onD (K : Below A base outer g) (F : Fr g L g₂ m) (R : RaisedD base (envOf name scope L a cd :: outer) e de news s'.heap) (hsm : g₂.UpToSlots s'.heap)
    (hQ : ∀ h', RaisedD base outer e de news h' → g.UpToSlots h' → Q () { s' with heap := h' }) :
    wpAny M (A.deeper (envOf name scope L a cd)) (leaving (envOf name scope L a cd) (.ref e)) Q E s' := by
  obtain ⟨B, hB, hl, hfl⟩ := R
  exact fly_next (L := L) (Around.frames_deeper K.stack) rfl hfl fun h' x1 x2 => hQ h' ⟨B, hB, hl, x1⟩ ((Heap.UpToSlots.of_keeps F.keep).trans (hsm.trans x2))
end

section
variable {prog : Program} {w : World} {A₀ : Around} {E : Value → Shared → Prop} {s' : Shared} {h₀ h : Heap} {outer : List Env} {L a e de : Addr} {m : Str → Option Value} {name : Str} {scope : Scope} {cd : Value}
  {n : Str} {b₀ : Stmt} {suite : List Stmt} {pos np : Pos} {rest : List ExceptHandler} {Q : Flow → Shared → Prop} {news : List (Addr × Obj)} {KF : Frag}
  {p : Program} {loose : List Str} {mean : ExcName → Option Value} {mg mb : Str → Option Value} {x : Str} {P : Params}
theorem caughtD (K : Below A₀ h₀ outer h₀) (F : Fr h₀ L h m) (hsm : h.UpToSlots s'.heap) (R : RaisedD h₀ (envOf name scope L a cd :: outer) e de news s'.heap)
    (X : (hd.heap_350 P).In h₀) (T : TopRead p loose mg mb h₀) (ex : nsIn (hd.heap_350 P) mainGlobals x = some (some (.ref 130)))
    (k : ∀ h' vs tk, Fr h₀ L h' (fun y => if y = n then some (.ref e) else m y) → News h₀ L h' ((e, excV de vs) :: news) →
      wpAny (model prog w) ((A₀.deeper (envOf name scope L a cd)).mark (some (.ref e))) (execs (b₀ :: suite) (envOf name scope L a cd))
        (fun f s₄ => wpAny (model prog w) (A₀.deeper (envOf name scope L a cd)) (do bindName (envOf name scope L a cd) n .none; unbindBehindTheSuite (envOf name scope L a cd) n pos) (fun _ s₅ => Q f s₅) E s₄)
        (AsSuiteRaised (model prog w) ((A₀.deeper (envOf name scope L a cd)).mark (some (.ref e))) (envOf name scope L a cd) n pos (notedBy (model prog w) ((A₀.deeper (envOf name scope L a cd)).mark (some (.ref e))) (envOf name scope L a cd) (cameBackBy (model prog w) (A₀.deeper (envOf name scope L a cd)) (envOf name scope L a cd) E)))
        { s' with heap := h', toks := tk })
    (hk : scope.kind = .function := by rfl) (hlo : (envOf name scope L a cd).kindOf n = some .local := by rfl) (hx : (envOf name scope L a cd).kindOf x = some .globalImplicit := by rfl) (hd : (x == ("__debug__" : Str)) = false := by decide) :
    wpAny (model prog w) (A₀.deeper (envOf name scope L a cd)) (noteFrame (.ref e) (envOf name scope L a cd))
      (fun _ s₂ => wpAny (model prog w) (A₀.deeper (envOf name scope L a cd)) (setFlight (.ref e) none) (fun _ s₃ =>
        wpAny (model prog w) (A₀.deeper (envOf name scope L a cd)) (handleBy (.ref e) (envOf name scope L a cd) (.ExceptHandler (some (.Name x np)) (some n) (b₀ :: suite) pos :: rest)) Q E s₃) E s₂) E s' := by
  obtain ⟨B, hB, hl, hfl⟩ := R
  have hL : B.get? L = none := by
    obtain ⟨_, ⟨L', _, hf, hn', _⟩, _⟩ := hfl.2.2.1
    obtain rfl : L = L' := Option.some.inj hf
    exact hn'
  refine fly_note (L := L) (Around.frames_deeper K.stack) rfl hfl fun h₄ H4 sm4 => ?_
  refine fly_land H4 fun h₅ H5 sm5 => ?_
  have H5' := H5.base hB
  have F₅ := F.of_stays H5'.1 (hsm.trans (sm4.trans sm5))
  refine wpAny_handleBy_cons (codeAny_handlers_test (name_K F₅ X T ex ?_ hk hx hd)) (by intro q; cases q)
  obtain ⟨_, _, _, vs, T5, oT, ts, he, h1, hnT, hTe, hT, hdT, h3⟩ := id H5
  have hC : h₅.get? 130 = some gfCls := gf_obj (Frag.In.keeps X F₅.keep)
  refine wpAny_excMatches_sub_self hC he rfl (by decide) (codeAny_handlers_suite_as ?_)
  refine fly_land H5 fun h₆ H6 sm6 => ?_
  have H6' := H6.base hB
  have F₆ := F.of_stays H6'.1 ((hsm.trans (sm4.trans sm5)).trans sm6)
  obtain ⟨_, hnew, _, vs6, _, _, _, he6, _⟩ := id H6'
  have Nl : News h₀ L h₆ news := fun q hq => ⟨H6.1 _ _ (hl q hq).1, (fun z => by have := (hl q hq).1; rw [z, hL] at this; cases this), (hl q hq).2⟩
  have N₆ := News.more F₆ Nl he6 (fun es n q => by cases q) hnew
  refine stN F₆ N₆ (fun h₇ F₇ N₇ => ?_) hk hlo
  exact k h₇ vs6 _ F₇ N₇
end

section
variable {prog : Program} {w : World} {A : Around} {E : Value → Shared → Prop} {s : Shared} {P : Params} {x : Addr} {ox : Obj} {od : Option Obj}
/-- an attribute of an exception is read -/
theorem gf_get {name : Str} {v : Value} {expr : Bool} {Q : Value → Shared → Prop} (X : (hd.heap_350 P).In s.heap) (I : PySem.W.InstAt s.heap x ox 130 od) (hf : findObj (hd.heap_350 P) 130 od name = some (.value v)) (hh : handedIn v = true)
    (h : ∀ tk, Q v { s with toks := tk }) : wpAny (model prog w) A (getAttr (.ref x) name expr) Q E s := by
  obtain ⟨hp, g, d, t, os⟩ := s
  have hg : findIn (hd.heap_350 P) (.ref 130) "__getattribute__" = some (some (.builtin "BaseException.__getattribute__")) := by k_is
  have hg2 : findIn (hd.heap_350 P) (.ref 130) "__getattr__" = some none := by k_is
  have L0 := I.type (M := model prog w)
  have L1 := looks_findIn (M := model prog w) X hg
  have L2 := looks_findIn (M := model prog w) X hg2
  have L3 := looks_find (M := model prog w) X I hf
  unfold getAttr getAttrBy
  refine PySem.wpAny_bind (wpAny_mkText (wpAny_holding (PySem.wpAny_bind (L0.at (PySem.wpAny_bind (L1.at ?_))))))
  dsimp only
  have hx2 : (Value.builtin "BaseException.__getattribute__" == Value.builtin "object.__getattribute__") = false := by decide +kernel
  rw [hx2, Bool.and_false, if_neg (by decide)]
  have hx0 : (expr && onTheHeap (Value.builtin "BaseException.__getattribute__")) = false := by cases expr <;> rfl
  unfold getAttrByItsOwn
  refine PySem.wpAny_bind (L2.at ?_)
  unfold callGetattribute
  rw [hx0, if_neg (by decide)]
  have f3 := PySem.F.attrBase_Exception.ga.bind (.ref x)
  have hs : Looks (model prog w) hp (isInstance (.ref x) (.type "BaseException")) true := L0.andThen (looks_mroIn X (by unfold mroIn; rw [show clsIn (hd.heap_350 P) 130 = some { name := sGF, bases := [.ref 117], mro := .ref 130 :: gfBm, ns := 129, qualname := sGF } from rfl]; rfl))
  have body : codeAny (model prog w) A (.call (.builtin "BaseException.__getattribute__") ⟨[.ref x, .str name t], []⟩) (fun r s' => match r with | .ok (.ret u) => u = v ∧ s' = ⟨hp, g, d, t + 1, os⟩ | _ => False) ⟨hp, g, d, t + 1, os⟩ := by
    have hk : builtinKind "BaseException.__getattribute__" = some .slot := by decide +kernel
    have hsplit : splitId "BaseException.__getattribute__" = some ("BaseException", "__getattribute__") := by decide +kernel
    refine codeAny_call_builtin PySem.F.attrBase_Exception.ga.plain PySem.F.entry_bexc_ga (@check_slot (model prog w) _ _ ⟨hp, g, d, t + 1, os⟩ "BaseException.__getattribute__" "BaseException" "__getattribute__" (.ref x) [.str name t] [] _ hk hsplit hs (PySem.F.args_bexc_ga (.ref x) (.str name t)) ?_)
    unfold Builtin.«object.__getattribute__»
    refine PySem.wpAny_bind (PySem.wpAny_pure ?_)
    refine PySem.wpAny_bind (PySem.wpAny_pure ?_)
    refine PySem.wpAny_bind (L0.at (PySem.wpAny_bind (L3.at ?_)))
    exact PySem.wpAny_pure ⟨rfl, rfl⟩
  unfold boundAndCalled
  rw [f3]
  refine PySem.wpAny_bind ?_
  unfold Sem.attempt
  refine wpAny_tryCatch ?_
  refine PySem.wpAny_bind (wpAny_holding ?_)
  refine PySem.wpAny_bind (PySem.wpAny_pure ?_)
  refine wpAny_call (codeAny_mono body fun r s' z => ?_)
  rcases r with e | (u | _ | _ | _) <;> first | exact z.elim | skip
  obtain ⟨rfl, rfl⟩ := z
  refine PySem.wpAny_pure ?_
  show wpAny _ _ (handedOut _) _ _ _
  rw [handedOut_of hh]
  exact PySem.wpAny_pure (h _)
end

end
-- part C5

section
variable {prog : Program} {w : World} {A : Around} {E : Value → Shared → Prop} {s : Shared} {h₀ : Heap} {L : Addr} {news : List (Addr × Obj)}
theorem truthy_xs {l : Addr} {xs : List Addr} {nl : Nat} {Q : Bool → Shared → Prop} (N : News h₀ L s.heap news) (hm : (l, W.listOf (xs.map Value.ref).toArray nl) ∈ news) (hn : xs.length ≤ 1000) (hp : 0 < xs.length)
    (h : Q true { s with toks := s.toks + 1 + 1 }) : wpAny (model prog w) A (truthy (.ref l)) Q E s := by
  refine wpAny_truthy_list (News.isList N hm) (by simp; omega) ?_
  have e : xs.isEmpty = false := by
    cases xs with
    | nil => exact absurd hp (Nat.lt_irrefl 0)
    | cons _ _ => rfl
  simpa [e] using h
end
theorem said_8 : True := by
  k_with "truthy ref" => (k_here; (with_reducible show wpAny _ _ (truthy (Value.ref _)) _ _ _); k_dflt (refine' truthy_xs ?Nq7 ?mq7 ?nq7 ?pq7 ?_; (case Nq7 => k_asm); (case mq7 => k_mem); (case nq7 => assumption); (case pq7 => assumption); k_whole))
  k_with "call ref" => (k_here; (with_reducible show wpAny _ _ (call (Value.ref 130) [_, _]) _ _ _); k_dflt (refine' gf_make ?Bq7 ?Fq7 ?Xq7 ?Nq7 ?Pq7 ?Cq7 ?Dq7 ?Uq7 ?_; (case Nq7 => k_asm); (case Bq7 => k_asm); (case Fq7 => k_asm); (case Xq7 => k_asm); (case Pq7 => k_asm); (case Cq7 => first | exact rfl | assumption); (case Dq7 => ktr_room); (case Uq7 => ktr_units); k_whole; intro e' h' tk' t1' de' _ _ F' N' l1 l2 l3))
  trivial
noncomputable abbrev fObj (w : World) (x : Str) (q1 q2 tw : Tok) (pt : Addr) : Obj := dictOf [ent w ⟨⟨[119, 104, 97, 116]⟩⟩ q1 (.str x tw), ent w ⟨⟨[97, 116]⟩⟩ q2 (.ref pt)] 2
theorem ne_fresh {e de : Addr} {o : Obj} {news : List (Addr × Obj)} (l1 : ∀ q ∈ news, q.1 < e) (l3 : e < de) : ∀ q ∈ (de, o) :: news, q.1 ≠ e :=
  List.forall_mem_cons.mpr ⟨Nat.ne_of_gt l3, fun q hq => Nat.ne_of_lt (l1 q hq)⟩

set_option maxHeartbeats 4000000 in
theorem fault_spec {what : Str} {tw : Tok} (hT : RdIn w news r l dn dr nl k1 k2 k3 i t xs ds) (hp : 0 < ds.length) :
    Claim w 8 176 [.ref r, .str what tw] news
      (fun h₀ L m s Q _ => ∀ e h' tk' t1 de q1 q2 pt u3 u4, (pt, atObj (min i (ds.length - 1)) u3 u4) ∈ news → Fr h₀ L h' m → News h₀ L h' ((e, excO t1 (some de)) :: (de, fObj w what q1 q2 tw pt) :: news) → (∀ q ∈ (de, fObj w what q1 q2 tw pt) :: news, q.1 ≠ e) → Q (.ref e) { s with heap := h', toks := tk' }) := by
  intro prog p loose mean mg mb dp un gd cn cs a ccd cl outer A₀ base h₀ L m s Q E hB hF hX hN hTop hcs hd hu hret
  have hr := hT.inst
  have hl := hT.list
  have hlen := hT.len
  have hn := hT.few
  have hdict := hT.dict
  have hi := hT.at_
  have hp' : 0 < xs.length := by omega
  have hj : (if (xs.length : Int) - 1 < (i : Int) then (xs.length : Int) - 1 else (i : Int)).toNat = min i (ds.length - 1) := by
    split <;> omega
  have hjl : min i (ds.length - 1) < xs.length := by omega
  have e1 : xs[min i (ds.length - 1)]? = some (xs.getD (min i (ds.length - 1)) 0) := by simp [hjl]
  have e2 : ds[min i (ds.length - 1)]? = some (ds[min i (ds.length - 1)]'(by omega)) := by simp [← hlen, hjl]
  obtain ⟨dx, pt, q1, q2, q3, q4, u1, u2, u3, u4, a1, a2, a3⟩ := hT.toks _ _ _ e1 e2
  refine wpAny_call ?_
  k_dflt cell_enter
  k_steps
  rw [hj]
  k_steps
  exact hret _ _ _ _ _ _ _ _ _ _ a3 (by assumption) (by assumption) (ne_fresh (by assumption) (by assumption))

-- part C6
noncomputable def P0 : Params := { strHash := fun _ => 0, shareClass := fun _ => 0, mergeTok := fun t => t, idOf := fun _ => 0, idOfShared := fun _ _ => 0, followText := fun _ => false, idOfImm := fun _ => 0 }
noncomputable def resName : Str := ⟨⟨[82, 69, 83, 69, 82, 86, 69, 68]⟩⟩
noncomputable def resV : Value := match nsIn (hd.heap_350 P0) mainGlobals resName with
  | some (some v) => v
  | _ => .none
noncomputable def resT : Str := match resV with
  | .str x _ => x
  | _ => default
noncomputable def resK : Tok := match resV with
  | .str _ k => k
  | _ => default
set_option maxHeartbeats 4000000 in
theorem res_is (P : Params) : nsIn (hd.heap_350 P) mainGlobals resName = some (some (.str resT resK)) := by kernel_rfl
/-- the word stands in the long text -/
noncomputable def resB (x : Str) : Bool := !(Builtin.Str.occurrences resT (⟨⟨[32]⟩⟩ ++ x ++ ⟨⟨[32]⟩⟩) 0 resT.length 1).isEmpty

theorem said_9 : True := by
  k_with "eval Name" => (k_here; (with_reducible rename Fr _ _ _ _ => kF); with_unfolding_all refine guard_global (by rfl) ?_; k_dflt (refine' name_K kF ?k1q7 ?k2q7 ?k3q7 ?_; (case k1q7 => k_asm); (case k2q7 => k_asm); (case k3q7 => exact res_is _); k_whole))
  trivial
set_option maxHeartbeats 4000000 in
theorem is_reserved_spec {x : Str} {tx : Tok} (hz : x.length ≤ 1000) :
    Claim w 2 139 [.str x tx] news
      (fun h₀ L m s Q _ => ∀ h' tk', Fr h₀ L h' m → News h₀ L h' news → Q (.bool (resB x)) { s with heap := h', toks := tk' }) := by
  intro prog p loose mean mg mb dp un gd cn cs a ccd cl outer A₀ base h₀ L m s Q E hB hF hX hN hTop hcs hd hu hret
  refine wpAny_call ?_
  k_dflt cell_enter
  k_steps
  all_goals exact hret _ _ (by assumption) (by assumption)

-- part C7
theorem ToksIn.get {d : TD} {j : Nat} (hT : ToksIn w news r l dn dr nl xs ds) (hd : ds[j]? = some d) : TokAt w news (xs.getD j 0) d j := by
  have hlt : j < ds.length := by
    rcases Nat.lt_or_ge j ds.length with h | h
    · exact h
    · rw [List.getElem?_eq_none h] at hd; cases hd
  have hx : j < xs.length := by have := hT.len; omega
  exact hT.toks _ _ _ (by simp [hx]) hd
set_option maxHeartbeats 4000000 in
theorem peek_known {d : TD} (hT : RdIn w news r l dn dr nl k1 k2 k3 i t xs ds) (hd : ds[i]? = some d) :
    Claim w 2 162 [.ref r] news
      (fun h₀ L m s Q _ => ∀ h' tk', Fr h₀ L h' m → News h₀ L h' news → Q (.ref (xs.getD i 0)) { s with heap := h', toks := tk' }) := by
  intro prog p loose mean mg mb dp un gd cn cs a ccd cl outer A₀ base h₀ L m s Q E hB hF hX hN hTop hcs hdp hu hret
  have hr := hT.inst
  have hl := hT.list
  have hlen := hT.len
  have hn := hT.few
  have hdict := hT.dict
  have hi := hT.at_
  have hlt : i < ds.length := by
    rcases Nat.lt_or_ge i ds.length with h | h
    · exact h
    · rw [List.getElem?_eq_none h] at hd; cases hd
  clear hT
  refine wpAny_call ?_
  k_dflt cell_enter
  k_steps
  have hj : ((i : Int) + 0).toNat = i := by omega
  rw [hj]
  exact hret _ _ (by assumption) (by assumption)

theorem said_10 : True := by
  k_with "call ref" => (k_here; (with_reducible show wpAny _ _ (call (Value.ref 162) [_]) _ _ _); k_dflt (refine' peek_known ?Tq7 ?kq7 ?Bq7 ?Fq7 ?Xq7 ?Nq7 ?Pq7 ?Cq7 ?Dq7 ?Uq7 (fun h' tk' F' N' => ?_); (case Nq7 => k_asm); (case kq7 => assumption); (case Tq7 => first | assumption | exact RdIn.cons (by assumption) | exact RdIn.cons (RdIn.cons (by assumption)) | exact RdIn.cons (RdIn.cons (RdIn.cons (by assumption)))); (case Bq7 => k_asm); (case Fq7 => k_asm); (case Xq7 => k_asm); (case Pq7 => k_asm); (case Cq7 => first | exact rfl | assumption); (case Dq7 => ktr_room); (case Uq7 => ktr_units)); skip)
  trivial
theorem call_fst {M : Model} {A : Around} {E : Value → Shared → Prop} {s : Shared} {f : Value} {vs : List Value} {Q : Value → Shared → Prop} (h : wpAny M A (call f vs) Q E s) : wpAny M A (call (f, vs).fst ((f, vs).snd ++ [])) Q E s := by
  rw [List.append_nil]
  exact h

theorem said_11 : True := by
  k_with "call ref" => (k_here; (with_reducible refine call_fst ?_))
  trivial
set_option maxHeartbeats 4000000 in
theorem take_spec {led : List (Addr × Obj)} {d : TD} (hP : Pick dr (rdObj w l dn k1 k2 k3 i t) led news) (hne : ∀ p ∈ news, p.1 ≠ dr) (hT : ToksIn w news r l dn dr nl xs ds) (hi : i ≤ 1000) (hd : ds[i]? = some d) :
    Claim w 4 183 [.ref r] led
      (fun h₀ L m s Q _ => ∀ x dx p q1 q2 q3 q4 u1 u2 u3 u4 h' tk' t', (x, instObj 338 dx) ∈ news → (dx, tkObj w d p q1 q2 q3 q4 u1 u2) ∈ news → (p, atObj i u3 u4) ∈ news → Fr h₀ L h' m → News h₀ L h' ((dr, rdObj w l dn k1 k2 k3 (i + 1 : Nat) t') :: news) → Q (.ref x) { s with heap := h', toks := tk' }) := by
  intro prog p loose mean mg mb dp un gd cn cs a ccd cl outer A₀ base h₀ L m s Q E hB hF hX hN hTop hcs hdp hu hret
  have hr := hT.inst
  have hN := hP.led hN
  have hR := hT.rd (k1 := k1) (k2 := k2) (k3 := k3) (t := t) hi
  obtain ⟨dx, pt, q1, q2, q3, q4, u1, u2, u3, u4, a1, a2, a3⟩ := hT.get hd
  clear hP hT
  refine wpAny_call ?_
  k_dflt cell_enter
  k_steps
  all_goals exact hret _ _ _ _ _ _ _ _ _ _ _ _ _ _ a1 a2 a3 (by assumption) (by assumption)


theorem said_12 : True := by
  k_with "k_pick" => (first | exact Pick.head | (apply Pick.tail; k_extra "k_pick") | assumption)
  k_with "call ref" => (k_here; (with_reducible show wpAny _ _ (call (Value.ref 183) [_]) _ _ _); k_dflt (refine' take_spec ?Pq7 ?Eq7 ?Tq7 ?Iq7 ?Kq7 ?Bq7 ?Fq7 ?Xq7 ?Nq7 ?Tpq7 ?Cq7 ?Dq7 ?Uq7 (fun x' dx' p' _ _ _ _ _ _ _ _ h' tk' t' tm1 tm2 tm3 F' N' => ?_); (case Nq7 => k_asm); (case Pq7 => k_extra "k_pick"); (case Eq7 => assumption); (case Tq7 => assumption); (case Iq7 => assumption); (case Kq7 => assumption); (case Bq7 => k_asm); (case Fq7 => k_asm); (case Xq7 => k_asm); (case Tpq7 => k_asm); (case Cq7 => first | exact rfl | assumption); (case Dq7 => ktr_room); (case Uq7 => ktr_units)); skip)
  trivial
-- part C8
set_option maxHeartbeats 4000000 in
theorem peek_known2 {d : TD} {k : Int} {tk : Tok} (hT : RdIn w news r l dn dr nl k1 k2 k3 i t xs ds) (hk : 0 ≤ k ∧ k ≤ 1000) (hd : ds[i + k.toNat]? = some d) :
    Claim w 2 162 [.ref r, .int k tk] news
      (fun h₀ L m s Q _ => ∀ x dx p q1 q2 q3 q4 u1 u2 u3 u4 h' tk', (x, instObj 338 dx) ∈ news → (dx, tkObj w d p q1 q2 q3 q4 u1 u2) ∈ news → (p, atObj (i + k.toNat) u3 u4) ∈ news → Fr h₀ L h' m → News h₀ L h' news → Q (.ref x) { s with heap := h', toks := tk' }) := by
  intro prog p loose mean mg mb dp un gd cn cs a ccd cl outer A₀ base h₀ L m s Q E hB hF hX hN hTop hcs hdp hu hret
  have hr := hT.inst
  have hl := hT.list
  have hlen := hT.len
  have hn := hT.few
  have hdict := hT.dict
  have hi := hT.at_
  obtain ⟨dx, pt, q1, q2, q3, q4, u1, u2, u3, u4, a1, a2, a3⟩ := hT.toToksIn.get hd
  have hlt : i + k.toNat < ds.length := by
    rcases Nat.lt_or_ge (i + k.toNat) ds.length with h | h
    · exact h
    · rw [List.getElem?_eq_none h] at hd; cases hd
  clear hT
  refine wpAny_call ?_
  k_dflt cell_enter
  k_steps
  have hj : ((i : Int) + k).toNat = i + k.toNat := by omega
  rw [hj]
  exact hret _ _ _ _ _ _ _ _ _ _ _ _ _ a1 a2 a3 (by assumption) (by assumption)

theorem kindB_some {ds : List TD} {j : Nat} {kind : Str} (h : kindB ds j kind = true) : ∃ d, ds[j]? = some d ∧ d.1 = kind := by
  unfold kindB at h
  split at h
  · rename_i d e
    exact ⟨d, e, by simpa using h⟩
  · cases h

theorem is_kind3 {k : Int} {tk : Tok} {kind : Str} {tk2 : Tok} (hT : RdIn w news r l dn dr nl k1 k2 k3 i t xs ds) (hk : 0 ≤ k ∧ k ≤ 1000) :
    Claim w 4 191 [.ref r, .str kind tk2, .int k tk] news
      (fun h₀ L m s Q _ => (∀ d h' tk', ds[i + k.toNat]? = some d → d.1 = kind → kindB ds (i + k.toNat) kind = true → Fr h₀ L h' m → News h₀ L h' news → Q (.bool true) { s with heap := h', toks := tk' }) ∧
        ∀ h' tk', kindB ds (i + k.toNat) kind = false → Fr h₀ L h' m → News h₀ L h' news → Q (.bool false) { s with heap := h', toks := tk' }) := by
  intro prog p loose mean mg mb dp un gd cn cs a ccd cl outer A₀ base h₀ L m s Q E hB hF hX hN hTop hcs hdp hu hret
  refine is_kind_spec hT hk hB hF hX hN hTop hcs hdp hu fun h' tk' F' N' => ?_
  cases hkb : kindB ds (i + k.toNat) kind with
  | true =>
    obtain ⟨d, e1, e2⟩ := kindB_some hkb
    exact hret.1 _ _ _ e1 e2 hkb F' N'
  | false => exact hret.2 _ _ hkb F' N'

theorem is_kind2 {kind : Str} {tk2 : Tok} (hT : RdIn w news r l dn dr nl k1 k2 k3 i t xs ds) :
    Claim w 4 191 [.ref r, .str kind tk2] news
      (fun h₀ L m s Q _ => (∀ d h' tk', ds[i]? = some d → d.1 = kind → kindB ds i kind = true → Fr h₀ L h' m → News h₀ L h' news → Q (.bool true) { s with heap := h', toks := tk' }) ∧
        ∀ h' tk', kindB ds i kind = false → Fr h₀ L h' m → News h₀ L h' news → Q (.bool false) { s with heap := h', toks := tk' }) := by
  intro prog p loose mean mg mb dp un gd cn cs a ccd cl outer A₀ base h₀ L m s Q E hB hF hX hN hTop hcs hdp hu hret
  refine is_kind_spec2 hT hB hF hX hN hTop hcs hdp hu fun h' tk' F' N' => ?_
  cases hkb : kindB ds i kind with
  | true =>
    obtain ⟨d, e1, e2⟩ := kindB_some hkb
    exact hret.1 _ _ _ e1 e2 hkb F' N'
  | false => exact hret.2 _ _ hkb F' N'


theorem said_13 : True := by
  k_with "call ref" => (k_here; (with_reducible show wpAny _ _ (call (Value.ref 162) [_, Value.int _ _]) _ _ _); k_dflt (refine' peek_known2 ?Tq7 ?kq7 ?kdq7 ?Bq7 ?Fq7 ?Xq7 ?Nq7 ?Pq7 ?Cq7 ?Dq7 ?Uq7 (fun x' dx' p' _ _ _ _ _ _ _ _ h' tk' tm1 tm2 tm3 F' N' => ?_); (case Nq7 => k_asm); (case kdq7 => assumption); (case kq7 => omega); (case Tq7 => first | assumption | exact RdIn.cons (by assumption) | exact RdIn.cons (RdIn.cons (by assumption)) | exact RdIn.cons (RdIn.cons (RdIn.cons (by assumption)))); (case Bq7 => k_asm); (case Fq7 => k_asm); (case Xq7 => k_asm); (case Pq7 => k_asm); (case Cq7 => first | exact rfl | assumption); (case Dq7 => ktr_room); (case Uq7 => ktr_units)); skip)
  k_with "call ref" => (k_here; (with_reducible show wpAny _ _ (call (Value.ref 191) [_, _, Value.int _ _]) _ _ _); k_dflt (refine' is_kind3 ?Tq7 ?kq7 ?Bq7 ?Fq7 ?Xq7 ?Nq7 ?Pq7 ?Cq7 ?Dq7 ?Uq7 ⟨fun d' h' tk' e1' e2' e3' F' N' => ?_, fun h' tk' e3' F' N' => ?_⟩; (case Nq7 => k_asm); (case Tq7 => first | assumption | exact RdIn.cons (by assumption) | exact RdIn.cons (RdIn.cons (by assumption)) | exact RdIn.cons (RdIn.cons (RdIn.cons (by assumption)))); (case kq7 => omega); (case Bq7 => k_asm); (case Fq7 => k_asm); (case Xq7 => k_asm); (case Pq7 => k_asm); (case Cq7 => first | exact rfl | assumption); (case Dq7 => ktr_room); (case Uq7 => ktr_units)))
  k_with "call ref" => (k_here; (with_reducible show wpAny _ _ (call (Value.ref 191) [_, _]) _ _ _); k_dflt (refine' is_kind2 ?Tq7 ?Bq7 ?Fq7 ?Xq7 ?Nq7 ?Pq7 ?Cq7 ?Dq7 ?Uq7 ⟨fun d' h' tk' e1' e2' e3' F' N' => ?_, fun h' tk' e3' F' N' => ?_⟩; (case Nq7 => k_asm); (case Tq7 => first | assumption | exact RdIn.cons (by assumption) | exact RdIn.cons (RdIn.cons (by assumption)) | exact RdIn.cons (RdIn.cons (RdIn.cons (by assumption)))); (case Bq7 => k_asm); (case Fq7 => k_asm); (case Xq7 => k_asm); (case Pq7 => k_asm); (case Cq7 => first | exact rfl | assumption); (case Dq7 => ktr_room); (case Uq7 => ktr_units)))
  trivial
theorem gf_raise_stmt {M : Model} {A : Around} {E : Value → Shared → Prop} {s : Shared} {env : Env} {x : Sem Value} {Q : Flow → Shared → Prop} (hh : A.handled = none)
    (h : wpAny M A x (fun v s₁ => ∃ e t d, v = .ref e ∧ s₁.heap.get? 130 = some gfCls ∧ s₁.heap.get? e = some (excO t d) ∧ E (.ref e) s₁) E s) :
    wpAny M A (raiseStmt env (some x) none) Q E s := by
  have hcB : (Value.ref 130 :: gfBm).contains (.type "BaseException") = true := by decide
  unfold raiseStmt
  refine wpAny_bind (wpAny_mono h (fun v s₁ h₁ => ?_) fun _ _ x => x)
  obtain ⟨e, t, d, rfl, hC, he, hE⟩ := h₁
  obtain ⟨hp, g, d, tk, os⟩ := s₁
  repeat (first | with_reducible refine wpAny_loadPart_at he ?_ | with_reducible refine wpAny_loadPart_at hC ?_ | (with_reducible refine wpAny_isSubtype_exc hC ?_; rw [hcB]) | wp_step)
  exact wpAny_raiseNew_none hh hE
/-- what is raised is one of our own -/
noncomputable def RaisD (E : Value → Shared → Prop) (v : Value) (s₁ : Shared) : Prop := ∃ e t d, v = .ref e ∧ s₁.heap.get? 130 = some gfCls ∧ s₁.heap.get? e = some (excO t d) ∧ E (.ref e) s₁
theorem Raise_gf {M : Model} {A : Around} {E : Value → Shared → Prop} {s : Shared} {env : Env} {e : PySem.Expr} {pos : Pos} {Q : Flow → Shared → Prop} (hh : A.handled = none)
    (h : wpAny M A (eval e env) (RaisD E) E s) : wpAny M A (exec (.Raise (some e) none pos) env) Q E s := by
  show wpAny M A (do standAt pos; raiseStmt env (some (do let v ← eval e env; standAt pos; pure v)) none) Q E s
  refine wpAny_bind (wpAny_standAt ?_)
  refine gf_raise_stmt hh ?_
  exact wpAny_bind (wpAny_mono h (fun v s₁ h₁ => wpAny_bind (wpAny_standAt (wpAny_pure h₁))) fun _ _ x => x)
theorem RaisD.intro {E : Value → Shared → Prop} {s₁ : Shared} {h₀ : Heap} {L e t : Addr} {d : Option Addr} {m : Str → Option Value} {led : List (Addr × Obj)} {P : Params} (F : Fr h₀ L s₁.heap m) (X : (hd.heap_350 P).In h₀) (N : News h₀ L s₁.heap led) (hm : (e, excO t d) ∈ led) (h : E (.ref e) s₁) : RaisD E (.ref e) s₁ :=
  ⟨e, t, d, rfl, gf_obj (Frag.In.keeps X F.keep), (N _ hm).1, h⟩

theorem said_14 : True := by
  k_with "exec Raise some none" => (k_here; refine Raise_gf rfl ?_)
  k_with "RaisD" => (k_dflt (refine' RaisD.intro ?Fq7 ?Xq7 ?Nq7 ?mq7 ?_; (case Fq7 => k_asm); (case Nq7 => k_asm); (case Xq7 => k_asm); (case mq7 => exact List.Mem.head _)))
  k_with "call ref" => (k_here; (with_reducible show wpAny _ _ (call (Value.ref 176) [_, Value.str _ _]) _ _ _); k_dflt (refine' fault_spec ?Tq7 ?Gq7 ?Bq7 ?Fq7 ?Xq7 ?Nq7 ?Pq7 ?Cq7 ?Dq7 ?Uq7 (fun e' h' tk' t1' de' _ _ pt' _ _ pm' F' N' ne' => ?_); (case Nq7 => k_asm); (case Tq7 => first | assumption | exact RdIn.cons (by assumption) | exact RdIn.cons (RdIn.cons (by assumption)) | exact RdIn.cons (RdIn.cons (RdIn.cons (by assumption)))); (case Gq7 => assumption); (case Bq7 => k_asm); (case Fq7 => k_asm); (case Xq7 => k_asm); (case Pq7 => k_asm); (case Cq7 => first | exact rfl | assumption); (case Dq7 => ktr_room); (case Uq7 => ktr_units)))
  trivial
noncomputable abbrev ClaimE (w : World) (deep : Nat) (f : Addr) (vs : List Value) (news : List (Addr × Obj))
    (ends : (Heap → Addr → (Str → Option Value) → Shared → (Value → Shared → Prop) → (Value → Shared → Prop) → Heap → List Env → Prop)) : Prop :=
  ∀ {prog p : Program} {loose : List Str} {mean : ExcName → Option Value} {mg mb : Str → Option Value} {dp un : Nat} {gd : Option (List Code)} {cn : Str} {cs : Scope} {a : Addr} {ccd : Value} {cl : List (Str × Addr)} {outer : List Env} {A₀ : Around} {base h₀ : Heap} {L : Addr} {m : Str → Option Value} {s : Shared} {Q E : Value → Shared → Prop},
    Below A₀ base outer h₀ → Fr h₀ L s.heap m → (hd.heap_350 w.params).In h₀ → News h₀ L s.heap news → Top p loose mean mg mb h₀ → cs.kind = .function → dp + deep < recursionLimit → un + 8 * deep < cLine →
    ends h₀ L m s Q E base (envX cn cs L a ccd cl :: outer) →
      wpAny (model prog w) (ktrTop dp un gd cn cs L a ccd cl outer) (call (.ref f) vs) Q E s
/-- a fault has left the call: told at token j, and the ledger stands -/
noncomputable def FaultEnds (w : World) (h₀ : Heap) (L : Addr) (m : Str → Option Value) (s : Shared) (E : Value → Shared → Prop) (base : Heap) (envs : List Env) (j : Nat) (led : List (Addr × Obj)) : Prop :=
  ∀ g e de x q1 q2 tw pt u3 u4 h' tk', (pt, atObj j u3 u4) ∈ led → Fr h₀ L g m → RaisedD base envs e de ((de, fObj w x q1 q2 tw pt) :: led) h' → g.UpToSlots h' → E (.ref e) { s with heap := h', toks := tk' }


theorem said_15 : True := by
  k_with "leaving ref" => (k_here; k_dflt (first | (refine' leave_raiseD ?Kq7 ?Fq7 ?Nq7 ?neq7 ?_; (case Kq7 => assumption); (case Fq7 => k_asm); (case Nq7 => assumption); (case neq7 => assumption); k_whole; intro h' R' U') | (refine' leave_onD ?Kq7 ?Fq7 ?Rq7 ?smq7 ?_; (case Kq7 => assumption); (case Fq7 => assumption); (case Rq7 => assumption); (case smq7 => assumption); k_whole; intro h' R' U')))
  trivial
set_option maxHeartbeats 4000000 in
theorem word_spec {led : List (Addr × Obj)} (hP : Pick dr (rdObj w l dn k1 k2 k3 i t) led news) (hne : ∀ p ∈ news, p.1 ≠ dr) (hT : ToksIn w news r l dn dr nl xs ds) (hi : i ≤ 1000) (hp : 0 < ds.length) :
    ClaimE w 10 226 [.ref r] led
      (fun h₀ L m s Q E base envs => (∀ d h' tk' t' u, ds[i]? = some d → d.1 = ⟨⟨[119, 111, 114, 100]⟩⟩ → kindB ds i ⟨⟨[119, 111, 114, 100]⟩⟩ = true → Fr h₀ L h' m → News h₀ L h' ((dr, rdObj w l dn k1 k2 k3 (i + 1 : Nat) t') :: news) → Q (.str d.2 u) { s with heap := h', toks := tk' }) ∧
        (kindB ds i ⟨⟨[119, 111, 114, 100]⟩⟩ = false → FaultEnds w h₀ L m s E base envs (min i (ds.length - 1)) ((dr, rdObj w l dn k1 k2 k3 i t) :: news))) := by
  intro prog p loose mean mg mb dp un gd cn cs a ccd cl outer A₀ base h₀ L m s Q E hB hF hX hN hTop hcs hdp hu hret
  have hr := hT.inst
  have hN := hP.led hN
  have hR := hT.rd (k1 := k1) (k2 := k2) (k3 := k3) (t := t) hi
  clear hP
  refine wpAny_call ?_
  k_dflt cell_enter
  k_steps
  · exact hret.1 _ _ _ _ _ (by assumption) (by assumption) (by assumption) (by assumption) (by assumption)
  · exact hret.2 (by assumption) _ _ _ _ _ _ _ _ _ _ _ _ (by assumption) (by assumption) (by assumption) (by assumption)

set_option maxHeartbeats 4000000 in
theorem literal_spec {led : List (Addr × Obj)} (hP : Pick dr (rdObj w l dn k1 k2 k3 i t) led news) (hne : ∀ p ∈ news, p.1 ≠ dr) (hT : ToksIn w news r l dn dr nl xs ds) (hi : i ≤ 1000) (hp : 0 < ds.length) :
    ClaimE w 10 298 [.ref r] led
      (fun h₀ L m s Q E base envs => (∀ d h' tk' t' u, ds[i]? = some d → d.1 = ⟨⟨[108, 105, 116, 101, 114, 97, 108]⟩⟩ → kindB ds i ⟨⟨[108, 105, 116, 101, 114, 97, 108]⟩⟩ = true → Fr h₀ L h' m → News h₀ L h' ((dr, rdObj w l dn k1 k2 k3 (i + 1 : Nat) t') :: news) → Q (.str d.2 u) { s with heap := h', toks := tk' }) ∧
        (kindB ds i ⟨⟨[108, 105, 116, 101, 114, 97, 108]⟩⟩ = false → FaultEnds w h₀ L m s E base envs (min i (ds.length - 1)) ((dr, rdObj w l dn k1 k2 k3 i t) :: news))) := by
  intro prog p loose mean mg mb dp un gd cn cs a ccd cl outer A₀ base h₀ L m s Q E hB hF hX hN hTop hcs hdp hu hret
  have hr := hT.inst
  have hN := hP.led hN
  have hR := hT.rd (k1 := k1) (k2 := k2) (k3 := k3) (t := t) hi
  clear hP
  refine wpAny_call ?_
  k_dflt cell_enter
  k_steps
  · exact hret.1 _ _ _ _ _ (by assumption) (by assumption) (by assumption) (by assumption) (by assumption)
  · exact hret.2 (by assumption) _ _ _ _ _ _ _ _ _ _ _ _ (by assumption) (by assumption) (by assumption) (by assumption)

/-- a word that is no reserved one -/
noncomputable def nameB (ds : List TD) (j : Nat) : Bool := match ds[j]? with
  | some d => d.1 == ⟨⟨[119, 111, 114, 100]⟩⟩ && !resB d.2
  | none => false
theorem nameB_some {ds : List TD} {j : Nat} (h : nameB ds j = true) : ∃ d, ds[j]? = some d := by
  unfold nameB at h
  split at h
  · rename_i d e
    exact ⟨d, e⟩
  · cases h
theorem nameB_of {ds : List TD} {j : Nat} {d : TD} (h : ds[j]? = some d) (hk : d.1 = ⟨⟨[119, 111, 114, 100]⟩⟩) : nameB ds j = !resB d.2 := by
  simp [nameB, h, hk]
theorem nameB_no {ds : List TD} {j : Nat} (h : kindB ds j ⟨⟨[119, 111, 114, 100]⟩⟩ = false) : nameB ds j = false := by
  unfold kindB at h
  unfold nameB
  split <;> simp_all


theorem said_16 : True := by
  k_with "call ref" => (k_here; (with_reducible show wpAny _ _ (call (Value.ref 139) [Value.str _ _]) _ _ _); k_dflt (refine' is_reserved_spec ?Zq7 ?Bq7 ?Fq7 ?Xq7 ?Nq7 ?Pq7 ?Cq7 ?Dq7 ?Uq7 (fun h' tk' F' N' => ?_); (case Nq7 => k_asm); (case Zq7 => exact ToksIn.short (RdIn.toToksIn (by assumption)) _ _ (by assumption)); (case Bq7 => k_asm); (case Fq7 => k_asm); (case Xq7 => k_asm); (case Pq7 => k_asm); (case Cq7 => first | exact rfl | assumption); (case Dq7 => ktr_room); (case Uq7 => ktr_units)))
  trivial
set_option maxHeartbeats 4000000 in
theorem is_name_spec (hT : RdIn w news r l dn dr nl k1 k2 k3 i t xs ds) :
    Claim w 6 234 [.ref r] news
      (fun h₀ L m s Q _ => ∀ h' tk', Fr h₀ L h' m → News h₀ L h' news → Q (.bool (nameB ds i)) { s with heap := h', toks := tk' }) := by
  intro prog p loose mean mg mb dp un gd cn cs a ccd cl outer A₀ base h₀ L m s Q E hB hF hX hN hTop hcs hdp hu hret
  have hr := hT.inst
  have hdict := hT.dict
  refine wpAny_call ?_
  k_dflt cell_enter
  k_steps
  · exact endV (hret _ _ (by assumption) (by assumption)) (by rw [nameB_of (by assumption) (by assumption)])
  · exact endV (hret _ _ (by assumption) (by assumption)) (by rw [nameB_no (by assumption)])

theorem is_name2 (hT : RdIn w news r l dn dr nl k1 k2 k3 i t xs ds) :
    Claim w 6 234 [.ref r] news
      (fun h₀ L m s Q _ => (∀ d h' tk', ds[i]? = some d → nameB ds i = true → Fr h₀ L h' m → News h₀ L h' news → Q (.bool true) { s with heap := h', toks := tk' }) ∧
        ∀ h' tk', nameB ds i = false → Fr h₀ L h' m → News h₀ L h' news → Q (.bool false) { s with heap := h', toks := tk' }) := by
  intro prog p loose mean mg mb dp un gd cn cs a ccd cl outer A₀ base h₀ L m s Q E hB hF hX hN hTop hcs hdp hu hret
  refine is_name_spec hT hB hF hX hN hTop hcs hdp hu fun h' tk' F' N' => ?_
  cases hkb : nameB ds i with
  | true =>
    obtain ⟨d, e1⟩ := nameB_some hkb
    exact hret.1 _ _ _ e1 hkb F' N'
  | false => exact hret.2 _ _ hkb F' N'

theorem said_17 : True := by
  k_with "call ref" => (k_here; (with_reducible show wpAny _ _ (call (Value.ref 234) [_]) _ _ _); k_dflt (refine' is_name2 ?Tq7 ?Bq7 ?Fq7 ?Xq7 ?Nq7 ?Pq7 ?Cq7 ?Dq7 ?Uq7 ⟨fun d' h' tk' e1' e3' F' N' => ?_, fun h' tk' e3' F' N' => ?_⟩; (case Nq7 => k_asm); (case Tq7 => first | assumption | exact RdIn.cons (by assumption) | exact RdIn.cons (RdIn.cons (by assumption)) | exact RdIn.cons (RdIn.cons (RdIn.cons (by assumption)))); (case Bq7 => k_asm); (case Fq7 => k_asm); (case Xq7 => k_asm); (case Pq7 => k_asm); (case Cq7 => first | exact rfl | assumption); (case Dq7 => ktr_room); (case Uq7 => ktr_units)))
  trivial
set_option maxHeartbeats 4000000 in
theorem name_spec {led : List (Addr × Obj)} (hP : Pick dr (rdObj w l dn k1 k2 k3 i t) led news) (hne : ∀ p ∈ news, p.1 ≠ dr) (hT : ToksIn w news r l dn dr nl xs ds) (hi : i ≤ 1000) (hp : 0 < ds.length) :
    ClaimE w 10 241 [.ref r] led
      (fun h₀ L m s Q E base envs => (∀ d h' tk' t' u, ds[i]? = some d → nameB ds i = true → Fr h₀ L h' m → News h₀ L h' ((dr, rdObj w l dn k1 k2 k3 (i + 1 : Nat) t') :: news) → Q (.str d.2 u) { s with heap := h', toks := tk' }) ∧
        (nameB ds i = false → FaultEnds w h₀ L m s E base envs (min i (ds.length - 1)) ((dr, rdObj w l dn k1 k2 k3 i t) :: news))) := by
  intro prog p loose mean mg mb dp un gd cn cs a ccd cl outer A₀ base h₀ L m s Q E hB hF hX hN hTop hcs hdp hu hret
  have hr := hT.inst
  have hN := hP.led hN
  have hR := hT.rd (k1 := k1) (k2 := k2) (k3 := k3) (t := t) hi
  clear hP
  refine wpAny_call ?_
  k_dflt cell_enter
  k_steps
  · exact hret.1 _ _ _ _ _ (by assumption) (by assumption) (by assumption) (by assumption)
  · exact hret.2 (by assumption) _ _ _ _ _ _ _ _ _ _ _ _ (by assumption) (by assumption) (by assumption) (by assumption)

-- part C9

set_option maxHeartbeats 4000000 in
theorem skip2_if {led : List (Addr × Obj)} {words x y : Str} {tk2 : Tok} (hP : Pick dr (rdObj w l dn k1 k2 k3 i t) led news) (hne : ∀ p ∈ news, p.1 ≠ dr) (hT : ToksIn w news r l dn dr nl xs ds) (hi : i ≤ 1000)
    (hsp : Txt.split words ⟨⟨[32]⟩⟩ = [x, y]) (hz : words.length + 2 ≤ sizeLine) :
    Claim w 8 205 [.ref r, .str words tk2] led
      (fun h₀ L m s Q _ => ((wordB ds i x && wordB ds (i + 1) y) = true → ∀ h' tk' t', Fr h₀ L h' m → News h₀ L h' ((dr, rdObj w l dn k1 k2 k3 (i + 2 : Nat) t') :: news) → Q (.bool true) { s with heap := h', toks := tk' }) ∧
        ((wordB ds i x && wordB ds (i + 1) y) = false → ∀ h' tk', Fr h₀ L h' m → News h₀ L h' ((dr, rdObj w l dn k1 k2 k3 i t) :: news) → Q (.bool false) { s with heap := h', toks := tk' })) := by
  intro prog p loose mean mg mb dp un gd cn cs a ccd cl outer A₀ base h₀ L m s Q E hB hF hX hN hTop hcs hd hu hret
  have hr := hT.inst
  have hN := hP.led hN
  have hR := hT.rd (k1 := k1) (k2 := k2) (k3 := k3) (t := t) hi
  clear hP hT
  refine wpAny_call ?_
  k_dflt cell_enter
  k_steps
  · exact hret.1 (by assumption) _ _ _ (by assumption) (nt (by assumption))
  · exact hret.2 (by assumption) _ _ (by assumption) (by assumption)

theorem ToksIn.cons {p : Addr × Obj} (h : ToksIn w news r l dn dr nl xs ds) : ToksIn w (p :: news) r l dn dr nl xs ds := h.mono fun _ hp => .tail _ hp

-- part C10


theorem said_18 : True := by
  k_with "k_toks" => (first | assumption | exact ToksIn.cons (by assumption) | exact ToksIn.cons (ToksIn.cons (by assumption)) | exact ToksIn.cons (ToksIn.cons (ToksIn.cons (by assumption))))
  k_with "k_small" => (first | assumption | omega)
  trivial
theorem skip_if1 {led : List (Addr × Obj)} {words : Str} {tk2 : Tok} (hP : Pick dr (rdObj w l dn k1 k2 k3 i t) led news) (hne : ∀ p ∈ news, p.1 ≠ dr) (hT : ToksIn w news r l dn dr nl xs ds) (hi : i ≤ 1000)
    (hsp : Txt.split words ⟨⟨[32]⟩⟩ = [words]) (hz : words.length ≤ 100) :
    Claim w 8 205 [.ref r, .str words tk2] led
      (fun h₀ L m s Q _ => (wordB ds i words = true → ∀ h' tk' t', Fr h₀ L h' m → News h₀ L h' ((dr, rdObj w l dn k1 k2 k3 (i + 1 : Nat) t') :: news) → Q (.bool true) { s with heap := h', toks := tk' }) ∧
        (wordB ds i words = false → ∀ h' tk', Fr h₀ L h' m → News h₀ L h' ((dr, rdObj w l dn k1 k2 k3 i t) :: news) → Q (.bool false) { s with heap := h', toks := tk' })) :=
  skip_if hP hne hT hi hsp (by rw [sizeLine_eq]; omega)
noncomputable def skipN (ds : List TD) (i : Nat) (x : Str) : Nat := i + (wordB ds i x).toNat
theorem skipN_le {ds : List TD} {i : Nat} {x : Str} : skipN ds i x ≤ i + 1 := Nat.add_le_add_left (by cases wordB ds i x <;> decide) _
theorem skip_on {led : List (Addr × Obj)} {words : Str} {tk2 : Tok} (hP : Pick dr (rdObj w l dn k1 k2 k3 i t) led news) (hne : ∀ p ∈ news, p.1 ≠ dr) (hT : ToksIn w news r l dn dr nl xs ds) (hi : i ≤ 1000)
    (hsp : Txt.split words ⟨⟨[32]⟩⟩ = [words]) (hz : words.length ≤ 100) :
    Claim w 8 205 [.ref r, .str words tk2] led
      (fun h₀ L m s Q _ => ∀ j h' tk' t', skipN ds i words = j → j ≤ i + 1 → Fr h₀ L h' m → News h₀ L h' ((dr, rdObj w l dn k1 k2 k3 j t') :: news) → Q (.bool (wordB ds i words)) { s with heap := h', toks := tk' }) := by
  intro prog p loose mean mg mb dp un gd cn cs a ccd cl outer A₀ base h₀ L m s Q E hB hF hX hN hTop hcs hd hu hret
  refine skip_fn hP hne hT hi hsp (by rw [sizeLine_eq]; omega) hB hF hX hN hTop hcs hd hu fun h' tk' t' F' N' => ?_
  exact hret (skipN ds i words) h' tk' t' rfl skipN_le F' N'

theorem said_19 : True := by
  k_with "call ref" => (k_here; (with_reducible show wpAny _ _ (call (Value.ref 205) [_, Value.str _ _]) _ _ _); k_dflt (refine' skip_if1 ?Pq7 ?Eq7 ?Tq7 ?Iq7 ?Sq7 ?Zq7 ?Bq7 ?Fq7 ?Xq7 ?Nq7 ?Tpq7 ?Cq7 ?Dq7 ?Uq7 ⟨fun hw' h' tk' t' F' N' => ?_, fun hw' h' tk' F' N' => ?_⟩; (case Nq7 => k_asm); (case Pq7 => k_extra "k_pick"); (case Eq7 => k_all); (case Tq7 => k_extra "k_toks"); (case Iq7 => k_extra "k_small"); (case Sq7 => decide +kernel); (case Zq7 => decide +kernel); (case Bq7 => k_asm); (case Fq7 => k_asm); (case Xq7 => k_asm); (case Tpq7 => k_asm); (case Cq7 => first | exact rfl | assumption); (case Dq7 => ktr_room); (case Uq7 => ktr_units)))
  trivial
/-- the first of the words that stands at i -/
noncomputable def oneW (ds : List TD) (i : Nat) : List (Str × Str) → Option Str
  | [] => none
  | (x, y) :: r => if wordB ds i x then some y else oneW ds i r
noncomputable abbrev orgs : List (Str × Str) := [((Str.ofString "SEQUENTIAL"), (Str.ofString "sequential")), ((Str.ofString "RELATIVE"), (Str.ofString "relative")), ((Str.ofString "INDEXED"), (Str.ofString "indexed"))]
noncomputable abbrev accs : List (Str × Str) := [((Str.ofString "SEQUENTIAL"), (Str.ofString "sequential")), ((Str.ofString "RANDOM"), (Str.ofString "random")), ((Str.ofString "DYNAMIC"), (Str.ofString "dynamic"))]
theorem lt_all {I : Addr} : ∀ {l : List (Addr × Obj)}, AllLt I l → ∀ p ∈ l, p.1 < I
  | [], _ => fun p hp => nomatch hp
  | q :: r, h => fun p hp => by
    rcases List.mem_cons.mp hp with rfl | hp
    · exact h.1
    · exact lt_all h.2 p hp
theorem unrEndW_pick {h₀ : Heap} {L I : Addr} {o : Obj} {rest : (Str → Option Value) → List (Addr × Obj) → Prop} {s₁ : Shared} {h' : Heap} {tk : Nat} {m' : Str → Option Value} {all news' : List (Addr × Obj)} (F : Fr h₀ L h' m') (N : News h₀ L h' all)
    (P : Pick I o all news') (off : ∀ p ∈ news', p.1 ≠ I) (r : rest m' news') : UnrEndW h₀ L s₁ [(I, o)] rest { s₁ with heap := h', toks := tk } :=
  ⟨h', tk, m', news', rfl, F, P.led N, fun p hp q hq => by rw [List.mem_singleton.mp hq]; exact off p hp, r⟩
theorem said_20 : True := by
  k_with "UnrEndW" => (refine' unrEndW_pick ?F9q7 ?N9q7 ?P9q7 ?o9q7 ⟨?sb9q7, ?_⟩; (case F9q7 => k_asm); (case N9q7 => assumption); (case P9q7 => k_extra "k_pick"); (case o9q7 => first | exact off_of_lt (by assumption) | exact off_of_lt (lt_all (by assumption))); (case sb9q7 => trivial))
  trivial
theorem oneW_hit {ds : List TD} {i : Nat} {x y : Str} {r : List (Str × Str)} (h : wordB ds i x = true) : oneW ds i ((x, y) :: r) = some y := by
  rw [oneW, h]
  rfl
theorem oneW_miss {ds : List TD} {i : Nat} {x y : Str} {r : List (Str × Str)} {z : Option Str} (h : wordB ds i x = false) (h2 : oneW ds i r = z) : oneW ds i ((x, y) :: r) = z := by
  rw [oneW, h]
  exact h2
theorem drop2 {h₀ h : Heap} {L : Addr} {p q : Addr × Obj} {news : List (Addr × Obj)} (N : News h₀ L h (p :: q :: news)) : News h₀ L h (p :: news) := fun z hz => by
  rcases List.mem_cons.mp hz with rfl | hz
  · exact N _ (.head _)
  · exact N _ (.tail _ (.tail _ hz))
theorem ne_lt_mem {I d : Addr} {o : Obj} {led : List (Addr × Obj)} (h : ∀ p ∈ led, p.1 < I) (hm : (d, o) ∈ led) : I ≠ d := Nat.ne_of_gt (h _ hm)

theorem said_21 : True := by
  k_with "k_all" => (first | assumption | exact List.forall_mem_nil _ | (refine' List.forall_mem_cons.mpr ⟨?aq7, ?bq7⟩; (case aq7 => first | k_ne | exact ne_lt_mem (by assumption) (by k_mem)); (case bq7 => k_extra "k_all")))
  k_with "exec For Name Name cons nil" => (k_here; (rename Fr _ _ _ _ => lF'); (with_unfolding_all refine' For_turns lF' ?_; k_whole))
  trivial
set_option maxHeartbeats 8000000 in
theorem one_org {led : List (Addr × Obj)} (hP : Pick dr (rdObj w l dn k1 k2 k3 i t) led news) (hne : ∀ p ∈ news, p.1 ≠ dr) (hT : ToksIn w news r l dn dr nl xs ds) (hi : i ≤ 1000) (hp : 0 < ds.length) :
    ClaimE w 10 58 [.ref r, .ref 22] led
      (fun h₀ L m s Q E base envs => (∀ y h' tk' t' u, oneW ds i orgs = some y → Fr h₀ L h' m → News h₀ L h' ((dr, rdObj w l dn k1 k2 k3 (i + 1 : Nat) t') :: news) → Q (.str y u) { s with heap := h', toks := tk' }) ∧
        (oneW ds i orgs = none → FaultEnds w h₀ L m s E base envs (min i (ds.length - 1)) ((dr, rdObj w l dn k1 k2 k3 i t) :: news))) := by
  intro prog p loose mean mg mb dp un gd cn cs a ccd cl outer A₀ base h₀ L m s Q E hB hF hX hN hTop hcs hdp hu hret
  have hr := hT.inst
  have hN := hP.led hN
  have hR := hT.rd (k1 := k1) (k2 := k2) (k3 := k3) (t := t) hi
  clear hP
  refine wpAny_call ?_
  k_dflt cell_enter
  k_steps
  · exact hret.1 _ _ _ _ _ (oneW_hit (by assumption)) (by assumption) (by first | assumption | exact drop2 (by assumption))
  · exact hret.1 _ _ _ _ _ (oneW_miss (by assumption) (oneW_hit (by assumption))) (by assumption) (by first | assumption | exact drop2 (by assumption))
  · exact hret.1 _ _ _ _ _ (oneW_miss (by assumption) (oneW_miss (by assumption) (oneW_hit (by assumption)))) (by assumption) (by first | assumption | exact drop2 (by assumption))
  · exact hret.2 (oneW_miss (by assumption) (oneW_miss (by assumption) (oneW_miss (by assumption) rfl))) _ _ _ _ _ _ _ _ _ _ _ _ (by assumption) (by assumption) (by assumption) (by assumption)

set_option maxHeartbeats 8000000 in
theorem one_acc {led : List (Addr × Obj)} (hP : Pick dr (rdObj w l dn k1 k2 k3 i t) led news) (hne : ∀ p ∈ news, p.1 ≠ dr) (hT : ToksIn w news r l dn dr nl xs ds) (hi : i ≤ 1000) (hp : 0 < ds.length) :
    ClaimE w 10 58 [.ref r, .ref 23] led
      (fun h₀ L m s Q E base envs => (∀ y h' tk' t' u, oneW ds i accs = some y → Fr h₀ L h' m → News h₀ L h' ((dr, rdObj w l dn k1 k2 k3 (i + 1 : Nat) t') :: news) → Q (.str y u) { s with heap := h', toks := tk' }) ∧
        (oneW ds i accs = none → FaultEnds w h₀ L m s E base envs (min i (ds.length - 1)) ((dr, rdObj w l dn k1 k2 k3 i t) :: news))) := by
  intro prog p loose mean mg mb dp un gd cn cs a ccd cl outer A₀ base h₀ L m s Q E hB hF hX hN hTop hcs hdp hu hret
  have hr := hT.inst
  have hN := hP.led hN
  have hR := hT.rd (k1 := k1) (k2 := k2) (k3 := k3) (t := t) hi
  clear hP
  refine wpAny_call ?_
  k_dflt cell_enter
  k_steps
  · exact hret.1 _ _ _ _ _ (oneW_hit (by assumption)) (by assumption) (by first | assumption | exact drop2 (by assumption))
  · exact hret.1 _ _ _ _ _ (oneW_miss (by assumption) (oneW_hit (by assumption))) (by assumption) (by first | assumption | exact drop2 (by assumption))
  · exact hret.1 _ _ _ _ _ (oneW_miss (by assumption) (oneW_miss (by assumption) (oneW_hit (by assumption)))) (by assumption) (by first | assumption | exact drop2 (by assumption))
  · exact hret.2 (oneW_miss (by assumption) (oneW_miss (by assumption) (oneW_miss (by assumption) rfl))) _ _ _ _ _ _ _ _ _ _ _ _ (by assumption) (by assumption) (by assumption) (by assumption)

-- part C11
noncomputable abbrev spO (w : World) (c0 c1 c2 c3 c4 c5 c6 c7 c8 c9 : Tok) (v0 v1 v2 v3 v4 v5 v6 v7 v8 v9 : Value) : Obj := dictOf [ent w ⟨⟨[110, 97, 109, 101]⟩⟩ c0 v0, ent w ⟨⟨[112, 97, 116, 104]⟩⟩ c1 v1, ent w ⟨⟨[111, 114, 103, 97, 110, 105, 122, 97, 116, 105, 111, 110]⟩⟩ c2 v2, ent w ⟨⟨[97, 99, 99, 101, 115, 115]⟩⟩ c3 v3, ent w ⟨⟨[107, 101, 121]⟩⟩ c4 v4, ent w ⟨⟨[97, 108, 116, 101, 114, 110, 97, 116, 101, 115]⟩⟩ c5 v5, ent w ⟨⟨[114, 101, 108, 97, 116, 105, 118, 101, 95, 107, 101, 121]⟩⟩ c6 v6, ent w ⟨⟨[115, 116, 97, 116, 117, 115]⟩⟩ c7 v7, ent w ⟨⟨[105, 115, 95, 115, 111, 114, 116]⟩⟩ c8 v8, ent w ⟨⟨[114, 101, 99, 111, 114, 100, 115]⟩⟩ c9 v9] 10

/-- what one clause tells -/
inductive Cl where
  | assign (j : Nat) (x : Str)
  | acc (j : Nat) (x : Str)
  | key (j : Nat) (x : Str)
  | alt (j : Nat) (x : Str) (many : Bool)
  | status (j : Nat) (x : Str)
  | rel (j : Nat) (x : Str)
  | org (j : Nat) (x : Str)
  | bad (j : Nat)
/-- the token at which a fault is told -/
noncomputable def endAt (ds : List TD) (j : Nat) : Nat := min j (ds.length - 1)
noncomputable def nameF (ds : List TD) (j : Nat) (k : Nat → Str → Cl) : Cl := match ds[j]? with
  | some d => if nameB ds j then k (j + 1) d.2 else .bad (endAt ds j)
  | none => .bad (endAt ds j)
theorem nameF_ok {ds : List TD} {j : Nat} {k : Nat → Str → Cl} {d : TD} (hd : ds[j]? = some d) (h : nameB ds j = true) : nameF ds j k = k (j + 1) d.2 := by
  rw [nameF, hd]
  simp [h]
theorem nameF_bad {ds : List TD} {j : Nat} {k : Nat → Str → Cl} (h : nameB ds j = false) : nameF ds j k = .bad (endAt ds j) := by
  unfold nameF
  split <;> simp [h]
theorem canon {dr dsp : Addr} {o1 o2 : Obj} {led news1 news : List (Addr × Obj)} {h₀ h : Heap} {L : Addr} (hP : Pick dr o1 led news1) (hS : Pick dsp o2 news1 news) (hN : News h₀ L h led) : News h₀ L h ((dr, o1) :: (dsp, o2) :: news) := fun p hp => by
  rcases List.mem_cons.mp hp with rfl | hp
  · exact hN _ (hP.mem _ (.head _))
  · exact hN _ (hP.mem _ (.tail _ (hS.mem _ hp)))
theorem swap2 {h₀ h : Heap} {L : Addr} {p q : Addr × Obj} {news : List (Addr × Obj)} (N : News h₀ L h (p :: q :: news)) : News h₀ L h (q :: p :: news) := fun z hz => by
  rcases List.mem_cons.mp hz with rfl | hz
  · exact N _ (.tail _ (.head _))
  · rcases List.mem_cons.mp hz with rfl | hz
    · exact N _ (.head _)
    · exact N _ (.tail _ (.tail _ hz))

theorem skipN_t {ds : List TD} {i : Nat} {x : Str} (h : wordB ds i x = true) : skipN ds i x = i + 1 := by
  rw [skipN, h]
  rfl
theorem skipN_f {ds : List TD} {i : Nat} {x : Str} (h : wordB ds i x = false) : skipN ds i x = i := by
  rw [skipN, h]
  rfl
noncomputable def keyF (ds : List TD) (i : Nat) : Cl := nameF ds (skipN ds (skipN ds i ⟨⟨[75, 69, 89]⟩⟩) ⟨⟨[73, 83]⟩⟩) .key
theorem said_22 : True := by
  k_with "call ref" => (k_here; (with_reducible show wpAny _ _ (call (Value.ref 205) [_, Value.str _ _]) _ _ _); k_dflt (refine' skip_on ?Pq7 ?Eq7 ?Tq7 ?Iq7 ?Sq7 ?Zq7 ?Bq7 ?Fq7 ?Xq7 ?Nq7 ?Tpq7 ?Cq7 ?Dq7 ?Uq7 (fun j' h' tk' t' ej' lj' F' N' => ?_); (case Nq7 => k_asm); (case Pq7 => k_extra "k_pick"); (case Eq7 => k_all); (case Tq7 => k_extra "k_toks"); (case Iq7 => k_extra "k_small"); (case Sq7 => decide +kernel); (case Zq7 => decide +kernel); (case Bq7 => k_asm); (case Fq7 => k_asm); (case Xq7 => k_asm); (case Tpq7 => k_asm); (case Cq7 => first | exact rfl | assumption); (case Dq7 => ktr_room); (case Uq7 => ktr_units)))
  k_with "call ref" => (k_here; (with_reducible show wpAny _ _ (call (Value.ref 241) [_]) _ _ _); k_dflt (refine' name_spec ?Pq7 ?Eq7 ?Tq7 ?Iq7 ?Gq7 ?Bq7 ?Fq7 ?Xq7 ?Nq7 ?Tpq7 ?Cq7 ?Dq7 ?Uq7 ⟨fun d' h' tk' t' u' e1' e2' F' N' => ?_, fun e3' g' e' de' x' q1' q2' tw' pt' u3' u4' h' tk' pm' F' R' U' => ?_⟩; (case Nq7 => k_asm); (case Pq7 => k_extra "k_pick"); (case Eq7 => k_all); (case Tq7 => k_extra "k_toks"); (case Iq7 => k_extra "k_small"); (case Gq7 => assumption); (case Bq7 => k_asm); (case Fq7 => k_asm); (case Xq7 => k_asm); (case Tpq7 => k_asm); (case Cq7 => first | exact rfl | assumption); (case Dq7 => ktr_room); (case Uq7 => ktr_units)))
  trivial
theorem keyF_at {ds : List TD} {i j1 j2 : Nat} (e1 : skipN ds i ⟨⟨[75, 69, 89]⟩⟩ = j1) (e2 : skipN ds j1 ⟨⟨[73, 83]⟩⟩ = j2) : keyF ds i = nameF ds j2 .key := by
  subst e1 e2
  rfl

set_option maxHeartbeats 8000000 in
theorem key_spec {sp dsp : Addr} {c0 c1 c2 c3 c4 c5 c6 c7 c8 c9 : Tok} {v0 v1 v2 v3 v4 v5 v6 v7 v8 v9 : Value} {led news1 : List (Addr × Obj)} (hP : Pick dr (rdObj w l dn k1 k2 k3 i t) led news1) (hS : Pick dsp (spO w c0 c1 c2 c3 c4 c5 c6 c7 c8 c9 v0 v1 v2 v3 v4 v5 v6 v7 v8 v9) news1 news) (hsp : (sp, instObj 47 dsp) ∈ news) (hsd : dsp ≠ dr) (hnd : ∀ p ∈ news, p.1 ≠ dr) (hns : ∀ p ∈ news, p.1 ≠ dsp) (hT : ToksIn w news r l dn dr nl xs ds) (hi : i ≤ 900) (hp : 0 < ds.length) :
    ClaimE w 12 72 [.ref r, .ref sp] led
      (fun h₀ L m s Q E base envs => (∀ j x h' tk' t' u, keyF ds i = .key j x → Fr h₀ L h' m → News h₀ L h' ((dr, rdObj w l dn k1 k2 k3 j t') :: (dsp, spO w c0 c1 c2 c3 c4 c5 c6 c7 c8 c9 v0 v1 v2 v3 (.str x u) v5 v6 v7 v8 v9) :: news) → Q .none { s with heap := h', toks := tk' }) ∧
        (∀ j jr tr, keyF ds i = .bad j → FaultEnds w h₀ L m s E base envs j ((dr, rdObj w l dn k1 k2 k3 jr tr) :: (dsp, spO w c0 c1 c2 c3 c4 c5 c6 c7 c8 c9 v0 v1 v2 v3 v4 v5 v6 v7 v8 v9) :: news))) := by
  intro prog p loose mean mg mb dp un gd cn cs a ccd cl outer A₀ base h₀ L m s Q E hB hF hX hN hTop hcs hdp hu hret
  have hr := hT.inst
  have hN := canon hP hS hN
  have hds := hsd.symm
  clear hP hS
  refine wpAny_call ?_
  k_dflt cell_enter
  k_steps
  · exact hret.1 _ _ _ _ _ _ ((keyF_at (by assumption) (by assumption)).trans (nameF_ok (by assumption) (by assumption))) (by assumption) (by assumption)
  · exact hret.2 _ _ _ ((keyF_at (by assumption) (by assumption)).trans (nameF_bad (by assumption))) _ _ _ _ _ _ _ _ _ _ _ _ (by assumption) (by assumption) (by assumption) (by assumption)

theorem RdIn.of {a b c : Tok} {j : Nat} {tt : Tok} {led : List (Addr × Obj)} (hT : ToksIn w news r l dn dr nl xs ds) (hs : ∀ p ∈ news, p ∈ led) (hm : (dr, rdObj w l dn a b c j tt) ∈ led) (hj : j ≤ 1000) : RdIn w led r l dn dr nl a b c j tt xs ds := ⟨hT.mono hs, hm, hj⟩
theorem said_23 : True := by
  k_with "k_rd" => (first | assumption | exact RdIn.of (by assumption) (fun p hp => by first | exact hp | exact List.Mem.tail _ hp | exact List.Mem.tail _ (List.Mem.tail _ hp) | exact List.Mem.tail _ (List.Mem.tail _ (List.Mem.tail _ hp))) (by k_mem) (by k_extra "k_small"))
  trivial
/-- relative: a key, or the organization -/
noncomputable def relF (ds : List TD) (i : Nat) : Cl :=
  if wordB ds i ⟨⟨[75, 69, 89]⟩⟩ = true then nameF ds (skipN ds (i + 1) ⟨⟨[73, 83]⟩⟩) .rel
  else if wordB ds i ⟨⟨[73, 83]⟩⟩ = true then nameF ds (i + 1) .rel
  else if nameB ds i = true then nameF ds i .rel
  else .org i ⟨⟨[114, 101, 108, 97, 116, 105, 118, 101]⟩⟩
theorem relF_1 {ds : List TD} {i j1 : Nat} (e : wordB ds i ⟨⟨[75, 69, 89]⟩⟩ = true) (e1 : skipN ds (i + 1) ⟨⟨[73, 83]⟩⟩ = j1) : relF ds i = nameF ds j1 .rel := by
  subst e1
  rw [relF, e]
  rfl
theorem relF_2 {ds : List TD} {i : Nat} (e : wordB ds i ⟨⟨[75, 69, 89]⟩⟩ = false) (e1 : wordB ds i ⟨⟨[73, 83]⟩⟩ = true) : relF ds i = nameF ds (i + 1) .rel := by
  rw [relF, e, e1]
  rfl
theorem relF_3 {ds : List TD} {i : Nat} (e : wordB ds i ⟨⟨[75, 69, 89]⟩⟩ = false) (e1 : wordB ds i ⟨⟨[73, 83]⟩⟩ = false) (e2 : nameB ds i = true) : relF ds i = nameF ds i .rel := by
  rw [relF, e, e1, e2]
  rfl
theorem relF_4 {ds : List TD} {i : Nat} (e : wordB ds i ⟨⟨[75, 69, 89]⟩⟩ = false) (e1 : wordB ds i ⟨⟨[73, 83]⟩⟩ = false) (e2 : nameB ds i = false) : relF ds i = .org i ⟨⟨[114, 101, 108, 97, 116, 105, 118, 101]⟩⟩ := by
  rw [relF, e, e1, e2]
  rfl

theorem said_24 : True := by
  k_with "call ref" => (k_here; (with_reducible show wpAny _ _ (call (Value.ref 205) [_, Value.str _ _]) _ _ _); k_dflt (refine' skip_on ?Pq7 ?Eq7 ?Tq7 ?Iq7 ?Sq7 ?Zq7 ?Bq7 ?Fq7 ?Xq7 ?Nq7 ?Tpq7 ?Cq7 ?Dq7 ?Uq7 (fun j' h' tk' t' ej' lj' F' N' => ?_); (case Nq7 => k_asm); (case Pq7 => k_extra "k_pick"); (case Eq7 => k_all); (case Tq7 => k_extra "k_toks"); (case Iq7 => k_extra "k_small"); (case Sq7 => decide +kernel); (case Zq7 => decide +kernel); (case Bq7 => k_asm); (case Fq7 => k_asm); (case Xq7 => k_asm); (case Tpq7 => k_asm); (case Cq7 => first | exact rfl | assumption); (case Dq7 => ktr_room); (case Uq7 => ktr_units)))
  k_with "call ref" => (k_here; (with_reducible show wpAny _ _ (call (Value.ref 205) [_, Value.str _ _]) _ _ _); k_dflt (refine' skip_if1 ?Pq7 ?Eq7 ?Tq7 ?Iq7 ?Sq7 ?Zq7 ?Bq7 ?Fq7 ?Xq7 ?Nq7 ?Tpq7 ?Cq7 ?Dq7 ?Uq7 ⟨fun hw' h' tk' t' F' N' => ?_, fun hw' h' tk' F' N' => ?_⟩; (case Nq7 => k_asm); (case Pq7 => k_extra "k_pick"); (case Eq7 => k_all); (case Tq7 => k_extra "k_toks"); (case Iq7 => k_extra "k_small"); (case Sq7 => decide +kernel); (case Zq7 => decide +kernel); (case Bq7 => k_asm); (case Fq7 => k_asm); (case Xq7 => k_asm); (case Tpq7 => k_asm); (case Cq7 => first | exact rfl | assumption); (case Dq7 => ktr_room); (case Uq7 => ktr_units)))
  k_with "call ref" => (k_here; (with_reducible show wpAny _ _ (call (Value.ref 241) [_]) _ _ _); k_dflt (refine' name_spec ?Pq7 ?Eq7 ?Tq7 ?Iq7 ?Gq7 ?Bq7 ?Fq7 ?Xq7 ?Nq7 ?Tpq7 ?Cq7 ?Dq7 ?Uq7 ⟨fun d' h' tk' t' u' e1' e2' F' N' => ?_, fun e3' g' e' de' x' q1' q2' tw' pt' u3' u4' h' tk' pm' F' R' U' => ?_⟩; (case Nq7 => k_asm); (case Pq7 => k_extra "k_pick"); (case Eq7 => k_all); (case Tq7 => k_extra "k_toks"); (case Iq7 => k_extra "k_small"); (case Gq7 => assumption); (case Bq7 => k_asm); (case Fq7 => k_asm); (case Xq7 => k_asm); (case Tpq7 => k_asm); (case Cq7 => first | exact rfl | assumption); (case Dq7 => ktr_room); (case Uq7 => ktr_units)))
  k_with "call ref" => (k_here; (with_reducible show wpAny _ _ (call (Value.ref 234) [_]) _ _ _); k_dflt (refine' is_name2 ?Tq7 ?Bq7 ?Fq7 ?Xq7 ?Nq7 ?Tpq7 ?Cq7 ?Dq7 ?Uq7 ⟨fun d' h' tk' e1' e3' F' N' => ?_, fun h' tk' e3' F' N' => ?_⟩; (case Nq7 => k_asm); (case Tq7 => k_extra "k_rd"); (case Bq7 => k_asm); (case Fq7 => k_asm); (case Xq7 => k_asm); (case Tpq7 => k_asm); (case Cq7 => first | exact rfl | assumption); (case Dq7 => ktr_room); (case Uq7 => ktr_units)))
  trivial
set_option maxHeartbeats 8000000 in
theorem rel_spec {sp dsp : Addr} {c0 c1 c2 c3 c4 c5 c6 c7 c8 c9 : Tok} {v0 v1 v2 v3 v4 v5 v6 v7 v8 v9 : Value} {led news1 : List (Addr × Obj)} (hP : Pick dr (rdObj w l dn k1 k2 k3 i t) led news1) (hS : Pick dsp (spO w c0 c1 c2 c3 c4 c5 c6 c7 c8 c9 v0 v1 v2 v3 v4 v5 v6 v7 v8 v9) news1 news) (hsp : (sp, instObj 47 dsp) ∈ news) (hsd : dsp ≠ dr) (hnd : ∀ p ∈ news, p.1 ≠ dr) (hns : ∀ p ∈ news, p.1 ≠ dsp) (hT : ToksIn w news r l dn dr nl xs ds) (hi : i ≤ 900) (hp : 0 < ds.length) :
    ClaimE w 12 84 [.ref r, .ref sp] led
      (fun h₀ L m s Q E base envs => (∀ j x h' tk' t' u u2, relF ds i = .rel j x → Fr h₀ L h' m → News h₀ L h' ((dr, rdObj w l dn k1 k2 k3 j t') :: (dsp, spO w c0 c1 c2 c3 c4 c5 c6 c7 c8 c9 v0 v1 v2 v3 v4 v5 (.str x u) v7 v8 v9) :: news) → Q (.str ⟨⟨[82, 69, 76, 65, 84, 73, 86, 69, 32, 75, 69, 89]⟩⟩ u2) { s with heap := h', toks := tk' }) ∧
        (∀ j x h' tk' t' u u2, relF ds i = .org j x → Fr h₀ L h' m → News h₀ L h' ((dr, rdObj w l dn k1 k2 k3 j t') :: (dsp, spO w c0 c1 c2 c3 c4 c5 c6 c7 c8 c9 v0 v1 (.str x u) v3 v4 v5 v6 v7 v8 v9) :: news) → Q (.str ⟨⟨[79, 82, 71, 65, 78, 73, 90, 65, 84, 73, 79, 78]⟩⟩ u2) { s with heap := h', toks := tk' }) ∧
        (∀ j jr tr, relF ds i = .bad j → FaultEnds w h₀ L m s E base envs j ((dr, rdObj w l dn k1 k2 k3 jr tr) :: (dsp, spO w c0 c1 c2 c3 c4 c5 c6 c7 c8 c9 v0 v1 v2 v3 v4 v5 v6 v7 v8 v9) :: news))) := by
  intro prog p loose mean mg mb dp un gd cn cs a ccd cl outer A₀ base h₀ L m s Q E hB hF hX hN hTop hcs hdp hu hret
  have hr := hT.inst
  have hN := canon hP hS hN
  have hds := hsd.symm
  clear hP hS
  refine wpAny_call ?_
  k_dflt cell_enter
  k_steps
  · exact hret.1 _ _ _ _ _ _ _ ((relF_1 (by assumption) (skipN_t (by assumption))).trans (nameF_ok (by assumption) (by assumption))) (by assumption) (by assumption)
  · exact hret.2.2 _ _ _ ((relF_1 (by assumption) (skipN_t (by assumption))).trans (nameF_bad (by assumption))) _ _ _ _ _ _ _ _ _ _ _ _ (by assumption) (by assumption) (by assumption) (by assumption)
  · exact hret.1 _ _ _ _ _ _ _ ((relF_1 (by assumption) (skipN_f (by assumption))).trans (nameF_ok (by assumption) (by assumption))) (by assumption) (by assumption)
  · exact hret.2.2 _ _ _ ((relF_1 (by assumption) (skipN_f (by assumption))).trans (nameF_bad (by assumption))) _ _ _ _ _ _ _ _ _ _ _ _ (by assumption) (by assumption) (by assumption) (by assumption)
  · exact hret.1 _ _ _ _ _ _ _ ((relF_2 (by assumption) (by assumption)).trans (nameF_ok (by assumption) (by assumption))) (by assumption) (by assumption)
  · exact hret.2.2 _ _ _ ((relF_2 (by assumption) (by assumption)).trans (nameF_bad (by assumption))) _ _ _ _ _ _ _ _ _ _ _ _ (by assumption) (by assumption) (by assumption) (by assumption)
  · exact hret.1 _ _ _ _ _ _ _ ((relF_3 (by assumption) (by assumption) (by assumption)).trans (nameF_ok (by assumption) (by assumption))) (by assumption) (by assumption)
  · exact hret.2.2 _ _ _ ((relF_3 (by assumption) (by assumption) (by assumption)).trans (nameF_bad (by assumption))) _ _ _ _ _ _ _ _ _ _ _ _ (by assumption) (by assumption) (by assumption) (by assumption)
  · exact hret.2.1 _ _ _ _ _ _ _ (relF_4 (by assumption) (by assumption) (by assumption)) (by assumption) (by assumption)

-- part C12

/-- the literals that follow -/
noncomputable def litF (ds : List TD) : Nat → Nat → Str → Cl
  | 0, j, x => .assign j x
  | n + 1, j, x => match ds[j]? with
    | some d => if kindB ds j sLit = true then litF ds n (j + 1) d.2 else .assign j x
    | none => .assign j x
noncomputable def litA (ds : List TD) (j : Nat) (x : Str) : Cl := litF ds (ds.length - j) j x
theorem litA_on {ds : List TD} {j : Nat} {x : Str} {d : TD} (hd : ds[j]? = some d) (hk : kindB ds j sLit = true) : litA ds j x = litA ds (j + 1) d.2 := by
  have hlt : j < ds.length := by
    rcases Nat.lt_or_ge j ds.length with h | h
    · exact h
    · rw [List.getElem?_eq_none h] at hd; cases hd
  unfold litA
  obtain ⟨n, hn⟩ : ∃ n, ds.length - j = n + 1 := ⟨ds.length - j - 1, by omega⟩
  have hn' : ds.length - (j + 1) = n := by omega
  rw [hn, hn', litF, hd]
  simp [hk]
theorem litA_off {ds : List TD} {j : Nat} {x : Str} (hk : kindB ds j sLit = false) : litA ds j x = .assign j x := by
  unfold litA
  cases ds.length - j with
  | zero => rfl
  | succ n =>
    rw [litF]
    split <;> simp [hk]
noncomputable def assignF (ds : List TD) (i : Nat) : Cl :=
  let j := skipN ds i ⟨⟨[84, 79]⟩⟩
  match ds[j]? with
  | some d => if kindB ds j sLit = true then litA ds (j + 1) d.2 else if kindB ds j sWord = true then litA ds (j + 1) d.2 else .bad (endAt ds j)
  | none => .bad (endAt ds j)
theorem assignF_1 {ds : List TD} {i j : Nat} {d : TD} (e : skipN ds i ⟨⟨[84, 79]⟩⟩ = j) (hd : ds[j]? = some d) (hk : kindB ds j sLit = true) : assignF ds i = litA ds (j + 1) d.2 := by
  subst e
  simp [assignF, hd, hk]
theorem assignF_2 {ds : List TD} {i j : Nat} {d : TD} (e : skipN ds i ⟨⟨[84, 79]⟩⟩ = j) (hd : ds[j]? = some d) (hk : kindB ds j sLit = false) (hk' : kindB ds j sWord = true) : assignF ds i = litA ds (j + 1) d.2 := by
  subst e
  simp [assignF, hd, hk, hk']
theorem assignF_3 {ds : List TD} {i j : Nat} (e : skipN ds i ⟨⟨[84, 79]⟩⟩ = j) (hk : kindB ds j sLit = false) (hk' : kindB ds j sWord = false) : assignF ds i = .bad (endAt ds j) := by
  subst e
  unfold assignF
  dsimp only
  split <;> simp [hk, hk']

theorem said_25 : True := by
  k_with "call ref" => (k_here; (with_reducible show wpAny _ _ (call (Value.ref 205) [_, Value.str _ _]) _ _ _); k_dflt (refine' skip_on ?Pq7 ?Eq7 ?Tq7 ?Iq7 ?Sq7 ?Zq7 ?Bq7 ?Fq7 ?Xq7 ?Nq7 ?Tpq7 ?Cq7 ?Dq7 ?Uq7 (fun j' h' tk' t' ej' lj' F' N' => ?_); (case Nq7 => k_asm); (case Pq7 => k_extra "k_pick"); (case Eq7 => k_all); (case Tq7 => k_extra "k_toks"); (case Iq7 => k_extra "k_small"); (case Sq7 => decide +kernel); (case Zq7 => decide +kernel); (case Bq7 => k_asm); (case Fq7 => k_asm); (case Xq7 => k_asm); (case Tpq7 => k_asm); (case Cq7 => first | exact rfl | assumption); (case Dq7 => ktr_room); (case Uq7 => ktr_units)))
  k_with "call ref" => (k_here; (with_reducible show wpAny _ _ (call (Value.ref 191) [_, _]) _ _ _); k_dflt (refine' is_kind2 ?Tq7 ?Bq7 ?Fq7 ?Xq7 ?Nq7 ?Tpq7 ?Cq7 ?Dq7 ?Uq7 ⟨fun d' h' tk' e1' e2' e3' F' N' => ?_, fun h' tk' e3' F' N' => ?_⟩; (case Nq7 => k_asm); (case Tq7 => k_extra "k_rd"); (case Bq7 => k_asm); (case Fq7 => k_asm); (case Xq7 => k_asm); (case Tpq7 => k_asm); (case Cq7 => first | exact rfl | assumption); (case Dq7 => ktr_room); (case Uq7 => ktr_units)))
  k_with "call ref" => (k_here; (with_reducible show wpAny _ _ (call (Value.ref 226) [_]) _ _ _); k_dflt (refine' word_spec ?Pq7 ?Eq7 ?Tq7 ?Iq7 ?Gq7 ?Bq7 ?Fq7 ?Xq7 ?Nq7 ?Tpq7 ?Cq7 ?Dq7 ?Uq7 ⟨fun d' h' tk' t' u' e1' e2' ek' F' N' => ?_, fun e3' g' e' de' x' q1' q2' tw' pt' u3' u4' h' tk' pm' F' R' U' => ?_⟩; (case Nq7 => k_asm); (case Pq7 => k_extra "k_pick"); (case Eq7 => k_all); (case Tq7 => k_extra "k_toks"); (case Iq7 => k_extra "k_small"); (case Gq7 => assumption); (case Bq7 => k_asm); (case Fq7 => k_asm); (case Xq7 => k_asm); (case Tpq7 => k_asm); (case Cq7 => first | exact rfl | assumption); (case Dq7 => ktr_room); (case Uq7 => ktr_units)))
  k_with "call ref" => (k_here; (with_reducible show wpAny _ _ (call (Value.ref 298) [_]) _ _ _); k_dflt (refine' literal_spec ?Pq7 ?Eq7 ?Tq7 ?Iq7 ?Gq7 ?Bq7 ?Fq7 ?Xq7 ?Nq7 ?Tpq7 ?Cq7 ?Dq7 ?Uq7 ⟨fun d' h' tk' t' u' e1' e2' ek' F' N' => ?_, fun e3' g' e' de' x' q1' q2' tw' pt' u3' u4' h' tk' pm' F' R' U' => ?_⟩; (case Nq7 => k_asm); (case Pq7 => k_extra "k_pick"); (case Eq7 => k_all); (case Tq7 => k_extra "k_toks"); (case Iq7 => k_extra "k_small"); (case Gq7 => assumption); (case Bq7 => k_asm); (case Fq7 => k_asm); (case Xq7 => k_asm); (case Tpq7 => k_asm); (case Cq7 => first | exact rfl | assumption); (case Dq7 => ktr_room); (case Uq7 => ktr_units)))
  trivial
theorem kcontra {ds : List TD} {j : Nat} {k : Str} {P : Prop} (h : kindB ds j k = false) (h1 : kindB ds j k = true) : P := by
  rw [h] at h1
  cases h1
theorem lt_of_some {ds : List TD} {j : Nat} {d : TD} (hd : ds[j]? = some d) : j + 1 ≤ ds.length := by
  rcases Nat.lt_or_ge j ds.length with h | h
  · exact h
  · rw [List.getElem?_eq_none h] at hd; cases hd
theorem said_26 : True := by
  k_with "k_len" => (first | assumption | exact lt_of_some (by assumption))
  trivial
theorem ToksIn.dsFew (hT : ToksIn w news r l dn dr nl xs ds) : ds.length ≤ 1000 := by
  have := hT.len
  have := hT.few
  omega

theorem said_27 : True := by
  k_with "k_small" => (first | assumption | omega | exact Nat.le_trans (by assumption) (ToksIn.dsFew (by assumption)))
  trivial
/-- how a turn of the loop over literals ends -/
noncomputable def LitStep (w : World) (h₀ : Heap) (L : Addr) (m₀ : Str → Option Value) (s : Shared) (dr l dn : Addr) (k1 k2 k3 : Tok) (dsp : Addr) (c0 c1 c2 c3 c4 c5 c6 c7 c8 c9 : Tok) (v0 v1 v2 v3 v4 v5 v6 v7 v8 v9 : Value) (news : List (Addr × Obj)) (ds : List TD) (j : Nat) (R : Cl) (f : Flow) (s' : Shared) : Prop :=
  f = .next ∧ ∃ h' tk t' x u, s' = { s with heap := h', toks := tk } ∧ Fr h₀ L h' m₀ ∧ News h₀ L h' ((dr, rdObj w l dn k1 k2 k3 (j + 1 : Nat) t') :: (dsp, spO w c0 c1 c2 c3 c4 c5 c6 c7 c8 c9 v0 (.str x u) v2 v3 v4 v5 v6 v7 v8 v9) :: news) ∧ j < ds.length ∧ litA ds (j + 1) x = R
theorem LitStep.intro {h₀ : Heap} {L : Addr} {m₀ : Str → Option Value} {s : Shared} {dsp : Addr} {c0 c1 c2 c3 c4 c5 c6 c7 c8 c9 : Tok} {v0 v1 v2 v3 v4 v5 v6 v7 v8 v9 : Value} {j : Nat} {R : Cl} {h' : Heap} {tk : Nat} {t' u : Tok} {x0 : Str} {d : TD}
    (F : Fr h₀ L h' m₀) (N : News h₀ L h' ((dr, rdObj w l dn k1 k2 k3 (j + 1 : Nat) t') :: (dsp, spO w c0 c1 c2 c3 c4 c5 c6 c7 c8 c9 v0 (.str d.2 u) v2 v3 v4 v5 v6 v7 v8 v9) :: news)) (hd : ds[j]? = some d) (hk : kindB ds j sLit = true) (hR : litA ds j x0 = R) :
    LitStep w h₀ L m₀ s dr l dn k1 k2 k3 dsp c0 c1 c2 c3 c4 c5 c6 c7 c8 c9 v0 v1 v2 v3 v4 v5 v6 v7 v8 v9 news ds j R .next { s with heap := h', toks := tk } := by
  refine ⟨rfl, h', tk, t', d.2, u, rfl, F, N, ?_, (litA_on hd hk).symm.trans hR⟩
  rcases Nat.lt_or_ge j ds.length with h | h
  · exact h
  · rw [List.getElem?_eq_none h] at hd; cases hd
theorem lit_while {prog : Program} {A : Around} {E : Value → Shared → Prop} {Q : Flow → Shared → Prop} {s : Shared} {env : Env} {h₀ : Heap} {L : Addr} {test : PySem.Expr} {body : List Stmt} {pos : Pos} {m₀ : Str → Option Value}
    {dsp : Addr} {c0 c1 c2 c3 c4 c5 c6 c7 c8 c9 : Tok} {v0 v1 v2 v3 v4 v5 v6 v7 v8 v9 : Value} {j : Nat} {x : Str} {u t : Tok}
    (F : Fr h₀ L s.heap m₀) (N : News h₀ L s.heap ((dr, rdObj w l dn k1 k2 k3 j t) :: (dsp, spO w c0 c1 c2 c3 c4 c5 c6 c7 c8 c9 v0 (.str x u) v2 v3 v4 v5 v6 v7 v8 v9) :: news)) (hj : j ≤ ds.length)
    (turn : ∀ (j' : Nat) t' x' u' h₁ tk₁, j' ≤ ds.length → litA ds j' x' = litA ds j x → Fr h₀ L h₁ m₀ → News h₀ L h₁ ((dr, rdObj w l dn k1 k2 k3 j' t') :: (dsp, spO w c0 c1 c2 c3 c4 c5 c6 c7 c8 c9 v0 (.str x' u') v2 v3 v4 v5 v6 v7 v8 v9) :: news) →
      wpAny (model prog w) A (isTrue test env (eval test env)) (fun b s₂ => if b = true then wpAny (model prog w) A (execs body env) (LitStep w h₀ L m₀ s dr l dn k1 k2 k3 dsp c0 c1 c2 c3 c4 c5 c6 c7 c8 c9 v0 v1 v2 v3 v4 v5 v6 v7 v8 v9 news ds j' (litA ds j x)) E s₂ else Q .next s₂) E { s with heap := h₁, toks := tk₁ })
    (hE : PassesOwn (model prog w) A env E := by passes_own) :
    wpAny (model prog w) A (exec (.While test body [] pos) env) Q E s := by
  refine While_inv (L := L) (fun n m₁ news₁ => m₁ = m₀ ∧ ∃ (j' : Nat) (t' : Tok) (x' : Str) (u' : Tok), news₁ = (dr, rdObj w l dn k1 k2 k3 j' t') :: (dsp, spO w c0 c1 c2 c3 c4 c5 c6 c7 c8 c9 v0 (.str x' u') v2 v3 v4 v5 v6 v7 v8 v9) :: news ∧ n = ds.length - j' ∧ j' ≤ ds.length ∧ litA ds j' x' = litA ds j x) F N ⟨rfl, j, t, x, u, rfl, rfl, hj, rfl⟩ ?_ hE
  rintro n m₁ news₁ h₁ tk₁ F₁ N₁ ⟨rfl, j', t', x', u', rfl, rfl, hj', hR⟩
  refine wpAny_mono (turn j' t' x' u' h₁ tk₁ hj' hR F₁ N₁) (fun b s₂ h₂ => ?_) fun _ _ e => e
  cases b with
  | false => exact h₂
  | true =>
    refine wpAny_mono h₂ (fun f s₃ h₃ => ?_) fun _ _ e => e
    obtain ⟨rfl, h', tk, t', x'', u'', rfl, F₂, N₂, hlt, hR₂⟩ := h₃
    exact WhileStep.intro F₂ N₂ (by omega) ⟨rfl, j' + 1, t', x'', u'', rfl, rfl, by omega, hR₂⟩

theorem said_28 : True := by
  k_with "exec While" => (k_here; k_dflt (with_unfolding_all refine' lit_while (v1 := Value.none) ?Fq7 ?Nq7 ?Jq7 ?_ ?E9q7; (case Fq7 => k_asm); (case Nq7 => assumption); (case Jq7 => k_extra "k_len"); (case E9q7 => passes_own)); intro j' t' x' u' h' tk' lj' eR' F' N')
  k_with "exec While Call" => (k_here; k_dflt (with_unfolding_all refine' lit_while (v1 := Value.none) ?Fq7 ?Nq7 ?Jq7 ?_ ?E9q7; (case Fq7 => k_asm); (case Nq7 => assumption); (case Jq7 => k_extra "k_len"); (case E9q7 => passes_own)); intro j' t' x' u' h' tk' lj' eR' F' N')
  k_with "LitStep" => (refine LitStep.intro (by assumption) (by assumption) (by assumption) (by assumption) (by assumption))
  trivial
set_option maxHeartbeats 8000000 in
theorem assign_spec {sp dsp : Addr} {c0 c1 c2 c3 c4 c5 c6 c7 c8 c9 : Tok} {v0 v1 v2 v3 v4 v5 v6 v7 v8 v9 : Value} {led news1 : List (Addr × Obj)} (hP : Pick dr (rdObj w l dn k1 k2 k3 i t) led news1) (hS : Pick dsp (spO w c0 c1 c2 c3 c4 c5 c6 c7 c8 c9 v0 v1 v2 v3 v4 v5 v6 v7 v8 v9) news1 news) (hsp : (sp, instObj 47 dsp) ∈ news) (hsd : dsp ≠ dr) (hnd : ∀ p ∈ news, p.1 ≠ dr) (hns : ∀ p ∈ news, p.1 ≠ dsp) (hT : ToksIn w news r l dn dr nl xs ds) (hi : i ≤ 900) (hp : 0 < ds.length) :
    ClaimE w 12 65 [.ref r, .ref sp] led
      (fun h₀ L m s Q E base envs => (∀ j x h' tk' t' u, assignF ds i = .assign j x → Fr h₀ L h' m → News h₀ L h' ((dr, rdObj w l dn k1 k2 k3 j t') :: (dsp, spO w c0 c1 c2 c3 c4 c5 c6 c7 c8 c9 v0 (.str x u) v2 v3 v4 v5 v6 v7 v8 v9) :: news) → Q .none { s with heap := h', toks := tk' }) ∧
        (∀ j jr tr, assignF ds i = .bad j → FaultEnds w h₀ L m s E base envs j ((dr, rdObj w l dn k1 k2 k3 jr tr) :: (dsp, spO w c0 c1 c2 c3 c4 c5 c6 c7 c8 c9 v0 v1 v2 v3 v4 v5 v6 v7 v8 v9) :: news))) := by
  intro prog p loose mean mg mb dp un gd cn cs a ccd cl outer A₀ base h₀ L m s Q E hB hF hX hN hTop hcs hdp hu hret
  have hr := hT.inst
  have hN := canon hP hS hN
  have hds := hsd.symm
  clear hP hS
  refine wpAny_call ?_
  k_dflt cell_enter
  k_steps
  · exact kcontra (by assumption) (by assumption)
  · exact hret.1 _ _ _ _ _ _ ((assignF_1 (by assumption) (by assumption) (by assumption)).trans ((by assumption : litA _ _ _ = litA _ _ _).symm.trans (litA_off (by assumption)))) (by assumption) (by assumption)
  · exact kcontra (by assumption) (by assumption)
  · exact kcontra (by assumption) (by assumption)
  · exact hret.1 _ _ _ _ _ _ ((assignF_2 (by assumption) (by assumption) (by assumption) (by assumption)).trans ((by assumption : litA _ _ _ = litA _ _ _).symm.trans (litA_off (by assumption)))) (by assumption) (by assumption)
  · exact hret.2 _ _ _ (assignF_3 (by assumption) (by assumption) (by assumption)) _ _ _ _ _ _ _ _ _ _ _ _ (by assumption) (by assumption) (by assumption) (by assumption)

-- part X3
/-- a pair (name, flag), of the written heap or of the ledger -/
noncomputable def PairIn (K : Frag) (news : List (Addr × Obj)) (p : Addr) (a : Str × Bool) : Prop :=
  ∃ o u k, (K.lookup p = some o ∨ (p, o) ∈ news) ∧ o.cls = .type "tuple" ∧ o.data = .seq #[.str a.1 u, .bool a.2] k
/-- a tuple of pairs in the ledger -/
structure AltIn (K : Frag) (news : List (Addr × Obj)) (al : Addr) (ps : List Addr) (as : List (Str × Bool)) : Prop where
  tup : ∃ o k, (al, o) ∈ news ∧ o.cls = .type "tuple" ∧ o.data = .seq (ps.map Value.ref).toArray k
  len : ps.length = as.length
  pairs : ∀ (i : Nat) (p : Addr) (a : Str × Bool), ps[i]? = some p → as[i]? = some a → PairIn K news p a
theorem PairIn.mono {K : Frag} {news news' : List (Addr × Obj)} {p : Addr} {a : Str × Bool} (h : PairIn K news p a) (hs : ∀ q ∈ news, q ∈ news') : PairIn K news' p a := by
  obtain ⟨o, u, k, h1, h2, h3⟩ := h
  exact ⟨o, u, k, h1.imp id (hs _), h2, h3⟩
theorem AltIn.mono {K : Frag} {news news' : List (Addr × Obj)} {al : Addr} {ps : List Addr} {as : List (Str × Bool)} (h : AltIn K news al ps as) (hs : ∀ q ∈ news, q ∈ news') : AltIn K news' al ps as := by
  obtain ⟨⟨o, k, a, b, c⟩, l, p⟩ := h
  exact ⟨⟨o, k, hs _ a, b, c⟩, l, fun i p' a' x y => (p i p' a' x y).mono hs⟩
theorem PairIn.tup {K : Frag} {news : List (Addr × Obj)} {p : Addr} {a : Str × Bool} {h₀ h : Heap} {L : Addr} (x : PairIn K news p a) (X : K.In h₀) (k : ∀ b o, h₀.get? b = some o → h.get? b = some o) (N : News h₀ L h news) :
    ∃ u, IsTup h p #[.str a.1 u, .bool a.2] := by
  obtain ⟨o, u, n, h1, h2, h3⟩ := x
  refine ⟨u, o, ?_, h2, n, h3⟩
  rcases h1 with h1 | h1
  · exact k _ _ (X _ _ h1)
  · exact (N _ h1).1
noncomputable def SrcT (ax : Addr) (its : Array Value) (news : List (Addr × Obj)) : Prop := ∃ o, (ax, o) ∈ news ∧ o.cls = .type "tuple" ∧ ∃ n, o.data = .seq its n
theorem SrcT.tup {h₀ h : Heap} {L ax : Addr} {its : Array Value} {news : List (Addr × Obj)} (x : SrcT ax its news) (N : News h₀ L h news) : h.IsTuple ax its := by
  obtain ⟨o, hm, r⟩ := x
  exact ⟨o, (N _ hm).1, r⟩
theorem tup_st {h₀ : Heap} {L ax I : Addr} {its : Array Value} : ∀ i (h h' : Heap) (o : Obj) (nw : List (Addr × Obj)), (h.IsTupleIter I ax i ∧ h.IsTuple ax its) → h.get? I = some o → h'.get? I = some o → (∀ b o, h₀.get? b = some o → h'.get? b = some o) → News h₀ L h' nw → SrcT ax its nw → (h'.IsTupleIter I ax i ∧ h'.IsTuple ax its) :=
  fun i h h' o nw st e e' k N S => ⟨by obtain ⟨o', q, r⟩ := st.1; rw [e] at q; cases q; exact ⟨o, e', r⟩, S.tup N⟩

theorem off1_mem {D : Addr} : ∀ {l : List (Addr × Obj)}, LCg.Off1 D l → ∀ p ∈ l, p.1 ≠ D
  | [], _, _, h => nomatch h
  | _ :: _, x, p, h => by
    rcases List.mem_cons.mp h with rfl | h
    · exact x.1
    · exact off1_mem x.2 p h
theorem strs_snoc {vs : List Value} {ys : List Str} {y : Str} {t : Tok} (h : StrsAre vs ys) : StrsAre (vs ++ [.str y t]) (ys ++ [y]) := by
  induction h with
  | nil => exact .cons y t .nil
  | cons z u _ ih => exact .cons z u ih

section
variable {prog : Program} {w : World} {A : Around} {E : Value → Shared → Prop} {s : Shared} {h₀ : Heap} {L : Addr} {m : Str → Option Value} {env : Env} {K : Frag} {al : Addr} {ps : List Addr} {as : List (Str × Bool)} {news : List (Addr × Obj)}
/-- the turns of the block, one after the other -/
theorem firsts_rest {x : Str} {p1 p2 p3 : Pos} {tk0 : Nat} {scope : Scope} {cl : List (Str × Addr)} {S : List (Addr × Obj) → Prop} {P : Nat → Value → Prop} {Fin : List Value → List (Addr × Obj) → Prop}
    (X : K.In h₀) (hA : ∀ (i : Nat) (p : Addr) (a : Str × Bool), ps[i]? = some p → as[i]? = some a → PairIn K news p a) (hlen : ps.length = as.length) (hP : ∀ i v, P i v → ∃ p, ps[i]? = some p ∧ v = .ref p) (hS : S news)
    (hk : scope.kind = .function) (hl : ∀ C, (compEnvC scope cl C env).kindOf x = some .local) (hd : (x == ("__debug__" : Str)) = false)
    (fin : ∀ ys, StrsAre ys (as.map (·.1)) → Fin ys news) :
    ∀ (n i : Nat) (ys : List Value), n + i = as.length → StrsAre ys ((as.take i).map (·.1)) → LCg.CompRest prog w A h₀ L m env (.Subscript (.Name x p1) (.Constant (.int 0) tk0 p2) p3) x scope cl s S P Fin n i ys news
  | 0, i, ys, e, hy => by
    have : as.take i = as := by rw [List.take_of_length_le]; omega
    rw [this] at hy
    exact fin ys hy
  | n + 1, i, ys, e, hy => by
    intro v I oI C oC D m₂ h tk E' hv hC hx F N off ne
    obtain ⟨p, hp, rfl⟩ := hP i v hv
    have hi : i < as.length := by omega
    have ha : as[i]? = some as[i] := by simp [hi]
    obtain ⟨u, hT⟩ := (hA i p _ hp ha).tup X F.keep (fun q hq => N q (.tail _ (.tail _ (.tail _ hq))))
    refine Subscript_ (LCgL.ld_own N (.tail _ (.head _)) hC hx ?_ hk (hl C) hd)
    refine wpAny_Constant_int ?_
    refine item_tuple hT (j := 0) (x := .str as[i].1 u) (by decide) (by decide) rfl rfl ?_
    refine LCg.CompEnd.intro F N news (fun _ h => h) off hS ?_
    refine firsts_rest X hA hlen hP hS hk hl hd fin n (i + 1) _ (by omega) ?_
    rw [List.take_succ_eq_append_getElem hi, List.map_append]
    exact strs_snoc hy

/-- the block that takes the first of each pair -/
theorem comp_firsts {x : Str} {px p1 p2 p3 pos : Pos} {tk0 : Nat} {iter : PySem.Expr} {scope : Scope} {cl : List (Str × Addr)} {Q : Value → Shared → Prop} (F₀ : Fr h₀ L s.heap m)
    (hclos : closureFor scope env = pure cl) (hcell : ∀ y ∈ scope.names, y.2 ≠ .cell) (hkind : scope.kind = .function)
    (hnames : ∀ y ∈ scope.names, y.2 = .local → scope.names.lookup y.1 = some .local) (hx : scope.names.lookup x = some .local) (hl : ∀ C, (compEnvC scope cl C env).kindOf x = some .local) (hd : (x == ("__debug__" : Str)) = false)
    (h : wpAny (model prog w) A (eval iter env) (fun xv s₁ => ∃ al ps as news, xv = .ref al ∧ A.handled = none ∧ Fr h₀ L s₁.heap m ∧ News h₀ L s₁.heap news ∧ K.In h₀ ∧ AltIn K news al ps as ∧ as.length ≤ 1000 ∧
      ∀ ys D h' tk, StrsAre ys (as.map (·.1)) → Fr h₀ L h' m → News h₀ L h' ((D, LCg.lst ys) :: news) → (∀ p ∈ news, p.1 ≠ D) → Q (.ref D) { s₁ with heap := h', toks := tk }) E s)
    (hs : ∀ x, foldedSetIterable iter env x = pure x := by intro _; rfl) :
    wpAny (model prog w) A (eval (.ListComp (.Subscript (.Name x p1) (.Constant (.int 0) tk0 p2) p3) [⟨.Name x px, iter, [], 0⟩] scope pos) env) Q E s := by
  rw [eval_ListComp]
  refine wpAny_comprehension_free (use := none) rfl hs hclos hkind hnames (wpAny_mono h (fun xv s₁ h₁ => ?_) fun _ _ e => e)
  obtain ⟨al, ps, as, news, rfl, hh, F, N, X, A1, hsz, fin⟩ := h₁
  have S : SrcT al (ps.map Value.ref).toArray news := by
    obtain ⟨o, k, a, b, c⟩ := A1.tup
    exact ⟨o, a, b, k, c⟩
  have hlT := S.tup N
  have hlt : al < s₁.heap.objs.size := by obtain ⟨_, e, _⟩ := hlT; exact Heap.lt_size e
  refine wpAny_pyIter_tuple hlT ?_
  have up : ∀ b o, s₁.heap.get? b = some o → (s₁.heap.push { cls := .type "tuple_iterator", data := .fields #[.ref al, .int 0 0] }).get? b = some o := fun b o e => Heap.get?_push_of_some _ e
  have hsize : (ps.map Value.ref).toArray.size = as.length := by simp [A1.len]
  have W := Walks.tuple (prog := prog) (w := w) hh s₁.heap.objs.size al (Nat.ne_of_lt hlt) (ps.map Value.ref).toArray
  rw [hsize] at W
  refine LCg.block_U (S := SrcT al (ps.map Value.ref).toArray) W (by rw [sizeLine_eq]; omega) (fun i h st => by obtain ⟨o, e, _⟩ := st.1; exact ⟨o, e⟩) tup_st hcell hkind hx ⟨⟨_, Heap.get?_push_size _ rfl, rfl, rfl⟩, ?_⟩ (fun b hb => ?_)
      (F.keeps up) (N.grown up) (Nat.ne_of_lt F.ns.lt) (next_is_new F) (fun p hp => Nat.ne_of_lt (Heap.lt_size (N p hp).1)) S
      (firsts_rest (Fin := fun ys nw => nw = news ∧ StrsAre ys (as.map (·.1))) X A1.pairs A1.len (fun i v hv => ?_) S hkind hl hd (fun ys hy => ⟨rfl, hy⟩) as.length 0 [] (by omega) .nil) ?_
  · obtain ⟨o, e, r⟩ := hlT
    exact ⟨o, up _ _ e, r⟩
  · show b < (s₁.heap.push _).objs.size
    rw [Heap.size_push]
    rcases List.mem_cons.mp hb with rfl | hb
    · exact Nat.lt_succ_self _
    · rw [List.mem_singleton.mp hb]; exact Nat.lt_succ_of_lt hlt
  · have hv' : (ps.map Value.ref)[i]? = some v := by simpa using hv
    rw [List.getElem?_map] at hv'
    cases hp : ps[i]? with
    | none => rw [hp] at hv'; cases hv'
    | some p => rw [hp] at hv'; exact ⟨p, rfl, (Option.some.inj hv').symm⟩
  · rintro D C h tk m' ys news' F' N' o1 hn hC₀ hD₀ hCL hDL hCD offC ⟨rfl, hy⟩
    refine ⟨m', hn, fun h'' hs'' => fin ys D h'' tk hy (F'.change hs'' hCL hC₀) (fun p hp => ?_) (off1_mem o1)⟩
    refine ⟨hs''.extBut _ _ ?_ (N' p hp).1, (N' p hp).2⟩
    rcases List.mem_cons.mp hp with rfl | hp
    · exact Ne.symm hCD
    · exact offC p hp
end

-- part C13

theorem sp_wd : Txt.split ⟨⟨[87, 73, 84, 72, 32, 68, 85, 80, 76, 73, 67, 65, 84, 69, 83]⟩⟩ ⟨⟨[32]⟩⟩ = [⟨⟨[87, 73, 84, 72]⟩⟩, ⟨⟨[68, 85, 80, 76, 73, 67, 65, 84, 69, 83]⟩⟩] := by decide +kernel
/-- the source of the block of firsts -/
noncomputable def FirstsPost (A : Around) (K : Frag) (h₀ : Heap) (L : Addr) (m : Str → Option Value) (Q : Value → Shared → Prop) (xv : Value) (s₁ : Shared) : Prop :=
  ∃ al ps as news, xv = .ref al ∧ A.handled = none ∧ Fr h₀ L s₁.heap m ∧ News h₀ L s₁.heap news ∧ K.In h₀ ∧ AltIn K news al ps as ∧ as.length ≤ 1000 ∧
      ∀ ys D h' tk, StrsAre ys (as.map (·.1)) → Fr h₀ L h' m → News h₀ L h' ((D, LCg.lst ys) :: news) → (∀ p ∈ news, p.1 ≠ D) → Q (.ref D) { s₁ with heap := h', toks := tk }
theorem FirstsPost.intro {A : Around} {K : Frag} {h₀ : Heap} {L : Addr} {m : Str → Option Value} {Q : Value → Shared → Prop} {s₁ : Shared} {al : Addr} {ps : List Addr} {as : List (Str × Bool)} (hh : A.handled = none) (F : Fr h₀ L s₁.heap m) (N : News h₀ L s₁.heap news) (X : K.In h₀) (hA : AltIn K news al ps as) (hz : as.length ≤ 1000)
    (h : ∀ ys D h' tk, StrsAre ys (as.map (·.1)) → Fr h₀ L h' m → News h₀ L h' ((D, LCg.lst ys) :: news) → (∀ p ∈ news, p.1 ≠ D) → Q (.ref D) { s₁ with heap := h', toks := tk }) : FirstsPost A K h₀ L m Q (.ref al) s₁ :=
  ⟨al, ps, as, news, rfl, hh, F, N, X, hA, hz, h⟩
theorem comp_firsts' {prog : Program} {A : Around} {E : Value → Shared → Prop} {s : Shared} {h₀ : Heap} {L : Addr} {m : Str → Option Value} {env : Env} {K : Frag} {x : Str} {px p1 p2 p3 pos : Pos} {tk0 : Nat} {iter : PySem.Expr} {scope : Scope} {cl : List (Str × Addr)} {Q : Value → Shared → Prop} (F₀ : Fr h₀ L s.heap m)
    (X₀ : K.In h₀)
    (hclos : closureFor scope env = pure cl) (hcell : ∀ y ∈ scope.names, y.2 ≠ .cell) (hkind : scope.kind = .function)
    (hnames : ∀ y ∈ scope.names, y.2 = .local → scope.names.lookup y.1 = some .local) (hx : scope.names.lookup x = some .local) (hl : ∀ C, (compEnvC scope cl C env).kindOf x = some .local) (hd : (x == ("__debug__" : Str)) = false)
    (h : wpAny (model prog w) A (eval iter env) (FirstsPost A K h₀ L m Q) E s)
    (hs : ∀ x, foldedSetIterable iter env x = pure x := by intro _; rfl) :
    wpAny (model prog w) A (eval (.ListComp (.Subscript (.Name x p1) (.Constant (.int 0) tk0 p2) p3) [⟨.Name x px, iter, [], 0⟩] scope pos) env) Q E s :=
  comp_firsts F₀ hclos hcell hkind hnames hx hl hd h hs
theorem said_29 : True := by
  k_with "eval ListComp" => (k_here; k_dflt (refine comp_firsts' (F₀ := by k_asm) (X₀ := by k_asm) (by rfl) (by decide) (by rfl) (by decide) (by rfl) (by intro _; rfl) (by decide) ?_))
  k_with "k_alt" => (first | assumption | exact AltIn.mono (by assumption) (fun p hp => by first | exact hp | exact List.Mem.tail _ hp | exact List.Mem.tail _ (List.Mem.tail _ hp) | exact List.Mem.tail _ (List.Mem.tail _ (List.Mem.tail _ hp)) | exact List.Mem.tail _ (List.Mem.tail _ (List.Mem.tail _ (List.Mem.tail _ hp)))))
  k_with "FirstsPost" => (k_dflt (refine' FirstsPost.intro ?H9q7 ?F9q7 ?N9q7 ?X9q7 ?A9q7 ?Z9q7 (fun ys' D' h' tk' hy' F' N' ne' => ?_); (case H9q7 => exact rfl); (case F9q7 => k_asm); (case N9q7 => k_asm); (case X9q7 => k_asm); (case A9q7 => k_extra "k_alt"); (case Z9q7 => assumption)))
  trivial
theorem in_firsts {prog : Program} {A : Around} {E : Value → Shared → Prop} {s : Shared} {h₀ : Heap} {L D : Addr} {ys : List Value} {as : List (Str × Bool)} {k : Str} {t : Tok} {Q : Value → Shared → Prop} (N : News h₀ L s.heap ((D, LCg.lst ys) :: news)) (hy : StrsAre ys (as.map (·.1)))
    (h : Q (.bool ((as.map (·.1)).any (· == k))) s) : wpAny (model prog w) A (compareOp .In (.str k t) (.ref D)) Q E s :=
  in_list_strs ⟨_, (N _ (.head _)).1, rfl, _, rfl⟩ hy h
theorem said_30 : True := by
  k_with "compareOp In str ref" => (k_here; k_dflt (refine in_firsts (by assumption) (by assumption) ?_))
  trivial
theorem ne_ne_mem {I d : Addr} {o : Obj} {led : List (Addr × Obj)} (h : ∀ p ∈ led, p.1 ≠ I) (hm : (d, o) ∈ led) : I ≠ d := (h _ hm).symm
theorem said_31 : True := by
  k_with "k_ne" => (first | exact ne_ne_mem (by assumption) (by k_mem) | exact (ne_ne_mem (by assumption) (by k_mem)).symm)
  trivial
/-- one more pair -/
theorem add_one {prog : Program} {A : Around} {E : Value → Shared → Prop} {s : Shared} {h₀ : Heap} {L al t1 pr : Addr} {m : Str → Option Value} {K : Frag} {ps : List Addr} {as : List (Str × Bool)} {x : Str} {b : Bool} {o1 o2 : Obj} {led nw : List (Addr × Obj)} {Q : Value → Shared → Prop}
    (F : Fr h₀ L s.heap m) (N : News h₀ L s.heap ((t1, o1) :: (pr, o2) :: led)) (hA : AltIn K nw al ps as) (hsub : ∀ q ∈ nw, q ∈ led) (h1 : o1.cls = .type "tuple") (h1d : ∃ n, o1.data = .seq #[.ref pr] n) (h2 : o2.cls = .type "tuple") (h2d : ∃ u n, o2.data = .seq #[.str x u, .bool b] n)
    (hlt : AllLt t1 ((pr, o2) :: led)) (hz : as.length ≤ 1000)
    (h : ∀ D oD h', Fr h₀ L h' m → News h₀ L h' ((D, oD) :: (pr, o2) :: led) → AllLt D ((pr, o2) :: led) → (∀ nw, AltIn K nw al ps as → AltIn K ([(D, oD), (pr, o2)] ++ nw) D (ps ++ [pr]) (as ++ [(x, b)])) → Q (.ref D) { s with heap := h' }) :
    wpAny (model prog w) A (binaryOp .Add (.ref al) (.ref t1)) Q E s := by
  obtain ⟨n1, e1⟩ := h1d
  obtain ⟨u, n2, e2⟩ := h2d
  obtain ⟨oa, ka, ha, hca, hda⟩ := hA.tup
  have hT : IsTup s.heap al (ps.map Value.ref).toArray := ⟨oa, (N _ (.tail _ (.tail _ (hsub _ ha)))).1, hca, ka, hda⟩
  have hT1 : IsTup s.heap t1 ([Value.ref pr] : List Value).toArray := ⟨o1, (N _ (.head _)).1, h1, n1, e1⟩
  have more : ∀ D oD, oD.cls = .type "tuple" → (∃ n, oD.data = .seq ((ps ++ [pr]).map Value.ref).toArray n) → ∀ nw, AltIn K nw al ps as → AltIn K ([(D, oD), (pr, o2)] ++ nw) D (ps ++ [pr]) (as ++ [(x, b)]) := by
    rintro D oD hc ⟨n, hd⟩ nw hA
    refine ⟨⟨oD, n, .head _, hc, hd⟩, by simp [hA.len], fun i p c hp hb => ?_⟩
    rcases Nat.lt_or_ge i ps.length with hi | hi
    · rw [List.getElem?_append_left hi] at hp
      rw [List.getElem?_append_left (by rw [← hA.len]; exact hi)] at hb
      exact (hA.pairs i p c hp hb).mono fun q hq => .tail _ (.tail _ hq)
    · rw [List.getElem?_append_right hi] at hp
      rw [List.getElem?_append_right (by rw [← hA.len]; exact hi)] at hb
      rw [hA.len] at hp
      cases hj : i - as.length with
      | zero =>
        rw [hj] at hp hb
        simp at hp hb
        subst hp hb
        exact ⟨o2, u, n2, .inr (.tail _ (.head _)), h2, e2⟩
      | succ j =>
        rw [hj] at hp
        simp at hp
  have hlen : ps.length ≤ 1000 := by rw [hA.len]; exact hz
  have lt_ge : ∀ {D : Addr} {l : List (Addr × Obj)}, (∀ p ∈ l, p.1 < D) → AllLt D l := fun h => allLt_of h
  refine add_tuples F N hT hT1 (fun hv => ?_) (fun _ q => absurd q (by simp)) (fun _ _ h' F' N' => ?_) (by rw [sizeLine_eq]; simp; omega)
  · have hps : ps = [] := by simpa using hv
    subst hps
    exact h t1 o1 s.heap F N hlt (more t1 o1 h1 ⟨n1, by simpa using e1⟩)
  · refine h s.heap.objs.size ({ cls := .type "tuple", data := .seq (ps.map Value.ref ++ [Value.ref pr]).toArray } : Obj) h' F' (fun q hq => N' q ?_) (lt_ge fun q hq => Heap.lt_size (N q (.tail _ hq)).1) ?_
    rcases List.mem_cons.mp hq with rfl | hq
    · exact .head _
    · exact .tail _ (.tail _ hq)
    · exact more _ _ rfl ⟨0, by simp⟩
theorem said_32 : True := by
  k_with "k_sub9" => (intro p hp; first | exact hp | exact List.Mem.tail _ hp | exact List.Mem.tail _ (List.Mem.tail _ hp) | exact List.Mem.tail _ (List.Mem.tail _ (List.Mem.tail _ hp)) | exact List.Mem.tail _ (List.Mem.tail _ (List.Mem.tail _ (List.Mem.tail _ hp))))
  trivial
theorem lt_two {D pr : Addr} {oD o2 : Obj} {news : List (Addr × Obj)} (h1 : AllLt D news) (h2 : AllLt pr news) : ∀ q ∈ [(D, oD), (pr, o2)], ∀ p ∈ news, p.1 < q.1 := fun q hq p hp => by
  rcases List.mem_cons.mp hq with rfl | hq
  · exact lt_all h1 p hp
  · rw [List.mem_singleton.mp hq]
    exact lt_all h2 p hp
theorem perm5 {h₀ h : Heap} {L : Addr} {a b c d e : Addr × Obj} {news : List (Addr × Obj)} (N : News h₀ L h (a :: b :: c :: d :: e :: news)) : News h₀ L h (d :: e :: a :: b :: news) := fun z hz => by
  refine N z ?_
  simp only [List.mem_cons] at hz ⊢
  rcases hz with h | h | h | h | h <;> simp [h]

theorem said_33 : True := by
  k_with "binaryOp Add ref ref" => (k_here; k_dflt (refine' add_one ?F9q7 ?N9q7 ?A9q7 ?S9q7 ?a9q7 ?b9q7 ?c9q7 ?d9q7 ?L9q7 ?Z9q7 ?_; (case F9q7 => k_asm); (case N9q7 => assumption); (case A9q7 => assumption); (case S9q7 => k_extra "k_sub9"); (case a9q7 => exact rfl); (case b9q7 => exact ⟨_, rfl⟩); (case c9q7 => exact rfl); (case d9q7 => exact ⟨_, _, rfl⟩); (case L9q7 => assumption); (case Z9q7 => assumption)); intro D' oD' h' F' N' l1' A'; (try simp only [AllLt] at l1'))
  trivial
/-- the flag behind the name -/
noncomputable def dupF (ds : List TD) (j : Nat) : Nat × Bool :=
  if (wordB ds j ⟨⟨[87, 73, 84, 72]⟩⟩ && wordB ds (j + 1) ⟨⟨[68, 85, 80, 76, 73, 67, 65, 84, 69, 83]⟩⟩) = true then (j + 2, true) else if wordB ds j ⟨⟨[68, 85, 80, 76, 73, 67, 65, 84, 69, 83]⟩⟩ = true then (j + 1, true) else (j, false)
noncomputable def altF (ds : List TD) (i : Nat) : Cl :=
  nameF ds (skipN ds (skipN ds (skipN ds i ⟨⟨[82, 69, 67, 79, 82, 68]⟩⟩) ⟨⟨[75, 69, 89]⟩⟩) ⟨⟨[73, 83]⟩⟩) fun j x => .alt (dupF ds j).1 x (dupF ds j).2
theorem dup_1 {ds : List TD} {j : Nat} {x : Str} (h : (wordB ds j ⟨⟨[87, 73, 84, 72]⟩⟩ && wordB ds (j + 1) ⟨⟨[68, 85, 80, 76, 73, 67, 65, 84, 69, 83]⟩⟩) = true) : Cl.alt (dupF ds j).1 x (dupF ds j).2 = .alt (j + 2) x true := by
  rw [dupF, if_pos h]
theorem dup_2 {ds : List TD} {j : Nat} {x : Str} (h : (wordB ds j ⟨⟨[87, 73, 84, 72]⟩⟩ && wordB ds (j + 1) ⟨⟨[68, 85, 80, 76, 73, 67, 65, 84, 69, 83]⟩⟩) = false) (h2 : wordB ds j ⟨⟨[68, 85, 80, 76, 73, 67, 65, 84, 69, 83]⟩⟩ = true) : Cl.alt (dupF ds j).1 x (dupF ds j).2 = .alt (j + 1) x true := by
  rw [dupF, if_neg (by rw [h]; decide), if_pos h2]
theorem dup_3 {ds : List TD} {j : Nat} {x : Str} (h : (wordB ds j ⟨⟨[87, 73, 84, 72]⟩⟩ && wordB ds (j + 1) ⟨⟨[68, 85, 80, 76, 73, 67, 65, 84, 69, 83]⟩⟩) = false) (h2 : wordB ds j ⟨⟨[68, 85, 80, 76, 73, 67, 65, 84, 69, 83]⟩⟩ = false) : Cl.alt (dupF ds j).1 x (dupF ds j).2 = .alt j x false := by
  rw [dupF, if_neg (by rw [h]; decide), if_neg (by rw [h2]; decide)]
theorem altF_at {ds : List TD} {i j1 j2 j3 : Nat} (e1 : skipN ds i ⟨⟨[82, 69, 67, 79, 82, 68]⟩⟩ = j1) (e2 : skipN ds j1 ⟨⟨[75, 69, 89]⟩⟩ = j2) (e3 : skipN ds j2 ⟨⟨[73, 83]⟩⟩ = j3) : altF ds i = nameF ds j3 fun j x => .alt (dupF ds j).1 x (dupF ds j).2 := by
  subst e1 e2 e3
  rfl

theorem said_34 : True := by
  k_with "call ref" => (k_here; (with_reducible show wpAny _ _ (call (Value.ref 205) [_, Value.str _ _]) _ _ _); k_dflt (refine' skip_on ?Pq7 ?Eq7 ?Tq7 ?Iq7 ?Sq7 ?Zq7 ?Bq7 ?Fq7 ?Xq7 ?Nq7 ?Tpq7 ?Cq7 ?Dq7 ?Uq7 (fun j' h' tk' t' ej' lj' F' N' => ?_); (case Nq7 => k_asm); (case Pq7 => k_extra "k_pick"); (case Eq7 => k_all); (case Tq7 => k_extra "k_toks"); (case Iq7 => k_extra "k_small"); (case Sq7 => decide +kernel); (case Zq7 => decide +kernel); (case Bq7 => k_asm); (case Fq7 => k_asm); (case Xq7 => k_asm); (case Tpq7 => k_asm); (case Cq7 => first | exact rfl | assumption); (case Dq7 => ktr_room); (case Uq7 => ktr_units)))
  k_with "call ref" => (k_here; (with_reducible show wpAny _ _ (call (Value.ref 205) [_, Value.str ⟨⟨[68, 85, 80, 76, 73, 67, 65, 84, 69, 83]⟩⟩ _]) _ _ _); k_dflt (refine' skip_if1 ?Pq7 ?Eq7 ?Tq7 ?Iq7 ?Sq7 ?Zq7 ?Bq7 ?Fq7 ?Xq7 ?Nq7 ?Tpq7 ?Cq7 ?Dq7 ?Uq7 ⟨fun hw' h' tk' t' F' N' => ?_, fun hw' h' tk' F' N' => ?_⟩; (case Nq7 => k_asm); (case Pq7 => k_extra "k_pick"); (case Eq7 => k_all); (case Tq7 => k_extra "k_toks"); (case Iq7 => k_extra "k_small"); (case Sq7 => decide +kernel); (case Zq7 => decide +kernel); (case Bq7 => k_asm); (case Fq7 => k_asm); (case Xq7 => k_asm); (case Tpq7 => k_asm); (case Cq7 => first | exact rfl | assumption); (case Dq7 => ktr_room); (case Uq7 => ktr_units)))
  k_with "call ref" => (k_here; (with_reducible show wpAny _ _ (call (Value.ref 205) [_, Value.str ⟨⟨[87, 73, 84, 72, 32, 68, 85, 80, 76, 73, 67, 65, 84, 69, 83]⟩⟩ _]) _ _ _); k_dflt (refine' skip2_if ?Pq7 ?Eq7 ?Tq7 ?Iq7 ?Sq7 ?Zq7 ?Bq7 ?Fq7 ?Xq7 ?Nq7 ?Tpq7 ?Cq7 ?Dq7 ?Uq7 ⟨fun hw' h' tk' t' F' N' => ?_, fun hw' h' tk' F' N' => ?_⟩; (case Nq7 => k_asm); (case Pq7 => k_extra "k_pick"); (case Eq7 => k_all); (case Tq7 => k_extra "k_toks"); (case Iq7 => k_extra "k_small"); (case Sq7 => exact sp_wd); (case Zq7 => rw [sizeLine_eq]; decide); (case Bq7 => k_asm); (case Fq7 => k_asm); (case Xq7 => k_asm); (case Tpq7 => k_asm); (case Cq7 => first | exact rfl | assumption); (case Dq7 => ktr_room); (case Uq7 => ktr_units)))
  k_with "call ref" => (k_here; (with_reducible show wpAny _ _ (call (Value.ref 241) [_]) _ _ _); k_dflt (refine' name_spec ?Pq7 ?Eq7 ?Tq7 ?Iq7 ?Gq7 ?Bq7 ?Fq7 ?Xq7 ?Nq7 ?Tpq7 ?Cq7 ?Dq7 ?Uq7 ⟨fun d' h' tk' t' u' e1' e2' F' N' => ?_, fun e3' g' e' de' x' q1' q2' tw' pt' u3' u4' h' tk' pm' F' R' U' => ?_⟩; (case Nq7 => k_asm); (case Pq7 => k_extra "k_pick"); (case Eq7 => k_all); (case Tq7 => k_extra "k_toks"); (case Iq7 => k_extra "k_small"); (case Gq7 => assumption); (case Bq7 => k_asm); (case Fq7 => k_asm); (case Xq7 => k_asm); (case Tpq7 => k_asm); (case Cq7 => first | exact rfl | assumption); (case Dq7 => ktr_room); (case Uq7 => ktr_units)))
  k_with "call ref" => (k_here; (with_reducible show wpAny _ _ (call (Value.ref 176) [_, Value.str _ _]) _ _ _); k_dflt (refine' fault_spec ?Tq7 ?Gq7 ?Bq7 ?Fq7 ?Xq7 ?Nq7 ?Tpq7 ?Cq7 ?Dq7 ?Uq7 (fun e' h' tk' t1' de' _ _ pt' _ _ pm' F' N' ne' => ?_); (case Nq7 => exact nt (by assumption)); (case Tq7 => k_extra "k_rd"); (case Gq7 => assumption); (case Bq7 => k_asm); (case Fq7 => k_asm); (case Xq7 => k_asm); (case Tpq7 => k_asm); (case Cq7 => first | exact rfl | assumption); (case Dq7 => ktr_room); (case Uq7 => ktr_units)))
  trivial
set_option maxHeartbeats 8000000 in
theorem alt_spec {sp dsp : Addr} {c0 c1 c2 c3 c4 c5 c6 c7 c8 c9 : Tok} {v0 v1 v2 v3 v4 v6 v7 v8 v9 : Value} {al : Addr} {ps : List Addr} {as : List (Str × Bool)} {led news1 : List (Addr × Obj)} (hP : Pick dr (rdObj w l dn k1 k2 k3 i t) led news1) (hS : Pick dsp (spO w c0 c1 c2 c3 c4 c5 c6 c7 c8 c9 v0 v1 v2 v3 v4 (.ref al) v6 v7 v8 v9) news1 news) (hsp : (sp, instObj 47 dsp) ∈ news) (hsd : dsp ≠ dr) (hnd : ∀ p ∈ news, p.1 ≠ dr) (hns : ∀ p ∈ news, p.1 ≠ dsp) (hT : ToksIn w news r l dn dr nl xs ds) (hi : i ≤ 900) (hp : 0 < ds.length) (hA : AltIn (hd.heap_350 w.params) news al ps as) (hz : as.length ≤ 900) :
    ClaimE w 12 77 [.ref r, .ref sp] led
      (fun h₀ L m s Q E base envs => (∀ j x b al' ps' led' h' tk' t', altF ds i = .alt j x b → (as.map (·.1)).any (· == x) = false → Fr h₀ L h' m → News h₀ L h' ((dr, rdObj w l dn k1 k2 k3 j t') :: (dsp, spO w c0 c1 c2 c3 c4 c5 c6 c7 c8 c9 v0 v1 v2 v3 v4 (.ref al') v6 v7 v8 v9) :: (led' ++ news)) → (∀ nw, AltIn (hd.heap_350 w.params) nw al ps as → AltIn (hd.heap_350 w.params) (led' ++ nw) al' ps' (as ++ [(x, b)])) → (∀ q ∈ led', ∀ p ∈ news, p.1 < q.1) → (∀ q ∈ led', q.1 ≠ dr) → (∀ q ∈ led', q.1 ≠ dsp) → Q .none { s with heap := h', toks := tk' }) ∧
        (∀ j x b jr tr, altF ds i = .alt j x b → (as.map (·.1)).any (· == x) = true → FaultEnds w h₀ L m s E base envs (endAt ds j) ((dr, rdObj w l dn k1 k2 k3 jr tr) :: (dsp, spO w c0 c1 c2 c3 c4 c5 c6 c7 c8 c9 v0 v1 v2 v3 v4 (.ref al) v6 v7 v8 v9) :: news)) ∧
        (∀ j jr tr, altF ds i = .bad j → FaultEnds w h₀ L m s E base envs j ((dr, rdObj w l dn k1 k2 k3 jr tr) :: (dsp, spO w c0 c1 c2 c3 c4 c5 c6 c7 c8 c9 v0 v1 v2 v3 v4 (.ref al) v6 v7 v8 v9) :: news))) := by
  intro prog p loose mean mg mb dp un gd cn cs a ccd cl outer A₀ base h₀ L m s Q E hB hF hX hN hTop hcs hdp hu hret
  have hr := hT.inst
  have hN := canon hP hS hN
  have hds := hsd.symm
  clear hP hS
  have hz2 : as.length ≤ 1000 := by omega
  refine wpAny_call ?_
  k_dflt cell_enter
  have hz' : as.length ≤ 1000 := by omega
  k_steps
  · exact hret.2.1 _ _ _ _ _ ((altF_at (by assumption) (by assumption) (by assumption)).trans ((nameF_ok (by assumption) (by assumption)).trans (dup_1 (by assumption)))) (by assumption) _ _ _ _ _ _ _ _ _ _ _ _ (by assumption) (by assumption) (by assumption) (by assumption)
  · (repeat (rename (_ < _ ∧ _) => hC9; obtain ⟨_, _⟩ := hC9)); exact hret.1 _ _ _ _ _ [_, _] _ _ _ ((altF_at (by assumption) (by assumption) (by assumption)).trans ((nameF_ok (by assumption) (by assumption)).trans (dup_1 (by assumption)))) (by assumption) (by assumption) (perm5 (by assumption)) (by assumption) (lt_two (by assumption) (by assumption)) (by k_all) (by k_all)
  · exact hret.2.1 _ _ _ _ _ ((altF_at (by assumption) (by assumption) (by assumption)).trans ((nameF_ok (by assumption) (by assumption)).trans (dup_2 (by assumption) (by assumption)))) (by assumption) _ _ _ _ _ _ _ _ _ _ _ _ (by assumption) (by assumption) (by assumption) (by assumption)
  · (repeat (rename (_ < _ ∧ _) => hC9; obtain ⟨_, _⟩ := hC9)); exact hret.1 _ _ _ _ _ [_, _] _ _ _ ((altF_at (by assumption) (by assumption) (by assumption)).trans ((nameF_ok (by assumption) (by assumption)).trans (dup_2 (by assumption) (by assumption)))) (by assumption) (by assumption) (perm5 (by assumption)) (by assumption) (lt_two (by assumption) (by assumption)) (by k_all) (by k_all)
  · exact hret.2.1 _ _ _ _ _ ((altF_at (by assumption) (by assumption) (by assumption)).trans ((nameF_ok (by assumption) (by assumption)).trans (dup_3 (by assumption) (by assumption)))) (by assumption) _ _ _ _ _ _ _ _ _ _ _ _ (by assumption) (by assumption) (by assumption) (by assumption)
  · (repeat (rename (_ < _ ∧ _) => hC9; obtain ⟨_, _⟩ := hC9)); exact hret.1 _ _ _ _ _ [_, _] _ _ _ ((altF_at (by assumption) (by assumption) (by assumption)).trans ((nameF_ok (by assumption) (by assumption)).trans (dup_3 (by assumption) (by assumption)))) (by assumption) (by assumption) (perm5 (by assumption)) (by assumption) (lt_two (by assumption) (by assumption)) (by k_all) (by k_all)
  · exact hret.2.2 _ _ _ ((altF_at (by assumption) (by assumption) (by assumption)).trans (nameF_bad (by assumption))) _ _ _ _ _ _ _ _ _ _ _ _ (by assumption) (by assumption) (by assumption) (by assumption)

-- part C14

theorem sp_fs : Txt.split ⟨⟨[70, 73, 76, 69, 32, 83, 84, 65, 84, 85, 83]⟩⟩ ⟨⟨[32]⟩⟩ = [⟨⟨[70, 73, 76, 69]⟩⟩, ⟨⟨[83, 84, 65, 84, 85, 83]⟩⟩] := by decide +kernel
noncomputable def oneF (ds : List TD) (j : Nat) (l : List (Str × Str)) (k : Nat → Str → Cl) : Cl := match oneW ds j l with
  | some y => k (j + 1) y
  | none => .bad (endAt ds j)
theorem oneF_ok {ds : List TD} {j : Nat} {l : List (Str × Str)} {k : Nat → Str → Cl} {y : Str} (h : oneW ds j l = some y) : oneF ds j l k = k (j + 1) y := by
  rw [oneF, h]
theorem oneF_bad {ds : List TD} {j : Nat} {l : List (Str × Str)} {k : Nat → Str → Cl} (h : oneW ds j l = none) : oneF ds j l k = .bad (endAt ds j) := by
  rw [oneF, h]
/-- what one clause tells, whole -/
noncomputable def clauseF (ds : List TD) (i : Nat) : Cl :=
  if wordB ds i ⟨⟨[65, 83, 83, 73, 71, 78]⟩⟩ = true then assignF ds (i + 1)
  else if wordB ds i ⟨⟨[65, 67, 67, 69, 83, 83]⟩⟩ = true then oneF ds (skipN ds (skipN ds (i + 1) ⟨⟨[77, 79, 68, 69]⟩⟩) ⟨⟨[73, 83]⟩⟩) accs .acc
  else if wordB ds i ⟨⟨[82, 69, 67, 79, 82, 68]⟩⟩ = true then keyF ds (i + 1)
  else if wordB ds i ⟨⟨[65, 76, 84, 69, 82, 78, 65, 84, 69]⟩⟩ = true then altF ds (i + 1)
  else if (wordB ds i ⟨⟨[70, 73, 76, 69]⟩⟩ && wordB ds (i + 1) ⟨⟨[83, 84, 65, 84, 85, 83]⟩⟩) = true then nameF ds (skipN ds (i + 2) ⟨⟨[73, 83]⟩⟩) .status
  else if wordB ds i ⟨⟨[83, 84, 65, 84, 85, 83]⟩⟩ = true then nameF ds (skipN ds (i + 1) ⟨⟨[73, 83]⟩⟩) .status
  else if wordB ds i ⟨⟨[82, 69, 76, 65, 84, 73, 86, 69]⟩⟩ = true then relF ds (i + 1)
  else if wordB ds i ⟨⟨[79, 82, 71, 65, 78, 73, 90, 65, 84, 73, 79, 78]⟩⟩ = true then oneF ds (skipN ds (skipN ds (i + 1) ⟨⟨[73, 83]⟩⟩) ⟨⟨[76, 73, 78, 69]⟩⟩) orgs .org
  else oneF ds i orgs .org
theorem clauseF_0 {ds : List TD} {i : Nat} (h0 : wordB ds i ⟨⟨[65, 83, 83, 73, 71, 78]⟩⟩ = true)  : clauseF ds i = assignF ds (i + 1) := by
  rw [clauseF, if_pos h0]
theorem clauseF_1 {ds : List TD} {i : Nat} (h0 : wordB ds i ⟨⟨[65, 83, 83, 73, 71, 78]⟩⟩ = false) (h1 : wordB ds i ⟨⟨[65, 67, 67, 69, 83, 83]⟩⟩ = true) (e0 : skipN ds (i + 1) ⟨⟨[77, 79, 68, 69]⟩⟩ = j1) (e1 : skipN ds j1 ⟨⟨[73, 83]⟩⟩ = j2) : clauseF ds i = oneF ds j2 accs .acc := by
  subst e0 e1
  rw [clauseF, if_neg (by rw [h0]; decide), if_pos h1]
theorem clauseF_2 {ds : List TD} {i : Nat} (h0 : wordB ds i ⟨⟨[65, 83, 83, 73, 71, 78]⟩⟩ = false) (h1 : wordB ds i ⟨⟨[65, 67, 67, 69, 83, 83]⟩⟩ = false) (h2 : wordB ds i ⟨⟨[82, 69, 67, 79, 82, 68]⟩⟩ = true)  : clauseF ds i = keyF ds (i + 1) := by
  rw [clauseF, if_neg (by rw [h0]; decide), if_neg (by rw [h1]; decide), if_pos h2]
theorem clauseF_3 {ds : List TD} {i : Nat} (h0 : wordB ds i ⟨⟨[65, 83, 83, 73, 71, 78]⟩⟩ = false) (h1 : wordB ds i ⟨⟨[65, 67, 67, 69, 83, 83]⟩⟩ = false) (h2 : wordB ds i ⟨⟨[82, 69, 67, 79, 82, 68]⟩⟩ = false) (h3 : wordB ds i ⟨⟨[65, 76, 84, 69, 82, 78, 65, 84, 69]⟩⟩ = true)  : clauseF ds i = altF ds (i + 1) := by
  rw [clauseF, if_neg (by rw [h0]; decide), if_neg (by rw [h1]; decide), if_neg (by rw [h2]; decide), if_pos h3]
theorem clauseF_4 {ds : List TD} {i j1 : Nat} (h0 : wordB ds i ⟨⟨[65, 83, 83, 73, 71, 78]⟩⟩ = false) (h1 : wordB ds i ⟨⟨[65, 67, 67, 69, 83, 83]⟩⟩ = false) (h2 : wordB ds i ⟨⟨[82, 69, 67, 79, 82, 68]⟩⟩ = false) (h3 : wordB ds i ⟨⟨[65, 76, 84, 69, 82, 78, 65, 84, 69]⟩⟩ = false) (h4 : (wordB ds i ⟨⟨[70, 73, 76, 69]⟩⟩ && wordB ds (i + 1) ⟨⟨[83, 84, 65, 84, 85, 83]⟩⟩) = true) (e0 : skipN ds (i + 2) ⟨⟨[73, 83]⟩⟩ = j1) : clauseF ds i = nameF ds j1 .status := by
  subst e0
  rw [clauseF, if_neg (by rw [h0]; decide), if_neg (by rw [h1]; decide), if_neg (by rw [h2]; decide), if_neg (by rw [h3]; decide), if_pos h4]
theorem clauseF_5 {ds : List TD} {i j1 : Nat} (h0 : wordB ds i ⟨⟨[65, 83, 83, 73, 71, 78]⟩⟩ = false) (h1 : wordB ds i ⟨⟨[65, 67, 67, 69, 83, 83]⟩⟩ = false) (h2 : wordB ds i ⟨⟨[82, 69, 67, 79, 82, 68]⟩⟩ = false) (h3 : wordB ds i ⟨⟨[65, 76, 84, 69, 82, 78, 65, 84, 69]⟩⟩ = false) (h4 : (wordB ds i ⟨⟨[70, 73, 76, 69]⟩⟩ && wordB ds (i + 1) ⟨⟨[83, 84, 65, 84, 85, 83]⟩⟩) = false) (h5 : wordB ds i ⟨⟨[83, 84, 65, 84, 85, 83]⟩⟩ = true) (e0 : skipN ds (i + 1) ⟨⟨[73, 83]⟩⟩ = j1) : clauseF ds i = nameF ds j1 .status := by
  subst e0
  rw [clauseF, if_neg (by rw [h0]; decide), if_neg (by rw [h1]; decide), if_neg (by rw [h2]; decide), if_neg (by rw [h3]; decide), if_neg (by rw [h4]; decide), if_pos h5]
theorem clauseF_6 {ds : List TD} {i : Nat} (h0 : wordB ds i ⟨⟨[65, 83, 83, 73, 71, 78]⟩⟩ = false) (h1 : wordB ds i ⟨⟨[65, 67, 67, 69, 83, 83]⟩⟩ = false) (h2 : wordB ds i ⟨⟨[82, 69, 67, 79, 82, 68]⟩⟩ = false) (h3 : wordB ds i ⟨⟨[65, 76, 84, 69, 82, 78, 65, 84, 69]⟩⟩ = false) (h4 : (wordB ds i ⟨⟨[70, 73, 76, 69]⟩⟩ && wordB ds (i + 1) ⟨⟨[83, 84, 65, 84, 85, 83]⟩⟩) = false) (h5 : wordB ds i ⟨⟨[83, 84, 65, 84, 85, 83]⟩⟩ = false) (h6 : wordB ds i ⟨⟨[82, 69, 76, 65, 84, 73, 86, 69]⟩⟩ = true)  : clauseF ds i = relF ds (i + 1) := by
  rw [clauseF, if_neg (by rw [h0]; decide), if_neg (by rw [h1]; decide), if_neg (by rw [h2]; decide), if_neg (by rw [h3]; decide), if_neg (by rw [h4]; decide), if_neg (by rw [h5]; decide), if_pos h6]
theorem clauseF_7 {ds : List TD} {i : Nat} (h0 : wordB ds i ⟨⟨[65, 83, 83, 73, 71, 78]⟩⟩ = false) (h1 : wordB ds i ⟨⟨[65, 67, 67, 69, 83, 83]⟩⟩ = false) (h2 : wordB ds i ⟨⟨[82, 69, 67, 79, 82, 68]⟩⟩ = false) (h3 : wordB ds i ⟨⟨[65, 76, 84, 69, 82, 78, 65, 84, 69]⟩⟩ = false) (h4 : (wordB ds i ⟨⟨[70, 73, 76, 69]⟩⟩ && wordB ds (i + 1) ⟨⟨[83, 84, 65, 84, 85, 83]⟩⟩) = false) (h5 : wordB ds i ⟨⟨[83, 84, 65, 84, 85, 83]⟩⟩ = false) (h6 : wordB ds i ⟨⟨[82, 69, 76, 65, 84, 73, 86, 69]⟩⟩ = false) (h7 : wordB ds i ⟨⟨[79, 82, 71, 65, 78, 73, 90, 65, 84, 73, 79, 78]⟩⟩ = true) (e0 : skipN ds (i + 1) ⟨⟨[73, 83]⟩⟩ = j1) (e1 : skipN ds j1 ⟨⟨[76, 73, 78, 69]⟩⟩ = j2) : clauseF ds i = oneF ds j2 orgs .org := by
  subst e0 e1
  rw [clauseF, if_neg (by rw [h0]; decide), if_neg (by rw [h1]; decide), if_neg (by rw [h2]; decide), if_neg (by rw [h3]; decide), if_neg (by rw [h4]; decide), if_neg (by rw [h5]; decide), if_neg (by rw [h6]; decide), if_pos h7]
theorem clauseF_8 {ds : List TD} {i : Nat} (h0 : wordB ds i ⟨⟨[65, 83, 83, 73, 71, 78]⟩⟩ = false) (h1 : wordB ds i ⟨⟨[65, 67, 67, 69, 83, 83]⟩⟩ = false) (h2 : wordB ds i ⟨⟨[82, 69, 67, 79, 82, 68]⟩⟩ = false) (h3 : wordB ds i ⟨⟨[65, 76, 84, 69, 82, 78, 65, 84, 69]⟩⟩ = false) (h4 : (wordB ds i ⟨⟨[70, 73, 76, 69]⟩⟩ && wordB ds (i + 1) ⟨⟨[83, 84, 65, 84, 85, 83]⟩⟩) = false) (h5 : wordB ds i ⟨⟨[83, 84, 65, 84, 85, 83]⟩⟩ = false) (h6 : wordB ds i ⟨⟨[82, 69, 76, 65, 84, 73, 86, 69]⟩⟩ = false) (h7 : wordB ds i ⟨⟨[79, 82, 71, 65, 78, 73, 90, 65, 84, 73, 79, 78]⟩⟩ = false)  : clauseF ds i = oneF ds i orgs .org := by
  rw [clauseF, if_neg (by rw [h0]; decide), if_neg (by rw [h1]; decide), if_neg (by rw [h2]; decide), if_neg (by rw [h3]; decide), if_neg (by rw [h4]; decide), if_neg (by rw [h5]; decide), if_neg (by rw [h6]; decide), if_neg (by rw [h7]; decide)]

theorem said_35 : True := by
  k_with "call ref" => (k_here; (with_reducible show wpAny _ _ (call (Value.ref 205) [_, Value.str _ _]) _ _ _); k_dflt (refine' skip_if1 ?Pq7 ?Eq7 ?Tq7 ?Iq7 ?Sq7 ?Zq7 ?Bq7 ?Fq7 ?Xq7 ?Nq7 ?Tpq7 ?Cq7 ?Dq7 ?Uq7 ⟨fun hw' h' tk' t' F' N' => ?_, fun hw' h' tk' F' N' => ?_⟩; (case Nq7 => k_asm); (case Pq7 => k_extra "k_pick"); (case Eq7 => k_all); (case Tq7 => k_extra "k_toks"); (case Iq7 => k_extra "k_small"); (case Sq7 => decide +kernel); (case Zq7 => decide +kernel); (case Bq7 => k_asm); (case Fq7 => k_asm); (case Xq7 => k_asm); (case Tpq7 => k_asm); (case Cq7 => first | exact rfl | assumption); (case Dq7 => ktr_room); (case Uq7 => ktr_units)))
  k_with "call ref" => (k_here; (with_reducible show wpAny _ _ (call (Value.ref 205) [_, Value.str ⟨⟨[77, 79, 68, 69]⟩⟩ _]) _ _ _); k_dflt (refine' skip_on ?Pq7 ?Eq7 ?Tq7 ?Iq7 ?Sq7 ?Zq7 ?Bq7 ?Fq7 ?Xq7 ?Nq7 ?Tpq7 ?Cq7 ?Dq7 ?Uq7 (fun j' h' tk' t' ej' lj' F' N' => ?_); (case Nq7 => k_asm); (case Pq7 => k_extra "k_pick"); (case Eq7 => k_all); (case Tq7 => k_extra "k_toks"); (case Iq7 => k_extra "k_small"); (case Sq7 => decide +kernel); (case Zq7 => decide +kernel); (case Bq7 => k_asm); (case Fq7 => k_asm); (case Xq7 => k_asm); (case Tpq7 => k_asm); (case Cq7 => first | exact rfl | assumption); (case Dq7 => ktr_room); (case Uq7 => ktr_units)))
  k_with "call ref" => (k_here; (with_reducible show wpAny _ _ (call (Value.ref 205) [_, Value.str ⟨⟨[73, 83]⟩⟩ _]) _ _ _); k_dflt (refine' skip_on ?Pq7 ?Eq7 ?Tq7 ?Iq7 ?Sq7 ?Zq7 ?Bq7 ?Fq7 ?Xq7 ?Nq7 ?Tpq7 ?Cq7 ?Dq7 ?Uq7 (fun j' h' tk' t' ej' lj' F' N' => ?_); (case Nq7 => k_asm); (case Pq7 => k_extra "k_pick"); (case Eq7 => k_all); (case Tq7 => k_extra "k_toks"); (case Iq7 => k_extra "k_small"); (case Sq7 => decide +kernel); (case Zq7 => decide +kernel); (case Bq7 => k_asm); (case Fq7 => k_asm); (case Xq7 => k_asm); (case Tpq7 => k_asm); (case Cq7 => first | exact rfl | assumption); (case Dq7 => ktr_room); (case Uq7 => ktr_units)))
  k_with "call ref" => (k_here; (with_reducible show wpAny _ _ (call (Value.ref 205) [_, Value.str ⟨⟨[76, 73, 78, 69]⟩⟩ _]) _ _ _); k_dflt (refine' skip_on ?Pq7 ?Eq7 ?Tq7 ?Iq7 ?Sq7 ?Zq7 ?Bq7 ?Fq7 ?Xq7 ?Nq7 ?Tpq7 ?Cq7 ?Dq7 ?Uq7 (fun j' h' tk' t' ej' lj' F' N' => ?_); (case Nq7 => k_asm); (case Pq7 => k_extra "k_pick"); (case Eq7 => k_all); (case Tq7 => k_extra "k_toks"); (case Iq7 => k_extra "k_small"); (case Sq7 => decide +kernel); (case Zq7 => decide +kernel); (case Bq7 => k_asm); (case Fq7 => k_asm); (case Xq7 => k_asm); (case Tpq7 => k_asm); (case Cq7 => first | exact rfl | assumption); (case Dq7 => ktr_room); (case Uq7 => ktr_units)))
  k_with "call ref" => (k_here; (with_reducible show wpAny _ _ (call (Value.ref 205) [_, Value.str ⟨⟨[70, 73, 76, 69, 32, 83, 84, 65, 84, 85, 83]⟩⟩ _]) _ _ _); k_dflt (refine' skip2_if ?Pq7 ?Eq7 ?Tq7 ?Iq7 ?Sq7 ?Zq7 ?Bq7 ?Fq7 ?Xq7 ?Nq7 ?Tpq7 ?Cq7 ?Dq7 ?Uq7 ⟨fun hw' h' tk' t' F' N' => ?_, fun hw' h' tk' F' N' => ?_⟩; (case Nq7 => k_asm); (case Pq7 => k_extra "k_pick"); (case Eq7 => k_all); (case Tq7 => k_extra "k_toks"); (case Iq7 => k_extra "k_small"); (case Sq7 => exact sp_fs); (case Zq7 => rw [sizeLine_eq]; decide); (case Bq7 => k_asm); (case Fq7 => k_asm); (case Xq7 => k_asm); (case Tpq7 => k_asm); (case Cq7 => first | exact rfl | assumption); (case Dq7 => ktr_room); (case Uq7 => ktr_units)))
  k_with "call ref" => (k_here; (with_reducible show wpAny _ _ (call (Value.ref 241) [_]) _ _ _); k_dflt (refine' name_spec ?Pq7 ?Eq7 ?Tq7 ?Iq7 ?Gq7 ?Bq7 ?Fq7 ?Xq7 ?Nq7 ?Tpq7 ?Cq7 ?Dq7 ?Uq7 ⟨fun d' h' tk' t' u' e1' e2' F' N' => ?_, fun e3' g' e' de' x' q1' q2' tw' pt' u3' u4' h' tk' pm' F' R' U' => ?_⟩; (case Nq7 => k_asm); (case Pq7 => k_extra "k_pick"); (case Eq7 => k_all); (case Tq7 => k_extra "k_toks"); (case Iq7 => k_extra "k_small"); (case Gq7 => assumption); (case Bq7 => k_asm); (case Fq7 => k_asm); (case Xq7 => k_asm); (case Tpq7 => k_asm); (case Cq7 => first | exact rfl | assumption); (case Dq7 => ktr_room); (case Uq7 => ktr_units)))
  k_with "call ref" => (k_here; (with_reducible show wpAny _ _ (call (Value.ref 58) [_, Value.ref 23]) _ _ _); k_dflt (refine' one_acc ?Pq7 ?Eq7 ?Tq7 ?Iq7 ?Gq7 ?Bq7 ?Fq7 ?Xq7 ?Nq7 ?Tpq7 ?Cq7 ?Dq7 ?Uq7 ⟨fun y' h' tk' t' u' ey' F' N' => ?_, fun e3' g' e' de' x' q1' q2' tw' pt' u3' u4' h' tk' pm' F' R' U' => ?_⟩; (case Nq7 => k_asm); (case Pq7 => k_extra "k_pick"); (case Eq7 => k_all); (case Tq7 => k_extra "k_toks"); (case Iq7 => k_extra "k_small"); (case Gq7 => assumption); (case Bq7 => k_asm); (case Fq7 => k_asm); (case Xq7 => k_asm); (case Tpq7 => k_asm); (case Cq7 => first | exact rfl | assumption); (case Dq7 => ktr_room); (case Uq7 => ktr_units)))
  k_with "call ref" => (k_here; (with_reducible show wpAny _ _ (call (Value.ref 58) [_, Value.ref 22]) _ _ _); k_dflt (refine' one_org ?Pq7 ?Eq7 ?Tq7 ?Iq7 ?Gq7 ?Bq7 ?Fq7 ?Xq7 ?Nq7 ?Tpq7 ?Cq7 ?Dq7 ?Uq7 ⟨fun y' h' tk' t' u' ey' F' N' => ?_, fun e3' g' e' de' x' q1' q2' tw' pt' u3' u4' h' tk' pm' F' R' U' => ?_⟩; (case Nq7 => k_asm); (case Pq7 => k_extra "k_pick"); (case Eq7 => k_all); (case Tq7 => k_extra "k_toks"); (case Iq7 => k_extra "k_small"); (case Gq7 => assumption); (case Bq7 => k_asm); (case Fq7 => k_asm); (case Xq7 => k_asm); (case Tpq7 => k_asm); (case Cq7 => first | exact rfl | assumption); (case Dq7 => ktr_room); (case Uq7 => ktr_units)))
  k_with "call ref" => (k_here; (with_reducible show wpAny _ _ (call (Value.ref 65) [_, _]) _ _ _); k_dflt (refine' assign_spec ?Pq7 ?Sq7 ?Iiq7 ?Sdq7 ?Ndq7 ?Nsq7 ?Tq7 ?Iq7 ?Gq7 ?Bq7 ?Fq7 ?Xq7 ?Nq7 ?Tpq7 ?Cq7 ?Dq7 ?Uq7 ⟨fun j' x' h' tk' t' u' eq' F' N' => ?_, fun j' jr' tr' eq' g' e' de' x' q1' q2' tw' pt' u3' u4' h' tk' pm' F' R' U' => ?_⟩; (case Nq7 => k_asm); (case Pq7 => k_extra "k_pick"); (case Sq7 => k_extra "k_pick"); (case Iiq7 => assumption); (case Sdq7 => assumption); (case Ndq7 => assumption); (case Nsq7 => assumption); (case Tq7 => assumption); (case Iq7 => omega); (case Gq7 => assumption); (case Bq7 => k_asm); (case Fq7 => k_asm); (case Xq7 => k_asm); (case Tpq7 => k_asm); (case Cq7 => first | exact rfl | assumption); (case Dq7 => ktr_room); (case Uq7 => ktr_units)))
  k_with "call ref" => (k_here; (with_reducible show wpAny _ _ (call (Value.ref 72) [_, _]) _ _ _); k_dflt (refine' key_spec ?Pq7 ?Sq7 ?Iiq7 ?Sdq7 ?Ndq7 ?Nsq7 ?Tq7 ?Iq7 ?Gq7 ?Bq7 ?Fq7 ?Xq7 ?Nq7 ?Tpq7 ?Cq7 ?Dq7 ?Uq7 ⟨fun j' x' h' tk' t' u' eq' F' N' => ?_, fun j' jr' tr' eq' g' e' de' x' q1' q2' tw' pt' u3' u4' h' tk' pm' F' R' U' => ?_⟩; (case Nq7 => k_asm); (case Pq7 => k_extra "k_pick"); (case Sq7 => k_extra "k_pick"); (case Iiq7 => assumption); (case Sdq7 => assumption); (case Ndq7 => assumption); (case Nsq7 => assumption); (case Tq7 => assumption); (case Iq7 => omega); (case Gq7 => assumption); (case Bq7 => k_asm); (case Fq7 => k_asm); (case Xq7 => k_asm); (case Tpq7 => k_asm); (case Cq7 => first | exact rfl | assumption); (case Dq7 => ktr_room); (case Uq7 => ktr_units)))
  k_with "call ref" => (k_here; (with_reducible show wpAny _ _ (call (Value.ref 84) [_, _]) _ _ _); k_dflt (refine' rel_spec ?Pq7 ?Sq7 ?Iiq7 ?Sdq7 ?Ndq7 ?Nsq7 ?Tq7 ?Iq7 ?Gq7 ?Bq7 ?Fq7 ?Xq7 ?Nq7 ?Tpq7 ?Cq7 ?Dq7 ?Uq7 ⟨fun j' x' h' tk' t' u' u2' eq' F' N' => ?_, fun j' x' h' tk' t' u' u2' eq' F' N' => ?_, fun j' jr' tr' eq' g' e' de' x' q1' q2' tw' pt' u3' u4' h' tk' pm' F' R' U' => ?_⟩; (case Nq7 => k_asm); (case Pq7 => k_extra "k_pick"); (case Sq7 => k_extra "k_pick"); (case Iiq7 => assumption); (case Sdq7 => assumption); (case Ndq7 => assumption); (case Nsq7 => assumption); (case Tq7 => assumption); (case Iq7 => omega); (case Gq7 => assumption); (case Bq7 => k_asm); (case Fq7 => k_asm); (case Xq7 => k_asm); (case Tpq7 => k_asm); (case Cq7 => first | exact rfl | assumption); (case Dq7 => ktr_room); (case Uq7 => ktr_units)))
  k_with "call ref" => (k_here; (with_reducible show wpAny _ _ (call (Value.ref 77) [_, _]) _ _ _); k_dflt (refine' alt_spec ?Pq7 ?Sq7 ?Iiq7 ?Sdq7 ?Ndq7 ?Nsq7 ?Tq7 ?Iq7 ?Gq7 ?Alq7 ?Azq7 ?Bq7 ?Fq7 ?Xq7 ?Nq7 ?Tpq7 ?Cq7 ?Dq7 ?Uq7 ⟨fun j' x' b' al' ps' led' h' tk' t' eq' nx' F' N' sb' A' nr' ns' => ?_, fun j' x' b' jr' tr' eq' nx' g' e' de' x2' q1' q2' tw' pt' u3' u4' h' tk' pm' F' R' U' => ?_, fun j' jr' tr' eq' g' e' de' x' q1' q2' tw' pt' u3' u4' h' tk' pm' F' R' U' => ?_⟩; (case Nq7 => k_asm); (case Pq7 => k_extra "k_pick"); (case Sq7 => k_extra "k_pick"); (case Iiq7 => assumption); (case Sdq7 => assumption); (case Ndq7 => assumption); (case Nsq7 => assumption); (case Tq7 => assumption); (case Iq7 => omega); (case Gq7 => assumption); (case Alq7 => assumption); (case Azq7 => assumption); (case Bq7 => k_asm); (case Fq7 => k_asm); (case Xq7 => k_asm); (case Tpq7 => k_asm); (case Cq7 => first | exact rfl | assumption); (case Dq7 => ktr_room); (case Uq7 => ktr_units)))
  trivial
set_option maxHeartbeats 16000000 in
theorem clause_spec {sp dsp : Addr} {c0 c1 c2 c3 c4 c5 c6 c7 c8 c9 : Tok} {v0 v1 v2 v3 v4 v6 v7 v8 v9 : Value} {al : Addr} {ps : List Addr} {as : List (Str × Bool)} {led news1 : List (Addr × Obj)} (hP : Pick dr (rdObj w l dn k1 k2 k3 i t) led news1) (hS : Pick dsp (spO w c0 c1 c2 c3 c4 c5 c6 c7 c8 c9 v0 v1 v2 v3 v4 (.ref al) v6 v7 v8 v9) news1 news) (hsp : (sp, instObj 47 dsp) ∈ news) (hsd : dsp ≠ dr) (hnd : ∀ p ∈ news, p.1 ≠ dr) (hns : ∀ p ∈ news, p.1 ≠ dsp) (hT : ToksIn w news r l dn dr nl xs ds) (hi : i ≤ 900) (hp : 0 < ds.length) (hA : AltIn (hd.heap_350 w.params) news al ps as) (hz : as.length ≤ 900) (hi8 : i ≤ 800) :
    ClaimE w 16 91 [.ref r, .ref sp] led
      (fun h₀ L m s Q E base envs => (∀ j x h' tk' t' u u2, clauseF ds i = .assign j x → Fr h₀ L h' m → News h₀ L h' ((dr, rdObj w l dn k1 k2 k3 j t') :: (dsp, spO w c0 c1 c2 c3 c4 c5 c6 c7 c8 c9 v0 (.str x u) v2 v3 v4 (.ref al) v6 v7 v8 v9) :: news) → Q (.str ⟨⟨[65, 83, 83, 73, 71, 78]⟩⟩ u2) { s with heap := h', toks := tk' }) ∧
        (∀ j x h' tk' t' u u2, clauseF ds i = .acc j x → Fr h₀ L h' m → News h₀ L h' ((dr, rdObj w l dn k1 k2 k3 j t') :: (dsp, spO w c0 c1 c2 c3 c4 c5 c6 c7 c8 c9 v0 v1 v2 (.str x u) v4 (.ref al) v6 v7 v8 v9) :: news) → Q (.str ⟨⟨[65, 67, 67, 69, 83, 83]⟩⟩ u2) { s with heap := h', toks := tk' }) ∧
        (∀ j x h' tk' t' u u2, clauseF ds i = .key j x → Fr h₀ L h' m → News h₀ L h' ((dr, rdObj w l dn k1 k2 k3 j t') :: (dsp, spO w c0 c1 c2 c3 c4 c5 c6 c7 c8 c9 v0 v1 v2 v3 (.str x u) (.ref al) v6 v7 v8 v9) :: news) → Q (.str ⟨⟨[82, 69, 67, 79, 82, 68]⟩⟩ u2) { s with heap := h', toks := tk' }) ∧
        (∀ j x h' tk' t' u u2, clauseF ds i = .status j x → Fr h₀ L h' m → News h₀ L h' ((dr, rdObj w l dn k1 k2 k3 j t') :: (dsp, spO w c0 c1 c2 c3 c4 c5 c6 c7 c8 c9 v0 v1 v2 v3 v4 (.ref al) v6 (.str x u) v8 v9) :: news) → Q (.str ⟨⟨[83, 84, 65, 84, 85, 83]⟩⟩ u2) { s with heap := h', toks := tk' }) ∧
        (∀ j x h' tk' t' u u2, clauseF ds i = .rel j x → Fr h₀ L h' m → News h₀ L h' ((dr, rdObj w l dn k1 k2 k3 j t') :: (dsp, spO w c0 c1 c2 c3 c4 c5 c6 c7 c8 c9 v0 v1 v2 v3 v4 (.ref al) (.str x u) v7 v8 v9) :: news) → Q (.str ⟨⟨[82, 69, 76, 65, 84, 73, 86, 69, 32, 75, 69, 89]⟩⟩ u2) { s with heap := h', toks := tk' }) ∧
        (∀ j x h' tk' t' u u2, clauseF ds i = .org j x → Fr h₀ L h' m → News h₀ L h' ((dr, rdObj w l dn k1 k2 k3 j t') :: (dsp, spO w c0 c1 c2 c3 c4 c5 c6 c7 c8 c9 v0 v1 (.str x u) v3 v4 (.ref al) v6 v7 v8 v9) :: news) → Q (.str ⟨⟨[79, 82, 71, 65, 78, 73, 90, 65, 84, 73, 79, 78]⟩⟩ u2) { s with heap := h', toks := tk' }) ∧
        (∀ j x b al' ps' led' h' tk' t' u2, clauseF ds i = .alt j x b → (as.map (·.1)).any (· == x) = false → Fr h₀ L h' m → News h₀ L h' ((dr, rdObj w l dn k1 k2 k3 j t') :: (dsp, spO w c0 c1 c2 c3 c4 c5 c6 c7 c8 c9 v0 v1 v2 v3 v4 (.ref al') v6 v7 v8 v9) :: (led' ++ news)) → (∀ nw, AltIn (hd.heap_350 w.params) nw al ps as → AltIn (hd.heap_350 w.params) (led' ++ nw) al' ps' (as ++ [(x, b)])) → (∀ q ∈ led', ∀ p ∈ news, p.1 < q.1) → (∀ q ∈ led', q.1 ≠ dr) → (∀ q ∈ led', q.1 ≠ dsp) → Q (.str ⟨⟨[65, 76, 84, 69, 82, 78, 65, 84, 69]⟩⟩ u2) { s with heap := h', toks := tk' }) ∧
        (∀ j x b jr tr, clauseF ds i = .alt j x b → (as.map (·.1)).any (· == x) = true → FaultEnds w h₀ L m s E base envs (endAt ds j) ((dr, rdObj w l dn k1 k2 k3 jr tr) :: (dsp, spO w c0 c1 c2 c3 c4 c5 c6 c7 c8 c9 v0 v1 v2 v3 v4 (.ref al) v6 v7 v8 v9) :: news)) ∧
        (∀ j jr tr, clauseF ds i = .bad j → FaultEnds w h₀ L m s E base envs j ((dr, rdObj w l dn k1 k2 k3 jr tr) :: (dsp, spO w c0 c1 c2 c3 c4 c5 c6 c7 c8 c9 v0 v1 v2 v3 v4 (.ref al) v6 v7 v8 v9) :: news))) := by
  intro prog p loose mean mg mb dp un gd cn cs a ccd cl outer A₀ base h₀ L m s Q E hB hF hX hN hTop hcs hdp hu hret
  have hr := hT.inst
  have hN := canon hP hS hN
  have hds := hsd.symm
  clear hP hS
  refine wpAny_call ?_
  k_dflt cell_enter
  k_steps
  · exact hret.1 _ _ _ _ _ _ _ ((clauseF_0 (by assumption)).trans (by assumption)) (by assumption) (by assumption)
  · exact hret.2.2.2.2.2.2.2.2 _ _ _ ((clauseF_0 (by assumption)).trans (by assumption)) _ _ _ _ _ _ _ _ _ _ _ _ (by assumption) (by assumption) (by assumption) (by assumption)
  · exact hret.2.1 _ _ _ _ _ _ _ ((clauseF_1 (by assumption) (by assumption) (by assumption) (by assumption)).trans (oneF_ok (by assumption))) (by assumption) (by assumption)
  · exact hret.2.2.2.2.2.2.2.2 _ _ _ ((clauseF_1 (by assumption) (by assumption) (by assumption) (by assumption)).trans (oneF_bad (by assumption))) _ _ _ _ _ _ _ _ _ _ _ _ (by assumption) (by assumption) (by assumption) (by assumption)
  · exact hret.2.2.1 _ _ _ _ _ _ _ ((clauseF_2 (by assumption) (by assumption) (by assumption)).trans (by assumption)) (by assumption) (by assumption)
  · exact hret.2.2.2.2.2.2.2.2 _ _ _ ((clauseF_2 (by assumption) (by assumption) (by assumption)).trans (by assumption)) _ _ _ _ _ _ _ _ _ _ _ _ (by assumption) (by assumption) (by assumption) (by assumption)
  · exact hret.2.2.2.2.2.2.1 _ _ _ _ _ _ _ _ _ _ ((clauseF_3 (by assumption) (by assumption) (by assumption) (by assumption)).trans (by assumption)) (by assumption) (by assumption) (by assumption) (by assumption) (by assumption) (by assumption) (by assumption)
  · exact hret.2.2.2.2.2.2.2.1 _ _ _ _ _ ((clauseF_3 (by assumption) (by assumption) (by assumption) (by assumption)).trans (by assumption)) (by assumption) _ _ _ _ _ _ _ _ _ _ _ _ (by assumption) (by assumption) (by assumption) (by assumption)
  · exact hret.2.2.2.2.2.2.2.2 _ _ _ ((clauseF_3 (by assumption) (by assumption) (by assumption) (by assumption)).trans (by assumption)) _ _ _ _ _ _ _ _ _ _ _ _ (by assumption) (by assumption) (by assumption) (by assumption)
  · exact hret.2.2.2.1 _ _ _ _ _ _ _ ((clauseF_4 (by assumption) (by assumption) (by assumption) (by assumption) (by assumption) (by assumption)).trans (nameF_ok (by assumption) (by assumption))) (by assumption) (by assumption)
  · exact hret.2.2.2.2.2.2.2.2 _ _ _ ((clauseF_4 (by assumption) (by assumption) (by assumption) (by assumption) (by assumption) (by assumption)).trans (nameF_bad (by assumption))) _ _ _ _ _ _ _ _ _ _ _ _ (by assumption) (by assumption) (by assumption) (by assumption)
  · exact hret.2.2.2.1 _ _ _ _ _ _ _ ((clauseF_5 (by assumption) (by assumption) (by assumption) (by assumption) (by assumption) (by assumption) (by assumption)).trans (nameF_ok (by assumption) (by assumption))) (by assumption) (by assumption)
  · exact hret.2.2.2.2.2.2.2.2 _ _ _ ((clauseF_5 (by assumption) (by assumption) (by assumption) (by assumption) (by assumption) (by assumption) (by assumption)).trans (nameF_bad (by assumption))) _ _ _ _ _ _ _ _ _ _ _ _ (by assumption) (by assumption) (by assumption) (by assumption)
  · exact hret.2.2.2.2.1 _ _ _ _ _ _ _ ((clauseF_6 (by assumption) (by assumption) (by assumption) (by assumption) (by assumption) (by assumption) (by assumption)).trans (by assumption)) (by assumption) (by assumption)
  · exact hret.2.2.2.2.2.1 _ _ _ _ _ _ _ ((clauseF_6 (by assumption) (by assumption) (by assumption) (by assumption) (by assumption) (by assumption) (by assumption)).trans (by assumption)) (by assumption) (by assumption)
  · exact hret.2.2.2.2.2.2.2.2 _ _ _ ((clauseF_6 (by assumption) (by assumption) (by assumption) (by assumption) (by assumption) (by assumption) (by assumption)).trans (by assumption)) _ _ _ _ _ _ _ _ _ _ _ _ (by assumption) (by assumption) (by assumption) (by assumption)
  · exact hret.2.2.2.2.2.1 _ _ _ _ _ _ _ ((clauseF_7 (by assumption) (by assumption) (by assumption) (by assumption) (by assumption) (by assumption) (by assumption) (by assumption) (by assumption) (by assumption)).trans (oneF_ok (by assumption))) (by assumption) (by assumption)
  · exact hret.2.2.2.2.2.2.2.2 _ _ _ ((clauseF_7 (by assumption) (by assumption) (by assumption) (by assumption) (by assumption) (by assumption) (by assumption) (by assumption) (by assumption) (by assumption)).trans (oneF_bad (by assumption))) _ _ _ _ _ _ _ _ _ _ _ _ (by assumption) (by assumption) (by assumption) (by assumption)
  · exact hret.2.2.2.2.2.1 _ _ _ _ _ _ _ ((clauseF_8 (by assumption) (by assumption) (by assumption) (by assumption) (by assumption) (by assumption) (by assumption) (by assumption)).trans (oneF_ok (by assumption))) (by assumption) (by assumption)
  · exact hret.2.2.2.2.2.2.2.2 _ _ _ ((clauseF_8 (by assumption) (by assumption) (by assumption) (by assumption) (by assumption) (by assumption) (by assumption) (by assumption)).trans (oneF_bad (by assumption))) _ _ _ _ _ _ _ _ _ _ _ _ (by assumption) (by assumption) (by assumption) (by assumption)

-- part C15

section
variable {prog : Program} {A : Around} {E : Value → Shared → Prop} {s : Shared} {h₀ : Heap} {L : Addr}
theorem len_ints {l : Addr} {vs : List Value} {ns : List Int} {nl : Nat} {Q : Value → Shared → Prop} (N : News h₀ L s.heap news) (hm : (l, W.listOf vs.toArray nl) ∈ news) (hi : IntsAre vs ns) (hn : ns.length ≤ 60)
    (h : ∀ t tk, Q (.int ns.length t) { s with toks := tk }) : wpAny (model prog w) A (call (.builtin "len") [.ref l]) Q E s := by
  have hl := hi.length
  refine len_list (News.isList N hm) (by simp; omega) ?_
  have e : ((vs.toArray.size : Nat) : Int) = ns.length := by simp [hl]
  rw [e]
  exact h _ _
end

theorem said_36 : True := by
  k_with "call builtin:len" => (k_here; (with_reducible show wpAny _ _ (call (Value.builtin "len") [Value.ref _]) _ _ _); k_dflt (refine' len_ints ?N9q7 ?M9q7 ?I9q7 ?Z9q7 (fun t' tk' => ?_); (case N9q7 => k_asm); (case M9q7 => k_mem); (case I9q7 => assumption); (case Z9q7 => assumption)))
  trivial
set_option maxHeartbeats 8000000 in
theorem draw_spec {tp cl' : Addr} {cs' : List Value} {ns : List Int} {n2 n3 : Nat} {at' many : Int} {ta tm : Tok} {led rest : List (Addr × Obj)} (hP : Pick tp (W.listOf #[Value.ref cl', Value.int at' ta] n3) led rest) (hc : (cl', W.listOf cs'.toArray n2) ∈ rest) (hne : ∀ p ∈ rest, p.1 ≠ tp)
    (hi : IntsAre cs' ns) (h1 : 0 < ns.length) (h2 : ns.length ≤ 60) (ha : 0 ≤ at' ∧ at' ≤ 100) (hm : 0 < many ∧ many ≤ 100) :
    Claim w 4 380 [.ref tp, .int many tm] led
      (fun h₀ L m s Q _ => ∀ r tr h' tk' ta', 0 ≤ r → r < many → Fr h₀ L h' m → News h₀ L h' ((tp, W.listOf #[Value.ref cl', Value.int (at' + 1) ta'] n3) :: rest) → Q (.int r tr) { s with heap := h', toks := tk' }) := by
  intro prog p loose mean mg mb dp un gd cn cs a ccd cl outer A₀ base h₀ L m s Q E hB hF hX hN hTop hcs hdp hu hret
  have hN := hP.led hN
  clear hP
  refine wpAny_call ?_
  k_dflt cell_enter
  k_steps
  all_goals exact hret _ _ _ _ _ (Int.fmod_nonneg_of_pos _ hm.1) (Int.fmod_lt_of_pos _ hm.1) (by assumption) (by assumption)

-- part X4
/-- how a turn ends whose ledger may grow -/
noncomputable def JEnd (h₀ : Heap) (L : Addr) (x : Str) (stored : List Str) (m : Str → Option Value) (I : Addr) (o : Obj) (JN : List (Addr × Obj) → Prop) (s₁ s₂ : Shared) : Prop :=
  ∃ h' tk m' news', s₂ = { s₁ with heap := h', toks := tk } ∧ Fr h₀ L h' m' ∧ News h₀ L h' ((I, o) :: news') ∧ (∀ p ∈ news', p.1 ≠ I) ∧ JN news' ∧ ∀ y, y ≠ x → stored.contains y = false → m' y = m y
noncomputable def JPost (h₀ : Heap) (L : Addr) (x : Str) (stored : List Str) (m : Str → Option Value) (I : Addr) (o : Obj) (JN : List (Addr × Obj) → Prop) (s₁ : Shared) (Q : Flow → Shared → Prop) (f : Flow) (s₂ : Shared) : Prop :=
  match f with
  | .ret v => Q (.ret v) s₂
  | .brk => Q .next s₂
  | _ => JEnd h₀ L x stored m I o JN s₁ s₂
theorem JEnd.intro {h₀ : Heap} {L : Addr} {x : Str} {stored : List Str} {m m' : Str → Option Value} {I : Addr} {o : Obj} {JN : List (Addr × Obj) → Prop} {s₁ : Shared} {h' : Heap} {tk : Nat} {news' : List (Addr × Obj)} (F : Fr h₀ L h' m') (N : News h₀ L h' ((I, o) :: news')) (hn : ∀ p ∈ news', p.1 ≠ I) (hJ : JN news')
    (hm : ∀ y, y ≠ x → stored.contains y = false → m' y = m y) : JEnd h₀ L x stored m I o JN s₁ { s₁ with heap := h', toks := tk } := ⟨h', tk, m', news', rfl, F, N, hn, hJ, hm⟩
section
variable {prog : Program} {w : World} {A : Around} {E : Value → Shared → Prop} {s : Shared} {env : Env} {h₀ : Heap} {x : Str} {body : List Stmt} {Q : Flow → Shared → Prop}
theorem frame_stored {x : Str} {stored : List Str} {m₁ m₀ : Str → Option Value} {v : Option Value} (hJ : ∀ y, y ≠ x → stored.contains y = false → m₁ y = m₀ y) :
    (fun y => if y = x then v else m₁ y) = fun y => if y = x then v else if stored.contains y then m₁ y else m₀ y := by
  funext y
  by_cases h1 : y = x
  · simp [h1]
  · simp only [if_neg h1]
    cases h2 : stored.contains y with
    | true => simp
    | false => simp only [Bool.false_eq_true, if_false]; exact hJ y h1 h2
theorem loop_at_J {I : Addr} {fp wr : List Addr} {n : Nat} {P : Nat → Value → Prop} {St : Nat → Heap → Prop} {m₀ : Str → Option Value} {news : List (Addr × Obj)} (stored : List Str) (J : Nat → List (Addr × Obj) → Prop)
    (W : Walks prog w A I fp wr n P St) (hIf : I ∈ fp) (hfp : ∀ b ∈ fp, b = I ∨ ∃ q, h₀.get? b = some q) (hI0 : h₀.get? I = none) (hob : ∀ i h, St i h → ∃ o, h.get? I = some o)
    (hLf : env.locals ∉ fp) (hw1 : wr = [I]) (hwr : ∀ b ∈ wr, h₀.get? b = none) (hnw : ∀ p ∈ news, p.1 ∉ wr) (hst : St 0 s.heap) (F : Fr h₀ env.locals s.heap m₀) (N : News h₀ env.locals s.heap news) (hJ0 : J 0 news)
    (turn : ∀ i v (u : Str → Option Value) news₁ h tk o, i < n → P i v → J i news₁ → (∀ p ∈ news₁, p.1 ≠ I) → Fr h₀ env.locals h (fun y => if y = x then some v else if stored.contains y then u y else m₀ y) → News h₀ env.locals h ((I, o) :: news₁) →
      wpAny (model prog w) A (execs body env) (JPost h₀ env.locals x stored m₀ I o (J (i + 1)) { s with heap := h, toks := tk } Q) E { s with heap := h, toks := tk })
    (done : ∀ (u : Str → Option Value) news₁ h tk, J n news₁ → Fr h₀ env.locals h (fun y => if y = x then u y else if stored.contains y then u y else m₀ y) → News h₀ env.locals h news₁ → Q .next { s with heap := h, toks := tk }) :
    LoopAtV prog w A h₀ env x body Q E (.ref I) s := by
  subst hw1
  refine ⟨I, fp, [I], n, P, St, m₀, news, (fun i m₁ news₁ => J i news₁ ∧ ∀ y, y ≠ x → stored.contains y = false → m₁ y = m₀ y), rfl, W, hLf, hwr, hnw, hst, F, N, ⟨hJ0, fun _ _ _ => rfl⟩, ?_, ?_⟩
  · rintro i v m₁ news₁ s₁ own ⟨hh', tk', rfl⟩ hin hP ⟨hJi, hJ⟩ hoff hown _ hall hst' F₁ N₁
    rw [frame_stored hJ] at F₁
    obtain ⟨o, ho⟩ := hob _ _ hst'
    have hio : (I, o) ∈ own := hall I hIf hI0 o ho
    have hone := own_one hown hfp ho N₁
    refine wpAny_mono (turn i v m₁ news₁ hh' tk' o hin hP hJi (fun p hp e => hoff p hp (List.mem_singleton.mpr e)) F₁ (news_one hio N₁)) (fun f s₂ p => ?_) fun _ _ e => e
    have fin : JEnd h₀ env.locals x stored m₀ I o (J (i + 1)) { s with heap := hh', toks := tk' } s₂ → LoopStepU h₀ env.locals [I] own (fun m₁ news₁ => J (i + 1) news₁ ∧ ∀ y, y ≠ x → stored.contains y = false → m₁ y = m₀ y) { s with heap := hh', toks := tk' } .next s₂ := by
      rintro ⟨h', tk, m', news', e, F', N', hn, hJ', hm⟩
      exact ⟨rfl, h', tk, m', news', e, F', fun p hp => N' p (need_one hone (fun _ h => h) p hp), fun p hp e => hn p hp (List.mem_singleton.mp e), hJ', hm⟩
    cases f with
    | ret v => exact .ret p
    | brk => exact .brk p
    | next => exact .next (fin p)
    | cont => exact .cont (fin p)
  · rintro h' tk m' news' F' N' _ ⟨hJn, hJ⟩
    refine done m' news' h' tk hJn ?_ N'
    have e : (fun y => if y = x then m' y else if stored.contains y then m' y else m₀ y) = m' := by
      funext y
      by_cases h1 : y = x
      · simp [h1]
      · simp only [if_neg h1]
        cases h2 : stored.contains y with
        | true => simp
        | false => simp only [Bool.false_eq_true, if_false]; exact (hJ y h1 h2).symm
    rw [e]; exact F'
theorem small_n (n : Nat) (h : n ≤ 1000) : Builtin.Range.small 0 (n : Int) 1 = true := small_one (by omega) (by omega) (by omega) (by omega)
theorem size_n (n : Nat) : Builtin.Range.rangeSize 0 (n : Int) 1 = (n : Int) := by
  rw [rangeSize_nat]
  omega
theorem iter_rangeJ {r : Addr} {b₀ : Int} {t₀ u₀ v₀ : Tok} {n : Nat} {m₀ : Str → Option Value} {news : List (Addr × Obj)} (stored : List Str) (J : Nat → List (Addr × Obj) → Prop)
    (hh : A.handled = none) (hr : IsRange s.heap r 0 b₀ 1 t₀ u₀ v₀) (hb : b₀ = (n : Int)) (hn : n ≤ 1000) (F : Fr h₀ env.locals s.heap m₀) (N : News h₀ env.locals s.heap news) (hJ0 : J 0 news)
    (turn : ∀ (I : Addr) (i : Nat) t (u : Str → Option Value) news₁ h tk o, i < n → J i news₁ → (∀ p ∈ news₁, p.1 ≠ I) → Fr h₀ env.locals h (fun y => if y = x then some (.int (i : Int) t) else if stored.contains y then u y else m₀ y) → News h₀ env.locals h ((I, o) :: news₁) →
      wpAny (model prog w) A (execs body env) (JPost h₀ env.locals x stored m₀ I o (J (i + 1)) { s with heap := h, toks := tk } Q) E { s with heap := h, toks := tk })
    (done : ∀ (u : Str → Option Value) news₁ h tk, J n news₁ → Fr h₀ env.locals h (fun y => if y = x then u y else if stored.contains y then u y else m₀ y) → News h₀ env.locals h news₁ → Q .next { s with heap := h, toks := tk }) :
    wpAny (model prog w) A (pyIter (.ref r)) (fun it s₂ => LoopAtV prog w A h₀ env x body Q E it s₂) E s := by
  subst hb
  have hsn := size_n n
  refine wpAny_pyIter_range hr (small_n n hn) ?_
  have W : Walks prog w A s.heap.objs.size [s.heap.objs.size] [s.heap.objs.size] n (fun i v => i < n ∧ ∃ t, v = .int (0 + i * 1) t)
      (fun i h => IsRangeIter h s.heap.objs.size (0 + (i : Nat) * 1) ((n : Int) - (i : Nat)) 1) := (Walks.range hh _ 0 1 n).bound
  refine loop_at_J stored J W (List.mem_singleton.mpr rfl) (fun b hb => .inl (List.mem_singleton.mp hb)) (next_is_new F) (fun i h hs => ⟨_, hs⟩) ?_ rfl ?_ ?_ (by show IsRangeIter _ _ _ _ _; rw [hsn]; simpa using Heap.get?_push_size _ rfl) (F.push _) (fun p hp => ⟨Heap.get?_push_of_some _ (N p hp).1, (N p hp).2⟩) hJ0 ?_ done
  · intro hm
    exact absurd F.ns.lt ((List.mem_singleton.mp hm) ▸ Nat.lt_irrefl _)
  · intro b hb
    rw [List.mem_singleton.mp hb]
    exact next_is_new F
  · intro p hp hI
    exact absurd (Heap.lt_size (N p hp).1) ((List.mem_singleton.mp hI) ▸ Nat.lt_irrefl _)
  · rintro i v u news₁ h tk o hi ⟨_, t, rfl⟩ hJi hoff F₁ N₁
    have e : (0 : Int) + (i : Int) * 1 = (i : Int) := by omega
    rw [e] at F₁
    exact turn _ i t u news₁ h tk o hi hJi hoff F₁ N₁
end

-- part C16

theorem said_37 : True := by
  k_with "cls_enter" => (k_dflt (refine' call_cls ?k1q7 ?k2q7 ?k3q7 ?k4q7 ?k5q7 ?k6q7 ?_); (case k1q7 => k_asm); (case k2q7 => k_asm); (case k3q7 => k_asm); (case k4q7 => k_is); (case k5q7 => k_is); (case k6q7 => k_is); k_whole; intro x' d' h' F' N' l1 l2; (try k_lt l1); (try k_lt l3); (try k_lt2 l2); k_dflt cell_enter)
  trivial
theorem lt_tr {a b : Addr} (h : ∀ q ∈ news, q.1 < a) (h2 : a < b) : ∀ q ∈ news, q.1 < b := fun q hq => Nat.lt_trans (h q hq) h2
set_option maxHeartbeats 8000000 in
theorem token_make {x y : Str} {tx ty : Tok} {pt : Addr} :
    Claim w 6 338 [.str x tx, .str y ty, .ref pt] news
      (fun h₀ L m s Q _ => ∀ a' da q1 q2 q3 q4 h' tk', Fr h₀ L h' m → News h₀ L h' ((a', instObj 338 da) :: (da, tkObj w (x, y) pt q1 q2 q3 q4 tx ty) :: news) → (∀ q ∈ news, q.1 < a') → (∀ q ∈ news, q.1 < da) → da < a' → Q (.ref a') { s with heap := h', toks := tk' }) := by
  intro prog p loose mean mg mb dp un gd cn cs a ccd cl outer A₀ base h₀ L m s Q E hB hF hX hN hTop hcs hdp hu hret
  k_here
  k_extra "cls_enter"
  k_steps
  exact hret _ _ _ _ _ _ _ _ (by assumption) (by assumption) (lt_tr (by assumption) (by assumption)) (by assumption) (by assumption)
theorem said_38 : True := by
  k_with "call ref" => (k_here; (with_reducible show wpAny _ _ (call (Value.ref 338) [_, _, _]) _ _ _); k_dflt (refine' token_make ?Bq7 ?Fq7 ?Xq7 ?Nq7 ?Tpq7 ?Cq7 ?Dq7 ?Uq7 (fun a' da' _ _ _ _ h' tk' F' N' l3 l1 l2 => ?_); (case Nq7 => k_asm); (case Bq7 => k_asm); (case Fq7 => k_asm); (case Xq7 => k_asm); (case Tpq7 => k_asm); (case Cq7 => first | exact rfl | assumption); (case Dq7 => ktr_room); (case Uq7 => ktr_units)); (try k_lt l1); (try k_lt l3))
  trivial
set_option maxHeartbeats 8000000 in
theorem reader_make {l : Addr} :
    Claim w 6 308 [.ref l] news
      (fun h₀ L m s Q _ => ∀ r dr dn od k1 k2 k3 t h' tk', Fr h₀ L h' m → News h₀ L h' ((dn, od) :: (r, instObj 308 dr) :: (dr, rdObj w l dn k1 k2 k3 (0 : Nat) t) :: news) → (∀ q ∈ news, q.1 < dr) → dr < r → (r < dn ∧ dr < dn ∧ AllLt dn news) → Q (.ref r) { s with heap := h', toks := tk' }) := by
  intro prog p loose mean mg mb dp un gd cn cs a ccd cl outer A₀ base h₀ L m s Q E hB hF hX hN hTop hcs hdp hu hret
  k_here
  k_extra "cls_enter"
  k_steps
  exact hret _ _ _ _ _ _ _ _ _ _ (by assumption) (by assumption) (by assumption) (by assumption) (by assumption)

theorem said_39 : True := by
  k_with "call ref" => (k_here; (with_reducible show wpAny _ _ (call (Value.ref 308) [_]) _ _ _); k_dflt (refine' reader_make ?Bq7 ?Fq7 ?Xq7 ?Nq7 ?Tpq7 ?Cq7 ?Dq7 ?Uq7 (fun r' dr' dn' od' _ _ _ _ h' tk' F' N' l1 l2 l3 => ?_); (case Nq7 => k_asm); (case Bq7 => k_asm); (case Fq7 => k_asm); (case Xq7 => k_asm); (case Tpq7 => k_asm); (case Cq7 => first | exact rfl | assumption); (case Dq7 => ktr_room); (case Uq7 => ktr_units)))
  k_with "call builtin:list.append" => (k_here; (with_reducible show wpAny _ _ (call (Value.builtin _) [Value.ref _, _]) _ _ _); k_dflt (refine' append_K ?k1q7 ?k2q7 ?k3q7 ?_ ?zq7; (case k1q7 => k_asm); (case k2q7 => k_asm); (case k3q7 => k_upd); (case zq7 => (rw [List.size_toArray, List.length_map, sizeLine_eq]; omega)); k_whole); intro h' F' N')
  trivial
noncomputable def Stopped (P : Prop) : Prop := P
theorem Stopped.out {P : Prop} (h : Stopped P) : P := h
section
variable {prog : Program} {A : Around} {E : Value → Shared → Prop} {s : Shared} {h₀ : Heap} {L : Addr}
theorem split_w {m : Str → Option Value} {x y : Str} {t u : Tok} {ws : List Str} {Q : Value → Shared → Prop} (hF : Fr h₀ L s.heap m) (hN : News h₀ L s.heap news) (hs : Txt.split x y = ws) (hy : (y.length == 0) = false) (hsz : x.length ≤ 1000)
    (h : ∀ D vs h' k, StrsAre vs ws → Fr h₀ L h' m → News h₀ L h' ((D, W.listOf vs.toArray 0) :: news) → (∀ p ∈ news, p.1 < D) → Q (.ref D) { s with heap := h', toks := k }) :
    wpAny (model prog w) A (call (.builtin "str.split") [.str x t, .str y u]) Q E s :=
  KSpl.split1 hF hN hy (fun D l h' k e a F N lt => by
    rw [e, hs] at a
    exact h D _ h' k a F N lt) (by rw [sizeLine_eq]; omega)
theorem len_strs {l : Addr} {vs : List Value} {ws : List Str} {nl : Nat} {Q : Value → Shared → Prop} (N : News h₀ L s.heap news) (hm : (l, W.listOf vs.toArray nl) ∈ news) (hi : StrsAre vs ws) (hn : ws.length ≤ 1000)
    (h : ∀ t tk, Q (.int ws.length t) { s with toks := tk }) : wpAny (model prog w) A (call (.builtin "len") [.ref l]) Q E s := by
  have hl := hi.length
  refine len_list (News.isList N hm) (by simp; omega) ?_
  have e : ((vs.toArray.size : Nat) : Int) = ws.length := by simp [hl]
  rw [e]
  exact h _ _
end

theorem said_40 : True := by
  k_with "call builtin:str.split" => (k_here; k_dflt (refine' split_w ?F9q7 ?N9q7 ?S9q7 ?Y9q7 ?Z9q7 ?_; (case F9q7 => k_asm); (case N9q7 => k_asm); (case S9q7 => assumption); (case Y9q7 => decide); (case Z9q7 => assumption)); intro D' vs' h' k' a' F' N' l1; (try k_lt l1))
  k_with "call builtin:len" => (k_here; (with_reducible show wpAny _ _ (call (Value.builtin "len") [Value.ref _]) _ _ _); k_dflt (refine' len_strs ?N9q7 ?M9q7 ?I9q7 ?Z9q7 (fun t' tk' => ?_); (case N9q7 => k_asm); (case M9q7 => k_mem); (case I9q7 => assumption); (case Z9q7 => assumption)))
  trivial
theorem strs_get : ∀ {vs : List Value} {ws : List Str} {i : Nat} {x : Str}, StrsAre vs ws → ws[i]? = some x → ∃ t, vs[i]? = some (.str x t)
  | _, _, i, x, .nil, h => by simp at h
  | _, _, 0, x, .cons y t _, h => by
    have e : y = x := by simpa using h
    exact ⟨t, by simp [e]⟩
  | _, _, i + 1, x, .cons y t r, h => by
    obtain ⟨t', e⟩ := strs_get (i := i) (x := x) r (by simpa using h)
    exact ⟨t', by simpa using e⟩
section
variable {prog : Program} {A : Around} {E : Value → Shared → Prop} {s : Shared} {h₀ : Heap} {L : Addr}
theorem item_word {value slice : PySem.Expr} {l : Addr} {vs : List Value} {ws : List Str} {nl i : Nat} {u : Tok} {Q : Value → Shared → Prop} (N : News h₀ L s.heap news) (hm : (l, W.listOf vs.toArray nl) ∈ news) (hi : StrsAre vs ws)
    (hlt : i < ws.length) (hn : ws.length ≤ 1000) (hne : ∀ (i : Nat) (x : Str), ws[i]? = some x → 0 < x.length ∧ x.length ≤ 1000) (h : ∀ x t, ws[i]? = some x → 0 < x.length → x.length ≤ 1000 → Q (.str x t) s)
    (hs : subscripted slice false (.ref l) (.int i u) = operate [.ref l, .int i u] (getItem (.ref l) (.int i u)) := by with_unfolding_all rfl) :
    wpAny (model prog w) A (subscriptTail value slice (.ref l) (.int i u)) Q E s := by
  have hl := News.isList N hm
  have hx : ws[i]? = some ws[i] := by simp [hlt]
  obtain ⟨t, ht⟩ := strs_get hi hx
  exact tail_any hl.typeIs slot_list_getitem.lookup (wpAny_getItem_list hl (by omega) (by omega) (x := .str ws[i] t) (by simpa using ht) (h _ _ hx (hne _ _ hx).1 (hne _ _ hx).2)) hs
end
theorem said_41 : True := by
  k_with "subscriptTail" => (k_here; (with_reducible show wpAny _ _ (subscriptTail _ _ (Value.ref _) (Value.int _ _)) _ _ _); (with_unfolding_all refine' item_word ?N9q7 ?M9q7 ?I9q7 ?L9q7 ?Z9q7 ?W9q7 (fun x' t' ex' lx1' lx2' => ?_) ?S9q7; (case N9q7 => k_asm); (case M9q7 => k_mem); (case I9q7 => assumption); (case L9q7 => assumption); (case Z9q7 => assumption); (case W9q7 => assumption); (case S9q7 => with_unfolding_all rfl)))
  k_with "subscriptTail" => (k_here; (with_reducible show wpAny _ _ (subscriptTail _ _ (Value.str _ _) (Value.int _ _)) _ _ _); (refine item_str (by decide) (by omega) (by omega) ?_); intro _)
  k_with "subscriptTail" => (k_here; (with_reducible show wpAny _ _ (subscriptTail _ (Expr.Slice _ _ _ _) (Value.str _ _) (Value.ref _)) _ _ _); (with_reducible rename Fr _ _ _ _ => F9'); (with_reducible rename News _ _ _ _ => N9'); (refine slice_strN_ss (hsz := ?hsz9q7) (s := ⟨_, _, _, _, _⟩) F9' N9' ?_); (case hsz9q7 => (rw [sizeLine_eq]; omega)); intro _ _ _ _ _)
  trivial
/-- the token that a word of a text becomes -/
noncomputable def tokD (x : Str) : TD := if (Txt.item x 0 == ⟨⟨[39]⟩⟩) = true then (sLit, Txt.slice x (some 1) (some (-1))) else if (x == ⟨⟨[46]⟩⟩) = true then (⟨⟨[115, 105, 103, 110]⟩⟩, x) else (sWord, x)
theorem tokD_1 {x : Str} (h : (Txt.item x 0 == ⟨⟨[39]⟩⟩) = true) : tokD x = (sLit, Txt.slice x (some 1) (some (-1))) := if_pos h
theorem tokD_2 {x : Str} (h : (Txt.item x 0 == ⟨⟨[39]⟩⟩) = false) (h2 : (x == ⟨⟨[46]⟩⟩) = true) : tokD x = (⟨⟨[115, 105, 103, 110]⟩⟩, x) := by
  rw [tokD, if_neg (by rw [h]; decide), if_pos h2]
theorem tokD_3 {x : Str} (h : (Txt.item x 0 == ⟨⟨[39]⟩⟩) = false) (h2 : (x == ⟨⟨[46]⟩⟩) = false) : tokD x = (sWord, x) := by
  rw [tokD, if_neg (by rw [h]; decide), if_neg (by rw [h2]; decide)]
/-- the ledger behind i turns: so many tokens are found -/
noncomputable def TokJ (w : World) (fo : Addr) (ws : List Str) (base : List (Addr × Obj)) (i : Nat) (news₁ : List (Addr × Obj)) : Prop :=
  ∃ (xs : List Addr) (nl : Nat) (fr : List (Addr × Obj)), news₁ = (fo, W.listOf (xs.map Value.ref).toArray nl) :: (fr ++ base) ∧ xs.length = i ∧ (∀ q ∈ fr, ∀ p ∈ base, p.1 < q.1) ∧ (∀ q ∈ fr, q.1 ≠ fo) ∧
    ∀ (j : Nat) (x : Addr) (d : TD), xs[j]? = some x → (ws.map tokD)[j]? = some d → TokAt w fr x d j
theorem nmx_lit : Str.ofString "literal" = sLit := by decide +kernel
theorem nmx_sign : Str.ofString "sign" = ⟨⟨[115, 105, 103, 110]⟩⟩ := by decide +kernel
theorem nmx_word : Str.ofString "word" = sWord := by decide +kernel
theorem kd_1 {x : Str} (h : (Txt.item x 0 == ⟨⟨[39]⟩⟩) = true) : tokD x = (Str.ofString "literal", Txt.slice x (some 1) (some (-1))) := by rw [tokD_1 h, nmx_lit]
theorem kd_2 {x : Str} (h : (Txt.item x 0 == ⟨⟨[39]⟩⟩) = false) (h2 : (x == ⟨⟨[46]⟩⟩) = true) : tokD x = (Str.ofString "sign", x) := by rw [tokD_2 h h2, nmx_sign]
theorem kd_3 {x : Str} (h : (Txt.item x 0 == ⟨⟨[39]⟩⟩) = false) (h2 : (x == ⟨⟨[46]⟩⟩) = false) : tokD x = (Str.ofString "word", x) := by rw [tokD_3 h h2, nmx_word]
theorem stored2 {a b y : Str} (h : [a, b].contains y = false) : y ≠ a ∧ y ≠ b := by
  simp at h
  exact h
/-- a turn of the reader's loop is done -/
theorem tokJ_step {h₀ h' : Heap} {L fo I a' da pt : Addr} {o o2 : Obj} {y : Str} {stored : List Str} {m m' : Str → Option Value} {ws : List Str} {base fr : List (Addr × Obj)} {xs : List Addr} {nl i tk : Nat} {d : TD} {x : Str} {q1 q2 q3 q4 u1 u2 t3 t4 : Tok} {s₁ : Shared}
    (F : Fr h₀ L h' m') (N : News h₀ L h' ((a', instObj 338 da) :: (da, tkObj w d pt q1 q2 q3 q4 u1 u2) :: (pt, atObj i t3 t4) :: (I, o) :: (fo, W.listOf ((xs.map Value.ref).toArray.push (.ref a')) (nl + 1)) :: (fr ++ base)))
    (hlen : xs.length = i) (hfr : ∀ q ∈ fr, ∀ p ∈ base, p.1 < q.1) (hfo : ∀ q ∈ fr, q.1 ≠ fo) (hoff : ∀ q ∈ (fo, o2) :: (fr ++ base), q.1 ≠ I)
    (htk : ∀ (j : Nat) (x : Addr) (d : TD), xs[j]? = some x → (ws.map tokD)[j]? = some d → TokAt w fr x d j)
    (l1 : I < pt ∧ fo < pt ∧ AllLt pt (fr ++ base)) (l2 : pt < da ∧ I < da ∧ fo < da ∧ AllLt da (fr ++ base)) (l3 : pt < a' ∧ I < a' ∧ fo < a' ∧ AllLt a' (fr ++ base))
    (hx : ws[i]? = some x) (hd : tokD x = d) (hm : ∀ z, z ≠ y → stored.contains z = false → m' z = m z) :
    JEnd h₀ L y stored m I o (TokJ w fo ws base (i + 1)) s₁ { s₁ with heap := h', toks := tk } := by
  have e : W.listOf ((xs.map Value.ref).toArray.push (.ref a')) (nl + 1) = W.listOf ((xs ++ [a']).map Value.ref).toArray (nl + 1) := by simp
  rw [e] at N
  have hb : ∀ {c : Addr}, AllLt c (fr ++ base) → ∀ p ∈ base, p.1 < c := fun h p hp => lt_all h p (List.mem_append_right _ hp)
  refine JEnd.intro (news' := (fo, W.listOf ((xs ++ [a']).map Value.ref).toArray (nl + 1)) :: (((a', instObj 338 da) :: (da, tkObj w d pt q1 q2 q3 q4 u1 u2) :: (pt, atObj i t3 t4) :: fr) ++ base)) F (fun z hz => N z ?_) ?_ ⟨xs ++ [a'], nl + 1, _, rfl, by simp [hlen], ?_, ?_, ?_⟩ hm
  · simp only [List.mem_cons, List.cons_append] at hz ⊢
    rcases hz with h | h | h | h | h | h <;> simp [h]
  · refine List.forall_mem_cons.mpr ⟨(hoff (fo, o2) (.head _) : fo ≠ I), List.forall_mem_cons.mpr ⟨Nat.ne_of_gt l3.2.1, List.forall_mem_cons.mpr ⟨Nat.ne_of_gt l2.2.1, List.forall_mem_cons.mpr ⟨Nat.ne_of_gt l1.1, fun q hq => hoff q (.tail _ hq)⟩⟩⟩⟩
  · exact List.forall_mem_cons.mpr ⟨hb l3.2.2.2, List.forall_mem_cons.mpr ⟨hb l2.2.2.2, List.forall_mem_cons.mpr ⟨hb l1.2.2, hfr⟩⟩⟩
  · exact List.forall_mem_cons.mpr ⟨Nat.ne_of_gt l3.2.2.1, List.forall_mem_cons.mpr ⟨Nat.ne_of_gt l2.2.2.1, List.forall_mem_cons.mpr ⟨Nat.ne_of_gt l1.2.1, hfo⟩⟩⟩
  · intro j x' d' hx' hd'
    rcases Nat.lt_or_ge j xs.length with hj | hj
    · rw [List.getElem?_append_left hj] at hx'
      exact (htk j x' d' hx' hd').mono fun q hq => .tail _ (.tail _ (.tail _ hq))
    · rw [List.getElem?_append_right hj] at hx'
      have hj0 : j - xs.length = 0 := by
        rcases Nat.eq_zero_or_pos (j - xs.length) with h | h
        · exact h
        · rw [List.getElem?_eq_none (by simp; omega)] at hx'; cases hx'
      have hji : j = i := by omega
      subst hji
      rw [hj0] at hx'
      have hx'' : a' = x' := by simpa using hx'
      subst hx''
      rw [List.getElem?_map, hx] at hd'
      have hd'' : tokD x = d' := by simpa using hd'
      rw [← hd'', hd]
      exact ⟨da, pt, q1, q2, q3, q4, u1, u2, t3, t4, .head _, .tail _ (.head _), .tail _ (.tail _ (.head _))⟩
/-- the reader is made: its ledger, set in order -/
theorem reader_end {h₀ h : Heap} {L dn r dr fo wo : Addr} {od wobj : Obj} {k1 k2 k3 t : Tok} {xs : List Addr} {nl : Nat} {fr : List (Addr × Obj)} {ws : List Str}
    (N : News h₀ L h ((dn, od) :: (r, instObj 308 dr) :: (dr, rdObj w fo dn k1 k2 k3 (0 : Nat) t) :: (fo, W.listOf (xs.map Value.ref).toArray nl) :: (fr ++ (wo, wobj) :: news)))
    (l1 : ∀ q ∈ (fo, W.listOf (xs.map Value.ref).toArray nl) :: (fr ++ (wo, wobj) :: news), q.1 < dr) (l2 : dr < r) (l3 : r < dn ∧ dr < dn ∧ AllLt dn ((fo, W.listOf (xs.map Value.ref).toArray nl) :: (fr ++ (wo, wobj) :: news)))
    (hlen : xs.length = ws.length) (hfr : ∀ q ∈ fr, ∀ p ∈ (wo, wobj) :: news, p.1 < q.1) (_hfo : ∀ q ∈ fr, q.1 ≠ fo)
    (htk : ∀ (j : Nat) (x : Addr) (d : TD), xs[j]? = some x → (ws.map tokD)[j]? = some d → TokAt w fr x d j)
    (la : ∀ p ∈ news, p.1 < fo) (lb : fo < wo ∧ AllLt wo news) (hw : ws.length ≤ 1000) (hsh : ∀ (i : Nat) (d : TD), (ws.map tokD)[i]? = some d → d.2.length ≤ 1000) :
    News h₀ L h ((dr, rdObj w fo dn k1 k2 k3 (0 : Nat) t) :: (((dn, od) :: (r, instObj 308 dr) :: (fo, W.listOf (xs.map Value.ref).toArray nl) :: (fr ++ [(wo, wobj)])) ++ news)) ∧
      ToksIn w ((dn, od) :: (r, instObj 308 dr) :: (fo, W.listOf (xs.map Value.ref).toArray nl) :: (fr ++ [(wo, wobj)])) r fo dn dr nl xs (ws.map tokD) ∧
      (∀ q ∈ ((dn, od) :: (r, instObj 308 dr) :: (fo, W.listOf (xs.map Value.ref).toArray nl) :: (fr ++ [(wo, wobj)])), ∀ p ∈ news, p.1 < q.1) ∧ (∀ q ∈ ((dn, od) :: (r, instObj 308 dr) :: (fo, W.listOf (xs.map Value.ref).toArray nl) :: (fr ++ [(wo, wobj)])), q.1 ≠ dr) ∧ ∀ p ∈ news, p.1 < dr := by
  have hn : ∀ p ∈ news, p.1 < dr := fun p hp => l1 p (.tail _ (List.mem_append_right _ (.tail _ hp)))
  refine ⟨fun z hz => N z ?_, ⟨?_, ?_, by simp [hlen], by rw [hlen]; exact hw, hsh, fun i x d a b => (htk i x d a b).mono fun q hq => ?_⟩, ?_, ?_, hn⟩
  · simp only [List.mem_cons, List.cons_append, List.append_assoc, List.mem_append, List.not_mem_nil, or_false, false_or, List.nil_append] at hz ⊢
    rcases hz with h | h | h | h | h | h | h <;> simp [h]
  · exact .tail _ (.head _)
  · exact .tail _ (.tail _ (.head _))
  · exact .tail _ (.tail _ (.tail _ (List.mem_append_left _ hq)))
  · intro q hq p hp
    rcases List.mem_cons.mp hq with rfl | hq
    · exact Nat.lt_trans (hn p hp) l3.2.1
    · rcases List.mem_cons.mp hq with rfl | hq
      · exact Nat.lt_trans (hn p hp) l2
      · rcases List.mem_cons.mp hq with rfl | hq
        · exact la p hp
        · rcases List.mem_append.mp hq with hq | hq
          · exact hfr q hq p (.tail _ hp)
          · rw [List.mem_singleton.mp hq]
            exact lt_all lb.2 p hp
  · intro q hq
    rcases List.mem_cons.mp hq with rfl | hq
    · exact Nat.ne_of_gt l3.2.1
    · rcases List.mem_cons.mp hq with rfl | hq
      · exact Nat.ne_of_gt l2
      · refine Nat.ne_of_lt (l1 q ?_)
        rcases List.mem_cons.mp hq with rfl | hq
        · exact .head _
        · refine .tail _ ?_
          rcases List.mem_append.mp hq with hq | hq
          · exact List.mem_append_left _ hq
          · rw [List.mem_singleton.mp hq]
            exact List.mem_append_right _ (.head _)
theorem hfb_of {h₀ h : Heap} {L : Addr} {p q : Addr × Obj} {news : List (Addr × Obj)} (_ : News h₀ L h (p :: q :: news)) (l : q.1 < p.1) (l2 : ∀ z ∈ news, z.1 < q.1) : ∀ z ∈ p :: news, z.1 ≠ q.1 :=
  List.forall_mem_cons.mpr ⟨Nat.ne_of_gt l, fun z hz => Nat.ne_of_lt (l2 z hz)⟩
theorem all_off {fo : Addr} {fr base : List (Addr × Obj)} (hfo : ∀ q ∈ fr, q.1 ≠ fo) (hfb : ∀ q ∈ base, q.1 ≠ fo) : ∀ q ∈ fr ++ base, q.1 ≠ fo := fun q hq => (List.mem_append.mp hq).elim (hfo q) (hfb q)
theorem hwo_of {h₀ h : Heap} {L : Addr} {p q : Addr × Obj} {news : List (Addr × Obj)} (_ : News h₀ L h (p :: q :: news)) (fr : List (Addr × Obj)) : p ∈ fr ++ p :: news := List.mem_append_right _ (List.mem_cons_self ..)
theorem swapN {h₀ h : Heap} {L : Addr} {p q : Addr × Obj} {news : List (Addr × Obj)} (N : News h₀ L h (p :: q :: news)) : News h₀ L h (q :: p :: news) := swap2 N
theorem said_42 : True := by
  k_with "pyIter ref" => refine Stopped.out ?_
  trivial
set_option maxHeartbeats 8000000 in
theorem lreader_spec {text : Str} {tt : Tok} {ws : List Str} (hs : Txt.split text ⟨⟨[32]⟩⟩ = ws) (hz : text.length ≤ 1000) (hw : ws.length ≤ 100) (hne : ∀ (i : Nat) (x : Str), ws[i]? = some x → 0 < x.length ∧ x.length ≤ 1000) (hsh : ∀ (i : Nat) (d : TD), (ws.map tokD)[i]? = some d → d.2.length ≤ 1000) :
    Claim w 12 387 [.str text tt] news
      (fun h₀ L m s Q _ => ∀ r dr l dn nl xs k1 k2 k3 t fr h' tk', Fr h₀ L h' m → News h₀ L h' ((dr, rdObj w l dn k1 k2 k3 (0 : Nat) t) :: (fr ++ news)) → ToksIn w fr r l dn dr nl xs (ws.map tokD) → (∀ q ∈ fr, ∀ p ∈ news, p.1 < q.1) → (∀ q ∈ fr, q.1 ≠ dr) → (∀ p ∈ news, p.1 < dr) → Q (.ref r) { s with heap := h', toks := tk' }) := by
  intro prog p loose mean mg mb dp un gd cn cs a ccd cl outer A₀ base h₀ L m s Q E hB hF hX hN hTop hcs hdp hu hret
  have hw' : ws.length ≤ 1000 := by omega
  refine wpAny_call ?_
  k_dflt cell_enter
  k_steps
  rename_i l1 N1 _ _ _ _ _ _ _ _ hR F2 N2 _
  have hfb := hfb_of N2 (And.left (by assumption : _ < _ ∧ AllLt _ _)) (by assumption)
  unfold Stopped
  refine iter_rangeJ [Str.ofString "word", Str.ofString "kind"] (TokJ w _ ws (_ :: news)) rfl hR rfl hw' F2 (swapN N2) ⟨[], 0, [], rfl, rfl, (fun q hq => nomatch hq), (fun q hq => nomatch hq), ?_⟩ ?_ ?_
  · intro j x d hx
    simp at hx
  · intro I i t u news₁ h tk o hi hJ hoff F₁ N₁
    obtain ⟨xs, nl, fr, rfl, hlen, hfr, hfo, htk⟩ := hJ
    have hwo := hwo_of N2 fr
    have hall := all_off hfo hfb
    k_steps
    all_goals (show JEnd _ _ _ _ _ _ _ _ _ _)
    · exact tokJ_step (by assumption) (by assumption) hlen hfr hfo hoff htk (by assumption) (by assumption) (by assumption) (by assumption) (kd_1 (by assumption)) (fun z hz hs => by have e := stored2 hs; simp only [if_neg e.1, if_neg e.2, if_neg hz, hs, Bool.false_eq_true, if_false])
    · exact tokJ_step (by assumption) (by assumption) hlen hfr hfo hoff htk (by assumption) (by assumption) (by assumption) (by assumption) (kd_2 (by assumption) (by assumption)) (fun z hz hs => by have e := stored2 hs; simp only [if_neg e.1, if_neg e.2, if_neg hz, hs, Bool.false_eq_true, if_false])
    · exact tokJ_step (by assumption) (by assumption) hlen hfr hfo hoff htk (by assumption) (by assumption) (by assumption) (by assumption) (kd_3 (by assumption) (by assumption)) (fun z hz hs => by have e := stored2 hs; simp only [if_neg e.1, if_neg e.2, if_neg hz, hs, Bool.false_eq_true, if_false])
  · intro u news₁ h tk hJ F₁ N₁
    obtain ⟨xs, nl, fr, rfl, hlen, hfr, hfo, htk⟩ := hJ
    k_steps
    obtain ⟨e1, e2, e3, e4, e5⟩ := reader_end (w := w) (h₀ := h₀) (L := L) (by assumption) (by assumption) (by assumption) (by assumption) hlen hfr hfo htk (by assumption) (by assumption) hw' hsh
    exact hret _ _ _ _ _ _ _ _ _ _ _ _ _ (by assumption) e1 e2 e3 e4 e5

-- part C17

theorem said_43 : True := by
  k_with "mem" => (first | with_reducible assumption | with_reducible exact List.mem_cons_self | (with_reducible refine List.mem_cons_of_mem _ ?_; k_extra "mem"))
  trivial
theorem drop4 {h₀ h : Heap} {L : Addr} {p a b c d : Addr × Obj} {news : List (Addr × Obj)} (N : News h₀ L h (p :: a :: b :: c :: d :: news)) : News h₀ L h (p :: news) := fun z hz => by
  rcases List.mem_cons.mp hz with rfl | hz
  · exact N _ (.head _)
  · exact N _ (.tail _ (.tail _ (.tail _ (.tail _ (.tail _ hz)))))
theorem tup_same {prog : Program} {A : Around} {E : Value → Shared → Prop} {s : Shared} {h₀ : Heap} {L t : Addr} {its : Array Value} {n : Nat} {Q : Value → Shared → Prop} (N : News h₀ L s.heap news) (hm : (t, ({ cls := .type "tuple", data := .seq its n } : Obj)) ∈ news) (h : Q (.ref t) s) :
    wpAny (model prog w) A (call (.type "tuple") [.ref t]) Q E s := call_tuple_same ⟨_, (N _ hm).1, rfl, _, rfl⟩ h
theorem said_44 : True := by
  k_with "call type:tuple" => (k_here; (with_reducible show wpAny _ _ (call (Value.type _) [Value.ref _]) _ _ _); k_dflt (refine' tup_same ?N9q7 ?M9q7 ?_; (case N9q7 => k_asm); (case M9q7 => k_extra "mem")))
  trivial
set_option maxHeartbeats 8000000 in
theorem told_spec {sp dsp : Addr} {c0 c1 c2 c3 c4 c5 c6 c7 c8 c9 : Tok} {x0 x1 x2 x3 x4 x6 x7 : Str} {t0 t1 t2 t3 t4 t6 t7 : Tok} {al rc : Addr} {nrc : Nat} (hsp : (sp, instObj 47 dsp) ∈ news) (hd : (dsp, spO w c0 c1 c2 c3 c4 c5 c6 c7 c8 c9 (.str x0 t0) (.str x1 t1) (.str x2 t2) (.str x3 t3) (.str x4 t4) (.ref al) (.str x6 t6) (.str x7 t7) (.bool false) (.ref rc)) ∈ news) (hrc : (rc, ({ cls := .type "tuple", data := .seq #[] nrc } : Obj)) ∈ news) :
    Claim w 6 44 [.ref sp] news
      (fun h₀ L m s Q _ => ∀ T h' tk', Fr h₀ L h' m → News h₀ L h' ((T, ({ cls := .type "tuple", data := .seq #[.str x0 t0, .str x1 t1, .str x2 t2, .str x3 t3, .str x4 t4, .ref al, .str x6 t6, .str x7 t7, .bool false, .ref rc] } : Obj)) :: news) → (∀ p ∈ news, p.1 < T) → Q (.ref T) { s with heap := h', toks := tk' }) := by
  intro prog p loose mean mg mb dp un gd cn cs a ccd cl outer A₀ base h₀ L m s Q E hB hF hX hN hTop hcs hdp hu hret
  refine wpAny_call ?_
  k_dflt cell_enter
  k_steps
  exact hret _ _ _ (by assumption) (drop4 (by assumption)) (lt_all (by assumption : _ ∧ _ ∧ _ ∧ _ ∧ AllLt _ _).2.2.2.2)

-- part X5
noncomputable def pairD (a : Str × Bool) : PyData := .tuple [.str a.1, .bool a.2]
noncomputable def toldD (x0 x1 x2 x3 x4 : Str) (as : List (Str × Bool)) (x6 x7 : Str) : PyData :=
  .tuple [.str x0, .str x1, .str x2, .str x3, .str x4, .tuple (as.map pairD), .str x6, .str x7, .bool false, .tuple []]
/-- ten values in a row, of the ledger: what told tells -/
noncomputable def TenIn (K : Frag) (led : List (Addr × Obj)) (T : Addr) (x0 x1 x2 x3 x4 : Str) (as : List (Str × Bool)) (x6 x7 : Str) : Prop :=
  ∃ o n al ps rc orc nrc t0 t1 t2 t3 t4 t6 t7, (T, o) ∈ led ∧ o.cls = .type "tuple" ∧ o.data = .seq #[.str x0 t0, .str x1 t1, .str x2 t2, .str x3 t3, .str x4 t4, .ref al, .str x6 t6, .str x7 t7, .bool false, .ref rc] n ∧
    AltIn K led al ps as ∧ (rc, orc) ∈ led ∧ orc.cls = .type "tuple" ∧ orc.data = .seq #[] nrc
theorem pairs_read {K : Frag} {led : List (Addr × Obj)} {h₀ h : Heap} {L : Addr} (X : K.In h₀) (k : ∀ b o, h₀.get? b = some o → h.get? b = some o) (N : News h₀ L h led) : ∀ (ps : List Addr) (as : List (Str × Bool)), ps.length = as.length →
    (∀ (i : Nat) (p : Addr) (a : Str × Bool), ps[i]? = some p → as[i]? = some a → PairIn K led p a) → ∃ bs, ReadsAll h (ps.map Value.ref) (as.map pairD) bs
  | [], [], _, _ => ⟨[], .nil⟩
  | [], _ :: _, e, _ => by simp at e
  | _ :: _, [], e, _ => by simp at e
  | p :: ps, a :: as, e, hp => by
    obtain ⟨u, o, ho, hc, n, hd⟩ := (hp 0 p a rfl rfl).tup X k N
    obtain ⟨bs, hb⟩ := pairs_read X k N ps as (by simpa using e) fun i q b x y => hp (i + 1) q b (by simpa using x) (by simpa using y)
    exact ⟨_, .cons (reads_tuple_at ho hc hd (.cons (.str _ _) (.cons (.bool _) .nil))) hb⟩
theorem TenIn.reads {K : Frag} {led : List (Addr × Obj)} {h₀ h : Heap} {L T : Addr} {x0 x1 x2 x3 x4 x6 x7 : Str} {as : List (Str × Bool)} (H : TenIn K led T x0 x1 x2 x3 x4 as x6 x7) (X : K.In h₀) (k : ∀ b o, h₀.get? b = some o → h.get? b = some o) (N : News h₀ L h led) :
    ∃ bs, Reads h (.ref T) (toldD x0 x1 x2 x3 x4 as x6 x7) bs := by
  obtain ⟨o, n, al, ps, rc, orc, nrc, t0, t1, t2, t3, t4, t6, t7, hm, hc, hd, hA, hr, hrc, hrd⟩ := H
  obtain ⟨bs, hb⟩ := pairs_read X k N ps as hA.len hA.pairs
  obtain ⟨oa, ka, ha, hac, had⟩ := hA.tup
  have r : ReadsAll h [.str x0 t0, .str x1 t1, .str x2 t2, .str x3 t3, .str x4 t4, .ref al, .str x6 t6, .str x7 t7, .bool false, .ref rc] [.str x0, .str x1, .str x2, .str x3, .str x4, .tuple (as.map pairD), .str x6, .str x7, .bool false, .tuple []] _ := .cons (.str _ _) (.cons (.str _ _) (.cons (.str _ _) (.cons (.str _ _) (.cons (.str _ _) (.cons (reads_tuple_at (N _ ha).1 hac had (by simpa using hb)) (.cons (.str _ _) (.cons (.str _ _) (.cons (.bool _) (.cons (reads_tuple_at (N _ hr).1 hrc hrd .nil) .nil)))))))))
  exact ⟨_, reads_tuple_at (N _ hm).1 hc hd r⟩
theorem alt_lay : ∀ (as : List (Str × Bool)), (∀ a ∈ as, PyData.strOk a.1 = true) → PyData.canLayAll0 (as.map pairD) = true ∧ PyData.depthAll (as.map pairD) ≤ 4
  | [], _ => ⟨rfl, by simp [PyData.depthAll]⟩
  | a :: as, h => by
    obtain ⟨e1, e2⟩ := alt_lay as fun b hb => h b (.tail _ hb)
    have e3 := h a (.head _)
    refine ⟨?_, ?_⟩
    · simp [pairD, PyData.canLayAll0, PyData.canLay0, e3, e1]
    · simp only [List.map_cons, pairD, PyData.depthAll, PyData.depth] at e2 ⊢
      omega
theorem told_shaped {x0 x1 x2 x3 x4 x6 x7 : Str} {as : List (Str × Bool)} (h0 : PyData.strOk x0 = true) (h1 : PyData.strOk x1 = true) (h2 : PyData.strOk x2 = true) (h3 : PyData.strOk x3 = true) (h4 : PyData.strOk x4 = true) (h6 : PyData.strOk x6 = true) (h7 : PyData.strOk x7 = true) (ha : ∀ a ∈ as, PyData.strOk a.1 = true) :
    SeqAt.shaped (toldD x0 x1 x2 x3 x4 as x6 x7) = true := by
  obtain ⟨e1, e2⟩ := alt_lay as ha
  unfold SeqAt.shaped toldD
  rw [Bool.and_eq_true]
  refine ⟨by simp [PyData.canLay0, PyData.canLayAll0, h0, h1, h2, h3, h4, h6, h7, e1], decide_eq_true ?_⟩
  simp only [PyData.depthAll, PyData.depth]
  omega
section
variable {prog : Program} {w : World} {A : Around} {E : Value → Shared → Prop} {s : Shared} {h₀ : Heap} {L T T2 : Addr} {m : Str → Option Value} {K : Frag} {led : List (Addr × Obj)} {x0 x1 x2 x3 x4 x6 x7 : Str} {as : List (Str × Bool)} {Q : Value → Shared → Prop}
theorem ne_ten (F : Fr h₀ L s.heap m) (X : K.In h₀) (N : News h₀ L s.heap led) (H1 : TenIn K led T x0 x1 x2 x3 x4 as x6 x7) (H2 : TenIn K led T2 x0 x1 x2 x3 x4 as x6 x7) (hs : SeqAt.shaped (toldD x0 x1 x2 x3 x4 as x6 x7) = true) (hu : A.units + 64 < cLine)
    (h : Q (.bool false) s) : wpAny (model prog w) A (compareOp .NotEq (.ref T) (.ref T2)) Q E s := by
  obtain ⟨b1, r1⟩ := H1.reads X F.keep N
  obtain ⟨b2, r2⟩ := H2.reads X F.keep N
  refine ne_dataH r1 r2 hs hs hu ?_
  rw [PySem.SeqAt.eqv_refl _ (SeqAt.canLay_of_shaped hs)]
  exact h
theorem eq_ten (F : Fr h₀ L s.heap m) (X : K.In h₀) (N : News h₀ L s.heap led) (H1 : TenIn K led T x0 x1 x2 x3 x4 as x6 x7) (H2 : TenIn K led T2 x0 x1 x2 x3 x4 as x6 x7) (hs : SeqAt.shaped (toldD x0 x1 x2 x3 x4 as x6 x7) = true) (hu : A.units + 64 < cLine)
    (h : Q (.bool true) s) : wpAny (model prog w) A (compareOp .Eq (.ref T) (.ref T2)) Q E s := by
  obtain ⟨b1, r1⟩ := H1.reads X F.keep N
  obtain ⟨b2, r2⟩ := H2.reads X F.keep N
  refine eq_dataH r1 r2 hs hs hu ?_
  rw [PySem.SeqAt.eqv_refl _ (SeqAt.canLay_of_shaped hs)]
  exact h
end

-- part C18
noncomputable abbrev spS (w : World) (c0 c1 c2 c3 c4 c5 c6 c7 c8 c9 : Tok) (v0 v1 v2 v3 v4 v5 v6 v7 v8 v9 : Value) : Obj := dictOf [ent w (Str.ofString "name") c0 v0, ent w (Str.ofString "path") c1 v1, ent w (Str.ofString "organization") c2 v2, ent w (Str.ofString "access") c3 v3, ent w (Str.ofString "key") c4 v4, ent w (Str.ofString "alternates") c5 v5, ent w (Str.ofString "relative_key") c6 v6, ent w (Str.ofString "status") c7 v7, ent w (Str.ofString "is_sort") c8 v8, ent w (Str.ofString "records") c9 v9] 10
theorem nms_name : Str.ofString "name" = ⟨⟨[110, 97, 109, 101]⟩⟩ := by decide +kernel
theorem nms_path : Str.ofString "path" = ⟨⟨[112, 97, 116, 104]⟩⟩ := by decide +kernel
theorem nms_organization : Str.ofString "organization" = ⟨⟨[111, 114, 103, 97, 110, 105, 122, 97, 116, 105, 111, 110]⟩⟩ := by decide +kernel
theorem nms_access : Str.ofString "access" = ⟨⟨[97, 99, 99, 101, 115, 115]⟩⟩ := by decide +kernel
theorem nms_key : Str.ofString "key" = ⟨⟨[107, 101, 121]⟩⟩ := by decide +kernel
theorem nms_alternates : Str.ofString "alternates" = ⟨⟨[97, 108, 116, 101, 114, 110, 97, 116, 101, 115]⟩⟩ := by decide +kernel
theorem nms_relative_key : Str.ofString "relative_key" = ⟨⟨[114, 101, 108, 97, 116, 105, 118, 101, 95, 107, 101, 121]⟩⟩ := by decide +kernel
theorem nms_status : Str.ofString "status" = ⟨⟨[115, 116, 97, 116, 117, 115]⟩⟩ := by decide +kernel
theorem nms_is_sort : Str.ofString "is_sort" = ⟨⟨[105, 115, 95, 115, 111, 114, 116]⟩⟩ := by decide +kernel
theorem nms_records : Str.ofString "records" = ⟨⟨[114, 101, 99, 111, 114, 100, 115]⟩⟩ := by decide +kernel
theorem spS_eq {c0 c1 c2 c3 c4 c5 c6 c7 c8 c9 : Tok} {v0 v1 v2 v3 v4 v5 v6 v7 v8 v9 : Value} : spS w c0 c1 c2 c3 c4 c5 c6 c7 c8 c9 v0 v1 v2 v3 v4 v5 v6 v7 v8 v9 = spO w c0 c1 c2 c3 c4 c5 c6 c7 c8 c9 v0 v1 v2 v3 v4 v5 v6 v7 v8 v9 := by
  unfold spS spO ent
  rw [nms_name, nms_path, nms_organization, nms_access, nms_key, nms_alternates, nms_relative_key, nms_status, nms_is_sort, nms_records]

theorem fs_news {h₀ h : Heap} {L dsp : Addr} {a b c : Addr × Obj} {c0 c1 c2 c3 c4 c5 c6 c7 c8 c9 : Tok} {v0 v1 v2 v3 v4 v5 v6 v7 v8 v9 : Value} (N : News h₀ L h (a :: b :: c :: (dsp, spS w c0 c1 c2 c3 c4 c5 c6 c7 c8 c9 v0 v1 v2 v3 v4 v5 v6 v7 v8 v9) :: news)) : News h₀ L h (a :: b :: c :: (dsp, spO w c0 c1 c2 c3 c4 c5 c6 c7 c8 c9 v0 v1 v2 v3 v4 v5 v6 v7 v8 v9) :: news) := by
  rw [← spS_eq]
  exact N
noncomputable abbrev tup0 : Obj := { cls := .type "tuple", data := .seq #[] }
set_option maxHeartbeats 8000000 in
theorem fs_make {x : Str} {tx : Tok} :
    Claim w 6 47 [.str x tx] news
      (fun h₀ L m s Q _ => ∀ sp dsp rc al c0 c1 c2 c3 c4 c5 c6 c7 c8 c9 t1 t2 t3 t4 t6 t7 h' tk', Fr h₀ L h' m → News h₀ L h' ((rc, tup0) :: (al, tup0) :: (sp, instObj 47 dsp) :: (dsp, spO w c0 c1 c2 c3 c4 c5 c6 c7 c8 c9 (.str x tx) (.str (Str.ofString "") t1) (.str (Str.ofString "sequential") t2) (.str (Str.ofString "sequential") t3) (.str (Str.ofString "") t4) (.ref al) (.str (Str.ofString "") t6) (.str (Str.ofString "") t7) (.bool false) (.ref rc)) :: news) → (∀ q ∈ news, q.1 < dsp) → dsp < sp → (sp < al ∧ dsp < al ∧ AllLt al news) → (al < rc ∧ sp < rc ∧ dsp < rc ∧ AllLt rc news) → Q (.ref sp) { s with heap := h', toks := tk' }) := by
  intro prog p loose mean mg mb dp un gd cn cs a ccd cl outer A₀ base h₀ L m s Q E hB hF hX hN hTop hcs hdp hu hret
  k_here
  k_extra "cls_enter"
  k_steps
  exact hret _ _ _ _ _ _ _ _ _ _ _ _ _ _ _ _ _ _ _ _ _ _ (by assumption) (fs_news (by assumption)) (by assumption) (by assumption) (by assumption) (by assumption)

-- part C19

theorem clause_assign {sp dsp : Addr} {c0 c1 c2 c3 c4 c5 c6 c7 c8 c9 : Tok} {v0 v1 v2 v3 v4 v6 v7 v8 v9 : Value} {al : Addr} {ps : List Addr} {as : List (Str × Bool)} {j : Nat} {x : Str} {led news1 : List (Addr × Obj)} (hP : Pick dr (rdObj w l dn k1 k2 k3 i t) led news1) (hS : Pick dsp (spO w c0 c1 c2 c3 c4 c5 c6 c7 c8 c9 v0 v1 v2 v3 v4 (.ref al) v6 v7 v8 v9) news1 news) (hsp : (sp, instObj 47 dsp) ∈ news) (hsd : dsp ≠ dr) (hnd : ∀ p ∈ news, p.1 ≠ dr) (hns : ∀ p ∈ news, p.1 ≠ dsp) (hT : ToksIn w news r l dn dr nl xs ds) (hi : i ≤ 800) (hp : 0 < ds.length) (hA : AltIn (hd.heap_350 w.params) news al ps as) (hz : as.length ≤ 900) (hc : clauseF ds i = .assign j x) :
    Claim w 16 91 [.ref r, .ref sp] led
      (fun h₀ L m s Q _ => ∀ h' tk' t' u u2, Fr h₀ L h' m → News h₀ L h' ((dr, rdObj w l dn k1 k2 k3 j t') :: (dsp, spO w c0 c1 c2 c3 c4 c5 c6 c7 c8 c9 v0 (.str x u) v2 v3 v4 (.ref al) v6 v7 v8 v9) :: news) → Q (.str ⟨⟨[65, 83, 83, 73, 71, 78]⟩⟩ u2) { s with heap := h', toks := tk' }) := by
  intro prog p loose mean mg mb dp un gd cn cs a ccd cl outer A₀ base h₀ L m s Q E hB hF hX hN hTop hcs hdp hu hret
  refine clause_spec hP hS hsp hsd hnd hns hT (by omega) hp hA hz hi hB hF hX hN hTop hcs hdp hu ⟨fun j' x' h' tk' t' u' u2' e' F' N' => ?_, fun j' x' h' tk' t' u' u2' e' F' N' => (nomatch (hc.symm.trans e')), fun j' x' h' tk' t' u' u2' e' F' N' => (nomatch (hc.symm.trans e')), fun j' x' h' tk' t' u' u2' e' F' N' => (nomatch (hc.symm.trans e')), fun j' x' h' tk' t' u' u2' e' F' N' => (nomatch (hc.symm.trans e')), fun j' x' h' tk' t' u' u2' e' F' N' => (nomatch (hc.symm.trans e')), fun j' x' b' al' ps' led' h' tk' t' u2' e' nx' F' N' sb' A' nr' ns' => (nomatch (hc.symm.trans e')), fun j' x' b' jr' tr' e' nx' => (nomatch (hc.symm.trans e')), fun j' jr' tr' e' => (nomatch (hc.symm.trans e'))⟩
  obtain ⟨rfl, rfl⟩ := Cl.assign.inj (hc.symm.trans e')
  exact hret _ _ _ _ _ F' N'

theorem clause_acc {sp dsp : Addr} {c0 c1 c2 c3 c4 c5 c6 c7 c8 c9 : Tok} {v0 v1 v2 v3 v4 v6 v7 v8 v9 : Value} {al : Addr} {ps : List Addr} {as : List (Str × Bool)} {j : Nat} {x : Str} {led news1 : List (Addr × Obj)} (hP : Pick dr (rdObj w l dn k1 k2 k3 i t) led news1) (hS : Pick dsp (spO w c0 c1 c2 c3 c4 c5 c6 c7 c8 c9 v0 v1 v2 v3 v4 (.ref al) v6 v7 v8 v9) news1 news) (hsp : (sp, instObj 47 dsp) ∈ news) (hsd : dsp ≠ dr) (hnd : ∀ p ∈ news, p.1 ≠ dr) (hns : ∀ p ∈ news, p.1 ≠ dsp) (hT : ToksIn w news r l dn dr nl xs ds) (hi : i ≤ 800) (hp : 0 < ds.length) (hA : AltIn (hd.heap_350 w.params) news al ps as) (hz : as.length ≤ 900) (hc : clauseF ds i = .acc j x) :
    Claim w 16 91 [.ref r, .ref sp] led
      (fun h₀ L m s Q _ => ∀ h' tk' t' u u2, Fr h₀ L h' m → News h₀ L h' ((dr, rdObj w l dn k1 k2 k3 j t') :: (dsp, spO w c0 c1 c2 c3 c4 c5 c6 c7 c8 c9 v0 v1 v2 (.str x u) v4 (.ref al) v6 v7 v8 v9) :: news) → Q (.str ⟨⟨[65, 67, 67, 69, 83, 83]⟩⟩ u2) { s with heap := h', toks := tk' }) := by
  intro prog p loose mean mg mb dp un gd cn cs a ccd cl outer A₀ base h₀ L m s Q E hB hF hX hN hTop hcs hdp hu hret
  refine clause_spec hP hS hsp hsd hnd hns hT (by omega) hp hA hz hi hB hF hX hN hTop hcs hdp hu ⟨fun j' x' h' tk' t' u' u2' e' F' N' => (nomatch (hc.symm.trans e')), fun j' x' h' tk' t' u' u2' e' F' N' => ?_, fun j' x' h' tk' t' u' u2' e' F' N' => (nomatch (hc.symm.trans e')), fun j' x' h' tk' t' u' u2' e' F' N' => (nomatch (hc.symm.trans e')), fun j' x' h' tk' t' u' u2' e' F' N' => (nomatch (hc.symm.trans e')), fun j' x' h' tk' t' u' u2' e' F' N' => (nomatch (hc.symm.trans e')), fun j' x' b' al' ps' led' h' tk' t' u2' e' nx' F' N' sb' A' nr' ns' => (nomatch (hc.symm.trans e')), fun j' x' b' jr' tr' e' nx' => (nomatch (hc.symm.trans e')), fun j' jr' tr' e' => (nomatch (hc.symm.trans e'))⟩
  obtain ⟨rfl, rfl⟩ := Cl.acc.inj (hc.symm.trans e')
  exact hret _ _ _ _ _ F' N'

theorem clause_key {sp dsp : Addr} {c0 c1 c2 c3 c4 c5 c6 c7 c8 c9 : Tok} {v0 v1 v2 v3 v4 v6 v7 v8 v9 : Value} {al : Addr} {ps : List Addr} {as : List (Str × Bool)} {j : Nat} {x : Str} {led news1 : List (Addr × Obj)} (hP : Pick dr (rdObj w l dn k1 k2 k3 i t) led news1) (hS : Pick dsp (spO w c0 c1 c2 c3 c4 c5 c6 c7 c8 c9 v0 v1 v2 v3 v4 (.ref al) v6 v7 v8 v9) news1 news) (hsp : (sp, instObj 47 dsp) ∈ news) (hsd : dsp ≠ dr) (hnd : ∀ p ∈ news, p.1 ≠ dr) (hns : ∀ p ∈ news, p.1 ≠ dsp) (hT : ToksIn w news r l dn dr nl xs ds) (hi : i ≤ 800) (hp : 0 < ds.length) (hA : AltIn (hd.heap_350 w.params) news al ps as) (hz : as.length ≤ 900) (hc : clauseF ds i = .key j x) :
    Claim w 16 91 [.ref r, .ref sp] led
      (fun h₀ L m s Q _ => ∀ h' tk' t' u u2, Fr h₀ L h' m → News h₀ L h' ((dr, rdObj w l dn k1 k2 k3 j t') :: (dsp, spO w c0 c1 c2 c3 c4 c5 c6 c7 c8 c9 v0 v1 v2 v3 (.str x u) (.ref al) v6 v7 v8 v9) :: news) → Q (.str ⟨⟨[82, 69, 67, 79, 82, 68]⟩⟩ u2) { s with heap := h', toks := tk' }) := by
  intro prog p loose mean mg mb dp un gd cn cs a ccd cl outer A₀ base h₀ L m s Q E hB hF hX hN hTop hcs hdp hu hret
  refine clause_spec hP hS hsp hsd hnd hns hT (by omega) hp hA hz hi hB hF hX hN hTop hcs hdp hu ⟨fun j' x' h' tk' t' u' u2' e' F' N' => (nomatch (hc.symm.trans e')), fun j' x' h' tk' t' u' u2' e' F' N' => (nomatch (hc.symm.trans e')), fun j' x' h' tk' t' u' u2' e' F' N' => ?_, fun j' x' h' tk' t' u' u2' e' F' N' => (nomatch (hc.symm.trans e')), fun j' x' h' tk' t' u' u2' e' F' N' => (nomatch (hc.symm.trans e')), fun j' x' h' tk' t' u' u2' e' F' N' => (nomatch (hc.symm.trans e')), fun j' x' b' al' ps' led' h' tk' t' u2' e' nx' F' N' sb' A' nr' ns' => (nomatch (hc.symm.trans e')), fun j' x' b' jr' tr' e' nx' => (nomatch (hc.symm.trans e')), fun j' jr' tr' e' => (nomatch (hc.symm.trans e'))⟩
  obtain ⟨rfl, rfl⟩ := Cl.key.inj (hc.symm.trans e')
  exact hret _ _ _ _ _ F' N'

theorem clause_status {sp dsp : Addr} {c0 c1 c2 c3 c4 c5 c6 c7 c8 c9 : Tok} {v0 v1 v2 v3 v4 v6 v7 v8 v9 : Value} {al : Addr} {ps : List Addr} {as : List (Str × Bool)} {j : Nat} {x : Str} {led news1 : List (Addr × Obj)} (hP : Pick dr (rdObj w l dn k1 k2 k3 i t) led news1) (hS : Pick dsp (spO w c0 c1 c2 c3 c4 c5 c6 c7 c8 c9 v0 v1 v2 v3 v4 (.ref al) v6 v7 v8 v9) news1 news) (hsp : (sp, instObj 47 dsp) ∈ news) (hsd : dsp ≠ dr) (hnd : ∀ p ∈ news, p.1 ≠ dr) (hns : ∀ p ∈ news, p.1 ≠ dsp) (hT : ToksIn w news r l dn dr nl xs ds) (hi : i ≤ 800) (hp : 0 < ds.length) (hA : AltIn (hd.heap_350 w.params) news al ps as) (hz : as.length ≤ 900) (hc : clauseF ds i = .status j x) :
    Claim w 16 91 [.ref r, .ref sp] led
      (fun h₀ L m s Q _ => ∀ h' tk' t' u u2, Fr h₀ L h' m → News h₀ L h' ((dr, rdObj w l dn k1 k2 k3 j t') :: (dsp, spO w c0 c1 c2 c3 c4 c5 c6 c7 c8 c9 v0 v1 v2 v3 v4 (.ref al) v6 (.str x u) v8 v9) :: news) → Q (.str ⟨⟨[83, 84, 65, 84, 85, 83]⟩⟩ u2) { s with heap := h', toks := tk' }) := by
  intro prog p loose mean mg mb dp un gd cn cs a ccd cl outer A₀ base h₀ L m s Q E hB hF hX hN hTop hcs hdp hu hret
  refine clause_spec hP hS hsp hsd hnd hns hT (by omega) hp hA hz hi hB hF hX hN hTop hcs hdp hu ⟨fun j' x' h' tk' t' u' u2' e' F' N' => (nomatch (hc.symm.trans e')), fun j' x' h' tk' t' u' u2' e' F' N' => (nomatch (hc.symm.trans e')), fun j' x' h' tk' t' u' u2' e' F' N' => (nomatch (hc.symm.trans e')), fun j' x' h' tk' t' u' u2' e' F' N' => ?_, fun j' x' h' tk' t' u' u2' e' F' N' => (nomatch (hc.symm.trans e')), fun j' x' h' tk' t' u' u2' e' F' N' => (nomatch (hc.symm.trans e')), fun j' x' b' al' ps' led' h' tk' t' u2' e' nx' F' N' sb' A' nr' ns' => (nomatch (hc.symm.trans e')), fun j' x' b' jr' tr' e' nx' => (nomatch (hc.symm.trans e')), fun j' jr' tr' e' => (nomatch (hc.symm.trans e'))⟩
  obtain ⟨rfl, rfl⟩ := Cl.status.inj (hc.symm.trans e')
  exact hret _ _ _ _ _ F' N'

theorem clause_rel {sp dsp : Addr} {c0 c1 c2 c3 c4 c5 c6 c7 c8 c9 : Tok} {v0 v1 v2 v3 v4 v6 v7 v8 v9 : Value} {al : Addr} {ps : List Addr} {as : List (Str × Bool)} {j : Nat} {x : Str} {led news1 : List (Addr × Obj)} (hP : Pick dr (rdObj w l dn k1 k2 k3 i t) led news1) (hS : Pick dsp (spO w c0 c1 c2 c3 c4 c5 c6 c7 c8 c9 v0 v1 v2 v3 v4 (.ref al) v6 v7 v8 v9) news1 news) (hsp : (sp, instObj 47 dsp) ∈ news) (hsd : dsp ≠ dr) (hnd : ∀ p ∈ news, p.1 ≠ dr) (hns : ∀ p ∈ news, p.1 ≠ dsp) (hT : ToksIn w news r l dn dr nl xs ds) (hi : i ≤ 800) (hp : 0 < ds.length) (hA : AltIn (hd.heap_350 w.params) news al ps as) (hz : as.length ≤ 900) (hc : clauseF ds i = .rel j x) :
    Claim w 16 91 [.ref r, .ref sp] led
      (fun h₀ L m s Q _ => ∀ h' tk' t' u u2, Fr h₀ L h' m → News h₀ L h' ((dr, rdObj w l dn k1 k2 k3 j t') :: (dsp, spO w c0 c1 c2 c3 c4 c5 c6 c7 c8 c9 v0 v1 v2 v3 v4 (.ref al) (.str x u) v7 v8 v9) :: news) → Q (.str ⟨⟨[82, 69, 76, 65, 84, 73, 86, 69, 32, 75, 69, 89]⟩⟩ u2) { s with heap := h', toks := tk' }) := by
  intro prog p loose mean mg mb dp un gd cn cs a ccd cl outer A₀ base h₀ L m s Q E hB hF hX hN hTop hcs hdp hu hret
  refine clause_spec hP hS hsp hsd hnd hns hT (by omega) hp hA hz hi hB hF hX hN hTop hcs hdp hu ⟨fun j' x' h' tk' t' u' u2' e' F' N' => (nomatch (hc.symm.trans e')), fun j' x' h' tk' t' u' u2' e' F' N' => (nomatch (hc.symm.trans e')), fun j' x' h' tk' t' u' u2' e' F' N' => (nomatch (hc.symm.trans e')), fun j' x' h' tk' t' u' u2' e' F' N' => (nomatch (hc.symm.trans e')), fun j' x' h' tk' t' u' u2' e' F' N' => ?_, fun j' x' h' tk' t' u' u2' e' F' N' => (nomatch (hc.symm.trans e')), fun j' x' b' al' ps' led' h' tk' t' u2' e' nx' F' N' sb' A' nr' ns' => (nomatch (hc.symm.trans e')), fun j' x' b' jr' tr' e' nx' => (nomatch (hc.symm.trans e')), fun j' jr' tr' e' => (nomatch (hc.symm.trans e'))⟩
  obtain ⟨rfl, rfl⟩ := Cl.rel.inj (hc.symm.trans e')
  exact hret _ _ _ _ _ F' N'

theorem clause_org {sp dsp : Addr} {c0 c1 c2 c3 c4 c5 c6 c7 c8 c9 : Tok} {v0 v1 v2 v3 v4 v6 v7 v8 v9 : Value} {al : Addr} {ps : List Addr} {as : List (Str × Bool)} {j : Nat} {x : Str} {led news1 : List (Addr × Obj)} (hP : Pick dr (rdObj w l dn k1 k2 k3 i t) led news1) (hS : Pick dsp (spO w c0 c1 c2 c3 c4 c5 c6 c7 c8 c9 v0 v1 v2 v3 v4 (.ref al) v6 v7 v8 v9) news1 news) (hsp : (sp, instObj 47 dsp) ∈ news) (hsd : dsp ≠ dr) (hnd : ∀ p ∈ news, p.1 ≠ dr) (hns : ∀ p ∈ news, p.1 ≠ dsp) (hT : ToksIn w news r l dn dr nl xs ds) (hi : i ≤ 800) (hp : 0 < ds.length) (hA : AltIn (hd.heap_350 w.params) news al ps as) (hz : as.length ≤ 900) (hc : clauseF ds i = .org j x) :
    Claim w 16 91 [.ref r, .ref sp] led
      (fun h₀ L m s Q _ => ∀ h' tk' t' u u2, Fr h₀ L h' m → News h₀ L h' ((dr, rdObj w l dn k1 k2 k3 j t') :: (dsp, spO w c0 c1 c2 c3 c4 c5 c6 c7 c8 c9 v0 v1 (.str x u) v3 v4 (.ref al) v6 v7 v8 v9) :: news) → Q (.str ⟨⟨[79, 82, 71, 65, 78, 73, 90, 65, 84, 73, 79, 78]⟩⟩ u2) { s with heap := h', toks := tk' }) := by
  intro prog p loose mean mg mb dp un gd cn cs a ccd cl outer A₀ base h₀ L m s Q E hB hF hX hN hTop hcs hdp hu hret
  refine clause_spec hP hS hsp hsd hnd hns hT (by omega) hp hA hz hi hB hF hX hN hTop hcs hdp hu ⟨fun j' x' h' tk' t' u' u2' e' F' N' => (nomatch (hc.symm.trans e')), fun j' x' h' tk' t' u' u2' e' F' N' => (nomatch (hc.symm.trans e')), fun j' x' h' tk' t' u' u2' e' F' N' => (nomatch (hc.symm.trans e')), fun j' x' h' tk' t' u' u2' e' F' N' => (nomatch (hc.symm.trans e')), fun j' x' h' tk' t' u' u2' e' F' N' => (nomatch (hc.symm.trans e')), fun j' x' h' tk' t' u' u2' e' F' N' => ?_, fun j' x' b' al' ps' led' h' tk' t' u2' e' nx' F' N' sb' A' nr' ns' => (nomatch (hc.symm.trans e')), fun j' x' b' jr' tr' e' nx' => (nomatch (hc.symm.trans e')), fun j' jr' tr' e' => (nomatch (hc.symm.trans e'))⟩
  obtain ⟨rfl, rfl⟩ := Cl.org.inj (hc.symm.trans e')
  exact hret _ _ _ _ _ F' N'

theorem clause_alt {sp dsp : Addr} {c0 c1 c2 c3 c4 c5 c6 c7 c8 c9 : Tok} {v0 v1 v2 v3 v4 v6 v7 v8 v9 : Value} {al : Addr} {ps : List Addr} {as : List (Str × Bool)} {j : Nat} {x : Str} {b : Bool} {led news1 : List (Addr × Obj)} (hP : Pick dr (rdObj w l dn k1 k2 k3 i t) led news1) (hS : Pick dsp (spO w c0 c1 c2 c3 c4 c5 c6 c7 c8 c9 v0 v1 v2 v3 v4 (.ref al) v6 v7 v8 v9) news1 news) (hsp : (sp, instObj 47 dsp) ∈ news) (hsd : dsp ≠ dr) (hnd : ∀ p ∈ news, p.1 ≠ dr) (hns : ∀ p ∈ news, p.1 ≠ dsp) (hT : ToksIn w news r l dn dr nl xs ds) (hi : i ≤ 800) (hp : 0 < ds.length) (hA : AltIn (hd.heap_350 w.params) news al ps as) (hz : as.length ≤ 900) (hc : clauseF ds i = .alt j x b) (hnx : (as.map (·.1)).any (· == x) = false) :
    Claim w 16 91 [.ref r, .ref sp] led
      (fun h₀ L m s Q _ => ∀ al' ps' led' h' tk' t' u2, Fr h₀ L h' m → News h₀ L h' ((dr, rdObj w l dn k1 k2 k3 j t') :: (dsp, spO w c0 c1 c2 c3 c4 c5 c6 c7 c8 c9 v0 v1 v2 v3 v4 (.ref al') v6 v7 v8 v9) :: (led' ++ news)) → (∀ nw, AltIn (hd.heap_350 w.params) nw al ps as → AltIn (hd.heap_350 w.params) (led' ++ nw) al' ps' (as ++ [(x, b)])) → (∀ q ∈ led', ∀ p ∈ news, p.1 < q.1) → (∀ q ∈ led', q.1 ≠ dr) → (∀ q ∈ led', q.1 ≠ dsp) → Q (.str ⟨⟨[65, 76, 84, 69, 82, 78, 65, 84, 69]⟩⟩ u2) { s with heap := h', toks := tk' }) := by
  intro prog p loose mean mg mb dp un gd cn cs a ccd cl outer A₀ base h₀ L m s Q E hB hF hX hN hTop hcs hdp hu hret
  refine clause_spec hP hS hsp hsd hnd hns hT (by omega) hp hA hz hi hB hF hX hN hTop hcs hdp hu ⟨fun j' x' h' tk' t' u' u2' e' F' N' => (nomatch (hc.symm.trans e')), fun j' x' h' tk' t' u' u2' e' F' N' => (nomatch (hc.symm.trans e')), fun j' x' h' tk' t' u' u2' e' F' N' => (nomatch (hc.symm.trans e')), fun j' x' h' tk' t' u' u2' e' F' N' => (nomatch (hc.symm.trans e')), fun j' x' h' tk' t' u' u2' e' F' N' => (nomatch (hc.symm.trans e')), fun j' x' h' tk' t' u' u2' e' F' N' => (nomatch (hc.symm.trans e')), fun j' x' b' al' ps' led' h' tk' t' u2' e' nx' F' N' sb' A' nr' ns' => ?_, fun j' x' b' jr' tr' e' nx' => ?_, fun j' jr' tr' e' => (nomatch (hc.symm.trans e'))⟩
  · obtain ⟨rfl, rfl, rfl⟩ := Cl.alt.inj (hc.symm.trans e')
    exact hret _ _ _ _ _ _ _ F' N' sb' A' nr' ns'
  · obtain ⟨rfl, rfl, rfl⟩ := Cl.alt.inj (hc.symm.trans e')
    rw [hnx] at nx'
    cases nx'
theorem clause_dup {sp dsp : Addr} {c0 c1 c2 c3 c4 c5 c6 c7 c8 c9 : Tok} {v0 v1 v2 v3 v4 v6 v7 v8 v9 : Value} {al : Addr} {ps : List Addr} {as : List (Str × Bool)} {j : Nat} {x : Str} {b : Bool} {led news1 : List (Addr × Obj)} (hP : Pick dr (rdObj w l dn k1 k2 k3 i t) led news1) (hS : Pick dsp (spO w c0 c1 c2 c3 c4 c5 c6 c7 c8 c9 v0 v1 v2 v3 v4 (.ref al) v6 v7 v8 v9) news1 news) (hsp : (sp, instObj 47 dsp) ∈ news) (hsd : dsp ≠ dr) (hnd : ∀ p ∈ news, p.1 ≠ dr) (hns : ∀ p ∈ news, p.1 ≠ dsp) (hT : ToksIn w news r l dn dr nl xs ds) (hi : i ≤ 800) (hp : 0 < ds.length) (hA : AltIn (hd.heap_350 w.params) news al ps as) (hz : as.length ≤ 900) (hc : clauseF ds i = .alt j x b) (hnx : (as.map (·.1)).any (· == x) = true) :
    ClaimE w 16 91 [.ref r, .ref sp] led
      (fun h₀ L m s Q E base envs => ∀ jr tr, FaultEnds w h₀ L m s E base envs (endAt ds j) ((dr, rdObj w l dn k1 k2 k3 jr tr) :: (dsp, spO w c0 c1 c2 c3 c4 c5 c6 c7 c8 c9 v0 v1 v2 v3 v4 (.ref al) v6 v7 v8 v9) :: news)) := by
  intro prog p loose mean mg mb dp un gd cn cs a ccd cl outer A₀ base h₀ L m s Q E hB hF hX hN hTop hcs hdp hu hret
  refine clause_spec hP hS hsp hsd hnd hns hT (by omega) hp hA hz hi hB hF hX hN hTop hcs hdp hu ⟨fun j' x' h' tk' t' u' u2' e' F' N' => (nomatch (hc.symm.trans e')), fun j' x' h' tk' t' u' u2' e' F' N' => (nomatch (hc.symm.trans e')), fun j' x' h' tk' t' u' u2' e' F' N' => (nomatch (hc.symm.trans e')), fun j' x' h' tk' t' u' u2' e' F' N' => (nomatch (hc.symm.trans e')), fun j' x' h' tk' t' u' u2' e' F' N' => (nomatch (hc.symm.trans e')), fun j' x' h' tk' t' u' u2' e' F' N' => (nomatch (hc.symm.trans e')), fun j' x' b' al' ps' led' h' tk' t' u2' e' nx' F' N' sb' A' nr' ns' => ?_, fun j' x' b' jr' tr' e' nx' => ?_, fun j' jr' tr' e' => (nomatch (hc.symm.trans e'))⟩
  · obtain ⟨rfl, rfl, rfl⟩ := Cl.alt.inj (hc.symm.trans e')
    rw [hnx] at nx'
    cases nx'
  · obtain ⟨rfl, rfl, rfl⟩ := Cl.alt.inj (hc.symm.trans e')
    exact hret _ _
theorem clause_bad {sp dsp : Addr} {c0 c1 c2 c3 c4 c5 c6 c7 c8 c9 : Tok} {v0 v1 v2 v3 v4 v6 v7 v8 v9 : Value} {al : Addr} {ps : List Addr} {as : List (Str × Bool)} {j : Nat} {led news1 : List (Addr × Obj)} (hP : Pick dr (rdObj w l dn k1 k2 k3 i t) led news1) (hS : Pick dsp (spO w c0 c1 c2 c3 c4 c5 c6 c7 c8 c9 v0 v1 v2 v3 v4 (.ref al) v6 v7 v8 v9) news1 news) (hsp : (sp, instObj 47 dsp) ∈ news) (hsd : dsp ≠ dr) (hnd : ∀ p ∈ news, p.1 ≠ dr) (hns : ∀ p ∈ news, p.1 ≠ dsp) (hT : ToksIn w news r l dn dr nl xs ds) (hi : i ≤ 800) (hp : 0 < ds.length) (hA : AltIn (hd.heap_350 w.params) news al ps as) (hz : as.length ≤ 900) (hc : clauseF ds i = .bad j) :
    ClaimE w 16 91 [.ref r, .ref sp] led
      (fun h₀ L m s Q E base envs => ∀ jr tr, FaultEnds w h₀ L m s E base envs j ((dr, rdObj w l dn k1 k2 k3 jr tr) :: (dsp, spO w c0 c1 c2 c3 c4 c5 c6 c7 c8 c9 v0 v1 v2 v3 v4 (.ref al) v6 v7 v8 v9) :: news)) := by
  intro prog p loose mean mg mb dp un gd cn cs a ccd cl outer A₀ base h₀ L m s Q E hB hF hX hN hTop hcs hdp hu hret
  refine clause_spec hP hS hsp hsd hnd hns hT (by omega) hp hA hz hi hB hF hX hN hTop hcs hdp hu ⟨fun j' x' h' tk' t' u' u2' e' F' N' => (nomatch (hc.symm.trans e')), fun j' x' h' tk' t' u' u2' e' F' N' => (nomatch (hc.symm.trans e')), fun j' x' h' tk' t' u' u2' e' F' N' => (nomatch (hc.symm.trans e')), fun j' x' h' tk' t' u' u2' e' F' N' => (nomatch (hc.symm.trans e')), fun j' x' h' tk' t' u' u2' e' F' N' => (nomatch (hc.symm.trans e')), fun j' x' h' tk' t' u' u2' e' F' N' => (nomatch (hc.symm.trans e')), fun j' x' b' al' ps' led' h' tk' t' u2' e' nx' F' N' sb' A' nr' ns' => (nomatch (hc.symm.trans e')), fun j' x' b' jr' tr' e' nx' => (nomatch (hc.symm.trans e')), fun j' jr' tr' e' => ?_⟩
  obtain rfl := Cl.bad.inj (hc.symm.trans e')
  exact hret _ _

-- part X6
/-- a list stands in another -/
noncomputable def hasL : List Nat → List Nat → Bool
  | [], y => y.isEmpty
  | c :: r, y => y.isPrefixOf (c :: r) || hasL r y
theorem hasL_iff : ∀ (l y : List Nat), hasL l y = true ↔ ∃ i, i + y.length ≤ l.length ∧ (l.drop i).take y.length = y
  | [], y => by
    rw [hasL]
    constructor
    · intro h
      have : y = [] := by simpa using h
      subst this
      exact ⟨0, by simp, by simp⟩
    · rintro ⟨i, h, _⟩
      have : y.length = 0 := by simp at h; simp [h.2]
      simpa using this
  | c :: r, y => by
    rw [hasL, Bool.or_eq_true, hasL_iff r y, List.isPrefixOf_iff_prefix]
    constructor
    · rintro (h | ⟨i, h1, h2⟩)
      · exact ⟨0, by simpa using h.length_le, by rw [List.drop_zero]; exact (List.prefix_iff_eq_take.mp h).symm⟩
      · exact ⟨i + 1, by simp; omega, by simpa using h2⟩
    · rintro ⟨i, h1, h2⟩
      cases i with
      | zero => exact .inl (List.prefix_iff_eq_take.mpr (by simpa using h2.symm))
      | succ i => exact .inr ⟨i, by simp at h1; omega, by simpa using h2⟩
theorem resB_eq (x : Str) : resB x = hasL resT.cps.toList (⟨⟨[32]⟩⟩ ++ x ++ ⟨⟨[32]⟩⟩ : Str).cps.toList := by
  rw [Bool.eq_iff_iff, hasL_iff]
  unfold resB
  rw [StrLaws.found_iff]
  constructor
  · rintro ⟨i, h1, h2⟩
    rw [StrLaws.subAt_eq] at h2
    exact ⟨i, by simpa [Str.length] using h1, by simpa [Str.length] using h2⟩
  · rintro ⟨i, h1, h2⟩
    refine ⟨i, by simpa [Str.length] using h1, ?_⟩
    rw [StrLaws.subAt_eq]
    simpa [Str.length] using h2
/-- the words of a text, a period behind it -/
noncomputable def wsOf (T : Str) : List Str := Txt.split T ⟨⟨[32]⟩⟩
/-- what is to be known of a text that is read -/
structure TextOk (T : Str) (c : Cl) : Prop where
  len : T.length ≤ 1000
  few : (wsOf T).length ≤ 100
  ne : ∀ x ∈ wsOf T, 0 < x.length ∧ x.length ≤ 1000
  short : ∀ d ∈ (wsOf T).map tokD, d.2.length ≤ 1000
  some : 0 < (wsOf T).length
  clause : clauseF ((wsOf T).map tokD) 0 = c
noncomputable abbrev dotT (T : Str) : Str := T ++ ⟨⟨[32, 46]⟩⟩
structure RowOk (T : Str) (n : Nat) (c : Cl) : Prop where
  text : TextOk (dotT T) c
  len : T.length ≤ 1000
  size : (wsOf T).length = n
  size2 : (wsOf (dotT T)).length = n + 1
/-- what is read, the long text looked at as a list -/
noncomputable def clauseG : {f : List TD → Cl // ∀ ds, clauseF ds 0 = f ds} := by
  refine ⟨?f9, fun ds => ?h9⟩
  case h9 =>
    simp only [clauseF, keyF, relF, altF, nameF, nameB, resB_eq]
    exact rfl
noncomputable def textB (T : Str) : Bool := Nat.ble T.length 1000 && Nat.ble (wsOf T).length 100 && (wsOf T).all (fun x => Nat.ble 1 x.length && Nat.ble x.length 1000) && ((wsOf T).map tokD).all (fun d => Nat.ble d.2.length 1000) && Nat.ble 1 (wsOf T).length
theorem text_ok {T : Str} {c : Cl} (h : textB T = true) (hc : clauseG.1 ((wsOf T).map tokD) = c) : TextOk T c := by
  obtain ⟨h4, h5⟩ := Bool.and_eq_true_iff.mp h
  obtain ⟨h3, h4⟩ := Bool.and_eq_true_iff.mp h4
  obtain ⟨h2, h3⟩ := Bool.and_eq_true_iff.mp h3
  obtain ⟨h1, h2⟩ := Bool.and_eq_true_iff.mp h2
  refine ⟨Nat.le_of_ble_eq_true h1, Nat.le_of_ble_eq_true h2, fun x hx => ?_, fun d hd => Nat.le_of_ble_eq_true (List.all_eq_true.mp h4 d hd), Nat.le_of_ble_eq_true h5, (clauseG.2 _).trans hc⟩
  obtain ⟨a, b⟩ := Bool.and_eq_true_iff.mp (List.all_eq_true.mp h3 x hx)
  exact ⟨Nat.le_of_ble_eq_true a, Nat.le_of_ble_eq_true b⟩
noncomputable def rowB (T : Str) (n : Nat) : Bool := textB (dotT T) && Nat.ble T.length 1000 && Nat.beq (wsOf T).length n && Nat.beq (wsOf (dotT T)).length (n + 1)
theorem row_ok {T : Str} {n : Nat} {c : Cl} (h : rowB T n = true) (hc : clauseG.1 ((wsOf (dotT T)).map tokD) = c) : RowOk T n c := by
  obtain ⟨h3, h4⟩ := Bool.and_eq_true_iff.mp h
  obtain ⟨h2, h3⟩ := Bool.and_eq_true_iff.mp h3
  obtain ⟨h1, h2⟩ := Bool.and_eq_true_iff.mp h2
  exact ⟨text_ok h1 hc, Nat.le_of_ble_eq_true h2, Nat.eq_of_beq_eq_true h3, Nat.eq_of_beq_eq_true h4⟩
theorem row_0 : RowOk ⟨⟨[65, 83, 83, 73, 71, 78, 32, 84, 79, 32, 39, 112, 39]⟩⟩ 3 (.assign 3 ⟨⟨[112]⟩⟩) := row_ok (by kernel_rfl) (by kernel_rfl)
theorem row_1 : RowOk ⟨⟨[65, 83, 83, 73, 71, 78, 32, 68, 73, 83, 75, 32, 39, 113, 39, 32, 39, 114, 39]⟩⟩ 4 (.assign 4 ⟨⟨[114]⟩⟩) := row_ok (by kernel_rfl) (by kernel_rfl)
theorem row_2 : RowOk ⟨⟨[65, 83, 83, 73, 71, 78, 32, 84, 65, 80, 69]⟩⟩ 2 (.assign 2 ⟨⟨[84, 65, 80, 69]⟩⟩) := row_ok (by kernel_rfl) (by kernel_rfl)
theorem row_3 : RowOk ⟨⟨[82, 69, 76, 65, 84, 73, 86, 69]⟩⟩ 1 (.org 1 ⟨⟨[114, 101, 108, 97, 116, 105, 118, 101]⟩⟩) := row_ok (by kernel_rfl) (by kernel_rfl)
theorem row_4 : RowOk ⟨⟨[79, 82, 71, 65, 78, 73, 90, 65, 84, 73, 79, 78, 32, 73, 83, 32, 76, 73, 78, 69, 32, 83, 69, 81, 85, 69, 78, 84, 73, 65, 76]⟩⟩ 4 (.org 4 ⟨⟨[115, 101, 113, 117, 101, 110, 116, 105, 97, 108]⟩⟩) := row_ok (by kernel_rfl) (by kernel_rfl)
theorem row_5 : RowOk ⟨⟨[73, 78, 68, 69, 88, 69, 68]⟩⟩ 1 (.org 1 ⟨⟨[105, 110, 100, 101, 120, 101, 100]⟩⟩) := row_ok (by kernel_rfl) (by kernel_rfl)
theorem row_6 : RowOk ⟨⟨[79, 82, 71, 65, 78, 73, 90, 65, 84, 73, 79, 78, 32, 82, 69, 76, 65, 84, 73, 86, 69]⟩⟩ 2 (.org 2 ⟨⟨[114, 101, 108, 97, 116, 105, 118, 101]⟩⟩) := row_ok (by kernel_rfl) (by kernel_rfl)
theorem row_7 : RowOk ⟨⟨[65, 67, 67, 69, 83, 83, 32, 77, 79, 68, 69, 32, 73, 83, 32, 68, 89, 78, 65, 77, 73, 67]⟩⟩ 4 (.acc 4 ⟨⟨[100, 121, 110, 97, 109, 105, 99]⟩⟩) := row_ok (by kernel_rfl) (by kernel_rfl)
theorem row_8 : RowOk ⟨⟨[65, 67, 67, 69, 83, 83, 32, 82, 65, 78, 68, 79, 77]⟩⟩ 2 (.acc 2 ⟨⟨[114, 97, 110, 100, 111, 109]⟩⟩) := row_ok (by kernel_rfl) (by kernel_rfl)
theorem row_9 : RowOk ⟨⟨[82, 69, 67, 79, 82, 68, 32, 75, 69, 89, 32, 73, 83, 32, 75]⟩⟩ 4 (.key 4 ⟨⟨[75]⟩⟩) := row_ok (by kernel_rfl) (by kernel_rfl)
theorem row_10 : RowOk ⟨⟨[82, 69, 67, 79, 82, 68, 32, 76]⟩⟩ 2 (.key 2 ⟨⟨[76]⟩⟩) := row_ok (by kernel_rfl) (by kernel_rfl)
theorem row_11 : RowOk ⟨⟨[65, 76, 84, 69, 82, 78, 65, 84, 69, 32, 82, 69, 67, 79, 82, 68, 32, 75, 69, 89, 32, 73, 83, 32, 74, 32, 87, 73, 84, 72, 32, 68, 85, 80, 76, 73, 67, 65, 84, 69, 83]⟩⟩ 7 (.alt 7 ⟨⟨[74]⟩⟩ true) := row_ok (by kernel_rfl) (by kernel_rfl)
theorem row_12 : RowOk ⟨⟨[65, 76, 84, 69, 82, 78, 65, 84, 69, 32, 77, 32, 68, 85, 80, 76, 73, 67, 65, 84, 69, 83]⟩⟩ 3 (.alt 3 ⟨⟨[77]⟩⟩ true) := row_ok (by kernel_rfl) (by kernel_rfl)
theorem row_13 : RowOk ⟨⟨[65, 76, 84, 69, 82, 78, 65, 84, 69, 32, 75, 69, 89, 32, 78]⟩⟩ 3 (.alt 3 ⟨⟨[78]⟩⟩ false) := row_ok (by kernel_rfl) (by kernel_rfl)
theorem row_14 : RowOk ⟨⟨[82, 69, 76, 65, 84, 73, 86, 69, 32, 75, 69, 89, 32, 73, 83, 32, 82]⟩⟩ 4 (.rel 4 ⟨⟨[82]⟩⟩) := row_ok (by kernel_rfl) (by kernel_rfl)
theorem row_15 : RowOk ⟨⟨[82, 69, 76, 65, 84, 73, 86, 69, 32, 73, 83, 32, 81]⟩⟩ 3 (.rel 3 ⟨⟨[81]⟩⟩) := row_ok (by kernel_rfl) (by kernel_rfl)
theorem row_16 : RowOk ⟨⟨[82, 69, 76, 65, 84, 73, 86, 69, 32, 80]⟩⟩ 2 (.rel 2 ⟨⟨[80]⟩⟩) := row_ok (by kernel_rfl) (by kernel_rfl)
theorem row_17 : RowOk ⟨⟨[83, 84, 65, 84, 85, 83, 32, 83]⟩⟩ 2 (.status 2 ⟨⟨[83]⟩⟩) := row_ok (by kernel_rfl) (by kernel_rfl)
theorem row_18 : RowOk ⟨⟨[70, 73, 76, 69, 32, 83, 84, 65, 84, 85, 83, 32, 73, 83, 32, 84]⟩⟩ 4 (.status 4 ⟨⟨[84]⟩⟩) := row_ok (by kernel_rfl) (by kernel_rfl)
theorem wrong_0 : TextOk ⟨⟨[65, 67, 67, 69, 83, 83, 32, 77, 79, 68, 69, 32, 73, 83, 32, 73, 78, 68, 69, 88, 69, 68, 32, 46]⟩⟩ (.bad 3) := text_ok (by kernel_rfl) (by kernel_rfl)
theorem wrong_1 : TextOk ⟨⟨[79, 82, 71, 65, 78, 73, 90, 65, 84, 73, 79, 78, 32, 73, 83, 32, 88, 32, 46]⟩⟩ (.bad 2) := text_ok (by kernel_rfl) (by kernel_rfl)
theorem wrong_2 : TextOk ⟨⟨[82, 69, 67, 79, 82, 68, 32, 75, 69, 89, 32, 65, 67, 67, 69, 83, 83]⟩⟩ (.bad 2) := text_ok (by kernel_rfl) (by kernel_rfl)
theorem wrong_3 : TextOk ⟨⟨[65, 83, 83, 73, 71, 78, 32, 84, 79, 32, 46]⟩⟩ (.bad 2) := text_ok (by kernel_rfl) (by kernel_rfl)
theorem wrong_4 : TextOk ⟨⟨[83, 84, 65, 84, 85, 83, 32, 73, 83, 32, 46]⟩⟩ (.bad 2) := text_ok (by kernel_rfl) (by kernel_rfl)
theorem wrong_5 : TextOk ⟨⟨[87, 79, 82, 68, 32, 46]⟩⟩ (.bad 0) := text_ok (by kernel_rfl) (by kernel_rfl)
theorem wrong_6 : TextOk ⟨⟨[65, 76, 84, 69, 82, 78, 65, 84, 69, 32, 75, 69, 89, 32, 46]⟩⟩ (.bad 2) := text_ok (by kernel_rfl) (by kernel_rfl)

-- part X7
noncomputable def RowAt (P : Params) (ra : Addr) (T W : Str) (p : Int) (wv : Value) : Prop := ∃ t1 t2 t3 k, (hd.heap_350 P).lookup ra = some { cls := .type "tuple", data := .seq #[.str T t1, .str W t2, .int p t3, wv] k }
/-- the sorts of a row -/
inductive RowG (P : Params) (ra : Addr) : Prop where
  | assign (T x : Str) (t : Tok) (n : Nat) (h : RowAt P ra T ⟨⟨[65, 83, 83, 73, 71, 78]⟩⟩ 1 (.str x t)) (ok : RowOk T n (.assign n x)) (so : PyData.strOk x = true) : RowG P ra
  | org (T x : Str) (t : Tok) (n : Nat) (h : RowAt P ra T ⟨⟨[79, 82, 71, 65, 78, 73, 90, 65, 84, 73, 79, 78]⟩⟩ 2 (.str x t)) (ok : RowOk T n (.org n x)) (so : PyData.strOk x = true) : RowG P ra
  | acc (T x : Str) (t : Tok) (n : Nat) (h : RowAt P ra T ⟨⟨[65, 67, 67, 69, 83, 83]⟩⟩ 3 (.str x t)) (ok : RowOk T n (.acc n x)) (so : PyData.strOk x = true) : RowG P ra
  | key (T x : Str) (t : Tok) (n : Nat) (h : RowAt P ra T ⟨⟨[82, 69, 67, 79, 82, 68]⟩⟩ 4 (.str x t)) (ok : RowOk T n (.key n x)) (so : PyData.strOk x = true) : RowG P ra
  | rel (T x : Str) (t : Tok) (n : Nat) (h : RowAt P ra T ⟨⟨[82, 69, 76, 65, 84, 73, 86, 69, 32, 75, 69, 89]⟩⟩ 6 (.str x t)) (ok : RowOk T n (.rel n x)) (so : PyData.strOk x = true) : RowG P ra
  | status (T x : Str) (t : Tok) (n : Nat) (h : RowAt P ra T ⟨⟨[83, 84, 65, 84, 85, 83]⟩⟩ 7 (.str x t)) (ok : RowOk T n (.status n x)) (so : PyData.strOk x = true) : RowG P ra
  | alt (T x : Str) (b : Bool) (pa : Addr) (n : Nat) (h : RowAt P ra T ⟨⟨[65, 76, 84, 69, 82, 78, 65, 84, 69]⟩⟩ 5 (.ref pa)) (hp : ∃ u k, (hd.heap_350 P).lookup pa = some { cls := .type "tuple", data := .seq #[.str x u, .bool b] k }) (ok : RowOk T n (.alt n x b)) (so : PyData.strOk x = true) : RowG P ra
noncomputable def rowA : List Addr := [343, 344, 345, 346, 347, 348, 349, 350, 351, 352, 353, 355, 357, 359, 360, 361, 362, 363, 364]
set_option maxHeartbeats 1000000 in
theorem at_0 (P : Params) : (hd.heap_350 P).lookup 343 = some { cls := .type "tuple", data := .seq #[.str ⟨⟨[65, 83, 83, 73, 71, 78, 32, 84, 79, 32, 39, 112, 39]⟩⟩ 616, .str ⟨⟨[65, 83, 83, 73, 71, 78]⟩⟩ 617, .int 1 618, (.str ⟨⟨[112]⟩⟩ 619)] 0 } := by kernel_rfl
set_option maxHeartbeats 1000000 in
theorem at_1 (P : Params) : (hd.heap_350 P).lookup 344 = some { cls := .type "tuple", data := .seq #[.str ⟨⟨[65, 83, 83, 73, 71, 78, 32, 68, 73, 83, 75, 32, 39, 113, 39, 32, 39, 114, 39]⟩⟩ 620, .str ⟨⟨[65, 83, 83, 73, 71, 78]⟩⟩ 621, .int 1 622, (.str ⟨⟨[114]⟩⟩ 623)] 0 } := by kernel_rfl
set_option maxHeartbeats 1000000 in
theorem at_2 (P : Params) : (hd.heap_350 P).lookup 345 = some { cls := .type "tuple", data := .seq #[.str ⟨⟨[65, 83, 83, 73, 71, 78, 32, 84, 65, 80, 69]⟩⟩ 624, .str ⟨⟨[65, 83, 83, 73, 71, 78]⟩⟩ 625, .int 1 626, (.str ⟨⟨[84, 65, 80, 69]⟩⟩ 627)] 0 } := by kernel_rfl
set_option maxHeartbeats 1000000 in
theorem at_3 (P : Params) : (hd.heap_350 P).lookup 346 = some { cls := .type "tuple", data := .seq #[.str ⟨⟨[82, 69, 76, 65, 84, 73, 86, 69]⟩⟩ 628, .str ⟨⟨[79, 82, 71, 65, 78, 73, 90, 65, 84, 73, 79, 78]⟩⟩ 629, .int 2 630, (.str ⟨⟨[114, 101, 108, 97, 116, 105, 118, 101]⟩⟩ 631)] 0 } := by kernel_rfl
set_option maxHeartbeats 1000000 in
theorem at_4 (P : Params) : (hd.heap_350 P).lookup 347 = some { cls := .type "tuple", data := .seq #[.str ⟨⟨[79, 82, 71, 65, 78, 73, 90, 65, 84, 73, 79, 78, 32, 73, 83, 32, 76, 73, 78, 69, 32, 83, 69, 81, 85, 69, 78, 84, 73, 65, 76]⟩⟩ 632, .str ⟨⟨[79, 82, 71, 65, 78, 73, 90, 65, 84, 73, 79, 78]⟩⟩ 633, .int 2 634, (.str ⟨⟨[115, 101, 113, 117, 101, 110, 116, 105, 97, 108]⟩⟩ 635)] 0 } := by kernel_rfl
set_option maxHeartbeats 1000000 in
theorem at_5 (P : Params) : (hd.heap_350 P).lookup 348 = some { cls := .type "tuple", data := .seq #[.str ⟨⟨[73, 78, 68, 69, 88, 69, 68]⟩⟩ 636, .str ⟨⟨[79, 82, 71, 65, 78, 73, 90, 65, 84, 73, 79, 78]⟩⟩ 637, .int 2 638, (.str ⟨⟨[105, 110, 100, 101, 120, 101, 100]⟩⟩ 639)] 0 } := by kernel_rfl
set_option maxHeartbeats 1000000 in
theorem at_6 (P : Params) : (hd.heap_350 P).lookup 349 = some { cls := .type "tuple", data := .seq #[.str ⟨⟨[79, 82, 71, 65, 78, 73, 90, 65, 84, 73, 79, 78, 32, 82, 69, 76, 65, 84, 73, 86, 69]⟩⟩ 640, .str ⟨⟨[79, 82, 71, 65, 78, 73, 90, 65, 84, 73, 79, 78]⟩⟩ 641, .int 2 642, (.str ⟨⟨[114, 101, 108, 97, 116, 105, 118, 101]⟩⟩ 643)] 0 } := by kernel_rfl
set_option maxHeartbeats 1000000 in
theorem at_7 (P : Params) : (hd.heap_350 P).lookup 350 = some { cls := .type "tuple", data := .seq #[.str ⟨⟨[65, 67, 67, 69, 83, 83, 32, 77, 79, 68, 69, 32, 73, 83, 32, 68, 89, 78, 65, 77, 73, 67]⟩⟩ 644, .str ⟨⟨[65, 67, 67, 69, 83, 83]⟩⟩ 645, .int 3 646, (.str ⟨⟨[100, 121, 110, 97, 109, 105, 99]⟩⟩ 647)] 0 } := by kernel_rfl
set_option maxHeartbeats 1000000 in
theorem at_8 (P : Params) : (hd.heap_350 P).lookup 351 = some { cls := .type "tuple", data := .seq #[.str ⟨⟨[65, 67, 67, 69, 83, 83, 32, 82, 65, 78, 68, 79, 77]⟩⟩ 648, .str ⟨⟨[65, 67, 67, 69, 83, 83]⟩⟩ 649, .int 3 650, (.str ⟨⟨[114, 97, 110, 100, 111, 109]⟩⟩ 651)] 0 } := by kernel_rfl
set_option maxHeartbeats 1000000 in
theorem at_9 (P : Params) : (hd.heap_350 P).lookup 352 = some { cls := .type "tuple", data := .seq #[.str ⟨⟨[82, 69, 67, 79, 82, 68, 32, 75, 69, 89, 32, 73, 83, 32, 75]⟩⟩ 652, .str ⟨⟨[82, 69, 67, 79, 82, 68]⟩⟩ 653, .int 4 654, (.str ⟨⟨[75]⟩⟩ 655)] 0 } := by kernel_rfl
set_option maxHeartbeats 1000000 in
theorem at_10 (P : Params) : (hd.heap_350 P).lookup 353 = some { cls := .type "tuple", data := .seq #[.str ⟨⟨[82, 69, 67, 79, 82, 68, 32, 76]⟩⟩ 656, .str ⟨⟨[82, 69, 67, 79, 82, 68]⟩⟩ 657, .int 4 658, (.str ⟨⟨[76]⟩⟩ 659)] 0 } := by kernel_rfl
set_option maxHeartbeats 1000000 in
theorem at_11 (P : Params) : (hd.heap_350 P).lookup 355 = some { cls := .type "tuple", data := .seq #[.str ⟨⟨[65, 76, 84, 69, 82, 78, 65, 84, 69, 32, 82, 69, 67, 79, 82, 68, 32, 75, 69, 89, 32, 73, 83, 32, 74, 32, 87, 73, 84, 72, 32, 68, 85, 80, 76, 73, 67, 65, 84, 69, 83]⟩⟩ 660, .str ⟨⟨[65, 76, 84, 69, 82, 78, 65, 84, 69]⟩⟩ 661, .int 5 662, (.ref 354)] 0 } := by kernel_rfl
set_option maxHeartbeats 1000000 in
theorem pair_11 (P : Params) : (hd.heap_350 P).lookup 354 = some { cls := .type "tuple", data := .seq #[.str ⟨⟨[74]⟩⟩ 663, .bool true] 0 } := by kernel_rfl
set_option maxHeartbeats 1000000 in
theorem at_12 (P : Params) : (hd.heap_350 P).lookup 357 = some { cls := .type "tuple", data := .seq #[.str ⟨⟨[65, 76, 84, 69, 82, 78, 65, 84, 69, 32, 77, 32, 68, 85, 80, 76, 73, 67, 65, 84, 69, 83]⟩⟩ 664, .str ⟨⟨[65, 76, 84, 69, 82, 78, 65, 84, 69]⟩⟩ 665, .int 5 666, (.ref 356)] 0 } := by kernel_rfl
set_option maxHeartbeats 1000000 in
theorem pair_12 (P : Params) : (hd.heap_350 P).lookup 356 = some { cls := .type "tuple", data := .seq #[.str ⟨⟨[77]⟩⟩ 667, .bool true] 0 } := by kernel_rfl
set_option maxHeartbeats 1000000 in
theorem at_13 (P : Params) : (hd.heap_350 P).lookup 359 = some { cls := .type "tuple", data := .seq #[.str ⟨⟨[65, 76, 84, 69, 82, 78, 65, 84, 69, 32, 75, 69, 89, 32, 78]⟩⟩ 668, .str ⟨⟨[65, 76, 84, 69, 82, 78, 65, 84, 69]⟩⟩ 669, .int 5 670, (.ref 358)] 0 } := by kernel_rfl
set_option maxHeartbeats 1000000 in
theorem pair_13 (P : Params) : (hd.heap_350 P).lookup 358 = some { cls := .type "tuple", data := .seq #[.str ⟨⟨[78]⟩⟩ 671, .bool false] 0 } := by kernel_rfl
set_option maxHeartbeats 1000000 in
theorem at_14 (P : Params) : (hd.heap_350 P).lookup 360 = some { cls := .type "tuple", data := .seq #[.str ⟨⟨[82, 69, 76, 65, 84, 73, 86, 69, 32, 75, 69, 89, 32, 73, 83, 32, 82]⟩⟩ 672, .str ⟨⟨[82, 69, 76, 65, 84, 73, 86, 69, 32, 75, 69, 89]⟩⟩ 673, .int 6 674, (.str ⟨⟨[82]⟩⟩ 675)] 0 } := by kernel_rfl
set_option maxHeartbeats 1000000 in
theorem at_15 (P : Params) : (hd.heap_350 P).lookup 361 = some { cls := .type "tuple", data := .seq #[.str ⟨⟨[82, 69, 76, 65, 84, 73, 86, 69, 32, 73, 83, 32, 81]⟩⟩ 676, .str ⟨⟨[82, 69, 76, 65, 84, 73, 86, 69, 32, 75, 69, 89]⟩⟩ 677, .int 6 678, (.str ⟨⟨[81]⟩⟩ 679)] 0 } := by kernel_rfl
set_option maxHeartbeats 1000000 in
theorem at_16 (P : Params) : (hd.heap_350 P).lookup 362 = some { cls := .type "tuple", data := .seq #[.str ⟨⟨[82, 69, 76, 65, 84, 73, 86, 69, 32, 80]⟩⟩ 680, .str ⟨⟨[82, 69, 76, 65, 84, 73, 86, 69, 32, 75, 69, 89]⟩⟩ 681, .int 6 682, (.str ⟨⟨[80]⟩⟩ 683)] 0 } := by kernel_rfl
set_option maxHeartbeats 1000000 in
theorem at_17 (P : Params) : (hd.heap_350 P).lookup 363 = some { cls := .type "tuple", data := .seq #[.str ⟨⟨[83, 84, 65, 84, 85, 83, 32, 83]⟩⟩ 684, .str ⟨⟨[83, 84, 65, 84, 85, 83]⟩⟩ 685, .int 7 686, (.str ⟨⟨[83]⟩⟩ 687)] 0 } := by kernel_rfl
set_option maxHeartbeats 1000000 in
theorem at_18 (P : Params) : (hd.heap_350 P).lookup 364 = some { cls := .type "tuple", data := .seq #[.str ⟨⟨[70, 73, 76, 69, 32, 83, 84, 65, 84, 85, 83, 32, 73, 83, 32, 84]⟩⟩ 688, .str ⟨⟨[83, 84, 65, 84, 85, 83]⟩⟩ 689, .int 7 690, (.str ⟨⟨[84]⟩⟩ 691)] 0 } := by kernel_rfl
theorem row_g (P : Params) : ∀ (r : Nat) (ra : Addr), rowA[r]? = some ra → RowG P ra := by
  intro r ra h
  match r, h with
  | 0, h => obtain rfl := Option.some.inj h; exact .assign _ _ _ _ ⟨_, _, _, _, at_0 P⟩ row_0 (by decide +kernel)
  | 1, h => obtain rfl := Option.some.inj h; exact .assign _ _ _ _ ⟨_, _, _, _, at_1 P⟩ row_1 (by decide +kernel)
  | 2, h => obtain rfl := Option.some.inj h; exact .assign _ _ _ _ ⟨_, _, _, _, at_2 P⟩ row_2 (by decide +kernel)
  | 3, h => obtain rfl := Option.some.inj h; exact .org _ _ _ _ ⟨_, _, _, _, at_3 P⟩ row_3 (by decide +kernel)
  | 4, h => obtain rfl := Option.some.inj h; exact .org _ _ _ _ ⟨_, _, _, _, at_4 P⟩ row_4 (by decide +kernel)
  | 5, h => obtain rfl := Option.some.inj h; exact .org _ _ _ _ ⟨_, _, _, _, at_5 P⟩ row_5 (by decide +kernel)
  | 6, h => obtain rfl := Option.some.inj h; exact .org _ _ _ _ ⟨_, _, _, _, at_6 P⟩ row_6 (by decide +kernel)
  | 7, h => obtain rfl := Option.some.inj h; exact .acc _ _ _ _ ⟨_, _, _, _, at_7 P⟩ row_7 (by decide +kernel)
  | 8, h => obtain rfl := Option.some.inj h; exact .acc _ _ _ _ ⟨_, _, _, _, at_8 P⟩ row_8 (by decide +kernel)
  | 9, h => obtain rfl := Option.some.inj h; exact .key _ _ _ _ ⟨_, _, _, _, at_9 P⟩ row_9 (by decide +kernel)
  | 10, h => obtain rfl := Option.some.inj h; exact .key _ _ _ _ ⟨_, _, _, _, at_10 P⟩ row_10 (by decide +kernel)
  | 11, h => obtain rfl := Option.some.inj h; exact .alt _ _ _ _ _ ⟨_, _, _, _, at_11 P⟩ ⟨_, _, pair_11 P⟩ row_11 (by decide +kernel)
  | 12, h => obtain rfl := Option.some.inj h; exact .alt _ _ _ _ _ ⟨_, _, _, _, at_12 P⟩ ⟨_, _, pair_12 P⟩ row_12 (by decide +kernel)
  | 13, h => obtain rfl := Option.some.inj h; exact .alt _ _ _ _ _ ⟨_, _, _, _, at_13 P⟩ ⟨_, _, pair_13 P⟩ row_13 (by decide +kernel)
  | 14, h => obtain rfl := Option.some.inj h; exact .rel _ _ _ _ ⟨_, _, _, _, at_14 P⟩ row_14 (by decide +kernel)
  | 15, h => obtain rfl := Option.some.inj h; exact .rel _ _ _ _ ⟨_, _, _, _, at_15 P⟩ row_15 (by decide +kernel)
  | 16, h => obtain rfl := Option.some.inj h; exact .rel _ _ _ _ ⟨_, _, _, _, at_16 P⟩ row_16 (by decide +kernel)
  | 17, h => obtain rfl := Option.some.inj h; exact .status _ _ _ _ ⟨_, _, _, _, at_17 P⟩ row_17 (by decide +kernel)
  | 18, h => obtain rfl := Option.some.inj h; exact .status _ _ _ _ ⟨_, _, _, _, at_18 P⟩ row_18 (by decide +kernel)
  | n + 19, h => simp [rowA] at h
/-- the wrong rows -/
noncomputable def WrongG (P : Params) (ra : Addr) : Prop := ∃ T p t1 t2 k, (hd.heap_350 P).lookup ra = some { cls := .type "tuple", data := .seq #[.str T t1, .int ((p : Nat) : Int) t2] k } ∧ TextOk T (.bad p) ∧ p + 1 < 100
noncomputable def wrongA : List Addr := [366, 367, 368, 369, 370, 371, 372]
set_option maxHeartbeats 1000000 in
theorem wat_0 (P : Params) : (hd.heap_350 P).lookup 366 = some { cls := .type "tuple", data := .seq #[.str ⟨⟨[65, 67, 67, 69, 83, 83, 32, 77, 79, 68, 69, 32, 73, 83, 32, 73, 78, 68, 69, 88, 69, 68, 32, 46]⟩⟩ 693, .int ((3 : Nat) : Int) 694] 0 } := by kernel_rfl
set_option maxHeartbeats 1000000 in
theorem wat_1 (P : Params) : (hd.heap_350 P).lookup 367 = some { cls := .type "tuple", data := .seq #[.str ⟨⟨[79, 82, 71, 65, 78, 73, 90, 65, 84, 73, 79, 78, 32, 73, 83, 32, 88, 32, 46]⟩⟩ 695, .int ((2 : Nat) : Int) 696] 0 } := by kernel_rfl
set_option maxHeartbeats 1000000 in
theorem wat_2 (P : Params) : (hd.heap_350 P).lookup 368 = some { cls := .type "tuple", data := .seq #[.str ⟨⟨[82, 69, 67, 79, 82, 68, 32, 75, 69, 89, 32, 65, 67, 67, 69, 83, 83]⟩⟩ 697, .int ((2 : Nat) : Int) 698] 0 } := by kernel_rfl
set_option maxHeartbeats 1000000 in
theorem wat_3 (P : Params) : (hd.heap_350 P).lookup 369 = some { cls := .type "tuple", data := .seq #[.str ⟨⟨[65, 83, 83, 73, 71, 78, 32, 84, 79, 32, 46]⟩⟩ 699, .int ((2 : Nat) : Int) 700] 0 } := by kernel_rfl
set_option maxHeartbeats 1000000 in
theorem wat_4 (P : Params) : (hd.heap_350 P).lookup 370 = some { cls := .type "tuple", data := .seq #[.str ⟨⟨[83, 84, 65, 84, 85, 83, 32, 73, 83, 32, 46]⟩⟩ 701, .int ((2 : Nat) : Int) 702] 0 } := by kernel_rfl
set_option maxHeartbeats 1000000 in
theorem wat_5 (P : Params) : (hd.heap_350 P).lookup 371 = some { cls := .type "tuple", data := .seq #[.str ⟨⟨[87, 79, 82, 68, 32, 46]⟩⟩ 703, .int ((0 : Nat) : Int) 704] 0 } := by kernel_rfl
set_option maxHeartbeats 1000000 in
theorem wat_6 (P : Params) : (hd.heap_350 P).lookup 372 = some { cls := .type "tuple", data := .seq #[.str ⟨⟨[65, 76, 84, 69, 82, 78, 65, 84, 69, 32, 75, 69, 89, 32, 46]⟩⟩ 705, .int ((2 : Nat) : Int) 706] 0 } := by kernel_rfl
theorem wrong_g (P : Params) : ∀ (r : Nat) (ra : Addr), wrongA[r]? = some ra → WrongG P ra := by
  intro r ra h
  match r, h with
  | 0, h => obtain rfl := Option.some.inj h; exact ⟨_, _, _, _, _, wat_0 P, wrong_0, by decide⟩
  | 1, h => obtain rfl := Option.some.inj h; exact ⟨_, _, _, _, _, wat_1 P, wrong_1, by decide⟩
  | 2, h => obtain rfl := Option.some.inj h; exact ⟨_, _, _, _, _, wat_2 P, wrong_2, by decide⟩
  | 3, h => obtain rfl := Option.some.inj h; exact ⟨_, _, _, _, _, wat_3 P, wrong_3, by decide⟩
  | 4, h => obtain rfl := Option.some.inj h; exact ⟨_, _, _, _, _, wat_4 P, wrong_4, by decide⟩
  | 5, h => obtain rfl := Option.some.inj h; exact ⟨_, _, _, _, _, wat_5 P, wrong_5, by decide⟩
  | 6, h => obtain rfl := Option.some.inj h; exact ⟨_, _, _, _, _, wat_6 P, wrong_6, by decide⟩
  | n + 7, h => simp [wrongA] at h
set_option maxHeartbeats 1000000 in
theorem rows_at (P : Params) : (hd.heap_350 P).lookup 365 = some { cls := .type "tuple", data := .seq (rowA.map Value.ref).toArray 0 } := by kernel_rfl
set_option maxHeartbeats 1000000 in
theorem wrongs_at (P : Params) : (hd.heap_350 P).lookup 373 = some { cls := .type "tuple", data := .seq (wrongA.map Value.ref).toArray 0 } := by kernel_rfl

-- part C20

/-- the ledger of the law's turns: what the clauses told stands in the spec and in the due list alike -/
noncomputable def LawJ (w : World) (tp cl' du sp dsp : Addr) (x0 : Str) (cs' : List Value) (n1 i : Nat) (led : List (Addr × Obj)) : Prop :=
  ∃ (c0 c1 c2 c3 c4 c5 c6 c7 c8 c9 : Tok) (x1 x2 x3 x4 x6 x7 : Str) (t0 t1 t2 t3 t4 t6 t7 u0 u1 u2 u3 u4 u6 u7 ta : Tok) (al al2 rc rc2 : Addr) (ps ps2 : List Addr) (as : List (Str × Bool)) (rest : List (Addr × Obj)),
    led = (dsp, spO w c0 c1 c2 c3 c4 c5 c6 c7 c8 c9 (.str x0 t0) (.str x1 t1) (.str x2 t2) (.str x3 t3) (.str x4 t4) (.ref al) (.str x6 t6) (.str x7 t7) (.bool false) (.ref rc)) :: (du, W.listOf #[.str x0 u0, .str x1 u1, .str x2 u2, .str x3 u3, .str x4 u4, .ref al2, .str x6 u6, .str x7 u7, .bool false, .ref rc2] 0) :: (tp, W.listOf #[Value.ref cl', Value.int ((i : Int) + 1) ta] 0) :: rest ∧
    ((sp, instObj 47 dsp) ∈ rest ∧ (cl', W.listOf cs'.toArray n1) ∈ rest ∧ (rc, tup0) ∈ rest ∧ (rc2, tup0) ∈ rest) ∧
    (AltIn (hd.heap_350 w.params) rest al ps as ∧ AltIn (hd.heap_350 w.params) rest al2 ps2 as ∧ as.length ≤ i) ∧
    (∀ q ∈ rest, q.1 ≠ dsp) ∧ (∀ q ∈ rest, q.1 ≠ du) ∧ (∀ q ∈ rest, q.1 ≠ tp) ∧
    (PyData.strOk x1 = true ∧ PyData.strOk x2 = true ∧ PyData.strOk x3 = true ∧ PyData.strOk x4 = true ∧ PyData.strOk x6 = true ∧ PyData.strOk x7 = true ∧ ∀ a ∈ as, PyData.strOk a.1 = true)
theorem altIn_nil {K : Frag} {al : Addr} (h : (al, tup0) ∈ news) : AltIn K news al [] [] := ⟨⟨_, 0, h, rfl, rfl⟩, rfl, fun i p a e => by simp at e⟩

-- part C21

section
variable {prog : Program} {A : Around} {E : Value → Shared → Prop} {s : Shared} {h₀ : Heap} {L : Addr} {m : Str → Option Value} {P : Params}
/-- an item of a tuple of the written heap, at a place not known -/
theorem item_static {value slice : PySem.Expr} {ta : Addr} {as : List Addr} {k : Int} {u : Tok} {Q : Value → Shared → Prop} (F : Fr h₀ L s.heap m) (X : (hd.heap_350 P).In h₀) (hk : (hd.heap_350 P).lookup ta = some { cls := .type "tuple", data := .seq (as.map Value.ref).toArray 0 })
    (h0 : 0 ≤ k) (h1 : k < as.length) (hz : as.length ≤ 100) (h : ∀ ra, as[k.toNat]? = some ra → Q (.ref ra) s)
    (hs : subscripted slice false (.ref ta) (.int k u) = operate [.ref ta, .int k u] (getItem (.ref ta) (.int k u)) := by with_unfolding_all rfl) (hg : ∀ r, letTemporaryGo value (.ref ta) r = pure () := by intro _; with_unfolding_all rfl) :
    wpAny (model prog w) A (subscriptTail value slice (.ref ta) (.int k u)) Q E s := by
  have hx : as[k.toNat]? = some as[k.toNat] := by simp
  refine item_tupleL (l := as.map Value.ref) (j := k.toNat) (x := .ref as[k.toNat]) ⟨_, F.keep _ _ (X _ _ hk), rfl, 0, rfl⟩ (by omega) (by omega) ?_ (by simp [hx]) (h _ hx) hs hg
  unfold seqIndex?
  simp
  omega
end

-- part C22

theorem said_45 : True := by
  k_with "k_in" => exact Frag.In.keeps (by with_reducible assumption) (Fr.keep (by with_reducible assumption))
  k_with "k_ne" => (refine neN ?_; (try dsimp only); omega)
  trivial
section
variable {prog : Program} {A : Around} {E : Value → Shared → Prop} {s : Shared} {h₀ : Heap} {L : Addr}
theorem nm_dot : Str.ofString " ." = ⟨⟨[32, 46]⟩⟩ := by decide +kernel
theorem nm_sp : Str.ofString " " = ⟨⟨[32]⟩⟩ := by decide +kernel
/-- a text, a period behind it -/
theorem add_dot {T : Str} {t u : Tok} {Q : Value → Shared → Prop} (hT : T.length ≤ 1000) (h : ∀ t' k, Q (.str (dotT T) t') { s with toks := k }) : wpAny (model prog w) A (binaryOp .Add (.str T t) (.str (Str.ofString " .") u)) Q E s := by
  have e : (Str.ofString " .").length = 2 := by decide +kernel
  refine KXadd.add (K := 1000) (L := 2) hT (Nat.le_of_eq e) (by decide) fun t' k _ => ?_
  rw [nm_dot]
  exact h _ _
/-- the words of a row's text are split -/
theorem split_row {T : Str} {t u : Tok} {m : Str → Option Value} {Q : Value → Shared → Prop} (hF : Fr h₀ L s.heap m) (hN : News h₀ L s.heap news) (hsz : T.length ≤ 1000)
    (h : ∀ D vs h' k, StrsAre vs (wsOf T) → Fr h₀ L h' m → News h₀ L h' ((D, W.listOf vs.toArray 0) :: news) → (∀ p ∈ news, p.1 < D) → Q (.ref D) { s with heap := h', toks := k }) :
    wpAny (model prog w) A (call (.builtin "str.split") [.str T t, .str (Str.ofString " ") u]) Q E s := by
  rw [nm_sp]
  exact split_w hF hN rfl (by decide) hsz h
theorem len_row {l : Addr} {vs : List Value} {ws : List Str} {nl n : Nat} {Q : Value → Shared → Prop} (N : News h₀ L s.heap news) (hm : (l, W.listOf vs.toArray nl) ∈ news) (hi : StrsAre vs ws) (hn : ws.length = n) (hz : n ≤ 1000)
    (h : ∀ t tk, Q (.int (n : Nat) t) { s with toks := tk }) : wpAny (model prog w) A (call (.builtin "len") [.ref l]) Q E s := by
  subst hn
  exact len_strs N hm hi hz h
end
theorem lr_law {X : Str} {c : Cl} {tt : Tok} (ok : TextOk X c) :
    Claim w 12 387 [.str X tt] news
      (fun h₀ L m s Q _ => ∀ r dr l dn nl xs k1 k2 k3 t fr h' tk', Fr h₀ L h' m → News h₀ L h' ((dr, rdObj w l dn k1 k2 k3 (0 : Nat) t) :: (fr ++ news)) → ToksIn w fr r l dn dr nl xs ((wsOf X).map tokD) → (∀ q ∈ fr, ∀ p ∈ news, p.1 < q.1) → (∀ q ∈ fr, q.1 ≠ dr) → (∀ p ∈ news, p.1 < dr) → Q (.ref r) { s with heap := h', toks := tk' }) :=
  lreader_spec rfl ok.len ok.few (fun i x h => ok.ne x (List.mem_of_getElem? h)) (fun i d h => ok.short d (List.mem_of_getElem? h))

theorem perm_rd {h₀ h : Heap} {L : Addr} {a b c d e : Addr × Obj} {fr rest : List (Addr × Obj)} (N : News h₀ L h (a :: (fr ++ (b :: c :: d :: e :: rest)))) : News h₀ L h (a :: b :: c :: d :: e :: (fr ++ rest)) := fun z hz => by
  refine N z ?_
  simp only [List.mem_cons, List.mem_append] at hz ⊢
  rcases hz with h | h | h | h | h | h | h <;> simp [h]
theorem off_app {D : Addr} {o : Obj} {fr base rest : List (Addr × Obj)} (lt : ∀ q ∈ fr, ∀ p ∈ base, p.1 < q.1) (hm : (D, o) ∈ base) (off : ∀ q ∈ rest, q.1 ≠ D) : ∀ q ∈ fr ++ rest, q.1 ≠ D := fun q hq => by
  rcases List.mem_append.mp hq with hq | hq
  · exact Nat.ne_of_gt (lt q hq _ hm)
  · exact off q hq
theorem news5 {h₀ h : Heap} {L : Addr} {a b c d : Addr × Obj} {led rest : List (Addr × Obj)} (N : News h₀ L h led) (ha : a ∈ led) (hb : b ∈ led) (hc : c ∈ led) (hd : d ∈ led) (hr : ∀ z ∈ rest, z ∈ led) : News h₀ L h (a :: b :: c :: d :: rest) := fun z hz => by
  simp only [List.mem_cons] at hz
  rcases hz with rfl | rfl | rfl | rfl | hz
  · exact N _ ha
  · exact N _ hb
  · exact N _ hc
  · exact N _ hd
  · exact N _ (hr _ hz)
/-- the reader is made: what the turn then knows of its ledger -/
theorem turn_led {h₀ h : Heap} {L tp cl' du sp dsp I r dr l dn rc rc2 al al2 : Addr} {o1 o2 o3 o4 od : Obj} {n1 nl : Nat} {cs' : List Value} {xs ps ps2 : List Addr} {as : List (Str × Bool)} {ds : List TD} {fr rest : List (Addr × Obj)}
    (N : News h₀ L h ((dr, od) :: (fr ++ ((tp, o1) :: (I, o2) :: (dsp, o3) :: (du, o4) :: rest)))) (tk : ToksIn w fr r l dn dr nl xs ds)
    (lf : ∀ q ∈ fr, ∀ p ∈ (tp, o1) :: (I, o2) :: (dsp, o3) :: (du, o4) :: rest, p.1 < q.1) (ne : ∀ q ∈ fr, q.1 ≠ dr) (lt : ∀ p ∈ (tp, o1) :: (I, o2) :: (dsp, o3) :: (du, o4) :: rest, p.1 < dr)
    (hsp : (sp, instObj 47 dsp) ∈ rest) (hcl : (cl', W.listOf cs'.toArray n1) ∈ rest) (hrc : (rc, tup0) ∈ rest) (hrc2 : (rc2, tup0) ∈ rest) (hA : AltIn (hd.heap_350 w.params) rest al ps as) (hA2 : AltIn (hd.heap_350 w.params) rest al2 ps2 as)
    (off1 : ∀ q ∈ rest, q.1 ≠ dsp) (off2 : ∀ q ∈ rest, q.1 ≠ du) (off3 : ∀ q ∈ rest, q.1 ≠ tp) (offI : ∀ q ∈ rest, q.1 ≠ I) :
    ∃ rest', News h₀ L h ((dr, od) :: (dsp, o3) :: (du, o4) :: (tp, o1) :: (I, o2) :: rest') ∧ ToksIn w rest' r l dn dr nl xs ds ∧
      ((sp, instObj 47 dsp) ∈ rest' ∧ (cl', W.listOf cs'.toArray n1) ∈ rest' ∧ (rc, tup0) ∈ rest' ∧ (rc2, tup0) ∈ rest' ∧ (r, instObj 308 dr) ∈ rest') ∧ (AltIn (hd.heap_350 w.params) rest' al ps as ∧ AltIn (hd.heap_350 w.params) rest' al2 ps2 as) ∧
      ((∀ q ∈ rest', q.1 ≠ dsp) ∧ (∀ q ∈ rest', q.1 ≠ du) ∧ (∀ q ∈ rest', q.1 ≠ tp) ∧ (∀ q ∈ rest', q.1 ≠ I) ∧ (∀ q ∈ rest', q.1 ≠ dr)) ∧
      (@LT.lt Nat _ tp dr ∧ @LT.lt Nat _ I dr ∧ @LT.lt Nat _ dsp dr ∧ @LT.lt Nat _ du dr) := by
  have mr : ∀ {z}, z ∈ rest → z ∈ fr ++ rest := fun h => List.mem_append_right _ h
  have ml : ∀ {z}, z ∈ fr → z ∈ fr ++ rest := fun h => List.mem_append_left _ h
  refine ⟨fr ++ rest, fun z hz => N z ?_, tk.mono fun _ h => ml h, ⟨mr hsp, mr hcl, mr hrc, mr hrc2, ml tk.inst⟩, ⟨hA.mono fun _ h => mr h, hA2.mono fun _ h => mr h⟩, ⟨?_, ?_, ?_, ?_, fun q hq => ?_⟩, ?_⟩
  · simp only [List.mem_cons, List.mem_append] at hz ⊢
    rcases hz with h | h | h | h | h | h | h <;> simp [h]
  · exact off_app lf (.tail _ (.tail _ (.head _))) off1
  · exact off_app lf (.tail _ (.tail _ (.tail _ (.head _)))) off2
  · exact off_app lf (.head _) off3
  · exact off_app lf (.tail _ (.head _)) offI
  · rcases List.mem_append.mp hq with hq | hq
    · exact ne q hq
    · exact Nat.ne_of_lt (lt q (.tail _ (.tail _ (.tail _ (.tail _ hq)))))
  · exact ⟨lt _ (.head _), lt _ (.tail _ (.head _)), lt _ (.tail _ (.tail _ (.head _))), lt _ (.tail _ (.tail _ (.tail _ (.head _))))⟩
/-- ten values in a row, from their parts -/
theorem ten_of {K : Frag} {led : List (Addr × Obj)} {T al rc : Addr} {o orc : Obj} {n nrc : Nat} {ps : List Addr} {as : List (Str × Bool)} {x0 x1 x2 x3 x4 x6 x7 : Str} {t0 t1 t2 t3 t4 t6 t7 : Tok} (hm : (T, o) ∈ led) (hc : o.cls = .type "tuple") (hd : o.data = .seq #[.str x0 t0, .str x1 t1, .str x2 t2, .str x3 t3, .str x4 t4, .ref al, .str x6 t6, .str x7 t7, .bool false, .ref rc] n)
    (hA : AltIn K led al ps as) (hr : (rc, orc) ∈ led) (hrc : orc.cls = .type "tuple") (hrd : orc.data = .seq #[] nrc) : TenIn K led T x0 x1 x2 x3 x4 as x6 x7 :=
  ⟨o, n, al, ps, rc, orc, nrc, t0, t1, t2, t3, t4, t6, t7, hm, hc, hd, hA, hr, hrc, hrd⟩
/-- a turn of the law is done -/
theorem law_turn {h₀ h' : Heap} {L tp cl' du sp dsp I : Addr} {o : Obj} {y : Str} {stored : List Str} {m m' : Str → Option Value} {s₁ : Shared} {tk : Nat} {x0 : Str} {cs' : List Value} {n1 i : Nat} {j : Int} {led rest : List (Addr × Obj)}
    {c0 c1 c2 c3 c4 c5 c6 c7 c8 c9 : Tok} {x1 x2 x3 x4 x6 x7 : Str} {t0 t1 t2 t3 t4 t6 t7 u0 u1 u2 u3 u4 u6 u7 ta : Tok} {al al2 rc rc2 : Addr} {ps ps2 : List Addr} {as : List (Str × Bool)}
    (F : Fr h₀ L h' m') (N : News h₀ L h' led) (mI : (I, o) ∈ led) (mS : (dsp, spO w c0 c1 c2 c3 c4 c5 c6 c7 c8 c9 (.str x0 t0) (.str x1 t1) (.str x2 t2) (.str x3 t3) (.str x4 t4) (.ref al) (.str x6 t6) (.str x7 t7) (.bool false) (.ref rc)) ∈ led) (mD : (du, W.listOf #[.str x0 u0, .str x1 u1, .str x2 u2, .str x3 u3, .str x4 u4, .ref al2, .str x6 u6, .str x7 u7, .bool false, .ref rc2] 0) ∈ led) (mT : (tp, W.listOf #[Value.ref cl', Value.int j ta] 0) ∈ led) (hj : j = (i : Int) + 1 + 1) (hr : ∀ z ∈ rest, z ∈ led)
    (hsp : (sp, instObj 47 dsp) ∈ rest) (hcl : (cl', W.listOf cs'.toArray n1) ∈ rest) (hrc : (rc, tup0) ∈ rest) (hrc2 : (rc2, tup0) ∈ rest) (hA : AltIn (hd.heap_350 w.params) rest al ps as) (hA2 : AltIn (hd.heap_350 w.params) rest al2 ps2 as) (hz : as.length ≤ i + 1)
    (off1 : ∀ q ∈ rest, q.1 ≠ dsp) (off2 : ∀ q ∈ rest, q.1 ≠ du) (off3 : ∀ q ∈ rest, q.1 ≠ tp) (offI : ∀ q ∈ rest, q.1 ≠ I) (n1' : dsp ≠ I) (n2' : du ≠ I) (n3' : tp ≠ I)
    (so : PyData.strOk x1 = true ∧ PyData.strOk x2 = true ∧ PyData.strOk x3 = true ∧ PyData.strOk x4 = true ∧ PyData.strOk x6 = true ∧ PyData.strOk x7 = true ∧ ∀ a ∈ as, PyData.strOk a.1 = true)
    (hm : ∀ z, z ≠ y → stored.contains z = false → m' z = m z) :
    JEnd h₀ L y stored m I o (LawJ w tp cl' du sp dsp x0 cs' n1 (i + 1)) s₁ { s₁ with heap := h', toks := tk } := by
  subst hj
  have e : ((i : Int) + 1 + 1) = ((i + 1 : Nat) : Int) + 1 := by omega
  rw [e] at mT
  refine JEnd.intro F (news5 N mI mS mD mT hr) ?_ ⟨_, _, _, _, _, _, _, _, _, _, _, _, _, _, _, _, _, _, _, _, _, _, _, _, _, _, _, _, _, _, _, _, _, _, _, _, _, _, _, rfl, ⟨hsp, hcl, hrc, hrc2⟩, ⟨hA, hA2, hz⟩, off1, off2, off3, so⟩ hm
  exact List.forall_mem_cons.mpr ⟨n1', List.forall_mem_cons.mpr ⟨n2', List.forall_mem_cons.mpr ⟨n3', offI⟩⟩⟩

theorem said_46 : True := by
  k_with "binaryOp Add str str" => (k_here; (with_reducible show wpAny _ _ (binaryOp Operator.Add (Value.str _ _) (Value.str _ _)) _ _ _); (refine add_dot ?_ ?_); (assumption); intro _ _)
  k_with "call builtin:str.split" => (k_here; k_dflt (refine' split_row ?F9q7 ?N9q7 ?Z9q7 ?_; (case F9q7 => k_asm); (case N9q7 => k_asm); (case Z9q7 => assumption)); intro D' vs' h' k' a' F' N' l1; (try k_lt l1))
  k_with "call builtin:len" => (k_here; (with_reducible show wpAny _ _ (call (Value.builtin "len") [Value.ref _]) _ _ _); k_dflt (refine' len_row ?N9q7 ?M9q7 ?I9q7 ?H9q7 ?Z9q7 (fun t' tk' => ?_); (case N9q7 => k_asm); (case M9q7 => k_extra "mem"); (case I9q7 => assumption); (case H9q7 => assumption); (case Z9q7 => omega)))
  k_with "call ref" => (k_here; (with_reducible show wpAny _ _ (call (Value.ref 387) [Value.str _ _]) _ _ _); k_dflt (refine' lr_law ?Okq7 ?Bq7 ?Fq7 ?Xq7 ?Nq7 ?Tpq7 ?Cq7 ?Dq7 ?Uq7 (fun r9 dr9 l9 dn9 nl9 xs9 _ _ _ _ fr9 h9 tk99 F9 N9 tk9 lf9 ne9 lt9 => Stopped.out ?_); (case Nq7 => k_asm); (case Okq7 => first | assumption | exact RowOk.text (by assumption)); (case Bq7 => k_asm); (case Fq7 => k_asm); (case Xq7 => k_asm); (case Tpq7 => k_asm); (case Cq7 => first | exact rfl | assumption); (case Dq7 => ktr_room); (case Uq7 => ktr_units)))
  trivial
-- part C23

section
variable {prog : Program} {A : Around} {E : Value → Shared → Prop} {s : Shared} {h₀ : Heap} {L : Addr} {m : Str → Option Value} {P : Params}
theorem item_pair {value slice : PySem.Expr} {pa : Addr} {x : Str} {b : Bool} {u u1 : Tok} {k : Nat} {Q : Value → Shared → Prop} (F : Fr h₀ L s.heap m) (X : (hd.heap_350 P).In h₀) (hk : (hd.heap_350 P).lookup pa = some { cls := .type "tuple", data := .seq #[.str x u1, .bool b] k }) (h : Q (.str x u1) s)
    (hs : subscripted slice false (.ref pa) (.int 0 u) = operate [.ref pa, .int 0 u] (getItem (.ref pa) (.int 0 u)) := by with_unfolding_all rfl) (hg : ∀ r, letTemporaryGo value (.ref pa) r = pure () := by intro _; with_unfolding_all rfl) :
    wpAny (model prog w) A (subscriptTail value slice (.ref pa) (.int 0 u)) Q E s :=
  item_tuple ⟨_, F.keep _ _ (X _ _ hk), rfl, k, rfl⟩ (by decide) (by decide) rfl rfl h hs hg
/-- one more pair, of the written heap -/
theorem add_oneS {al t1 pr : Addr} {K : Frag} {ps : List Addr} {as : List (Str × Bool)} {x : Str} {b : Bool} {u : Tok} {n2 : Nat} {o1 : Obj} {led nw : List (Addr × Obj)} {Q : Value → Shared → Prop}
    (F : Fr h₀ L s.heap m) (N : News h₀ L s.heap ((t1, o1) :: led)) (hA : AltIn K nw al ps as) (hsub : ∀ q ∈ nw, q ∈ led) (h1 : o1.cls = .type "tuple") (h1d : ∃ n, o1.data = .seq #[.ref pr] n) (hk : K.lookup pr = some { cls := .type "tuple", data := .seq #[.str x u, .bool b] n2 })
    (hlt : AllLt t1 led) (hz : as.length ≤ 1000)
    (h : ∀ D oD h', Fr h₀ L h' m → News h₀ L h' ((D, oD) :: led) → AllLt D led → (∀ nw, AltIn K nw al ps as → AltIn K ((D, oD) :: nw) D (ps ++ [pr]) (as ++ [(x, b)])) → Q (.ref D) { s with heap := h' }) :
    wpAny (model prog w) A (binaryOp .Add (.ref al) (.ref t1)) Q E s := by
  obtain ⟨n1, e1⟩ := h1d
  obtain ⟨oa, ka, ha, hca, hda⟩ := hA.tup
  have hT : IsTup s.heap al (ps.map Value.ref).toArray := ⟨oa, (N _ (.tail _ (hsub _ ha))).1, hca, ka, hda⟩
  have hT1 : IsTup s.heap t1 ([Value.ref pr] : List Value).toArray := ⟨o1, (N _ (.head _)).1, h1, n1, e1⟩
  have hlen : ps.length ≤ 1000 := by rw [hA.len]; exact hz
  have more : ∀ D oD, oD.cls = .type "tuple" → (∃ n, oD.data = .seq ((ps ++ [pr]).map Value.ref).toArray n) → ∀ nw, AltIn K nw al ps as → AltIn K ((D, oD) :: nw) D (ps ++ [pr]) (as ++ [(x, b)]) := by
    rintro D oD hc ⟨n, hd⟩ nw hA
    refine ⟨⟨oD, n, .head _, hc, hd⟩, by simp [hA.len], fun i p c hp hb => ?_⟩
    rcases Nat.lt_or_ge i ps.length with hi | hi
    · rw [List.getElem?_append_left hi] at hp
      rw [List.getElem?_append_left (by rw [← hA.len]; exact hi)] at hb
      exact (hA.pairs i p c hp hb).mono fun q hq => .tail _ hq
    · rw [List.getElem?_append_right hi] at hp
      rw [List.getElem?_append_right (by rw [← hA.len]; exact hi)] at hb
      rw [hA.len] at hp
      cases hj : i - as.length with
      | zero =>
        rw [hj] at hp hb
        simp at hp hb
        subst hp hb
        exact ⟨_, u, n2, .inl hk, rfl, rfl⟩
      | succ j =>
        rw [hj] at hp
        simp at hp
  refine add_tuples F N hT hT1 (fun hv => ?_) (fun _ q => absurd q (by simp)) (fun _ _ h' F' N' => ?_) (by rw [sizeLine_eq]; simp; omega)
  · have hps : ps = [] := by simpa using hv
    subst hps
    exact h t1 o1 s.heap F N hlt (more t1 o1 h1 ⟨n1, by simpa using e1⟩)
  · refine h s.heap.objs.size ({ cls := .type "tuple", data := .seq (ps.map Value.ref ++ [Value.ref pr]).toArray } : Obj) h' F' (fun q hq => N' q ?_) (allLt_of fun q hq => Heap.lt_size (N q (.tail _ hq)).1) ?_
    · rcases List.mem_cons.mp hq with rfl | hq
      · exact .head _
      · exact .tail _ (.tail _ hq)
    · exact more _ _ rfl ⟨0, by simp⟩
/-- the place of a fault -/
theorem err_at {e de : Addr} {vs : Array Value} {x : Str} {q1 q2 tw : Tok} {pt : Addr} {expr : Bool} {Q : Value → Shared → Prop} (F : Fr h₀ L s.heap m) (X : (hd.heap_350 w.params).In h₀) (N : News h₀ L s.heap news) (h1 : (e, excV de vs) ∈ news) (h2 : (de, fObj w x q1 q2 tw pt) ∈ news)
    (h : ∀ tk, Q (.ref pt) { s with toks := tk }) : wpAny (model prog w) A (getAttr (.ref e) (Str.ofString "at") expr) Q E s :=
  gf_get (P := w.params) (ox := excV de vs) (od := some (fObj w x q1 q2 tw pt)) (Frag.In.keeps X F.keep) ⟨(N _ h1).1, rfl, rfl, (N _ h2).1⟩ (by kernel_rfl) rfl h
noncomputable def atD (i : Nat) : PyData := .tuple [.int ((i : Int) + 1), .int 12]
theorem at_reads {h : Heap} {pt : Addr} {i : Nat} {t3 t4 : Tok} (N : News h₀ L h news) (hm : (pt, atObj i t3 t4) ∈ news) : ∃ bs, Reads h (.ref pt) (atD i) bs :=
  ⟨_, reads_tuple_at (N _ hm).1 rfl rfl (.cons (.int _ _) (.cons (.int _ _) .nil))⟩
theorem at_reads2 {h : Heap} {pt : Addr} {o : Obj} {i : Nat} {j : Int} {t3 t4 : Tok} (N : News h₀ L h news) (hm : (pt, o) ∈ news) (hc : o.cls = .type "tuple") (hd : ∃ n, o.data = .seq #[.int j t3, .int 12 t4] n) (hj : j = (i : Int) + 1) : ∃ bs, Reads h (.ref pt) (atD i) bs := by
  subst hj
  obtain ⟨n, hd⟩ := hd
  exact ⟨_, reads_tuple_at (N _ hm).1 hc hd (.cons (.int _ _) (.cons (.int _ _) .nil))⟩
theorem at_shaped (i : Nat) : SeqAt.shaped (atD i) = true := by
  unfold SeqAt.shaped atD
  rw [Bool.and_eq_true]
  exact ⟨rfl, rfl⟩
theorem ne_at {pt t2 : Addr} {i : Nat} {j : Int} {o2 : Obj} {t3 t4 t5 t6 : Tok} {Q : Value → Shared → Prop} (N : News h₀ L s.heap news) (h1 : (pt, atObj i t3 t4) ∈ news) (h2 : (t2, o2) ∈ news) (hc : o2.cls = .type "tuple") (hd : ∃ n, o2.data = .seq #[.int j t5, .int 12 t6] n) (hj : j = (i : Int) + 1) (hu : A.units + 64 < cLine)
    (h : Q (.bool false) s) : wpAny (model prog w) A (compareOp .NotEq (.ref pt) (.ref t2)) Q E s := by
  obtain ⟨b1, r1⟩ := at_reads N h1
  obtain ⟨b2, r2⟩ := at_reads2 N h2 hc hd hj
  refine ne_dataH r1 r2 (at_shaped i) (at_shaped i) hu ?_
  rw [PySem.SeqAt.eqv_refl _ (SeqAt.canLay_of_shaped (at_shaped i))]
  exact h
theorem eq_at {pt t2 : Addr} {i : Nat} {j : Int} {o2 : Obj} {t3 t4 t5 t6 : Tok} {Q : Value → Shared → Prop} (N : News h₀ L s.heap news) (h1 : (pt, atObj i t3 t4) ∈ news) (h2 : (t2, o2) ∈ news) (hc : o2.cls = .type "tuple") (hd : ∃ n, o2.data = .seq #[.int j t5, .int 12 t6] n) (hj : j = (i : Int) + 1) (hu : A.units + 64 < cLine)
    (h : Q (.bool true) s) : wpAny (model prog w) A (compareOp .Eq (.ref pt) (.ref t2)) Q E s := by
  obtain ⟨b1, r1⟩ := at_reads N h1
  obtain ⟨b2, r2⟩ := at_reads2 N h2 hc hd hj
  refine eq_dataH r1 r2 (at_shaped i) (at_shaped i) hu ?_
  rw [PySem.SeqAt.eqv_refl _ (SeqAt.canLay_of_shaped (at_shaped i))]
  exact h
end

/-- one more alternate is told: what the turn then knows of its ledger -/
theorem alt_led {h₀ h : Heap} {L tp cl' du sp dsp I r dr rc rc2 al al2 al' D : Addr} {o o1 o2 oD : Obj} {a0 a1 a2 a3 a4 a5 a6 a7 a8 a9 b0 b1 : Value} {n1 : Nat} {cs' : List Value} {ps ps2 ps' ps3 : List Addr} {as as' : List (Str × Bool)} {led' news rest : List (Addr × Obj)}
    (N : News h₀ L h ((dr, o1) :: (dsp, o2) :: (led' ++ news))) (A1 : ∀ nw, AltIn (hd.heap_350 w.params) nw al ps as → AltIn (hd.heap_350 w.params) (led' ++ nw) al' ps' as') (A2 : ∀ nw, AltIn (hd.heap_350 w.params) nw al2 ps2 as → AltIn (hd.heap_350 w.params) ((D, oD) :: nw) D ps3 as')
    (lt : ∀ q ∈ led', ∀ p ∈ news, p.1 < q.1) (nr : ∀ q ∈ led', q.1 ≠ dr) (ns : ∀ q ∈ led', q.1 ≠ dsp)
    (mD : (D, oD) ∈ news) (mu : (du, W.listOf #[a0, a1, a2, a3, a4, a5, a6, a7, a8, a9] 0) ∈ news) (mt : (tp, W.listOf #[b0, b1] 0) ∈ news) (mI : (I, o) ∈ news) (hr : ∀ z ∈ rest, z ∈ news)
    (hsp : (sp, instObj 47 dsp) ∈ rest) (hcl : (cl', W.listOf cs'.toArray n1) ∈ rest) (hrc : (rc, tup0) ∈ rest) (hrc2 : (rc2, tup0) ∈ rest) (hri : (r, instObj 308 dr) ∈ rest) (hA : AltIn (hd.heap_350 w.params) rest al ps as) (hA2 : AltIn (hd.heap_350 w.params) rest al2 ps2 as)
    (off1 : ∀ q ∈ rest, q.1 ≠ dsp) (off2 : ∀ q ∈ rest, q.1 ≠ du) (off3 : ∀ q ∈ rest, q.1 ≠ tp) (offI : ∀ q ∈ rest, q.1 ≠ I) (offR : ∀ q ∈ rest, q.1 ≠ dr) (d1 : D ≠ dsp) (d2 : D ≠ du) (d3 : D ≠ tp) (d4 : D ≠ I) (d5 : D ≠ dr) :
    ∃ rest', News h₀ L h ((dr, o1) :: (dsp, o2) :: (du, W.listOf #[a0, a1, a2, a3, a4, a5, a6, a7, a8, a9] 0) :: (tp, W.listOf #[b0, b1] 0) :: (I, o) :: rest') ∧
      ((sp, instObj 47 dsp) ∈ rest' ∧ (cl', W.listOf cs'.toArray n1) ∈ rest' ∧ (rc, tup0) ∈ rest' ∧ (rc2, tup0) ∈ rest' ∧ (r, instObj 308 dr) ∈ rest') ∧ (AltIn (hd.heap_350 w.params) rest' al' ps' as' ∧ AltIn (hd.heap_350 w.params) rest' D ps3 as') ∧
      ((∀ q ∈ rest', q.1 ≠ dsp) ∧ (∀ q ∈ rest', q.1 ≠ du) ∧ (∀ q ∈ rest', q.1 ≠ tp) ∧ (∀ q ∈ rest', q.1 ≠ I) ∧ (∀ q ∈ rest', q.1 ≠ dr)) := by
  have mr : ∀ {z}, z ∈ rest → z ∈ led' ++ (D, oD) :: rest := fun h => List.mem_append_right _ (.tail _ h)
  have off : ∀ {X : Addr}, (∀ q ∈ led', q.1 ≠ X) → D ≠ X → (∀ q ∈ rest, q.1 ≠ X) → ∀ q ∈ led' ++ (D, oD) :: rest, q.1 ≠ X := fun h1 h2 h3 q hq => by
    rcases List.mem_append.mp hq with hq | hq
    · exact h1 q hq
    · rcases List.mem_cons.mp hq with rfl | hq
      · exact h2
      · exact h3 q hq
  have gt : ∀ {X : Addr} {ob : Obj}, (X, ob) ∈ news → ∀ q ∈ led', q.1 ≠ X := fun hm q hq => Nat.ne_of_gt (lt q hq _ hm)
  refine ⟨led' ++ (D, oD) :: rest, fun z hz => N z ?_, ⟨mr hsp, mr hcl, mr hrc, mr hrc2, mr hri⟩, ⟨A1 _ (hA.mono fun _ h => .tail _ h), (A2 _ hA2).mono fun _ h => List.mem_append_right _ h⟩, off ns d1 off1, off (gt mu) d2 off2, off (gt mt) d3 off3, off (gt mI) d4 offI, off nr d5 offR⟩
  simp only [List.mem_cons, List.mem_append] at hz ⊢
  rcases hz with h | h | h | h | h | h | h | h
  · simp [h]
  · simp [h]
  · exact .inr (.inr (.inr (h ▸ mu)))
  · exact .inr (.inr (.inr (h ▸ mt)))
  · exact .inr (.inr (.inr (h ▸ mI)))
  · simp [h]
  · exact .inr (.inr (.inr (h ▸ mD)))
  · exact .inr (.inr (.inr (hr _ h)))

theorem said_47 : True := by
  k_with "subscriptTail" => (k_here; (with_reducible show wpAny _ _ (subscriptTail _ _ (Value.ref _) (Value.int 0 _)) _ _ _); k_dflt (refine' item_pair ?F9q7 ?X9q7 ?L9q7 ?_ ?S9q7 ?G9q7; (case F9q7 => k_asm); (case X9q7 => k_asm); (case L9q7 => assumption); (case S9q7 => with_unfolding_all rfl); (case G9q7 => (intro _; with_unfolding_all rfl)); k_whole))
  k_with "k_alt" => exact AltIn.mono (by assumption) (by intro p hp; k_extra "mem")
  k_with "binaryOp Add ref ref" => (k_here; k_dflt (refine' add_oneS ?F9q7 ?N9q7 ?A9q7 ?S9q7 ?a9q7 ?b9q7 ?c9q7 ?L9q7 ?Z9q7 ?_; (case F9q7 => k_asm); (case N9q7 => assumption); (case A9q7 => assumption); (case S9q7 => (intro p hp; k_extra "mem")); (case a9q7 => exact rfl); (case b9q7 => exact ⟨_, rfl⟩); (case c9q7 => assumption); (case L9q7 => assumption); (case Z9q7 => assumption)); intro D' oD' h' F' N' l1' A'; (try simp only [AllLt] at l1'))
  k_with "getAttr ref" => (k_here; (with_reducible show wpAny _ _ (getAttr (Value.ref _) (PySem.Str.ofString "at") _) _ _ _); k_dflt (refine' err_at ?F9q7 ?X9q7 ?N9q7 ?a9q7 ?b9q7 (fun tk' => ?_); (case F9q7 => k_asm); (case X9q7 => k_asm); (case N9q7 => k_asm); (case a9q7 => k_extra "mem"); (case b9q7 => k_extra "mem")))
  k_with "compareOp NotEq ref ref" => (k_here; (with_reducible show wpAny _ _ (compareOp CmpOp.NotEq (Value.ref _) (Value.ref _)) _ _ _); k_dflt (refine' ne_at ?N9q7 ?H9q7 ?G9q7 ?c9q7 ?d9q7 ?j9q7 ?U9q7 ?_; (case N9q7 => k_asm); (case H9q7 => k_extra "mem"); (case G9q7 => k_extra "mem"); (case c9q7 => exact rfl); (case d9q7 => exact ⟨_, rfl⟩); (case j9q7 => omega); (case U9q7 => first | k_units | ktr_units)); k_whole)
  k_with "compareOp Eq ref ref" => (k_here; (with_reducible show wpAny _ _ (compareOp CmpOp.Eq (Value.ref _) (Value.ref _)) _ _ _); k_dflt (refine' eq_at ?N9q7 ?H9q7 ?G9q7 ?c9q7 ?d9q7 ?j9q7 ?U9q7 ?_; (case N9q7 => k_asm); (case H9q7 => k_extra "mem"); (case G9q7 => k_extra "mem"); (case c9q7 => exact rfl); (case d9q7 => exact ⟨_, rfl⟩); (case j9q7 => omega); (case U9q7 => first | k_units | ktr_units)); k_whole)
  k_with "noteFrame ref" => (k_here; k_dflt (refine' caughtD (P := World.params _) ?K9q7 ?F9q7 ?S9q7 ?R9q7 ?X9q7 ?T9q7 ?e9q7 ?_; (case R9q7 => assumption); (case K9q7 => assumption); (case F9q7 => assumption); (case S9q7 => assumption); (case X9q7 => k_asm); (case T9q7 => k_asm); (case e9q7 => k_is)); intro h' vs' tk' F' N')
  trivial
-- part C24

theorem told_specM {sp dsp : Addr} {c0 c1 c2 c3 c4 c5 c6 c7 c8 c9 : Tok} {x0 x1 x2 x3 x4 x6 x7 : Str} {t0 t1 t2 t3 t4 t6 t7 : Tok} {al rc : Addr} {nrc : Nat} (hsp : (sp, instObj 47 dsp) ∈ news) (hdd : (dsp, spO w c0 c1 c2 c3 c4 c5 c6 c7 c8 c9 (.str x0 t0) (.str x1 t1) (.str x2 t2) (.str x3 t3) (.str x4 t4) (.ref al) (.str x6 t6) (.str x7 t7) (.bool false) (.ref rc)) ∈ news) (hrc : (rc, ({ cls := .type "tuple", data := .seq #[] nrc } : Obj)) ∈ news) :
    ∀ {prog p : Program} {loose : List Str} {mean : ExcName → Option Value} {mg mb : Str → Option Value} {hv : Option Value} {dp un : Nat} {gd : Option (List Code)} {cn : Str} {cs : Scope} {a : Addr} {ccd : Value} {cl : List (Str × Addr)} {outer : List Env} {A₀ : Around} {base h₀ : Heap} {L : Addr} {m : Str → Option Value} {s : Shared} {Q E : Value → Shared → Prop},
    Below A₀ base outer h₀ → Fr h₀ L s.heap m → (hd.heap_350 w.params).In h₀ → News h₀ L s.heap news → Top p loose mean mg mb h₀ → cs.kind = .function → dp + 6 < recursionLimit → un + 48 < cLine →
    (∀ T h' tk', Fr h₀ L h' m → News h₀ L h' ((T, ({ cls := .type "tuple", data := .seq #[.str x0 t0, .str x1 t1, .str x2 t2, .str x3 t3, .str x4 t4, .ref al, .str x6 t6, .str x7 t7, .bool false, .ref rc] } : Obj)) :: news) → (∀ p ∈ news, p.1 < T) → Q (.ref T) { s with heap := h', toks := tk' }) →
      wpAny (model prog w) ({ handled := hv, depth := dp, frames := some (envX cn cs L a ccd cl :: outer), guards := gd, units := un } : Around) (call (.ref 44) [.ref sp]) Q E s := by
  intro prog p loose mean mg mb hv dp un gd cn cs a ccd cl outer A₀ base h₀ L m s Q E hB hF hX hN hTop hcs hdp hu hret
  refine wpAny_call ?_
  k_dflt cell_enter
  k_steps
  exact hret _ _ _ (by assumption) (drop4 (by assumption)) (lt_all (by assumption : _ ∧ _ ∧ _ ∧ _ ∧ AllLt _ _).2.2.2.2)

theorem said_48 : True := by
  k_with "call ref" => (k_here; (with_reducible show wpAny _ _ (call (Value.ref 44) [_]) _ _ _); k_dflt (refine' told_specM ?Sp9q7 ?Sd9q7 ?Rc9q7 ?Bq7 ?Fq7 ?Xq7 ?Nq7 ?Tpq7 ?Cq7 ?Dq7 ?Uq7 (fun T' h' tk' F' N' l1 => ?_); (case Nq7 => k_asm); (case Sp9q7 => k_extra "mem"); (case Sd9q7 => k_extra "mem"); (case Rc9q7 => k_extra "mem"); (case Bq7 => k_asm); (case Fq7 => k_asm); (case Xq7 => k_asm); (case Tpq7 => k_asm); (case Cq7 => first | exact rfl | assumption); (case Dq7 => ktr_room); (case Uq7 => ktr_units)); (try k_lt l1))
  k_with "call ref" => (k_here; (with_reducible show wpAny _ _ (call (Value.ref 44) [_]) _ _ _); k_dflt (refine' told_spec ?Sp9q7 ?Sd9q7 ?Rc9q7 ?Bq7 ?Fq7 ?Xq7 ?Nq7 ?Tpq7 ?Cq7 ?Dq7 ?Uq7 (fun T' h' tk' F' N' l1 => ?_); (case Nq7 => k_asm); (case Sp9q7 => k_extra "mem"); (case Sd9q7 => k_extra "mem"); (case Rc9q7 => k_extra "mem"); (case Bq7 => k_asm); (case Fq7 => k_asm); (case Xq7 => k_asm); (case Tpq7 => k_asm); (case Cq7 => first | exact rfl | assumption); (case Dq7 => ktr_room); (case Uq7 => ktr_units)); (try k_lt l1))
  k_with "compareOp NotEq ref ref" => (k_here; (with_reducible show wpAny _ _ (compareOp CmpOp.NotEq (Value.ref _) (Value.ref _)) _ _ _); k_dflt (refine' ne_ten (K := hd.heap_350 _) ?F9q7 ?X9q7 ?N9q7 ?H9q7 ?G9q7 ?S9q7 ?U9q7 ?_; (case F9q7 => k_asm); (case X9q7 => k_asm); (case N9q7 => k_asm); (case H9q7 => (refine' ten_of ?m8q7 ?c8q7 ?d8q7 ?A8q7 ?r8q7 ?e8q7 ?f8q7; (case m8q7 => k_extra "mem"); (case c8q7 => exact rfl); (case d8q7 => exact rfl); (case A8q7 => first | assumption | exact AltIn.mono (by assumption) (by intro p hp; k_extra "mem")); (case r8q7 => k_extra "mem"); (case e8q7 => exact rfl); (case f8q7 => exact rfl))); (case G9q7 => (refine' ten_of ?m8q7 ?c8q7 ?d8q7 ?A8q7 ?r8q7 ?e8q7 ?f8q7; (case m8q7 => k_extra "mem"); (case c8q7 => exact rfl); (case d8q7 => exact rfl); (case A8q7 => first | assumption | exact AltIn.mono (by assumption) (by intro p hp; k_extra "mem")); (case r8q7 => k_extra "mem"); (case e8q7 => exact rfl); (case f8q7 => exact rfl))); (case S9q7 => exact told_shaped (by assumption) (by assumption) (by assumption) (by assumption) (by assumption) (by assumption) (by assumption) (by assumption)); (case U9q7 => first | k_units | ktr_units)); k_whole)
  k_with "compareOp Eq ref ref" => (k_here; (with_reducible show wpAny _ _ (compareOp CmpOp.Eq (Value.ref _) (Value.ref _)) _ _ _); k_dflt (refine' eq_ten (K := hd.heap_350 _) ?F9q7 ?X9q7 ?N9q7 ?H9q7 ?G9q7 ?S9q7 ?U9q7 ?_; (case F9q7 => k_asm); (case X9q7 => k_asm); (case N9q7 => k_asm); (case H9q7 => (refine' ten_of ?m8q7 ?c8q7 ?d8q7 ?A8q7 ?r8q7 ?e8q7 ?f8q7; (case m8q7 => k_extra "mem"); (case c8q7 => exact rfl); (case d8q7 => exact rfl); (case A8q7 => first | assumption | exact AltIn.mono (by assumption) (by intro p hp; k_extra "mem")); (case r8q7 => k_extra "mem"); (case e8q7 => exact rfl); (case f8q7 => exact rfl))); (case G9q7 => (refine' ten_of ?m8q7 ?c8q7 ?d8q7 ?A8q7 ?r8q7 ?e8q7 ?f8q7; (case m8q7 => k_extra "mem"); (case c8q7 => exact rfl); (case d8q7 => exact rfl); (case A8q7 => first | assumption | exact AltIn.mono (by assumption) (by intro p hp; k_extra "mem")); (case r8q7 => k_extra "mem"); (case e8q7 => exact rfl); (case f8q7 => exact rfl))); (case S9q7 => exact told_shaped (by assumption) (by assumption) (by assumption) (by assumption) (by assumption) (by assumption) (by assumption) (by assumption)); (case U9q7 => first | k_units | ktr_units)); k_whole)
  trivial
-- part L5

theorem said_49 : True := by
  k_with "call ref" => (k_here; (with_reducible show wpAny _ _ (call (Value.ref 47) [_]) _ _ _); k_dflt (refine' fs_make ?Bq7 ?Fq7 ?Xq7 ?Nq7 ?Tpq7 ?Cq7 ?Dq7 ?Uq7 (fun sp' dsp' rc' al' _ _ _ _ _ _ _ _ _ _ _ _ _ _ _ _ h' tk' F' N' l1 l2 l3 l4 => ?_); (case Nq7 => k_asm); (case Bq7 => k_asm); (case Fq7 => k_asm); (case Xq7 => k_asm); (case Tpq7 => k_asm); (case Cq7 => first | exact rfl | assumption); (case Dq7 => ktr_room); (case Uq7 => ktr_units)); (have l5 := lt_tr l1 l2); (have l6 := ltN l2); (have l7 := ltN l3.1); (have l8 := ltN l3.2.1); (have l9 := ltN l4.1); (have l10 := ltN l4.2.1); (have l11 := ltN l4.2.2.1); (try k_lt l1); (try k_lt l5); (try simp only [AllLt, and_true] at l3); (try simp only [AllLt, and_true] at l4))
  trivial
/-- the cells of the tape: some ints -/
noncomputable def Cells (h₀ : Heap) (L : Addr) (m : Str → Option Value) (s : Shared) (v : Value) (s' : Shared) : Prop :=
  ∃ h' tk cl' cs' n2 ns, v = .ref cl' ∧ s' = { s with heap := h', toks := tk } ∧ Fr h₀ L h' m ∧ News h₀ L h' [(cl', W.listOf cs'.toArray n2)] ∧ IntsAre cs' ns ∧ 0 < ns.length ∧ ns.length ≤ 60
theorem Cells.intro {h₀ h' : Heap} {L cl' : Addr} {m : Str → Option Value} {s : Shared} {tk n2 : Nat} {cs' : List Value} {ns : List Int} {led : List (Addr × Obj)} (F : Fr h₀ L h' m) (N : News h₀ L h' led) (hm : (cl', W.listOf cs'.toArray n2) ∈ led) (hi : IntsAre cs' ns) (h1 : 0 < ns.length) (h2 : ns.length ≤ 60) :
    Cells h₀ L m s (.ref cl') { s with heap := h', toks := tk } := ⟨h', tk, cl', cs', n2, ns, rfl, rfl, F, fun p hp => by rw [List.mem_singleton.mp hp]; exact N _ hm, hi, h1, h2⟩
theorem cells_mono {M : Model} {A : Around} {x : Sem Value} {E : Value → Shared → Prop} {s : Shared} {Q : Value → Shared → Prop} {h₀ : Heap} {L : Addr} {m : Str → Option Value} (F : Fr h₀ L s.heap m) (h : wpAny M A x (Cells h₀ L m s) E s)
    (hq : ∀ h' tk cl' cs' n2 ns, Fr h₀ L h' m → News h₀ L h' [(cl', W.listOf cs'.toArray n2)] → IntsAre cs' ns → 0 < ns.length → ns.length ≤ 60 → Q (.ref cl') { s with heap := h', toks := tk }) : wpAny M A x Q E s :=
  wpAny_mono h (fun v s' ⟨h', tk, cl', cs', n2, ns, e1, e2, F', N, hi, h1, h2⟩ => by subst e1 e2; exact hq h' tk cl' cs' n2 ns F' N hi h1 h2) fun _ _ e => e
theorem said_50 : True := by
  k_with "eval BoolOp" => ((with_reducible show wpAny _ _ (eval (Expr.BoolOp _ [Expr.Call _ _ _ _, Expr.List _ _] _) _) _ _ _); (fail_if_success (with_reducible show wpAny _ _ _ (Cells _ _ _ _) _ _)); refine Stopped.out ?_)
  k_with "call ref" => (k_here; (with_reducible show wpAny _ _ (call (Value.ref 380) [_, Value.int _ _]) _ _ _); k_dflt (refine' draw_spec ?Pq7 ?Hcq7 ?Neq7 ?Hiq7 ?H1q7 ?H2q7 ?Haq7 ?Hmq7 ?Bq7 ?Fq7 ?Xq7 ?Nq7 ?Tpq7 ?Cq7 ?Dq7 ?Uq7 (fun r' tr' h' tk' ta' lr1' lr2' F' N' => ?_); (case Nq7 => k_asm); (case Pq7 => k_extra "k_pick"); (case Hcq7 => k_mem); (case Neq7 => k_all); (case Hiq7 => assumption); (case H1q7 => assumption); (case H2q7 => assumption); (case Haq7 => omega); (case Hmq7 => omega); (case Bq7 => k_asm); (case Fq7 => k_asm); (case Xq7 => k_asm); (case Tpq7 => k_asm); (case Cq7 => first | exact rfl | assumption); (case Dq7 => ktr_room); (case Uq7 => ktr_units)))
  k_with "subscriptTail" => (k_here; (with_reducible show wpAny _ _ (subscriptTail _ _ (Value.ref 365) (Value.int _ _)) _ _ _); k_dflt (refine' item_static (as := rowA) ?F9q7 ?X9q7 (rows_at _) ?L9q7 ?H9q7 ?Z9q7 (fun ra hra => Stopped.out ?_) ?S9q7 ?G9q7; (case F9q7 => k_asm); (case X9q7 => k_asm); (case L9q7 => omega); (case H9q7 => (show _ < ((19 : Nat) : Int); omega)); (case Z9q7 => decide); (case S9q7 => with_unfolding_all rfl); (case G9q7 => (intro _; with_unfolding_all rfl))))
  k_with "assign Tuple" => (k_here; (with_reducible show wpAny _ _ (assign (Expr.Tuple _ _ _) _ (Value.ref _)) _ _ _); k_dflt (refine' unpackK (K := hd.heap_350 _) ?F9q7 ?N9q7 ?X9q7 ?K9q7 ?c9q7 ?d9q7 ?h9q7 ?n9q7 ?s9q7 ?_; (case F9q7 => k_asm); (case N9q7 => k_asm); (case X9q7 => k_asm); (case K9q7 => assumption); (case c9q7 => exact rfl); (case d9q7 => exact rfl); (case h9q7 => exact rfl); (case n9q7 => exact rfl); (case s9q7 => exact rfl)); intro h' F' N')
  k_with "call ref" => ((with_reducible show wpAny _ _ (call (Value.ref 91) [_, _]) _ _ _); (refine Stopped.out ?_))
  k_with "call ref" => (k_here; (with_reducible show wpAny _ _ (call (Value.ref 91) [_, _]) _ _ _); k_dflt (refine' clause_assign ?P9q7 ?S9q7 ?Ii9q7 ?Sd9q7 ?Nd9q7 ?Ns9q7 ?T9q7 ?I9q7 ?G9q7 ?Al9q7 ?Az9q7 ?Hc9q7 ?Bq7 ?Fq7 ?Xq7 ?Nq7 ?Tpq7 ?Cq7 ?Dq7 ?Uq7 (fun h' tk' t' u' u2' F' N' => ?_); (case Nq7 => k_asm); (case Hc9q7 => assumption); (case P9q7 => k_extra "k_pick"); (case S9q7 => k_extra "k_pick"); (case Ii9q7 => k_extra "mem"); (case Sd9q7 => k_ne); (case Nd9q7 => k_all); (case Ns9q7 => k_all); (case T9q7 => exact ToksIn.mono (by assumption) (by intro p hp; k_extra "mem")); (case I9q7 => decide); (case G9q7 => assumption); (case Al9q7 => exact AltIn.mono (by assumption) (by intro p hp; k_extra "mem")); (case Az9q7 => omega); (case Bq7 => k_asm); (case Fq7 => k_asm); (case Xq7 => k_asm); (case Tpq7 => k_asm); (case Cq7 => first | exact rfl | assumption); (case Dq7 => ktr_room); (case Uq7 => ktr_units)))
  k_with "call ref" => (k_here; (with_reducible show wpAny _ _ (call (Value.ref 91) [_, _]) _ _ _); k_dflt (refine' clause_acc ?P9q7 ?S9q7 ?Ii9q7 ?Sd9q7 ?Nd9q7 ?Ns9q7 ?T9q7 ?I9q7 ?G9q7 ?Al9q7 ?Az9q7 ?Hc9q7 ?Bq7 ?Fq7 ?Xq7 ?Nq7 ?Tpq7 ?Cq7 ?Dq7 ?Uq7 (fun h' tk' t' u' u2' F' N' => ?_); (case Nq7 => k_asm); (case Hc9q7 => assumption); (case P9q7 => k_extra "k_pick"); (case S9q7 => k_extra "k_pick"); (case Ii9q7 => k_extra "mem"); (case Sd9q7 => k_ne); (case Nd9q7 => k_all); (case Ns9q7 => k_all); (case T9q7 => exact ToksIn.mono (by assumption) (by intro p hp; k_extra "mem")); (case I9q7 => decide); (case G9q7 => assumption); (case Al9q7 => exact AltIn.mono (by assumption) (by intro p hp; k_extra "mem")); (case Az9q7 => omega); (case Bq7 => k_asm); (case Fq7 => k_asm); (case Xq7 => k_asm); (case Tpq7 => k_asm); (case Cq7 => first | exact rfl | assumption); (case Dq7 => ktr_room); (case Uq7 => ktr_units)))
  k_with "call ref" => (k_here; (with_reducible show wpAny _ _ (call (Value.ref 91) [_, _]) _ _ _); k_dflt (refine' clause_key ?P9q7 ?S9q7 ?Ii9q7 ?Sd9q7 ?Nd9q7 ?Ns9q7 ?T9q7 ?I9q7 ?G9q7 ?Al9q7 ?Az9q7 ?Hc9q7 ?Bq7 ?Fq7 ?Xq7 ?Nq7 ?Tpq7 ?Cq7 ?Dq7 ?Uq7 (fun h' tk' t' u' u2' F' N' => ?_); (case Nq7 => k_asm); (case Hc9q7 => assumption); (case P9q7 => k_extra "k_pick"); (case S9q7 => k_extra "k_pick"); (case Ii9q7 => k_extra "mem"); (case Sd9q7 => k_ne); (case Nd9q7 => k_all); (case Ns9q7 => k_all); (case T9q7 => exact ToksIn.mono (by assumption) (by intro p hp; k_extra "mem")); (case I9q7 => decide); (case G9q7 => assumption); (case Al9q7 => exact AltIn.mono (by assumption) (by intro p hp; k_extra "mem")); (case Az9q7 => omega); (case Bq7 => k_asm); (case Fq7 => k_asm); (case Xq7 => k_asm); (case Tpq7 => k_asm); (case Cq7 => first | exact rfl | assumption); (case Dq7 => ktr_room); (case Uq7 => ktr_units)))
  k_with "call ref" => (k_here; (with_reducible show wpAny _ _ (call (Value.ref 91) [_, _]) _ _ _); k_dflt (refine' clause_status ?P9q7 ?S9q7 ?Ii9q7 ?Sd9q7 ?Nd9q7 ?Ns9q7 ?T9q7 ?I9q7 ?G9q7 ?Al9q7 ?Az9q7 ?Hc9q7 ?Bq7 ?Fq7 ?Xq7 ?Nq7 ?Tpq7 ?Cq7 ?Dq7 ?Uq7 (fun h' tk' t' u' u2' F' N' => ?_); (case Nq7 => k_asm); (case Hc9q7 => assumption); (case P9q7 => k_extra "k_pick"); (case S9q7 => k_extra "k_pick"); (case Ii9q7 => k_extra "mem"); (case Sd9q7 => k_ne); (case Nd9q7 => k_all); (case Ns9q7 => k_all); (case T9q7 => exact ToksIn.mono (by assumption) (by intro p hp; k_extra "mem")); (case I9q7 => decide); (case G9q7 => assumption); (case Al9q7 => exact AltIn.mono (by assumption) (by intro p hp; k_extra "mem")); (case Az9q7 => omega); (case Bq7 => k_asm); (case Fq7 => k_asm); (case Xq7 => k_asm); (case Tpq7 => k_asm); (case Cq7 => first | exact rfl | assumption); (case Dq7 => ktr_room); (case Uq7 => ktr_units)))
  k_with "call ref" => (k_here; (with_reducible show wpAny _ _ (call (Value.ref 91) [_, _]) _ _ _); k_dflt (refine' clause_rel ?P9q7 ?S9q7 ?Ii9q7 ?Sd9q7 ?Nd9q7 ?Ns9q7 ?T9q7 ?I9q7 ?G9q7 ?Al9q7 ?Az9q7 ?Hc9q7 ?Bq7 ?Fq7 ?Xq7 ?Nq7 ?Tpq7 ?Cq7 ?Dq7 ?Uq7 (fun h' tk' t' u' u2' F' N' => ?_); (case Nq7 => k_asm); (case Hc9q7 => assumption); (case P9q7 => k_extra "k_pick"); (case S9q7 => k_extra "k_pick"); (case Ii9q7 => k_extra "mem"); (case Sd9q7 => k_ne); (case Nd9q7 => k_all); (case Ns9q7 => k_all); (case T9q7 => exact ToksIn.mono (by assumption) (by intro p hp; k_extra "mem")); (case I9q7 => decide); (case G9q7 => assumption); (case Al9q7 => exact AltIn.mono (by assumption) (by intro p hp; k_extra "mem")); (case Az9q7 => omega); (case Bq7 => k_asm); (case Fq7 => k_asm); (case Xq7 => k_asm); (case Tpq7 => k_asm); (case Cq7 => first | exact rfl | assumption); (case Dq7 => ktr_room); (case Uq7 => ktr_units)))
  k_with "call ref" => (k_here; (with_reducible show wpAny _ _ (call (Value.ref 91) [_, _]) _ _ _); k_dflt (refine' clause_org ?P9q7 ?S9q7 ?Ii9q7 ?Sd9q7 ?Nd9q7 ?Ns9q7 ?T9q7 ?I9q7 ?G9q7 ?Al9q7 ?Az9q7 ?Hc9q7 ?Bq7 ?Fq7 ?Xq7 ?Nq7 ?Tpq7 ?Cq7 ?Dq7 ?Uq7 (fun h' tk' t' u' u2' F' N' => ?_); (case Nq7 => k_asm); (case Hc9q7 => assumption); (case P9q7 => k_extra "k_pick"); (case S9q7 => k_extra "k_pick"); (case Ii9q7 => k_extra "mem"); (case Sd9q7 => k_ne); (case Nd9q7 => k_all); (case Ns9q7 => k_all); (case T9q7 => exact ToksIn.mono (by assumption) (by intro p hp; k_extra "mem")); (case I9q7 => decide); (case G9q7 => assumption); (case Al9q7 => exact AltIn.mono (by assumption) (by intro p hp; k_extra "mem")); (case Az9q7 => omega); (case Bq7 => k_asm); (case Fq7 => k_asm); (case Xq7 => k_asm); (case Tpq7 => k_asm); (case Cq7 => first | exact rfl | assumption); (case Dq7 => ktr_room); (case Uq7 => ktr_units)))
  k_with "call ref" => (k_here; (with_reducible show wpAny _ _ (call (Value.ref 91) [_, _]) _ _ _); k_dflt (refine' clause_alt ?P9q7 ?S9q7 ?Ii9q7 ?Sd9q7 ?Nd9q7 ?Ns9q7 ?T9q7 ?I9q7 ?G9q7 ?Al9q7 ?Az9q7 ?Hc9q7 ?Hn9q7 ?Bq7 ?Fq7 ?Xq7 ?Nq7 ?Tpq7 ?Cq7 ?Dq7 ?Uq7 (fun al9 ps9 led9 h9 tk99 t9 u29 F9 N9 A9 lt9 nr9 ns9 => Stopped.out ?_); (case Nq7 => k_asm); (case Hc9q7 => assumption); (case Hn9q7 => assumption); (case P9q7 => k_extra "k_pick"); (case S9q7 => k_extra "k_pick"); (case Ii9q7 => k_extra "mem"); (case Sd9q7 => k_ne); (case Nd9q7 => k_all); (case Ns9q7 => k_all); (case T9q7 => exact ToksIn.mono (by assumption) (by intro p hp; k_extra "mem")); (case I9q7 => decide); (case G9q7 => assumption); (case Al9q7 => exact AltIn.mono (by assumption) (by intro p hp; k_extra "mem")); (case Az9q7 => omega); (case Bq7 => k_asm); (case Fq7 => k_asm); (case Xq7 => k_asm); (case Tpq7 => k_asm); (case Cq7 => first | exact rfl | assumption); (case Dq7 => ktr_room); (case Uq7 => ktr_units)))
  k_with "call ref" => (k_here; (with_reducible show wpAny _ _ (call (Value.ref 91) [_, _]) _ _ _); k_dflt (refine' clause_dup ?P9q7 ?S9q7 ?Ii9q7 ?Sd9q7 ?Nd9q7 ?Ns9q7 ?T9q7 ?I9q7 ?G9q7 ?Al9q7 ?Az9q7 ?Hc9q7 ?Hn9q7 ?Bq7 ?Fq7 ?Xq7 ?Nq7 ?Tpq7 ?Cq7 ?Dq7 ?Uq7 (fun jr' tr' g' e' de' x' q1' q2' tw' pt' u3' u4' h' tk' pm' F' R' U' => ?_); (case Nq7 => k_asm); (case Hc9q7 => assumption); (case Hn9q7 => assumption); (case P9q7 => k_extra "k_pick"); (case S9q7 => k_extra "k_pick"); (case Ii9q7 => k_extra "mem"); (case Sd9q7 => k_ne); (case Nd9q7 => k_all); (case Ns9q7 => k_all); (case T9q7 => exact ToksIn.mono (by assumption) (by intro p hp; k_extra "mem")); (case I9q7 => decide); (case G9q7 => assumption); (case Al9q7 => exact AltIn.mono (by assumption) (by intro p hp; k_extra "mem")); (case Az9q7 => omega); (case Bq7 => k_asm); (case Fq7 => k_asm); (case Xq7 => k_asm); (case Tpq7 => k_asm); (case Cq7 => first | exact rfl | assumption); (case Dq7 => ktr_room); (case Uq7 => ktr_units)))
  k_with "subscriptTail" => (k_here; (with_reducible show wpAny _ _ (subscriptTail _ _ (Value.ref 373) (Value.int _ _)) _ _ _); k_dflt (refine' item_static (as := wrongA) ?F9q7 ?X9q7 (wrongs_at _) ?L9q7 ?H9q7 ?Z9q7 (fun ra hra => Stopped.out ?_) ?S9q7 ?G9q7; (case F9q7 => k_asm); (case X9q7 => k_asm); (case L9q7 => omega); (case H9q7 => (show _ < ((7 : Nat) : Int); omega)); (case Z9q7 => decide); (case S9q7 => with_unfolding_all rfl); (case G9q7 => (intro _; with_unfolding_all rfl))))
  k_with "call ref" => (k_here; (with_reducible show wpAny _ _ (call (Value.ref 91) [_, _]) _ _ _); k_dflt (refine' clause_bad ?P9q7 ?S9q7 ?Ii9q7 ?Sd9q7 ?Nd9q7 ?Ns9q7 ?T9q7 ?I9q7 ?G9q7 ?Al9q7 ?Az9q7 ?Hc9q7 ?Bq7 ?Fq7 ?Xq7 ?Nq7 ?Tpq7 ?Cq7 ?Dq7 ?Uq7 (fun jr' tr' g' e' de' x' q1' q2' tw' pt' u3' u4' h' tk' pm' F' R' U' => ?_); (case Nq7 => k_asm); (case Hc9q7 => assumption); (case P9q7 => k_extra "k_pick"); (case S9q7 => k_extra "k_pick"); (case Ii9q7 => k_extra "mem"); (case Sd9q7 => k_ne); (case Nd9q7 => k_all); (case Ns9q7 => k_all); (case T9q7 => exact ToksIn.mono (by assumption) (by intro p hp; k_extra "mem")); (case I9q7 => decide); (case G9q7 => assumption); (case Al9q7 => exact AltIn.mono (by assumption) (by intro p hp; k_extra "mem")); (case Az9q7 => omega); (case Bq7 => k_asm); (case Fq7 => k_asm); (case Xq7 => k_asm); (case Tpq7 => k_asm); (case Cq7 => first | exact rfl | assumption); (case Dq7 => ktr_room); (case Uq7 => ktr_units)))
  trivial
theorem allLt_off {D : Addr} {rest : List (Addr × Obj)} (h : AllLt D rest) : ∀ q ∈ rest, q.1 ≠ D := fun q hq => Nat.ne_of_lt (lt_all h q hq)
theorem stored7 {a b c d e f g y : Str} (h : [a, b, c, d, e, f, g].contains y = false) : y ≠ a ∧ y ≠ b ∧ y ≠ c ∧ y ≠ d ∧ y ≠ e ∧ y ≠ f ∧ y ≠ g := by
  simp at h
  exact h
theorem perm9 {h₀ h : Heap} {L : Addr} {a b c d e f g i j : Addr × Obj} (N : News h₀ L h [a, b, c, d, e, f, g, i, j]) : News h₀ L h (i :: b :: a :: [c, d, e, f, g, j]) := fun z hz => by
  refine N z ?_
  simp only [List.mem_cons] at hz ⊢
  rcases hz with h | h | h | h | h | h | h | h | h | h <;> simp_all
set_option maxHeartbeats 0 in
theorem law_holds : PySem.Challenge.rw_pb0261_01.Holds := hd9 (walkX_of_O (K := hd.heap_350) (fun P => by kernel_rfl) (by
  k_fill
  intro w s₀ s₁ mg mb G KX fa o pm cd doc dV kV ho hd hcd hD hmg hg args vals as hpre hlay hrd hwl hlo
  k_behind G ho hd hcd hD hmg hpre hlay hrd hwl hlo cd
  all_goals try k_fold
  k_steps
  unfold Stopped
  refine cells_mono (by k_asm) ?_ ?_
  · k_steps
    · refine Cells.intro (by assumption) (by assumption) (by k_mem) (by assumption) (by assumption) ?_
      have := (by assumption : (List.take 30 _).length = min 30 _)
      omega
    · exact Cells.intro (by assumption) (by assumption) (List.Mem.head _) (.cons 3 _ .nil) (by decide) (by decide)
  intro h1 tk1 cl1 cs1 n1 ns1 F1 N1 hi1 hn1 hn2
  k_steps
  unfold Stopped
  rename_i lr1 lr2 _ _ _ _ _ _ _ _ hR F2 N2 _
  refine iter_rangeJ [Str.ofString "text", Str.ofString "word", Str.ofString "place", Str.ofString "worth", Str.ofString "reader", Str.ofString "size", Str.ofString "error"] (LawJ w _ _ _ _ _ _ _ _) rfl hR (Int.toNat_of_nonneg ?nn).symm ?hn F2 (perm9 N2) ⟨_, _, _, _, _, _, _, _, _, _, _, _, _, _, _, _, _, _, _, _, _, _, _, _, _, _, _, _, _, _, _, _, _, _, _, _, _, _, _, rfl, ⟨by k_mem, by k_mem, by k_mem, by k_mem⟩, ⟨altIn_nil (by k_mem), altIn_nil (by k_mem), Nat.le_refl 0⟩, ?off1, ?off2, ?off3, by decide +kernel, by decide +kernel, by decide +kernel, by decide +kernel, by decide +kernel, by decide +kernel, fun a ha => nomatch ha⟩ ?turn ?done
  case off1 => k_all
  case off2 => k_all
  case off3 => k_all
  case nn => omega
  case hn => omega
  case turn =>
    intro I i t u news₁ h tk o hi hJ hoff F₁ N₁
    obtain ⟨c0, c1, c2, c3, c4, c5, c6, c7, c8, c9, x1, x2, x3, x4, x6, x7, t0, t1, t2, t3, t4, t6, t7, u0, u1, u2, u3, u4, u6, u7, ta, al, al2, rc, rc2, ps, ps2, as, rest, rfl, ⟨hsp, hcl, hrc, hrc2⟩, ⟨hA, hA2, hz⟩, off1, off2, off3, so1, so2, so3, so4, so6, so7, soa⟩ := hJ
    have nI1 := neN (hoff _ (.head _))
    have nI2 := neN (hoff _ (.tail _ (.head _)))
    have nI3 := neN (hoff _ (.tail _ (.tail _ (.head _))))
    dsimp only at nI1 nI2 nI3
    have offI := fun q hq => hoff q (.tail _ (.tail _ (.tail _ hq)))
    clear hoff
    k_steps
    unfold Stopped
    rcases row_g w.params _ _ hra with ⟨T, x, tx, n, ⟨a1, a2, a3, a4, hrow⟩, ok, so⟩ | ⟨T, x, tx, n, ⟨a1, a2, a3, a4, hrow⟩, ok, so⟩ | ⟨T, x, tx, n, ⟨a1, a2, a3, a4, hrow⟩, ok, so⟩ | ⟨T, x, tx, n, ⟨a1, a2, a3, a4, hrow⟩, ok, so⟩ | ⟨T, x, tx, n, ⟨a1, a2, a3, a4, hrow⟩, ok, so⟩ | ⟨T, x, tx, n, ⟨a1, a2, a3, a4, hrow⟩, ok, so⟩ | ⟨T, x, b, pa, n, ⟨a1, a2, a3, a4, hrow⟩, ⟨b1, b2, hpair⟩, ok, so⟩
    · have hT1 := ok.len
      have hT2 := ok.size
      have hn1 : n ≤ 99 := by
        have e1 := ok.text.few
        have e2 := ok.size2
        omega
      k_steps
      unfold Stopped
      obtain ⟨rest9, N10, tk10, ⟨hsp', hcl', hrc', hrc2', hri⟩, ⟨hA', hA2'⟩, ⟨o1', o2', o3', oI', oR'⟩, ⟨g1, g2, g3, g4⟩⟩ := turn_led N9 tk9 lf9 ne9 lt9 hsp hcl hrc hrc2 hA hA2 off1 off2 off3 offI
      clear N9 tk9 lf9 ne9 lt9 hsp hcl hrc hrc2 hA hA2 off1 off2 off3 offI hrow
      have hc9 := ok.text.clause
      have hp9 : 0 < ((wsOf (dotT T)).map tokD).length := by
        rw [List.length_map]
        exact ok.text.some
      have hz9 : as.length ≤ 100 := by omega
      have soF : PyData.strOk (Str.ofString "F") = true := by decide +kernel
      k_steps
      · exact absurd rfl (by assumption)
      · show JEnd _ _ _ _ _ _ _ _ _ _
        exact law_turn (by assumption) (by assumption) (by k_extra "mem") (by k_extra "mem") (by k_extra "mem") (by k_extra "mem") rfl (by intro z hz; k_extra "mem") hsp' hcl' hrc' hrc2' hA' hA2' (by omega) o1' o2' o3' oI' nI1 nI2 nI3 ⟨by assumption, by assumption, by assumption, by assumption, by assumption, by assumption, soa⟩ (fun z hz hs => by have e := stored7 hs; simp only [if_neg e.1, if_neg e.2.1, if_neg e.2.2.1, if_neg e.2.2.2.1, if_neg e.2.2.2.2.1, if_neg e.2.2.2.2.2.1, if_neg e.2.2.2.2.2.2, if_neg hz, hs, Bool.false_eq_true, if_false])
    · have hT1 := ok.len
      have hT2 := ok.size
      have hn1 : n ≤ 99 := by
        have e1 := ok.text.few
        have e2 := ok.size2
        omega
      k_steps
      unfold Stopped
      obtain ⟨rest9, N10, tk10, ⟨hsp', hcl', hrc', hrc2', hri⟩, ⟨hA', hA2'⟩, ⟨o1', o2', o3', oI', oR'⟩, ⟨g1, g2, g3, g4⟩⟩ := turn_led N9 tk9 lf9 ne9 lt9 hsp hcl hrc hrc2 hA hA2 off1 off2 off3 offI
      clear N9 tk9 lf9 ne9 lt9 hsp hcl hrc hrc2 hA hA2 off1 off2 off3 offI hrow
      have hc9 := ok.text.clause
      have hp9 : 0 < ((wsOf (dotT T)).map tokD).length := by
        rw [List.length_map]
        exact ok.text.some
      have hz9 : as.length ≤ 100 := by omega
      have soF : PyData.strOk (Str.ofString "F") = true := by decide +kernel
      k_steps
      · exact absurd rfl (by assumption)
      · show JEnd _ _ _ _ _ _ _ _ _ _
        exact law_turn (by assumption) (by assumption) (by k_extra "mem") (by k_extra "mem") (by k_extra "mem") (by k_extra "mem") rfl (by intro z hz; k_extra "mem") hsp' hcl' hrc' hrc2' hA' hA2' (by omega) o1' o2' o3' oI' nI1 nI2 nI3 ⟨by assumption, by assumption, by assumption, by assumption, by assumption, by assumption, soa⟩ (fun z hz hs => by have e := stored7 hs; simp only [if_neg e.1, if_neg e.2.1, if_neg e.2.2.1, if_neg e.2.2.2.1, if_neg e.2.2.2.2.1, if_neg e.2.2.2.2.2.1, if_neg e.2.2.2.2.2.2, if_neg hz, hs, Bool.false_eq_true, if_false])
    · have hT1 := ok.len
      have hT2 := ok.size
      have hn1 : n ≤ 99 := by
        have e1 := ok.text.few
        have e2 := ok.size2
        omega
      k_steps
      unfold Stopped
      obtain ⟨rest9, N10, tk10, ⟨hsp', hcl', hrc', hrc2', hri⟩, ⟨hA', hA2'⟩, ⟨o1', o2', o3', oI', oR'⟩, ⟨g1, g2, g3, g4⟩⟩ := turn_led N9 tk9 lf9 ne9 lt9 hsp hcl hrc hrc2 hA hA2 off1 off2 off3 offI
      clear N9 tk9 lf9 ne9 lt9 hsp hcl hrc hrc2 hA hA2 off1 off2 off3 offI hrow
      have hc9 := ok.text.clause
      have hp9 : 0 < ((wsOf (dotT T)).map tokD).length := by
        rw [List.length_map]
        exact ok.text.some
      have hz9 : as.length ≤ 100 := by omega
      have soF : PyData.strOk (Str.ofString "F") = true := by decide +kernel
      k_steps
      · exact absurd rfl (by assumption)
      · show JEnd _ _ _ _ _ _ _ _ _ _
        exact law_turn (by assumption) (by assumption) (by k_extra "mem") (by k_extra "mem") (by k_extra "mem") (by k_extra "mem") rfl (by intro z hz; k_extra "mem") hsp' hcl' hrc' hrc2' hA' hA2' (by omega) o1' o2' o3' oI' nI1 nI2 nI3 ⟨by assumption, by assumption, by assumption, by assumption, by assumption, by assumption, soa⟩ (fun z hz hs => by have e := stored7 hs; simp only [if_neg e.1, if_neg e.2.1, if_neg e.2.2.1, if_neg e.2.2.2.1, if_neg e.2.2.2.2.1, if_neg e.2.2.2.2.2.1, if_neg e.2.2.2.2.2.2, if_neg hz, hs, Bool.false_eq_true, if_false])
    · have hT1 := ok.len
      have hT2 := ok.size
      have hn1 : n ≤ 99 := by
        have e1 := ok.text.few
        have e2 := ok.size2
        omega
      k_steps
      unfold Stopped
      obtain ⟨rest9, N10, tk10, ⟨hsp', hcl', hrc', hrc2', hri⟩, ⟨hA', hA2'⟩, ⟨o1', o2', o3', oI', oR'⟩, ⟨g1, g2, g3, g4⟩⟩ := turn_led N9 tk9 lf9 ne9 lt9 hsp hcl hrc hrc2 hA hA2 off1 off2 off3 offI
      clear N9 tk9 lf9 ne9 lt9 hsp hcl hrc hrc2 hA hA2 off1 off2 off3 offI hrow
      have hc9 := ok.text.clause
      have hp9 : 0 < ((wsOf (dotT T)).map tokD).length := by
        rw [List.length_map]
        exact ok.text.some
      have hz9 : as.length ≤ 100 := by omega
      have soF : PyData.strOk (Str.ofString "F") = true := by decide +kernel
      k_steps
      · exact absurd rfl (by assumption)
      · show JEnd _ _ _ _ _ _ _ _ _ _
        exact law_turn (by assumption) (by assumption) (by k_extra "mem") (by k_extra "mem") (by k_extra "mem") (by k_extra "mem") rfl (by intro z hz; k_extra "mem") hsp' hcl' hrc' hrc2' hA' hA2' (by omega) o1' o2' o3' oI' nI1 nI2 nI3 ⟨by assumption, by assumption, by assumption, by assumption, by assumption, by assumption, soa⟩ (fun z hz hs => by have e := stored7 hs; simp only [if_neg e.1, if_neg e.2.1, if_neg e.2.2.1, if_neg e.2.2.2.1, if_neg e.2.2.2.2.1, if_neg e.2.2.2.2.2.1, if_neg e.2.2.2.2.2.2, if_neg hz, hs, Bool.false_eq_true, if_false])
    · have hT1 := ok.len
      have hT2 := ok.size
      have hn1 : n ≤ 99 := by
        have e1 := ok.text.few
        have e2 := ok.size2
        omega
      k_steps
      unfold Stopped
      obtain ⟨rest9, N10, tk10, ⟨hsp', hcl', hrc', hrc2', hri⟩, ⟨hA', hA2'⟩, ⟨o1', o2', o3', oI', oR'⟩, ⟨g1, g2, g3, g4⟩⟩ := turn_led N9 tk9 lf9 ne9 lt9 hsp hcl hrc hrc2 hA hA2 off1 off2 off3 offI
      clear N9 tk9 lf9 ne9 lt9 hsp hcl hrc hrc2 hA hA2 off1 off2 off3 offI hrow
      have hc9 := ok.text.clause
      have hp9 : 0 < ((wsOf (dotT T)).map tokD).length := by
        rw [List.length_map]
        exact ok.text.some
      have hz9 : as.length ≤ 100 := by omega
      have soF : PyData.strOk (Str.ofString "F") = true := by decide +kernel
      k_steps
      · exact absurd rfl (by assumption)
      · show JEnd _ _ _ _ _ _ _ _ _ _
        exact law_turn (by assumption) (by assumption) (by k_extra "mem") (by k_extra "mem") (by k_extra "mem") (by k_extra "mem") rfl (by intro z hz; k_extra "mem") hsp' hcl' hrc' hrc2' hA' hA2' (by omega) o1' o2' o3' oI' nI1 nI2 nI3 ⟨by assumption, by assumption, by assumption, by assumption, by assumption, by assumption, soa⟩ (fun z hz hs => by have e := stored7 hs; simp only [if_neg e.1, if_neg e.2.1, if_neg e.2.2.1, if_neg e.2.2.2.1, if_neg e.2.2.2.2.1, if_neg e.2.2.2.2.2.1, if_neg e.2.2.2.2.2.2, if_neg hz, hs, Bool.false_eq_true, if_false])
    · have hT1 := ok.len
      have hT2 := ok.size
      have hn1 : n ≤ 99 := by
        have e1 := ok.text.few
        have e2 := ok.size2
        omega
      k_steps
      unfold Stopped
      obtain ⟨rest9, N10, tk10, ⟨hsp', hcl', hrc', hrc2', hri⟩, ⟨hA', hA2'⟩, ⟨o1', o2', o3', oI', oR'⟩, ⟨g1, g2, g3, g4⟩⟩ := turn_led N9 tk9 lf9 ne9 lt9 hsp hcl hrc hrc2 hA hA2 off1 off2 off3 offI
      clear N9 tk9 lf9 ne9 lt9 hsp hcl hrc hrc2 hA hA2 off1 off2 off3 offI hrow
      have hc9 := ok.text.clause
      have hp9 : 0 < ((wsOf (dotT T)).map tokD).length := by
        rw [List.length_map]
        exact ok.text.some
      have hz9 : as.length ≤ 100 := by omega
      have soF : PyData.strOk (Str.ofString "F") = true := by decide +kernel
      k_steps
      · exact absurd rfl (by assumption)
      · show JEnd _ _ _ _ _ _ _ _ _ _
        exact law_turn (by assumption) (by assumption) (by k_extra "mem") (by k_extra "mem") (by k_extra "mem") (by k_extra "mem") rfl (by intro z hz; k_extra "mem") hsp' hcl' hrc' hrc2' hA' hA2' (by omega) o1' o2' o3' oI' nI1 nI2 nI3 ⟨by assumption, by assumption, by assumption, by assumption, by assumption, by assumption, soa⟩ (fun z hz hs => by have e := stored7 hs; simp only [if_neg e.1, if_neg e.2.1, if_neg e.2.2.1, if_neg e.2.2.2.1, if_neg e.2.2.2.2.1, if_neg e.2.2.2.2.2.1, if_neg e.2.2.2.2.2.2, if_neg hz, hs, Bool.false_eq_true, if_false])
    · have hT1 := ok.len
      have hT2 := ok.size
      have hn1 : n ≤ 99 := by
        have e1 := ok.text.few
        have e2 := ok.size2
        omega
      k_steps
      unfold Stopped
      obtain ⟨rest9, N10, tk10, ⟨hsp', hcl', hrc', hrc2', hri⟩, ⟨hA', hA2'⟩, ⟨o1', o2', o3', oI', oR'⟩, ⟨g1, g2, g3, g4⟩⟩ := turn_led N9 tk9 lf9 ne9 lt9 hsp hcl hrc hrc2 hA hA2 off1 off2 off3 offI
      clear N9 tk9 lf9 ne9 lt9 hsp hcl hrc hrc2 hA hA2 off1 off2 off3 offI hrow
      have hz10 : as.length ≤ 1000 := by omega
      have hen : endAt (List.map tokD (wsOf (dotT T))) n = n := by
        unfold endAt
        rw [List.length_map, ok.size2]
        omega
      have hc9 := ok.text.clause
      have hp9 : 0 < ((wsOf (dotT T)).map tokD).length := by
        rw [List.length_map]
        exact ok.text.some
      have hz9 : as.length ≤ 100 := by omega
      have soF : PyData.strOk (Str.ofString "F") = true := by decide +kernel
      k_steps
      · show JEnd _ _ _ _ _ _ _ _ _ _
        exact law_turn (by assumption) (by assumption) (by k_extra "mem") (by k_extra "mem") (by k_extra "mem") (by k_extra "mem") rfl (by intro z hz; k_extra "mem") hsp' hcl' hrc' hrc2' hA' hA2' (by omega) o1' o2' o3' oI' nI1 nI2 nI3 ⟨by assumption, by assumption, by assumption, by assumption, by assumption, by assumption, soa⟩ (fun z hz hs => by have e := stored7 hs; simp only [if_neg e.1, if_neg e.2.1, if_neg e.2.2.1, if_neg e.2.2.2.1, if_neg e.2.2.2.2.1, if_neg e.2.2.2.2.2.1, if_neg e.2.2.2.2.2.2, if_neg hz, hs, Bool.false_eq_true, if_false])
      · unfold Stopped
        rename (∀ nw, AltIn _ nw _ _ _ → AltIn _ ((_, _) :: nw) _ _ _) => AD9
        obtain ⟨rest10, N10, ⟨hsp'', hcl'', hrc'', hrc2'', hri'⟩, ⟨hA'', hA2''⟩, ⟨p1, p2, p3, pI, pR⟩⟩ := alt_led N9 A9 AD9 lt9 nr9 ns9 (by k_extra "mem") (by k_extra "mem") (by k_extra "mem") (by k_extra "mem") (by intro z hz; k_extra "mem") hsp' hcl' hrc' hrc2' hri hA' hA2' o1' o2' o3' oI' oR' (by k_ne) (by k_ne) (by k_ne) (by k_ne) (by k_ne)
        have soa' : ∀ a ∈ as ++ [(x, b)], PyData.strOk a.1 = true := by
          intro a ha
          rcases List.mem_append.mp ha with h | h
          · exact soa a h
          · rw [List.mem_singleton.mp h]
            exact so
        clear N9 A9 AD9 lt9 nr9 ns9 hsp' hcl' hrc' hrc2' hri hA' hA2' o1' o2' o3' oI' oR'
        k_steps
        · exact absurd rfl (by assumption)
        · show JEnd _ _ _ _ _ _ _ _ _ _
          exact law_turn (by assumption) (by assumption) (by k_extra "mem") (by k_extra "mem") (by k_extra "mem") (by k_extra "mem") rfl (by intro z hz; k_extra "mem") hsp'' hcl'' hrc'' hrc2'' hA'' hA2'' (by simp; omega) p1 p2 p3 pI nI1 nI2 nI3 ⟨by assumption, by assumption, by assumption, by assumption, by assumption, by assumption, soa'⟩ (fun z hz hs => by have e := stored7 hs; simp only [if_neg e.1, if_neg e.2.1, if_neg e.2.2.1, if_neg e.2.2.2.1, if_neg e.2.2.2.2.1, if_neg e.2.2.2.2.2.1, if_neg e.2.2.2.2.2.2, if_neg hz, hs, Bool.false_eq_true, if_false])
  case done =>
    intro u news₁ h tk hJ F₁ N₁
    obtain ⟨c0, c1, c2, c3, c4, c5, c6, c7, c8, c9, x1, x2, x3, x4, x6, x7, t0, t1, t2, t3, t4, t6, t7, u0, u1, u2, u3, u4, u6, u7, ta, al, al2, rc, rc2, ps, ps2, as, rest, rfl, ⟨hsp, hcl, hrc, hrc2⟩, ⟨hA, hA2, hz⟩, off1, off2, off3, so1, so2, so3, so4, so6, so7, soa⟩ := hJ
    have soF : PyData.strOk (Str.ofString "F") = true := by decide +kernel
    k_steps
    unfold Stopped
    obtain ⟨T, p, a1, a2, a4, hrow, ok, hp⟩ := wrong_g w.params _ _ hra
    k_steps
    unfold Stopped
    (repeat (rename (_ < _ ∧ _) => hC9; obtain ⟨_, _⟩ := hC9))
    obtain ⟨rest9, N10, tk10, ⟨hsp', hcl', hrc', hrc2', hri⟩, ⟨hA', hA2'⟩, ⟨o1', o2', o3', oI', oR'⟩, ⟨g1, g2, g3, g4⟩⟩ := turn_led N9 tk9 lf9 ne9 lt9 hsp hcl hrc hrc2 hA hA2 off1 off2 off3 (allLt_off (by assumption))
    clear N9 tk9 lf9 ne9 lt9 hsp hcl hrc hrc2 hA hA2 off1 off2 off3 hrow
    have hc9 := ok.clause
    have hp9 : 0 < ((wsOf T).map tokD).length := by
      rw [List.length_map]
      exact ok.some
    have hz9 : as.length ≤ 100 := by omega
    k_steps))

end Mine
theorem PySem.Challenge.cw_pb0261_01_holds : PySem.Challenge.rw_pb0261_01.Holds :=
  Mine.law_holds
