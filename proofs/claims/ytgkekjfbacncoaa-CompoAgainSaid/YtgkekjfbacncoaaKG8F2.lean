/- Printed by a program: shallow functions of the Go functions, and the proofs that the Go functions come to their answers. -/
import Derived.Test.YtgkekjfbacncoaaKG8F1
set_option linter.unusedVariables false
open Go Go.Ab
namespace Go.Proofs.Ytgkekjfbacncoaa
abbrev R_r08_Read := (List T_SiiiA4ie) × (List Int) × Int
def L_r08_Read_1 (j30 : Int → Int → Int → Int → (List Int) → Int → Int → Option R_r08_Read) : Nat → Int → Int → Int → Int → (List Int) → Int → Int → Int → Option R_r08_Read
  | 0, _, _, _, _, _, _, _, _ => none
  | n + 1, y31, y32, y33, y34, y35, y36, y37, y38 =>
    if (decide (y38 < 4)) then
      Option.bind (F_r08_reader_s n (⟨y35, y36, y37⟩ : T_SLBiie) 2) fun v40 =>
      gd (0 ≤ y38 ∧ y38 < 4) <|
      L_r08_Read_1 j30 n (if y38 = 0 then v40.1 else y31) (if y38 = 1 then v40.1 else y32) (if y38 = 2 then v40.1 else y33) (if y38 = 3 then v40.1 else y34) v40.2.f0 v40.2.f1 v40.2.f2 (w64 (y38 + 1))
    else
    j30 y31 y32 y33 y34 y35 y36 y37
def L_r08_Read_0 (a0 : (List Int)) : Nat → (List Int) → Int → Int → (List T_SiiiA4ie) → Option R_r08_Read
  | 0, _, _, _, _ => none
  | n + 1, y4, y5, y6, y7 =>
    lj (fun (x67 : (List Int)) (x68 : Int) (x69 : Int) (x70 : (List T_SiiiA4ie)) =>
      L_r08_Read_0 a0 n x67 x68 x69 x70) fun j8 =>
    Option.bind (F_r08_reader_u n (⟨y4, y5, y6⟩ : T_SLBiie)) fun v9 =>
    Option.bind (F_r08_reader_u n v9.2) fun v10 =>
    lj (fun (x13 : Bool) =>
      Option.bind (F_r08_has n v9.1 1) fun v16 =>
      Option.bind (F_r08_reader_s n (⟨v10.2.f0, v10.2.f1, (if x13 then 9 else v10.2.f2)⟩ : T_SLBiie) (if v16 then 2 else 1)) fun v18 =>
      Option.bind (F_r08_reader_s n v18.2 (if v16 then 2 else 1)) fun v19 =>
      Option.bind (F_r08_has n v9.1 8) fun v20 =>
      lj (fun (x49 : Int) (x50 : Int) (x51 : Int) (x52 : Int) (x53 : (List Int)) (x54 : Int) (x55 : Int) =>
        if (!decide (x55 = 0)) then
          some (([] : List T_SiiiA4ie), ([] : List Int), x55)
        else
        gd (fits (y7.length + ([(⟨v10.1, v18.1, v19.1, (⟨x49, x50, x51, x52⟩ : T_A4i)⟩ : T_SiiiA4ie)] : List T_SiiiA4ie).length) 56 = true) <|
        Option.bind (F_r08_has n v9.1 32) fun v58 =>
        if v58 then
          if (decide (64 ≤ ((y7 ++ ([(⟨v10.1, v18.1, v19.1, (⟨x49, x50, x51, x52⟩ : T_A4i)⟩ : T_SiiiA4ie)] : List T_SiiiA4ie)).length : Int))) then
            some (([] : List T_SiiiA4ie), ([] : List Int), 7)
          else
          j8 x53 x54 x55 (y7 ++ ([(⟨v10.1, v18.1, v19.1, (⟨x49, x50, x51, x52⟩ : T_A4i)⟩ : T_SiiiA4ie)] : List T_SiiiA4ie))
        else
        Option.bind (F_r08_has n v9.1 256) fun v61 =>
        if (!v61) then
          some ((y7 ++ ([(⟨v10.1, v18.1, v19.1, (⟨x49, x50, x51, x52⟩ : T_A4i)⟩ : T_SiiiA4ie)] : List T_SiiiA4ie)), ([] : List Int), 0)
        else
        Option.bind (F_r08_reader_u n (⟨x53, x54, x55⟩ : T_SLBiie)) fun v63 =>
        if (!decide (v63.2.f2 = 0)) then
          some (([] : List T_SiiiA4ie), ([] : List Int), v63.2.f2)
        else
        Option.bind (F_r02_Cut n a0 v63.2.f1 v63.1) fun v65 =>
        if (!decide (v65.2 = 0)) then
          some (([] : List T_SiiiA4ie), ([] : List Int), 3)
        else
        some ((y7 ++ ([(⟨v10.1, v18.1, v19.1, (⟨x49, x50, x51, x52⟩ : T_A4i)⟩ : T_SiiiA4ie)] : List T_SiiiA4ie)), v65.1, 0)) fun j21 =>
      if v20 then
        Option.bind (F_r08_reader_s n v19.2 2) fun v23 =>
        j21 v23.1 0 0 v23.1 v23.2.f0 v23.2.f1 v23.2.f2
      else
      Option.bind (F_r08_has n v9.1 64) fun v24 =>
      if v24 then
        Option.bind (F_r08_reader_s n v19.2 2) fun v26 =>
        Option.bind (F_r08_reader_s n v26.2 2) fun v27 =>
        j21 v26.1 0 0 v27.1 v27.2.f0 v27.2.f1 v27.2.f2
      else
      Option.bind (F_r08_has n v9.1 128) fun v28 =>
      if v28 then
        lj (fun (x42 : Int) (x43 : Int) (x44 : Int) (x45 : Int) (x46 : (List Int)) (x47 : Int) (x48 : Int) =>
          j21 x42 x43 x44 x45 x46 x47 x48) fun j30 =>
        L_r08_Read_1 j30 n 16384 0 0 16384 v19.2.f0 v19.2.f1 v19.2.f2 0
      else
      j21 16384 0 0 16384 v19.2.f0 v19.2.f1 v19.2.f2) fun j14 =>
    if (decide (v10.2.f2 = 0)) then
      Option.bind (F_r08_has n v9.1 2) fun v12 =>
      j14 (!v12)
    else
    j14 false
def F_r08_Read (n : Nat) (a0 : (List Int)) : Option R_r08_Read :=
  if (decide ((a0.length : Int) < 10)) then
    some (([] : List T_SiiiA4ie), ([] : List Int), 3)
  else
  Option.bind (F_r08_reader_s n (⟨a0, 0, 0⟩ : T_SLBiie) 2) fun v2 =>
  if (decide (0 ≤ v2.1)) then
    some (([] : List T_SiiiA4ie), ([] : List Int), 11)
  else
  L_r08_Read_0 a0 n v2.2.f0 10 v2.2.f2 ([] : List T_SiiiA4ie)
theorem C_r08_Read (n : Nat) (a0 : (List Int)) (r : R_r08_Read) (h : F_r08_Read n a0 = some r) : CallS Try.prog 17 [(.ro 1 a0.length (flat E_B a0))] (.tup [(.own 7 r.1.length (flat E_SiiiA4ie r.1)), (.own 1 r.2.1.length (flat E_B r.2.1)), (vI r.2.2)]) [none] := by
  refine CallS.introK tabOk Try.func17 rfl Try.ntmps17 (Nat.le_of_ble_eq_true rfl) ?_
  rw [F_r08_Read] at h
  refine .seq ?_
  refine .rgI rfl ?_
  refine .seg tabOk 0 3 [0] [] (t := [(0, (.ro 1 a0.length (flat E_B a0)))]) (h := []) (ep := 2) (by kernel_rfl) ?_
  refine .fin rfl ?_
  refine sqN ?_
  refine .seq ?_
  refine .seq ?_
  refine .rgI rfl ?_
  refine .seg tabOk 0 3 [0, 16] [] (t := [(0, (.ro 1 a0.length (flat E_B a0))), (16, (.val (.bool (decide ((a0.length : Int) < 10)))))]) (h := []) (ep := 4) (by kernel_rfl) ?_
  refine .fin rfl ?_
  refine sqN ?_
  refine .cond (decide ((a0.length : Int) < 10)) rfl (fun hc1 => ?_) (fun hc1 => ?_)
  · have h := iT h hc1
    refine .seq ?_
    refine .rgI rfl ?_
    refine .seg tabOk 0 3 [2, 3, 4] [] (t := [(2, .nils), (3, .nils), (4, (vI 3))]) (h := []) (ep := 6) (by kernel_rfl) ?_
    refine .fin rfl ?_
    refine sqN ?_
    refine .pre (.nilRow 2 7 47 rfl (fresh_none rfl)) ?_
    refine .pre (.nilRow 3 1 63 rfl (fresh_none rfl)) ?_
    refine .ret ?_
    refine sqR ?_
    injection h with h
    subst h
    exact ⟨.inr rfl, _, _, (f_cons (f_tmp rfl (o1_row E_SiiiA4ie ([] : List T_SiiiA4ie) rfl rfl rfl rfl rfl)) (f_cons (f_tmp rfl (o1_row E_B ([] : List Int) rfl rfl rfl rfl rfl)) (f_cons rfl f_nil))), nd_of rfl, rfl, rfl⟩
  · have h := iF h hc1
    refine .skip ?_
    refine sqN ?_
    refine .seq ?_
    refine .rgI rfl ?_
    refine .seg tabOk 0 4 [0, 5] [304] (t := [(0, (.ro 1 a0.length (flat E_B a0))), (5, (.ptr (304, 5) 0))]) (h := [(304, ⟨5, .live, false, [(.ro 1 a0.length (flat E_B a0)), (vI 0), (vI 0)]⟩)]) (ep := 6) (by kernel_rfl) ?_
    refine .fin rfl ?_
    refine sqN ?_
    refine .seq ?_
    refine .seq ?_
    refine .rgI rfl ?_
    refine .seg tabOk 0 1 [0, 5, 20] [304] (t := [(0, (.ro 1 a0.length (flat E_B a0))), (5, (.ptr (304, 5) 0)), (20, (.ptr (304, 5) 0))]) (h := [(304, ⟨5, .live, false, [(.ro 1 a0.length (flat E_B a0)), (vI 0), (vI 0)]⟩)]) (ep := 8) (by kernel_rfl) ?_
    obtain ⟨v2, hv2, h⟩ := bS h
    refine .cc true rfl rfl (C_r08_reader_s _ _ _ _ hv2) ent_r08_reader_s rfl rfl rfl rfl (g_cons (g_pl rfl rfl) (g_cons (g_pl rfl rfl) g_nil)) rfl ?_
    refine .seg tabOk 2 1 [0, 5, 22] [304] (t := [(0, (.ro 1 a0.length (flat E_B a0))), (5, (.ptr (304, 5) 0)), (22, (.val (.bool (decide (0 ≤ v2.1)))))]) (h := [(304, ⟨5, .live, false, [(.ro 1 v2.2.f0.length (flat E_B v2.2.f0)), (vI v2.2.f1), (vI v2.2.f2)]⟩)]) (ep := 9) (by kernel_rfl) ?_
    refine .fin rfl ?_
    refine sqN ?_
    refine .cond (decide (0 ≤ v2.1)) rfl (fun hc3 => ?_) (fun hc3 => ?_)
    · have h := iT h hc3
      refine .seq ?_
      refine .rgI rfl ?_
      refine .seg tabOk 0 3 [2, 3, 4] [] (t := [(2, .nils), (3, .nils), (4, (vI 11))]) (h := []) (ep := 11) (by kernel_rfl) ?_
      refine .fin rfl ?_
      refine sqN ?_
      refine .pre (.nilRow 2 7 47 rfl (fresh_none rfl)) ?_
      refine .pre (.nilRow 3 1 63 rfl (fresh_none rfl)) ?_
      refine .ret ?_
      refine sqR ?_
      injection h with h
      subst h
      exact ⟨.inr rfl, _, _, (f_cons (f_tmp rfl (o1_row E_SiiiA4ie ([] : List T_SiiiA4ie) rfl rfl rfl rfl rfl)) (f_cons (f_tmp rfl (o1_row E_B ([] : List Int) rfl rfl rfl rfl rfl)) (f_cons rfl f_nil))), nd_of rfl, rfl, rfl⟩
    · have h := iF h hc3
      refine .skip ?_
      refine sqN ?_
      refine .seq ?_
      refine .rgI rfl ?_
      refine .seg tabOk 0 4 [0, 5] [304] (t := [(0, (.ro 1 a0.length (flat E_B a0))), (5, (.ptr (304, 5) 0))]) (h := [(304, ⟨5, .live, false, [(.ro 1 v2.2.f0.length (flat E_B v2.2.f0)), (vI 10), (vI v2.2.f2)]⟩)]) (ep := 11) (by kernel_rfl) ?_
      refine .fin rfl ?_
      refine sqN ?_
      refine .seq ?_
      refine .rgI rfl ?_
      refine .seg tabOk 0 1 [0, 5, 6] [304] (t := [(0, (.ro 1 a0.length (flat E_B a0))), (5, (.ptr (304, 5) 0)), (6, .nils)]) (h := [(304, ⟨5, .live, false, [(.ro 1 v2.2.f0.length (flat E_B v2.2.f0)), (vI 10), (vI v2.2.f2)]⟩)]) (ep := 13) (by kernel_rfl) ?_
      refine .fin rfl ?_
      refine sqN ?_
      refine .block ?_
      refine .loopF (β := (List Int) × Int × Int × (List T_SiiiA4ie)) (fun v => ⟨[(0, (.ro 1 a0.length (flat E_B a0))), (5, (.ptr (304, 5) 0)), (6, (.sref (111, 13) 0 v.2.2.2.length 7))], [(111, ⟨13, .live, true, flat E_SiiiA4ie v.2.2.2⟩), (304, ⟨5, .live, false, [(.ro 1 v.1.length (flat E_B v.1)), (vI v.2.1), (vI v.2.2.1)]⟩)], 14⟩) (fun m v => L_r08_Read_0 a0 m v.1 v.2.1 v.2.2.1 v.2.2.2 = some r) n (v2.2.f0, 10, v2.2.f2, ([] : List T_SiiiA4ie)) (by exact .trans (.nilRow 6 7 111 rfl (fresh_none rfl)) (.tn [((111, 13), (111, 13)), ((304, 5), (304, 5))] ⟨rfl, rfl, rfl, trivial⟩ ⟨rfl, ⟨_, rfl, ah_row E_SiiiA4ie⟩, ⟨rfl, ⟨_, rfl, rfl⟩, trivial⟩⟩ rfl)) h ?_
      rintro m ⟨y4, y5, y6, y7⟩ h
      cases m with
      | zero => exact nomatch h
      | succ n =>
        rw [L_r08_Read_0] at h
        obtain ⟨j8, hj8, h⟩ := ljS h
        refine .join (fun s' => ∃ x67 x68 x69 x70, s' = ⟨[(0, (.ro 1 a0.length (flat E_B a0))), (5, (.ptr (304, 5) 0)), (6, (.sref (1584, 62) 0 x70.length 7))], [(304, ⟨5, .live, false, [(.ro 1 x67.length (flat E_B x67)), (vI x68), (vI x69)]⟩), (1584, ⟨62, .live, true, flat E_SiiiA4ie x70⟩)], 69⟩ ∧ j8 x67 x68 x69 x70 = some r) ?_ ?_
        · refine .block ?_
          refine .seq ?_
          refine .rgI rfl ?_
          refine .seg tabOk 0 1 [0, 5, 6, 26] [111, 304] (t := [(0, (.ro 1 a0.length (flat E_B a0))), (5, (.ptr (304, 5) 0)), (6, (.sref (111, 13) 0 y7.length 7)), (26, (.ptr (304, 5) 0))]) (h := [(111, ⟨13, .live, true, flat E_SiiiA4ie y7⟩), (304, ⟨5, .live, false, [(.ro 1 y4.length (flat E_B y4)), (vI y5), (vI y6)]⟩)]) (ep := 16) (by kernel_rfl) ?_
          obtain ⟨v9, hv9, h⟩ := bS h
          refine .cc true rfl rfl (C_r08_reader_u _ _ _ hv9) ent_r08_reader_u rfl rfl rfl rfl (g_cons (g_pl rfl rfl) g_nil) rfl ?_
          refine .seg tabOk 2 1 [0, 5, 6, 7] [111, 304] (t := [(0, (.ro 1 a0.length (flat E_B a0))), (5, (.ptr (304, 5) 0)), (6, (.sref (111, 13) 0 y7.length 7)), (7, (vI v9.1))]) (h := [(111, ⟨13, .live, true, flat E_SiiiA4ie y7⟩), (304, ⟨5, .live, false, [(.ro 1 v9.2.f0.length (flat E_B v9.2.f0)), (vI v9.2.f1), (vI v9.2.f2)]⟩)]) (ep := 17) (by kernel_rfl) ?_
          refine .fin rfl ?_
          refine sqN ?_
          refine .seq ?_
          refine .rgI rfl ?_
          refine .seg tabOk 0 1 [0, 5, 6, 7, 28] [111, 304] (t := [(0, (.ro 1 a0.length (flat E_B a0))), (5, (.ptr (304, 5) 0)), (6, (.sref (111, 13) 0 y7.length 7)), (7, (vI v9.1)), (28, (.ptr (304, 5) 0))]) (h := [(111, ⟨13, .live, true, flat E_SiiiA4ie y7⟩), (304, ⟨5, .live, false, [(.ro 1 v9.2.f0.length (flat E_B v9.2.f0)), (vI v9.2.f1), (vI v9.2.f2)]⟩)]) (ep := 19) (by kernel_rfl) ?_
          obtain ⟨v10, hv10, h⟩ := bS h
          refine .cc true rfl rfl (C_r08_reader_u _ _ _ hv10) ent_r08_reader_u rfl rfl rfl rfl (g_cons (g_pl rfl rfl) g_nil) rfl ?_
          refine .seg tabOk 2 4 [0, 5, 6, 7, 8] [111, 128, 304] (t := [(0, (.ro 1 a0.length (flat E_B a0))), (5, (.ptr (304, 5) 0)), (6, (.sref (111, 13) 0 y7.length 7)), (7, (vI v9.1)), (8, (.ptr (128, 19) 0))]) (h := [(111, ⟨13, .live, true, flat E_SiiiA4ie y7⟩), (128, ⟨19, .live, true, [(vI v10.1), (vI 0), (vI 0), (vI 16384), (vI 0), (vI 0), (vI 16384)]⟩), (304, ⟨5, .live, false, [(.ro 1 v10.2.f0.length (flat E_B v10.2.f0)), (vI v10.2.f1), (vI v10.2.f2)]⟩)]) (ep := 20) (by kernel_rfl) ?_
          refine .fin rfl ?_
          refine sqN ?_
          refine .seq ?_
          refine .seq ?_
          obtain ⟨j14, hj14, h⟩ := ljS h
          refine .join (fun s' => ∃ x13, s' = ⟨[(0, (.ro 1 a0.length (flat E_B a0))), (5, (.ptr (304, 5) 0)), (6, (.sref (111, 13) 0 y7.length 7)), (7, (vI v9.1)), (8, (.ptr (128, 19) 0)), (41, (.val (.bool x13)))], [(111, ⟨13, .live, true, flat E_SiiiA4ie y7⟩), (128, ⟨19, .live, true, [(vI v10.1), (vI 0), (vI 0), (vI 16384), (vI 0), (vI 0), (vI 16384)]⟩), (304, ⟨5, .live, false, [(.ro 1 v10.2.f0.length (flat E_B v10.2.f0)), (vI v10.2.f1), (vI v10.2.f2)]⟩)], 25⟩ ∧ j14 x13 = some r) ?_ ?_
          · refine .rgI rfl ?_
            refine .seg tabOk 0 6 [0, 5, 6, 7, 8, 37] [111, 128, 304] (t := [(0, (.ro 1 a0.length (flat E_B a0))), (5, (.ptr (304, 5) 0)), (6, (.sref (111, 13) 0 y7.length 7)), (7, (vI v9.1)), (8, (.ptr (128, 19) 0)), (37, (.val (.bool (decide (v10.2.f2 = 0)))))]) (h := [(111, ⟨13, .live, true, flat E_SiiiA4ie y7⟩), (128, ⟨19, .live, true, [(vI v10.1), (vI 0), (vI 0), (vI 16384), (vI 0), (vI 0), (vI 16384)]⟩), (304, ⟨5, .live, false, [(.ro 1 v10.2.f0.length (flat E_B v10.2.f0)), (vI v10.2.f1), (vI v10.2.f2)]⟩)]) (ep := 22) (by kernel_rfl) ?_
            cases hB11 : (decide (v10.2.f2 = 0)) with
            | false =>
              have h := iF h hB11
              refine .seg tabOk 6 4 [0, 5, 6, 7, 8, 41] [111, 128, 304] (t := [(0, (.ro 1 a0.length (flat E_B a0))), (5, (.ptr (304, 5) 0)), (6, (.sref (111, 13) 0 y7.length 7)), (7, (vI v9.1)), (8, (.ptr (128, 19) 0)), (41, (.val (.bool false)))]) (h := [(111, ⟨13, .live, true, flat E_SiiiA4ie y7⟩), (128, ⟨19, .live, true, [(vI v10.1), (vI 0), (vI 0), (vI 16384), (vI 0), (vI 0), (vI 16384)]⟩), (304, ⟨5, .live, false, [(.ro 1 v10.2.f0.length (flat E_B v10.2.f0)), (vI v10.2.f1), (vI v10.2.f2)]⟩)]) (ep := 23) (by kernel_rfl) ?_
              refine .fin rfl ?_
              exact jkN (by exact .tn [((111, 13), (111, 13)), ((128, 19), (128, 19)), ((304, 5), (304, 5))] ⟨rfl, rfl, rfl, rfl, rfl, rfl, trivial⟩ ⟨rfl, ⟨_, rfl, ah_row E_SiiiA4ie⟩, ⟨rfl, ⟨_, rfl, rfl⟩, ⟨rfl, ⟨_, rfl, rfl⟩, trivial⟩⟩⟩ rfl) ⟨_, rfl, h⟩
            | true =>
              have h := iT h hB11
              refine .seg tabOk 6 1 [0, 5, 6, 7, 8, 37, 38] [111, 128, 304] (t := [(0, (.ro 1 a0.length (flat E_B a0))), (5, (.ptr (304, 5) 0)), (6, (.sref (111, 13) 0 y7.length 7)), (7, (vI v9.1)), (8, (.ptr (128, 19) 0)), (37, (.val (.bool true))), (38, (vI v9.1))]) (h := [(111, ⟨13, .live, true, flat E_SiiiA4ie y7⟩), (128, ⟨19, .live, true, [(vI v10.1), (vI 0), (vI 0), (vI 16384), (vI 0), (vI 0), (vI 16384)]⟩), (304, ⟨5, .live, false, [(.ro 1 v10.2.f0.length (flat E_B v10.2.f0)), (vI v10.2.f1), (vI v10.2.f2)]⟩)]) (ep := 23) (by kernel_rfl) ?_
              obtain ⟨v12, hv12, h⟩ := bS h
              refine .cc true rfl rfl (C_r08_has _ _ _ _ hv12) ent_r08_has rfl rfl rfl rfl (g_cons (g_pl rfl rfl) (g_cons (g_pl rfl rfl) g_nil)) rfl ?_
              refine .seg tabOk 8 2 [0, 5, 6, 7, 8, 41] [111, 128, 304] (t := [(0, (.ro 1 a0.length (flat E_B a0))), (5, (.ptr (304, 5) 0)), (6, (.sref (111, 13) 0 y7.length 7)), (7, (vI v9.1)), (8, (.ptr (128, 19) 0)), (41, (.val (.bool (!v12))))]) (h := [(111, ⟨13, .live, true, flat E_SiiiA4ie y7⟩), (128, ⟨19, .live, true, [(vI v10.1), (vI 0), (vI 0), (vI 16384), (vI 0), (vI 0), (vI 16384)]⟩), (304, ⟨5, .live, false, [(.ro 1 v10.2.f0.length (flat E_B v10.2.f0)), (vI v10.2.f1), (vI v10.2.f2)]⟩)]) (ep := 24) (by kernel_rfl) ?_
              refine .fin rfl ?_
              exact jkN (by exact .tn [((111, 13), (111, 13)), ((128, 19), (128, 19)), ((304, 5), (304, 5))] ⟨rfl, rfl, rfl, rfl, rfl, rfl, trivial⟩ ⟨rfl, ⟨_, rfl, ah_row E_SiiiA4ie⟩, ⟨rfl, ⟨_, rfl, rfl⟩, ⟨rfl, ⟨_, rfl, rfl⟩, trivial⟩⟩⟩ rfl) ⟨_, rfl, h⟩
          · rintro _ ⟨x13, rfl, h⟩
            subst hj14
            refine sqN ?_
            refine .join (fun s' => s' = ⟨[(0, (.ro 1 a0.length (flat E_B a0))), (5, (.ptr (304, 5) 0)), (6, (.sref (111, 13) 0 y7.length 7)), (7, (vI v9.1)), (8, (.ptr (128, 19) 0))], [(111, ⟨13, .live, true, flat E_SiiiA4ie y7⟩), (128, ⟨19, .live, true, [(vI v10.1), (vI 0), (vI 0), (vI 16384), (vI 0), (vI 0), (vI 16384)]⟩), (304, ⟨5, .live, false, [(.ro 1 v10.2.f0.length (flat E_B v10.2.f0)), (vI v10.2.f1), (vI (if x13 then 9 else v10.2.f2))]⟩)], 28⟩) ?_ ?_
            · refine .cond x13 rfl (fun hc15 => ?_) (fun hc15 => ?_)
              · skip
                refine .rgI rfl ?_
                refine .seg tabOk 0 4 [0, 5, 6, 7, 8] [111, 128, 304] (t := [(0, (.ro 1 a0.length (flat E_B a0))), (5, (.ptr (304, 5) 0)), (6, (.sref (111, 13) 0 y7.length 7)), (7, (vI v9.1)), (8, (.ptr (128, 19) 0))]) (h := [(111, ⟨13, .live, true, flat E_SiiiA4ie y7⟩), (128, ⟨19, .live, true, [(vI v10.1), (vI 0), (vI 0), (vI 16384), (vI 0), (vI 0), (vI 16384)]⟩), (304, ⟨5, .live, false, [(.ro 1 v10.2.f0.length (flat E_B v10.2.f0)), (vI v10.2.f1), (vI 9)]⟩)]) (ep := 27) (by kernel_rfl) ?_
                refine .fin rfl ?_
                exact jkN (by exact .tn [((111, 13), (111, 13)), ((128, 19), (128, 19)), ((304, 5), (304, 5))] ⟨(by (try rw [hc15]); rfl), (by (try rw [hc15]); rfl), (by (try rw [hc15]); rfl), (by (try rw [hc15]); rfl), (by (try rw [hc15]); rfl), trivial⟩ ⟨rfl, ⟨_, rfl, (by (try rw [hc15]); exact ah_row E_SiiiA4ie)⟩, ⟨rfl, ⟨_, rfl, (by (try rw [hc15]); exact rfl)⟩, ⟨rfl, ⟨_, rfl, (by (try rw [hc15]); exact rfl)⟩, trivial⟩⟩⟩ rfl) rfl
              · skip
                refine .skip ?_
                exact jkN (by exact .tn [((111, 13), (111, 13)), ((128, 19), (128, 19)), ((304, 5), (304, 5))] ⟨(by (try rw [hc15]); rfl), (by (try rw [hc15]); rfl), (by (try rw [hc15]); rfl), (by (try rw [hc15]); rfl), (by (try rw [hc15]); rfl), trivial⟩ ⟨rfl, ⟨_, rfl, (by (try rw [hc15]); exact ah_row E_SiiiA4ie)⟩, ⟨rfl, ⟨_, rfl, (by (try rw [hc15]); exact rfl)⟩, ⟨rfl, ⟨_, rfl, (by (try rw [hc15]); exact rfl)⟩, trivial⟩⟩⟩ rfl) rfl
            · rintro _ rfl
              refine sqN ?_
              refine .seq ?_
              refine .rgI rfl ?_
              refine .seg tabOk 0 1 [0, 5, 6, 7, 8, 9] [111, 128, 304] (t := [(0, (.ro 1 a0.length (flat E_B a0))), (5, (.ptr (304, 5) 0)), (6, (.sref (111, 13) 0 y7.length 7)), (7, (vI v9.1)), (8, (.ptr (128, 19) 0)), (9, (vI 1))]) (h := [(111, ⟨13, .live, true, flat E_SiiiA4ie y7⟩), (128, ⟨19, .live, true, [(vI v10.1), (vI 0), (vI 0), (vI 16384), (vI 0), (vI 0), (vI 16384)]⟩), (304, ⟨5, .live, false, [(.ro 1 v10.2.f0.length (flat E_B v10.2.f0)), (vI v10.2.f1), (vI (if x13 then 9 else v10.2.f2))]⟩)]) (ep := 30) (by kernel_rfl) ?_
              refine .fin rfl ?_
              refine sqN ?_
              refine .seq ?_
              refine .seq ?_
              refine .rgI rfl ?_
              refine .seg tabOk 0 1 [0, 5, 6, 7, 8, 9, 45] [111, 128, 304] (t := [(0, (.ro 1 a0.length (flat E_B a0))), (5, (.ptr (304, 5) 0)), (6, (.sref (111, 13) 0 y7.length 7)), (7, (vI v9.1)), (8, (.ptr (128, 19) 0)), (9, (vI 1)), (45, (vI v9.1))]) (h := [(111, ⟨13, .live, true, flat E_SiiiA4ie y7⟩), (128, ⟨19, .live, true, [(vI v10.1), (vI 0), (vI 0), (vI 16384), (vI 0), (vI 0), (vI 16384)]⟩), (304, ⟨5, .live, false, [(.ro 1 v10.2.f0.length (flat E_B v10.2.f0)), (vI v10.2.f1), (vI (if x13 then 9 else v10.2.f2))]⟩)]) (ep := 32) (by kernel_rfl) ?_
              obtain ⟨v16, hv16, h⟩ := bS h
              refine .cc true rfl rfl (C_r08_has _ _ _ _ hv16) ent_r08_has rfl rfl rfl rfl (g_cons (g_pl rfl rfl) (g_cons (g_pl rfl rfl) g_nil)) rfl ?_
              refine .seg tabOk 2 0 [0, 5, 6, 7, 8, 9, 46] [111, 128, 304] (t := [(0, (.ro 1 a0.length (flat E_B a0))), (5, (.ptr (304, 5) 0)), (6, (.sref (111, 13) 0 y7.length 7)), (7, (vI v9.1)), (8, (.ptr (128, 19) 0)), (9, (vI 1)), (46, (.val (.bool v16)))]) (h := [(111, ⟨13, .live, true, flat E_SiiiA4ie y7⟩), (128, ⟨19, .live, true, [(vI v10.1), (vI 0), (vI 0), (vI 16384), (vI 0), (vI 0), (vI 16384)]⟩), (304, ⟨5, .live, false, [(.ro 1 v10.2.f0.length (flat E_B v10.2.f0)), (vI v10.2.f1), (vI (if x13 then 9 else v10.2.f2))]⟩)]) (ep := 33) (by kernel_rfl) ?_
              refine .fin rfl ?_
              refine sqN ?_
              refine .join (fun s' => s' = ⟨[(0, (.ro 1 a0.length (flat E_B a0))), (5, (.ptr (304, 5) 0)), (6, (.sref (111, 13) 0 y7.length 7)), (7, (vI v9.1)), (8, (.ptr (128, 19) 0)), (9, (vI (if v16 then 2 else 1)))], [(111, ⟨13, .live, true, flat E_SiiiA4ie y7⟩), (128, ⟨19, .live, true, [(vI v10.1), (vI 0), (vI 0), (vI 16384), (vI 0), (vI 0), (vI 16384)]⟩), (304, ⟨5, .live, false, [(.ro 1 v10.2.f0.length (flat E_B v10.2.f0)), (vI v10.2.f1), (vI (if x13 then 9 else v10.2.f2))]⟩)], 36⟩) ?_ ?_
              · refine .cond v16 rfl (fun hc17 => ?_) (fun hc17 => ?_)
                · skip
                  refine .rgI rfl ?_
                  refine .seg tabOk 0 1 [0, 5, 6, 7, 8, 9] [111, 128, 304] (t := [(0, (.ro 1 a0.length (flat E_B a0))), (5, (.ptr (304, 5) 0)), (6, (.sref (111, 13) 0 y7.length 7)), (7, (vI v9.1)), (8, (.ptr (128, 19) 0)), (9, (vI 2))]) (h := [(111, ⟨13, .live, true, flat E_SiiiA4ie y7⟩), (128, ⟨19, .live, true, [(vI v10.1), (vI 0), (vI 0), (vI 16384), (vI 0), (vI 0), (vI 16384)]⟩), (304, ⟨5, .live, false, [(.ro 1 v10.2.f0.length (flat E_B v10.2.f0)), (vI v10.2.f1), (vI (if x13 then 9 else v10.2.f2))]⟩)]) (ep := 35) (by kernel_rfl) ?_
                  refine .fin rfl ?_
                  exact jkN (by exact .tn [((111, 13), (111, 13)), ((128, 19), (128, 19)), ((304, 5), (304, 5))] ⟨(by (try rw [hc17]); rfl), (by (try rw [hc17]); rfl), (by (try rw [hc17]); rfl), (by (try rw [hc17]); rfl), (by (try rw [hc17]); rfl), (by (try rw [hc17]); rfl), trivial⟩ ⟨rfl, ⟨_, rfl, (by (try rw [hc17]); exact ah_row E_SiiiA4ie)⟩, ⟨rfl, ⟨_, rfl, (by (try rw [hc17]); exact rfl)⟩, ⟨rfl, ⟨_, rfl, (by (try rw [hc17]); exact rfl)⟩, trivial⟩⟩⟩ rfl) rfl
                · skip
                  refine .skip ?_
                  exact jkN (by exact .tn [((111, 13), (111, 13)), ((128, 19), (128, 19)), ((304, 5), (304, 5))] ⟨(by (try rw [hc17]); rfl), (by (try rw [hc17]); rfl), (by (try rw [hc17]); rfl), (by (try rw [hc17]); rfl), (by (try rw [hc17]); rfl), (by (try rw [hc17]); rfl), trivial⟩ ⟨rfl, ⟨_, rfl, (by (try rw [hc17]); exact ah_row E_SiiiA4ie)⟩, ⟨rfl, ⟨_, rfl, (by (try rw [hc17]); exact rfl)⟩, ⟨rfl, ⟨_, rfl, (by (try rw [hc17]); exact rfl)⟩, trivial⟩⟩⟩ rfl) rfl
              · rintro _ rfl
                refine sqN ?_
                refine .seq ?_
                refine .rgI rfl ?_
                refine .seg tabOk 0 2 [0, 5, 6, 7, 8, 9, 47, 48] [111, 128, 304] (t := [(0, (.ro 1 a0.length (flat E_B a0))), (5, (.ptr (304, 5) 0)), (6, (.sref (111, 13) 0 y7.length 7)), (7, (vI v9.1)), (8, (.ptr (128, 19) 0)), (9, (vI (if v16 then 2 else 1))), (47, (.ptr (304, 5) 0)), (48, (vI (if v16 then 2 else 1)))]) (h := [(111, ⟨13, .live, true, flat E_SiiiA4ie y7⟩), (128, ⟨19, .live, true, [(vI v10.1), (vI 0), (vI 0), (vI 16384), (vI 0), (vI 0), (vI 16384)]⟩), (304, ⟨5, .live, false, [(.ro 1 v10.2.f0.length (flat E_B v10.2.f0)), (vI v10.2.f1), (vI (if x13 then 9 else v10.2.f2))]⟩)]) (ep := 38) (by kernel_rfl) ?_
                obtain ⟨v18, hv18, h⟩ := bS h
                refine .cc true rfl rfl (C_r08_reader_s _ _ _ _ hv18) ent_r08_reader_s rfl rfl rfl rfl (g_cons (g_pl rfl rfl) (g_cons (g_pl rfl rfl) g_nil)) rfl ?_
                refine .seg tabOk 3 2 [0, 5, 6, 7, 8, 9] [111, 128, 304] (t := [(0, (.ro 1 a0.length (flat E_B a0))), (5, (.ptr (304, 5) 0)), (6, (.sref (111, 13) 0 y7.length 7)), (7, (vI v9.1)), (8, (.ptr (128, 19) 0)), (9, (vI (if v16 then 2 else 1)))]) (h := [(111, ⟨13, .live, true, flat E_SiiiA4ie y7⟩), (128, ⟨19, .live, true, [(vI v10.1), (vI v18.1), (vI 0), (vI 16384), (vI 0), (vI 0), (vI 16384)]⟩), (304, ⟨5, .live, false, [(.ro 1 v18.2.f0.length (flat E_B v18.2.f0)), (vI v18.2.f1), (vI v18.2.f2)]⟩)]) (ep := 39) (by kernel_rfl) ?_
                refine .fin rfl ?_
                refine sqN ?_
                refine .seq ?_
                refine .rgI rfl ?_
                refine .seg tabOk 0 2 [0, 5, 6, 7, 8, 51, 52] [111, 128, 304] (t := [(0, (.ro 1 a0.length (flat E_B a0))), (5, (.ptr (304, 5) 0)), (6, (.sref (111, 13) 0 y7.length 7)), (7, (vI v9.1)), (8, (.ptr (128, 19) 0)), (51, (.ptr (304, 5) 0)), (52, (vI (if v16 then 2 else 1)))]) (h := [(111, ⟨13, .live, true, flat E_SiiiA4ie y7⟩), (128, ⟨19, .live, true, [(vI v10.1), (vI v18.1), (vI 0), (vI 16384), (vI 0), (vI 0), (vI 16384)]⟩), (304, ⟨5, .live, false, [(.ro 1 v18.2.f0.length (flat E_B v18.2.f0)), (vI v18.2.f1), (vI v18.2.f2)]⟩)]) (ep := 41) (by kernel_rfl) ?_
                obtain ⟨v19, hv19, h⟩ := bS h
                refine .cc true rfl rfl (C_r08_reader_s _ _ _ _ hv19) ent_r08_reader_s rfl rfl rfl rfl (g_cons (g_pl rfl rfl) (g_cons (g_pl rfl rfl) g_nil)) rfl ?_
                refine .seg tabOk 3 2 [0, 5, 6, 7, 8] [111, 128, 304] (t := [(0, (.ro 1 a0.length (flat E_B a0))), (5, (.ptr (304, 5) 0)), (6, (.sref (111, 13) 0 y7.length 7)), (7, (vI v9.1)), (8, (.ptr (128, 19) 0))]) (h := [(111, ⟨13, .live, true, flat E_SiiiA4ie y7⟩), (128, ⟨19, .live, true, [(vI v10.1), (vI v18.1), (vI v19.1), (vI 16384), (vI 0), (vI 0), (vI 16384)]⟩), (304, ⟨5, .live, false, [(.ro 1 v19.2.f0.length (flat E_B v19.2.f0)), (vI v19.2.f1), (vI v19.2.f2)]⟩)]) (ep := 42) (by kernel_rfl) ?_
                refine .fin rfl ?_
                refine sqN ?_
                refine .seq ?_
                refine .seq ?_
                refine .rgI rfl ?_
                refine .seg tabOk 0 1 [0, 5, 6, 7, 8, 55] [111, 128, 304] (t := [(0, (.ro 1 a0.length (flat E_B a0))), (5, (.ptr (304, 5) 0)), (6, (.sref (111, 13) 0 y7.length 7)), (7, (vI v9.1)), (8, (.ptr (128, 19) 0)), (55, (vI v9.1))]) (h := [(111, ⟨13, .live, true, flat E_SiiiA4ie y7⟩), (128, ⟨19, .live, true, [(vI v10.1), (vI v18.1), (vI v19.1), (vI 16384), (vI 0), (vI 0), (vI 16384)]⟩), (304, ⟨5, .live, false, [(.ro 1 v19.2.f0.length (flat E_B v19.2.f0)), (vI v19.2.f1), (vI v19.2.f2)]⟩)]) (ep := 44) (by kernel_rfl) ?_
                obtain ⟨v20, hv20, h⟩ := bS h
                refine .cc true rfl rfl (C_r08_has _ _ _ _ hv20) ent_r08_has rfl rfl rfl rfl (g_cons (g_pl rfl rfl) (g_cons (g_pl rfl rfl) g_nil)) rfl ?_
                refine .seg tabOk 2 0 [0, 5, 6, 7, 8, 56] [111, 128, 304] (t := [(0, (.ro 1 a0.length (flat E_B a0))), (5, (.ptr (304, 5) 0)), (6, (.sref (111, 13) 0 y7.length 7)), (7, (vI v9.1)), (8, (.ptr (128, 19) 0)), (56, (.val (.bool v20)))]) (h := [(111, ⟨13, .live, true, flat E_SiiiA4ie y7⟩), (128, ⟨19, .live, true, [(vI v10.1), (vI v18.1), (vI v19.1), (vI 16384), (vI 0), (vI 0), (vI 16384)]⟩), (304, ⟨5, .live, false, [(.ro 1 v19.2.f0.length (flat E_B v19.2.f0)), (vI v19.2.f1), (vI v19.2.f2)]⟩)]) (ep := 45) (by kernel_rfl) ?_
                refine .fin rfl ?_
                refine sqN ?_
                obtain ⟨j21, hj21, h⟩ := ljS h
                refine .join (fun s' => ∃ x49 x50 x51 x52 x53 x54 x55, s' = ⟨[(0, (.ro 1 a0.length (flat E_B a0))), (5, (.ptr (304, 5) 0)), (6, (.sref (111, 13) 0 y7.length 7)), (7, (vI v9.1)), (8, (.ptr (128, 19) 0))], [(111, ⟨13, .live, true, flat E_SiiiA4ie y7⟩), (128, ⟨19, .live, true, [(vI v10.1), (vI v18.1), (vI v19.1), (vI x49), (vI x50), (vI x51), (vI x52)]⟩), (304, ⟨5, .live, false, [(.ro 1 x53.length (flat E_B x53)), (vI x54), (vI x55)]⟩)], 58⟩ ∧ j21 x49 x50 x51 x52 x53 x54 x55 = some r) ?_ ?_
                · refine .cond v20 rfl (fun hc22 => ?_) (fun hc22 => ?_)
                  · have h := iT h hc22
                    refine .seq ?_
                    refine .rgI rfl ?_
                    refine .seg tabOk 0 1 [0, 5, 6, 7, 8, 57] [111, 128, 304] (t := [(0, (.ro 1 a0.length (flat E_B a0))), (5, (.ptr (304, 5) 0)), (6, (.sref (111, 13) 0 y7.length 7)), (7, (vI v9.1)), (8, (.ptr (128, 19) 0)), (57, (.ptr (304, 5) 0))]) (h := [(111, ⟨13, .live, true, flat E_SiiiA4ie y7⟩), (128, ⟨19, .live, true, [(vI v10.1), (vI v18.1), (vI v19.1), (vI 16384), (vI 0), (vI 0), (vI 16384)]⟩), (304, ⟨5, .live, false, [(.ro 1 v19.2.f0.length (flat E_B v19.2.f0)), (vI v19.2.f1), (vI v19.2.f2)]⟩)]) (ep := 47) (by kernel_rfl) ?_
                    obtain ⟨v23, hv23, h⟩ := bS h
                    refine .cc true rfl rfl (C_r08_reader_s _ _ _ _ hv23) ent_r08_reader_s rfl rfl rfl rfl (g_cons (g_pl rfl rfl) (g_cons (g_pl rfl rfl) g_nil)) rfl ?_
                    refine .seg tabOk 2 3 [0, 5, 6, 7, 8] [111, 128, 304] (t := [(0, (.ro 1 a0.length (flat E_B a0))), (5, (.ptr (304, 5) 0)), (6, (.sref (111, 13) 0 y7.length 7)), (7, (vI v9.1)), (8, (.ptr (128, 19) 0))]) (h := [(111, ⟨13, .live, true, flat E_SiiiA4ie y7⟩), (128, ⟨19, .live, true, [(vI v10.1), (vI v18.1), (vI v19.1), (vI v23.1), (vI 0), (vI 0), (vI 16384)]⟩), (304, ⟨5, .live, false, [(.ro 1 v23.2.f0.length (flat E_B v23.2.f0)), (vI v23.2.f1), (vI v23.2.f2)]⟩)]) (ep := 48) (by kernel_rfl) ?_
                    refine .fin rfl ?_
                    refine sqN ?_
                    refine .rgI rfl ?_
                    refine .seg tabOk 0 6 [0, 5, 6, 7, 8] [111, 128, 304] (t := [(0, (.ro 1 a0.length (flat E_B a0))), (5, (.ptr (304, 5) 0)), (6, (.sref (111, 13) 0 y7.length 7)), (7, (vI v9.1)), (8, (.ptr (128, 19) 0))]) (h := [(111, ⟨13, .live, true, flat E_SiiiA4ie y7⟩), (128, ⟨19, .live, true, [(vI v10.1), (vI v18.1), (vI v19.1), (vI v23.1), (vI 0), (vI 0), (vI v23.1)]⟩), (304, ⟨5, .live, false, [(.ro 1 v23.2.f0.length (flat E_B v23.2.f0)), (vI v23.2.f1), (vI v23.2.f2)]⟩)]) (ep := 50) (by kernel_rfl) ?_
                    refine .fin rfl ?_
                    exact jkN (by exact .tn [((111, 13), (111, 13)), ((128, 19), (128, 19)), ((304, 5), (304, 5))] ⟨rfl, rfl, rfl, rfl, rfl, trivial⟩ ⟨rfl, ⟨_, rfl, ah_row E_SiiiA4ie⟩, ⟨rfl, ⟨_, rfl, rfl⟩, ⟨rfl, ⟨_, rfl, rfl⟩, trivial⟩⟩⟩ rfl) ⟨_, _, _, _, _, _, _, rfl, h⟩
                  · have h := iF h hc22
                    refine .seq ?_
                    refine .rgI rfl ?_
                    refine .seg tabOk 0 1 [0, 5, 6, 7, 8, 66] [111, 128, 304] (t := [(0, (.ro 1 a0.length (flat E_B a0))), (5, (.ptr (304, 5) 0)), (6, (.sref (111, 13) 0 y7.length 7)), (7, (vI v9.1)), (8, (.ptr (128, 19) 0)), (66, (vI v9.1))]) (h := [(111, ⟨13, .live, true, flat E_SiiiA4ie y7⟩), (128, ⟨19, .live, true, [(vI v10.1), (vI v18.1), (vI v19.1), (vI 16384), (vI 0), (vI 0), (vI 16384)]⟩), (304, ⟨5, .live, false, [(.ro 1 v19.2.f0.length (flat E_B v19.2.f0)), (vI v19.2.f1), (vI v19.2.f2)]⟩)]) (ep := 47) (by kernel_rfl) ?_
                    obtain ⟨v24, hv24, h⟩ := bS h
                    refine .cc true rfl rfl (C_r08_has _ _ _ _ hv24) ent_r08_has rfl rfl rfl rfl (g_cons (g_pl rfl rfl) (g_cons (g_pl rfl rfl) g_nil)) rfl ?_
                    refine .seg tabOk 2 0 [0, 5, 6, 7, 8, 67] [111, 128, 304] (t := [(0, (.ro 1 a0.length (flat E_B a0))), (5, (.ptr (304, 5) 0)), (6, (.sref (111, 13) 0 y7.length 7)), (7, (vI v9.1)), (8, (.ptr (128, 19) 0)), (67, (.val (.bool v24)))]) (h := [(111, ⟨13, .live, true, flat E_SiiiA4ie y7⟩), (128, ⟨19, .live, true, [(vI v10.1), (vI v18.1), (vI v19.1), (vI 16384), (vI 0), (vI 0), (vI 16384)]⟩), (304, ⟨5, .live, false, [(.ro 1 v19.2.f0.length (flat E_B v19.2.f0)), (vI v19.2.f1), (vI v19.2.f2)]⟩)]) (ep := 48) (by kernel_rfl) ?_
                    refine .fin rfl ?_
                    refine sqN ?_
                    refine .cond v24 rfl (fun hc25 => ?_) (fun hc25 => ?_)
                    · have h := iT h hc25
                      refine .seq ?_
                      refine .rgI rfl ?_
                      refine .seg tabOk 0 1 [0, 5, 6, 7, 8, 68] [111, 128, 304] (t := [(0, (.ro 1 a0.length (flat E_B a0))), (5, (.ptr (304, 5) 0)), (6, (.sref (111, 13) 0 y7.length 7)), (7, (vI v9.1)), (8, (.ptr (128, 19) 0)), (68, (.ptr (304, 5) 0))]) (h := [(111, ⟨13, .live, true, flat E_SiiiA4ie y7⟩), (128, ⟨19, .live, true, [(vI v10.1), (vI v18.1), (vI v19.1), (vI 16384), (vI 0), (vI 0), (vI 16384)]⟩), (304, ⟨5, .live, false, [(.ro 1 v19.2.f0.length (flat E_B v19.2.f0)), (vI v19.2.f1), (vI v19.2.f2)]⟩)]) (ep := 50) (by kernel_rfl) ?_
                      obtain ⟨v26, hv26, h⟩ := bS h
                      refine .cc true rfl rfl (C_r08_reader_s _ _ _ _ hv26) ent_r08_reader_s rfl rfl rfl rfl (g_cons (g_pl rfl rfl) (g_cons (g_pl rfl rfl) g_nil)) rfl ?_
                      refine .seg tabOk 2 3 [0, 5, 6, 7, 8] [111, 128, 304] (t := [(0, (.ro 1 a0.length (flat E_B a0))), (5, (.ptr (304, 5) 0)), (6, (.sref (111, 13) 0 y7.length 7)), (7, (vI v9.1)), (8, (.ptr (128, 19) 0))]) (h := [(111, ⟨13, .live, true, flat E_SiiiA4ie y7⟩), (128, ⟨19, .live, true, [(vI v10.1), (vI v18.1), (vI v19.1), (vI v26.1), (vI 0), (vI 0), (vI 16384)]⟩), (304, ⟨5, .live, false, [(.ro 1 v26.2.f0.length (flat E_B v26.2.f0)), (vI v26.2.f1), (vI v26.2.f2)]⟩)]) (ep := 51) (by kernel_rfl) ?_
                      refine .fin rfl ?_
                      refine sqN ?_
                      refine .rgI rfl ?_
                      refine .seg tabOk 0 1 [0, 5, 6, 7, 8, 72] [111, 128, 304] (t := [(0, (.ro 1 a0.length (flat E_B a0))), (5, (.ptr (304, 5) 0)), (6, (.sref (111, 13) 0 y7.length 7)), (7, (vI v9.1)), (8, (.ptr (128, 19) 0)), (72, (.ptr (304, 5) 0))]) (h := [(111, ⟨13, .live, true, flat E_SiiiA4ie y7⟩), (128, ⟨19, .live, true, [(vI v10.1), (vI v18.1), (vI v19.1), (vI v26.1), (vI 0), (vI 0), (vI 16384)]⟩), (304, ⟨5, .live, false, [(.ro 1 v26.2.f0.length (flat E_B v26.2.f0)), (vI v26.2.f1), (vI v26.2.f2)]⟩)]) (ep := 53) (by kernel_rfl) ?_
                      obtain ⟨v27, hv27, h⟩ := bS h
                      refine .cc true rfl rfl (C_r08_reader_s _ _ _ _ hv27) ent_r08_reader_s rfl rfl rfl rfl (g_cons (g_pl rfl rfl) (g_cons (g_pl rfl rfl) g_nil)) rfl ?_
                      refine .seg tabOk 2 3 [0, 5, 6, 7, 8] [111, 128, 304] (t := [(0, (.ro 1 a0.length (flat E_B a0))), (5, (.ptr (304, 5) 0)), (6, (.sref (111, 13) 0 y7.length 7)), (7, (vI v9.1)), (8, (.ptr (128, 19) 0))]) (h := [(111, ⟨13, .live, true, flat E_SiiiA4ie y7⟩), (128, ⟨19, .live, true, [(vI v10.1), (vI v18.1), (vI v19.1), (vI v26.1), (vI 0), (vI 0), (vI v27.1)]⟩), (304, ⟨5, .live, false, [(.ro 1 v27.2.f0.length (flat E_B v27.2.f0)), (vI v27.2.f1), (vI v27.2.f2)]⟩)]) (ep := 54) (by kernel_rfl) ?_
                      refine .fin rfl ?_
                      exact jkN (by exact .tn [((111, 13), (111, 13)), ((128, 19), (128, 19)), ((304, 5), (304, 5))] ⟨rfl, rfl, rfl, rfl, rfl, trivial⟩ ⟨rfl, ⟨_, rfl, ah_row E_SiiiA4ie⟩, ⟨rfl, ⟨_, rfl, rfl⟩, ⟨rfl, ⟨_, rfl, rfl⟩, trivial⟩⟩⟩ rfl) ⟨_, _, _, _, _, _, _, rfl, h⟩
                    · have h := iF h hc25
                      refine .seq ?_
                      refine .rgI rfl ?_
                      refine .seg tabOk 0 1 [0, 5, 6, 7, 8, 76] [111, 128, 304] (t := [(0, (.ro 1 a0.length (flat E_B a0))), (5, (.ptr (304, 5) 0)), (6, (.sref (111, 13) 0 y7.length 7)), (7, (vI v9.1)), (8, (.ptr (128, 19) 0)), (76, (vI v9.1))]) (h := [(111, ⟨13, .live, true, flat E_SiiiA4ie y7⟩), (128, ⟨19, .live, true, [(vI v10.1), (vI v18.1), (vI v19.1), (vI 16384), (vI 0), (vI 0), (vI 16384)]⟩), (304, ⟨5, .live, false, [(.ro 1 v19.2.f0.length (flat E_B v19.2.f0)), (vI v19.2.f1), (vI v19.2.f2)]⟩)]) (ep := 50) (by kernel_rfl) ?_
                      obtain ⟨v28, hv28, h⟩ := bS h
                      refine .cc true rfl rfl (C_r08_has _ _ _ _ hv28) ent_r08_has rfl rfl rfl rfl (g_cons (g_pl rfl rfl) (g_cons (g_pl rfl rfl) g_nil)) rfl ?_
                      refine .seg tabOk 2 0 [0, 5, 6, 7, 8, 77] [111, 128, 304] (t := [(0, (.ro 1 a0.length (flat E_B a0))), (5, (.ptr (304, 5) 0)), (6, (.sref (111, 13) 0 y7.length 7)), (7, (vI v9.1)), (8, (.ptr (128, 19) 0)), (77, (.val (.bool v28)))]) (h := [(111, ⟨13, .live, true, flat E_SiiiA4ie y7⟩), (128, ⟨19, .live, true, [(vI v10.1), (vI v18.1), (vI v19.1), (vI 16384), (vI 0), (vI 0), (vI 16384)]⟩), (304, ⟨5, .live, false, [(.ro 1 v19.2.f0.length (flat E_B v19.2.f0)), (vI v19.2.f1), (vI v19.2.f2)]⟩)]) (ep := 51) (by kernel_rfl) ?_
                      refine .fin rfl ?_
                      refine sqN ?_
                      refine .cond v28 rfl (fun hc29 => ?_) (fun hc29 => ?_)
                      · have h := iT h hc29
                        refine .seq ?_
                        refine .rgI rfl ?_
                        refine .seg tabOk 0 1 [0, 5, 6, 7, 8, 10] [111, 128, 304] (t := [(0, (.ro 1 a0.length (flat E_B a0))), (5, (.ptr (304, 5) 0)), (6, (.sref (111, 13) 0 y7.length 7)), (7, (vI v9.1)), (8, (.ptr (128, 19) 0)), (10, (vI 0))]) (h := [(111, ⟨13, .live, true, flat E_SiiiA4ie y7⟩), (128, ⟨19, .live, true, [(vI v10.1), (vI v18.1), (vI v19.1), (vI 16384), (vI 0), (vI 0), (vI 16384)]⟩), (304, ⟨5, .live, false, [(.ro 1 v19.2.f0.length (flat E_B v19.2.f0)), (vI v19.2.f1), (vI v19.2.f2)]⟩)]) (ep := 53) (by kernel_rfl) ?_
                        refine .fin rfl ?_
                        refine sqN ?_
                        obtain ⟨j30, hj30, h⟩ := ljS h
                        refine .join (fun s' => ∃ x42 x43 x44 x45 x46 x47 x48, s' = ⟨[(0, (.ro 1 a0.length (flat E_B a0))), (5, (.ptr (304, 5) 0)), (6, (.sref (111, 13) 0 y7.length 7)), (7, (vI v9.1)), (8, (.ptr (128, 19) 0))], [(111, ⟨13, .live, true, flat E_SiiiA4ie y7⟩), (128, ⟨19, .live, true, [(vI v10.1), (vI v18.1), (vI v19.1), (vI x42), (vI x43), (vI x44), (vI x45)]⟩), (304, ⟨5, .live, false, [(.ro 1 x46.length (flat E_B x46)), (vI x47), (vI x48)]⟩)], 57⟩ ∧ j30 x42 x43 x44 x45 x46 x47 x48 = some r) ?_ ?_
                        · refine .block ?_
                          refine .loopF (β := Int × Int × Int × Int × (List Int) × Int × Int × Int) (fun v => ⟨[(0, (.ro 1 a0.length (flat E_B a0))), (5, (.ptr (304, 5) 0)), (6, (.sref (111, 13) 0 y7.length 7)), (7, (vI v9.1)), (8, (.ptr (128, 19) 0)), (10, (vI v.2.2.2.2.2.2.2))], [(111, ⟨13, .live, true, flat E_SiiiA4ie y7⟩), (128, ⟨19, .live, true, [(vI v10.1), (vI v18.1), (vI v19.1), (vI v.1), (vI v.2.1), (vI v.2.2.1), (vI v.2.2.2.1)]⟩), (304, ⟨5, .live, false, [(.ro 1 v.2.2.2.2.1.length (flat E_B v.2.2.2.2.1)), (vI v.2.2.2.2.2.1), (vI v.2.2.2.2.2.2.1)]⟩)], 54⟩) (fun m v => L_r08_Read_1 j30 m v.1 v.2.1 v.2.2.1 v.2.2.2.1 v.2.2.2.2.1 v.2.2.2.2.2.1 v.2.2.2.2.2.2.1 v.2.2.2.2.2.2.2 = some r) n (16384, 0, 0, 16384, v19.2.f0, v19.2.f1, v19.2.f2, 0) (by exact .tn [((111, 13), (111, 13)), ((128, 19), (128, 19)), ((304, 5), (304, 5))] ⟨rfl, rfl, rfl, rfl, rfl, rfl, trivial⟩ ⟨rfl, ⟨_, rfl, ah_row E_SiiiA4ie⟩, ⟨rfl, ⟨_, rfl, rfl⟩, ⟨rfl, ⟨_, rfl, rfl⟩, trivial⟩⟩⟩ rfl) h ?_
                          rintro m ⟨y31, y32, y33, y34, y35, y36, y37, y38⟩ h
                          cases m with
                          | zero => exact nomatch h
                          | succ n =>
                            rw [L_r08_Read_1] at h
                            refine .seq ?_
                            refine .seq ?_
                            refine .rgI rfl ?_
                            refine .seg tabOk 0 2 [0, 5, 6, 7, 8, 10, 79] [111, 128, 304] (t := [(0, (.ro 1 a0.length (flat E_B a0))), (5, (.ptr (304, 5) 0)), (6, (.sref (111, 13) 0 y7.length 7)), (7, (vI v9.1)), (8, (.ptr (128, 19) 0)), (10, (vI y38)), (79, (.val (.bool (decide (y38 < 4)))))]) (h := [(111, ⟨13, .live, true, flat E_SiiiA4ie y7⟩), (128, ⟨19, .live, true, [(vI v10.1), (vI v18.1), (vI v19.1), (vI y31), (vI y32), (vI y33), (vI y34)]⟩), (304, ⟨5, .live, false, [(.ro 1 y35.length (flat E_B y35)), (vI y36), (vI y37)]⟩)]) (ep := 56) (by kernel_rfl) ?_
                            refine .fin rfl ?_
                            refine sqN ?_
                            refine .cond (decide (y38 < 4)) rfl (fun hc39 => ?_) (fun hc39 => ?_)
                            · have h := iT h hc39
                              refine .skip ?_
                              refine sqN ?_
                              refine .seq ?_
                              refine .block ?_
                              refine .rgI rfl ?_
                              refine .seg tabOk 0 2 [0, 5, 6, 7, 8, 10, 82, 83] [111, 128, 304] (t := [(0, (.ro 1 a0.length (flat E_B a0))), (5, (.ptr (304, 5) 0)), (6, (.sref (111, 13) 0 y7.length 7)), (7, (vI v9.1)), (8, (.ptr (128, 19) 0)), (10, (vI y38)), (82, (vI y38)), (83, (.ptr (304, 5) 0))]) (h := [(111, ⟨13, .live, true, flat E_SiiiA4ie y7⟩), (128, ⟨19, .live, true, [(vI v10.1), (vI v18.1), (vI v19.1), (vI y31), (vI y32), (vI y33), (vI y34)]⟩), (304, ⟨5, .live, false, [(.ro 1 y35.length (flat E_B y35)), (vI y36), (vI y37)]⟩)]) (ep := 58) (by kernel_rfl) ?_
                              obtain ⟨v40, hv40, h⟩ := bS h
                              refine .cc true rfl rfl (C_r08_reader_s _ _ _ _ hv40) ent_r08_reader_s rfl rfl rfl rfl (g_cons (g_pl rfl rfl) (g_cons (g_pl rfl rfl) g_nil)) rfl ?_
                              refine .seg tabOk 3 1 [0, 5, 6, 7, 8, 10, 82, 84, 85] [111, 128, 304] (t := [(0, (.ro 1 a0.length (flat E_B a0))), (5, (.ptr (304, 5) 0)), (6, (.sref (111, 13) 0 y7.length 7)), (7, (vI v9.1)), (8, (.ptr (128, 19) 0)), (10, (vI y38)), (82, (vI y38)), (84, (vI v40.1)), (85, (.ptr (128, 19) 3))]) (h := [(111, ⟨13, .live, true, flat E_SiiiA4ie y7⟩), (128, ⟨19, .live, true, [(vI v10.1), (vI v18.1), (vI v19.1), (vI y31), (vI y32), (vI y33), (vI y34)]⟩), (304, ⟨5, .live, false, [(.ro 1 v40.2.f0.length (flat E_B v40.2.f0)), (vI v40.2.f1), (vI v40.2.f2)]⟩)]) (ep := 59) (by kernel_rfl) ?_
                              obtain ⟨hb41, h⟩ := gS h
                              refine .oo tabOk rfl rfl rfl (q_iaA rfl rfl rfl rfl rfl rfl hb41) ?_
                              refine .oo tabOk rfl rfl rfl (q_stA E_i (l := ([y31, y32, y33, y34] : List Int)) (v := v40.1) rfl rfl rfl rfl rfl rfl rfl rfl hb41) ?_
                              refine .seg tabOk 6 0 [0, 5, 6, 7, 8, 10] [111, 128, 304] (t := [(0, (.ro 1 a0.length (flat E_B a0))), (5, (.ptr (304, 5) 0)), (6, (.sref (111, 13) 0 y7.length 7)), (7, (vI v9.1)), (8, (.ptr (128, 19) 0)), (10, (vI y38))]) (h := [(111, ⟨13, .live, true, flat E_SiiiA4ie y7⟩), (128, ⟨19, .live, true, [(vI v10.1), (vI v18.1), (vI v19.1), (vI (if y38 = 0 then v40.1 else y31)), (vI (if y38 = 1 then v40.1 else y32)), (vI (if y38 = 2 then v40.1 else y33)), (vI (if y38 = 3 then v40.1 else y34))]⟩), (304, ⟨5, .live, false, [(.ro 1 v40.2.f0.length (flat E_B v40.2.f0)), (vI v40.2.f1), (vI v40.2.f2)]⟩)]) (ep := 60) (by kernel_rfl) ?_
                              refine .fin rfl ?_
                              refine bkN ?_
                              refine sqN ?_
                              refine .rgI rfl ?_
                              refine .seg tabOk 0 3 [0, 5, 6, 7, 8, 10] [111, 128, 304] (t := [(0, (.ro 1 a0.length (flat E_B a0))), (5, (.ptr (304, 5) 0)), (6, (.sref (111, 13) 0 y7.length 7)), (7, (vI v9.1)), (8, (.ptr (128, 19) 0)), (10, (vI (w64 (y38 + 1))))]) (h := [(111, ⟨13, .live, true, flat E_SiiiA4ie y7⟩), (128, ⟨19, .live, true, [(vI v10.1), (vI v18.1), (vI v19.1), (vI (if y38 = 0 then v40.1 else y31)), (vI (if y38 = 1 then v40.1 else y32)), (vI (if y38 = 2 then v40.1 else y33)), (vI (if y38 = 3 then v40.1 else y34))]⟩), (304, ⟨5, .live, false, [(.ro 1 v40.2.f0.length (flat E_B v40.2.f0)), (vI v40.2.f1), (vI v40.2.f2)]⟩)]) (ep := 62) (by kernel_rfl) ?_
                              refine .fin rfl ?_
                              exact jkN (by exact .tn [((111, 13), (111, 13)), ((128, 19), (128, 19)), ((304, 5), (304, 5))] ⟨rfl, rfl, rfl, rfl, rfl, rfl, trivial⟩ ⟨rfl, ⟨_, rfl, ah_row E_SiiiA4ie⟩, ⟨rfl, ⟨_, rfl, rfl⟩, ⟨rfl, ⟨_, rfl, rfl⟩, trivial⟩⟩⟩ rfl) ⟨n, ((if y38 = 0 then v40.1 else y31), (if y38 = 1 then v40.1 else y32), (if y38 = 2 then v40.1 else y33), (if y38 = 3 then v40.1 else y34), v40.2.f0, v40.2.f1, v40.2.f2, (w64 (y38 + 1))), Nat.lt_succ_self n, rfl, h⟩
                            · have h := iF h hc39
                              refine .exit ?_
                              refine sqX ?_
                              refine jkX ?_
                              refine bkE ?_
                              exact jkN (by exact .tn [((111, 13), (111, 13)), ((128, 19), (128, 19)), ((304, 5), (304, 5))] ⟨rfl, rfl, rfl, rfl, rfl, trivial⟩ ⟨rfl, ⟨_, rfl, ah_row E_SiiiA4ie⟩, ⟨rfl, ⟨_, rfl, rfl⟩, ⟨rfl, ⟨_, rfl, rfl⟩, trivial⟩⟩⟩ rfl) ⟨_, _, _, _, _, _, _, rfl, h⟩
                        · rintro _ ⟨x42, x43, x44, x45, x46, x47, x48, rfl, h⟩
                          subst hj30
                          exact jkN (by exact .tn [((111, 13), (111, 13)), ((128, 19), (128, 19)), ((304, 5), (304, 5))] ⟨rfl, rfl, rfl, rfl, rfl, trivial⟩ ⟨rfl, ⟨_, rfl, ah_row E_SiiiA4ie⟩, ⟨rfl, ⟨_, rfl, rfl⟩, ⟨rfl, ⟨_, rfl, rfl⟩, trivial⟩⟩⟩ rfl) ⟨_, _, _, _, _, _, _, rfl, h⟩
                      · have h := iF h hc29
                        refine .skip ?_
                        exact jkN (by exact .tn [((111, 13), (111, 13)), ((128, 19), (128, 19)), ((304, 5), (304, 5))] ⟨rfl, rfl, rfl, rfl, rfl, trivial⟩ ⟨rfl, ⟨_, rfl, ah_row E_SiiiA4ie⟩, ⟨rfl, ⟨_, rfl, rfl⟩, ⟨rfl, ⟨_, rfl, rfl⟩, trivial⟩⟩⟩ rfl) ⟨_, _, _, _, _, _, _, rfl, h⟩
                · rintro _ ⟨x49, x50, x51, x52, x53, x54, x55, rfl, h⟩
                  subst hj21
                  refine sqN ?_
                  refine .seq ?_
                  refine .seq ?_
                  refine .rgI rfl ?_
                  refine .seg tabOk 0 5 [0, 5, 6, 7, 8, 91] [111, 128, 304] (t := [(0, (.ro 1 a0.length (flat E_B a0))), (5, (.ptr (304, 5) 0)), (6, (.sref (111, 13) 0 y7.length 7)), (7, (vI v9.1)), (8, (.ptr (128, 19) 0)), (91, (.val (.bool (!decide (x55 = 0)))))]) (h := [(111, ⟨13, .live, true, flat E_SiiiA4ie y7⟩), (128, ⟨19, .live, true, [(vI v10.1), (vI v18.1), (vI v19.1), (vI x49), (vI x50), (vI x51), (vI x52)]⟩), (304, ⟨5, .live, false, [(.ro 1 x53.length (flat E_B x53)), (vI x54), (vI x55)]⟩)]) (ep := 60) (by kernel_rfl) ?_
                  refine .fin rfl ?_
                  refine sqN ?_
                  refine .cond (!decide (x55 = 0)) rfl (fun hc56 => ?_) (fun hc56 => ?_)
                  · have h := iT h hc56
                    refine .seq ?_
                    refine .rgD rfl ?_
                    refine .seg tabOk 0 7 [2, 3, 4] [111, 128, 304] (t := [(2, .nils), (3, .nils), (4, (vI x55))]) (h := [(111, ⟨13, .live, true, flat E_SiiiA4ie y7⟩), (128, ⟨19, .live, true, [(vI v10.1), (vI v18.1), (vI v19.1), (vI x49), (vI x50), (vI x51), (vI x52)]⟩), (304, ⟨5, .live, false, [(.ro 1 x53.length (flat E_B x53)), (vI x54), (vI x55)]⟩)]) (ep := 61) (by kernel_rfl) ?_
                    refine .fin mixed [2, 3, 4] [] (t := [(2, .nils), (3, .nils), (4, (vI x55))]) (h := []) (ep := 62) rfl (by kernel_rfl) rfl ?_
                    refine sqN ?_
                    refine .pre (.nilRow 2 7 47 rfl (fresh_none rfl)) ?_
                    refine .pre (.nilRow 3 1 63 rfl (fresh_none rfl)) ?_
                    refine .ret ?_
                    refine sqR ?_
                    refine bkR ?_
                    refine jkR ?_
                    refine jkR ?_
                    refine bkR ?_
                    injection h with h
                    subst h
                    exact ⟨.inr rfl, _, _, (f_cons (f_tmp rfl (o1_row E_SiiiA4ie ([] : List T_SiiiA4ie) rfl rfl rfl rfl rfl)) (f_cons (f_tmp rfl (o1_row E_B ([] : List Int) rfl rfl rfl rfl rfl)) (f_cons rfl f_nil))), nd_of rfl, rfl, rfl⟩
                  · have h := iF h hc56
                    refine .skip ?_
                    refine sqN ?_
                    refine .seq ?_
                    refine .rgI rfl ?_
                    refine .seg tabOk 0 3 [0, 5, 7, 96, 98] [111, 304, 1568] (t := [(0, (.ro 1 a0.length (flat E_B a0))), (5, (.ptr (304, 5) 0)), (7, (vI v9.1)), (96, (.sref (111, 13) 0 y7.length 7)), (98, (.sref (1568, 61) 0 ([(⟨v10.1, v18.1, v19.1, (⟨x49, x50, x51, x52⟩ : T_A4i)⟩ : T_SiiiA4ie)] : List T_SiiiA4ie).length 7))]) (h := [(111, ⟨13, .live, true, flat E_SiiiA4ie y7⟩), (304, ⟨5, .live, false, [(.ro 1 x53.length (flat E_B x53)), (vI x54), (vI x55)]⟩), (1568, ⟨61, .live, true, flat E_SiiiA4ie ([(⟨v10.1, v18.1, v19.1, (⟨x49, x50, x51, x52⟩ : T_A4i)⟩ : T_SiiiA4ie)] : List T_SiiiA4ie)⟩)]) (ep := 62) (by kernel_rfl) ?_
                    obtain ⟨hb57, h⟩ := gS h
                    refine .oo tabOk rfl rfl rfl (q_app E_SiiiA4ie (l := y7) rfl rfl rfl rfl rfl rfl rfl rfl rfl rfl rfl rfl rfl (.row ([(⟨v10.1, v18.1, v19.1, (⟨x49, x50, x51, x52⟩ : T_A4i)⟩ : T_SiiiA4ie)] : List T_SiiiA4ie) rfl rfl rfl rfl) hb57) ?_
                    refine .seg tabOk 4 1 [0, 5, 6, 7] [304, 1584] (t := [(0, (.ro 1 a0.length (flat E_B a0))), (5, (.ptr (304, 5) 0)), (6, (.sref (1584, 62) 0 (y7 ++ ([(⟨v10.1, v18.1, v19.1, (⟨x49, x50, x51, x52⟩ : T_A4i)⟩ : T_SiiiA4ie)] : List T_SiiiA4ie)).length 7)), (7, (vI v9.1))]) (h := [(304, ⟨5, .live, false, [(.ro 1 x53.length (flat E_B x53)), (vI x54), (vI x55)]⟩), (1584, ⟨62, .live, true, flat E_SiiiA4ie (y7 ++ ([(⟨v10.1, v18.1, v19.1, (⟨x49, x50, x51, x52⟩ : T_A4i)⟩ : T_SiiiA4ie)] : List T_SiiiA4ie))⟩)]) (ep := 63) (by kernel_rfl) ?_
                    refine .fin rfl ?_
                    refine sqN ?_
                    refine .seq ?_
                    refine .seq ?_
                    refine .rgI rfl ?_
                    refine .seg tabOk 0 1 [0, 5, 6, 7, 100] [304, 1584] (t := [(0, (.ro 1 a0.length (flat E_B a0))), (5, (.ptr (304, 5) 0)), (6, (.sref (1584, 62) 0 (y7 ++ ([(⟨v10.1, v18.1, v19.1, (⟨x49, x50, x51, x52⟩ : T_A4i)⟩ : T_SiiiA4ie)] : List T_SiiiA4ie)).length 7)), (7, (vI v9.1)), (100, (vI v9.1))]) (h := [(304, ⟨5, .live, false, [(.ro 1 x53.length (flat E_B x53)), (vI x54), (vI x55)]⟩), (1584, ⟨62, .live, true, flat E_SiiiA4ie (y7 ++ ([(⟨v10.1, v18.1, v19.1, (⟨x49, x50, x51, x52⟩ : T_A4i)⟩ : T_SiiiA4ie)] : List T_SiiiA4ie))⟩)]) (ep := 65) (by kernel_rfl) ?_
                    obtain ⟨v58, hv58, h⟩ := bS h
                    refine .cc true rfl rfl (C_r08_has _ _ _ _ hv58) ent_r08_has rfl rfl rfl rfl (g_cons (g_pl rfl rfl) (g_cons (g_pl rfl rfl) g_nil)) rfl ?_
                    refine .seg tabOk 2 0 [0, 5, 6, 7, 101] [304, 1584] (t := [(0, (.ro 1 a0.length (flat E_B a0))), (5, (.ptr (304, 5) 0)), (6, (.sref (1584, 62) 0 (y7 ++ ([(⟨v10.1, v18.1, v19.1, (⟨x49, x50, x51, x52⟩ : T_A4i)⟩ : T_SiiiA4ie)] : List T_SiiiA4ie)).length 7)), (7, (vI v9.1)), (101, (.val (.bool v58)))]) (h := [(304, ⟨5, .live, false, [(.ro 1 x53.length (flat E_B x53)), (vI x54), (vI x55)]⟩), (1584, ⟨62, .live, true, flat E_SiiiA4ie (y7 ++ ([(⟨v10.1, v18.1, v19.1, (⟨x49, x50, x51, x52⟩ : T_A4i)⟩ : T_SiiiA4ie)] : List T_SiiiA4ie))⟩)]) (ep := 66) (by kernel_rfl) ?_
                    refine .fin rfl ?_
                    refine sqN ?_
                    refine .cond v58 rfl (fun hc59 => ?_) (fun hc59 => ?_)
                    · have h := iT h hc59
                      refine .seq ?_
                      refine .seq ?_
                      refine .rgI rfl ?_
                      refine .seg tabOk 0 3 [0, 5, 6, 104] [304, 1584] (t := [(0, (.ro 1 a0.length (flat E_B a0))), (5, (.ptr (304, 5) 0)), (6, (.sref (1584, 62) 0 (y7 ++ ([(⟨v10.1, v18.1, v19.1, (⟨x49, x50, x51, x52⟩ : T_A4i)⟩ : T_SiiiA4ie)] : List T_SiiiA4ie)).length 7)), (104, (.val (.bool (decide (64 ≤ ((y7 ++ ([(⟨v10.1, v18.1, v19.1, (⟨x49, x50, x51, x52⟩ : T_A4i)⟩ : T_SiiiA4ie)] : List T_SiiiA4ie)).length : Int))))))]) (h := [(304, ⟨5, .live, false, [(.ro 1 x53.length (flat E_B x53)), (vI x54), (vI x55)]⟩), (1584, ⟨62, .live, true, flat E_SiiiA4ie (y7 ++ ([(⟨v10.1, v18.1, v19.1, (⟨x49, x50, x51, x52⟩ : T_A4i)⟩ : T_SiiiA4ie)] : List T_SiiiA4ie))⟩)]) (ep := 68) (by kernel_rfl) ?_
                      refine .fin rfl ?_
                      refine sqN ?_
                      refine .cond (decide (64 ≤ ((y7 ++ ([(⟨v10.1, v18.1, v19.1, (⟨x49, x50, x51, x52⟩ : T_A4i)⟩ : T_SiiiA4ie)] : List T_SiiiA4ie)).length : Int))) rfl (fun hc60 => ?_) (fun hc60 => ?_)
                      · have h := iT h hc60
                        refine .seq ?_
                        refine .rgI rfl ?_
                        refine .seg tabOk 0 3 [2, 3, 4] [] (t := [(2, .nils), (3, .nils), (4, (vI 7))]) (h := []) (ep := 70) (by kernel_rfl) ?_
                        refine .fin rfl ?_
                        refine sqN ?_
                        refine .pre (.nilRow 2 7 47 rfl (fresh_none rfl)) ?_
                        refine .pre (.nilRow 3 1 63 rfl (fresh_none rfl)) ?_
                        refine .ret ?_
                        refine sqR ?_
                        refine sqR ?_
                        refine bkR ?_
                        refine jkR ?_
                        refine jkR ?_
                        refine bkR ?_
                        injection h with h
                        subst h
                        exact ⟨.inr rfl, _, _, (f_cons (f_tmp rfl (o1_row E_SiiiA4ie ([] : List T_SiiiA4ie) rfl rfl rfl rfl rfl)) (f_cons (f_tmp rfl (o1_row E_B ([] : List Int) rfl rfl rfl rfl rfl)) (f_cons rfl f_nil))), nd_of rfl, rfl, rfl⟩
                      · have h := iF h hc60
                        refine .skip ?_
                        refine sqN ?_
                        refine .exit ?_
                        refine sqX ?_
                        refine bkE ?_
                        exact jkN (by exact .tn [((304, 5), (304, 5)), ((1584, 62), (1584, 62))] ⟨rfl, rfl, rfl, trivial⟩ ⟨rfl, ⟨_, rfl, rfl⟩, ⟨rfl, ⟨_, rfl, ah_row E_SiiiA4ie⟩, trivial⟩⟩ rfl) ⟨_, _, _, _, rfl, h⟩
                    · have h := iF h hc59
                      refine .skip ?_
                      refine sqN ?_
                      refine .seq ?_
                      refine .seq ?_
                      refine .rgI rfl ?_
                      refine .seg tabOk 0 1 [0, 5, 6, 105] [304, 1584] (t := [(0, (.ro 1 a0.length (flat E_B a0))), (5, (.ptr (304, 5) 0)), (6, (.sref (1584, 62) 0 (y7 ++ ([(⟨v10.1, v18.1, v19.1, (⟨x49, x50, x51, x52⟩ : T_A4i)⟩ : T_SiiiA4ie)] : List T_SiiiA4ie)).length 7)), (105, (vI v9.1))]) (h := [(304, ⟨5, .live, false, [(.ro 1 x53.length (flat E_B x53)), (vI x54), (vI x55)]⟩), (1584, ⟨62, .live, true, flat E_SiiiA4ie (y7 ++ ([(⟨v10.1, v18.1, v19.1, (⟨x49, x50, x51, x52⟩ : T_A4i)⟩ : T_SiiiA4ie)] : List T_SiiiA4ie))⟩)]) (ep := 68) (by kernel_rfl) ?_
                      obtain ⟨v61, hv61, h⟩ := bS h
                      refine .cc true rfl rfl (C_r08_has _ _ _ _ hv61) ent_r08_has rfl rfl rfl rfl (g_cons (g_pl rfl rfl) (g_cons (g_pl rfl rfl) g_nil)) rfl ?_
                      refine .seg tabOk 2 1 [0, 5, 6, 107] [304, 1584] (t := [(0, (.ro 1 a0.length (flat E_B a0))), (5, (.ptr (304, 5) 0)), (6, (.sref (1584, 62) 0 (y7 ++ ([(⟨v10.1, v18.1, v19.1, (⟨x49, x50, x51, x52⟩ : T_A4i)⟩ : T_SiiiA4ie)] : List T_SiiiA4ie)).length 7)), (107, (.val (.bool (!v61))))]) (h := [(304, ⟨5, .live, false, [(.ro 1 x53.length (flat E_B x53)), (vI x54), (vI x55)]⟩), (1584, ⟨62, .live, true, flat E_SiiiA4ie (y7 ++ ([(⟨v10.1, v18.1, v19.1, (⟨x49, x50, x51, x52⟩ : T_A4i)⟩ : T_SiiiA4ie)] : List T_SiiiA4ie))⟩)]) (ep := 69) (by kernel_rfl) ?_
                      refine .fin rfl ?_
                      refine sqN ?_
                      refine .cond (!v61) rfl (fun hc62 => ?_) (fun hc62 => ?_)
                      · have h := iT h hc62
                        refine .seq ?_
                        refine .rgI rfl ?_
                        refine .seg tabOk 0 4 [2, 3, 4] [1584] (t := [(2, (.sref (1584, 62) 0 (y7 ++ ([(⟨v10.1, v18.1, v19.1, (⟨x49, x50, x51, x52⟩ : T_A4i)⟩ : T_SiiiA4ie)] : List T_SiiiA4ie)).length 7)), (3, .nils), (4, (vI 0))]) (h := [(1584, ⟨62, .live, true, flat E_SiiiA4ie (y7 ++ ([(⟨v10.1, v18.1, v19.1, (⟨x49, x50, x51, x52⟩ : T_A4i)⟩ : T_SiiiA4ie)] : List T_SiiiA4ie))⟩)]) (ep := 71) (by kernel_rfl) ?_
                        refine .fin rfl ?_
                        refine sqN ?_
                        refine .pre (.nilRow 3 1 63 rfl (fresh_none rfl)) ?_
                        refine .ret ?_
                        refine sqR ?_
                        refine bkR ?_
                        refine jkR ?_
                        refine jkR ?_
                        refine bkR ?_
                        injection h with h
                        subst h
                        exact ⟨.inr rfl, _, _, (f_cons (f_tmp rfl (o1_row E_SiiiA4ie (y7 ++ ([(⟨v10.1, v18.1, v19.1, (⟨x49, x50, x51, x52⟩ : T_A4i)⟩ : T_SiiiA4ie)] : List T_SiiiA4ie)) rfl rfl rfl rfl rfl)) (f_cons (f_tmp rfl (o1_row E_B ([] : List Int) rfl rfl rfl rfl rfl)) (f_cons rfl f_nil))), nd_of rfl, rfl, rfl⟩
                      · have h := iF h hc62
                        refine .skip ?_
                        refine sqN ?_
                        refine .seq ?_
                        refine .rgI rfl ?_
                        refine .seg tabOk 0 1 [0, 5, 6, 109] [304, 1584] (t := [(0, (.ro 1 a0.length (flat E_B a0))), (5, (.ptr (304, 5) 0)), (6, (.sref (1584, 62) 0 (y7 ++ ([(⟨v10.1, v18.1, v19.1, (⟨x49, x50, x51, x52⟩ : T_A4i)⟩ : T_SiiiA4ie)] : List T_SiiiA4ie)).length 7)), (109, (.ptr (304, 5) 0))]) (h := [(304, ⟨5, .live, false, [(.ro 1 x53.length (flat E_B x53)), (vI x54), (vI x55)]⟩), (1584, ⟨62, .live, true, flat E_SiiiA4ie (y7 ++ ([(⟨v10.1, v18.1, v19.1, (⟨x49, x50, x51, x52⟩ : T_A4i)⟩ : T_SiiiA4ie)] : List T_SiiiA4ie))⟩)]) (ep := 71) (by kernel_rfl) ?_
                        obtain ⟨v63, hv63, h⟩ := bS h
                        refine .cc true rfl rfl (C_r08_reader_u _ _ _ hv63) ent_r08_reader_u rfl rfl rfl rfl (g_cons (g_pl rfl rfl) g_nil) rfl ?_
                        refine .seg tabOk 2 1 [0, 5, 6, 11] [304, 1584] (t := [(0, (.ro 1 a0.length (flat E_B a0))), (5, (.ptr (304, 5) 0)), (6, (.sref (1584, 62) 0 (y7 ++ ([(⟨v10.1, v18.1, v19.1, (⟨x49, x50, x51, x52⟩ : T_A4i)⟩ : T_SiiiA4ie)] : List T_SiiiA4ie)).length 7)), (11, (vI v63.1))]) (h := [(304, ⟨5, .live, false, [(.ro 1 v63.2.f0.length (flat E_B v63.2.f0)), (vI v63.2.f1), (vI v63.2.f2)]⟩), (1584, ⟨62, .live, true, flat E_SiiiA4ie (y7 ++ ([(⟨v10.1, v18.1, v19.1, (⟨x49, x50, x51, x52⟩ : T_A4i)⟩ : T_SiiiA4ie)] : List T_SiiiA4ie))⟩)]) (ep := 72) (by kernel_rfl) ?_
                        refine .fin rfl ?_
                        refine sqN ?_
                        refine .seq ?_
                        refine .seq ?_
                        refine .rgI rfl ?_
                        refine .seg tabOk 0 5 [0, 5, 6, 11, 115] [304, 1584] (t := [(0, (.ro 1 a0.length (flat E_B a0))), (5, (.ptr (304, 5) 0)), (6, (.sref (1584, 62) 0 (y7 ++ ([(⟨v10.1, v18.1, v19.1, (⟨x49, x50, x51, x52⟩ : T_A4i)⟩ : T_SiiiA4ie)] : List T_SiiiA4ie)).length 7)), (11, (vI v63.1)), (115, (.val (.bool (!decide (v63.2.f2 = 0)))))]) (h := [(304, ⟨5, .live, false, [(.ro 1 v63.2.f0.length (flat E_B v63.2.f0)), (vI v63.2.f1), (vI v63.2.f2)]⟩), (1584, ⟨62, .live, true, flat E_SiiiA4ie (y7 ++ ([(⟨v10.1, v18.1, v19.1, (⟨x49, x50, x51, x52⟩ : T_A4i)⟩ : T_SiiiA4ie)] : List T_SiiiA4ie))⟩)]) (ep := 74) (by kernel_rfl) ?_
                        refine .fin rfl ?_
                        refine sqN ?_
                        refine .cond (!decide (v63.2.f2 = 0)) rfl (fun hc64 => ?_) (fun hc64 => ?_)
                        · have h := iT h hc64
                          refine .seq ?_
                          refine .rgD rfl ?_
                          refine .seg tabOk 0 7 [2, 3, 4] [304, 1584] (t := [(2, .nils), (3, .nils), (4, (vI v63.2.f2))]) (h := [(304, ⟨5, .live, false, [(.ro 1 v63.2.f0.length (flat E_B v63.2.f0)), (vI v63.2.f1), (vI v63.2.f2)]⟩), (1584, ⟨62, .live, true, flat E_SiiiA4ie (y7 ++ ([(⟨v10.1, v18.1, v19.1, (⟨x49, x50, x51, x52⟩ : T_A4i)⟩ : T_SiiiA4ie)] : List T_SiiiA4ie))⟩)]) (ep := 75) (by kernel_rfl) ?_
                          refine .fin mixed [2, 3, 4] [] (t := [(2, .nils), (3, .nils), (4, (vI v63.2.f2))]) (h := []) (ep := 76) rfl (by kernel_rfl) rfl ?_
                          refine sqN ?_
                          refine .pre (.nilRow 2 7 47 rfl (fresh_none rfl)) ?_
                          refine .pre (.nilRow 3 1 63 rfl (fresh_none rfl)) ?_
                          refine .ret ?_
                          refine sqR ?_
                          refine bkR ?_
                          refine jkR ?_
                          refine jkR ?_
                          refine bkR ?_
                          injection h with h
                          subst h
                          exact ⟨.inr rfl, _, _, (f_cons (f_tmp rfl (o1_row E_SiiiA4ie ([] : List T_SiiiA4ie) rfl rfl rfl rfl rfl)) (f_cons (f_tmp rfl (o1_row E_B ([] : List Int) rfl rfl rfl rfl rfl)) (f_cons rfl f_nil))), nd_of rfl, rfl, rfl⟩
                        · have h := iF h hc64
                          refine .skip ?_
                          refine sqN ?_
                          refine .seq ?_
                          refine .rgI rfl ?_
                          refine .seg tabOk 0 6 [6, 121, 125, 126] [1584] (t := [(6, (.sref (1584, 62) 0 (y7 ++ ([(⟨v10.1, v18.1, v19.1, (⟨x49, x50, x51, x52⟩ : T_A4i)⟩ : T_SiiiA4ie)] : List T_SiiiA4ie)).length 7)), (121, (.ro 1 a0.length (flat E_B a0))), (125, (vI v63.2.f1)), (126, (vI v63.1))]) (h := [(1584, ⟨62, .live, true, flat E_SiiiA4ie (y7 ++ ([(⟨v10.1, v18.1, v19.1, (⟨x49, x50, x51, x52⟩ : T_A4i)⟩ : T_SiiiA4ie)] : List T_SiiiA4ie))⟩)]) (ep := 76) (by kernel_rfl) ?_
                          obtain ⟨v65, hv65, h⟩ := bS h
                          refine .cc true rfl rfl (C_r02_Cut _ _ _ _ _ hv65) ent_r02_Cut rfl rfl rfl rfl (g_cons (g_pl rfl rfl) (g_cons (g_pl rfl rfl) (g_cons (g_pl rfl rfl) g_nil))) rfl ?_
                          refine .seg tabOk 7 5 [6, 12, 13] [1584, 2032] (t := [(6, (.sref (1584, 62) 0 (y7 ++ ([(⟨v10.1, v18.1, v19.1, (⟨x49, x50, x51, x52⟩ : T_A4i)⟩ : T_SiiiA4ie)] : List T_SiiiA4ie)).length 7)), (12, (.sref (2032, 76) 0 v65.1.length 1)), (13, (vI v65.2))]) (h := [(1584, ⟨62, .live, true, flat E_SiiiA4ie (y7 ++ ([(⟨v10.1, v18.1, v19.1, (⟨x49, x50, x51, x52⟩ : T_A4i)⟩ : T_SiiiA4ie)] : List T_SiiiA4ie))⟩), (2032, ⟨76, .live, true, flat E_B v65.1⟩)]) (ep := 77) (by kernel_rfl) ?_
                          refine .fin rfl ?_
                          refine sqN ?_
                          refine .seq ?_
                          refine .seq ?_
                          refine .rgI rfl ?_
                          refine .seg tabOk 0 2 [6, 12, 131] [1584, 2032] (t := [(6, (.sref (1584, 62) 0 (y7 ++ ([(⟨v10.1, v18.1, v19.1, (⟨x49, x50, x51, x52⟩ : T_A4i)⟩ : T_SiiiA4ie)] : List T_SiiiA4ie)).length 7)), (12, (.sref (2032, 76) 0 v65.1.length 1)), (131, (.val (.bool (!decide (v65.2 = 0)))))]) (h := [(1584, ⟨62, .live, true, flat E_SiiiA4ie (y7 ++ ([(⟨v10.1, v18.1, v19.1, (⟨x49, x50, x51, x52⟩ : T_A4i)⟩ : T_SiiiA4ie)] : List T_SiiiA4ie))⟩), (2032, ⟨76, .live, true, flat E_B v65.1⟩)]) (ep := 79) (by kernel_rfl) ?_
                          refine .fin rfl ?_
                          refine sqN ?_
                          refine .cond (!decide (v65.2 = 0)) rfl (fun hc66 => ?_) (fun hc66 => ?_)
                          · have h := iT h hc66
                            refine .seq ?_
                            refine .rgI rfl ?_
                            refine .seg tabOk 0 3 [2, 3, 4] [] (t := [(2, .nils), (3, .nils), (4, (vI 3))]) (h := []) (ep := 81) (by kernel_rfl) ?_
                            refine .fin rfl ?_
                            refine sqN ?_
                            refine .pre (.nilRow 2 7 47 rfl (fresh_none rfl)) ?_
                            refine .pre (.nilRow 3 1 63 rfl (fresh_none rfl)) ?_
                            refine .ret ?_
                            refine sqR ?_
                            refine bkR ?_
                            refine jkR ?_
                            refine jkR ?_
                            refine bkR ?_
                            injection h with h
                            subst h
                            exact ⟨.inr rfl, _, _, (f_cons (f_tmp rfl (o1_row E_SiiiA4ie ([] : List T_SiiiA4ie) rfl rfl rfl rfl rfl)) (f_cons (f_tmp rfl (o1_row E_B ([] : List Int) rfl rfl rfl rfl rfl)) (f_cons rfl f_nil))), nd_of rfl, rfl, rfl⟩
                          · have h := iF h hc66
                            refine .skip ?_
                            refine sqN ?_
                            refine .seq ?_
                            refine .rgI rfl ?_
                            refine .seg tabOk 0 5 [2, 3, 4] [1584, 2032] (t := [(2, (.sref (1584, 62) 0 (y7 ++ ([(⟨v10.1, v18.1, v19.1, (⟨x49, x50, x51, x52⟩ : T_A4i)⟩ : T_SiiiA4ie)] : List T_SiiiA4ie)).length 7)), (3, (.sref (2032, 76) 0 v65.1.length 1)), (4, (vI 0))]) (h := [(1584, ⟨62, .live, true, flat E_SiiiA4ie (y7 ++ ([(⟨v10.1, v18.1, v19.1, (⟨x49, x50, x51, x52⟩ : T_A4i)⟩ : T_SiiiA4ie)] : List T_SiiiA4ie))⟩), (2032, ⟨76, .live, true, flat E_B v65.1⟩)]) (ep := 81) (by kernel_rfl) ?_
                            refine .fin rfl ?_
                            refine sqN ?_
                            refine .ret ?_
                            refine bkR ?_
                            refine jkR ?_
                            refine jkR ?_
                            refine bkR ?_
                            injection h with h
                            subst h
                            exact ⟨.inr rfl, _, _, (f_cons (f_tmp rfl (o1_row E_SiiiA4ie (y7 ++ ([(⟨v10.1, v18.1, v19.1, (⟨x49, x50, x51, x52⟩ : T_A4i)⟩ : T_SiiiA4ie)] : List T_SiiiA4ie)) rfl rfl rfl rfl rfl)) (f_cons (f_tmp rfl (o1_row E_B v65.1 rfl rfl rfl rfl rfl)) (f_cons rfl f_nil))), nd_of rfl, rfl, rfl⟩
        · rintro _ ⟨x67, x68, x69, x70, rfl, h⟩
          subst hj8
          exact jkN (by exact .tn [((1584, 62), (111, 13)), ((304, 5), (304, 5))] ⟨rfl, rfl, rfl, trivial⟩ ⟨rfl, ⟨_, rfl, ah_row E_SiiiA4ie⟩, ⟨rfl, ⟨_, rfl, rfl⟩, trivial⟩⟩ rfl) ⟨n, (x67, x68, x69, x70), Nat.lt_succ_self n, rfl, h⟩
abbrev R_r02_Same := Bool
def F_r02_Same (n : Nat) (a0 : (List Int)) (a1 : (List Int)) : Option R_r02_Same :=
  some ((bstr a0).toList == (bstr a1).toList)
theorem C_r02_Same (n : Nat) (a0 : (List Int)) (a1 : (List Int)) (r : R_r02_Same) (h : F_r02_Same n a0 a1 = some r) : CallS Try.prog 19 [(.ro 1 a0.length (flat E_B a0)), (.ro 1 a1.length (flat E_B a1))] (.val (.bool r)) [none, none] := by
  refine CallS.introK tabOk Try.func19 rfl Try.ntmps19 (Nat.le_of_ble_eq_true rfl) ?_
  rw [F_r02_Same] at h
  refine .seq ?_
  refine .rgI rfl ?_
  refine .seg tabOk 0 1 [0, 1] [] (t := [(0, (.ro 1 a0.length (flat E_B a0))), (1, (.ro 1 a1.length (flat E_B a1)))]) (h := []) (ep := 2) (by kernel_rfl) ?_
  refine .fin rfl ?_
  refine sqN ?_
  refine .seq ?_
  refine .rgI rfl ?_
  refine .seg tabOk 0 1 [1, 5] [] (t := [(1, (.ro 1 a1.length (flat E_B a1))), (5, (.ro 1 a0.length (flat E_B a0)))]) (h := []) (ep := 4) (by kernel_rfl) ?_
  refine .oo tabOk rfl rfl rfl (q_str E_B (fun _ => rfl) rfl rfl rfl rfl rfl rfl rfl rfl) ?_
  refine .seg tabOk 2 1 [6, 7] [] (t := [(6, (.val (.string (bstr a0)))), (7, (.ro 1 a1.length (flat E_B a1)))]) (h := []) (ep := 5) (by kernel_rfl) ?_
  refine .oo tabOk rfl rfl rfl (q_str E_B (fun _ => rfl) rfl rfl rfl rfl rfl rfl rfl rfl) ?_
  refine .seg tabOk 4 2 [4] [] (t := [(4, (.val (.bool ((bstr a0).toList == (bstr a1).toList))))]) (h := []) (ep := 6) (by kernel_rfl) ?_
  refine .fin rfl ?_
  refine sqN ?_
  refine .ret ?_
  injection h with h
  subst h
  exact ⟨.inr rfl, _, _, rfl, List.nodup_nil, rfl, rfl⟩
abbrev R_law08_CompoReads := Bool
def L_law08_CompoReads_0 (v4 : R_compo_Read) (j13 : Unit → Option R_law08_CompoReads) : Nat → (List Int) → Int → Option R_law08_CompoReads
  | 0, _, _ => none
  | n + 1, y14, y15 =>
    if (decide (y15 < (v4.2.1.length : Int))) then
      gd (0 ≤ y15 ∧ y15 < y14.length) <|
      gd (0 ≤ y15 ∧ y15 < y14.length) <|
      L_law08_CompoReads_0 v4 j13 n (y14.set (Int.toNat y15) (IntKind.wrap .u8 ((nth E_B y14 y15) + 1))) (w64 (y15 + 1))
    else
    j13 ()
def F_law08_CompoReads (n : Nat) (a0 : (List Int)) : Option R_law08_CompoReads :=
  Option.bind (F_law08_alive n ) fun v1 =>
  if (!v1) then
    some false
  else
  Option.bind (F_r02_Copy n a0) fun v3 =>
  Option.bind (F_compo_Read n v3) fun v4 =>
  Option.bind (F_r08_Read n a0) fun v5 =>
  lj (fun (x10 : Bool) =>
    if x10 then
      some false
    else
    lj (fun (_ : Unit) =>
      Option.bind (F_r02_Same n v3 a0) fun v19 =>
      some v19) fun j13 =>
    L_law08_CompoReads_0 v4 j13 n v4.2.1 0) fun j11 =>
  if (!decide (v4.2.2 = v5.2.2)) then
    j11 true
  else
  Option.bind (F_r08_Same n v4.1 v5.1) fun v7 =>
  if (!v7) then
    j11 true
  else
  Option.bind (F_r02_Same n v4.2.1 v5.2.1) fun v9 =>
  j11 (!v9)
theorem C_law08_CompoReads (n : Nat) (a0 : (List Int)) (r : R_law08_CompoReads) (h : F_law08_CompoReads n a0 = some r) : CallS Try.prog 3 [(.ro 1 a0.length (flat E_B a0))] (.val (.bool r)) [none] := by
  refine CallS.introK tabOk Try.func3 rfl Try.ntmps3 (Nat.le_of_ble_eq_true rfl) ?_
  rw [F_law08_CompoReads] at h
  refine .seq ?_
  refine .rgI rfl ?_
  refine .seg tabOk 0 1 [0] [] (t := [(0, (.ro 1 a0.length (flat E_B a0)))]) (h := []) (ep := 2) (by kernel_rfl) ?_
  refine .fin rfl ?_
  refine sqN ?_
  refine .seq ?_
  refine .seq ?_
  refine .rgI rfl ?_
  obtain ⟨v1, hv1, h⟩ := bS h
  refine .cc true rfl rfl (C_law08_alive _ _ hv1) ent_law08_alive rfl rfl rfl rfl g_nil rfl ?_
  refine .seg tabOk 1 1 [0, 12] [] (t := [(0, (.ro 1 a0.length (flat E_B a0))), (12, (.val (.bool (!v1))))]) (h := []) (ep := 4) (by kernel_rfl) ?_
  refine .fin rfl ?_
  refine sqN ?_
  refine .cond (!v1) rfl (fun hc2 => ?_) (fun hc2 => ?_)
  · have h := iT h hc2
    refine .seq ?_
    refine .rgI rfl ?_
    refine .seg tabOk 0 1 [2] [] (t := [(2, (.val (.bool false)))]) (h := []) (ep := 6) (by kernel_rfl) ?_
    refine .fin rfl ?_
    refine sqN ?_
    refine .ret ?_
    refine sqR ?_
    injection h with h
    subst h
    exact ⟨.inr rfl, _, _, rfl, List.nodup_nil, rfl, rfl⟩
  · have h := iF h hc2
    refine .skip ?_
    refine sqN ?_
    refine .seq ?_
    refine .rgI rfl ?_
    refine .seg tabOk 0 1 [0, 13] [] (t := [(0, (.ro 1 a0.length (flat E_B a0))), (13, (.ro 1 a0.length (flat E_B a0)))]) (h := []) (ep := 6) (by kernel_rfl) ?_
    obtain ⟨v3, hv3, h⟩ := bS h
    refine .cc true rfl rfl (C_r02_Copy _ _ _ hv3) ent_r02_Copy rfl rfl rfl rfl (g_cons (g_pl rfl rfl) g_nil) rfl ?_
    refine .seg tabOk 2 1 [0, 3] [224] (t := [(0, (.ro 1 a0.length (flat E_B a0))), (3, (.sref (224, 6) 0 v3.length 1))]) (h := [(224, ⟨6, .live, true, flat E_B v3⟩)]) (ep := 7) (by kernel_rfl) ?_
    refine .fin rfl ?_
    refine sqN ?_
    refine .seq ?_
    refine .rgI rfl ?_
    refine .seg tabOk 0 1 [0, 3, 16] [224] (t := [(0, (.ro 1 a0.length (flat E_B a0))), (3, (.sref (224, 6) 0 v3.length 1)), (16, (.sref (224, 6) 0 v3.length 1))]) (h := [(224, ⟨6, .live, true, flat E_B v3⟩)]) (ep := 9) (by kernel_rfl) ?_
    obtain ⟨v4, hv4, h⟩ := bS h
    refine .cc true rfl rfl (C_compo_Read _ _ _ hv4) ent_compo_Read rfl rfl rfl rfl (g_cons (g_row E_B v3 rfl rfl rfl rfl rfl) g_nil) rfl ?_
    refine .seg tabOk 2 7 [0, 3, 4, 5, 6] [224, 272, 273] (t := [(0, (.ro 1 a0.length (flat E_B a0))), (3, (.sref (224, 6) 0 v3.length 1)), (4, (.sref (272, 9) 0 v4.1.length 7)), (5, (.sref (273, 9) 0 v4.2.1.length 1)), (6, (vI v4.2.2))]) (h := [(224, ⟨6, .froz, true, flat E_B v3⟩), (272, ⟨9, .live, true, flat E_SiiiA4ie v4.1⟩), (273, ⟨9, .live, true, flat E_B v4.2.1⟩)]) (ep := 10) (by kernel_rfl) ?_
    refine .fin rfl ?_
    refine sqN ?_
    refine .seq ?_
    refine .rgI rfl ?_
    refine .seg tabOk 0 1 [0, 3, 4, 5, 6, 22] [224, 272, 273] (t := [(0, (.ro 1 a0.length (flat E_B a0))), (3, (.sref (224, 6) 0 v3.length 1)), (4, (.sref (272, 9) 0 v4.1.length 7)), (5, (.sref (273, 9) 0 v4.2.1.length 1)), (6, (vI v4.2.2)), (22, (.ro 1 a0.length (flat E_B a0)))]) (h := [(224, ⟨6, .froz, true, flat E_B v3⟩), (272, ⟨9, .live, true, flat E_SiiiA4ie v4.1⟩), (273, ⟨9, .live, true, flat E_B v4.2.1⟩)]) (ep := 12) (by kernel_rfl) ?_
    obtain ⟨v5, hv5, h⟩ := bS h
    refine .cc true rfl rfl (C_r08_Read _ _ _ hv5) ent_r08_Read rfl rfl rfl rfl (g_cons (g_pl rfl rfl) g_nil) rfl ?_
    refine .seg tabOk 2 7 [0, 3, 4, 5, 6, 7, 8, 9] [224, 272, 273, 368, 369] (t := [(0, (.ro 1 a0.length (flat E_B a0))), (3, (.sref (224, 6) 0 v3.length 1)), (4, (.sref (272, 9) 0 v4.1.length 7)), (5, (.sref (273, 9) 0 v4.2.1.length 1)), (6, (vI v4.2.2)), (7, (.sref (368, 12) 0 v5.1.length 7)), (8, (.sref (369, 12) 0 v5.2.1.length 1)), (9, (vI v5.2.2))]) (h := [(224, ⟨6, .froz, true, flat E_B v3⟩), (272, ⟨9, .live, true, flat E_SiiiA4ie v4.1⟩), (273, ⟨9, .live, true, flat E_B v4.2.1⟩), (368, ⟨12, .live, true, flat E_SiiiA4ie v5.1⟩), (369, ⟨12, .live, true, flat E_B v5.2.1⟩)]) (ep := 13) (by kernel_rfl) ?_
    refine .fin rfl ?_
    refine sqN ?_
    refine .seq ?_
    refine .seq ?_
    obtain ⟨j11, hj11, h⟩ := ljS h
    refine .join (fun s' => ∃ x10, s' = ⟨[(0, (.ro 1 a0.length (flat E_B a0))), (3, (.sref (224, 6) 0 v3.length 1)), (5, (.sref (273, 9) 0 v4.2.1.length 1)), (41, (.val (.bool x10)))], [(224, ⟨6, .froz, true, flat E_B v3⟩), (273, ⟨9, .live, true, flat E_B v4.2.1⟩)], 20⟩ ∧ j11 x10 = some r) ?_ ?_
    · refine .rgI rfl ?_
      refine .seg tabOk 0 4 [0, 3, 4, 5, 7, 8, 30] [224, 272, 273, 368, 369] (t := [(0, (.ro 1 a0.length (flat E_B a0))), (3, (.sref (224, 6) 0 v3.length 1)), (4, (.sref (272, 9) 0 v4.1.length 7)), (5, (.sref (273, 9) 0 v4.2.1.length 1)), (7, (.sref (368, 12) 0 v5.1.length 7)), (8, (.sref (369, 12) 0 v5.2.1.length 1)), (30, (.val (.bool (!decide (v4.2.2 = v5.2.2)))))]) (h := [(224, ⟨6, .froz, true, flat E_B v3⟩), (272, ⟨9, .live, true, flat E_SiiiA4ie v4.1⟩), (273, ⟨9, .live, true, flat E_B v4.2.1⟩), (368, ⟨12, .live, true, flat E_SiiiA4ie v5.1⟩), (369, ⟨12, .live, true, flat E_B v5.2.1⟩)]) (ep := 15) (by kernel_rfl) ?_
      cases hB6 : (!decide (v4.2.2 = v5.2.2)) with
      | false =>
        have h := iF h hB6
        refine .seg tabOk 4 2 [0, 3, 5, 8, 30, 31, 32] [224, 272, 273, 368, 369] (t := [(0, (.ro 1 a0.length (flat E_B a0))), (3, (.sref (224, 6) 0 v3.length 1)), (5, (.sref (273, 9) 0 v4.2.1.length 1)), (8, (.sref (369, 12) 0 v5.2.1.length 1)), (30, (.val (.bool false))), (31, (.sref (272, 9) 0 v4.1.length 7)), (32, (.sref (368, 12) 0 v5.1.length 7))]) (h := [(224, ⟨6, .froz, true, flat E_B v3⟩), (272, ⟨9, .live, true, flat E_SiiiA4ie v4.1⟩), (273, ⟨9, .live, true, flat E_B v4.2.1⟩), (368, ⟨12, .live, true, flat E_SiiiA4ie v5.1⟩), (369, ⟨12, .live, true, flat E_B v5.2.1⟩)]) (ep := 16) (by kernel_rfl) ?_
        obtain ⟨v7, hv7, h⟩ := bS h
        refine .cc false rfl rfl (C_r08_Same _ _ _ _ hv7) ent_r08_Same rfl rfl rfl rfl (g_cons (g_row E_SiiiA4ie v4.1 rfl rfl rfl rfl rfl) (g_cons (g_row E_SiiiA4ie v5.1 rfl rfl rfl rfl rfl) g_nil)) rfl ?_
        refine .seg tabOk 7 3 [0, 3, 5, 8, 36] [224, 273, 369] (t := [(0, (.ro 1 a0.length (flat E_B a0))), (3, (.sref (224, 6) 0 v3.length 1)), (5, (.sref (273, 9) 0 v4.2.1.length 1)), (8, (.sref (369, 12) 0 v5.2.1.length 1)), (36, (.val (.bool (!v7))))]) (h := [(224, ⟨6, .froz, true, flat E_B v3⟩), (273, ⟨9, .live, true, flat E_B v4.2.1⟩), (369, ⟨12, .live, true, flat E_B v5.2.1⟩)]) (ep := 17) (by kernel_rfl) ?_
        cases hB8 : (!v7) with
        | false =>
          have h := iF h hB8
          refine .seg tabOk 10 2 [0, 3, 5, 36, 37, 38] [224, 273, 369] (t := [(0, (.ro 1 a0.length (flat E_B a0))), (3, (.sref (224, 6) 0 v3.length 1)), (5, (.sref (273, 9) 0 v4.2.1.length 1)), (36, (.val (.bool false))), (37, (.sref (273, 9) 0 v4.2.1.length 1)), (38, (.sref (369, 12) 0 v5.2.1.length 1))]) (h := [(224, ⟨6, .froz, true, flat E_B v3⟩), (273, ⟨9, .live, true, flat E_B v4.2.1⟩), (369, ⟨12, .live, true, flat E_B v5.2.1⟩)]) (ep := 18) (by kernel_rfl) ?_
          obtain ⟨v9, hv9, h⟩ := bS h
          refine .cc false rfl rfl (C_r02_Same _ _ _ _ hv9) ent_r02_Same rfl rfl rfl rfl (g_cons (g_row E_B v4.2.1 rfl rfl rfl rfl rfl) (g_cons (g_row E_B v5.2.1 rfl rfl rfl rfl rfl) g_nil)) rfl ?_
          refine .seg tabOk 13 2 [0, 3, 5, 41] [224, 273] (t := [(0, (.ro 1 a0.length (flat E_B a0))), (3, (.sref (224, 6) 0 v3.length 1)), (5, (.sref (273, 9) 0 v4.2.1.length 1)), (41, (.val (.bool (!v9))))]) (h := [(224, ⟨6, .froz, true, flat E_B v3⟩), (273, ⟨9, .live, true, flat E_B v4.2.1⟩)]) (ep := 19) (by kernel_rfl) ?_
          refine .fin rfl ?_
          exact jkN (by exact .tn [((224, 6), (224, 6)), ((273, 9), (273, 9))] ⟨rfl, rfl, rfl, rfl, trivial⟩ ⟨rfl, ⟨_, rfl, ah_row E_B⟩, ⟨rfl, ⟨_, rfl, ah_row E_B⟩, trivial⟩⟩ rfl) ⟨_, rfl, h⟩
        | true =>
          have h := iT h hB8
          refine .seg tabOk 10 5 [0, 3, 5, 41] [224, 273] (t := [(0, (.ro 1 a0.length (flat E_B a0))), (3, (.sref (224, 6) 0 v3.length 1)), (5, (.sref (273, 9) 0 v4.2.1.length 1)), (41, (.val (.bool true)))]) (h := [(224, ⟨6, .froz, true, flat E_B v3⟩), (273, ⟨9, .live, true, flat E_B v4.2.1⟩)]) (ep := 18) (by kernel_rfl) ?_
          refine .fin rfl ?_
          exact jkN (by exact .tn [((224, 6), (224, 6)), ((273, 9), (273, 9))] ⟨rfl, rfl, rfl, rfl, trivial⟩ ⟨rfl, ⟨_, rfl, ah_row E_B⟩, ⟨rfl, ⟨_, rfl, ah_row E_B⟩, trivial⟩⟩ rfl) ⟨_, rfl, h⟩
      | true =>
        have h := iT h hB6
        refine .seg tabOk 4 11 [0, 3, 5, 41] [224, 273] (t := [(0, (.ro 1 a0.length (flat E_B a0))), (3, (.sref (224, 6) 0 v3.length 1)), (5, (.sref (273, 9) 0 v4.2.1.length 1)), (41, (.val (.bool true)))]) (h := [(224, ⟨6, .froz, true, flat E_B v3⟩), (273, ⟨9, .live, true, flat E_B v4.2.1⟩)]) (ep := 16) (by kernel_rfl) ?_
        refine .fin rfl ?_
        exact jkN (by exact .tn [((224, 6), (224, 6)), ((273, 9), (273, 9))] ⟨rfl, rfl, rfl, rfl, trivial⟩ ⟨rfl, ⟨_, rfl, ah_row E_B⟩, ⟨rfl, ⟨_, rfl, ah_row E_B⟩, trivial⟩⟩ rfl) ⟨_, rfl, h⟩
    · rintro _ ⟨x10, rfl, h⟩
      subst hj11
      refine sqN ?_
      refine .cond x10 rfl (fun hc12 => ?_) (fun hc12 => ?_)
      · have h := iT h hc12
        refine .seq ?_
        refine .rgI rfl ?_
        refine .seg tabOk 0 1 [2] [] (t := [(2, (.val (.bool false)))]) (h := []) (ep := 22) (by kernel_rfl) ?_
        refine .fin rfl ?_
        refine sqN ?_
        refine .ret ?_
        refine sqR ?_
        injection h with h
        subst h
        exact ⟨.inr rfl, _, _, rfl, List.nodup_nil, rfl, rfl⟩
      · have h := iF h hc12
        refine .skip ?_
        refine sqN ?_
        refine .seq ?_
        refine .seq ?_
        refine .rgI rfl ?_
        refine .seg tabOk 0 3 [0, 3, 5, 43, 44] [224, 273] (t := [(0, (.ro 1 a0.length (flat E_B a0))), (3, (.sref (224, 6) 0 v3.length 1)), (5, (.sref (273, 9) 0 v4.2.1.length 1)), (43, (vI (v4.2.1.length : Int))), (44, (vI 0))]) (h := [(224, ⟨6, .froz, true, flat E_B v3⟩), (273, ⟨9, .live, true, flat E_B v4.2.1⟩)]) (ep := 22) (by kernel_rfl) ?_
        refine .fin rfl ?_
        refine sqN ?_
        obtain ⟨j13, hj13, h⟩ := ljS h
        refine .join (fun s' => s' = ⟨[(0, (.ro 1 a0.length (flat E_B a0))), (3, (.sref (224, 6) 0 v3.length 1))], [(224, ⟨6, .froz, true, flat E_B v3⟩)], 26⟩ ∧ j13 () = some r) ?_ ?_
        · refine .block ?_
          refine .loopF (β := (List Int) × Int) (fun v => ⟨[(0, (.ro 1 a0.length (flat E_B a0))), (3, (.sref (224, 6) 0 v3.length 1)), (5, (.sref (273, 9) 0 v.1.length 1)), (43, (vI (v4.2.1.length : Int))), (44, (vI v.2))], [(224, ⟨6, .froz, true, flat E_B v3⟩), (273, ⟨9, .live, true, flat E_B v.1⟩)], 23⟩) (fun m v => L_law08_CompoReads_0 v4 j13 m v.1 v.2 = some r) n (v4.2.1, 0) (by exact .tn [((224, 6), (224, 6)), ((273, 9), (273, 9))] ⟨rfl, rfl, rfl, rfl, rfl, trivial⟩ ⟨rfl, ⟨_, rfl, ah_row E_B⟩, ⟨rfl, ⟨_, rfl, ah_row E_B⟩, trivial⟩⟩ rfl) h ?_
          rintro m ⟨y14, y15⟩ h
          cases m with
          | zero => exact nomatch h
          | succ n =>
            rw [L_law08_CompoReads_0] at h
            refine .seq ?_
            refine .rgI rfl ?_
            refine .seg tabOk 0 1 [0, 3, 5, 43, 44, 45] [224, 273] (t := [(0, (.ro 1 a0.length (flat E_B a0))), (3, (.sref (224, 6) 0 v3.length 1)), (5, (.sref (273, 9) 0 y14.length 1)), (43, (vI (v4.2.1.length : Int))), (44, (vI y15)), (45, (.val (.bool (decide (y15 < (v4.2.1.length : Int))))))]) (h := [(224, ⟨6, .froz, true, flat E_B v3⟩), (273, ⟨9, .live, true, flat E_B y14⟩)]) (ep := 25) (by kernel_rfl) ?_
            refine .fin rfl ?_
            refine sqN ?_
            refine .seq ?_
            refine .cond (decide (y15 < (v4.2.1.length : Int))) rfl (fun hc16 => ?_) (fun hc16 => ?_)
            · have h := iT h hc16
              refine .skip ?_
              refine sqN ?_
              refine .seq ?_
              refine .block ?_
              refine .seq ?_
              refine .rgI rfl ?_
              refine .seg tabOk 0 2 [0, 3, 5, 10, 43, 44] [224, 273] (t := [(0, (.ro 1 a0.length (flat E_B a0))), (3, (.sref (224, 6) 0 v3.length 1)), (5, (.sref (273, 9) 0 y14.length 1)), (10, (vI y15)), (43, (vI (v4.2.1.length : Int))), (44, (vI y15))]) (h := [(224, ⟨6, .froz, true, flat E_B v3⟩), (273, ⟨9, .live, true, flat E_B y14⟩)]) (ep := 27) (by kernel_rfl) ?_
              refine .fin rfl ?_
              refine sqN ?_
              refine .rgI rfl ?_
              refine .seg tabOk 0 4 [0, 3, 5, 43, 44, 47, 48, 49, 50] [224, 273] (t := [(0, (.ro 1 a0.length (flat E_B a0))), (3, (.sref (224, 6) 0 v3.length 1)), (5, (.sref (273, 9) 0 y14.length 1)), (43, (vI (v4.2.1.length : Int))), (44, (vI y15)), (47, (.sref (273, 9) 0 y14.length 1)), (48, (vI y15)), (49, (.sref (273, 9) 0 y14.length 1)), (50, (vI y15))]) (h := [(224, ⟨6, .froz, true, flat E_B v3⟩), (273, ⟨9, .live, true, flat E_B y14⟩)]) (ep := 29) (by kernel_rfl) ?_
              obtain ⟨hb17, h⟩ := gS h
              refine .oo tabOk rfl rfl rfl (q_idxS E_B (l := y14) rfl rfl rfl rfl rfl rfl rfl rfl hb17) ?_
              refine .oo tabOk rfl rfl rfl (q_ldS E_B (l := y14) rfl rfl rfl rfl rfl hb17 rfl) ?_
              refine .seg tabOk 6 1 [0, 3, 5, 43, 44, 47, 48, 53] [224, 273] (t := [(0, (.ro 1 a0.length (flat E_B a0))), (3, (.sref (224, 6) 0 v3.length 1)), (5, (.sref (273, 9) 0 y14.length 1)), (43, (vI (v4.2.1.length : Int))), (44, (vI y15)), (47, (.sref (273, 9) 0 y14.length 1)), (48, (vI y15)), (53, (.val (.int .u8 (IntKind.wrap .u8 ((nth E_B y14 y15) + 1)))))]) (h := [(224, ⟨6, .froz, true, flat E_B v3⟩), (273, ⟨9, .live, true, flat E_B y14⟩)]) (ep := 30) (by kernel_rfl) ?_
              obtain ⟨hb18, h⟩ := gS h
              refine .oo tabOk rfl rfl rfl (q_idxS E_B (l := y14) rfl rfl rfl rfl rfl rfl rfl rfl hb18) ?_
              refine .oo tabOk rfl rfl rfl (q_stS E_B (l := y14) (v := (IntKind.wrap .u8 ((nth E_B y14 y15) + 1))) rfl rfl rfl rfl rfl rfl rfl rfl hb18) ?_
              refine .seg tabOk 9 0 [0, 3, 5, 43, 44] [224, 273] (t := [(0, (.ro 1 a0.length (flat E_B a0))), (3, (.sref (224, 6) 0 v3.length 1)), (5, (.sref (273, 9) 0 y14.length 1)), (43, (vI (v4.2.1.length : Int))), (44, (vI y15))]) (h := [(224, ⟨6, .froz, true, flat E_B v3⟩), (273, ⟨9, .live, true, flat E_B (y14.set (Int.toNat y15) (IntKind.wrap .u8 ((nth E_B y14 y15) + 1)))⟩)]) (ep := 31) (by kernel_rfl) ?_
              refine .fin rfl ?_
              refine bkN ?_
              refine sqN ?_
              refine .rgI rfl ?_
              refine .seg tabOk 0 2 [0, 3, 5, 43, 44] [224, 273] (t := [(0, (.ro 1 a0.length (flat E_B a0))), (3, (.sref (224, 6) 0 v3.length 1)), (5, (.sref (273, 9) 0 y14.length 1)), (43, (vI (v4.2.1.length : Int))), (44, (vI (w64 (y15 + 1))))]) (h := [(224, ⟨6, .froz, true, flat E_B v3⟩), (273, ⟨9, .live, true, flat E_B (y14.set (Int.toNat y15) (IntKind.wrap .u8 ((nth E_B y14 y15) + 1)))⟩)]) (ep := 33) (by kernel_rfl) ?_
              refine .fin rfl ?_
              exact jkN (by exact .tn [((224, 6), (224, 6)), ((273, 9), (273, 9))] ⟨rfl, rfl, (sref_len (by simp) rfl), rfl, rfl, trivial⟩ ⟨rfl, ⟨_, rfl, ah_row E_B⟩, ⟨rfl, ⟨_, rfl, ah_row E_B⟩, trivial⟩⟩ rfl) ⟨n, ((y14.set (Int.toNat y15) (IntKind.wrap .u8 ((nth E_B y14 y15) + 1))), (w64 (y15 + 1))), Nat.lt_succ_self n, rfl, h⟩
            · have h := iF h hc16
              refine .exit ?_
              refine sqX ?_
              refine jkX ?_
              refine bkE ?_
              exact jkN (by exact .tn [((224, 6), (224, 6))] ⟨rfl, rfl, trivial⟩ ⟨rfl, ⟨_, rfl, ah_row E_B⟩, trivial⟩ rfl) ⟨rfl, h⟩
        · rintro _ ⟨rfl, h⟩
          subst hj13
          refine sqN ?_
          refine .seq ?_
          refine .rgI rfl ?_
          refine .seg tabOk 0 2 [56, 57] [224] (t := [(56, (.sref (224, 6) 0 v3.length 1)), (57, (.ro 1 a0.length (flat E_B a0)))]) (h := [(224, ⟨6, .froz, true, flat E_B v3⟩)]) (ep := 28) (by kernel_rfl) ?_
          obtain ⟨v19, hv19, h⟩ := bS h
          refine .cc true rfl rfl (C_r02_Same _ _ _ _ hv19) ent_r02_Same rfl rfl rfl rfl (g_cons (g_rowF E_B v3 rfl rfl rfl rfl rfl) (g_cons (g_pl rfl rfl) g_nil)) rfl ?_
          refine .seg tabOk 3 1 [2] [] (t := [(2, (.val (.bool v19)))]) (h := []) (ep := 29) (by kernel_rfl) ?_
          refine .fin rfl ?_
          refine sqN ?_
          refine .ret ?_
          injection h with h
          subst h
          exact ⟨.inr rfl, _, _, rfl, List.nodup_nil, rfl, rfl⟩
abbrev R_r02_Put := (List Int)
def L_r02_Put_0 (j2 : (List Int) → Option R_r02_Put) : Nat → (List Int) → Int → Int → Option R_r02_Put
  | 0, _, _, _ => none
  | n + 1, y3, y4, y5 =>
    if (decide (0 ≤ y5)) then
      gd (0 ≤ y5 ∧ y5 < y3.length) <|
      L_r02_Put_0 j2 n (y3.set (Int.toNat y5) (IntKind.wrap .u8 ((Int.tmod y4 256)))) (IntKind.wrap .u64 (Int.tdiv y4 256)) (w64 (y5 - 1))
    else
    j2 y3
def F_r02_Put (n : Nat) (a0 : Int) (a1 : Int) : Option R_r02_Put :=
  gd (0 ≤ (if (if 8 < a1 then 8 else a1) > 0 then (if 8 < a1 then 8 else a1) else 0) ∧ fits (Int.toNat (if (if 8 < a1 then 8 else a1) > 0 then (if 8 < a1 then 8 else a1) else 0)) 1 = true) <|
  lj (fun (x8 : (List Int)) =>
    some x8) fun j2 =>
  L_r02_Put_0 j2 n (List.replicate (Int.toNat (if (if 8 < a1 then 8 else a1) > 0 then (if 8 < a1 then 8 else a1) else 0)) E_B.d) (IntKind.wrap .u64 (a0)) (w64 ((if (if 8 < a1 then 8 else a1) > 0 then (if 8 < a1 then 8 else a1) else 0) - 1))
theorem C_r02_Put (n : Nat) (a0 : Int) (a1 : Int) (r : R_r02_Put) (h : F_r02_Put n a0 a1 = some r) : CallS Try.prog 43 [(vI a0), (vI a1)] (.own 1 r.length (flat E_B r)) [none, none] := by
  refine CallS.introK tabOk Try.func43 rfl Try.ntmps43 (Nat.le_of_ble_eq_true rfl) ?_
  rw [F_r02_Put] at h
  refine .seq ?_
  refine .rgI rfl ?_
  refine .seg tabOk 0 1 [0, 1] [] (t := [(0, (vI a0)), (1, (vI a1))]) (h := []) (ep := 2) (by kernel_rfl) ?_
  refine .fin rfl ?_
  refine sqN ?_
  refine .seq ?_
  refine .rgI rfl ?_
  refine .seg tabOk 0 4 [0, 5] [] (t := [(0, (vI a0)), (5, (vI (if (if 8 < a1 then 8 else a1) > 0 then (if 8 < a1 then 8 else a1) else 0)))]) (h := []) (ep := 4) (by kernel_rfl) ?_
  refine .fin rfl ?_
  refine sqN ?_
  refine .seq ?_
  refine .rgI rfl ?_
  refine .seg tabOk 0 1 [0, 5, 12] [] (t := [(0, (vI a0)), (5, (vI (if (if 8 < a1 then 8 else a1) > 0 then (if 8 < a1 then 8 else a1) else 0))), (12, (vI (if (if 8 < a1 then 8 else a1) > 0 then (if 8 < a1 then 8 else a1) else 0)))]) (h := []) (ep := 6) (by kernel_rfl) ?_
  obtain ⟨hb1, h⟩ := gS h
  refine .oo tabOk rfl rfl rfl (q_mk E_B rfl rfl rfl rfl rfl rfl rfl hb1) ?_
  refine .seg tabOk 2 1 [0, 5, 6] [208] (t := [(0, (vI a0)), (5, (vI (if (if 8 < a1 then 8 else a1) > 0 then (if 8 < a1 then 8 else a1) else 0))), (6, (.sref (208, 6) 0 (List.replicate (Int.toNat (if (if 8 < a1 then 8 else a1) > 0 then (if 8 < a1 then 8 else a1) else 0)) E_B.d).length 1))]) (h := [(208, ⟨6, .live, true, flat E_B (List.replicate (Int.toNat (if (if 8 < a1 then 8 else a1) > 0 then (if 8 < a1 then 8 else a1) else 0)) E_B.d)⟩)]) (ep := 7) (by kernel_rfl) ?_
  refine .fin rfl ?_
  refine sqN ?_
  refine .seq ?_
  refine .rgI rfl ?_
  refine .seg tabOk 0 3 [5, 6, 7] [208] (t := [(5, (vI (if (if 8 < a1 then 8 else a1) > 0 then (if 8 < a1 then 8 else a1) else 0))), (6, (.sref (208, 6) 0 (List.replicate (Int.toNat (if (if 8 < a1 then 8 else a1) > 0 then (if 8 < a1 then 8 else a1) else 0)) E_B.d).length 1)), (7, (.val (.int .u64 (IntKind.wrap .u64 (a0)))))]) (h := [(208, ⟨6, .live, true, flat E_B (List.replicate (Int.toNat (if (if 8 < a1 then 8 else a1) > 0 then (if 8 < a1 then 8 else a1) else 0)) E_B.d)⟩)]) (ep := 9) (by kernel_rfl) ?_
  refine .fin rfl ?_
  refine sqN ?_
  refine .seq ?_
  refine .seq ?_
  refine .rgI rfl ?_
  refine .seg tabOk 0 3 [6, 7, 8] [208] (t := [(6, (.sref (208, 6) 0 (List.replicate (Int.toNat (if (if 8 < a1 then 8 else a1) > 0 then (if 8 < a1 then 8 else a1) else 0)) E_B.d).length 1)), (7, (.val (.int .u64 (IntKind.wrap .u64 (a0))))), (8, (vI (w64 ((if (if 8 < a1 then 8 else a1) > 0 then (if 8 < a1 then 8 else a1) else 0) - 1))))]) (h := [(208, ⟨6, .live, true, flat E_B (List.replicate (Int.toNat (if (if 8 < a1 then 8 else a1) > 0 then (if 8 < a1 then 8 else a1) else 0)) E_B.d)⟩)]) (ep := 11) (by kernel_rfl) ?_
  refine .fin rfl ?_
  refine sqN ?_
  obtain ⟨j2, hj2, h⟩ := ljS h
  refine .join (fun s' => ∃ x8, s' = ⟨[(6, (.sref (208, 6) 0 x8.length 1))], [(208, ⟨6, .live, true, flat E_B x8⟩)], 15⟩ ∧ j2 x8 = some r) ?_ ?_
  · refine .block ?_
    refine .loopF (β := (List Int) × Int × Int) (fun v => ⟨[(6, (.sref (208, 6) 0 v.1.length 1)), (7, (.val (.int .u64 v.2.1))), (8, (vI v.2.2))], [(208, ⟨6, .live, true, flat E_B v.1⟩)], 12⟩) (fun m v => L_r02_Put_0 j2 m v.1 v.2.1 v.2.2 = some r) n ((List.replicate (Int.toNat (if (if 8 < a1 then 8 else a1) > 0 then (if 8 < a1 then 8 else a1) else 0)) E_B.d), (IntKind.wrap .u64 (a0)), (w64 ((if (if 8 < a1 then 8 else a1) > 0 then (if 8 < a1 then 8 else a1) else 0) - 1))) (by exact .tn [((208, 6), (208, 6))] ⟨rfl, rfl, rfl, trivial⟩ ⟨rfl, ⟨_, rfl, ah_row E_B⟩, trivial⟩ rfl) h ?_
    rintro m ⟨y3, y4, y5⟩ h
    cases m with
    | zero => exact nomatch h
    | succ n =>
      rw [L_r02_Put_0] at h
      refine .seq ?_
      refine .seq ?_
      refine .rgI rfl ?_
      refine .seg tabOk 0 2 [6, 7, 8, 19] [208] (t := [(6, (.sref (208, 6) 0 y3.length 1)), (7, (.val (.int .u64 y4))), (8, (vI y5)), (19, (.val (.bool (decide (0 ≤ y5)))))]) (h := [(208, ⟨6, .live, true, flat E_B y3⟩)]) (ep := 14) (by kernel_rfl) ?_
      refine .fin rfl ?_
      refine sqN ?_
      refine .cond (decide (0 ≤ y5)) rfl (fun hc6 => ?_) (fun hc6 => ?_)
      · have h := iT h hc6
        refine .skip ?_
        refine sqN ?_
        refine .seq ?_
        refine .block ?_
        refine .seq ?_
        refine .rgI rfl ?_
        refine .seg tabOk 0 5 [6, 7, 8, 22, 23, 26] [208] (t := [(6, (.sref (208, 6) 0 y3.length 1)), (7, (.val (.int .u64 y4))), (8, (vI y5)), (22, (.sref (208, 6) 0 y3.length 1)), (23, (vI y5)), (26, (.val (.int .u8 (IntKind.wrap .u8 ((Int.tmod y4 256))))))]) (h := [(208, ⟨6, .live, true, flat E_B y3⟩)]) (ep := 16) (by kernel_rfl) ?_
        obtain ⟨hb7, h⟩ := gS h
        refine .oo tabOk rfl rfl rfl (q_idxS E_B (l := y3) rfl rfl rfl rfl rfl rfl rfl rfl hb7) ?_
        refine .oo tabOk rfl rfl rfl (q_stS E_B (l := y3) (v := (IntKind.wrap .u8 ((Int.tmod y4 256)))) rfl rfl rfl rfl rfl rfl rfl rfl hb7) ?_
        refine .seg tabOk 7 0 [6, 7, 8] [208] (t := [(6, (.sref (208, 6) 0 y3.length 1)), (7, (.val (.int .u64 y4))), (8, (vI y5))]) (h := [(208, ⟨6, .live, true, flat E_B (y3.set (Int.toNat y5) (IntKind.wrap .u8 ((Int.tmod y4 256))))⟩)]) (ep := 17) (by kernel_rfl) ?_
        refine .fin rfl ?_
        refine sqN ?_
        refine .rgI rfl ?_
        refine .seg tabOk 0 3 [6, 7, 8] [208] (t := [(6, (.sref (208, 6) 0 y3.length 1)), (7, (.val (.int .u64 (IntKind.wrap .u64 (Int.tdiv y4 256))))), (8, (vI y5))]) (h := [(208, ⟨6, .live, true, flat E_B (y3.set (Int.toNat y5) (IntKind.wrap .u8 ((Int.tmod y4 256))))⟩)]) (ep := 19) (by kernel_rfl) ?_
        refine .fin rfl ?_
        refine bkN ?_
        refine sqN ?_
        refine .rgI rfl ?_
        refine .seg tabOk 0 3 [6, 7, 8] [208] (t := [(6, (.sref (208, 6) 0 y3.length 1)), (7, (.val (.int .u64 (IntKind.wrap .u64 (Int.tdiv y4 256))))), (8, (vI (w64 (y5 - 1))))]) (h := [(208, ⟨6, .live, true, flat E_B (y3.set (Int.toNat y5) (IntKind.wrap .u8 ((Int.tmod y4 256))))⟩)]) (ep := 21) (by kernel_rfl) ?_
        refine .fin rfl ?_
        exact jkN (by exact .tn [((208, 6), (208, 6))] ⟨(sref_len (by simp) rfl), rfl, rfl, trivial⟩ ⟨rfl, ⟨_, rfl, ah_row E_B⟩, trivial⟩ rfl) ⟨n, ((y3.set (Int.toNat y5) (IntKind.wrap .u8 ((Int.tmod y4 256)))), (IntKind.wrap .u64 (Int.tdiv y4 256)), (w64 (y5 - 1))), Nat.lt_succ_self n, rfl, h⟩
      · have h := iF h hc6
        refine .exit ?_
        refine sqX ?_
        refine jkX ?_
        refine bkE ?_
        exact jkN (by exact .tn [((208, 6), (208, 6))] ⟨rfl, trivial⟩ ⟨rfl, ⟨_, rfl, ah_row E_B⟩, trivial⟩ rfl) ⟨_, rfl, h⟩
  · rintro _ ⟨x8, rfl, h⟩
    subst hj2
    refine sqN ?_
    refine .seq ?_
    refine .rgI rfl ?_
    refine .seg tabOk 0 2 [4] [208] (t := [(4, (.sref (208, 6) 0 x8.length 1))]) (h := [(208, ⟨6, .live, true, flat E_B x8⟩)]) (ep := 17) (by kernel_rfl) ?_
    refine .fin rfl ?_
    refine sqN ?_
    refine .ret ?_
    injection h with h
    subst h
    exact ⟨.inr rfl, _, _, (f_cons (f_tmp rfl (o1_row E_B x8 rfl rfl rfl rfl rfl)) f_nil), nd_of rfl, rfl, rfl⟩
abbrev R_r08_short := Bool
def F_r08_short (n : Nat) (a0 : Int) : Option R_r08_short :=
  if (decide ((-32768) ≤ a0)) then
    some (decide (a0 ≤ 32767))
  else
  some false
theorem C_r08_short (n : Nat) (a0 : Int) (r : R_r08_short) (h : F_r08_short n a0 = some r) : CallS Try.prog 44 [(vI a0)] (.val (.bool r)) [none] := by
  refine CallS.introK tabOk Try.func44 rfl Try.ntmps44 (Nat.le_of_ble_eq_true rfl) ?_
  rw [F_r08_short] at h
  refine .seq ?_
  refine .rgI rfl ?_
  refine .seg tabOk 0 1 [0] [] (t := [(0, (vI a0))]) (h := []) (ep := 2) (by kernel_rfl) ?_
  refine .fin rfl ?_
  refine sqN ?_
  refine .seq ?_
  refine .rgI rfl ?_
  refine .seg tabOk 0 3 [0, 5] [] (t := [(0, (vI a0)), (5, (.val (.bool (decide ((-32768) ≤ a0)))))]) (h := []) (ep := 4) (by kernel_rfl) ?_
  cases hB1 : (decide ((-32768) ≤ a0)) with
  | false =>
    have h := iF h hB1
    refine .seg tabOk 3 4 [2] [] (t := [(2, (.val (.bool false)))]) (h := []) (ep := 5) (by kernel_rfl) ?_
    refine .fin rfl ?_
    refine sqN ?_
    refine .ret ?_
    injection h with h
    subst h
    exact ⟨.inr rfl, _, _, rfl, List.nodup_nil, rfl, rfl⟩
  | true =>
    have h := iT h hB1
    refine .seg tabOk 3 4 [2] [] (t := [(2, (.val (.bool (decide (a0 ≤ 32767)))))]) (h := []) (ep := 5) (by kernel_rfl) ?_
    refine .fin rfl ?_
    refine sqN ?_
    refine .ret ?_
    injection h with h
    subst h
    exact ⟨.inr rfl, _, _, rfl, List.nodup_nil, rfl, rfl⟩
abbrev R_r08_turn := Int × (List Int)
def F_r08_turn (n : Nat) (a0 : T_A4i) : Option R_r08_turn :=
  if ((!decide (a0.a1 = 0)) || (!decide (a0.a2 = 0))) then
    some (128, ([a0.a0, a0.a1, a0.a2, a0.a3] : List Int))
  else
  if (!decide (a0.a0 = a0.a3)) then
    some (64, ([a0.a0, a0.a3] : List Int))
  else
  if (!decide (a0.a0 = 16384)) then
    some (8, ([a0.a0] : List Int))
  else
  some (0, ([] : List Int))
theorem C_r08_turn (n : Nat) (a0 : T_A4i) (r : R_r08_turn) (h : F_r08_turn n a0 = some r) : CallS Try.prog 45 [(.agg [(vI a0.a0), (vI a0.a1), (vI a0.a2), (vI a0.a3)])] (.tup [(vI r.1), (.own 1 r.2.length (flat E_i r.2))]) [none] := by
  refine CallS.introK tabOk Try.func45 rfl Try.ntmps45 (Nat.le_of_ble_eq_true rfl) ?_
  rw [F_r08_turn] at h
  refine .seq ?_
  refine .rgI rfl ?_
  refine .seg tabOk 0 3 [1] [16] (t := [(1, (.ptr (16, 1) 0))]) (h := [(16, ⟨1, .live, true, [(vI a0.a0), (vI a0.a1), (vI a0.a2), (vI a0.a3)]⟩)]) (ep := 2) (by kernel_rfl) ?_
  refine .fin rfl ?_
  refine sqN ?_
  refine .seq ?_
  refine .block ?_
  refine .seq ?_
  refine .join (fun s' => s' = ⟨[(1, (.ptr (16, 1) 0)), (4, (.val (.bool ((!decide (a0.a1 = 0)) || (!decide (a0.a2 = 0))))))], [(16, ⟨1, .live, true, [(vI a0.a0), (vI a0.a1), (vI a0.a2), (vI a0.a3)]⟩)], 6⟩) ?_ ?_
  · refine .rgI rfl ?_
    refine .seg tabOk 0 4 [1, 8] [16] (t := [(1, (.ptr (16, 1) 0)), (8, (.val (.bool (!decide (a0.a1 = 0)))))]) (h := [(16, ⟨1, .live, true, [(vI a0.a0), (vI a0.a1), (vI a0.a2), (vI a0.a3)]⟩)]) (ep := 4) (by kernel_rfl) ?_
    cases hB1 : (!decide (a0.a1 = 0)) with
    | false =>
      skip
      refine .seg tabOk 4 5 [1, 4] [16] (t := [(1, (.ptr (16, 1) 0)), (4, (.val (.bool (!decide (a0.a2 = 0)))))]) (h := [(16, ⟨1, .live, true, [(vI a0.a0), (vI a0.a1), (vI a0.a2), (vI a0.a3)]⟩)]) (ep := 5) (by kernel_rfl) ?_
      refine .fin rfl ?_
      exact jkN (by exact .tn [((16, 1), (16, 1))] ⟨rfl, rfl, trivial⟩ ⟨rfl, ⟨_, rfl, rfl⟩, trivial⟩ rfl) rfl
    | true =>
      skip
      refine .seg tabOk 4 5 [1, 4] [16] (t := [(1, (.ptr (16, 1) 0)), (4, (.val (.bool true)))]) (h := [(16, ⟨1, .live, true, [(vI a0.a0), (vI a0.a1), (vI a0.a2), (vI a0.a3)]⟩)]) (ep := 5) (by kernel_rfl) ?_
      refine .fin rfl ?_
      exact jkN (by exact .tn [((16, 1), (16, 1))] ⟨rfl, rfl, trivial⟩ ⟨rfl, ⟨_, rfl, rfl⟩, trivial⟩ rfl) rfl
  · rintro _ rfl
    refine sqN ?_
    refine .cond ((!decide (a0.a1 = 0)) || (!decide (a0.a2 = 0))) rfl (fun hc2 => ?_) (fun hc2 => ?_)
    · have h := iT h hc2
      refine .seq ?_
      refine .rgD rfl ?_
      refine .seg tabOk 0 11 [2, 3] [16, 336] (t := [(2, (vI 128)), (3, (.sref (336, 7) 0 ([a0.a0, a0.a1, a0.a2, a0.a3] : List Int).length 1))]) (h := [(16, ⟨1, .live, true, [(vI a0.a0), (vI a0.a1), (vI a0.a2), (vI a0.a3)]⟩), (336, ⟨7, .live, true, flat E_i ([a0.a0, a0.a1, a0.a2, a0.a3] : List Int)⟩)]) (ep := 7) (by kernel_rfl) ?_
      refine .fin mixed [2, 3] [336] (t := [(2, (vI 128)), (3, (.sref (336, 7) 0 ([a0.a0, a0.a1, a0.a2, a0.a3] : List Int).length 1))]) (h := [(336, ⟨7, .live, true, flat E_i ([a0.a0, a0.a1, a0.a2, a0.a3] : List Int)⟩)]) (ep := 8) rfl (by kernel_rfl) rfl ?_
      refine sqN ?_
      refine .ret ?_
      refine bkR ?_
      refine sqR ?_
      injection h with h
      subst h
      exact ⟨.inr rfl, _, _, (f_cons rfl (f_cons (f_tmp rfl (o1_row E_i ([a0.a0, a0.a1, a0.a2, a0.a3] : List Int) rfl rfl rfl rfl rfl)) f_nil)), nd_of rfl, rfl, rfl⟩
    · have h := iF h hc2
      refine .seq ?_
      refine .rgI rfl ?_
      refine .seg tabOk 0 6 [1, 22] [16] (t := [(1, (.ptr (16, 1) 0)), (22, (.val (.bool (!decide (a0.a0 = a0.a3)))))]) (h := [(16, ⟨1, .live, true, [(vI a0.a0), (vI a0.a1), (vI a0.a2), (vI a0.a3)]⟩)]) (ep := 8) (by kernel_rfl) ?_
      refine .fin rfl ?_
      refine sqN ?_
      refine .cond (!decide (a0.a0 = a0.a3)) rfl (fun hc3 => ?_) (fun hc3 => ?_)
      · have h := iT h hc3
        refine .seq ?_
        refine .rgD rfl ?_
        refine .seg tabOk 0 7 [2, 3] [16, 512] (t := [(2, (vI 64)), (3, (.sref (512, 9) 0 ([a0.a0, a0.a3] : List Int).length 1))]) (h := [(16, ⟨1, .live, true, [(vI a0.a0), (vI a0.a1), (vI a0.a2), (vI a0.a3)]⟩), (512, ⟨9, .live, true, flat E_i ([a0.a0, a0.a3] : List Int)⟩)]) (ep := 9) (by kernel_rfl) ?_
        refine .fin mixed [2, 3] [512] (t := [(2, (vI 64)), (3, (.sref (512, 9) 0 ([a0.a0, a0.a3] : List Int).length 1))]) (h := [(512, ⟨9, .live, true, flat E_i ([a0.a0, a0.a3] : List Int)⟩)]) (ep := 10) rfl (by kernel_rfl) rfl ?_
        refine sqN ?_
        refine .ret ?_
        refine bkR ?_
        refine sqR ?_
        injection h with h
        subst h
        exact ⟨.inr rfl, _, _, (f_cons rfl (f_cons (f_tmp rfl (o1_row E_i ([a0.a0, a0.a3] : List Int) rfl rfl rfl rfl rfl)) f_nil)), nd_of rfl, rfl, rfl⟩
      · have h := iF h hc3
        refine .seq ?_
        refine .rgI rfl ?_
        refine .seg tabOk 0 4 [1, 33] [16] (t := [(1, (.ptr (16, 1) 0)), (33, (.val (.bool (!decide (a0.a0 = 16384)))))]) (h := [(16, ⟨1, .live, true, [(vI a0.a0), (vI a0.a1), (vI a0.a2), (vI a0.a3)]⟩)]) (ep := 10) (by kernel_rfl) ?_
        refine .fin rfl ?_
        refine sqN ?_
        refine .cond (!decide (a0.a0 = 16384)) rfl (fun hc4 => ?_) (fun hc4 => ?_)
        · have h := iT h hc4
          refine .seq ?_
          refine .rgD rfl ?_
          refine .seg tabOk 0 5 [2, 3] [16, 624] (t := [(2, (vI 8)), (3, (.sref (624, 11) 0 ([a0.a0] : List Int).length 1))]) (h := [(16, ⟨1, .live, true, [(vI a0.a0), (vI a0.a1), (vI a0.a2), (vI a0.a3)]⟩), (624, ⟨11, .live, true, flat E_i ([a0.a0] : List Int)⟩)]) (ep := 11) (by kernel_rfl) ?_
          refine .fin mixed [2, 3] [624] (t := [(2, (vI 8)), (3, (.sref (624, 11) 0 ([a0.a0] : List Int).length 1))]) (h := [(624, ⟨11, .live, true, flat E_i ([a0.a0] : List Int)⟩)]) (ep := 12) rfl (by kernel_rfl) rfl ?_
          refine sqN ?_
          refine .ret ?_
          refine bkR ?_
          refine sqR ?_
          injection h with h
          subst h
          exact ⟨.inr rfl, _, _, (f_cons rfl (f_cons (f_tmp rfl (o1_row E_i ([a0.a0] : List Int) rfl rfl rfl rfl rfl)) f_nil)), nd_of rfl, rfl, rfl⟩
        · have h := iF h hc4
          refine .skip ?_
          refine bkN ?_
          refine sqN ?_
          refine .seq ?_
          refine .rgI rfl ?_
          refine .seg tabOk 0 2 [2, 3] [] (t := [(2, (vI 0)), (3, .nils)]) (h := []) (ep := 12) (by kernel_rfl) ?_
          refine .fin rfl ?_
          refine sqN ?_
          refine .pre (.nilRow 3 1 63 rfl (fresh_none rfl)) ?_
          refine .ret ?_
          injection h with h
          subst h
          exact ⟨.inr rfl, _, _, (f_cons rfl (f_cons (f_tmp rfl (o1_row E_i ([] : List Int) rfl rfl rfl rfl rfl)) f_nil)), nd_of rfl, rfl, rfl⟩
abbrev R_r08_Write := (List Int) × Int
def L_r08_Write_0 (a2 : T_Siie) (a3 : T_Siie) (j5 : (List Int) → Option R_r08_Write) : Nat → (List Int) → Int → Option R_r08_Write
  | 0, _, _ => none
  | n + 1, y6, y7 =>
    if (decide (y7 < 4)) then
      gd (0 ≤ y7 ∧ y7 < 4) <|
      Option.bind (F_r08_short n (nth E_i ([a2.f0, a2.f1, a3.f0, a3.f1] : List Int) y7)) fun v10 =>
      if (!v10) then
        some (([] : List Int), 6)
      else
      Option.bind (F_r02_Put n (nth E_i ([a2.f0, a2.f1, a3.f0, a3.f1] : List Int) y7) 2) fun v12 =>
      gd (fits (y6.length + v12.length) 1 = true) <|
      L_r08_Write_0 a2 a3 j5 n (y6 ++ v12) (w64 (y7 + 1))
    else
    j5 y6
def L_r08_Write_2 (v37 : R_r08_turn) (j52 : (List Int) → Option R_r08_Write) : Nat → (List Int) → Int → Option R_r08_Write
  | 0, _, _ => none
  | n + 1, y53, y54 =>
    if (decide (y54 < (v37.2.length : Int))) then
      gd (0 ≤ y54 ∧ y54 < v37.2.length) <|
      Option.bind (F_r02_Put n (nth E_i v37.2 y54) 2) fun v57 =>
      gd (fits (y53.length + v57.length) 1 = true) <|
      L_r08_Write_2 v37 j52 n (y53 ++ v57) (w64 (y54 + 1))
    else
    j52 y53
def L_r08_Write_1 (a0 : (List T_SiiiA4ie)) (a1 : (List Int)) (a2 : T_Siie) (a3 : T_Siie) (j15 : (List Int) → Option R_r08_Write) : Nat → (List Int) → Int → Option R_r08_Write
  | 0, _, _ => none
  | n + 1, y16, y17 =>
    if (decide (y17 < (a0.length : Int))) then
      lj (fun (x60 : (List Int)) =>
        L_r08_Write_1 a0 a1 a2 a3 j15 n x60 (w64 (y17 + 1))) fun j19 =>
      gd (0 ≤ y17 ∧ y17 < a0.length) <|
      lj (fun (x34 : Bool) =>
        if x34 then
          some (([] : List Int), 6)
        else
        Option.bind (F_r08_turn n (nth E_SiiiA4ie a0 y17).f3) fun v37 =>
        Option.bind (F_r02_Put n (if (decide (y17 < (w64 ((a0.length : Int) - 1)))) then (w64 ((if ((decide ((nth E_SiiiA4ie a0 y17).f1 < (-128))) || ((decide (127 < (nth E_SiiiA4ie a0 y17).f1)) || ((decide ((nth E_SiiiA4ie a0 y17).f2 < (-128))) || (decide (127 < (nth E_SiiiA4ie a0 y17).f2))))) then (w64 ((w64 (v37.1 + 2)) + 1)) else (w64 (v37.1 + 2))) + 32)) else (if (decide (0 < (a1.length : Int))) then (w64 ((if ((decide ((nth E_SiiiA4ie a0 y17).f1 < (-128))) || ((decide (127 < (nth E_SiiiA4ie a0 y17).f1)) || ((decide ((nth E_SiiiA4ie a0 y17).f2 < (-128))) || (decide (127 < (nth E_SiiiA4ie a0 y17).f2))))) then (w64 ((w64 (v37.1 + 2)) + 1)) else (w64 (v37.1 + 2))) + 256)) else (if ((decide ((nth E_SiiiA4ie a0 y17).f1 < (-128))) || ((decide (127 < (nth E_SiiiA4ie a0 y17).f1)) || ((decide ((nth E_SiiiA4ie a0 y17).f2 < (-128))) || (decide (127 < (nth E_SiiiA4ie a0 y17).f2))))) then (w64 ((w64 (v37.1 + 2)) + 1)) else (w64 (v37.1 + 2))))) 2) fun v44 =>
        gd (fits (y16.length + v44.length) 1 = true) <|
        Option.bind (F_r02_Put n (nth E_SiiiA4ie a0 y17).f0 2) fun v46 =>
        gd (fits ((y16 ++ v44).length + v46.length) 1 = true) <|
        Option.bind (F_r02_Put n (nth E_SiiiA4ie a0 y17).f1 (if ((decide ((nth E_SiiiA4ie a0 y17).f1 < (-128))) || ((decide (127 < (nth E_SiiiA4ie a0 y17).f1)) || ((decide ((nth E_SiiiA4ie a0 y17).f2 < (-128))) || (decide (127 < (nth E_SiiiA4ie a0 y17).f2))))) then 2 else 1)) fun v48 =>
        gd (fits (((y16 ++ v44) ++ v46).length + v48.length) 1 = true) <|
        Option.bind (F_r02_Put n (nth E_SiiiA4ie a0 y17).f2 (if ((decide ((nth E_SiiiA4ie a0 y17).f1 < (-128))) || ((decide (127 < (nth E_SiiiA4ie a0 y17).f1)) || ((decide ((nth E_SiiiA4ie a0 y17).f2 < (-128))) || (decide (127 < (nth E_SiiiA4ie a0 y17).f2))))) then 2 else 1)) fun v50 =>
        gd (fits ((((y16 ++ v44) ++ v46) ++ v48).length + v50.length) 1 = true) <|
        lj (fun (x59 : (List Int)) =>
          j19 x59) fun j52 =>
        L_r08_Write_2 v37 j52 n ((((y16 ++ v44) ++ v46) ++ v48) ++ v50) 0) fun j35 =>
      if (decide ((nth E_SiiiA4ie a0 y17).f0 < 0)) then
        j35 true
      else
      if (decide (65535 < (nth E_SiiiA4ie a0 y17).f0)) then
        j35 true
      else
      Option.bind (F_r08_short n (nth E_SiiiA4ie a0 y17).f1) fun v23 =>
      if (!v23) then
        j35 true
      else
      Option.bind (F_r08_short n (nth E_SiiiA4ie a0 y17).f2) fun v25 =>
      if (!v25) then
        j35 true
      else
      Option.bind (F_r08_short n (nth E_SiiiA4ie a0 y17).f3.a0) fun v27 =>
      if (!v27) then
        j35 true
      else
      Option.bind (F_r08_short n (nth E_SiiiA4ie a0 y17).f3.a1) fun v29 =>
      if (!v29) then
        j35 true
      else
      Option.bind (F_r08_short n (nth E_SiiiA4ie a0 y17).f3.a2) fun v31 =>
      if (!v31) then
        j35 true
      else
      Option.bind (F_r08_short n (nth E_SiiiA4ie a0 y17).f3.a3) fun v33 =>
      j35 (!v33)
    else
    j15 y16
def F_r08_Write (n : Nat) (a0 : (List T_SiiiA4ie)) (a1 : (List Int)) (a2 : T_Siie) (a3 : T_Siie) : Option R_r08_Write :=
  if (decide ((a0.length : Int) = 0)) then
    some (([] : List Int), 4)
  else
  if ((decide (64 < (a0.length : Int))) || (decide (65535 < (a1.length : Int)))) then
    some (([] : List Int), 7)
  else
  Option.bind (F_r02_Put n (-1) 2) fun v4 =>
  lj (fun (x14 : (List Int)) =>
    lj (fun (x61 : (List Int)) =>
      lj (fun (x66 : (List Int)) =>
        some (x66, 0)) fun j67 =>
      if (decide (0 < (a1.length : Int))) then
        Option.bind (F_r02_Put n (a1.length : Int) 2) fun v63 =>
        gd (fits (x61.length + v63.length) 1 = true) <|
        gd (fits ((x61 ++ v63).length + a1.length) 1 = true) <|
        j67 ((x61 ++ v63) ++ a1)
      else
      j67 x61) fun j15 =>
    L_r08_Write_1 a0 a1 a2 a3 j15 n x14 0) fun j5 =>
  L_r08_Write_0 a2 a3 j5 n v4 0
theorem C_r08_Write (n : Nat) (a0 : (List T_SiiiA4ie)) (a1 : (List Int)) (a2 : T_Siie) (a3 : T_Siie) (r : R_r08_Write) (h : F_r08_Write n a0 a1 a2 a3 = some r) : CallS Try.prog 21 [(.ro 7 a0.length (flat E_SiiiA4ie a0)), (.ro 1 a1.length (flat E_B a1)), (.agg [(vI a2.f0), (vI a2.f1)]), (.agg [(vI a3.f0), (vI a3.f1)])] (.tup [(.own 1 r.1.length (flat E_B r.1)), (vI r.2)]) [none, none, none, none] := by
  refine CallS.introK tabOk Try.func21 rfl Try.ntmps21 (Nat.le_of_ble_eq_true rfl) ?_
  rw [F_r08_Write] at h
  refine .seq ?_
  refine .rgI rfl ?_
  refine .seg tabOk 0 4 [0, 1, 6, 7] [96, 112] (t := [(0, (.ro 7 a0.length (flat E_SiiiA4ie a0))), (1, (.ro 1 a1.length (flat E_B a1))), (6, (.ptr (96, 1) 0)), (7, (.ptr (112, 1) 0))]) (h := [(96, ⟨1, .live, false, [(vI a2.f0), (vI a2.f1)]⟩), (112, ⟨1, .live, false, [(vI a3.f0), (vI a3.f1)]⟩)]) (ep := 2) (by kernel_rfl) ?_
  refine .fin rfl ?_
  refine sqN ?_
  refine .seq ?_
  refine .seq ?_
  refine .rgI rfl ?_
  refine .seg tabOk 0 3 [0, 1, 6, 7, 22] [96, 112] (t := [(0, (.ro 7 a0.length (flat E_SiiiA4ie a0))), (1, (.ro 1 a1.length (flat E_B a1))), (6, (.ptr (96, 1) 0)), (7, (.ptr (112, 1) 0)), (22, (.val (.bool (decide ((a0.length : Int) = 0)))))]) (h := [(96, ⟨1, .live, false, [(vI a2.f0), (vI a2.f1)]⟩), (112, ⟨1, .live, false, [(vI a3.f0), (vI a3.f1)]⟩)]) (ep := 4) (by kernel_rfl) ?_
  refine .fin rfl ?_
  refine sqN ?_
  refine .cond (decide ((a0.length : Int) = 0)) rfl (fun hc1 => ?_) (fun hc1 => ?_)
  · have h := iT h hc1
    refine .seq ?_
    refine .rgI rfl ?_
    refine .seg tabOk 0 2 [8, 9] [] (t := [(8, .nils), (9, (vI 4))]) (h := []) (ep := 6) (by kernel_rfl) ?_
    refine .fin rfl ?_
    refine sqN ?_
    refine .pre (.nilRow 8 1 143 rfl (fresh_none rfl)) ?_
    refine .ret ?_
    refine sqR ?_
    injection h with h
    subst h
    exact ⟨.inr rfl, _, _, (f_cons (f_tmp rfl (o1_row E_B ([] : List Int) rfl rfl rfl rfl rfl)) (f_cons rfl f_nil)), nd_of rfl, rfl, rfl⟩
  · have h := iF h hc1
    refine .skip ?_
    refine sqN ?_
    refine .seq ?_
    refine .seq ?_
    refine .join (fun s' => s' = ⟨[(0, (.ro 7 a0.length (flat E_SiiiA4ie a0))), (1, (.ro 1 a1.length (flat E_B a1))), (6, (.ptr (96, 1) 0)), (7, (.ptr (112, 1) 0)), (30, (.val (.bool ((decide (64 < (a0.length : Int))) || (decide (65535 < (a1.length : Int)))))))], [(96, ⟨1, .live, false, [(vI a2.f0), (vI a2.f1)]⟩), (112, ⟨1, .live, false, [(vI a3.f0), (vI a3.f1)]⟩)], 8⟩) ?_ ?_
    · refine .rgI rfl ?_
      refine .seg tabOk 0 4 [0, 1, 6, 7, 26] [96, 112] (t := [(0, (.ro 7 a0.length (flat E_SiiiA4ie a0))), (1, (.ro 1 a1.length (flat E_B a1))), (6, (.ptr (96, 1) 0)), (7, (.ptr (112, 1) 0)), (26, (.val (.bool (decide (64 < (a0.length : Int))))))]) (h := [(96, ⟨1, .live, false, [(vI a2.f0), (vI a2.f1)]⟩), (112, ⟨1, .live, false, [(vI a3.f0), (vI a3.f1)]⟩)]) (ep := 6) (by kernel_rfl) ?_
      cases hB2 : (decide (64 < (a0.length : Int))) with
      | false =>
        skip
        refine .seg tabOk 4 4 [0, 1, 6, 7, 30] [96, 112] (t := [(0, (.ro 7 a0.length (flat E_SiiiA4ie a0))), (1, (.ro 1 a1.length (flat E_B a1))), (6, (.ptr (96, 1) 0)), (7, (.ptr (112, 1) 0)), (30, (.val (.bool (decide (65535 < (a1.length : Int))))))]) (h := [(96, ⟨1, .live, false, [(vI a2.f0), (vI a2.f1)]⟩), (112, ⟨1, .live, false, [(vI a3.f0), (vI a3.f1)]⟩)]) (ep := 7) (by kernel_rfl) ?_
        refine .fin rfl ?_
        exact jkN (by exact .tn [((96, 1), (96, 1)), ((112, 1), (112, 1))] ⟨rfl, rfl, rfl, rfl, rfl, trivial⟩ ⟨rfl, ⟨_, rfl, rfl⟩, ⟨rfl, ⟨_, rfl, rfl⟩, trivial⟩⟩ rfl) rfl
      | true =>
        skip
        refine .seg tabOk 4 4 [0, 1, 6, 7, 30] [96, 112] (t := [(0, (.ro 7 a0.length (flat E_SiiiA4ie a0))), (1, (.ro 1 a1.length (flat E_B a1))), (6, (.ptr (96, 1) 0)), (7, (.ptr (112, 1) 0)), (30, (.val (.bool true)))]) (h := [(96, ⟨1, .live, false, [(vI a2.f0), (vI a2.f1)]⟩), (112, ⟨1, .live, false, [(vI a3.f0), (vI a3.f1)]⟩)]) (ep := 7) (by kernel_rfl) ?_
        refine .fin rfl ?_
        exact jkN (by exact .tn [((96, 1), (96, 1)), ((112, 1), (112, 1))] ⟨rfl, rfl, rfl, rfl, rfl, trivial⟩ ⟨rfl, ⟨_, rfl, rfl⟩, ⟨rfl, ⟨_, rfl, rfl⟩, trivial⟩⟩ rfl) rfl
    · rintro _ rfl
      refine sqN ?_
      refine .cond ((decide (64 < (a0.length : Int))) || (decide (65535 < (a1.length : Int)))) rfl (fun hc3 => ?_) (fun hc3 => ?_)
      · have h := iT h hc3
        refine .seq ?_
        refine .rgI rfl ?_
        refine .seg tabOk 0 2 [8, 9] [] (t := [(8, .nils), (9, (vI 7))]) (h := []) (ep := 10) (by kernel_rfl) ?_
        refine .fin rfl ?_
        refine sqN ?_
        refine .pre (.nilRow 8 1 143 rfl (fresh_none rfl)) ?_
        refine .ret ?_
        refine sqR ?_
        injection h with h
        subst h
        exact ⟨.inr rfl, _, _, (f_cons (f_tmp rfl (o1_row E_B ([] : List Int) rfl rfl rfl rfl rfl)) (f_cons rfl f_nil)), nd_of rfl, rfl, rfl⟩
      · have h := iF h hc3
        refine .skip ?_
        refine sqN ?_
        refine .seq ?_
        refine .rgI rfl ?_
        obtain ⟨v4, hv4, h⟩ := bS h
        refine .cc true rfl rfl (C_r02_Put _ _ _ _ hv4) ent_r02_Put rfl rfl rfl rfl (g_cons (g_pl rfl rfl) (g_cons (g_pl rfl rfl) g_nil)) rfl ?_
        refine .seg tabOk 1 1 [0, 1, 6, 7, 10] [96, 112, 496] (t := [(0, (.ro 7 a0.length (flat E_SiiiA4ie a0))), (1, (.ro 1 a1.length (flat E_B a1))), (6, (.ptr (96, 1) 0)), (7, (.ptr (112, 1) 0)), (10, (.sref (496, 9) 0 v4.length 1))]) (h := [(96, ⟨1, .live, false, [(vI a2.f0), (vI a2.f1)]⟩), (112, ⟨1, .live, false, [(vI a3.f0), (vI a3.f1)]⟩), (496, ⟨9, .live, true, flat E_B v4⟩)]) (ep := 10) (by kernel_rfl) ?_
        refine .fin rfl ?_
        refine sqN ?_
        refine .seq ?_
        refine .seq ?_
        refine .rgI rfl ?_
        refine .seg tabOk 0 10 [0, 1, 10, 40, 41] [496] (t := [(0, (.ro 7 a0.length (flat E_SiiiA4ie a0))), (1, (.ro 1 a1.length (flat E_B a1))), (10, (.sref (496, 9) 0 v4.length 1)), (40, (.agg [(vI a2.f0), (vI a2.f1), (vI a3.f0), (vI a3.f1)])), (41, (vI 0))]) (h := [(496, ⟨9, .live, true, flat E_B v4⟩)]) (ep := 12) (by kernel_rfl) ?_
        refine .fin rfl ?_
        refine sqN ?_
        obtain ⟨j5, hj5, h⟩ := ljS h
        refine .join (fun s' => ∃ x14, s' = ⟨[(0, (.ro 7 a0.length (flat E_SiiiA4ie a0))), (1, (.ro 1 a1.length (flat E_B a1))), (10, (.sref (496, 9) 0 x14.length 1))], [(496, ⟨9, .live, true, flat E_B x14⟩)], 16⟩ ∧ j5 x14 = some r) ?_ ?_
        · refine .block ?_
          refine .loopF (β := (List Int) × Int) (fun v => ⟨[(0, (.ro 7 a0.length (flat E_SiiiA4ie a0))), (1, (.ro 1 a1.length (flat E_B a1))), (10, (.sref (496, 9) 0 v.1.length 1)), (40, (.agg [(vI a2.f0), (vI a2.f1), (vI a3.f0), (vI a3.f1)])), (41, (vI v.2))], [(496, ⟨9, .live, true, flat E_B v.1⟩)], 13⟩) (fun m v => L_r08_Write_0 a2 a3 j5 m v.1 v.2 = some r) n (v4, 0) (by exact .tn [((496, 9), (496, 9))] ⟨rfl, rfl, rfl, rfl, rfl, trivial⟩ ⟨rfl, ⟨_, rfl, ah_row E_B⟩, trivial⟩ rfl) h ?_
          rintro m ⟨y6, y7⟩ h
          cases m with
          | zero => exact nomatch h
          | succ n =>
            rw [L_r08_Write_0] at h
            refine .seq ?_
            refine .rgI rfl ?_
            refine .seg tabOk 0 1 [0, 1, 10, 40, 41, 42] [496] (t := [(0, (.ro 7 a0.length (flat E_SiiiA4ie a0))), (1, (.ro 1 a1.length (flat E_B a1))), (10, (.sref (496, 9) 0 y6.length 1)), (40, (.agg [(vI a2.f0), (vI a2.f1), (vI a3.f0), (vI a3.f1)])), (41, (vI y7)), (42, (.val (.bool (decide (y7 < 4)))))]) (h := [(496, ⟨9, .live, true, flat E_B y6⟩)]) (ep := 15) (by kernel_rfl) ?_
            refine .fin rfl ?_
            refine sqN ?_
            refine .seq ?_
            refine .cond (decide (y7 < 4)) rfl (fun hc8 => ?_) (fun hc8 => ?_)
            · have h := iT h hc8
              refine .skip ?_
              refine sqN ?_
              refine .seq ?_
              refine .block ?_
              refine .seq ?_
              refine .rgI rfl ?_
              obtain ⟨hb9, h⟩ := gS h
              refine .oo tabOk rfl rfl rfl (q_ixA E_i (l := ([a2.f0, a2.f1, a3.f0, a3.f1] : List Int)) rfl rfl rfl rfl rfl rfl rfl hb9 rfl) ?_
              refine .seg tabOk 1 1 [0, 1, 10, 12, 40, 41] [496] (t := [(0, (.ro 7 a0.length (flat E_SiiiA4ie a0))), (1, (.ro 1 a1.length (flat E_B a1))), (10, (.sref (496, 9) 0 y6.length 1)), (12, (vI (nth E_i ([a2.f0, a2.f1, a3.f0, a3.f1] : List Int) y7))), (40, (.agg [(vI a2.f0), (vI a2.f1), (vI a3.f0), (vI a3.f1)])), (41, (vI y7))]) (h := [(496, ⟨9, .live, true, flat E_B y6⟩)]) (ep := 17) (by kernel_rfl) ?_
              refine .fin rfl ?_
              refine sqN ?_
              refine .seq ?_
              refine .seq ?_
              refine .rgI rfl ?_
              refine .seg tabOk 0 1 [0, 1, 10, 12, 40, 41, 44] [496] (t := [(0, (.ro 7 a0.length (flat E_SiiiA4ie a0))), (1, (.ro 1 a1.length (flat E_B a1))), (10, (.sref (496, 9) 0 y6.length 1)), (12, (vI (nth E_i ([a2.f0, a2.f1, a3.f0, a3.f1] : List Int) y7))), (40, (.agg [(vI a2.f0), (vI a2.f1), (vI a3.f0), (vI a3.f1)])), (41, (vI y7)), (44, (vI (nth E_i ([a2.f0, a2.f1, a3.f0, a3.f1] : List Int) y7)))]) (h := [(496, ⟨9, .live, true, flat E_B y6⟩)]) (ep := 19) (by kernel_rfl) ?_
              obtain ⟨v10, hv10, h⟩ := bS h
              refine .cc true rfl rfl (C_r08_short _ _ _ hv10) ent_r08_short rfl rfl rfl rfl (g_cons (g_pl rfl rfl) g_nil) rfl ?_
              refine .seg tabOk 2 1 [0, 1, 10, 12, 40, 41, 46] [496] (t := [(0, (.ro 7 a0.length (flat E_SiiiA4ie a0))), (1, (.ro 1 a1.length (flat E_B a1))), (10, (.sref (496, 9) 0 y6.length 1)), (12, (vI (nth E_i ([a2.f0, a2.f1, a3.f0, a3.f1] : List Int) y7))), (40, (.agg [(vI a2.f0), (vI a2.f1), (vI a3.f0), (vI a3.f1)])), (41, (vI y7)), (46, (.val (.bool (!v10))))]) (h := [(496, ⟨9, .live, true, flat E_B y6⟩)]) (ep := 20) (by kernel_rfl) ?_
              refine .fin rfl ?_
              refine sqN ?_
              refine .cond (!v10) rfl (fun hc11 => ?_) (fun hc11 => ?_)
              · have h := iT h hc11
                refine .seq ?_
                refine .rgI rfl ?_
                refine .seg tabOk 0 2 [8, 9] [] (t := [(8, .nils), (9, (vI 6))]) (h := []) (ep := 22) (by kernel_rfl) ?_
                refine .fin rfl ?_
                refine sqN ?_
                refine .pre (.nilRow 8 1 143 rfl (fresh_none rfl)) ?_
                refine .ret ?_
                refine sqR ?_
                refine bkR ?_
                refine sqR ?_
                refine jkR ?_
                refine bkR ?_
                refine jkR ?_
                refine sqR ?_
                injection h with h
                subst h
                exact ⟨.inr rfl, _, _, (f_cons (f_tmp rfl (o1_row E_B ([] : List Int) rfl rfl rfl rfl rfl)) (f_cons rfl f_nil)), nd_of rfl, rfl, rfl⟩
              · have h := iF h hc11
                refine .skip ?_
                refine sqN ?_
                refine .rgI rfl ?_
                refine .seg tabOk 0 2 [0, 1, 40, 41, 47, 48] [496] (t := [(0, (.ro 7 a0.length (flat E_SiiiA4ie a0))), (1, (.ro 1 a1.length (flat E_B a1))), (40, (.agg [(vI a2.f0), (vI a2.f1), (vI a3.f0), (vI a3.f1)])), (41, (vI y7)), (47, (.sref (496, 9) 0 y6.length 1)), (48, (vI (nth E_i ([a2.f0, a2.f1, a3.f0, a3.f1] : List Int) y7)))]) (h := [(496, ⟨9, .live, true, flat E_B y6⟩)]) (ep := 22) (by kernel_rfl) ?_
                obtain ⟨v12, hv12, h⟩ := bS h
                refine .cc true rfl rfl (C_r02_Put _ _ _ _ hv12) ent_r02_Put rfl rfl rfl rfl (g_cons (g_pl rfl rfl) (g_cons (g_pl rfl rfl) g_nil)) rfl ?_
                obtain ⟨hb13, h⟩ := gS h
                refine .oo tabOk rfl rfl rfl (q_app E_B (l := y6) rfl rfl rfl rfl rfl rfl rfl rfl rfl rfl rfl rfl rfl (.row v12 rfl rfl rfl rfl) hb13) ?_
                refine .seg tabOk 4 1 [0, 1, 10, 40, 41] [800] (t := [(0, (.ro 7 a0.length (flat E_SiiiA4ie a0))), (1, (.ro 1 a1.length (flat E_B a1))), (10, (.sref (800, 22) 0 (y6 ++ v12).length 1)), (40, (.agg [(vI a2.f0), (vI a2.f1), (vI a3.f0), (vI a3.f1)])), (41, (vI y7))]) (h := [(800, ⟨22, .live, true, flat E_B (y6 ++ v12)⟩)]) (ep := 23) (by kernel_rfl) ?_
                refine .fin rfl ?_
                refine bkN ?_
                refine sqN ?_
                refine .rgI rfl ?_
                refine .seg tabOk 0 2 [0, 1, 10, 40, 41] [800] (t := [(0, (.ro 7 a0.length (flat E_SiiiA4ie a0))), (1, (.ro 1 a1.length (flat E_B a1))), (10, (.sref (800, 22) 0 (y6 ++ v12).length 1)), (40, (.agg [(vI a2.f0), (vI a2.f1), (vI a3.f0), (vI a3.f1)])), (41, (vI (w64 (y7 + 1))))]) (h := [(800, ⟨22, .live, true, flat E_B (y6 ++ v12)⟩)]) (ep := 25) (by kernel_rfl) ?_
                refine .fin rfl ?_
                exact jkN (by exact .tn [((800, 22), (496, 9))] ⟨rfl, rfl, rfl, rfl, rfl, trivial⟩ ⟨rfl, ⟨_, rfl, ah_row E_B⟩, trivial⟩ rfl) ⟨n, ((y6 ++ v12), (w64 (y7 + 1))), Nat.lt_succ_self n, rfl, h⟩
            · have h := iF h hc8
              refine .exit ?_
              refine sqX ?_
              refine jkX ?_
              refine bkE ?_
              exact jkN (by exact .tn [((496, 9), (496, 9))] ⟨rfl, rfl, rfl, trivial⟩ ⟨rfl, ⟨_, rfl, ah_row E_B⟩, trivial⟩ rfl) ⟨_, rfl, h⟩
        · rintro _ ⟨x14, rfl, h⟩
          subst hj5
          refine sqN ?_
          refine .seq ?_
          refine .seq ?_
          refine .rgI rfl ?_
          refine .seg tabOk 0 3 [0, 1, 10, 52, 53, 54] [496] (t := [(0, (.ro 7 a0.length (flat E_SiiiA4ie a0))), (1, (.ro 1 a1.length (flat E_B a1))), (10, (.sref (496, 9) 0 x14.length 1)), (52, (.ro 7 a0.length (flat E_SiiiA4ie a0))), (53, (vI (a0.length : Int))), (54, (vI 0))]) (h := [(496, ⟨9, .live, true, flat E_B x14⟩)]) (ep := 18) (by kernel_rfl) ?_
          refine .fin rfl ?_
          refine sqN ?_
          obtain ⟨j15, hj15, h⟩ := ljS h
          refine .join (fun s' => ∃ x61, s' = ⟨[(1, (.ro 1 a1.length (flat E_B a1))), (10, (.sref (496, 9) 0 x61.length 1))], [(496, ⟨9, .live, true, flat E_B x61⟩)], 22⟩ ∧ j15 x61 = some r) ?_ ?_
          · refine .block ?_
            refine .loopF (β := (List Int) × Int) (fun v => ⟨[(0, (.ro 7 a0.length (flat E_SiiiA4ie a0))), (1, (.ro 1 a1.length (flat E_B a1))), (10, (.sref (496, 9) 0 v.1.length 1)), (52, (.ro 7 a0.length (flat E_SiiiA4ie a0))), (53, (vI (a0.length : Int))), (54, (vI v.2))], [(496, ⟨9, .live, true, flat E_B v.1⟩)], 19⟩) (fun m v => L_r08_Write_1 a0 a1 a2 a3 j15 m v.1 v.2 = some r) n (x14, 0) (by exact .tn [((496, 9), (496, 9))] ⟨rfl, rfl, rfl, rfl, rfl, rfl, trivial⟩ ⟨rfl, ⟨_, rfl, ah_row E_B⟩, trivial⟩ rfl) h ?_
            rintro m ⟨y16, y17⟩ h
            cases m with
            | zero => exact nomatch h
            | succ n =>
              rw [L_r08_Write_1] at h
              refine .seq ?_
              refine .rgI rfl ?_
              refine .seg tabOk 0 1 [0, 1, 10, 52, 53, 54, 55] [496] (t := [(0, (.ro 7 a0.length (flat E_SiiiA4ie a0))), (1, (.ro 1 a1.length (flat E_B a1))), (10, (.sref (496, 9) 0 y16.length 1)), (52, (.ro 7 a0.length (flat E_SiiiA4ie a0))), (53, (vI (a0.length : Int))), (54, (vI y17)), (55, (.val (.bool (decide (y17 < (a0.length : Int))))))]) (h := [(496, ⟨9, .live, true, flat E_B y16⟩)]) (ep := 21) (by kernel_rfl) ?_
              refine .fin rfl ?_
              refine sqN ?_
              refine .seq ?_
              refine .cond (decide (y17 < (a0.length : Int))) rfl (fun hc18 => ?_) (fun hc18 => ?_)
              · have h := iT h hc18
                refine .skip ?_
                refine sqN ?_
                refine .seq ?_
                obtain ⟨j19, hj19, h⟩ := ljS h
                refine .join (fun s' => ∃ x60, s' = ⟨[(0, (.ro 7 a0.length (flat E_SiiiA4ie a0))), (1, (.ro 1 a1.length (flat E_B a1))), (10, (.sref (2672, 76) 0 x60.length 1)), (52, (.ro 7 a0.length (flat E_SiiiA4ie a0))), (53, (vI (a0.length : Int))), (54, (vI y17))], [(2672, ⟨76, .live, true, flat E_B x60⟩)], 84⟩ ∧ j19 x60 = some r) ?_ ?_
                · refine .block ?_
                  refine .seq ?_
                  refine .rgI rfl ?_
                  refine .seg tabOk 0 1 [0, 1, 10, 52, 53, 54, 56] [496] (t := [(0, (.ro 7 a0.length (flat E_SiiiA4ie a0))), (1, (.ro 1 a1.length (flat E_B a1))), (10, (.sref (496, 9) 0 y16.length 1)), (52, (.ro 7 a0.length (flat E_SiiiA4ie a0))), (53, (vI (a0.length : Int))), (54, (vI y17)), (56, (vI y17))]) (h := [(496, ⟨9, .live, true, flat E_B y16⟩)]) (ep := 23) (by kernel_rfl) ?_
                  obtain ⟨hb20, h⟩ := gS h
                  refine .o tabOk rfl rfl rfl (q_idx E_SiiiA4ie rfl rfl rfl rfl rfl rfl hb20) ?_
                  refine .o tabOk rfl rfl rfl (q_ld0 E_SiiiA4ie rfl rfl rfl hb20 rfl) ?_
                  refine .seg tabOk 3 3 [0, 1, 10, 13, 14, 52, 53, 54] [224, 496] (t := [(0, (.ro 7 a0.length (flat E_SiiiA4ie a0))), (1, (.ro 1 a1.length (flat E_B a1))), (10, (.sref (496, 9) 0 y16.length 1)), (13, (vI y17)), (14, (.ptr (224, 23) 0)), (52, (.ro 7 a0.length (flat E_SiiiA4ie a0))), (53, (vI (a0.length : Int))), (54, (vI y17))]) (h := [(224, ⟨23, .live, true, [(vI (nth E_SiiiA4ie a0 y17).f0), (vI (nth E_SiiiA4ie a0 y17).f1), (vI (nth E_SiiiA4ie a0 y17).f2), (vI (nth E_SiiiA4ie a0 y17).f3.a0), (vI (nth E_SiiiA4ie a0 y17).f3.a1), (vI (nth E_SiiiA4ie a0 y17).f3.a2), (vI (nth E_SiiiA4ie a0 y17).f3.a3)]⟩), (496, ⟨9, .live, true, flat E_B y16⟩)]) (ep := 24) (by kernel_rfl) ?_
                  refine .fin rfl ?_
                  refine sqN ?_
                  refine .seq ?_
                  refine .seq ?_
                  obtain ⟨j35, hj35, h⟩ := ljS h
                  refine .join (fun s' => ∃ x34, s' = ⟨[(0, (.ro 7 a0.length (flat E_SiiiA4ie a0))), (1, (.ro 1 a1.length (flat E_B a1))), (10, (.sref (496, 9) 0 y16.length 1)), (13, (vI y17)), (14, (.ptr (224, 23) 0)), (52, (.ro 7 a0.length (flat E_SiiiA4ie a0))), (53, (vI (a0.length : Int))), (54, (vI y17)), (106, (.val (.bool x34)))], [(224, ⟨23, .live, true, [(vI (nth E_SiiiA4ie a0 y17).f0), (vI (nth E_SiiiA4ie a0 y17).f1), (vI (nth E_SiiiA4ie a0 y17).f2), (vI (nth E_SiiiA4ie a0 y17).f3.a0), (vI (nth E_SiiiA4ie a0 y17).f3.a1), (vI (nth E_SiiiA4ie a0 y17).f3.a2), (vI (nth E_SiiiA4ie a0 y17).f3.a3)]⟩), (496, ⟨9, .live, true, flat E_B y16⟩)], 40⟩ ∧ j35 x34 = some r) ?_ ?_
                  · refine .rgI rfl ?_
                    refine .seg tabOk 0 4 [0, 1, 10, 13, 14, 52, 53, 54, 62] [224, 496] (t := [(0, (.ro 7 a0.length (flat E_SiiiA4ie a0))), (1, (.ro 1 a1.length (flat E_B a1))), (10, (.sref (496, 9) 0 y16.length 1)), (13, (vI y17)), (14, (.ptr (224, 23) 0)), (52, (.ro 7 a0.length (flat E_SiiiA4ie a0))), (53, (vI (a0.length : Int))), (54, (vI y17)), (62, (.val (.bool (decide ((nth E_SiiiA4ie a0 y17).f0 < 0)))))]) (h := [(224, ⟨23, .live, true, [(vI (nth E_SiiiA4ie a0 y17).f0), (vI (nth E_SiiiA4ie a0 y17).f1), (vI (nth E_SiiiA4ie a0 y17).f2), (vI (nth E_SiiiA4ie a0 y17).f3.a0), (vI (nth E_SiiiA4ie a0 y17).f3.a1), (vI (nth E_SiiiA4ie a0 y17).f3.a2), (vI (nth E_SiiiA4ie a0 y17).f3.a3)]⟩), (496, ⟨9, .live, true, flat E_B y16⟩)]) (ep := 26) (by kernel_rfl) ?_
                    cases hB21 : (decide ((nth E_SiiiA4ie a0 y17).f0 < 0)) with
                    | false =>
                      have h := iF h hB21
                      refine .seg tabOk 4 5 [0, 1, 10, 13, 14, 52, 53, 54, 67] [224, 496] (t := [(0, (.ro 7 a0.length (flat E_SiiiA4ie a0))), (1, (.ro 1 a1.length (flat E_B a1))), (10, (.sref (496, 9) 0 y16.length 1)), (13, (vI y17)), (14, (.ptr (224, 23) 0)), (52, (.ro 7 a0.length (flat E_SiiiA4ie a0))), (53, (vI (a0.length : Int))), (54, (vI y17)), (67, (.val (.bool (decide (65535 < (nth E_SiiiA4ie a0 y17).f0)))))]) (h := [(224, ⟨23, .live, true, [(vI (nth E_SiiiA4ie a0 y17).f0), (vI (nth E_SiiiA4ie a0 y17).f1), (vI (nth E_SiiiA4ie a0 y17).f2), (vI (nth E_SiiiA4ie a0 y17).f3.a0), (vI (nth E_SiiiA4ie a0 y17).f3.a1), (vI (nth E_SiiiA4ie a0 y17).f3.a2), (vI (nth E_SiiiA4ie a0 y17).f3.a3)]⟩), (496, ⟨9, .live, true, flat E_B y16⟩)]) (ep := 27) (by kernel_rfl) ?_
                      cases hB22 : (decide (65535 < (nth E_SiiiA4ie a0 y17).f0)) with
                      | false =>
                        have h := iF h hB22
                        refine .seg tabOk 9 2 [0, 1, 10, 13, 14, 52, 53, 54, 67, 69] [224, 496] (t := [(0, (.ro 7 a0.length (flat E_SiiiA4ie a0))), (1, (.ro 1 a1.length (flat E_B a1))), (10, (.sref (496, 9) 0 y16.length 1)), (13, (vI y17)), (14, (.ptr (224, 23) 0)), (52, (.ro 7 a0.length (flat E_SiiiA4ie a0))), (53, (vI (a0.length : Int))), (54, (vI y17)), (67, (.val (.bool false))), (69, (vI (nth E_SiiiA4ie a0 y17).f1))]) (h := [(224, ⟨23, .live, true, [(vI (nth E_SiiiA4ie a0 y17).f0), (vI (nth E_SiiiA4ie a0 y17).f1), (vI (nth E_SiiiA4ie a0 y17).f2), (vI (nth E_SiiiA4ie a0 y17).f3.a0), (vI (nth E_SiiiA4ie a0 y17).f3.a1), (vI (nth E_SiiiA4ie a0 y17).f3.a2), (vI (nth E_SiiiA4ie a0 y17).f3.a3)]⟩), (496, ⟨9, .live, true, flat E_B y16⟩)]) (ep := 28) (by kernel_rfl) ?_
                        obtain ⟨v23, hv23, h⟩ := bS h
                        refine .cc true rfl rfl (C_r08_short _ _ _ hv23) ent_r08_short rfl rfl rfl rfl (g_cons (g_pl rfl rfl) g_nil) rfl ?_
                        refine .seg tabOk 12 3 [0, 1, 10, 13, 14, 52, 53, 54, 73] [224, 496] (t := [(0, (.ro 7 a0.length (flat E_SiiiA4ie a0))), (1, (.ro 1 a1.length (flat E_B a1))), (10, (.sref (496, 9) 0 y16.length 1)), (13, (vI y17)), (14, (.ptr (224, 23) 0)), (52, (.ro 7 a0.length (flat E_SiiiA4ie a0))), (53, (vI (a0.length : Int))), (54, (vI y17)), (73, (.val (.bool (!v23))))]) (h := [(224, ⟨23, .live, true, [(vI (nth E_SiiiA4ie a0 y17).f0), (vI (nth E_SiiiA4ie a0 y17).f1), (vI (nth E_SiiiA4ie a0 y17).f2), (vI (nth E_SiiiA4ie a0 y17).f3.a0), (vI (nth E_SiiiA4ie a0 y17).f3.a1), (vI (nth E_SiiiA4ie a0 y17).f3.a2), (vI (nth E_SiiiA4ie a0 y17).f3.a3)]⟩), (496, ⟨9, .live, true, flat E_B y16⟩)]) (ep := 29) (by kernel_rfl) ?_
                        cases hB24 : (!v23) with
                        | false =>
                          have h := iF h hB24
                          refine .seg tabOk 15 2 [0, 1, 10, 13, 14, 52, 53, 54, 73, 75] [224, 496] (t := [(0, (.ro 7 a0.length (flat E_SiiiA4ie a0))), (1, (.ro 1 a1.length (flat E_B a1))), (10, (.sref (496, 9) 0 y16.length 1)), (13, (vI y17)), (14, (.ptr (224, 23) 0)), (52, (.ro 7 a0.length (flat E_SiiiA4ie a0))), (53, (vI (a0.length : Int))), (54, (vI y17)), (73, (.val (.bool false))), (75, (vI (nth E_SiiiA4ie a0 y17).f2))]) (h := [(224, ⟨23, .live, true, [(vI (nth E_SiiiA4ie a0 y17).f0), (vI (nth E_SiiiA4ie a0 y17).f1), (vI (nth E_SiiiA4ie a0 y17).f2), (vI (nth E_SiiiA4ie a0 y17).f3.a0), (vI (nth E_SiiiA4ie a0 y17).f3.a1), (vI (nth E_SiiiA4ie a0 y17).f3.a2), (vI (nth E_SiiiA4ie a0 y17).f3.a3)]⟩), (496, ⟨9, .live, true, flat E_B y16⟩)]) (ep := 30) (by kernel_rfl) ?_
                          obtain ⟨v25, hv25, h⟩ := bS h
                          refine .cc true rfl rfl (C_r08_short _ _ _ hv25) ent_r08_short rfl rfl rfl rfl (g_cons (g_pl rfl rfl) g_nil) rfl ?_
                          refine .seg tabOk 18 3 [0, 1, 10, 13, 14, 52, 53, 54, 79] [224, 496] (t := [(0, (.ro 7 a0.length (flat E_SiiiA4ie a0))), (1, (.ro 1 a1.length (flat E_B a1))), (10, (.sref (496, 9) 0 y16.length 1)), (13, (vI y17)), (14, (.ptr (224, 23) 0)), (52, (.ro 7 a0.length (flat E_SiiiA4ie a0))), (53, (vI (a0.length : Int))), (54, (vI y17)), (79, (.val (.bool (!v25))))]) (h := [(224, ⟨23, .live, true, [(vI (nth E_SiiiA4ie a0 y17).f0), (vI (nth E_SiiiA4ie a0 y17).f1), (vI (nth E_SiiiA4ie a0 y17).f2), (vI (nth E_SiiiA4ie a0 y17).f3.a0), (vI (nth E_SiiiA4ie a0 y17).f3.a1), (vI (nth E_SiiiA4ie a0 y17).f3.a2), (vI (nth E_SiiiA4ie a0 y17).f3.a3)]⟩), (496, ⟨9, .live, true, flat E_B y16⟩)]) (ep := 31) (by kernel_rfl) ?_
                          cases hB26 : (!v25) with
                          | false =>
                            have h := iF h hB26
                            refine .seg tabOk 21 3 [0, 1, 10, 13, 14, 52, 53, 54, 79, 82] [224, 496] (t := [(0, (.ro 7 a0.length (flat E_SiiiA4ie a0))), (1, (.ro 1 a1.length (flat E_B a1))), (10, (.sref (496, 9) 0 y16.length 1)), (13, (vI y17)), (14, (.ptr (224, 23) 0)), (52, (.ro 7 a0.length (flat E_SiiiA4ie a0))), (53, (vI (a0.length : Int))), (54, (vI y17)), (79, (.val (.bool false))), (82, (vI (nth E_SiiiA4ie a0 y17).f3.a0))]) (h := [(224, ⟨23, .live, true, [(vI (nth E_SiiiA4ie a0 y17).f0), (vI (nth E_SiiiA4ie a0 y17).f1), (vI (nth E_SiiiA4ie a0 y17).f2), (vI (nth E_SiiiA4ie a0 y17).f3.a0), (vI (nth E_SiiiA4ie a0 y17).f3.a1), (vI (nth E_SiiiA4ie a0 y17).f3.a2), (vI (nth E_SiiiA4ie a0 y17).f3.a3)]⟩), (496, ⟨9, .live, true, flat E_B y16⟩)]) (ep := 32) (by kernel_rfl) ?_
                            obtain ⟨v27, hv27, h⟩ := bS h
                            refine .cc true rfl rfl (C_r08_short _ _ _ hv27) ent_r08_short rfl rfl rfl rfl (g_cons (g_pl rfl rfl) g_nil) rfl ?_
                            refine .seg tabOk 25 3 [0, 1, 10, 13, 14, 52, 53, 54, 86] [224, 496] (t := [(0, (.ro 7 a0.length (flat E_SiiiA4ie a0))), (1, (.ro 1 a1.length (flat E_B a1))), (10, (.sref (496, 9) 0 y16.length 1)), (13, (vI y17)), (14, (.ptr (224, 23) 0)), (52, (.ro 7 a0.length (flat E_SiiiA4ie a0))), (53, (vI (a0.length : Int))), (54, (vI y17)), (86, (.val (.bool (!v27))))]) (h := [(224, ⟨23, .live, true, [(vI (nth E_SiiiA4ie a0 y17).f0), (vI (nth E_SiiiA4ie a0 y17).f1), (vI (nth E_SiiiA4ie a0 y17).f2), (vI (nth E_SiiiA4ie a0 y17).f3.a0), (vI (nth E_SiiiA4ie a0 y17).f3.a1), (vI (nth E_SiiiA4ie a0 y17).f3.a2), (vI (nth E_SiiiA4ie a0 y17).f3.a3)]⟩), (496, ⟨9, .live, true, flat E_B y16⟩)]) (ep := 33) (by kernel_rfl) ?_
                            cases hB28 : (!v27) with
                            | false =>
                              have h := iF h hB28
                              refine .seg tabOk 28 3 [0, 1, 10, 13, 14, 52, 53, 54, 86, 89] [224, 496] (t := [(0, (.ro 7 a0.length (flat E_SiiiA4ie a0))), (1, (.ro 1 a1.length (flat E_B a1))), (10, (.sref (496, 9) 0 y16.length 1)), (13, (vI y17)), (14, (.ptr (224, 23) 0)), (52, (.ro 7 a0.length (flat E_SiiiA4ie a0))), (53, (vI (a0.length : Int))), (54, (vI y17)), (86, (.val (.bool false))), (89, (vI (nth E_SiiiA4ie a0 y17).f3.a1))]) (h := [(224, ⟨23, .live, true, [(vI (nth E_SiiiA4ie a0 y17).f0), (vI (nth E_SiiiA4ie a0 y17).f1), (vI (nth E_SiiiA4ie a0 y17).f2), (vI (nth E_SiiiA4ie a0 y17).f3.a0), (vI (nth E_SiiiA4ie a0 y17).f3.a1), (vI (nth E_SiiiA4ie a0 y17).f3.a2), (vI (nth E_SiiiA4ie a0 y17).f3.a3)]⟩), (496, ⟨9, .live, true, flat E_B y16⟩)]) (ep := 34) (by kernel_rfl) ?_
                              obtain ⟨v29, hv29, h⟩ := bS h
                              refine .cc true rfl rfl (C_r08_short _ _ _ hv29) ent_r08_short rfl rfl rfl rfl (g_cons (g_pl rfl rfl) g_nil) rfl ?_
                              refine .seg tabOk 32 3 [0, 1, 10, 13, 14, 52, 53, 54, 93] [224, 496] (t := [(0, (.ro 7 a0.length (flat E_SiiiA4ie a0))), (1, (.ro 1 a1.length (flat E_B a1))), (10, (.sref (496, 9) 0 y16.length 1)), (13, (vI y17)), (14, (.ptr (224, 23) 0)), (52, (.ro 7 a0.length (flat E_SiiiA4ie a0))), (53, (vI (a0.length : Int))), (54, (vI y17)), (93, (.val (.bool (!v29))))]) (h := [(224, ⟨23, .live, true, [(vI (nth E_SiiiA4ie a0 y17).f0), (vI (nth E_SiiiA4ie a0 y17).f1), (vI (nth E_SiiiA4ie a0 y17).f2), (vI (nth E_SiiiA4ie a0 y17).f3.a0), (vI (nth E_SiiiA4ie a0 y17).f3.a1), (vI (nth E_SiiiA4ie a0 y17).f3.a2), (vI (nth E_SiiiA4ie a0 y17).f3.a3)]⟩), (496, ⟨9, .live, true, flat E_B y16⟩)]) (ep := 35) (by kernel_rfl) ?_
                              cases hB30 : (!v29) with
                              | false =>
                                have h := iF h hB30
                                refine .seg tabOk 35 3 [0, 1, 10, 13, 14, 52, 53, 54, 93, 96] [224, 496] (t := [(0, (.ro 7 a0.length (flat E_SiiiA4ie a0))), (1, (.ro 1 a1.length (flat E_B a1))), (10, (.sref (496, 9) 0 y16.length 1)), (13, (vI y17)), (14, (.ptr (224, 23) 0)), (52, (.ro 7 a0.length (flat E_SiiiA4ie a0))), (53, (vI (a0.length : Int))), (54, (vI y17)), (93, (.val (.bool false))), (96, (vI (nth E_SiiiA4ie a0 y17).f3.a2))]) (h := [(224, ⟨23, .live, true, [(vI (nth E_SiiiA4ie a0 y17).f0), (vI (nth E_SiiiA4ie a0 y17).f1), (vI (nth E_SiiiA4ie a0 y17).f2), (vI (nth E_SiiiA4ie a0 y17).f3.a0), (vI (nth E_SiiiA4ie a0 y17).f3.a1), (vI (nth E_SiiiA4ie a0 y17).f3.a2), (vI (nth E_SiiiA4ie a0 y17).f3.a3)]⟩), (496, ⟨9, .live, true, flat E_B y16⟩)]) (ep := 36) (by kernel_rfl) ?_
                                obtain ⟨v31, hv31, h⟩ := bS h
                                refine .cc true rfl rfl (C_r08_short _ _ _ hv31) ent_r08_short rfl rfl rfl rfl (g_cons (g_pl rfl rfl) g_nil) rfl ?_
                                refine .seg tabOk 39 3 [0, 1, 10, 13, 14, 52, 53, 54, 100] [224, 496] (t := [(0, (.ro 7 a0.length (flat E_SiiiA4ie a0))), (1, (.ro 1 a1.length (flat E_B a1))), (10, (.sref (496, 9) 0 y16.length 1)), (13, (vI y17)), (14, (.ptr (224, 23) 0)), (52, (.ro 7 a0.length (flat E_SiiiA4ie a0))), (53, (vI (a0.length : Int))), (54, (vI y17)), (100, (.val (.bool (!v31))))]) (h := [(224, ⟨23, .live, true, [(vI (nth E_SiiiA4ie a0 y17).f0), (vI (nth E_SiiiA4ie a0 y17).f1), (vI (nth E_SiiiA4ie a0 y17).f2), (vI (nth E_SiiiA4ie a0 y17).f3.a0), (vI (nth E_SiiiA4ie a0 y17).f3.a1), (vI (nth E_SiiiA4ie a0 y17).f3.a2), (vI (nth E_SiiiA4ie a0 y17).f3.a3)]⟩), (496, ⟨9, .live, true, flat E_B y16⟩)]) (ep := 37) (by kernel_rfl) ?_
                                cases hB32 : (!v31) with
                                | false =>
                                  have h := iF h hB32
                                  refine .seg tabOk 42 3 [0, 1, 10, 13, 14, 52, 53, 54, 100, 103] [224, 496] (t := [(0, (.ro 7 a0.length (flat E_SiiiA4ie a0))), (1, (.ro 1 a1.length (flat E_B a1))), (10, (.sref (496, 9) 0 y16.length 1)), (13, (vI y17)), (14, (.ptr (224, 23) 0)), (52, (.ro 7 a0.length (flat E_SiiiA4ie a0))), (53, (vI (a0.length : Int))), (54, (vI y17)), (100, (.val (.bool false))), (103, (vI (nth E_SiiiA4ie a0 y17).f3.a3))]) (h := [(224, ⟨23, .live, true, [(vI (nth E_SiiiA4ie a0 y17).f0), (vI (nth E_SiiiA4ie a0 y17).f1), (vI (nth E_SiiiA4ie a0 y17).f2), (vI (nth E_SiiiA4ie a0 y17).f3.a0), (vI (nth E_SiiiA4ie a0 y17).f3.a1), (vI (nth E_SiiiA4ie a0 y17).f3.a2), (vI (nth E_SiiiA4ie a0 y17).f3.a3)]⟩), (496, ⟨9, .live, true, flat E_B y16⟩)]) (ep := 38) (by kernel_rfl) ?_
                                  obtain ⟨v33, hv33, h⟩ := bS h
                                  refine .cc true rfl rfl (C_r08_short _ _ _ hv33) ent_r08_short rfl rfl rfl rfl (g_cons (g_pl rfl rfl) g_nil) rfl ?_
                                  refine .seg tabOk 46 2 [0, 1, 10, 13, 14, 52, 53, 54, 106] [224, 496] (t := [(0, (.ro 7 a0.length (flat E_SiiiA4ie a0))), (1, (.ro 1 a1.length (flat E_B a1))), (10, (.sref (496, 9) 0 y16.length 1)), (13, (vI y17)), (14, (.ptr (224, 23) 0)), (52, (.ro 7 a0.length (flat E_SiiiA4ie a0))), (53, (vI (a0.length : Int))), (54, (vI y17)), (106, (.val (.bool (!v33))))]) (h := [(224, ⟨23, .live, true, [(vI (nth E_SiiiA4ie a0 y17).f0), (vI (nth E_SiiiA4ie a0 y17).f1), (vI (nth E_SiiiA4ie a0 y17).f2), (vI (nth E_SiiiA4ie a0 y17).f3.a0), (vI (nth E_SiiiA4ie a0 y17).f3.a1), (vI (nth E_SiiiA4ie a0 y17).f3.a2), (vI (nth E_SiiiA4ie a0 y17).f3.a3)]⟩), (496, ⟨9, .live, true, flat E_B y16⟩)]) (ep := 39) (by kernel_rfl) ?_
                                  refine .fin rfl ?_
                                  exact jkN (by exact .tn [((224, 23), (224, 23)), ((496, 9), (496, 9))] ⟨rfl, rfl, rfl, rfl, rfl, rfl, rfl, rfl, rfl, trivial⟩ ⟨rfl, ⟨_, rfl, rfl⟩, ⟨rfl, ⟨_, rfl, ah_row E_B⟩, trivial⟩⟩ rfl) ⟨_, rfl, h⟩
                                | true =>
                                  have h := iT h hB32
                                  refine .seg tabOk 42 6 [0, 1, 10, 13, 14, 52, 53, 54, 106] [224, 496] (t := [(0, (.ro 7 a0.length (flat E_SiiiA4ie a0))), (1, (.ro 1 a1.length (flat E_B a1))), (10, (.sref (496, 9) 0 y16.length 1)), (13, (vI y17)), (14, (.ptr (224, 23) 0)), (52, (.ro 7 a0.length (flat E_SiiiA4ie a0))), (53, (vI (a0.length : Int))), (54, (vI y17)), (106, (.val (.bool true)))]) (h := [(224, ⟨23, .live, true, [(vI (nth E_SiiiA4ie a0 y17).f0), (vI (nth E_SiiiA4ie a0 y17).f1), (vI (nth E_SiiiA4ie a0 y17).f2), (vI (nth E_SiiiA4ie a0 y17).f3.a0), (vI (nth E_SiiiA4ie a0 y17).f3.a1), (vI (nth E_SiiiA4ie a0 y17).f3.a2), (vI (nth E_SiiiA4ie a0 y17).f3.a3)]⟩), (496, ⟨9, .live, true, flat E_B y16⟩)]) (ep := 38) (by kernel_rfl) ?_
                                  refine .fin rfl ?_
                                  exact jkN (by exact .tn [((224, 23), (224, 23)), ((496, 9), (496, 9))] ⟨rfl, rfl, rfl, rfl, rfl, rfl, rfl, rfl, rfl, trivial⟩ ⟨rfl, ⟨_, rfl, rfl⟩, ⟨rfl, ⟨_, rfl, ah_row E_B⟩, trivial⟩⟩ rfl) ⟨_, rfl, h⟩
                              | true =>
                                have h := iT h hB30
                                refine .seg tabOk 35 13 [0, 1, 10, 13, 14, 52, 53, 54, 106] [224, 496] (t := [(0, (.ro 7 a0.length (flat E_SiiiA4ie a0))), (1, (.ro 1 a1.length (flat E_B a1))), (10, (.sref (496, 9) 0 y16.length 1)), (13, (vI y17)), (14, (.ptr (224, 23) 0)), (52, (.ro 7 a0.length (flat E_SiiiA4ie a0))), (53, (vI (a0.length : Int))), (54, (vI y17)), (106, (.val (.bool true)))]) (h := [(224, ⟨23, .live, true, [(vI (nth E_SiiiA4ie a0 y17).f0), (vI (nth E_SiiiA4ie a0 y17).f1), (vI (nth E_SiiiA4ie a0 y17).f2), (vI (nth E_SiiiA4ie a0 y17).f3.a0), (vI (nth E_SiiiA4ie a0 y17).f3.a1), (vI (nth E_SiiiA4ie a0 y17).f3.a2), (vI (nth E_SiiiA4ie a0 y17).f3.a3)]⟩), (496, ⟨9, .live, true, flat E_B y16⟩)]) (ep := 36) (by kernel_rfl) ?_
                                refine .fin rfl ?_
                                exact jkN (by exact .tn [((224, 23), (224, 23)), ((496, 9), (496, 9))] ⟨rfl, rfl, rfl, rfl, rfl, rfl, rfl, rfl, rfl, trivial⟩ ⟨rfl, ⟨_, rfl, rfl⟩, ⟨rfl, ⟨_, rfl, ah_row E_B⟩, trivial⟩⟩ rfl) ⟨_, rfl, h⟩
                            | true =>
                              have h := iT h hB28
                              refine .seg tabOk 28 20 [0, 1, 10, 13, 14, 52, 53, 54, 106] [224, 496] (t := [(0, (.ro 7 a0.length (flat E_SiiiA4ie a0))), (1, (.ro 1 a1.length (flat E_B a1))), (10, (.sref (496, 9) 0 y16.length 1)), (13, (vI y17)), (14, (.ptr (224, 23) 0)), (52, (.ro 7 a0.length (flat E_SiiiA4ie a0))), (53, (vI (a0.length : Int))), (54, (vI y17)), (106, (.val (.bool true)))]) (h := [(224, ⟨23, .live, true, [(vI (nth E_SiiiA4ie a0 y17).f0), (vI (nth E_SiiiA4ie a0 y17).f1), (vI (nth E_SiiiA4ie a0 y17).f2), (vI (nth E_SiiiA4ie a0 y17).f3.a0), (vI (nth E_SiiiA4ie a0 y17).f3.a1), (vI (nth E_SiiiA4ie a0 y17).f3.a2), (vI (nth E_SiiiA4ie a0 y17).f3.a3)]⟩), (496, ⟨9, .live, true, flat E_B y16⟩)]) (ep := 34) (by kernel_rfl) ?_
                              refine .fin rfl ?_
                              exact jkN (by exact .tn [((224, 23), (224, 23)), ((496, 9), (496, 9))] ⟨rfl, rfl, rfl, rfl, rfl, rfl, rfl, rfl, rfl, trivial⟩ ⟨rfl, ⟨_, rfl, rfl⟩, ⟨rfl, ⟨_, rfl, ah_row E_B⟩, trivial⟩⟩ rfl) ⟨_, rfl, h⟩
                          | true =>
                            have h := iT h hB26
                            refine .seg tabOk 21 27 [0, 1, 10, 13, 14, 52, 53, 54, 106] [224, 496] (t := [(0, (.ro 7 a0.length (flat E_SiiiA4ie a0))), (1, (.ro 1 a1.length (flat E_B a1))), (10, (.sref (496, 9) 0 y16.length 1)), (13, (vI y17)), (14, (.ptr (224, 23) 0)), (52, (.ro 7 a0.length (flat E_SiiiA4ie a0))), (53, (vI (a0.length : Int))), (54, (vI y17)), (106, (.val (.bool true)))]) (h := [(224, ⟨23, .live, true, [(vI (nth E_SiiiA4ie a0 y17).f0), (vI (nth E_SiiiA4ie a0 y17).f1), (vI (nth E_SiiiA4ie a0 y17).f2), (vI (nth E_SiiiA4ie a0 y17).f3.a0), (vI (nth E_SiiiA4ie a0 y17).f3.a1), (vI (nth E_SiiiA4ie a0 y17).f3.a2), (vI (nth E_SiiiA4ie a0 y17).f3.a3)]⟩), (496, ⟨9, .live, true, flat E_B y16⟩)]) (ep := 32) (by kernel_rfl) ?_
                            refine .fin rfl ?_
                            exact jkN (by exact .tn [((224, 23), (224, 23)), ((496, 9), (496, 9))] ⟨rfl, rfl, rfl, rfl, rfl, rfl, rfl, rfl, rfl, trivial⟩ ⟨rfl, ⟨_, rfl, rfl⟩, ⟨rfl, ⟨_, rfl, ah_row E_B⟩, trivial⟩⟩ rfl) ⟨_, rfl, h⟩
                        | true =>
                          have h := iT h hB24
                          refine .seg tabOk 15 33 [0, 1, 10, 13, 14, 52, 53, 54, 106] [224, 496] (t := [(0, (.ro 7 a0.length (flat E_SiiiA4ie a0))), (1, (.ro 1 a1.length (flat E_B a1))), (10, (.sref (496, 9) 0 y16.length 1)), (13, (vI y17)), (14, (.ptr (224, 23) 0)), (52, (.ro 7 a0.length (flat E_SiiiA4ie a0))), (53, (vI (a0.length : Int))), (54, (vI y17)), (106, (.val (.bool true)))]) (h := [(224, ⟨23, .live, true, [(vI (nth E_SiiiA4ie a0 y17).f0), (vI (nth E_SiiiA4ie a0 y17).f1), (vI (nth E_SiiiA4ie a0 y17).f2), (vI (nth E_SiiiA4ie a0 y17).f3.a0), (vI (nth E_SiiiA4ie a0 y17).f3.a1), (vI (nth E_SiiiA4ie a0 y17).f3.a2), (vI (nth E_SiiiA4ie a0 y17).f3.a3)]⟩), (496, ⟨9, .live, true, flat E_B y16⟩)]) (ep := 30) (by kernel_rfl) ?_
                          refine .fin rfl ?_
                          exact jkN (by exact .tn [((224, 23), (224, 23)), ((496, 9), (496, 9))] ⟨rfl, rfl, rfl, rfl, rfl, rfl, rfl, rfl, rfl, trivial⟩ ⟨rfl, ⟨_, rfl, rfl⟩, ⟨rfl, ⟨_, rfl, ah_row E_B⟩, trivial⟩⟩ rfl) ⟨_, rfl, h⟩
                      | true =>
                        have h := iT h hB22
                        refine .seg tabOk 9 39 [0, 1, 10, 13, 14, 52, 53, 54, 106] [224, 496] (t := [(0, (.ro 7 a0.length (flat E_SiiiA4ie a0))), (1, (.ro 1 a1.length (flat E_B a1))), (10, (.sref (496, 9) 0 y16.length 1)), (13, (vI y17)), (14, (.ptr (224, 23) 0)), (52, (.ro 7 a0.length (flat E_SiiiA4ie a0))), (53, (vI (a0.length : Int))), (54, (vI y17)), (106, (.val (.bool true)))]) (h := [(224, ⟨23, .live, true, [(vI (nth E_SiiiA4ie a0 y17).f0), (vI (nth E_SiiiA4ie a0 y17).f1), (vI (nth E_SiiiA4ie a0 y17).f2), (vI (nth E_SiiiA4ie a0 y17).f3.a0), (vI (nth E_SiiiA4ie a0 y17).f3.a1), (vI (nth E_SiiiA4ie a0 y17).f3.a2), (vI (nth E_SiiiA4ie a0 y17).f3.a3)]⟩), (496, ⟨9, .live, true, flat E_B y16⟩)]) (ep := 28) (by kernel_rfl) ?_
                        refine .fin rfl ?_
                        exact jkN (by exact .tn [((224, 23), (224, 23)), ((496, 9), (496, 9))] ⟨rfl, rfl, rfl, rfl, rfl, rfl, rfl, rfl, rfl, trivial⟩ ⟨rfl, ⟨_, rfl, rfl⟩, ⟨rfl, ⟨_, rfl, ah_row E_B⟩, trivial⟩⟩ rfl) ⟨_, rfl, h⟩
                    | true =>
                      have h := iT h hB21
                      refine .seg tabOk 4 44 [0, 1, 10, 13, 14, 52, 53, 54, 106] [224, 496] (t := [(0, (.ro 7 a0.length (flat E_SiiiA4ie a0))), (1, (.ro 1 a1.length (flat E_B a1))), (10, (.sref (496, 9) 0 y16.length 1)), (13, (vI y17)), (14, (.ptr (224, 23) 0)), (52, (.ro 7 a0.length (flat E_SiiiA4ie a0))), (53, (vI (a0.length : Int))), (54, (vI y17)), (106, (.val (.bool true)))]) (h := [(224, ⟨23, .live, true, [(vI (nth E_SiiiA4ie a0 y17).f0), (vI (nth E_SiiiA4ie a0 y17).f1), (vI (nth E_SiiiA4ie a0 y17).f2), (vI (nth E_SiiiA4ie a0 y17).f3.a0), (vI (nth E_SiiiA4ie a0 y17).f3.a1), (vI (nth E_SiiiA4ie a0 y17).f3.a2), (vI (nth E_SiiiA4ie a0 y17).f3.a3)]⟩), (496, ⟨9, .live, true, flat E_B y16⟩)]) (ep := 27) (by kernel_rfl) ?_
                      refine .fin rfl ?_
                      exact jkN (by exact .tn [((224, 23), (224, 23)), ((496, 9), (496, 9))] ⟨rfl, rfl, rfl, rfl, rfl, rfl, rfl, rfl, rfl, trivial⟩ ⟨rfl, ⟨_, rfl, rfl⟩, ⟨rfl, ⟨_, rfl, ah_row E_B⟩, trivial⟩⟩ rfl) ⟨_, rfl, h⟩
                  · rintro _ ⟨x34, rfl, h⟩
                    subst hj35
                    refine sqN ?_
                    refine .cond x34 rfl (fun hc36 => ?_) (fun hc36 => ?_)
                    · have h := iT h hc36
                      refine .seq ?_
                      refine .rgI rfl ?_
                      refine .seg tabOk 0 2 [8, 9] [] (t := [(8, .nils), (9, (vI 6))]) (h := []) (ep := 42) (by kernel_rfl) ?_
                      refine .fin rfl ?_
                      refine sqN ?_
                      refine .pre (.nilRow 8 1 143 rfl (fresh_none rfl)) ?_
                      refine .ret ?_
                      refine sqR ?_
                      refine bkR ?_
                      refine jkR ?_
                      refine sqR ?_
                      refine jkR ?_
                      refine bkR ?_
                      refine jkR ?_
                      refine sqR ?_
                      injection h with h
                      subst h
                      exact ⟨.inr rfl, _, _, (f_cons (f_tmp rfl (o1_row E_B ([] : List Int) rfl rfl rfl rfl rfl)) (f_cons rfl f_nil)), nd_of rfl, rfl, rfl⟩
                    · have h := iF h hc36
                      refine .skip ?_
                      refine sqN ?_
                      refine .seq ?_
                      refine .rgI rfl ?_
                      refine .seg tabOk 0 2 [0, 1, 10, 13, 14, 52, 53, 54, 109] [224, 496] (t := [(0, (.ro 7 a0.length (flat E_SiiiA4ie a0))), (1, (.ro 1 a1.length (flat E_B a1))), (10, (.sref (496, 9) 0 y16.length 1)), (13, (vI y17)), (14, (.ptr (224, 23) 0)), (52, (.ro 7 a0.length (flat E_SiiiA4ie a0))), (53, (vI (a0.length : Int))), (54, (vI y17)), (109, (.agg [(vI (nth E_SiiiA4ie a0 y17).f3.a0), (vI (nth E_SiiiA4ie a0 y17).f3.a1), (vI (nth E_SiiiA4ie a0 y17).f3.a2), (vI (nth E_SiiiA4ie a0 y17).f3.a3)]))]) (h := [(224, ⟨23, .live, true, [(vI (nth E_SiiiA4ie a0 y17).f0), (vI (nth E_SiiiA4ie a0 y17).f1), (vI (nth E_SiiiA4ie a0 y17).f2), (vI (nth E_SiiiA4ie a0 y17).f3.a0), (vI (nth E_SiiiA4ie a0 y17).f3.a1), (vI (nth E_SiiiA4ie a0 y17).f3.a2), (vI (nth E_SiiiA4ie a0 y17).f3.a3)]⟩), (496, ⟨9, .live, true, flat E_B y16⟩)]) (ep := 42) (by kernel_rfl) ?_
                      obtain ⟨v37, hv37, h⟩ := bS h
                      refine .cc true rfl rfl (C_r08_turn _ _ _ hv37) ent_r08_turn rfl rfl rfl rfl (g_cons (g_pl rfl rfl) g_nil) rfl ?_
                      refine .seg tabOk 3 5 [0, 1, 10, 13, 14, 15, 16, 52, 53, 54] [224, 496, 1760] (t := [(0, (.ro 7 a0.length (flat E_SiiiA4ie a0))), (1, (.ro 1 a1.length (flat E_B a1))), (10, (.sref (496, 9) 0 y16.length 1)), (13, (vI y17)), (14, (.ptr (224, 23) 0)), (15, (vI v37.1)), (16, (.sref (1760, 42) 0 v37.2.length 1)), (52, (.ro 7 a0.length (flat E_SiiiA4ie a0))), (53, (vI (a0.length : Int))), (54, (vI y17))]) (h := [(224, ⟨23, .live, true, [(vI (nth E_SiiiA4ie a0 y17).f0), (vI (nth E_SiiiA4ie a0 y17).f1), (vI (nth E_SiiiA4ie a0 y17).f2), (vI (nth E_SiiiA4ie a0 y17).f3.a0), (vI (nth E_SiiiA4ie a0 y17).f3.a1), (vI (nth E_SiiiA4ie a0 y17).f3.a2), (vI (nth E_SiiiA4ie a0 y17).f3.a3)]⟩), (496, ⟨9, .live, true, flat E_B y16⟩), (1760, ⟨42, .live, true, flat E_i v37.2⟩)]) (ep := 43) (by kernel_rfl) ?_
                      refine .fin rfl ?_
                      refine sqN ?_
                      refine .seq ?_
                      refine .rgI rfl ?_
                      refine .seg tabOk 0 3 [0, 1, 10, 13, 14, 15, 16, 52, 53, 54] [224, 496, 1760] (t := [(0, (.ro 7 a0.length (flat E_SiiiA4ie a0))), (1, (.ro 1 a1.length (flat E_B a1))), (10, (.sref (496, 9) 0 y16.length 1)), (13, (vI y17)), (14, (.ptr (224, 23) 0)), (15, (vI (w64 (v37.1 + 2)))), (16, (.sref (1760, 42) 0 v37.2.length 1)), (52, (.ro 7 a0.length (flat E_SiiiA4ie a0))), (53, (vI (a0.length : Int))), (54, (vI y17))]) (h := [(224, ⟨23, .live, true, [(vI (nth E_SiiiA4ie a0 y17).f0), (vI (nth E_SiiiA4ie a0 y17).f1), (vI (nth E_SiiiA4ie a0 y17).f2), (vI (nth E_SiiiA4ie a0 y17).f3.a0), (vI (nth E_SiiiA4ie a0 y17).f3.a1), (vI (nth E_SiiiA4ie a0 y17).f3.a2), (vI (nth E_SiiiA4ie a0 y17).f3.a3)]⟩), (496, ⟨9, .live, true, flat E_B y16⟩), (1760, ⟨42, .live, true, flat E_i v37.2⟩)]) (ep := 45) (by kernel_rfl) ?_
                      refine .fin rfl ?_
                      refine sqN ?_
                      refine .seq ?_
                      refine .rgI rfl ?_
                      refine .seg tabOk 0 1 [0, 1, 10, 13, 14, 15, 16, 17, 52, 53, 54] [224, 496, 1760] (t := [(0, (.ro 7 a0.length (flat E_SiiiA4ie a0))), (1, (.ro 1 a1.length (flat E_B a1))), (10, (.sref (496, 9) 0 y16.length 1)), (13, (vI y17)), (14, (.ptr (224, 23) 0)), (15, (vI (w64 (v37.1 + 2)))), (16, (.sref (1760, 42) 0 v37.2.length 1)), (17, (vI 1)), (52, (.ro 7 a0.length (flat E_SiiiA4ie a0))), (53, (vI (a0.length : Int))), (54, (vI y17))]) (h := [(224, ⟨23, .live, true, [(vI (nth E_SiiiA4ie a0 y17).f0), (vI (nth E_SiiiA4ie a0 y17).f1), (vI (nth E_SiiiA4ie a0 y17).f2), (vI (nth E_SiiiA4ie a0 y17).f3.a0), (vI (nth E_SiiiA4ie a0 y17).f3.a1), (vI (nth E_SiiiA4ie a0 y17).f3.a2), (vI (nth E_SiiiA4ie a0 y17).f3.a3)]⟩), (496, ⟨9, .live, true, flat E_B y16⟩), (1760, ⟨42, .live, true, flat E_i v37.2⟩)]) (ep := 47) (by kernel_rfl) ?_
                      refine .fin rfl ?_
                      refine sqN ?_
                      refine .seq ?_
                      refine .seq ?_
                      refine .join (fun s' => s' = ⟨[(0, (.ro 7 a0.length (flat E_SiiiA4ie a0))), (1, (.ro 1 a1.length (flat E_B a1))), (10, (.sref (496, 9) 0 y16.length 1)), (13, (vI y17)), (14, (.ptr (224, 23) 0)), (15, (vI (w64 (v37.1 + 2)))), (16, (.sref (1760, 42) 0 v37.2.length 1)), (17, (vI 1)), (52, (.ro 7 a0.length (flat E_SiiiA4ie a0))), (53, (vI (a0.length : Int))), (54, (vI y17)), (132, (.val (.bool ((decide ((nth E_SiiiA4ie a0 y17).f1 < (-128))) || ((decide (127 < (nth E_SiiiA4ie a0 y17).f1)) || ((decide ((nth E_SiiiA4ie a0 y17).f2 < (-128))) || (decide (127 < (nth E_SiiiA4ie a0 y17).f2))))))))], [(224, ⟨23, .live, true, [(vI (nth E_SiiiA4ie a0 y17).f0), (vI (nth E_SiiiA4ie a0 y17).f1), (vI (nth E_SiiiA4ie a0 y17).f2), (vI (nth E_SiiiA4ie a0 y17).f3.a0), (vI (nth E_SiiiA4ie a0 y17).f3.a1), (vI (nth E_SiiiA4ie a0 y17).f3.a2), (vI (nth E_SiiiA4ie a0 y17).f3.a3)]⟩), (496, ⟨9, .live, true, flat E_B y16⟩), (1760, ⟨42, .live, true, flat E_i v37.2⟩)], 53⟩) ?_ ?_
                      · refine .rgI rfl ?_
                        refine .seg tabOk 0 4 [0, 1, 10, 13, 14, 15, 16, 17, 52, 53, 54, 118] [224, 496, 1760] (t := [(0, (.ro 7 a0.length (flat E_SiiiA4ie a0))), (1, (.ro 1 a1.length (flat E_B a1))), (10, (.sref (496, 9) 0 y16.length 1)), (13, (vI y17)), (14, (.ptr (224, 23) 0)), (15, (vI (w64 (v37.1 + 2)))), (16, (.sref (1760, 42) 0 v37.2.length 1)), (17, (vI 1)), (52, (.ro 7 a0.length (flat E_SiiiA4ie a0))), (53, (vI (a0.length : Int))), (54, (vI y17)), (118, (.val (.bool (decide ((nth E_SiiiA4ie a0 y17).f1 < (-128))))))]) (h := [(224, ⟨23, .live, true, [(vI (nth E_SiiiA4ie a0 y17).f0), (vI (nth E_SiiiA4ie a0 y17).f1), (vI (nth E_SiiiA4ie a0 y17).f2), (vI (nth E_SiiiA4ie a0 y17).f3.a0), (vI (nth E_SiiiA4ie a0 y17).f3.a1), (vI (nth E_SiiiA4ie a0 y17).f3.a2), (vI (nth E_SiiiA4ie a0 y17).f3.a3)]⟩), (496, ⟨9, .live, true, flat E_B y16⟩), (1760, ⟨42, .live, true, flat E_i v37.2⟩)]) (ep := 49) (by kernel_rfl) ?_
                        cases hB38 : (decide ((nth E_SiiiA4ie a0 y17).f1 < (-128))) with
                        | false =>
                          skip
                          refine .seg tabOk 4 5 [0, 1, 10, 13, 14, 15, 16, 17, 52, 53, 54, 123] [224, 496, 1760] (t := [(0, (.ro 7 a0.length (flat E_SiiiA4ie a0))), (1, (.ro 1 a1.length (flat E_B a1))), (10, (.sref (496, 9) 0 y16.length 1)), (13, (vI y17)), (14, (.ptr (224, 23) 0)), (15, (vI (w64 (v37.1 + 2)))), (16, (.sref (1760, 42) 0 v37.2.length 1)), (17, (vI 1)), (52, (.ro 7 a0.length (flat E_SiiiA4ie a0))), (53, (vI (a0.length : Int))), (54, (vI y17)), (123, (.val (.bool (decide (127 < (nth E_SiiiA4ie a0 y17).f1)))))]) (h := [(224, ⟨23, .live, true, [(vI (nth E_SiiiA4ie a0 y17).f0), (vI (nth E_SiiiA4ie a0 y17).f1), (vI (nth E_SiiiA4ie a0 y17).f2), (vI (nth E_SiiiA4ie a0 y17).f3.a0), (vI (nth E_SiiiA4ie a0 y17).f3.a1), (vI (nth E_SiiiA4ie a0 y17).f3.a2), (vI (nth E_SiiiA4ie a0 y17).f3.a3)]⟩), (496, ⟨9, .live, true, flat E_B y16⟩), (1760, ⟨42, .live, true, flat E_i v37.2⟩)]) (ep := 50) (by kernel_rfl) ?_
                          cases hB39 : (decide (127 < (nth E_SiiiA4ie a0 y17).f1)) with
                          | false =>
                            skip
                            refine .seg tabOk 9 5 [0, 1, 10, 13, 14, 15, 16, 17, 52, 53, 54, 128] [224, 496, 1760] (t := [(0, (.ro 7 a0.length (flat E_SiiiA4ie a0))), (1, (.ro 1 a1.length (flat E_B a1))), (10, (.sref (496, 9) 0 y16.length 1)), (13, (vI y17)), (14, (.ptr (224, 23) 0)), (15, (vI (w64 (v37.1 + 2)))), (16, (.sref (1760, 42) 0 v37.2.length 1)), (17, (vI 1)), (52, (.ro 7 a0.length (flat E_SiiiA4ie a0))), (53, (vI (a0.length : Int))), (54, (vI y17)), (128, (.val (.bool (decide ((nth E_SiiiA4ie a0 y17).f2 < (-128))))))]) (h := [(224, ⟨23, .live, true, [(vI (nth E_SiiiA4ie a0 y17).f0), (vI (nth E_SiiiA4ie a0 y17).f1), (vI (nth E_SiiiA4ie a0 y17).f2), (vI (nth E_SiiiA4ie a0 y17).f3.a0), (vI (nth E_SiiiA4ie a0 y17).f3.a1), (vI (nth E_SiiiA4ie a0 y17).f3.a2), (vI (nth E_SiiiA4ie a0 y17).f3.a3)]⟩), (496, ⟨9, .live, true, flat E_B y16⟩), (1760, ⟨42, .live, true, flat E_i v37.2⟩)]) (ep := 51) (by kernel_rfl) ?_
                            cases hB40 : (decide ((nth E_SiiiA4ie a0 y17).f2 < (-128))) with
                            | false =>
                              skip
                              refine .seg tabOk 14 4 [0, 1, 10, 13, 14, 15, 16, 17, 52, 53, 54, 132] [224, 496, 1760] (t := [(0, (.ro 7 a0.length (flat E_SiiiA4ie a0))), (1, (.ro 1 a1.length (flat E_B a1))), (10, (.sref (496, 9) 0 y16.length 1)), (13, (vI y17)), (14, (.ptr (224, 23) 0)), (15, (vI (w64 (v37.1 + 2)))), (16, (.sref (1760, 42) 0 v37.2.length 1)), (17, (vI 1)), (52, (.ro 7 a0.length (flat E_SiiiA4ie a0))), (53, (vI (a0.length : Int))), (54, (vI y17)), (132, (.val (.bool (decide (127 < (nth E_SiiiA4ie a0 y17).f2)))))]) (h := [(224, ⟨23, .live, true, [(vI (nth E_SiiiA4ie a0 y17).f0), (vI (nth E_SiiiA4ie a0 y17).f1), (vI (nth E_SiiiA4ie a0 y17).f2), (vI (nth E_SiiiA4ie a0 y17).f3.a0), (vI (nth E_SiiiA4ie a0 y17).f3.a1), (vI (nth E_SiiiA4ie a0 y17).f3.a2), (vI (nth E_SiiiA4ie a0 y17).f3.a3)]⟩), (496, ⟨9, .live, true, flat E_B y16⟩), (1760, ⟨42, .live, true, flat E_i v37.2⟩)]) (ep := 52) (by kernel_rfl) ?_
                              refine .fin rfl ?_
                              exact jkN (by exact .tn [((224, 23), (224, 23)), ((496, 9), (496, 9)), ((1760, 42), (1760, 42))] ⟨rfl, rfl, rfl, rfl, rfl, rfl, rfl, rfl, rfl, rfl, rfl, rfl, trivial⟩ ⟨rfl, ⟨_, rfl, rfl⟩, ⟨rfl, ⟨_, rfl, ah_row E_B⟩, ⟨rfl, ⟨_, rfl, ah_row E_i⟩, trivial⟩⟩⟩ rfl) rfl
                            | true =>
                              skip
                              refine .seg tabOk 14 4 [0, 1, 10, 13, 14, 15, 16, 17, 52, 53, 54, 132] [224, 496, 1760] (t := [(0, (.ro 7 a0.length (flat E_SiiiA4ie a0))), (1, (.ro 1 a1.length (flat E_B a1))), (10, (.sref (496, 9) 0 y16.length 1)), (13, (vI y17)), (14, (.ptr (224, 23) 0)), (15, (vI (w64 (v37.1 + 2)))), (16, (.sref (1760, 42) 0 v37.2.length 1)), (17, (vI 1)), (52, (.ro 7 a0.length (flat E_SiiiA4ie a0))), (53, (vI (a0.length : Int))), (54, (vI y17)), (132, (.val (.bool true)))]) (h := [(224, ⟨23, .live, true, [(vI (nth E_SiiiA4ie a0 y17).f0), (vI (nth E_SiiiA4ie a0 y17).f1), (vI (nth E_SiiiA4ie a0 y17).f2), (vI (nth E_SiiiA4ie a0 y17).f3.a0), (vI (nth E_SiiiA4ie a0 y17).f3.a1), (vI (nth E_SiiiA4ie a0 y17).f3.a2), (vI (nth E_SiiiA4ie a0 y17).f3.a3)]⟩), (496, ⟨9, .live, true, flat E_B y16⟩), (1760, ⟨42, .live, true, flat E_i v37.2⟩)]) (ep := 52) (by kernel_rfl) ?_
                              refine .fin rfl ?_
                              exact jkN (by exact .tn [((224, 23), (224, 23)), ((496, 9), (496, 9)), ((1760, 42), (1760, 42))] ⟨rfl, rfl, rfl, rfl, rfl, rfl, rfl, rfl, rfl, rfl, rfl, rfl, trivial⟩ ⟨rfl, ⟨_, rfl, rfl⟩, ⟨rfl, ⟨_, rfl, ah_row E_B⟩, ⟨rfl, ⟨_, rfl, ah_row E_i⟩, trivial⟩⟩⟩ rfl) rfl
                          | true =>
                            skip
                            refine .seg tabOk 9 9 [0, 1, 10, 13, 14, 15, 16, 17, 52, 53, 54, 132] [224, 496, 1760] (t := [(0, (.ro 7 a0.length (flat E_SiiiA4ie a0))), (1, (.ro 1 a1.length (flat E_B a1))), (10, (.sref (496, 9) 0 y16.length 1)), (13, (vI y17)), (14, (.ptr (224, 23) 0)), (15, (vI (w64 (v37.1 + 2)))), (16, (.sref (1760, 42) 0 v37.2.length 1)), (17, (vI 1)), (52, (.ro 7 a0.length (flat E_SiiiA4ie a0))), (53, (vI (a0.length : Int))), (54, (vI y17)), (132, (.val (.bool true)))]) (h := [(224, ⟨23, .live, true, [(vI (nth E_SiiiA4ie a0 y17).f0), (vI (nth E_SiiiA4ie a0 y17).f1), (vI (nth E_SiiiA4ie a0 y17).f2), (vI (nth E_SiiiA4ie a0 y17).f3.a0), (vI (nth E_SiiiA4ie a0 y17).f3.a1), (vI (nth E_SiiiA4ie a0 y17).f3.a2), (vI (nth E_SiiiA4ie a0 y17).f3.a3)]⟩), (496, ⟨9, .live, true, flat E_B y16⟩), (1760, ⟨42, .live, true, flat E_i v37.2⟩)]) (ep := 51) (by kernel_rfl) ?_
                            refine .fin rfl ?_
                            exact jkN (by exact .tn [((224, 23), (224, 23)), ((496, 9), (496, 9)), ((1760, 42), (1760, 42))] ⟨rfl, rfl, rfl, rfl, rfl, rfl, rfl, rfl, rfl, rfl, rfl, rfl, trivial⟩ ⟨rfl, ⟨_, rfl, rfl⟩, ⟨rfl, ⟨_, rfl, ah_row E_B⟩, ⟨rfl, ⟨_, rfl, ah_row E_i⟩, trivial⟩⟩⟩ rfl) rfl
                        | true =>
                          skip
                          refine .seg tabOk 4 14 [0, 1, 10, 13, 14, 15, 16, 17, 52, 53, 54, 132] [224, 496, 1760] (t := [(0, (.ro 7 a0.length (flat E_SiiiA4ie a0))), (1, (.ro 1 a1.length (flat E_B a1))), (10, (.sref (496, 9) 0 y16.length 1)), (13, (vI y17)), (14, (.ptr (224, 23) 0)), (15, (vI (w64 (v37.1 + 2)))), (16, (.sref (1760, 42) 0 v37.2.length 1)), (17, (vI 1)), (52, (.ro 7 a0.length (flat E_SiiiA4ie a0))), (53, (vI (a0.length : Int))), (54, (vI y17)), (132, (.val (.bool true)))]) (h := [(224, ⟨23, .live, true, [(vI (nth E_SiiiA4ie a0 y17).f0), (vI (nth E_SiiiA4ie a0 y17).f1), (vI (nth E_SiiiA4ie a0 y17).f2), (vI (nth E_SiiiA4ie a0 y17).f3.a0), (vI (nth E_SiiiA4ie a0 y17).f3.a1), (vI (nth E_SiiiA4ie a0 y17).f3.a2), (vI (nth E_SiiiA4ie a0 y17).f3.a3)]⟩), (496, ⟨9, .live, true, flat E_B y16⟩), (1760, ⟨42, .live, true, flat E_i v37.2⟩)]) (ep := 50) (by kernel_rfl) ?_
                          refine .fin rfl ?_
                          exact jkN (by exact .tn [((224, 23), (224, 23)), ((496, 9), (496, 9)), ((1760, 42), (1760, 42))] ⟨rfl, rfl, rfl, rfl, rfl, rfl, rfl, rfl, rfl, rfl, rfl, rfl, trivial⟩ ⟨rfl, ⟨_, rfl, rfl⟩, ⟨rfl, ⟨_, rfl, ah_row E_B⟩, ⟨rfl, ⟨_, rfl, ah_row E_i⟩, trivial⟩⟩⟩ rfl) rfl
                      · rintro _ rfl
                        refine sqN ?_
                        refine .join (fun s' => s' = ⟨[(0, (.ro 7 a0.length (flat E_SiiiA4ie a0))), (1, (.ro 1 a1.length (flat E_B a1))), (10, (.sref (496, 9) 0 y16.length 1)), (13, (vI y17)), (14, (.ptr (224, 23) 0)), (15, (vI (if ((decide ((nth E_SiiiA4ie a0 y17).f1 < (-128))) || ((decide (127 < (nth E_SiiiA4ie a0 y17).f1)) || ((decide ((nth E_SiiiA4ie a0 y17).f2 < (-128))) || (decide (127 < (nth E_SiiiA4ie a0 y17).f2))))) then (w64 ((w64 (v37.1 + 2)) + 1)) else (w64 (v37.1 + 2))))), (16, (.sref (1760, 42) 0 v37.2.length 1)), (17, (vI (if ((decide ((nth E_SiiiA4ie a0 y17).f1 < (-128))) || ((decide (127 < (nth E_SiiiA4ie a0 y17).f1)) || ((decide ((nth E_SiiiA4ie a0 y17).f2 < (-128))) || (decide (127 < (nth E_SiiiA4ie a0 y17).f2))))) then 2 else 1))), (52, (.ro 7 a0.length (flat E_SiiiA4ie a0))), (53, (vI (a0.length : Int))), (54, (vI y17))], [(224, ⟨23, .live, true, [(vI (nth E_SiiiA4ie a0 y17).f0), (vI (nth E_SiiiA4ie a0 y17).f1), (vI (nth E_SiiiA4ie a0 y17).f2), (vI (nth E_SiiiA4ie a0 y17).f3.a0), (vI (nth E_SiiiA4ie a0 y17).f3.a1), (vI (nth E_SiiiA4ie a0 y17).f3.a2), (vI (nth E_SiiiA4ie a0 y17).f3.a3)]⟩), (496, ⟨9, .live, true, flat E_B y16⟩), (1760, ⟨42, .live, true, flat E_i v37.2⟩)], 58⟩) ?_ ?_
                        · refine .cond ((decide ((nth E_SiiiA4ie a0 y17).f1 < (-128))) || ((decide (127 < (nth E_SiiiA4ie a0 y17).f1)) || ((decide ((nth E_SiiiA4ie a0 y17).f2 < (-128))) || (decide (127 < (nth E_SiiiA4ie a0 y17).f2))))) rfl (fun hc41 => ?_) (fun hc41 => ?_)
                          · skip
                            refine .seq ?_
                            refine .rgI rfl ?_
                            refine .seg tabOk 0 3 [0, 1, 10, 13, 14, 15, 16, 52, 53, 54] [224, 496, 1760] (t := [(0, (.ro 7 a0.length (flat E_SiiiA4ie a0))), (1, (.ro 1 a1.length (flat E_B a1))), (10, (.sref (496, 9) 0 y16.length 1)), (13, (vI y17)), (14, (.ptr (224, 23) 0)), (15, (vI (w64 ((w64 (v37.1 + 2)) + 1)))), (16, (.sref (1760, 42) 0 v37.2.length 1)), (52, (.ro 7 a0.length (flat E_SiiiA4ie a0))), (53, (vI (a0.length : Int))), (54, (vI y17))]) (h := [(224, ⟨23, .live, true, [(vI (nth E_SiiiA4ie a0 y17).f0), (vI (nth E_SiiiA4ie a0 y17).f1), (vI (nth E_SiiiA4ie a0 y17).f2), (vI (nth E_SiiiA4ie a0 y17).f3.a0), (vI (nth E_SiiiA4ie a0 y17).f3.a1), (vI (nth E_SiiiA4ie a0 y17).f3.a2), (vI (nth E_SiiiA4ie a0 y17).f3.a3)]⟩), (496, ⟨9, .live, true, flat E_B y16⟩), (1760, ⟨42, .live, true, flat E_i v37.2⟩)]) (ep := 55) (by kernel_rfl) ?_
                            refine .fin rfl ?_
                            refine sqN ?_
                            refine .rgI rfl ?_
                            refine .seg tabOk 0 1 [0, 1, 10, 13, 14, 15, 16, 17, 52, 53, 54] [224, 496, 1760] (t := [(0, (.ro 7 a0.length (flat E_SiiiA4ie a0))), (1, (.ro 1 a1.length (flat E_B a1))), (10, (.sref (496, 9) 0 y16.length 1)), (13, (vI y17)), (14, (.ptr (224, 23) 0)), (15, (vI (w64 ((w64 (v37.1 + 2)) + 1)))), (16, (.sref (1760, 42) 0 v37.2.length 1)), (17, (vI 2)), (52, (.ro 7 a0.length (flat E_SiiiA4ie a0))), (53, (vI (a0.length : Int))), (54, (vI y17))]) (h := [(224, ⟨23, .live, true, [(vI (nth E_SiiiA4ie a0 y17).f0), (vI (nth E_SiiiA4ie a0 y17).f1), (vI (nth E_SiiiA4ie a0 y17).f2), (vI (nth E_SiiiA4ie a0 y17).f3.a0), (vI (nth E_SiiiA4ie a0 y17).f3.a1), (vI (nth E_SiiiA4ie a0 y17).f3.a2), (vI (nth E_SiiiA4ie a0 y17).f3.a3)]⟩), (496, ⟨9, .live, true, flat E_B y16⟩), (1760, ⟨42, .live, true, flat E_i v37.2⟩)]) (ep := 57) (by kernel_rfl) ?_
                            refine .fin rfl ?_
                            exact jkN (by exact .tn [((224, 23), (224, 23)), ((496, 9), (496, 9)), ((1760, 42), (1760, 42))] ⟨(by (try rw [hc41]); rfl), (by (try rw [hc41]); rfl), (by (try rw [hc41]); rfl), (by (try rw [hc41]); rfl), (by (try rw [hc41]); rfl), (by (try rw [hc41]); rfl), (by (try rw [hc41]); rfl), (by (try rw [hc41]); rfl), (by (try rw [hc41]); rfl), (by (try rw [hc41]); rfl), (by (try rw [hc41]); rfl), trivial⟩ ⟨rfl, ⟨_, rfl, (by (try rw [hc41]); exact rfl)⟩, ⟨rfl, ⟨_, rfl, (by (try rw [hc41]); exact ah_row E_B)⟩, ⟨rfl, ⟨_, rfl, (by (try rw [hc41]); exact ah_row E_i)⟩, trivial⟩⟩⟩ rfl) rfl
                          · skip
                            refine .skip ?_
                            exact jkN (by exact .tn [((224, 23), (224, 23)), ((496, 9), (496, 9)), ((1760, 42), (1760, 42))] ⟨(by (try rw [hc41]); rfl), (by (try rw [hc41]); rfl), (by (try rw [hc41]); rfl), (by (try rw [hc41]); rfl), (by (try rw [hc41]); rfl), (by (try rw [hc41]); rfl), (by (try rw [hc41]); rfl), (by (try rw [hc41]); rfl), (by (try rw [hc41]); rfl), (by (try rw [hc41]); rfl), (by (try rw [hc41]); rfl), trivial⟩ ⟨rfl, ⟨_, rfl, (by (try rw [hc41]); exact rfl)⟩, ⟨rfl, ⟨_, rfl, (by (try rw [hc41]); exact ah_row E_B)⟩, ⟨rfl, ⟨_, rfl, (by (try rw [hc41]); exact ah_row E_i)⟩, trivial⟩⟩⟩ rfl) rfl
                        · rintro _ rfl
                          refine sqN ?_
                          refine .seq ?_
                          refine .seq ?_
                          refine .rgI rfl ?_
                          refine .seg tabOk 0 5 [0, 1, 10, 14, 15, 16, 17, 52, 53, 54, 139] [224, 496, 1760] (t := [(0, (.ro 7 a0.length (flat E_SiiiA4ie a0))), (1, (.ro 1 a1.length (flat E_B a1))), (10, (.sref (496, 9) 0 y16.length 1)), (14, (.ptr (224, 23) 0)), (15, (vI (if ((decide ((nth E_SiiiA4ie a0 y17).f1 < (-128))) || ((decide (127 < (nth E_SiiiA4ie a0 y17).f1)) || ((decide ((nth E_SiiiA4ie a0 y17).f2 < (-128))) || (decide (127 < (nth E_SiiiA4ie a0 y17).f2))))) then (w64 ((w64 (v37.1 + 2)) + 1)) else (w64 (v37.1 + 2))))), (16, (.sref (1760, 42) 0 v37.2.length 1)), (17, (vI (if ((decide ((nth E_SiiiA4ie a0 y17).f1 < (-128))) || ((decide (127 < (nth E_SiiiA4ie a0 y17).f1)) || ((decide ((nth E_SiiiA4ie a0 y17).f2 < (-128))) || (decide (127 < (nth E_SiiiA4ie a0 y17).f2))))) then 2 else 1))), (52, (.ro 7 a0.length (flat E_SiiiA4ie a0))), (53, (vI (a0.length : Int))), (54, (vI y17)), (139, (.val (.bool (decide (y17 < (w64 ((a0.length : Int) - 1)))))))]) (h := [(224, ⟨23, .live, true, [(vI (nth E_SiiiA4ie a0 y17).f0), (vI (nth E_SiiiA4ie a0 y17).f1), (vI (nth E_SiiiA4ie a0 y17).f2), (vI (nth E_SiiiA4ie a0 y17).f3.a0), (vI (nth E_SiiiA4ie a0 y17).f3.a1), (vI (nth E_SiiiA4ie a0 y17).f3.a2), (vI (nth E_SiiiA4ie a0 y17).f3.a3)]⟩), (496, ⟨9, .live, true, flat E_B y16⟩), (1760, ⟨42, .live, true, flat E_i v37.2⟩)]) (ep := 60) (by kernel_rfl) ?_
                          refine .fin rfl ?_
                          refine sqN ?_
                          refine .join (fun s' => s' = ⟨[(0, (.ro 7 a0.length (flat E_SiiiA4ie a0))), (1, (.ro 1 a1.length (flat E_B a1))), (10, (.sref (496, 9) 0 y16.length 1)), (14, (.ptr (224, 23) 0)), (15, (vI (if (decide (y17 < (w64 ((a0.length : Int) - 1)))) then (w64 ((if ((decide ((nth E_SiiiA4ie a0 y17).f1 < (-128))) || ((decide (127 < (nth E_SiiiA4ie a0 y17).f1)) || ((decide ((nth E_SiiiA4ie a0 y17).f2 < (-128))) || (decide (127 < (nth E_SiiiA4ie a0 y17).f2))))) then (w64 ((w64 (v37.1 + 2)) + 1)) else (w64 (v37.1 + 2))) + 32)) else (if (decide (0 < (a1.length : Int))) then (w64 ((if ((decide ((nth E_SiiiA4ie a0 y17).f1 < (-128))) || ((decide (127 < (nth E_SiiiA4ie a0 y17).f1)) || ((decide ((nth E_SiiiA4ie a0 y17).f2 < (-128))) || (decide (127 < (nth E_SiiiA4ie a0 y17).f2))))) then (w64 ((w64 (v37.1 + 2)) + 1)) else (w64 (v37.1 + 2))) + 256)) else (if ((decide ((nth E_SiiiA4ie a0 y17).f1 < (-128))) || ((decide (127 < (nth E_SiiiA4ie a0 y17).f1)) || ((decide ((nth E_SiiiA4ie a0 y17).f2 < (-128))) || (decide (127 < (nth E_SiiiA4ie a0 y17).f2))))) then (w64 ((w64 (v37.1 + 2)) + 1)) else (w64 (v37.1 + 2))))))), (16, (.sref (1760, 42) 0 v37.2.length 1)), (17, (vI (if ((decide ((nth E_SiiiA4ie a0 y17).f1 < (-128))) || ((decide (127 < (nth E_SiiiA4ie a0 y17).f1)) || ((decide ((nth E_SiiiA4ie a0 y17).f2 < (-128))) || (decide (127 < (nth E_SiiiA4ie a0 y17).f2))))) then 2 else 1))), (52, (.ro 7 a0.length (flat E_SiiiA4ie a0))), (53, (vI (a0.length : Int))), (54, (vI y17))], [(224, ⟨23, .live, true, [(vI (nth E_SiiiA4ie a0 y17).f0), (vI (nth E_SiiiA4ie a0 y17).f1), (vI (nth E_SiiiA4ie a0 y17).f2), (vI (nth E_SiiiA4ie a0 y17).f3.a0), (vI (nth E_SiiiA4ie a0 y17).f3.a1), (vI (nth E_SiiiA4ie a0 y17).f3.a2), (vI (nth E_SiiiA4ie a0 y17).f3.a3)]⟩), (496, ⟨9, .live, true, flat E_B y16⟩), (1760, ⟨42, .live, true, flat E_i v37.2⟩)], 65⟩) ?_ ?_
                          · refine .cond (decide (y17 < (w64 ((a0.length : Int) - 1)))) rfl (fun hc42 => ?_) (fun hc42 => ?_)
                            · skip
                              refine .rgI rfl ?_
                              refine .seg tabOk 0 3 [0, 1, 10, 14, 15, 16, 17, 52, 53, 54] [224, 496, 1760] (t := [(0, (.ro 7 a0.length (flat E_SiiiA4ie a0))), (1, (.ro 1 a1.length (flat E_B a1))), (10, (.sref (496, 9) 0 y16.length 1)), (14, (.ptr (224, 23) 0)), (15, (vI (w64 ((if ((decide ((nth E_SiiiA4ie a0 y17).f1 < (-128))) || ((decide (127 < (nth E_SiiiA4ie a0 y17).f1)) || ((decide ((nth E_SiiiA4ie a0 y17).f2 < (-128))) || (decide (127 < (nth E_SiiiA4ie a0 y17).f2))))) then (w64 ((w64 (v37.1 + 2)) + 1)) else (w64 (v37.1 + 2))) + 32)))), (16, (.sref (1760, 42) 0 v37.2.length 1)), (17, (vI (if ((decide ((nth E_SiiiA4ie a0 y17).f1 < (-128))) || ((decide (127 < (nth E_SiiiA4ie a0 y17).f1)) || ((decide ((nth E_SiiiA4ie a0 y17).f2 < (-128))) || (decide (127 < (nth E_SiiiA4ie a0 y17).f2))))) then 2 else 1))), (52, (.ro 7 a0.length (flat E_SiiiA4ie a0))), (53, (vI (a0.length : Int))), (54, (vI y17))]) (h := [(224, ⟨23, .live, true, [(vI (nth E_SiiiA4ie a0 y17).f0), (vI (nth E_SiiiA4ie a0 y17).f1), (vI (nth E_SiiiA4ie a0 y17).f2), (vI (nth E_SiiiA4ie a0 y17).f3.a0), (vI (nth E_SiiiA4ie a0 y17).f3.a1), (vI (nth E_SiiiA4ie a0 y17).f3.a2), (vI (nth E_SiiiA4ie a0 y17).f3.a3)]⟩), (496, ⟨9, .live, true, flat E_B y16⟩), (1760, ⟨42, .live, true, flat E_i v37.2⟩)]) (ep := 62) (by kernel_rfl) ?_
                              refine .fin rfl ?_
                              exact jkN (by exact .tn [((224, 23), (224, 23)), ((496, 9), (496, 9)), ((1760, 42), (1760, 42))] ⟨(by (try rw [hc42]); rfl), (by (try rw [hc42]); rfl), (by (try rw [hc42]); rfl), (by (try rw [hc42]); rfl), (by (try rw [hc42]); rfl), (by (try rw [hc42]); rfl), (by (try rw [hc42]); rfl), (by (try rw [hc42]); rfl), (by (try rw [hc42]); rfl), (by (try rw [hc42]); rfl), trivial⟩ ⟨rfl, ⟨_, rfl, (by (try rw [hc42]); exact rfl)⟩, ⟨rfl, ⟨_, rfl, (by (try rw [hc42]); exact ah_row E_B)⟩, ⟨rfl, ⟨_, rfl, (by (try rw [hc42]); exact ah_row E_i)⟩, trivial⟩⟩⟩ rfl) rfl
                            · skip
                              refine .seq ?_
                              refine .rgI rfl ?_
                              refine .seg tabOk 0 3 [0, 1, 10, 14, 15, 16, 17, 52, 53, 54, 144] [224, 496, 1760] (t := [(0, (.ro 7 a0.length (flat E_SiiiA4ie a0))), (1, (.ro 1 a1.length (flat E_B a1))), (10, (.sref (496, 9) 0 y16.length 1)), (14, (.ptr (224, 23) 0)), (15, (vI (if ((decide ((nth E_SiiiA4ie a0 y17).f1 < (-128))) || ((decide (127 < (nth E_SiiiA4ie a0 y17).f1)) || ((decide ((nth E_SiiiA4ie a0 y17).f2 < (-128))) || (decide (127 < (nth E_SiiiA4ie a0 y17).f2))))) then (w64 ((w64 (v37.1 + 2)) + 1)) else (w64 (v37.1 + 2))))), (16, (.sref (1760, 42) 0 v37.2.length 1)), (17, (vI (if ((decide ((nth E_SiiiA4ie a0 y17).f1 < (-128))) || ((decide (127 < (nth E_SiiiA4ie a0 y17).f1)) || ((decide ((nth E_SiiiA4ie a0 y17).f2 < (-128))) || (decide (127 < (nth E_SiiiA4ie a0 y17).f2))))) then 2 else 1))), (52, (.ro 7 a0.length (flat E_SiiiA4ie a0))), (53, (vI (a0.length : Int))), (54, (vI y17)), (144, (.val (.bool (decide (0 < (a1.length : Int))))))]) (h := [(224, ⟨23, .live, true, [(vI (nth E_SiiiA4ie a0 y17).f0), (vI (nth E_SiiiA4ie a0 y17).f1), (vI (nth E_SiiiA4ie a0 y17).f2), (vI (nth E_SiiiA4ie a0 y17).f3.a0), (vI (nth E_SiiiA4ie a0 y17).f3.a1), (vI (nth E_SiiiA4ie a0 y17).f3.a2), (vI (nth E_SiiiA4ie a0 y17).f3.a3)]⟩), (496, ⟨9, .live, true, flat E_B y16⟩), (1760, ⟨42, .live, true, flat E_i v37.2⟩)]) (ep := 62) (by kernel_rfl) ?_
                              refine .fin rfl ?_
                              refine sqN ?_
                              refine .cond (decide (0 < (a1.length : Int))) rfl (fun hc43 => ?_) (fun hc43 => ?_)
                              · skip
                                refine .rgI rfl ?_
                                refine .seg tabOk 0 3 [0, 1, 10, 14, 15, 16, 17, 52, 53, 54] [224, 496, 1760] (t := [(0, (.ro 7 a0.length (flat E_SiiiA4ie a0))), (1, (.ro 1 a1.length (flat E_B a1))), (10, (.sref (496, 9) 0 y16.length 1)), (14, (.ptr (224, 23) 0)), (15, (vI (w64 ((if ((decide ((nth E_SiiiA4ie a0 y17).f1 < (-128))) || ((decide (127 < (nth E_SiiiA4ie a0 y17).f1)) || ((decide ((nth E_SiiiA4ie a0 y17).f2 < (-128))) || (decide (127 < (nth E_SiiiA4ie a0 y17).f2))))) then (w64 ((w64 (v37.1 + 2)) + 1)) else (w64 (v37.1 + 2))) + 256)))), (16, (.sref (1760, 42) 0 v37.2.length 1)), (17, (vI (if ((decide ((nth E_SiiiA4ie a0 y17).f1 < (-128))) || ((decide (127 < (nth E_SiiiA4ie a0 y17).f1)) || ((decide ((nth E_SiiiA4ie a0 y17).f2 < (-128))) || (decide (127 < (nth E_SiiiA4ie a0 y17).f2))))) then 2 else 1))), (52, (.ro 7 a0.length (flat E_SiiiA4ie a0))), (53, (vI (a0.length : Int))), (54, (vI y17))]) (h := [(224, ⟨23, .live, true, [(vI (nth E_SiiiA4ie a0 y17).f0), (vI (nth E_SiiiA4ie a0 y17).f1), (vI (nth E_SiiiA4ie a0 y17).f2), (vI (nth E_SiiiA4ie a0 y17).f3.a0), (vI (nth E_SiiiA4ie a0 y17).f3.a1), (vI (nth E_SiiiA4ie a0 y17).f3.a2), (vI (nth E_SiiiA4ie a0 y17).f3.a3)]⟩), (496, ⟨9, .live, true, flat E_B y16⟩), (1760, ⟨42, .live, true, flat E_i v37.2⟩)]) (ep := 64) (by kernel_rfl) ?_
                                refine .fin rfl ?_
                                exact jkN (by exact .tn [((224, 23), (224, 23)), ((496, 9), (496, 9)), ((1760, 42), (1760, 42))] ⟨(by (try rw [hc42]); (try rw [hc43]); rfl), (by (try rw [hc42]); (try rw [hc43]); rfl), (by (try rw [hc42]); (try rw [hc43]); rfl), (by (try rw [hc42]); (try rw [hc43]); rfl), (by (try rw [hc42]); (try rw [hc43]); rfl), (by (try rw [hc42]); (try rw [hc43]); rfl), (by (try rw [hc42]); (try rw [hc43]); rfl), (by (try rw [hc42]); (try rw [hc43]); rfl), (by (try rw [hc42]); (try rw [hc43]); rfl), (by (try rw [hc42]); (try rw [hc43]); rfl), trivial⟩ ⟨rfl, ⟨_, rfl, (by (try rw [hc42]); (try rw [hc43]); exact rfl)⟩, ⟨rfl, ⟨_, rfl, (by (try rw [hc42]); (try rw [hc43]); exact ah_row E_B)⟩, ⟨rfl, ⟨_, rfl, (by (try rw [hc42]); (try rw [hc43]); exact ah_row E_i)⟩, trivial⟩⟩⟩ rfl) rfl
                              · skip
                                refine .skip ?_
                                exact jkN (by exact .tn [((224, 23), (224, 23)), ((496, 9), (496, 9)), ((1760, 42), (1760, 42))] ⟨(by (try rw [hc42]); (try rw [hc43]); rfl), (by (try rw [hc42]); (try rw [hc43]); rfl), (by (try rw [hc42]); (try rw [hc43]); rfl), (by (try rw [hc42]); (try rw [hc43]); rfl), (by (try rw [hc42]); (try rw [hc43]); rfl), (by (try rw [hc42]); (try rw [hc43]); rfl), (by (try rw [hc42]); (try rw [hc43]); rfl), (by (try rw [hc42]); (try rw [hc43]); rfl), (by (try rw [hc42]); (try rw [hc43]); rfl), (by (try rw [hc42]); (try rw [hc43]); rfl), trivial⟩ ⟨rfl, ⟨_, rfl, (by (try rw [hc42]); (try rw [hc43]); exact rfl)⟩, ⟨rfl, ⟨_, rfl, (by (try rw [hc42]); (try rw [hc43]); exact ah_row E_B)⟩, ⟨rfl, ⟨_, rfl, (by (try rw [hc42]); (try rw [hc43]); exact ah_row E_i)⟩, trivial⟩⟩⟩ rfl) rfl
                          · rintro _ rfl
                            refine sqN ?_
                            refine .seq ?_
                            refine .rgI rfl ?_
                            refine .seg tabOk 0 2 [0, 1, 14, 16, 17, 52, 53, 54, 147, 148] [224, 496, 1760] (t := [(0, (.ro 7 a0.length (flat E_SiiiA4ie a0))), (1, (.ro 1 a1.length (flat E_B a1))), (14, (.ptr (224, 23) 0)), (16, (.sref (1760, 42) 0 v37.2.length 1)), (17, (vI (if ((decide ((nth E_SiiiA4ie a0 y17).f1 < (-128))) || ((decide (127 < (nth E_SiiiA4ie a0 y17).f1)) || ((decide ((nth E_SiiiA4ie a0 y17).f2 < (-128))) || (decide (127 < (nth E_SiiiA4ie a0 y17).f2))))) then 2 else 1))), (52, (.ro 7 a0.length (flat E_SiiiA4ie a0))), (53, (vI (a0.length : Int))), (54, (vI y17)), (147, (.sref (496, 9) 0 y16.length 1)), (148, (vI (if (decide (y17 < (w64 ((a0.length : Int) - 1)))) then (w64 ((if ((decide ((nth E_SiiiA4ie a0 y17).f1 < (-128))) || ((decide (127 < (nth E_SiiiA4ie a0 y17).f1)) || ((decide ((nth E_SiiiA4ie a0 y17).f2 < (-128))) || (decide (127 < (nth E_SiiiA4ie a0 y17).f2))))) then (w64 ((w64 (v37.1 + 2)) + 1)) else (w64 (v37.1 + 2))) + 32)) else (if (decide (0 < (a1.length : Int))) then (w64 ((if ((decide ((nth E_SiiiA4ie a0 y17).f1 < (-128))) || ((decide (127 < (nth E_SiiiA4ie a0 y17).f1)) || ((decide ((nth E_SiiiA4ie a0 y17).f2 < (-128))) || (decide (127 < (nth E_SiiiA4ie a0 y17).f2))))) then (w64 ((w64 (v37.1 + 2)) + 1)) else (w64 (v37.1 + 2))) + 256)) else (if ((decide ((nth E_SiiiA4ie a0 y17).f1 < (-128))) || ((decide (127 < (nth E_SiiiA4ie a0 y17).f1)) || ((decide ((nth E_SiiiA4ie a0 y17).f2 < (-128))) || (decide (127 < (nth E_SiiiA4ie a0 y17).f2))))) then (w64 ((w64 (v37.1 + 2)) + 1)) else (w64 (v37.1 + 2)))))))]) (h := [(224, ⟨23, .live, true, [(vI (nth E_SiiiA4ie a0 y17).f0), (vI (nth E_SiiiA4ie a0 y17).f1), (vI (nth E_SiiiA4ie a0 y17).f2), (vI (nth E_SiiiA4ie a0 y17).f3.a0), (vI (nth E_SiiiA4ie a0 y17).f3.a1), (vI (nth E_SiiiA4ie a0 y17).f3.a2), (vI (nth E_SiiiA4ie a0 y17).f3.a3)]⟩), (496, ⟨9, .live, true, flat E_B y16⟩), (1760, ⟨42, .live, true, flat E_i v37.2⟩)]) (ep := 67) (by kernel_rfl) ?_
                            obtain ⟨v44, hv44, h⟩ := bS h
                            refine .cc true rfl rfl (C_r02_Put _ _ _ _ hv44) ent_r02_Put rfl rfl rfl rfl (g_cons (g_pl rfl rfl) (g_cons (g_pl rfl rfl) g_nil)) rfl ?_
                            obtain ⟨hb45, h⟩ := gS h
                            refine .oo tabOk rfl rfl rfl (q_app E_B (l := y16) rfl rfl rfl rfl rfl rfl rfl rfl rfl rfl rfl rfl rfl (.row v44 rfl rfl rfl rfl) hb45) ?_
                            refine .seg tabOk 4 1 [0, 1, 10, 14, 16, 17, 52, 53, 54] [224, 1760, 2400] (t := [(0, (.ro 7 a0.length (flat E_SiiiA4ie a0))), (1, (.ro 1 a1.length (flat E_B a1))), (10, (.sref (2400, 67) 0 (y16 ++ v44).length 1)), (14, (.ptr (224, 23) 0)), (16, (.sref (1760, 42) 0 v37.2.length 1)), (17, (vI (if ((decide ((nth E_SiiiA4ie a0 y17).f1 < (-128))) || ((decide (127 < (nth E_SiiiA4ie a0 y17).f1)) || ((decide ((nth E_SiiiA4ie a0 y17).f2 < (-128))) || (decide (127 < (nth E_SiiiA4ie a0 y17).f2))))) then 2 else 1))), (52, (.ro 7 a0.length (flat E_SiiiA4ie a0))), (53, (vI (a0.length : Int))), (54, (vI y17))]) (h := [(224, ⟨23, .live, true, [(vI (nth E_SiiiA4ie a0 y17).f0), (vI (nth E_SiiiA4ie a0 y17).f1), (vI (nth E_SiiiA4ie a0 y17).f2), (vI (nth E_SiiiA4ie a0 y17).f3.a0), (vI (nth E_SiiiA4ie a0 y17).f3.a1), (vI (nth E_SiiiA4ie a0 y17).f3.a2), (vI (nth E_SiiiA4ie a0 y17).f3.a3)]⟩), (1760, ⟨42, .live, true, flat E_i v37.2⟩), (2400, ⟨67, .live, true, flat E_B (y16 ++ v44)⟩)]) (ep := 68) (by kernel_rfl) ?_
                            refine .fin rfl ?_
                            refine sqN ?_
                            refine .seq ?_
                            refine .rgI rfl ?_
                            refine .seg tabOk 0 3 [0, 1, 14, 16, 17, 52, 53, 54, 151, 153] [224, 1760, 2400] (t := [(0, (.ro 7 a0.length (flat E_SiiiA4ie a0))), (1, (.ro 1 a1.length (flat E_B a1))), (14, (.ptr (224, 23) 0)), (16, (.sref (1760, 42) 0 v37.2.length 1)), (17, (vI (if ((decide ((nth E_SiiiA4ie a0 y17).f1 < (-128))) || ((decide (127 < (nth E_SiiiA4ie a0 y17).f1)) || ((decide ((nth E_SiiiA4ie a0 y17).f2 < (-128))) || (decide (127 < (nth E_SiiiA4ie a0 y17).f2))))) then 2 else 1))), (52, (.ro 7 a0.length (flat E_SiiiA4ie a0))), (53, (vI (a0.length : Int))), (54, (vI y17)), (151, (.sref (2400, 67) 0 (y16 ++ v44).length 1)), (153, (vI (nth E_SiiiA4ie a0 y17).f0))]) (h := [(224, ⟨23, .live, true, [(vI (nth E_SiiiA4ie a0 y17).f0), (vI (nth E_SiiiA4ie a0 y17).f1), (vI (nth E_SiiiA4ie a0 y17).f2), (vI (nth E_SiiiA4ie a0 y17).f3.a0), (vI (nth E_SiiiA4ie a0 y17).f3.a1), (vI (nth E_SiiiA4ie a0 y17).f3.a2), (vI (nth E_SiiiA4ie a0 y17).f3.a3)]⟩), (1760, ⟨42, .live, true, flat E_i v37.2⟩), (2400, ⟨67, .live, true, flat E_B (y16 ++ v44)⟩)]) (ep := 70) (by kernel_rfl) ?_
                            obtain ⟨v46, hv46, h⟩ := bS h
                            refine .cc true rfl rfl (C_r02_Put _ _ _ _ hv46) ent_r02_Put rfl rfl rfl rfl (g_cons (g_pl rfl rfl) (g_cons (g_pl rfl rfl) g_nil)) rfl ?_
                            obtain ⟨hb47, h⟩ := gS h
                            refine .oo tabOk rfl rfl rfl (q_app E_B (l := (y16 ++ v44)) rfl rfl rfl rfl rfl rfl rfl rfl rfl rfl rfl rfl rfl (.row v46 rfl rfl rfl rfl) hb47) ?_
                            refine .seg tabOk 5 1 [0, 1, 10, 14, 16, 17, 52, 53, 54] [224, 1760, 2480] (t := [(0, (.ro 7 a0.length (flat E_SiiiA4ie a0))), (1, (.ro 1 a1.length (flat E_B a1))), (10, (.sref (2480, 70) 0 ((y16 ++ v44) ++ v46).length 1)), (14, (.ptr (224, 23) 0)), (16, (.sref (1760, 42) 0 v37.2.length 1)), (17, (vI (if ((decide ((nth E_SiiiA4ie a0 y17).f1 < (-128))) || ((decide (127 < (nth E_SiiiA4ie a0 y17).f1)) || ((decide ((nth E_SiiiA4ie a0 y17).f2 < (-128))) || (decide (127 < (nth E_SiiiA4ie a0 y17).f2))))) then 2 else 1))), (52, (.ro 7 a0.length (flat E_SiiiA4ie a0))), (53, (vI (a0.length : Int))), (54, (vI y17))]) (h := [(224, ⟨23, .live, true, [(vI (nth E_SiiiA4ie a0 y17).f0), (vI (nth E_SiiiA4ie a0 y17).f1), (vI (nth E_SiiiA4ie a0 y17).f2), (vI (nth E_SiiiA4ie a0 y17).f3.a0), (vI (nth E_SiiiA4ie a0 y17).f3.a1), (vI (nth E_SiiiA4ie a0 y17).f3.a2), (vI (nth E_SiiiA4ie a0 y17).f3.a3)]⟩), (1760, ⟨42, .live, true, flat E_i v37.2⟩), (2480, ⟨70, .live, true, flat E_B ((y16 ++ v44) ++ v46)⟩)]) (ep := 71) (by kernel_rfl) ?_
                            refine .fin rfl ?_
                            refine sqN ?_
                            refine .seq ?_
                            refine .rgI rfl ?_
                            refine .seg tabOk 0 4 [0, 1, 14, 16, 17, 52, 53, 54, 156, 158, 159] [224, 1760, 2480] (t := [(0, (.ro 7 a0.length (flat E_SiiiA4ie a0))), (1, (.ro 1 a1.length (flat E_B a1))), (14, (.ptr (224, 23) 0)), (16, (.sref (1760, 42) 0 v37.2.length 1)), (17, (vI (if ((decide ((nth E_SiiiA4ie a0 y17).f1 < (-128))) || ((decide (127 < (nth E_SiiiA4ie a0 y17).f1)) || ((decide ((nth E_SiiiA4ie a0 y17).f2 < (-128))) || (decide (127 < (nth E_SiiiA4ie a0 y17).f2))))) then 2 else 1))), (52, (.ro 7 a0.length (flat E_SiiiA4ie a0))), (53, (vI (a0.length : Int))), (54, (vI y17)), (156, (.sref (2480, 70) 0 ((y16 ++ v44) ++ v46).length 1)), (158, (vI (nth E_SiiiA4ie a0 y17).f1)), (159, (vI (if ((decide ((nth E_SiiiA4ie a0 y17).f1 < (-128))) || ((decide (127 < (nth E_SiiiA4ie a0 y17).f1)) || ((decide ((nth E_SiiiA4ie a0 y17).f2 < (-128))) || (decide (127 < (nth E_SiiiA4ie a0 y17).f2))))) then 2 else 1)))]) (h := [(224, ⟨23, .live, true, [(vI (nth E_SiiiA4ie a0 y17).f0), (vI (nth E_SiiiA4ie a0 y17).f1), (vI (nth E_SiiiA4ie a0 y17).f2), (vI (nth E_SiiiA4ie a0 y17).f3.a0), (vI (nth E_SiiiA4ie a0 y17).f3.a1), (vI (nth E_SiiiA4ie a0 y17).f3.a2), (vI (nth E_SiiiA4ie a0 y17).f3.a3)]⟩), (1760, ⟨42, .live, true, flat E_i v37.2⟩), (2480, ⟨70, .live, true, flat E_B ((y16 ++ v44) ++ v46)⟩)]) (ep := 73) (by kernel_rfl) ?_
                            obtain ⟨v48, hv48, h⟩ := bS h
                            refine .cc true rfl rfl (C_r02_Put _ _ _ _ hv48) ent_r02_Put rfl rfl rfl rfl (g_cons (g_pl rfl rfl) (g_cons (g_pl rfl rfl) g_nil)) rfl ?_
                            obtain ⟨hb49, h⟩ := gS h
                            refine .oo tabOk rfl rfl rfl (q_app E_B (l := ((y16 ++ v44) ++ v46)) rfl rfl rfl rfl rfl rfl rfl rfl rfl rfl rfl rfl rfl (.row v48 rfl rfl rfl rfl) hb49) ?_
                            refine .seg tabOk 6 1 [0, 1, 10, 14, 16, 17, 52, 53, 54] [224, 1760, 2576] (t := [(0, (.ro 7 a0.length (flat E_SiiiA4ie a0))), (1, (.ro 1 a1.length (flat E_B a1))), (10, (.sref (2576, 73) 0 (((y16 ++ v44) ++ v46) ++ v48).length 1)), (14, (.ptr (224, 23) 0)), (16, (.sref (1760, 42) 0 v37.2.length 1)), (17, (vI (if ((decide ((nth E_SiiiA4ie a0 y17).f1 < (-128))) || ((decide (127 < (nth E_SiiiA4ie a0 y17).f1)) || ((decide ((nth E_SiiiA4ie a0 y17).f2 < (-128))) || (decide (127 < (nth E_SiiiA4ie a0 y17).f2))))) then 2 else 1))), (52, (.ro 7 a0.length (flat E_SiiiA4ie a0))), (53, (vI (a0.length : Int))), (54, (vI y17))]) (h := [(224, ⟨23, .live, true, [(vI (nth E_SiiiA4ie a0 y17).f0), (vI (nth E_SiiiA4ie a0 y17).f1), (vI (nth E_SiiiA4ie a0 y17).f2), (vI (nth E_SiiiA4ie a0 y17).f3.a0), (vI (nth E_SiiiA4ie a0 y17).f3.a1), (vI (nth E_SiiiA4ie a0 y17).f3.a2), (vI (nth E_SiiiA4ie a0 y17).f3.a3)]⟩), (1760, ⟨42, .live, true, flat E_i v37.2⟩), (2576, ⟨73, .live, true, flat E_B (((y16 ++ v44) ++ v46) ++ v48)⟩)]) (ep := 74) (by kernel_rfl) ?_
                            refine .fin rfl ?_
                            refine sqN ?_
                            refine .seq ?_
                            refine .rgI rfl ?_
                            refine .seg tabOk 0 4 [0, 1, 16, 52, 53, 54, 162, 164, 165] [1760, 2576] (t := [(0, (.ro 7 a0.length (flat E_SiiiA4ie a0))), (1, (.ro 1 a1.length (flat E_B a1))), (16, (.sref (1760, 42) 0 v37.2.length 1)), (52, (.ro 7 a0.length (flat E_SiiiA4ie a0))), (53, (vI (a0.length : Int))), (54, (vI y17)), (162, (.sref (2576, 73) 0 (((y16 ++ v44) ++ v46) ++ v48).length 1)), (164, (vI (nth E_SiiiA4ie a0 y17).f2)), (165, (vI (if ((decide ((nth E_SiiiA4ie a0 y17).f1 < (-128))) || ((decide (127 < (nth E_SiiiA4ie a0 y17).f1)) || ((decide ((nth E_SiiiA4ie a0 y17).f2 < (-128))) || (decide (127 < (nth E_SiiiA4ie a0 y17).f2))))) then 2 else 1)))]) (h := [(1760, ⟨42, .live, true, flat E_i v37.2⟩), (2576, ⟨73, .live, true, flat E_B (((y16 ++ v44) ++ v46) ++ v48)⟩)]) (ep := 76) (by kernel_rfl) ?_
                            obtain ⟨v50, hv50, h⟩ := bS h
                            refine .cc true rfl rfl (C_r02_Put _ _ _ _ hv50) ent_r02_Put rfl rfl rfl rfl (g_cons (g_pl rfl rfl) (g_cons (g_pl rfl rfl) g_nil)) rfl ?_
                            obtain ⟨hb51, h⟩ := gS h
                            refine .oo tabOk rfl rfl rfl (q_app E_B (l := (((y16 ++ v44) ++ v46) ++ v48)) rfl rfl rfl rfl rfl rfl rfl rfl rfl rfl rfl rfl rfl (.row v50 rfl rfl rfl rfl) hb51) ?_
                            refine .seg tabOk 6 1 [0, 1, 10, 16, 52, 53, 54] [1760, 2672] (t := [(0, (.ro 7 a0.length (flat E_SiiiA4ie a0))), (1, (.ro 1 a1.length (flat E_B a1))), (10, (.sref (2672, 76) 0 ((((y16 ++ v44) ++ v46) ++ v48) ++ v50).length 1)), (16, (.sref (1760, 42) 0 v37.2.length 1)), (52, (.ro 7 a0.length (flat E_SiiiA4ie a0))), (53, (vI (a0.length : Int))), (54, (vI y17))]) (h := [(1760, ⟨42, .live, true, flat E_i v37.2⟩), (2672, ⟨76, .live, true, flat E_B ((((y16 ++ v44) ++ v46) ++ v48) ++ v50)⟩)]) (ep := 77) (by kernel_rfl) ?_
                            refine .fin rfl ?_
                            refine sqN ?_
                            refine .seq ?_
                            refine .rgI rfl ?_
                            refine .seg tabOk 0 3 [0, 1, 10, 52, 53, 54, 168, 169, 170] [1760, 2672] (t := [(0, (.ro 7 a0.length (flat E_SiiiA4ie a0))), (1, (.ro 1 a1.length (flat E_B a1))), (10, (.sref (2672, 76) 0 ((((y16 ++ v44) ++ v46) ++ v48) ++ v50).length 1)), (52, (.ro 7 a0.length (flat E_SiiiA4ie a0))), (53, (vI (a0.length : Int))), (54, (vI y17)), (168, (.sref (1760, 42) 0 v37.2.length 1)), (169, (vI (v37.2.length : Int))), (170, (vI 0))]) (h := [(1760, ⟨42, .live, true, flat E_i v37.2⟩), (2672, ⟨76, .live, true, flat E_B ((((y16 ++ v44) ++ v46) ++ v48) ++ v50)⟩)]) (ep := 79) (by kernel_rfl) ?_
                            refine .fin rfl ?_
                            refine sqN ?_
                            obtain ⟨j52, hj52, h⟩ := ljS h
                            refine .join (fun s' => ∃ x59, s' = ⟨[(0, (.ro 7 a0.length (flat E_SiiiA4ie a0))), (1, (.ro 1 a1.length (flat E_B a1))), (10, (.sref (2672, 76) 0 x59.length 1)), (52, (.ro 7 a0.length (flat E_SiiiA4ie a0))), (53, (vI (a0.length : Int))), (54, (vI y17))], [(2672, ⟨76, .live, true, flat E_B x59⟩)], 83⟩ ∧ j52 x59 = some r) ?_ ?_
                            · refine .block ?_
                              refine .loopF (β := (List Int) × Int) (fun v => ⟨[(0, (.ro 7 a0.length (flat E_SiiiA4ie a0))), (1, (.ro 1 a1.length (flat E_B a1))), (10, (.sref (2672, 76) 0 v.1.length 1)), (52, (.ro 7 a0.length (flat E_SiiiA4ie a0))), (53, (vI (a0.length : Int))), (54, (vI y17)), (168, (.sref (1760, 42) 0 v37.2.length 1)), (169, (vI (v37.2.length : Int))), (170, (vI v.2))], [(1760, ⟨42, .live, true, flat E_i v37.2⟩), (2672, ⟨76, .live, true, flat E_B v.1⟩)], 80⟩) (fun m v => L_r08_Write_2 v37 j52 m v.1 v.2 = some r) n (((((y16 ++ v44) ++ v46) ++ v48) ++ v50), 0) (by exact .tn [((1760, 42), (1760, 42)), ((2672, 76), (2672, 76))] ⟨rfl, rfl, rfl, rfl, rfl, rfl, rfl, rfl, rfl, trivial⟩ ⟨rfl, ⟨_, rfl, ah_row E_i⟩, ⟨rfl, ⟨_, rfl, ah_row E_B⟩, trivial⟩⟩ rfl) h ?_
                              rintro m ⟨y53, y54⟩ h
                              cases m with
                              | zero => exact nomatch h
                              | succ n =>
                                rw [L_r08_Write_2] at h
                                refine .seq ?_
                                refine .rgI rfl ?_
                                refine .seg tabOk 0 1 [0, 1, 10, 52, 53, 54, 168, 169, 170, 171] [1760, 2672] (t := [(0, (.ro 7 a0.length (flat E_SiiiA4ie a0))), (1, (.ro 1 a1.length (flat E_B a1))), (10, (.sref (2672, 76) 0 y53.length 1)), (52, (.ro 7 a0.length (flat E_SiiiA4ie a0))), (53, (vI (a0.length : Int))), (54, (vI y17)), (168, (.sref (1760, 42) 0 v37.2.length 1)), (169, (vI (v37.2.length : Int))), (170, (vI y54)), (171, (.val (.bool (decide (y54 < (v37.2.length : Int))))))]) (h := [(1760, ⟨42, .live, true, flat E_i v37.2⟩), (2672, ⟨76, .live, true, flat E_B y53⟩)]) (ep := 82) (by kernel_rfl) ?_
                                refine .fin rfl ?_
                                refine sqN ?_
                                refine .seq ?_
                                refine .cond (decide (y54 < (v37.2.length : Int))) rfl (fun hc55 => ?_) (fun hc55 => ?_)
                                · have h := iT h hc55
                                  refine .skip ?_
                                  refine sqN ?_
                                  refine .seq ?_
                                  refine .block ?_
                                  refine .seq ?_
                                  refine .rgI rfl ?_
                                  obtain ⟨hb56, h⟩ := gS h
                                  refine .oo tabOk rfl rfl rfl (q_idxS E_i (l := v37.2) rfl rfl rfl rfl rfl rfl rfl rfl hb56) ?_
                                  refine .oo tabOk rfl rfl rfl (q_ldS E_i (l := v37.2) rfl rfl rfl rfl rfl hb56 rfl) ?_
                                  refine .seg tabOk 2 1 [0, 1, 10, 19, 52, 53, 54, 168, 169, 170] [1760, 2672] (t := [(0, (.ro 7 a0.length (flat E_SiiiA4ie a0))), (1, (.ro 1 a1.length (flat E_B a1))), (10, (.sref (2672, 76) 0 y53.length 1)), (19, (vI (nth E_i v37.2 y54))), (52, (.ro 7 a0.length (flat E_SiiiA4ie a0))), (53, (vI (a0.length : Int))), (54, (vI y17)), (168, (.sref (1760, 42) 0 v37.2.length 1)), (169, (vI (v37.2.length : Int))), (170, (vI y54))]) (h := [(1760, ⟨42, .live, true, flat E_i v37.2⟩), (2672, ⟨76, .live, true, flat E_B y53⟩)]) (ep := 84) (by kernel_rfl) ?_
                                  refine .fin rfl ?_
                                  refine sqN ?_
                                  refine .rgI rfl ?_
                                  refine .seg tabOk 0 2 [0, 1, 52, 53, 54, 168, 169, 170, 174, 175] [1760, 2672] (t := [(0, (.ro 7 a0.length (flat E_SiiiA4ie a0))), (1, (.ro 1 a1.length (flat E_B a1))), (52, (.ro 7 a0.length (flat E_SiiiA4ie a0))), (53, (vI (a0.length : Int))), (54, (vI y17)), (168, (.sref (1760, 42) 0 v37.2.length 1)), (169, (vI (v37.2.length : Int))), (170, (vI y54)), (174, (.sref (2672, 76) 0 y53.length 1)), (175, (vI (nth E_i v37.2 y54)))]) (h := [(1760, ⟨42, .live, true, flat E_i v37.2⟩), (2672, ⟨76, .live, true, flat E_B y53⟩)]) (ep := 86) (by kernel_rfl) ?_
                                  obtain ⟨v57, hv57, h⟩ := bS h
                                  refine .cc true rfl rfl (C_r02_Put _ _ _ _ hv57) ent_r02_Put rfl rfl rfl rfl (g_cons (g_pl rfl rfl) (g_cons (g_pl rfl rfl) g_nil)) rfl ?_
                                  obtain ⟨hb58, h⟩ := gS h
                                  refine .oo tabOk rfl rfl rfl (q_app E_B (l := y53) rfl rfl rfl rfl rfl rfl rfl rfl rfl rfl rfl rfl rfl (.row v57 rfl rfl rfl rfl) hb58) ?_
                                  refine .seg tabOk 4 1 [0, 1, 10, 52, 53, 54, 168, 169, 170] [1760, 2832] (t := [(0, (.ro 7 a0.length (flat E_SiiiA4ie a0))), (1, (.ro 1 a1.length (flat E_B a1))), (10, (.sref (2832, 86) 0 (y53 ++ v57).length 1)), (52, (.ro 7 a0.length (flat E_SiiiA4ie a0))), (53, (vI (a0.length : Int))), (54, (vI y17)), (168, (.sref (1760, 42) 0 v37.2.length 1)), (169, (vI (v37.2.length : Int))), (170, (vI y54))]) (h := [(1760, ⟨42, .live, true, flat E_i v37.2⟩), (2832, ⟨86, .live, true, flat E_B (y53 ++ v57)⟩)]) (ep := 87) (by kernel_rfl) ?_
                                  refine .fin rfl ?_
                                  refine bkN ?_
                                  refine sqN ?_
                                  refine .rgI rfl ?_
                                  refine .seg tabOk 0 2 [0, 1, 10, 52, 53, 54, 168, 169, 170] [1760, 2832] (t := [(0, (.ro 7 a0.length (flat E_SiiiA4ie a0))), (1, (.ro 1 a1.length (flat E_B a1))), (10, (.sref (2832, 86) 0 (y53 ++ v57).length 1)), (52, (.ro 7 a0.length (flat E_SiiiA4ie a0))), (53, (vI (a0.length : Int))), (54, (vI y17)), (168, (.sref (1760, 42) 0 v37.2.length 1)), (169, (vI (v37.2.length : Int))), (170, (vI (w64 (y54 + 1))))]) (h := [(1760, ⟨42, .live, true, flat E_i v37.2⟩), (2832, ⟨86, .live, true, flat E_B (y53 ++ v57)⟩)]) (ep := 89) (by kernel_rfl) ?_
                                  refine .fin rfl ?_
                                  exact jkN (by exact .tn [((1760, 42), (1760, 42)), ((2832, 86), (2672, 76))] ⟨rfl, rfl, rfl, rfl, rfl, rfl, rfl, rfl, rfl, trivial⟩ ⟨rfl, ⟨_, rfl, ah_row E_i⟩, ⟨rfl, ⟨_, rfl, ah_row E_B⟩, trivial⟩⟩ rfl) ⟨n, ((y53 ++ v57), (w64 (y54 + 1))), Nat.lt_succ_self n, rfl, h⟩
                                · have h := iF h hc55
                                  refine .exit ?_
                                  refine sqX ?_
                                  refine jkX ?_
                                  refine bkE ?_
                                  exact jkN (by exact .tn [((2672, 76), (2672, 76))] ⟨rfl, rfl, rfl, rfl, rfl, rfl, trivial⟩ ⟨rfl, ⟨_, rfl, ah_row E_B⟩, trivial⟩ rfl) ⟨_, rfl, h⟩
                            · rintro _ ⟨x59, rfl, h⟩
                              subst hj52
                              refine bkN ?_
                              exact jkN (by exact .tn [((2672, 76), (2672, 76))] ⟨rfl, rfl, rfl, rfl, rfl, rfl, trivial⟩ ⟨rfl, ⟨_, rfl, ah_row E_B⟩, trivial⟩ rfl) ⟨_, rfl, h⟩
                · rintro _ ⟨x60, rfl, h⟩
                  subst hj19
                  refine sqN ?_
                  refine .rgI rfl ?_
                  refine .seg tabOk 0 2 [0, 1, 10, 52, 53, 54] [2672] (t := [(0, (.ro 7 a0.length (flat E_SiiiA4ie a0))), (1, (.ro 1 a1.length (flat E_B a1))), (10, (.sref (2672, 76) 0 x60.length 1)), (52, (.ro 7 a0.length (flat E_SiiiA4ie a0))), (53, (vI (a0.length : Int))), (54, (vI (w64 (y17 + 1))))]) (h := [(2672, ⟨76, .live, true, flat E_B x60⟩)]) (ep := 86) (by kernel_rfl) ?_
                  refine .fin rfl ?_
                  exact jkN (by exact .tn [((2672, 76), (496, 9))] ⟨rfl, rfl, rfl, rfl, rfl, rfl, trivial⟩ ⟨rfl, ⟨_, rfl, ah_row E_B⟩, trivial⟩ rfl) ⟨n, (x60, (w64 (y17 + 1))), Nat.lt_succ_self n, rfl, h⟩
              · have h := iF h hc18
                refine .exit ?_
                refine sqX ?_
                refine jkX ?_
                refine bkE ?_
                exact jkN (by exact .tn [((496, 9), (496, 9))] ⟨rfl, rfl, trivial⟩ ⟨rfl, ⟨_, rfl, ah_row E_B⟩, trivial⟩ rfl) ⟨_, rfl, h⟩
          · rintro _ ⟨x61, rfl, h⟩
            subst hj15
            refine sqN ?_
            refine .seq ?_
            refine .seq ?_
            refine .rgI rfl ?_
            refine .seg tabOk 0 3 [1, 10, 182] [496] (t := [(1, (.ro 1 a1.length (flat E_B a1))), (10, (.sref (496, 9) 0 x61.length 1)), (182, (.val (.bool (decide (0 < (a1.length : Int))))))]) (h := [(496, ⟨9, .live, true, flat E_B x61⟩)]) (ep := 24) (by kernel_rfl) ?_
            refine .fin rfl ?_
            refine sqN ?_
            obtain ⟨j67, hj67, h⟩ := ljS h
            refine .join (fun s' => ∃ x66, s' = ⟨[(10, (.sref (3040, 29) 0 x66.length 1))], [(3040, ⟨29, .live, true, flat E_B x66⟩)], 31⟩ ∧ j67 x66 = some r) ?_ ?_
            · refine .cond (decide (0 < (a1.length : Int))) rfl (fun hc62 => ?_) (fun hc62 => ?_)
              · have h := iT h hc62
                refine .seq ?_
                refine .rgI rfl ?_
                refine .seg tabOk 0 3 [1, 183, 185] [496] (t := [(1, (.ro 1 a1.length (flat E_B a1))), (183, (.sref (496, 9) 0 x61.length 1)), (185, (vI (a1.length : Int)))]) (h := [(496, ⟨9, .live, true, flat E_B x61⟩)]) (ep := 26) (by kernel_rfl) ?_
                obtain ⟨v63, hv63, h⟩ := bS h
                refine .cc true rfl rfl (C_r02_Put _ _ _ _ hv63) ent_r02_Put rfl rfl rfl rfl (g_cons (g_pl rfl rfl) (g_cons (g_pl rfl rfl) g_nil)) rfl ?_
                obtain ⟨hb64, h⟩ := gS h
                refine .oo tabOk rfl rfl rfl (q_app E_B (l := x61) rfl rfl rfl rfl rfl rfl rfl rfl rfl rfl rfl rfl rfl (.row v63 rfl rfl rfl rfl) hb64) ?_
                refine .seg tabOk 5 1 [1, 10] [2992] (t := [(1, (.ro 1 a1.length (flat E_B a1))), (10, (.sref (2992, 26) 0 (x61 ++ v63).length 1))]) (h := [(2992, ⟨26, .live, true, flat E_B (x61 ++ v63)⟩)]) (ep := 27) (by kernel_rfl) ?_
                refine .fin rfl ?_
                refine sqN ?_
                refine .rgI rfl ?_
                refine .seg tabOk 0 2 [188, 189] [2992] (t := [(188, (.sref (2992, 26) 0 (x61 ++ v63).length 1)), (189, (.ro 1 a1.length (flat E_B a1)))]) (h := [(2992, ⟨26, .live, true, flat E_B (x61 ++ v63)⟩)]) (ep := 29) (by kernel_rfl) ?_
                obtain ⟨hb65, h⟩ := gS h
                refine .oo tabOk rfl rfl rfl (q_app E_B (l := (x61 ++ v63)) rfl rfl rfl rfl rfl rfl rfl rfl rfl rfl rfl rfl rfl (.ro a1) hb65) ?_
                refine .seg tabOk 3 1 [10] [3040] (t := [(10, (.sref (3040, 29) 0 ((x61 ++ v63) ++ a1).length 1))]) (h := [(3040, ⟨29, .live, true, flat E_B ((x61 ++ v63) ++ a1)⟩)]) (ep := 30) (by kernel_rfl) ?_
                refine .fin rfl ?_
                exact jkN (by exact .tn [((3040, 29), (3040, 29))] ⟨rfl, trivial⟩ ⟨rfl, ⟨_, rfl, ah_row E_B⟩, trivial⟩ rfl) ⟨_, rfl, h⟩
              · have h := iF h hc62
                refine .skip ?_
                exact jkN (by exact .tn [((496, 9), (3040, 29))] ⟨rfl, trivial⟩ ⟨rfl, ⟨_, rfl, ah_row E_B⟩, trivial⟩ rfl) ⟨_, rfl, h⟩
            · rintro _ ⟨x66, rfl, h⟩
              subst hj67
              refine sqN ?_
              refine .seq ?_
              refine .rgI rfl ?_
              refine .seg tabOk 0 3 [8, 9] [3040] (t := [(8, (.sref (3040, 29) 0 x66.length 1)), (9, (vI 0))]) (h := [(3040, ⟨29, .live, true, flat E_B x66⟩)]) (ep := 33) (by kernel_rfl) ?_
              refine .fin rfl ?_
              refine sqN ?_
              refine .ret ?_
              injection h with h
              subst h
              exact ⟨.inr rfl, _, _, (f_cons (f_tmp rfl (o1_row E_B x66 rfl rfl rfl rfl rfl)) (f_cons rfl f_nil)), nd_of rfl, rfl, rfl⟩
abbrev R_law08_CompoWrites := Bool
def F_law08_CompoWrites (n : Nat) (a0 : (List T_SiiiA4ie)) (a1 : (List Int)) (a2 : T_SSiieSiiee) : Option R_law08_CompoWrites :=
  Option.bind (F_law08_alive n ) fun v1 =>
  if (!v1) then
    some false
  else
  if ((decide (200 < (a0.length : Int))) || (decide (70000 < (a1.length : Int)))) then
    some true
  else
  gd (fits (([] : List T_SiiiA4ie).length + a0.length) 56 = true) <|
  Option.bind (F_r02_Copy n a1) fun v6 =>
  Option.bind (F_compo_Write n (([] : List T_SiiiA4ie) ++ a0) v6 a2.f0 a2.f1) fun v7 =>
  Option.bind (F_r08_Write n a0 a1 a2.f0 a2.f1) fun v8 =>
  if (decide (v7.2 = v8.2)) then
    Option.bind (F_r02_Same n v7.1 v8.1) fun v10 =>
    if v10 then
      Option.bind (F_r08_Same n (([] : List T_SiiiA4ie) ++ a0) a0) fun v12 =>
      if v12 then
        Option.bind (F_r02_Same n v6 a1) fun v14 =>
        some v14
      else
      some false
    else
    some false
  else
  some false
theorem C_law08_CompoWrites (n : Nat) (a0 : (List T_SiiiA4ie)) (a1 : (List Int)) (a2 : T_SSiieSiiee) (r : R_law08_CompoWrites) (h : F_law08_CompoWrites n a0 a1 a2 = some r) : CallS Try.prog 4 [(.ro 7 a0.length (flat E_SiiiA4ie a0)), (.ro 1 a1.length (flat E_B a1)), (.agg [(vI a2.f0.f0), (vI a2.f0.f1), (vI a2.f1.f0), (vI a2.f1.f1)])] (.val (.bool r)) [none, none, none] := by
  refine CallS.introK tabOk Try.func4 rfl Try.ntmps4 (Nat.le_of_ble_eq_true rfl) ?_
  rw [F_law08_CompoWrites] at h
  refine .seq ?_
  refine .rgI rfl ?_
  refine .seg tabOk 0 2 [0, 1, 5] [80] (t := [(0, (.ro 7 a0.length (flat E_SiiiA4ie a0))), (1, (.ro 1 a1.length (flat E_B a1))), (5, (.ptr (80, 1) 0))]) (h := [(80, ⟨1, .live, false, [(vI a2.f0.f0), (vI a2.f0.f1), (vI a2.f1.f0), (vI a2.f1.f1)]⟩)]) (ep := 2) (by kernel_rfl) ?_
  refine .fin rfl ?_
  refine sqN ?_
  refine .seq ?_
  refine .seq ?_
  refine .rgI rfl ?_
  obtain ⟨v1, hv1, h⟩ := bS h
  refine .cc true rfl rfl (C_law08_alive _ _ hv1) ent_law08_alive rfl rfl rfl rfl g_nil rfl ?_
  refine .seg tabOk 1 1 [0, 1, 5, 14] [80] (t := [(0, (.ro 7 a0.length (flat E_SiiiA4ie a0))), (1, (.ro 1 a1.length (flat E_B a1))), (5, (.ptr (80, 1) 0)), (14, (.val (.bool (!v1))))]) (h := [(80, ⟨1, .live, false, [(vI a2.f0.f0), (vI a2.f0.f1), (vI a2.f1.f0), (vI a2.f1.f1)]⟩)]) (ep := 4) (by kernel_rfl) ?_
  refine .fin rfl ?_
  refine sqN ?_
  refine .cond (!v1) rfl (fun hc2 => ?_) (fun hc2 => ?_)
  · have h := iT h hc2
    refine .seq ?_
    refine .rgI rfl ?_
    refine .seg tabOk 0 1 [6] [] (t := [(6, (.val (.bool false)))]) (h := []) (ep := 6) (by kernel_rfl) ?_
    refine .fin rfl ?_
    refine sqN ?_
    refine .ret ?_
    refine sqR ?_
    injection h with h
    subst h
    exact ⟨.inr rfl, _, _, rfl, List.nodup_nil, rfl, rfl⟩
  · have h := iF h hc2
    refine .skip ?_
    refine sqN ?_
    refine .seq ?_
    refine .seq ?_
    refine .join (fun s' => s' = ⟨[(0, (.ro 7 a0.length (flat E_SiiiA4ie a0))), (1, (.ro 1 a1.length (flat E_B a1))), (5, (.ptr (80, 1) 0)), (22, (.val (.bool ((decide (200 < (a0.length : Int))) || (decide (70000 < (a1.length : Int)))))))], [(80, ⟨1, .live, false, [(vI a2.f0.f0), (vI a2.f0.f1), (vI a2.f1.f0), (vI a2.f1.f1)]⟩)], 8⟩) ?_ ?_
    · refine .rgI rfl ?_
      refine .seg tabOk 0 4 [0, 1, 5, 18] [80] (t := [(0, (.ro 7 a0.length (flat E_SiiiA4ie a0))), (1, (.ro 1 a1.length (flat E_B a1))), (5, (.ptr (80, 1) 0)), (18, (.val (.bool (decide (200 < (a0.length : Int))))))]) (h := [(80, ⟨1, .live, false, [(vI a2.f0.f0), (vI a2.f0.f1), (vI a2.f1.f0), (vI a2.f1.f1)]⟩)]) (ep := 6) (by kernel_rfl) ?_
      cases hB3 : (decide (200 < (a0.length : Int))) with
      | false =>
        skip
        refine .seg tabOk 4 4 [0, 1, 5, 22] [80] (t := [(0, (.ro 7 a0.length (flat E_SiiiA4ie a0))), (1, (.ro 1 a1.length (flat E_B a1))), (5, (.ptr (80, 1) 0)), (22, (.val (.bool (decide (70000 < (a1.length : Int))))))]) (h := [(80, ⟨1, .live, false, [(vI a2.f0.f0), (vI a2.f0.f1), (vI a2.f1.f0), (vI a2.f1.f1)]⟩)]) (ep := 7) (by kernel_rfl) ?_
        refine .fin rfl ?_
        exact jkN (by exact .tn [((80, 1), (80, 1))] ⟨rfl, rfl, rfl, rfl, trivial⟩ ⟨rfl, ⟨_, rfl, rfl⟩, trivial⟩ rfl) rfl
      | true =>
        skip
        refine .seg tabOk 4 4 [0, 1, 5, 22] [80] (t := [(0, (.ro 7 a0.length (flat E_SiiiA4ie a0))), (1, (.ro 1 a1.length (flat E_B a1))), (5, (.ptr (80, 1) 0)), (22, (.val (.bool true)))]) (h := [(80, ⟨1, .live, false, [(vI a2.f0.f0), (vI a2.f0.f1), (vI a2.f1.f0), (vI a2.f1.f1)]⟩)]) (ep := 7) (by kernel_rfl) ?_
        refine .fin rfl ?_
        exact jkN (by exact .tn [((80, 1), (80, 1))] ⟨rfl, rfl, rfl, rfl, trivial⟩ ⟨rfl, ⟨_, rfl, rfl⟩, trivial⟩ rfl) rfl
    · rintro _ rfl
      refine sqN ?_
      refine .cond ((decide (200 < (a0.length : Int))) || (decide (70000 < (a1.length : Int)))) rfl (fun hc4 => ?_) (fun hc4 => ?_)
      · have h := iT h hc4
        refine .seq ?_
        refine .rgI rfl ?_
        refine .seg tabOk 0 1 [6] [] (t := [(6, (.val (.bool true)))]) (h := []) (ep := 10) (by kernel_rfl) ?_
        refine .fin rfl ?_
        refine sqN ?_
        refine .ret ?_
        refine sqR ?_
        injection h with h
        subst h
        exact ⟨.inr rfl, _, _, rfl, List.nodup_nil, rfl, rfl⟩
      · have h := iF h hc4
        refine .skip ?_
        refine sqN ?_
        refine .seq ?_
        refine .rgI rfl ?_
        refine .seg tabOk 0 2 [0, 1, 5, 23, 24] [80, 368] (t := [(0, (.ro 7 a0.length (flat E_SiiiA4ie a0))), (1, (.ro 1 a1.length (flat E_B a1))), (5, (.ptr (80, 1) 0)), (23, (.sref (368, 9) 0 ([] : List T_SiiiA4ie).length 7)), (24, (.ro 7 a0.length (flat E_SiiiA4ie a0)))]) (h := [(80, ⟨1, .live, false, [(vI a2.f0.f0), (vI a2.f0.f1), (vI a2.f1.f0), (vI a2.f1.f1)]⟩), (368, ⟨9, .live, true, flat E_SiiiA4ie ([] : List T_SiiiA4ie)⟩)]) (ep := 10) (by kernel_rfl) ?_
        obtain ⟨hb5, h⟩ := gS h
        refine .oo tabOk rfl rfl rfl (q_app E_SiiiA4ie (l := ([] : List T_SiiiA4ie)) rfl rfl rfl rfl rfl rfl rfl rfl rfl rfl rfl rfl rfl (.ro a0) hb5) ?_
        refine .seg tabOk 3 1 [0, 1, 5, 25, 26] [80, 400] (t := [(0, (.ro 7 a0.length (flat E_SiiiA4ie a0))), (1, (.ro 1 a1.length (flat E_B a1))), (5, (.ptr (80, 1) 0)), (25, (.sref (400, 10) 0 (([] : List T_SiiiA4ie) ++ a0).length 7)), (26, (.ro 1 a1.length (flat E_B a1)))]) (h := [(80, ⟨1, .live, false, [(vI a2.f0.f0), (vI a2.f0.f1), (vI a2.f1.f0), (vI a2.f1.f1)]⟩), (400, ⟨10, .live, true, flat E_SiiiA4ie (([] : List T_SiiiA4ie) ++ a0)⟩)]) (ep := 11) (by kernel_rfl) ?_
        obtain ⟨v6, hv6, h⟩ := bS h
        refine .cc true rfl rfl (C_r02_Copy _ _ _ hv6) ent_r02_Copy rfl rfl rfl rfl (g_cons (g_pl rfl rfl) g_nil) rfl ?_
        refine .seg tabOk 5 2 [0, 1, 5, 7, 8] [80, 400, 432] (t := [(0, (.ro 7 a0.length (flat E_SiiiA4ie a0))), (1, (.ro 1 a1.length (flat E_B a1))), (5, (.ptr (80, 1) 0)), (7, (.sref (400, 10) 0 (([] : List T_SiiiA4ie) ++ a0).length 7)), (8, (.sref (432, 11) 0 v6.length 1))]) (h := [(80, ⟨1, .live, false, [(vI a2.f0.f0), (vI a2.f0.f1), (vI a2.f1.f0), (vI a2.f1.f1)]⟩), (400, ⟨10, .live, true, flat E_SiiiA4ie (([] : List T_SiiiA4ie) ++ a0)⟩), (432, ⟨11, .live, true, flat E_B v6⟩)]) (ep := 12) (by kernel_rfl) ?_
        refine .fin rfl ?_
        refine sqN ?_
        refine .seq ?_
        refine .rgI rfl ?_
        refine .seg tabOk 0 6 [0, 1, 5, 7, 8, 29, 30, 32, 34] [80, 400, 432] (t := [(0, (.ro 7 a0.length (flat E_SiiiA4ie a0))), (1, (.ro 1 a1.length (flat E_B a1))), (5, (.ptr (80, 1) 0)), (7, (.sref (400, 10) 0 (([] : List T_SiiiA4ie) ++ a0).length 7)), (8, (.sref (432, 11) 0 v6.length 1)), (29, (.sref (400, 10) 0 (([] : List T_SiiiA4ie) ++ a0).length 7)), (30, (.sref (432, 11) 0 v6.length 1)), (32, (.agg [(vI a2.f0.f0), (vI a2.f0.f1)])), (34, (.agg [(vI a2.f1.f0), (vI a2.f1.f1)]))]) (h := [(80, ⟨1, .live, false, [(vI a2.f0.f0), (vI a2.f0.f1), (vI a2.f1.f0), (vI a2.f1.f1)]⟩), (400, ⟨10, .live, true, flat E_SiiiA4ie (([] : List T_SiiiA4ie) ++ a0)⟩), (432, ⟨11, .live, true, flat E_B v6⟩)]) (ep := 14) (by kernel_rfl) ?_
        obtain ⟨v7, hv7, h⟩ := bS h
        refine .cc true rfl rfl (C_compo_Write _ _ _ _ _ _ hv7) ent_compo_Write rfl rfl rfl rfl (g_cons (g_row E_SiiiA4ie (([] : List T_SiiiA4ie) ++ a0) rfl rfl rfl rfl rfl) (g_cons (g_row E_B v6 rfl rfl rfl rfl rfl) (g_cons (g_pl rfl rfl) (g_cons (g_pl rfl rfl) g_nil)))) rfl ?_
        refine .seg tabOk 7 5 [0, 1, 5, 7, 8, 9, 10] [80, 400, 432, 560] (t := [(0, (.ro 7 a0.length (flat E_SiiiA4ie a0))), (1, (.ro 1 a1.length (flat E_B a1))), (5, (.ptr (80, 1) 0)), (7, (.sref (400, 10) 0 (([] : List T_SiiiA4ie) ++ a0).length 7)), (8, (.sref (432, 11) 0 v6.length 1)), (9, (.sref (560, 14) 0 v7.1.length 1)), (10, (vI v7.2))]) (h := [(80, ⟨1, .live, false, [(vI a2.f0.f0), (vI a2.f0.f1), (vI a2.f1.f0), (vI a2.f1.f1)]⟩), (400, ⟨10, .froz, true, flat E_SiiiA4ie (([] : List T_SiiiA4ie) ++ a0)⟩), (432, ⟨11, .froz, true, flat E_B v6⟩), (560, ⟨14, .live, true, flat E_B v7.1⟩)]) (ep := 15) (by kernel_rfl) ?_
        refine .fin rfl ?_
        refine sqN ?_
        refine .seq ?_
        refine .rgI rfl ?_
        refine .seg tabOk 0 6 [0, 1, 7, 8, 9, 10, 39, 40, 42, 44] [400, 432, 560] (t := [(0, (.ro 7 a0.length (flat E_SiiiA4ie a0))), (1, (.ro 1 a1.length (flat E_B a1))), (7, (.sref (400, 10) 0 (([] : List T_SiiiA4ie) ++ a0).length 7)), (8, (.sref (432, 11) 0 v6.length 1)), (9, (.sref (560, 14) 0 v7.1.length 1)), (10, (vI v7.2)), (39, (.ro 7 a0.length (flat E_SiiiA4ie a0))), (40, (.ro 1 a1.length (flat E_B a1))), (42, (.agg [(vI a2.f0.f0), (vI a2.f0.f1)])), (44, (.agg [(vI a2.f1.f0), (vI a2.f1.f1)]))]) (h := [(400, ⟨10, .froz, true, flat E_SiiiA4ie (([] : List T_SiiiA4ie) ++ a0)⟩), (432, ⟨11, .froz, true, flat E_B v6⟩), (560, ⟨14, .live, true, flat E_B v7.1⟩)]) (ep := 17) (by kernel_rfl) ?_
        obtain ⟨v8, hv8, h⟩ := bS h
        refine .cc true rfl rfl (C_r08_Write _ _ _ _ _ _ hv8) ent_r08_Write rfl rfl rfl rfl (g_cons (g_pl rfl rfl) (g_cons (g_pl rfl rfl) (g_cons (g_pl rfl rfl) (g_cons (g_pl rfl rfl) g_nil)))) rfl ?_
        refine .seg tabOk 7 5 [0, 1, 7, 8, 9, 10, 11, 12] [400, 432, 560, 720] (t := [(0, (.ro 7 a0.length (flat E_SiiiA4ie a0))), (1, (.ro 1 a1.length (flat E_B a1))), (7, (.sref (400, 10) 0 (([] : List T_SiiiA4ie) ++ a0).length 7)), (8, (.sref (432, 11) 0 v6.length 1)), (9, (.sref (560, 14) 0 v7.1.length 1)), (10, (vI v7.2)), (11, (.sref (720, 17) 0 v8.1.length 1)), (12, (vI v8.2))]) (h := [(400, ⟨10, .froz, true, flat E_SiiiA4ie (([] : List T_SiiiA4ie) ++ a0)⟩), (432, ⟨11, .froz, true, flat E_B v6⟩), (560, ⟨14, .live, true, flat E_B v7.1⟩), (720, ⟨17, .live, true, flat E_B v8.1⟩)]) (ep := 18) (by kernel_rfl) ?_
        refine .fin rfl ?_
        refine sqN ?_
        refine .seq ?_
        refine .rgI rfl ?_
        refine .seg tabOk 0 4 [0, 1, 7, 8, 9, 11, 51] [400, 432, 560, 720] (t := [(0, (.ro 7 a0.length (flat E_SiiiA4ie a0))), (1, (.ro 1 a1.length (flat E_B a1))), (7, (.sref (400, 10) 0 (([] : List T_SiiiA4ie) ++ a0).length 7)), (8, (.sref (432, 11) 0 v6.length 1)), (9, (.sref (560, 14) 0 v7.1.length 1)), (11, (.sref (720, 17) 0 v8.1.length 1)), (51, (.val (.bool (decide (v7.2 = v8.2)))))]) (h := [(400, ⟨10, .froz, true, flat E_SiiiA4ie (([] : List T_SiiiA4ie) ++ a0)⟩), (432, ⟨11, .froz, true, flat E_B v6⟩), (560, ⟨14, .live, true, flat E_B v7.1⟩), (720, ⟨17, .live, true, flat E_B v8.1⟩)]) (ep := 20) (by kernel_rfl) ?_
        cases hB9 : (decide (v7.2 = v8.2)) with
        | false =>
          have h := iF h hB9
          refine .seg tabOk 4 15 [6] [] (t := [(6, (.val (.bool false)))]) (h := []) (ep := 21) (by kernel_rfl) ?_
          refine .fin rfl ?_
          refine sqN ?_
          refine .ret ?_
          injection h with h
          subst h
          exact ⟨.inr rfl, _, _, rfl, List.nodup_nil, rfl, rfl⟩
        | true =>
          have h := iT h hB9
          refine .seg tabOk 4 2 [0, 1, 7, 8, 51, 52, 53] [400, 432, 560, 720] (t := [(0, (.ro 7 a0.length (flat E_SiiiA4ie a0))), (1, (.ro 1 a1.length (flat E_B a1))), (7, (.sref (400, 10) 0 (([] : List T_SiiiA4ie) ++ a0).length 7)), (8, (.sref (432, 11) 0 v6.length 1)), (51, (.val (.bool true))), (52, (.sref (560, 14) 0 v7.1.length 1)), (53, (.sref (720, 17) 0 v8.1.length 1))]) (h := [(400, ⟨10, .froz, true, flat E_SiiiA4ie (([] : List T_SiiiA4ie) ++ a0)⟩), (432, ⟨11, .froz, true, flat E_B v6⟩), (560, ⟨14, .live, true, flat E_B v7.1⟩), (720, ⟨17, .live, true, flat E_B v8.1⟩)]) (ep := 21) (by kernel_rfl) ?_
          obtain ⟨v10, hv10, h⟩ := bS h
          refine .cc false rfl rfl (C_r02_Same _ _ _ _ hv10) ent_r02_Same rfl rfl rfl rfl (g_cons (g_row E_B v7.1 rfl rfl rfl rfl rfl) (g_cons (g_row E_B v8.1 rfl rfl rfl rfl rfl) g_nil)) rfl ?_
          refine .seg tabOk 7 2 [0, 1, 7, 8, 56] [400, 432] (t := [(0, (.ro 7 a0.length (flat E_SiiiA4ie a0))), (1, (.ro 1 a1.length (flat E_B a1))), (7, (.sref (400, 10) 0 (([] : List T_SiiiA4ie) ++ a0).length 7)), (8, (.sref (432, 11) 0 v6.length 1)), (56, (.val (.bool v10)))]) (h := [(400, ⟨10, .froz, true, flat E_SiiiA4ie (([] : List T_SiiiA4ie) ++ a0)⟩), (432, ⟨11, .froz, true, flat E_B v6⟩)]) (ep := 22) (by kernel_rfl) ?_
          cases hB11 : v10 with
          | false =>
            have h := iF h hB11
            refine .seg tabOk 9 10 [6] [] (t := [(6, (.val (.bool false)))]) (h := []) (ep := 23) (by kernel_rfl) ?_
            refine .fin rfl ?_
            refine sqN ?_
            refine .ret ?_
            injection h with h
            subst h
            exact ⟨.inr rfl, _, _, rfl, List.nodup_nil, rfl, rfl⟩
          | true =>
            have h := iT h hB11
            refine .seg tabOk 9 2 [1, 8, 56, 57, 58] [400, 432] (t := [(1, (.ro 1 a1.length (flat E_B a1))), (8, (.sref (432, 11) 0 v6.length 1)), (56, (.val (.bool true))), (57, (.sref (400, 10) 0 (([] : List T_SiiiA4ie) ++ a0).length 7)), (58, (.ro 7 a0.length (flat E_SiiiA4ie a0)))]) (h := [(400, ⟨10, .froz, true, flat E_SiiiA4ie (([] : List T_SiiiA4ie) ++ a0)⟩), (432, ⟨11, .froz, true, flat E_B v6⟩)]) (ep := 23) (by kernel_rfl) ?_
            obtain ⟨v12, hv12, h⟩ := bS h
            refine .cc true rfl rfl (C_r08_Same _ _ _ _ hv12) ent_r08_Same rfl rfl rfl rfl (g_cons (g_rowF E_SiiiA4ie (([] : List T_SiiiA4ie) ++ a0) rfl rfl rfl rfl rfl) (g_cons (g_pl rfl rfl) g_nil)) rfl ?_
            refine .seg tabOk 12 2 [1, 8, 61] [432] (t := [(1, (.ro 1 a1.length (flat E_B a1))), (8, (.sref (432, 11) 0 v6.length 1)), (61, (.val (.bool v12)))]) (h := [(432, ⟨11, .froz, true, flat E_B v6⟩)]) (ep := 24) (by kernel_rfl) ?_
            cases hB13 : v12 with
            | false =>
              have h := iF h hB13
              refine .seg tabOk 14 5 [6] [] (t := [(6, (.val (.bool false)))]) (h := []) (ep := 25) (by kernel_rfl) ?_
              refine .fin rfl ?_
              refine sqN ?_
              refine .ret ?_
              injection h with h
              subst h
              exact ⟨.inr rfl, _, _, rfl, List.nodup_nil, rfl, rfl⟩
            | true =>
              have h := iT h hB13
              refine .seg tabOk 14 2 [61, 62, 63] [432] (t := [(61, (.val (.bool true))), (62, (.sref (432, 11) 0 v6.length 1)), (63, (.ro 1 a1.length (flat E_B a1)))]) (h := [(432, ⟨11, .froz, true, flat E_B v6⟩)]) (ep := 25) (by kernel_rfl) ?_
              obtain ⟨v14, hv14, h⟩ := bS h
              refine .cc true rfl rfl (C_r02_Same _ _ _ _ hv14) ent_r02_Same rfl rfl rfl rfl (g_cons (g_rowF E_B v6 rfl rfl rfl rfl rfl) (g_cons (g_pl rfl rfl) g_nil)) rfl ?_
              refine .seg tabOk 17 2 [6] [] (t := [(6, (.val (.bool v14)))]) (h := []) (ep := 26) (by kernel_rfl) ?_
              refine .fin rfl ?_
              refine sqN ?_
              refine .ret ?_
              injection h with h
              subst h
              exact ⟨.inr rfl, _, _, rfl, List.nodup_nil, rfl, rfl⟩
abbrev R_law08_CompoBack := Bool
def F_law08_CompoBack (n : Nat) (a0 : (List T_SiiiA4ie)) (a1 : (List Int)) (a2 : (List Int)) : Option R_law08_CompoBack :=
  Option.bind (F_law08_alive n ) fun v1 =>
  if (!v1) then
    some false
  else
  if ((decide (70000 < (a1.length : Int))) || (decide (1000 < (a2.length : Int)))) then
    some true
  else
  Option.bind (F_compo_Write n a0 a1 (⟨0, 0⟩ : T_Siie) (⟨1, 0⟩ : T_Siie)) fun v5 =>
  if (!decide (v5.2 = 0)) then
    some (decide ((v5.1.length : Int) = 0))
  else
  gd (fits (v5.1.length + a2.length) 1 = true) <|
  Option.bind (F_compo_Read n (v5.1 ++ a2)) fun v8 =>
  if (decide (v8.2.2 = 0)) then
    Option.bind (F_r08_Same n v8.1 a0) fun v10 =>
    if v10 then
      Option.bind (F_r02_Same n v8.2.1 a1) fun v12 =>
      some v12
    else
    some false
  else
  some false
theorem C_law08_CompoBack (n : Nat) (a0 : (List T_SiiiA4ie)) (a1 : (List Int)) (a2 : (List Int)) (r : R_law08_CompoBack) (h : F_law08_CompoBack n a0 a1 a2 = some r) : CallS Try.prog 5 [(.ro 7 a0.length (flat E_SiiiA4ie a0)), (.ro 1 a1.length (flat E_B a1)), (.ro 1 a2.length (flat E_B a2))] (.val (.bool r)) [none, none, none] := by
  refine CallS.introK tabOk Try.func5 rfl Try.ntmps5 (Nat.le_of_ble_eq_true rfl) ?_
  rw [F_law08_CompoBack] at h
  refine .seq ?_
  refine .rgI rfl ?_
  refine .seg tabOk 0 1 [0, 1, 2] [] (t := [(0, (.ro 7 a0.length (flat E_SiiiA4ie a0))), (1, (.ro 1 a1.length (flat E_B a1))), (2, (.ro 1 a2.length (flat E_B a2)))]) (h := []) (ep := 2) (by kernel_rfl) ?_
  refine .fin rfl ?_
  refine sqN ?_
  refine .seq ?_
  refine .seq ?_
  refine .rgI rfl ?_
  obtain ⟨v1, hv1, h⟩ := bS h
  refine .cc true rfl rfl (C_law08_alive _ _ hv1) ent_law08_alive rfl rfl rfl rfl g_nil rfl ?_
  refine .seg tabOk 1 1 [0, 1, 2, 13] [] (t := [(0, (.ro 7 a0.length (flat E_SiiiA4ie a0))), (1, (.ro 1 a1.length (flat E_B a1))), (2, (.ro 1 a2.length (flat E_B a2))), (13, (.val (.bool (!v1))))]) (h := []) (ep := 4) (by kernel_rfl) ?_
  refine .fin rfl ?_
  refine sqN ?_
  refine .cond (!v1) rfl (fun hc2 => ?_) (fun hc2 => ?_)
  · have h := iT h hc2
    refine .seq ?_
    refine .rgI rfl ?_
    refine .seg tabOk 0 1 [6] [] (t := [(6, (.val (.bool false)))]) (h := []) (ep := 6) (by kernel_rfl) ?_
    refine .fin rfl ?_
    refine sqN ?_
    refine .ret ?_
    refine sqR ?_
    injection h with h
    subst h
    exact ⟨.inr rfl, _, _, rfl, List.nodup_nil, rfl, rfl⟩
  · have h := iF h hc2
    refine .skip ?_
    refine sqN ?_
    refine .seq ?_
    refine .seq ?_
    refine .join (fun s' => s' = ⟨[(0, (.ro 7 a0.length (flat E_SiiiA4ie a0))), (1, (.ro 1 a1.length (flat E_B a1))), (2, (.ro 1 a2.length (flat E_B a2))), (21, (.val (.bool ((decide (70000 < (a1.length : Int))) || (decide (1000 < (a2.length : Int)))))))], [], 8⟩) ?_ ?_
    · refine .rgI rfl ?_
      refine .seg tabOk 0 4 [0, 1, 2, 17] [] (t := [(0, (.ro 7 a0.length (flat E_SiiiA4ie a0))), (1, (.ro 1 a1.length (flat E_B a1))), (2, (.ro 1 a2.length (flat E_B a2))), (17, (.val (.bool (decide (70000 < (a1.length : Int))))))]) (h := []) (ep := 6) (by kernel_rfl) ?_
      cases hB3 : (decide (70000 < (a1.length : Int))) with
      | false =>
        skip
        refine .seg tabOk 4 4 [0, 1, 2, 21] [] (t := [(0, (.ro 7 a0.length (flat E_SiiiA4ie a0))), (1, (.ro 1 a1.length (flat E_B a1))), (2, (.ro 1 a2.length (flat E_B a2))), (21, (.val (.bool (decide (1000 < (a2.length : Int))))))]) (h := []) (ep := 7) (by kernel_rfl) ?_
        refine .fin rfl ?_
        exact jkN (by exact .tn [] ⟨rfl, rfl, rfl, rfl, trivial⟩ trivial rfl) rfl
      | true =>
        skip
        refine .seg tabOk 4 4 [0, 1, 2, 21] [] (t := [(0, (.ro 7 a0.length (flat E_SiiiA4ie a0))), (1, (.ro 1 a1.length (flat E_B a1))), (2, (.ro 1 a2.length (flat E_B a2))), (21, (.val (.bool true)))]) (h := []) (ep := 7) (by kernel_rfl) ?_
        refine .fin rfl ?_
        exact jkN (by exact .tn [] ⟨rfl, rfl, rfl, rfl, trivial⟩ trivial rfl) rfl
    · rintro _ rfl
      refine sqN ?_
      refine .cond ((decide (70000 < (a1.length : Int))) || (decide (1000 < (a2.length : Int)))) rfl (fun hc4 => ?_) (fun hc4 => ?_)
      · have h := iT h hc4
        refine .seq ?_
        refine .rgI rfl ?_
        refine .seg tabOk 0 1 [6] [] (t := [(6, (.val (.bool true)))]) (h := []) (ep := 10) (by kernel_rfl) ?_
        refine .fin rfl ?_
        refine sqN ?_
        refine .ret ?_
        refine sqR ?_
        injection h with h
        subst h
        exact ⟨.inr rfl, _, _, rfl, List.nodup_nil, rfl, rfl⟩
      · have h := iF h hc4
        refine .skip ?_
        refine sqN ?_
        refine .seq ?_
        refine .rgI rfl ?_
        refine .seg tabOk 0 4 [0, 1, 2, 23, 24, 25, 26] [] (t := [(0, (.ro 7 a0.length (flat E_SiiiA4ie a0))), (1, (.ro 1 a1.length (flat E_B a1))), (2, (.ro 1 a2.length (flat E_B a2))), (23, (.ro 7 a0.length (flat E_SiiiA4ie a0))), (24, (.ro 1 a1.length (flat E_B a1))), (25, (.agg [(vI 0), (vI 0)])), (26, (.agg [(vI 1), (vI 0)]))]) (h := []) (ep := 10) (by kernel_rfl) ?_
        obtain ⟨v5, hv5, h⟩ := bS h
        refine .cc true rfl rfl (C_compo_Write _ _ _ _ _ _ hv5) ent_compo_Write rfl rfl rfl rfl (g_cons (g_pl rfl rfl) (g_cons (g_pl rfl rfl) (g_cons (g_pl rfl rfl) (g_cons (g_pl rfl rfl) g_nil)))) rfl ?_
        refine .seg tabOk 5 5 [0, 1, 2, 7, 8] [432] (t := [(0, (.ro 7 a0.length (flat E_SiiiA4ie a0))), (1, (.ro 1 a1.length (flat E_B a1))), (2, (.ro 1 a2.length (flat E_B a2))), (7, (.sref (432, 10) 0 v5.1.length 1)), (8, (vI v5.2))]) (h := [(432, ⟨10, .live, true, flat E_B v5.1⟩)]) (ep := 11) (by kernel_rfl) ?_
        refine .fin rfl ?_
        refine sqN ?_
        refine .seq ?_
        refine .seq ?_
        refine .rgI rfl ?_
        refine .seg tabOk 0 2 [0, 1, 2, 7, 31] [432] (t := [(0, (.ro 7 a0.length (flat E_SiiiA4ie a0))), (1, (.ro 1 a1.length (flat E_B a1))), (2, (.ro 1 a2.length (flat E_B a2))), (7, (.sref (432, 10) 0 v5.1.length 1)), (31, (.val (.bool (!decide (v5.2 = 0)))))]) (h := [(432, ⟨10, .live, true, flat E_B v5.1⟩)]) (ep := 13) (by kernel_rfl) ?_
        refine .fin rfl ?_
        refine sqN ?_
        refine .cond (!decide (v5.2 = 0)) rfl (fun hc6 => ?_) (fun hc6 => ?_)
        · have h := iT h hc6
          refine .seq ?_
          refine .rgI rfl ?_
          refine .seg tabOk 0 4 [6] [] (t := [(6, (.val (.bool (decide ((v5.1.length : Int) = 0)))))]) (h := []) (ep := 15) (by kernel_rfl) ?_
          refine .fin rfl ?_
          refine sqN ?_
          refine .ret ?_
          refine sqR ?_
          injection h with h
          subst h
          exact ⟨.inr rfl, _, _, rfl, List.nodup_nil, rfl, rfl⟩
        · have h := iF h hc6
          refine .skip ?_
          refine sqN ?_
          refine .seq ?_
          refine .rgI rfl ?_
          refine .seg tabOk 0 2 [0, 1, 36, 37] [432] (t := [(0, (.ro 7 a0.length (flat E_SiiiA4ie a0))), (1, (.ro 1 a1.length (flat E_B a1))), (36, (.sref (432, 10) 0 v5.1.length 1)), (37, (.ro 1 a2.length (flat E_B a2)))]) (h := [(432, ⟨10, .live, true, flat E_B v5.1⟩)]) (ep := 15) (by kernel_rfl) ?_
          obtain ⟨hb7, h⟩ := gS h
          refine .oo tabOk rfl rfl rfl (q_app E_B (l := v5.1) rfl rfl rfl rfl rfl rfl rfl rfl rfl rfl rfl rfl rfl (.ro a2) hb7) ?_
          obtain ⟨v8, hv8, h⟩ := bS h
          refine .cc true rfl rfl (C_compo_Read _ _ _ hv8) ent_compo_Read rfl rfl rfl rfl (g_cons (g_row E_B (v5.1 ++ a2) rfl rfl rfl rfl rfl) g_nil) rfl ?_
          refine .seg tabOk 4 7 [0, 1, 9, 10, 11] [624, 625] (t := [(0, (.ro 7 a0.length (flat E_SiiiA4ie a0))), (1, (.ro 1 a1.length (flat E_B a1))), (9, (.sref (624, 15) 0 v8.1.length 7)), (10, (.sref (625, 15) 0 v8.2.1.length 1)), (11, (vI v8.2.2))]) (h := [(624, ⟨15, .live, true, flat E_SiiiA4ie v8.1⟩), (625, ⟨15, .live, true, flat E_B v8.2.1⟩)]) (ep := 16) (by kernel_rfl) ?_
          refine .fin rfl ?_
          refine sqN ?_
          refine .seq ?_
          refine .rgI rfl ?_
          refine .seg tabOk 0 3 [0, 1, 9, 10, 45] [624, 625] (t := [(0, (.ro 7 a0.length (flat E_SiiiA4ie a0))), (1, (.ro 1 a1.length (flat E_B a1))), (9, (.sref (624, 15) 0 v8.1.length 7)), (10, (.sref (625, 15) 0 v8.2.1.length 1)), (45, (.val (.bool (decide (v8.2.2 = 0)))))]) (h := [(624, ⟨15, .live, true, flat E_SiiiA4ie v8.1⟩), (625, ⟨15, .live, true, flat E_B v8.2.1⟩)]) (ep := 18) (by kernel_rfl) ?_
          cases hB9 : (decide (v8.2.2 = 0)) with
          | false =>
            have h := iF h hB9
            refine .seg tabOk 3 10 [6] [] (t := [(6, (.val (.bool false)))]) (h := []) (ep := 19) (by kernel_rfl) ?_
            refine .fin rfl ?_
            refine sqN ?_
            refine .ret ?_
            injection h with h
            subst h
            exact ⟨.inr rfl, _, _, rfl, List.nodup_nil, rfl, rfl⟩
          | true =>
            have h := iT h hB9
            refine .seg tabOk 3 2 [1, 10, 45, 46, 47] [624, 625] (t := [(1, (.ro 1 a1.length (flat E_B a1))), (10, (.sref (625, 15) 0 v8.2.1.length 1)), (45, (.val (.bool true))), (46, (.sref (624, 15) 0 v8.1.length 7)), (47, (.ro 7 a0.length (flat E_SiiiA4ie a0)))]) (h := [(624, ⟨15, .live, true, flat E_SiiiA4ie v8.1⟩), (625, ⟨15, .live, true, flat E_B v8.2.1⟩)]) (ep := 19) (by kernel_rfl) ?_
            obtain ⟨v10, hv10, h⟩ := bS h
            refine .cc false rfl rfl (C_r08_Same _ _ _ _ hv10) ent_r08_Same rfl rfl rfl rfl (g_cons (g_row E_SiiiA4ie v8.1 rfl rfl rfl rfl rfl) (g_cons (g_pl rfl rfl) g_nil)) rfl ?_
            refine .seg tabOk 6 2 [1, 10, 50] [625] (t := [(1, (.ro 1 a1.length (flat E_B a1))), (10, (.sref (625, 15) 0 v8.2.1.length 1)), (50, (.val (.bool v10)))]) (h := [(625, ⟨15, .live, true, flat E_B v8.2.1⟩)]) (ep := 20) (by kernel_rfl) ?_
            cases hB11 : v10 with
            | false =>
              have h := iF h hB11
              refine .seg tabOk 8 5 [6] [] (t := [(6, (.val (.bool false)))]) (h := []) (ep := 21) (by kernel_rfl) ?_
              refine .fin rfl ?_
              refine sqN ?_
              refine .ret ?_
              injection h with h
              subst h
              exact ⟨.inr rfl, _, _, rfl, List.nodup_nil, rfl, rfl⟩
            | true =>
              have h := iT h hB11
              refine .seg tabOk 8 2 [50, 51, 52] [625] (t := [(50, (.val (.bool true))), (51, (.sref (625, 15) 0 v8.2.1.length 1)), (52, (.ro 1 a1.length (flat E_B a1)))]) (h := [(625, ⟨15, .live, true, flat E_B v8.2.1⟩)]) (ep := 21) (by kernel_rfl) ?_
              obtain ⟨v12, hv12, h⟩ := bS h
              refine .cc false rfl rfl (C_r02_Same _ _ _ _ hv12) ent_r02_Same rfl rfl rfl rfl (g_cons (g_row E_B v8.2.1 rfl rfl rfl rfl rfl) (g_cons (g_pl rfl rfl) g_nil)) rfl ?_
              refine .seg tabOk 11 2 [6] [] (t := [(6, (.val (.bool v12)))]) (h := []) (ep := 22) (by kernel_rfl) ?_
              refine .fin rfl ?_
              refine sqN ?_
              refine .ret ?_
              injection h with h
              subst h
              exact ⟨.inr rfl, _, _, rfl, List.nodup_nil, rfl, rfl⟩
abbrev R_law08_CompoCut := Bool
def F_law08_CompoCut (n : Nat) (a0 : (List T_SiiiA4ie)) (a1 : (List Int)) (a2 : Int) : Option R_law08_CompoCut :=
  Option.bind (F_law08_alive n ) fun v1 =>
  if (!v1) then
    some false
  else
  if (decide (1000 < (a1.length : Int))) then
    some true
  else
  Option.bind (F_compo_Write n a0 a1 (⟨0, 0⟩ : T_Siie) (⟨0, 0⟩ : T_Siie)) fun v4 =>
  if ((!decide (v4.2 = 0)) || (decide ((v4.1.length : Int) = 0))) then
    some (decide ((v4.1.length : Int) = 0))
  else
  gd ((v4.1.length : Int) ≠ 0) <|
  gd ((0 : Int) ≤ 0 ∧ 0 ≤ (Int.tmod (w64 (a2)) (v4.1.length : Int)) ∧ (Int.tmod (w64 (a2)) (v4.1.length : Int)) ≤ (v4.1.length : Int)) <|
  Option.bind (F_compo_Read n (slc v4.1 0 (Int.tmod (w64 (a2)) (v4.1.length : Int)))) fun v9 =>
  if (decide (v9.2.2 = 3)) then
    some (decide ((w64 ((v9.1.length : Int) + (v9.2.1.length : Int))) = 0))
  else
  some false
theorem C_law08_CompoCut (n : Nat) (a0 : (List T_SiiiA4ie)) (a1 : (List Int)) (a2 : Int) (r : R_law08_CompoCut) (h : F_law08_CompoCut n a0 a1 a2 = some r) : CallS Try.prog 6 [(.ro 7 a0.length (flat E_SiiiA4ie a0)), (.ro 1 a1.length (flat E_B a1)), (.val (.int .u16 a2))] (.val (.bool r)) [none, none, none] := by
  refine CallS.introK tabOk Try.func6 rfl Try.ntmps6 (Nat.le_of_ble_eq_true rfl) ?_
  rw [F_law08_CompoCut] at h
  refine .seq ?_
  refine .rgI rfl ?_
  refine .seg tabOk 0 1 [0, 1, 2] [] (t := [(0, (.ro 7 a0.length (flat E_SiiiA4ie a0))), (1, (.ro 1 a1.length (flat E_B a1))), (2, (.val (.int .u16 a2)))]) (h := []) (ep := 2) (by kernel_rfl) ?_
  refine .fin rfl ?_
  refine sqN ?_
  refine .seq ?_
  refine .seq ?_
  refine .rgI rfl ?_
  obtain ⟨v1, hv1, h⟩ := bS h
  refine .cc true rfl rfl (C_law08_alive _ _ hv1) ent_law08_alive rfl rfl rfl rfl g_nil rfl ?_
  refine .seg tabOk 1 1 [0, 1, 2, 13] [] (t := [(0, (.ro 7 a0.length (flat E_SiiiA4ie a0))), (1, (.ro 1 a1.length (flat E_B a1))), (2, (.val (.int .u16 a2))), (13, (.val (.bool (!v1))))]) (h := []) (ep := 4) (by kernel_rfl) ?_
  refine .fin rfl ?_
  refine sqN ?_
  refine .cond (!v1) rfl (fun hc2 => ?_) (fun hc2 => ?_)
  · have h := iT h hc2
    refine .seq ?_
    refine .rgI rfl ?_
    refine .seg tabOk 0 1 [6] [] (t := [(6, (.val (.bool false)))]) (h := []) (ep := 6) (by kernel_rfl) ?_
    refine .fin rfl ?_
    refine sqN ?_
    refine .ret ?_
    refine sqR ?_
    injection h with h
    subst h
    exact ⟨.inr rfl, _, _, rfl, List.nodup_nil, rfl, rfl⟩
  · have h := iF h hc2
    refine .skip ?_
    refine sqN ?_
    refine .seq ?_
    refine .seq ?_
    refine .rgI rfl ?_
    refine .seg tabOk 0 3 [0, 1, 2, 16] [] (t := [(0, (.ro 7 a0.length (flat E_SiiiA4ie a0))), (1, (.ro 1 a1.length (flat E_B a1))), (2, (.val (.int .u16 a2))), (16, (.val (.bool (decide (1000 < (a1.length : Int))))))]) (h := []) (ep := 6) (by kernel_rfl) ?_
    refine .fin rfl ?_
    refine sqN ?_
    refine .cond (decide (1000 < (a1.length : Int))) rfl (fun hc3 => ?_) (fun hc3 => ?_)
    · have h := iT h hc3
      refine .seq ?_
      refine .rgI rfl ?_
      refine .seg tabOk 0 1 [6] [] (t := [(6, (.val (.bool true)))]) (h := []) (ep := 8) (by kernel_rfl) ?_
      refine .fin rfl ?_
      refine sqN ?_
      refine .ret ?_
      refine sqR ?_
      injection h with h
      subst h
      exact ⟨.inr rfl, _, _, rfl, List.nodup_nil, rfl, rfl⟩
    · have h := iF h hc3
      refine .skip ?_
      refine sqN ?_
      refine .seq ?_
      refine .rgI rfl ?_
      refine .seg tabOk 0 4 [2, 18, 19, 20, 21] [] (t := [(2, (.val (.int .u16 a2))), (18, (.ro 7 a0.length (flat E_SiiiA4ie a0))), (19, (.ro 1 a1.length (flat E_B a1))), (20, (.agg [(vI 0), (vI 0)])), (21, (.agg [(vI 0), (vI 0)]))]) (h := []) (ep := 8) (by kernel_rfl) ?_
      obtain ⟨v4, hv4, h⟩ := bS h
      refine .cc true rfl rfl (C_compo_Write _ _ _ _ _ _ hv4) ent_compo_Write rfl rfl rfl rfl (g_cons (g_pl rfl rfl) (g_cons (g_pl rfl rfl) (g_cons (g_pl rfl rfl) (g_cons (g_pl rfl rfl) g_nil)))) rfl ?_
      refine .seg tabOk 5 5 [2, 7, 8] [352] (t := [(2, (.val (.int .u16 a2))), (7, (.sref (352, 8) 0 v4.1.length 1)), (8, (vI v4.2))]) (h := [(352, ⟨8, .live, true, flat E_B v4.1⟩)]) (ep := 9) (by kernel_rfl) ?_
      refine .fin rfl ?_
      refine sqN ?_
      refine .seq ?_
      refine .seq ?_
      refine .join (fun s' => s' = ⟨[(2, (.val (.int .u16 a2))), (7, (.sref (352, 8) 0 v4.1.length 1)), (31, (.val (.bool ((!decide (v4.2 = 0)) || (decide ((v4.1.length : Int) = 0))))))], [(352, ⟨8, .live, true, flat E_B v4.1⟩)], 13⟩) ?_ ?_
      · refine .rgI rfl ?_
        refine .seg tabOk 0 3 [2, 7, 27] [352] (t := [(2, (.val (.int .u16 a2))), (7, (.sref (352, 8) 0 v4.1.length 1)), (27, (.val (.bool (!decide (v4.2 = 0)))))]) (h := [(352, ⟨8, .live, true, flat E_B v4.1⟩)]) (ep := 11) (by kernel_rfl) ?_
        cases hB5 : (!decide (v4.2 = 0)) with
        | false =>
          skip
          refine .seg tabOk 3 4 [2, 7, 31] [352] (t := [(2, (.val (.int .u16 a2))), (7, (.sref (352, 8) 0 v4.1.length 1)), (31, (.val (.bool (decide ((v4.1.length : Int) = 0)))))]) (h := [(352, ⟨8, .live, true, flat E_B v4.1⟩)]) (ep := 12) (by kernel_rfl) ?_
          refine .fin rfl ?_
          exact jkN (by exact .tn [((352, 8), (352, 8))] ⟨rfl, rfl, rfl, trivial⟩ ⟨rfl, ⟨_, rfl, ah_row E_B⟩, trivial⟩ rfl) rfl
        | true =>
          skip
          refine .seg tabOk 3 4 [2, 7, 31] [352] (t := [(2, (.val (.int .u16 a2))), (7, (.sref (352, 8) 0 v4.1.length 1)), (31, (.val (.bool true)))]) (h := [(352, ⟨8, .live, true, flat E_B v4.1⟩)]) (ep := 12) (by kernel_rfl) ?_
          refine .fin rfl ?_
          exact jkN (by exact .tn [((352, 8), (352, 8))] ⟨rfl, rfl, rfl, trivial⟩ ⟨rfl, ⟨_, rfl, ah_row E_B⟩, trivial⟩ rfl) rfl
      · rintro _ rfl
        refine sqN ?_
        refine .cond ((!decide (v4.2 = 0)) || (decide ((v4.1.length : Int) = 0))) rfl (fun hc6 => ?_) (fun hc6 => ?_)
        · have h := iT h hc6
          refine .seq ?_
          refine .rgI rfl ?_
          refine .seg tabOk 0 4 [6] [] (t := [(6, (.val (.bool (decide ((v4.1.length : Int) = 0)))))]) (h := []) (ep := 15) (by kernel_rfl) ?_
          refine .fin rfl ?_
          refine sqN ?_
          refine .ret ?_
          refine sqR ?_
          injection h with h
          subst h
          exact ⟨.inr rfl, _, _, rfl, List.nodup_nil, rfl, rfl⟩
        · have h := iF h hc6
          refine .skip ?_
          refine sqN ?_
          refine .seq ?_
          refine .rgI rfl ?_
          refine .seg tabOk 0 5 [36, 38, 40] [352] (t := [(36, (.sref (352, 8) 0 v4.1.length 1)), (38, (vI (w64 (a2)))), (40, (vI (v4.1.length : Int)))]) (h := [(352, ⟨8, .live, true, flat E_B v4.1⟩)]) (ep := 15) (by kernel_rfl) ?_
          obtain ⟨hb7, h⟩ := gS h
          refine .o tabOk rfl rfl rfl (q_rem rfl rfl hb7) ?_
          obtain ⟨hb8, h⟩ := gS h
          refine .oo tabOk rfl rfl rfl (q_slS E_B (l := v4.1) rfl rfl rfl rfl rfl rfl rfl .no (.to rfl) hb8) ?_
          obtain ⟨v9, hv9, h⟩ := bS h
          refine .cc true rfl rfl (C_compo_Read _ _ _ hv9) ent_compo_Read rfl rfl rfl rfl (g_cons (g_part E_B v4.1 hb8 rfl rfl rfl rfl) g_nil) rfl ?_
          refine .seg tabOk 8 7 [9, 10, 11] [688, 689] (t := [(9, (.sref (688, 15) 0 v9.1.length 7)), (10, (.sref (689, 15) 0 v9.2.1.length 1)), (11, (vI v9.2.2))]) (h := [(688, ⟨15, .live, true, flat E_SiiiA4ie v9.1⟩), (689, ⟨15, .live, true, flat E_B v9.2.1⟩)]) (ep := 16) (by kernel_rfl) ?_
          refine .fin rfl ?_
          refine sqN ?_
          refine .seq ?_
          refine .rgI rfl ?_
          refine .seg tabOk 0 3 [9, 10, 49] [688, 689] (t := [(9, (.sref (688, 15) 0 v9.1.length 7)), (10, (.sref (689, 15) 0 v9.2.1.length 1)), (49, (.val (.bool (decide (v9.2.2 = 3)))))]) (h := [(688, ⟨15, .live, true, flat E_SiiiA4ie v9.1⟩), (689, ⟨15, .live, true, flat E_B v9.2.1⟩)]) (ep := 18) (by kernel_rfl) ?_
          cases hB10 : (decide (v9.2.2 = 3)) with
          | false =>
            have h := iF h hB10
            refine .seg tabOk 3 8 [6] [] (t := [(6, (.val (.bool false)))]) (h := []) (ep := 19) (by kernel_rfl) ?_
            refine .fin rfl ?_
            refine sqN ?_
            refine .ret ?_
            injection h with h
            subst h
            exact ⟨.inr rfl, _, _, rfl, List.nodup_nil, rfl, rfl⟩
          | true =>
            have h := iT h hB10
            refine .seg tabOk 3 8 [6] [] (t := [(6, (.val (.bool (decide ((w64 ((v9.1.length : Int) + (v9.2.1.length : Int))) = 0)))))]) (h := []) (ep := 19) (by kernel_rfl) ?_
            refine .fin rfl ?_
            refine sqN ?_
            refine .ret ?_
            injection h with h
            subst h
            exact ⟨.inr rfl, _, _, rfl, List.nodup_nil, rfl, rfl⟩
abbrev R_law08_CompoAgain := Bool
def F_law08_CompoAgain (n : Nat) (a0 : (List Int)) : Option R_law08_CompoAgain :=
  Option.bind (F_law08_alive n ) fun v1 =>
  if (!v1) then
    some false
  else
  Option.bind (F_compo_Read n a0) fun v3 =>
  if (!decide (v3.2.2 = 0)) then
    some (decide ((w64 ((v3.1.length : Int) + (v3.2.1.length : Int))) = 0))
  else
  Option.bind (F_compo_Write n v3.1 v3.2.1 (⟨0, 0⟩ : T_Siie) (⟨0, 0⟩ : T_Siie)) fun v5 =>
  Option.bind (F_compo_Read n v5.1) fun v6 =>
  if (decide (v5.2 = 0)) then
    if (decide (v6.2.2 = 0)) then
      if (decide (1 ≤ (v3.1.length : Int))) then
        if (decide ((v3.1.length : Int) ≤ 64)) then
          Option.bind (F_r08_Same n v6.1 v3.1) fun v11 =>
          if v11 then
            Option.bind (F_r02_Same n v6.2.1 v3.2.1) fun v13 =>
            some v13
          else
          some false
        else
        some false
      else
      some false
    else
    some false
  else
  some false
theorem C_law08_CompoAgain (n : Nat) (a0 : (List Int)) (r : R_law08_CompoAgain) (h : F_law08_CompoAgain n a0 = some r) : CallS Try.prog 7 [(.ro 1 a0.length (flat E_B a0))] (.val (.bool r)) [none] := by
  refine CallS.introK tabOk Try.func7 rfl Try.ntmps7 (Nat.le_of_ble_eq_true rfl) ?_
  rw [F_law08_CompoAgain] at h
  refine .seq ?_
  refine .rgI rfl ?_
  refine .seg tabOk 0 1 [0] [] (t := [(0, (.ro 1 a0.length (flat E_B a0)))]) (h := []) (ep := 2) (by kernel_rfl) ?_
  refine .fin rfl ?_
  refine sqN ?_
  refine .seq ?_
  refine .seq ?_
  refine .rgI rfl ?_
  obtain ⟨v1, hv1, h⟩ := bS h
  refine .cc true rfl rfl (C_law08_alive _ _ hv1) ent_law08_alive rfl rfl rfl rfl g_nil rfl ?_
  refine .seg tabOk 1 1 [0, 12] [] (t := [(0, (.ro 1 a0.length (flat E_B a0))), (12, (.val (.bool (!v1))))]) (h := []) (ep := 4) (by kernel_rfl) ?_
  refine .fin rfl ?_
  refine sqN ?_
  refine .cond (!v1) rfl (fun hc2 => ?_) (fun hc2 => ?_)
  · have h := iT h hc2
    refine .seq ?_
    refine .rgI rfl ?_
    refine .seg tabOk 0 1 [2] [] (t := [(2, (.val (.bool false)))]) (h := []) (ep := 6) (by kernel_rfl) ?_
    refine .fin rfl ?_
    refine sqN ?_
    refine .ret ?_
    refine sqR ?_
    injection h with h
    subst h
    exact ⟨.inr rfl, _, _, rfl, List.nodup_nil, rfl, rfl⟩
  · have h := iF h hc2
    refine .skip ?_
    refine sqN ?_
    refine .seq ?_
    refine .rgI rfl ?_
    refine .seg tabOk 0 1 [14] [] (t := [(14, (.ro 1 a0.length (flat E_B a0)))]) (h := []) (ep := 6) (by kernel_rfl) ?_
    obtain ⟨v3, hv3, h⟩ := bS h
    refine .cc true rfl rfl (C_compo_Read _ _ _ hv3) ent_compo_Read rfl rfl rfl rfl (g_cons (g_pl rfl rfl) g_nil) rfl ?_
    refine .seg tabOk 2 7 [3, 4, 5] [240, 241] (t := [(3, (.sref (240, 6) 0 v3.1.length 7)), (4, (.sref (241, 6) 0 v3.2.1.length 1)), (5, (vI v3.2.2))]) (h := [(240, ⟨6, .live, true, flat E_SiiiA4ie v3.1⟩), (241, ⟨6, .live, true, flat E_B v3.2.1⟩)]) (ep := 7) (by kernel_rfl) ?_
    refine .fin rfl ?_
    refine sqN ?_
    refine .seq ?_
    refine .seq ?_
    refine .rgI rfl ?_
    refine .seg tabOk 0 2 [3, 4, 20] [240, 241] (t := [(3, (.sref (240, 6) 0 v3.1.length 7)), (4, (.sref (241, 6) 0 v3.2.1.length 1)), (20, (.val (.bool (!decide (v3.2.2 = 0)))))]) (h := [(240, ⟨6, .live, true, flat E_SiiiA4ie v3.1⟩), (241, ⟨6, .live, true, flat E_B v3.2.1⟩)]) (ep := 9) (by kernel_rfl) ?_
    refine .fin rfl ?_
    refine sqN ?_
    refine .cond (!decide (v3.2.2 = 0)) rfl (fun hc4 => ?_) (fun hc4 => ?_)
    · have h := iT h hc4
      refine .seq ?_
      refine .rgI rfl ?_
      refine .seg tabOk 0 7 [2] [] (t := [(2, (.val (.bool (decide ((w64 ((v3.1.length : Int) + (v3.2.1.length : Int))) = 0)))))]) (h := []) (ep := 11) (by kernel_rfl) ?_
      refine .fin rfl ?_
      refine sqN ?_
      refine .ret ?_
      refine sqR ?_
      injection h with h
      subst h
      exact ⟨.inr rfl, _, _, rfl, List.nodup_nil, rfl, rfl⟩
    · have h := iF h hc4
      refine .skip ?_
      refine sqN ?_
      refine .seq ?_
      refine .rgI rfl ?_
      refine .seg tabOk 0 4 [3, 4, 28, 29, 30, 31] [240, 241] (t := [(3, (.sref (240, 6) 0 v3.1.length 7)), (4, (.sref (241, 6) 0 v3.2.1.length 1)), (28, (.sref (240, 6) 0 v3.1.length 7)), (29, (.sref (241, 6) 0 v3.2.1.length 1)), (30, (.agg [(vI 0), (vI 0)])), (31, (.agg [(vI 0), (vI 0)]))]) (h := [(240, ⟨6, .live, true, flat E_SiiiA4ie v3.1⟩), (241, ⟨6, .live, true, flat E_B v3.2.1⟩)]) (ep := 11) (by kernel_rfl) ?_
      obtain ⟨v5, hv5, h⟩ := bS h
      refine .cc true rfl rfl (C_compo_Write _ _ _ _ _ _ hv5) ent_compo_Write rfl rfl rfl rfl (g_cons (g_row E_SiiiA4ie v3.1 rfl rfl rfl rfl rfl) (g_cons (g_row E_B v3.2.1 rfl rfl rfl rfl rfl) (g_cons (g_pl rfl rfl) (g_cons (g_pl rfl rfl) g_nil)))) rfl ?_
      refine .seg tabOk 5 5 [3, 4, 6, 7] [240, 241, 512] (t := [(3, (.sref (240, 6) 0 v3.1.length 7)), (4, (.sref (241, 6) 0 v3.2.1.length 1)), (6, (.sref (512, 11) 0 v5.1.length 1)), (7, (vI v5.2))]) (h := [(240, ⟨6, .froz, true, flat E_SiiiA4ie v3.1⟩), (241, ⟨6, .froz, true, flat E_B v3.2.1⟩), (512, ⟨11, .live, true, flat E_B v5.1⟩)]) (ep := 12) (by kernel_rfl) ?_
      refine .fin rfl ?_
      refine sqN ?_
      refine .seq ?_
      refine .rgI rfl ?_
      refine .seg tabOk 0 1 [3, 4, 7, 36] [240, 241, 512] (t := [(3, (.sref (240, 6) 0 v3.1.length 7)), (4, (.sref (241, 6) 0 v3.2.1.length 1)), (7, (vI v5.2)), (36, (.sref (512, 11) 0 v5.1.length 1))]) (h := [(240, ⟨6, .froz, true, flat E_SiiiA4ie v3.1⟩), (241, ⟨6, .froz, true, flat E_B v3.2.1⟩), (512, ⟨11, .live, true, flat E_B v5.1⟩)]) (ep := 14) (by kernel_rfl) ?_
      obtain ⟨v6, hv6, h⟩ := bS h
      refine .cc true rfl rfl (C_compo_Read _ _ _ hv6) ent_compo_Read rfl rfl rfl rfl (g_cons (g_row E_B v5.1 rfl rfl rfl rfl rfl) g_nil) rfl ?_
      refine .seg tabOk 2 7 [3, 4, 7, 8, 9, 10] [240, 241, 592, 593] (t := [(3, (.sref (240, 6) 0 v3.1.length 7)), (4, (.sref (241, 6) 0 v3.2.1.length 1)), (7, (vI v5.2)), (8, (.sref (592, 14) 0 v6.1.length 7)), (9, (.sref (593, 14) 0 v6.2.1.length 1)), (10, (vI v6.2.2))]) (h := [(240, ⟨6, .froz, true, flat E_SiiiA4ie v3.1⟩), (241, ⟨6, .froz, true, flat E_B v3.2.1⟩), (592, ⟨14, .live, true, flat E_SiiiA4ie v6.1⟩), (593, ⟨14, .live, true, flat E_B v6.2.1⟩)]) (ep := 15) (by kernel_rfl) ?_
      refine .fin rfl ?_
      refine sqN ?_
      refine .seq ?_
      refine .rgI rfl ?_
      refine .seg tabOk 0 3 [3, 4, 8, 9, 10, 43] [240, 241, 592, 593] (t := [(3, (.sref (240, 6) 0 v3.1.length 7)), (4, (.sref (241, 6) 0 v3.2.1.length 1)), (8, (.sref (592, 14) 0 v6.1.length 7)), (9, (.sref (593, 14) 0 v6.2.1.length 1)), (10, (vI v6.2.2)), (43, (.val (.bool (decide (v5.2 = 0)))))]) (h := [(240, ⟨6, .froz, true, flat E_SiiiA4ie v3.1⟩), (241, ⟨6, .froz, true, flat E_B v3.2.1⟩), (592, ⟨14, .live, true, flat E_SiiiA4ie v6.1⟩), (593, ⟨14, .live, true, flat E_B v6.2.1⟩)]) (ep := 17) (by kernel_rfl) ?_
      cases hB7 : (decide (v5.2 = 0)) with
      | false =>
        have h := iF h hB7
        refine .seg tabOk 3 24 [2] [] (t := [(2, (.val (.bool false)))]) (h := []) (ep := 18) (by kernel_rfl) ?_
        refine .fin rfl ?_
        refine sqN ?_
        refine .ret ?_
        injection h with h
        subst h
        exact ⟨.inr rfl, _, _, rfl, List.nodup_nil, rfl, rfl⟩
      | true =>
        have h := iT h hB7
        refine .seg tabOk 3 4 [3, 4, 8, 9, 47] [240, 241, 592, 593] (t := [(3, (.sref (240, 6) 0 v3.1.length 7)), (4, (.sref (241, 6) 0 v3.2.1.length 1)), (8, (.sref (592, 14) 0 v6.1.length 7)), (9, (.sref (593, 14) 0 v6.2.1.length 1)), (47, (.val (.bool (decide (v6.2.2 = 0)))))]) (h := [(240, ⟨6, .froz, true, flat E_SiiiA4ie v3.1⟩), (241, ⟨6, .froz, true, flat E_B v3.2.1⟩), (592, ⟨14, .live, true, flat E_SiiiA4ie v6.1⟩), (593, ⟨14, .live, true, flat E_B v6.2.1⟩)]) (ep := 18) (by kernel_rfl) ?_
        cases hB8 : (decide (v6.2.2 = 0)) with
        | false =>
          have h := iF h hB8
          refine .seg tabOk 7 20 [2] [] (t := [(2, (.val (.bool false)))]) (h := []) (ep := 19) (by kernel_rfl) ?_
          refine .fin rfl ?_
          refine sqN ?_
          refine .ret ?_
          injection h with h
          subst h
          exact ⟨.inr rfl, _, _, rfl, List.nodup_nil, rfl, rfl⟩
        | true =>
          have h := iT h hB8
          refine .seg tabOk 7 5 [3, 4, 8, 9, 52] [240, 241, 592, 593] (t := [(3, (.sref (240, 6) 0 v3.1.length 7)), (4, (.sref (241, 6) 0 v3.2.1.length 1)), (8, (.sref (592, 14) 0 v6.1.length 7)), (9, (.sref (593, 14) 0 v6.2.1.length 1)), (52, (.val (.bool (decide (1 ≤ (v3.1.length : Int))))))]) (h := [(240, ⟨6, .froz, true, flat E_SiiiA4ie v3.1⟩), (241, ⟨6, .froz, true, flat E_B v3.2.1⟩), (592, ⟨14, .live, true, flat E_SiiiA4ie v6.1⟩), (593, ⟨14, .live, true, flat E_B v6.2.1⟩)]) (ep := 19) (by kernel_rfl) ?_
          cases hB9 : (decide (1 ≤ (v3.1.length : Int))) with
          | false =>
            have h := iF h hB9
            refine .seg tabOk 12 15 [2] [] (t := [(2, (.val (.bool false)))]) (h := []) (ep := 20) (by kernel_rfl) ?_
            refine .fin rfl ?_
            refine sqN ?_
            refine .ret ?_
            injection h with h
            subst h
            exact ⟨.inr rfl, _, _, rfl, List.nodup_nil, rfl, rfl⟩
          | true =>
            have h := iT h hB9
            refine .seg tabOk 12 5 [3, 4, 8, 9, 57] [240, 241, 592, 593] (t := [(3, (.sref (240, 6) 0 v3.1.length 7)), (4, (.sref (241, 6) 0 v3.2.1.length 1)), (8, (.sref (592, 14) 0 v6.1.length 7)), (9, (.sref (593, 14) 0 v6.2.1.length 1)), (57, (.val (.bool (decide ((v3.1.length : Int) ≤ 64)))))]) (h := [(240, ⟨6, .froz, true, flat E_SiiiA4ie v3.1⟩), (241, ⟨6, .froz, true, flat E_B v3.2.1⟩), (592, ⟨14, .live, true, flat E_SiiiA4ie v6.1⟩), (593, ⟨14, .live, true, flat E_B v6.2.1⟩)]) (ep := 20) (by kernel_rfl) ?_
            cases hB10 : (decide ((v3.1.length : Int) ≤ 64)) with
            | false =>
              have h := iF h hB10
              refine .seg tabOk 17 10 [2] [] (t := [(2, (.val (.bool false)))]) (h := []) (ep := 21) (by kernel_rfl) ?_
              refine .fin rfl ?_
              refine sqN ?_
              refine .ret ?_
              injection h with h
              subst h
              exact ⟨.inr rfl, _, _, rfl, List.nodup_nil, rfl, rfl⟩
            | true =>
              have h := iT h hB10
              refine .seg tabOk 17 2 [4, 9, 57, 58, 59] [240, 241, 592, 593] (t := [(4, (.sref (241, 6) 0 v3.2.1.length 1)), (9, (.sref (593, 14) 0 v6.2.1.length 1)), (57, (.val (.bool true))), (58, (.sref (592, 14) 0 v6.1.length 7)), (59, (.sref (240, 6) 0 v3.1.length 7))]) (h := [(240, ⟨6, .froz, true, flat E_SiiiA4ie v3.1⟩), (241, ⟨6, .froz, true, flat E_B v3.2.1⟩), (592, ⟨14, .live, true, flat E_SiiiA4ie v6.1⟩), (593, ⟨14, .live, true, flat E_B v6.2.1⟩)]) (ep := 21) (by kernel_rfl) ?_
              obtain ⟨v11, hv11, h⟩ := bS h
              refine .cc false rfl rfl (C_r08_Same _ _ _ _ hv11) ent_r08_Same rfl rfl rfl rfl (g_cons (g_row E_SiiiA4ie v6.1 rfl rfl rfl rfl rfl) (g_cons (g_rowF E_SiiiA4ie v3.1 rfl rfl rfl rfl rfl) g_nil)) rfl ?_
              refine .seg tabOk 20 2 [4, 9, 62] [241, 593] (t := [(4, (.sref (241, 6) 0 v3.2.1.length 1)), (9, (.sref (593, 14) 0 v6.2.1.length 1)), (62, (.val (.bool v11)))]) (h := [(241, ⟨6, .froz, true, flat E_B v3.2.1⟩), (593, ⟨14, .live, true, flat E_B v6.2.1⟩)]) (ep := 22) (by kernel_rfl) ?_
              cases hB12 : v11 with
              | false =>
                have h := iF h hB12
                refine .seg tabOk 22 5 [2] [] (t := [(2, (.val (.bool false)))]) (h := []) (ep := 23) (by kernel_rfl) ?_
                refine .fin rfl ?_
                refine sqN ?_
                refine .ret ?_
                injection h with h
                subst h
                exact ⟨.inr rfl, _, _, rfl, List.nodup_nil, rfl, rfl⟩
              | true =>
                have h := iT h hB12
                refine .seg tabOk 22 2 [62, 63, 64] [241, 593] (t := [(62, (.val (.bool true))), (63, (.sref (593, 14) 0 v6.2.1.length 1)), (64, (.sref (241, 6) 0 v3.2.1.length 1))]) (h := [(241, ⟨6, .froz, true, flat E_B v3.2.1⟩), (593, ⟨14, .live, true, flat E_B v6.2.1⟩)]) (ep := 23) (by kernel_rfl) ?_
                obtain ⟨v13, hv13, h⟩ := bS h
                refine .cc false rfl rfl (C_r02_Same _ _ _ _ hv13) ent_r02_Same rfl rfl rfl rfl (g_cons (g_row E_B v6.2.1 rfl rfl rfl rfl rfl) (g_cons (g_rowF E_B v3.2.1 rfl rfl rfl rfl rfl) g_nil)) rfl ?_
                refine .seg tabOk 25 2 [2] [] (t := [(2, (.val (.bool v13)))]) (h := []) (ep := 24) (by kernel_rfl) ?_
                refine .fin rfl ?_
                refine sqN ?_
                refine .ret ?_
                injection h with h
                subst h
                exact ⟨.inr rfl, _, _, rfl, List.nodup_nil, rfl, rfl⟩
end Go.Proofs.Ytgkekjfbacncoaa
