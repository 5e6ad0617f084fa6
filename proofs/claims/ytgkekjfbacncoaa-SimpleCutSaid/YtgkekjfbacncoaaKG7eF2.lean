/- Printed by a program: shallow functions of the Go functions, and the proofs that the Go functions come to their answers. -/
import Derived.Test.YtgkekjfbacncoaaKG7eF1
set_option linter.unusedVariables false
open Go Go.Ab
namespace Go.Proofs.Ytgkekjfbacncoaa
abbrev R_simple_Write := (List Int) × Int
def L_simple_Write_2 (a0 : T_SLLSiibeLBe) (y13 : Int) (y18 : Int) (y19 : Int) (y24 : Int) (j28 : Unit → Option R_simple_Write) : Nat → Int → Option R_simple_Write
  | 0, _ => none
  | n + 1, y29 =>
    if (decide (y29 < 4)) then
      gd (0 ≤ y29 ∧ y29 < 4) <|
      if (!decide ((nth E_i ([(nth E_Siibe (nth E_LSiibe a0.f0 y13) y24).f0, (nth E_Siibe (nth E_LSiibe a0.f0 y13) y24).f1, (w64 ((nth E_Siibe (nth E_LSiibe a0.f0 y13) y24).f0 - y18)), (w64 ((nth E_Siibe (nth E_LSiibe a0.f0 y13) y24).f1 - y19))] : List Int) y29) = (w64 ((IntKind.wrap .i16 ((nth E_i ([(nth E_Siibe (nth E_LSiibe a0.f0 y13) y24).f0, (nth E_Siibe (nth E_LSiibe a0.f0 y13) y24).f1, (w64 ((nth E_Siibe (nth E_LSiibe a0.f0 y13) y24).f0 - y18)), (w64 ((nth E_Siibe (nth E_LSiibe a0.f0 y13) y24).f1 - y19))] : List Int) y29))))))) then
        some (([] : List Int), 6)
      else
      L_simple_Write_2 a0 y13 y18 y19 y24 j28 n (w64 (y29 + 1))
    else
    j28 ()
def L_simple_Write_1 (a0 : T_SLLSiibeLBe) (y13 : Int) (j17 : Int → Int → Bool → (List Int) → (List Int) → (List Int) → Option R_simple_Write) : Nat → Int → Int → Bool → (List Int) → (List Int) → (List Int) → Int → Option R_simple_Write
  | 0, _, _, _, _, _, _, _ => none
  | n + 1, y18, y19, y20, y21, y22, y23, y24 =>
    if (decide (y24 < ((nth E_LSiibe a0.f0 y13).length : Int))) then
      lj (fun (x39 : (List Int)) (x40 : (List Int)) (x41 : (List Int)) =>
        L_simple_Write_1 a0 y13 j17 n (nth E_Siibe (nth E_LSiibe a0.f0 y13) y24).f0 (nth E_Siibe (nth E_LSiibe a0.f0 y13) y24).f1 (nth E_Siibe (nth E_LSiibe a0.f0 y13) y24).f2 x40 x41 x39 (w64 (y24 + 1))) fun j26 =>
      gd (0 ≤ y24 ∧ y24 < (nth E_LSiibe a0.f0 y13).length) <|
      lj (fun (_ : Unit) =>
        Option.bind (F_simple_pack n (w64 ((nth E_Siibe (nth E_LSiibe a0.f0 y13) y24).f0 - y18)) 2 16) fun v33 =>
        Option.bind (F_simple_pack n (w64 ((nth E_Siibe (nth E_LSiibe a0.f0 y13) y24).f1 - y19)) 4 32) fun v34 =>
        gd (fits (y23.length + ([(bits .or .u8 (if (nth E_Siibe (nth E_LSiibe a0.f0 y13) y24).f2 then (bits .or .u8 v33.1 1) else v33.1) v34.1)] : List Int).length) 1 = true) <|
        gd (fits (y21.length + v33.2.length) 1 = true) <|
        gd (fits (y22.length + v34.2.length) 1 = true) <|
        j26 (y23 ++ ([(bits .or .u8 (if (nth E_Siibe (nth E_LSiibe a0.f0 y13) y24).f2 then (bits .or .u8 v33.1 1) else v33.1) v34.1)] : List Int)) (y21 ++ v33.2) (y22 ++ v34.2)) fun j28 =>
      L_simple_Write_2 a0 y13 y18 y19 y24 j28 n 0
    else
    j17 y18 y19 y20 y21 y22 y23
def L_simple_Write_0 (a0 : T_SLLSiibeLBe) (j5 : (List Int) → (List Int) → (List Int) → (List Int) → Option R_simple_Write) : Nat → Int → Int → Bool → (List Int) → (List Int) → (List Int) → (List Int) → Int → Option R_simple_Write
  | 0, _, _, _, _, _, _, _, _ => none
  | n + 1, y6, y7, y8, y9, y10, y11, y12, y13 =>
    if (decide (y13 < (a0.f0.length : Int))) then
      lj (fun (x50 : Int) (x51 : Int) (x52 : Bool) (x53 : (List Int)) (x54 : (List Int)) (x55 : (List Int)) (x56 : (List Int)) =>
        L_simple_Write_0 a0 j5 n x50 x51 x52 x53 x54 x55 x56 (w64 (y13 + 1))) fun j15 =>
      gd (0 ≤ y13 ∧ y13 < a0.f0.length) <|
      lj (fun (x42 : Int) (x43 : Int) (x44 : Bool) (x45 : (List Int)) (x46 : (List Int)) (x47 : (List Int)) =>
        Option.bind (F_be_Put n (w64 ((x47.length : Int) - 1)) 2) fun v48 =>
        gd (fits (y11.length + v48.length) 1 = true) <|
        j15 x42 x43 x44 x45 x46 (y11 ++ v48) x47) fun j17 =>
      L_simple_Write_1 a0 y13 j17 n y6 y7 y8 y9 y10 y12 0
    else
    j5 y9 y10 y11 y12
def L_simple_Write_3 (a0 : T_SLLSiibeLBe) (v61 : R_simple_Box) (j62 : (List Int) → Option R_simple_Write) : Nat → (List Int) → Int → Option R_simple_Write
  | 0, _, _ => none
  | n + 1, y63, y64 =>
    if (decide (y64 < (([(a0.f0.length : Int), v61.1.f0, v61.1.f1, v61.2.f0, v61.2.f1] : List Int).length : Int))) then
      gd (0 ≤ y64 ∧ y64 < ([(a0.f0.length : Int), v61.1.f0, v61.1.f1, v61.2.f0, v61.2.f1] : List Int).length) <|
      Option.bind (F_be_Put n (nth E_i ([(a0.f0.length : Int), v61.1.f0, v61.1.f1, v61.2.f0, v61.2.f1] : List Int) y64) 2) fun v67 =>
      gd (fits (y63.length + v67.length) 1 = true) <|
      L_simple_Write_3 a0 v61 j62 n (y63 ++ v67) (w64 (y64 + 1))
    else
    j62 y63
def F_simple_Write (n : Nat) (a0 : T_SLLSiibeLBe) : Option R_simple_Write :=
  if (decide ((a0.f0.length : Int) = 0)) then
    if (decide (0 < (a0.f1.length : Int))) then
      some (([] : List Int), 4)
    else
    some (([] : List Int), 0)
  else
  Option.bind (F_simple_ask n a0) fun v3 =>
  if (!decide (v3 = 0)) then
    some (([] : List Int), v3)
  else
  lj (fun (x57 : (List Int)) (x58 : (List Int)) (x59 : (List Int)) (x60 : (List Int)) =>
    Option.bind (F_simple_Box n a0.f0) fun v61 =>
    lj (fun (x69 : (List Int)) =>
      gd (fits (x69.length + x59.length) 1 = true) <|
      Option.bind (F_be_Put n (a0.f1.length : Int) 2) fun v71 =>
      gd (fits ((x69 ++ x59).length + v71.length) 1 = true) <|
      gd (fits (((x69 ++ x59) ++ v71).length + a0.f1.length) 1 = true) <|
      Option.bind (F_simple_packed n x60) fun v74 =>
      gd (fits ((((x69 ++ x59) ++ v71) ++ a0.f1).length + v74.length) 1 = true) <|
      gd (fits (((((x69 ++ x59) ++ v71) ++ a0.f1) ++ v74).length + x57.length) 1 = true) <|
      gd (fits ((((((x69 ++ x59) ++ v71) ++ a0.f1) ++ v74) ++ x57).length + x58.length) 1 = true) <|
      some (((((((x69 ++ x59) ++ v71) ++ a0.f1) ++ v74) ++ x57) ++ x58), 0)) fun j62 =>
    L_simple_Write_3 a0 v61 j62 n ([] : List Int) 0) fun j5 =>
  L_simple_Write_0 a0 j5 n 0 0 false ([] : List Int) ([] : List Int) ([] : List Int) ([] : List Int) 0
abbrev q28_0 (a0 : T_SLLSiibeLBe) : Nat × Ob := (16, ⟨1, .live, false, [(.ro 1 a0.f0.length (flat E_LSiibe a0.f0)), (.ro 1 a0.f1.length (flat E_B a0.f1))]⟩)
abbrev q28_1 (a0 : T_SLLSiibeLBe) : Nat × V := (39, (.ro 1 a0.f0.length (flat E_LSiibe a0.f0)))
abbrev q28_2 (a0 : T_SLLSiibeLBe) : Nat × V := (40, (vI (a0.f0.length : Int)))
abbrev q28_3 (a0 : T_SLLSiibeLBe) (v61 : R_simple_Box) : Nat × V := (135, (.sref (2160, 25) 0 ([(a0.f0.length : Int), v61.1.f0, v61.1.f1, v61.2.f0, v61.2.f1] : List Int).length 1))
abbrev q28_4 (x58 : (List Int)) : Nat × Ob := (127, ⟨18, .live, true, flat E_B x58⟩)
abbrev q28_5 (a0 : T_SLLSiibeLBe) (v61 : R_simple_Box) : Nat × Ob := (2160, ⟨25, .live, true, flat E_i ([(a0.f0.length : Int), v61.1.f0, v61.1.f1, v61.2.f0, v61.2.f1] : List Int)⟩)
abbrev q28_6 (x58 : (List Int)) : Nat × V := (7, (.sref (127, 18) 0 x58.length 1))
abbrev q28_7 (x57 : (List Int)) : Nat × Ob := (111, ⟨18, .live, true, flat E_B x57⟩)
abbrev q28_8 (a0 : T_SLLSiibeLBe) (v61 : R_simple_Box) : Nat × V := (136, (vI (([(a0.f0.length : Int), v61.1.f0, v61.1.f1, v61.2.f0, v61.2.f1] : List Int).length : Int)))
abbrev q28_9 (x57 : (List Int)) : Nat × V := (6, (.sref (111, 18) 0 x57.length 1))
abbrev q28_10 (x60 : (List Int)) : Nat × Ob := (95, ⟨18, .live, true, flat E_B x60⟩)
abbrev q28_11 (x60 : (List Int)) : Nat × V := (5, (.sref (95, 18) 0 x60.length 1))
abbrev q28_12 (x59 : (List Int)) : Nat × Ob := (143, ⟨18, .live, true, flat E_B x59⟩)
abbrev q28_13 (x59 : (List Int)) : Nat × V := (8, (.sref (143, 18) 0 x59.length 1))
abbrev q28_14 (v33 : R_simple_pack) : Nat × Ob := (1296, ⟨35, .live, true, flat E_B v33.2⟩)
abbrev q28_15 (v34 : R_simple_pack) : Nat × Ob := (1440, ⟨38, .live, true, flat E_B v34.2⟩)
abbrev q28_16 (v33 : R_simple_pack) : Nat × V := (17, (.sref (1296, 35) 0 v33.2.length 1))
abbrev q28_17 (v34 : R_simple_pack) : Nat × V := (19, (.sref (1440, 38) 0 v34.2.length 1))
abbrev q28_18 : Nat × Ob := (144, ⟨12, .live, false, [(vI 0), (vI 0), (.val (.bool false))]⟩)
theorem C_simple_Write (n : Nat) (a0 : T_SLLSiibeLBe) (r : R_simple_Write) (h : F_simple_Write n a0 = some r) : CallS Try.prog 28 [(.agg [(.ro 1 a0.f0.length (flat E_LSiibe a0.f0)), (.ro 1 a0.f1.length (flat E_B a0.f1))])] (.tup [(.own 1 r.1.length (flat E_B r.1)), (vI r.2)]) [none] := by
  refine CallS.introK tabOk Try.func28 rfl Try.ntmps28 (Nat.le_of_ble_eq_true rfl) ?_
  rw [F_simple_Write] at h
  refine .seq ?_
  refine .rgI rfl ?_
  refine .seg tabOk 0 3 [1] [16] (t := [(1, (.ptr (16, 1) 0))]) (h := [(q28_0 a0)]) (ep := 2) (by kernel_rfl) ?_
  refine .fin rfl ?_
  refine sqN ?_
  refine .seq ?_
  refine .seq ?_
  refine .rgI rfl ?_
  refine .seg tabOk 0 4 [1, 28] [16] (t := [(1, (.ptr (16, 1) 0)), (28, (.val (.bool (decide ((a0.f0.length : Int) = 0)))))]) (h := [(q28_0 a0)]) (ep := 4) (by kernel_rfl) ?_
  refine .fin rfl ?_
  refine sqN ?_
  refine .cond (decide ((a0.f0.length : Int) = 0)) rfl (fun hc1 => ?_) (fun hc1 => ?_)
  · have h := iT h hc1
    refine .seq ?_
    refine .seq ?_
    refine .rgI rfl ?_
    refine .seg tabOk 0 4 [32] [] (t := [(32, (.val (.bool (decide (0 < (a0.f1.length : Int))))))]) (h := []) (ep := 6) (by kernel_rfl) ?_
    refine .fin rfl ?_
    refine sqN ?_
    refine .cond (decide (0 < (a0.f1.length : Int))) rfl (fun hc2 => ?_) (fun hc2 => ?_)
    · have h := iT h hc2
      refine .seq ?_
      refine .rgI rfl ?_
      refine .seg tabOk 0 2 [2, 3] [] (t := [(2, .nils), (3, (vI 4))]) (h := []) (ep := 8) (by kernel_rfl) ?_
      refine .fin rfl ?_
      refine sqN ?_
      refine .pre (.nilRow 2 1 47 rfl (fresh_none rfl)) ?_
      refine .ret ?_
      refine sqR ?_
      refine sqR ?_
      injection h with h
      subst h
      exact ⟨.inr rfl, _, _, (f_cons (f_tmp rfl (o1_row E_B ([] : List Int) rfl rfl rfl rfl rfl)) (f_cons rfl f_nil)), nd_of rfl, rfl, rfl⟩
    · have h := iF h hc2
      refine .skip ?_
      refine sqN ?_
      refine .seq ?_
      refine .rgI rfl ?_
      refine .seg tabOk 0 2 [2, 3] [] (t := [(2, .nils), (3, (vI 0))]) (h := []) (ep := 8) (by kernel_rfl) ?_
      refine .fin rfl ?_
      refine sqN ?_
      refine .pre (.nilRow 2 1 47 rfl (fresh_none rfl)) ?_
      refine .ret ?_
      refine sqR ?_
      injection h with h
      subst h
      exact ⟨.inr rfl, _, _, (f_cons (f_tmp rfl (o1_row E_B ([] : List Int) rfl rfl rfl rfl rfl)) (f_cons rfl f_nil)), nd_of rfl, rfl, rfl⟩
  · have h := iF h hc1
    refine .skip ?_
    refine sqN ?_
    refine .seq ?_
    refine .seq ?_
    refine .rgI rfl ?_
    refine .seg tabOk 0 1 [1, 33] [16] (t := [(1, (.ptr (16, 1) 0)), (33, (.agg [(.ro 1 a0.f0.length (flat E_LSiibe a0.f0)), (.ro 1 a0.f1.length (flat E_B a0.f1))]))]) (h := [(q28_0 a0)]) (ep := 6) (by kernel_rfl) ?_
    obtain ⟨v3, hv3, h⟩ := bS h
    refine .cc true rfl rfl (C_simple_ask _ _ _ hv3) ent_simple_ask rfl rfl rfl rfl (g_cons (g_pl rfl rfl) g_nil) rfl ?_
    refine .seg tabOk 2 1 [1, 4] [16] (t := [(1, (.ptr (16, 1) 0)), (4, (vI v3))]) (h := [(q28_0 a0)]) (ep := 7) (by kernel_rfl) ?_
    refine .fin rfl ?_
    refine sqN ?_
    refine .seq ?_
    refine .rgI rfl ?_
    refine .seg tabOk 0 2 [1, 4, 36] [16] (t := [(1, (.ptr (16, 1) 0)), (4, (vI v3)), (36, (.val (.bool (!decide (v3 = 0)))))]) (h := [(q28_0 a0)]) (ep := 9) (by kernel_rfl) ?_
    refine .fin rfl ?_
    refine sqN ?_
    refine .cond (!decide (v3 = 0)) rfl (fun hc4 => ?_) (fun hc4 => ?_)
    · have h := iT h hc4
      refine .seq ?_
      refine .rgI rfl ?_
      refine .seg tabOk 0 3 [2, 3] [] (t := [(2, .nils), (3, (vI v3))]) (h := []) (ep := 11) (by kernel_rfl) ?_
      refine .fin rfl ?_
      refine sqN ?_
      refine .pre (.nilRow 2 1 47 rfl (fresh_none rfl)) ?_
      refine .ret ?_
      refine sqR ?_
      injection h with h
      subst h
      exact ⟨.inr rfl, _, _, (f_cons (f_tmp rfl (o1_row E_B ([] : List Int) rfl rfl rfl rfl rfl)) (f_cons rfl f_nil)), nd_of rfl, rfl, rfl⟩
    · have h := iF h hc4
      refine .skip ?_
      refine sqN ?_
      refine .seq ?_
      refine .rgI rfl ?_
      refine .seg tabOk 0 4 [1, 5, 6, 7, 8] [16] (t := [(1, (.ptr (16, 1) 0)), (5, .nils), (6, .nils), (7, .nils), (8, .nils)]) (h := [(q28_0 a0)]) (ep := 11) (by kernel_rfl) ?_
      refine .fin rfl ?_
      refine sqN ?_
      refine .seq ?_
      refine .rgI rfl ?_
      refine .seg tabOk 0 1 [1, 5, 6, 7, 8, 9] [16, 144] (t := [(1, (.ptr (16, 1) 0)), (5, .nils), (6, .nils), (7, .nils), (8, .nils), (9, (.ptr (144, 12) 0))]) (h := [(q28_0 a0), q28_18]) (ep := 13) (by kernel_rfl) ?_
      refine .fin rfl ?_
      refine sqN ?_
      refine .seq ?_
      refine .seq ?_
      refine .rgI rfl ?_
      refine .seg tabOk 0 4 [1, 5, 6, 7, 8, 9, 39, 40, 41] [16, 144] (t := [(1, (.ptr (16, 1) 0)), (5, .nils), (6, .nils), (7, .nils), (8, .nils), (9, (.ptr (144, 12) 0)), (q28_1 a0), (q28_2 a0), (41, (vI 0))]) (h := [(q28_0 a0), q28_18]) (ep := 15) (by kernel_rfl) ?_
      refine .fin rfl ?_
      refine sqN ?_
      obtain ⟨j5, hj5, h⟩ := ljS h
      refine .join (fun s' => ∃ x57 x58 x59 x60, s' = ⟨[(1, (.ptr (16, 1) 0)), (q28_11 x60), (q28_9 x57), (q28_6 x58), (q28_13 x59)], [(q28_0 a0), (q28_10 x60), (q28_7 x57), (q28_4 x58), (q28_12 x59)], 19⟩ ∧ j5 x57 x58 x59 x60 = some r) ?_ ?_
      · refine .block ?_
        refine .loopF (β := Int × Int × Bool × (List Int) × (List Int) × (List Int) × (List Int) × Int) (fun v => ⟨[(1, (.ptr (16, 1) 0)), (5, (.sref (95, 15) 0 v.2.2.2.2.2.2.1.length 1)), (6, (.sref (111, 15) 0 v.2.2.2.1.length 1)), (7, (.sref (127, 15) 0 v.2.2.2.2.1.length 1)), (8, (.sref (143, 15) 0 v.2.2.2.2.2.1.length 1)), (9, (.ptr (144, 12) 0)), (q28_1 a0), (q28_2 a0), (41, (vI v.2.2.2.2.2.2.2))], [(q28_0 a0), (95, ⟨15, .live, true, flat E_B v.2.2.2.2.2.2.1⟩), (111, ⟨15, .live, true, flat E_B v.2.2.2.1⟩), (127, ⟨15, .live, true, flat E_B v.2.2.2.2.1⟩), (143, ⟨15, .live, true, flat E_B v.2.2.2.2.2.1⟩), (144, ⟨12, .live, false, [(vI v.1), (vI v.2.1), (.val (.bool v.2.2.1))]⟩)], 16⟩) (fun m v => L_simple_Write_0 a0 j5 m v.1 v.2.1 v.2.2.1 v.2.2.2.1 v.2.2.2.2.1 v.2.2.2.2.2.1 v.2.2.2.2.2.2.1 v.2.2.2.2.2.2.2 = some r) n (0, 0, false, ([] : List Int), ([] : List Int), ([] : List Int), ([] : List Int), 0) (by exact .trans (.nilRow 5 1 95 rfl (fresh_none rfl)) (.trans (.nilRow 6 1 111 rfl (fresh_none rfl)) (.trans (.nilRow 7 1 127 rfl (fresh_none rfl)) (.trans (.nilRow 8 1 143 rfl (fresh_none rfl)) (.tn [((16, 1), (16, 1)), ((95, 15), (95, 15)), ((111, 15), (111, 15)), ((127, 15), (127, 15)), ((143, 15), (143, 15)), ((144, 12), (144, 12))] ⟨rfl, rfl, rfl, rfl, rfl, rfl, rfl, rfl, rfl, trivial⟩ ⟨rfl, ⟨_, rfl, rfl⟩, ⟨rfl, ⟨_, rfl, ah_row E_B⟩, ⟨rfl, ⟨_, rfl, ah_row E_B⟩, ⟨rfl, ⟨_, rfl, ah_row E_B⟩, ⟨rfl, ⟨_, rfl, ah_row E_B⟩, ⟨rfl, ⟨_, rfl, rfl⟩, trivial⟩⟩⟩⟩⟩⟩ rfl))))) h ?_
        rintro m ⟨y6, y7, y8, y9, y10, y11, y12, y13⟩ h
        cases m with
        | zero => exact nomatch h
        | succ n =>
          rw [L_simple_Write_0] at h
          refine .seq ?_
          refine .rgI rfl ?_
          refine .seg tabOk 0 1 [1, 5, 6, 7, 8, 9, 39, 40, 41, 42] [16, 95, 111, 127, 143, 144] (t := [(1, (.ptr (16, 1) 0)), (5, (.sref (95, 15) 0 y12.length 1)), (6, (.sref (111, 15) 0 y9.length 1)), (7, (.sref (127, 15) 0 y10.length 1)), (8, (.sref (143, 15) 0 y11.length 1)), (9, (.ptr (144, 12) 0)), (q28_1 a0), (q28_2 a0), (41, (vI y13)), (42, (.val (.bool (decide (y13 < (a0.f0.length : Int))))))]) (h := [(q28_0 a0), (95, ⟨15, .live, true, flat E_B y12⟩), (111, ⟨15, .live, true, flat E_B y9⟩), (127, ⟨15, .live, true, flat E_B y10⟩), (143, ⟨15, .live, true, flat E_B y11⟩), (144, ⟨12, .live, false, [(vI y6), (vI y7), (.val (.bool y8))]⟩)]) (ep := 18) (by kernel_rfl) ?_
          refine .fin rfl ?_
          refine sqN ?_
          refine .seq ?_
          refine .cond (decide (y13 < (a0.f0.length : Int))) rfl (fun hc14 => ?_) (fun hc14 => ?_)
          · have h := iT h hc14
            refine .skip ?_
            refine sqN ?_
            refine .seq ?_
            obtain ⟨j15, hj15, h⟩ := ljS h
            refine .join (fun s' => ∃ x50 x51 x52 x53 x54 x55 x56, s' = ⟨[(1, (.ptr (16, 1) 0)), (5, (.sref (95, 15) 0 x56.length 1)), (6, (.sref (111, 15) 0 x53.length 1)), (7, (.sref (127, 15) 0 x54.length 1)), (8, (.sref (1856, 28) 0 x55.length 1)), (9, (.ptr (144, 12) 0)), (q28_1 a0), (q28_2 a0), (41, (vI y13))], [(q28_0 a0), (95, ⟨15, .live, true, flat E_B x56⟩), (111, ⟨15, .live, true, flat E_B x53⟩), (127, ⟨15, .live, true, flat E_B x54⟩), (144, ⟨12, .live, false, [(vI x50), (vI x51), (.val (.bool x52))]⟩), (1856, ⟨28, .live, true, flat E_B x55⟩)], 30⟩ ∧ j15 x50 x51 x52 x53 x54 x55 x56 = some r) ?_ ?_
            · refine .block ?_
              refine .seq ?_
              refine .rgI rfl ?_
              obtain ⟨hb16, h⟩ := gS h
              refine .o tabOk rfl rfl rfl (q_idx E_LSiibe rfl rfl rfl rfl rfl rfl hb16) ?_
              refine .o tabOk rfl rfl rfl (q_ld0 E_LSiibe rfl rfl rfl hb16 rfl) ?_
              refine .seg tabOk 2 1 [1, 5, 6, 7, 8, 9, 11, 39, 40, 41] [16, 95, 111, 127, 143, 144] (t := [(1, (.ptr (16, 1) 0)), (5, (.sref (95, 15) 0 y12.length 1)), (6, (.sref (111, 15) 0 y9.length 1)), (7, (.sref (127, 15) 0 y10.length 1)), (8, (.sref (143, 15) 0 y11.length 1)), (9, (.ptr (144, 12) 0)), (11, (.ro 3 (nth E_LSiibe a0.f0 y13).length (flat E_Siibe (nth E_LSiibe a0.f0 y13)))), (q28_1 a0), (q28_2 a0), (41, (vI y13))]) (h := [(q28_0 a0), (95, ⟨15, .live, true, flat E_B y12⟩), (111, ⟨15, .live, true, flat E_B y9⟩), (127, ⟨15, .live, true, flat E_B y10⟩), (143, ⟨15, .live, true, flat E_B y11⟩), (144, ⟨12, .live, false, [(vI y6), (vI y7), (.val (.bool y8))]⟩)]) (ep := 20) (by kernel_rfl) ?_
              refine .fin rfl ?_
              refine sqN ?_
              refine .seq ?_
              refine .seq ?_
              refine .rgI rfl ?_
              refine .seg tabOk 0 3 [1, 5, 6, 7, 8, 9, 39, 40, 41, 45, 46, 47] [16, 95, 111, 127, 143, 144] (t := [(1, (.ptr (16, 1) 0)), (5, (.sref (95, 15) 0 y12.length 1)), (6, (.sref (111, 15) 0 y9.length 1)), (7, (.sref (127, 15) 0 y10.length 1)), (8, (.sref (143, 15) 0 y11.length 1)), (9, (.ptr (144, 12) 0)), (q28_1 a0), (q28_2 a0), (41, (vI y13)), (45, (.ro 3 (nth E_LSiibe a0.f0 y13).length (flat E_Siibe (nth E_LSiibe a0.f0 y13)))), (46, (vI ((nth E_LSiibe a0.f0 y13).length : Int))), (47, (vI 0))]) (h := [(q28_0 a0), (95, ⟨15, .live, true, flat E_B y12⟩), (111, ⟨15, .live, true, flat E_B y9⟩), (127, ⟨15, .live, true, flat E_B y10⟩), (143, ⟨15, .live, true, flat E_B y11⟩), (144, ⟨12, .live, false, [(vI y6), (vI y7), (.val (.bool y8))]⟩)]) (ep := 22) (by kernel_rfl) ?_
              refine .fin rfl ?_
              refine sqN ?_
              obtain ⟨j17, hj17, h⟩ := ljS h
              refine .join (fun s' => ∃ x42 x43 x44 x45 x46 x47, s' = ⟨[(1, (.ptr (16, 1) 0)), (5, (.sref (95, 15) 0 x47.length 1)), (6, (.sref (111, 15) 0 x45.length 1)), (7, (.sref (127, 15) 0 x46.length 1)), (8, (.sref (143, 15) 0 y11.length 1)), (9, (.ptr (144, 12) 0)), (q28_1 a0), (q28_2 a0), (41, (vI y13))], [(q28_0 a0), (95, ⟨15, .live, true, flat E_B x47⟩), (111, ⟨15, .live, true, flat E_B x45⟩), (127, ⟨15, .live, true, flat E_B x46⟩), (143, ⟨15, .live, true, flat E_B y11⟩), (144, ⟨12, .live, false, [(vI x42), (vI x43), (.val (.bool x44))]⟩)], 26⟩ ∧ j17 x42 x43 x44 x45 x46 x47 = some r) ?_ ?_
              · refine .block ?_
                refine .loopF (β := Int × Int × Bool × (List Int) × (List Int) × (List Int) × Int) (fun v => ⟨[(1, (.ptr (16, 1) 0)), (5, (.sref (95, 15) 0 v.2.2.2.2.2.1.length 1)), (6, (.sref (111, 15) 0 v.2.2.2.1.length 1)), (7, (.sref (127, 15) 0 v.2.2.2.2.1.length 1)), (8, (.sref (143, 15) 0 y11.length 1)), (9, (.ptr (144, 12) 0)), (q28_1 a0), (q28_2 a0), (41, (vI y13)), (45, (.ro 3 (nth E_LSiibe a0.f0 y13).length (flat E_Siibe (nth E_LSiibe a0.f0 y13)))), (46, (vI ((nth E_LSiibe a0.f0 y13).length : Int))), (47, (vI v.2.2.2.2.2.2))], [(q28_0 a0), (95, ⟨15, .live, true, flat E_B v.2.2.2.2.2.1⟩), (111, ⟨15, .live, true, flat E_B v.2.2.2.1⟩), (127, ⟨15, .live, true, flat E_B v.2.2.2.2.1⟩), (143, ⟨15, .live, true, flat E_B y11⟩), (144, ⟨12, .live, false, [(vI v.1), (vI v.2.1), (.val (.bool v.2.2.1))]⟩)], 23⟩) (fun m v => L_simple_Write_1 a0 y13 j17 m v.1 v.2.1 v.2.2.1 v.2.2.2.1 v.2.2.2.2.1 v.2.2.2.2.2.1 v.2.2.2.2.2.2 = some r) n (y6, y7, y8, y9, y10, y12, 0) (by exact .tn [((16, 1), (16, 1)), ((95, 15), (95, 15)), ((111, 15), (111, 15)), ((127, 15), (127, 15)), ((143, 15), (143, 15)), ((144, 12), (144, 12))] ⟨rfl, rfl, rfl, rfl, rfl, rfl, rfl, rfl, rfl, rfl, rfl, rfl, trivial⟩ ⟨rfl, ⟨_, rfl, rfl⟩, ⟨rfl, ⟨_, rfl, ah_row E_B⟩, ⟨rfl, ⟨_, rfl, ah_row E_B⟩, ⟨rfl, ⟨_, rfl, ah_row E_B⟩, ⟨rfl, ⟨_, rfl, ah_row E_B⟩, ⟨rfl, ⟨_, rfl, rfl⟩, trivial⟩⟩⟩⟩⟩⟩ rfl) h ?_
                rintro m ⟨y18, y19, y20, y21, y22, y23, y24⟩ h
                cases m with
                | zero => exact nomatch h
                | succ n =>
                  rw [L_simple_Write_1] at h
                  refine .seq ?_
                  refine .rgI rfl ?_
                  refine .seg tabOk 0 1 [1, 5, 6, 7, 8, 9, 39, 40, 41, 45, 46, 47, 48] [16, 95, 111, 127, 143, 144] (t := [(1, (.ptr (16, 1) 0)), (5, (.sref (95, 15) 0 y23.length 1)), (6, (.sref (111, 15) 0 y21.length 1)), (7, (.sref (127, 15) 0 y22.length 1)), (8, (.sref (143, 15) 0 y11.length 1)), (9, (.ptr (144, 12) 0)), (q28_1 a0), (q28_2 a0), (41, (vI y13)), (45, (.ro 3 (nth E_LSiibe a0.f0 y13).length (flat E_Siibe (nth E_LSiibe a0.f0 y13)))), (46, (vI ((nth E_LSiibe a0.f0 y13).length : Int))), (47, (vI y24)), (48, (.val (.bool (decide (y24 < ((nth E_LSiibe a0.f0 y13).length : Int))))))]) (h := [(q28_0 a0), (95, ⟨15, .live, true, flat E_B y23⟩), (111, ⟨15, .live, true, flat E_B y21⟩), (127, ⟨15, .live, true, flat E_B y22⟩), (143, ⟨15, .live, true, flat E_B y11⟩), (144, ⟨12, .live, false, [(vI y18), (vI y19), (.val (.bool y20))]⟩)]) (ep := 25) (by kernel_rfl) ?_
                  refine .fin rfl ?_
                  refine sqN ?_
                  refine .seq ?_
                  refine .cond (decide (y24 < ((nth E_LSiibe a0.f0 y13).length : Int))) rfl (fun hc25 => ?_) (fun hc25 => ?_)
                  · have h := iT h hc25
                    refine .skip ?_
                    refine sqN ?_
                    refine .seq ?_
                    obtain ⟨j26, hj26, h⟩ := ljS h
                    refine .join (fun s' => ∃ x39 x40 x41, s' = ⟨[(1, (.ptr (16, 1) 0)), (5, (.sref (1632, 45) 0 x39.length 1)), (6, (.sref (1680, 45) 0 x40.length 1)), (7, (.sref (1728, 45) 0 x41.length 1)), (8, (.sref (143, 15) 0 y11.length 1)), (9, (.ptr (144, 12) 0)), (q28_1 a0), (q28_2 a0), (41, (vI y13)), (45, (.ro 3 (nth E_LSiibe a0.f0 y13).length (flat E_Siibe (nth E_LSiibe a0.f0 y13)))), (46, (vI ((nth E_LSiibe a0.f0 y13).length : Int))), (47, (vI y24))], [(q28_0 a0), (143, ⟨15, .live, true, flat E_B y11⟩), (144, ⟨12, .live, false, [(vI (nth E_Siibe (nth E_LSiibe a0.f0 y13) y24).f0), (vI (nth E_Siibe (nth E_LSiibe a0.f0 y13) y24).f1), (.val (.bool (nth E_Siibe (nth E_LSiibe a0.f0 y13) y24).f2))]⟩), (1632, ⟨45, .live, true, flat E_B x39⟩), (1680, ⟨45, .live, true, flat E_B x40⟩), (1728, ⟨45, .live, true, flat E_B x41⟩)], 47⟩ ∧ j26 x39 x40 x41 = some r) ?_ ?_
                    · refine .block ?_
                      refine .seq ?_
                      refine .rgI rfl ?_
                      obtain ⟨hb27, h⟩ := gS h
                      refine .o tabOk rfl rfl rfl (q_idx E_Siibe rfl rfl rfl rfl rfl rfl hb27) ?_
                      refine .o tabOk rfl rfl rfl (q_ld0 E_Siibe rfl rfl rfl hb27 rfl) ?_
                      refine .seg tabOk 2 2 [1, 5, 6, 7, 8, 9, 13, 39, 40, 41, 45, 46, 47] [16, 95, 111, 127, 143, 144, 208] (t := [(1, (.ptr (16, 1) 0)), (5, (.sref (95, 15) 0 y23.length 1)), (6, (.sref (111, 15) 0 y21.length 1)), (7, (.sref (127, 15) 0 y22.length 1)), (8, (.sref (143, 15) 0 y11.length 1)), (9, (.ptr (144, 12) 0)), (13, (.ptr (208, 26) 0)), (q28_1 a0), (q28_2 a0), (41, (vI y13)), (45, (.ro 3 (nth E_LSiibe a0.f0 y13).length (flat E_Siibe (nth E_LSiibe a0.f0 y13)))), (46, (vI ((nth E_LSiibe a0.f0 y13).length : Int))), (47, (vI y24))]) (h := [(q28_0 a0), (95, ⟨15, .live, true, flat E_B y23⟩), (111, ⟨15, .live, true, flat E_B y21⟩), (127, ⟨15, .live, true, flat E_B y22⟩), (143, ⟨15, .live, true, flat E_B y11⟩), (144, ⟨12, .live, false, [(vI y18), (vI y19), (.val (.bool y20))]⟩), (208, ⟨26, .live, false, [(vI (nth E_Siibe (nth E_LSiibe a0.f0 y13) y24).f0), (vI (nth E_Siibe (nth E_LSiibe a0.f0 y13) y24).f1), (.val (.bool (nth E_Siibe (nth E_LSiibe a0.f0 y13) y24).f2))]⟩)]) (ep := 27) (by kernel_rfl) ?_
                      refine .fin rfl ?_
                      refine sqN ?_
                      refine .seq ?_
                      refine .seq ?_
                      refine .rgI rfl ?_
                      refine .seg tabOk 0 16 [1, 5, 6, 7, 8, 9, 13, 39, 40, 41, 45, 46, 47, 65, 66] [16, 95, 111, 127, 143, 144, 208] (t := [(1, (.ptr (16, 1) 0)), (5, (.sref (95, 15) 0 y23.length 1)), (6, (.sref (111, 15) 0 y21.length 1)), (7, (.sref (127, 15) 0 y22.length 1)), (8, (.sref (143, 15) 0 y11.length 1)), (9, (.ptr (144, 12) 0)), (13, (.ptr (208, 26) 0)), (q28_1 a0), (q28_2 a0), (41, (vI y13)), (45, (.ro 3 (nth E_LSiibe a0.f0 y13).length (flat E_Siibe (nth E_LSiibe a0.f0 y13)))), (46, (vI ((nth E_LSiibe a0.f0 y13).length : Int))), (47, (vI y24)), (65, (.agg [(vI (nth E_Siibe (nth E_LSiibe a0.f0 y13) y24).f0), (vI (nth E_Siibe (nth E_LSiibe a0.f0 y13) y24).f1), (vI (w64 ((nth E_Siibe (nth E_LSiibe a0.f0 y13) y24).f0 - y18))), (vI (w64 ((nth E_Siibe (nth E_LSiibe a0.f0 y13) y24).f1 - y19)))])), (66, (vI 0))]) (h := [(q28_0 a0), (95, ⟨15, .live, true, flat E_B y23⟩), (111, ⟨15, .live, true, flat E_B y21⟩), (127, ⟨15, .live, true, flat E_B y22⟩), (143, ⟨15, .live, true, flat E_B y11⟩), (144, ⟨12, .live, false, [(vI y18), (vI y19), (.val (.bool y20))]⟩), (208, ⟨26, .live, false, [(vI (nth E_Siibe (nth E_LSiibe a0.f0 y13) y24).f0), (vI (nth E_Siibe (nth E_LSiibe a0.f0 y13) y24).f1), (.val (.bool (nth E_Siibe (nth E_LSiibe a0.f0 y13) y24).f2))]⟩)]) (ep := 29) (by kernel_rfl) ?_
                      refine .fin rfl ?_
                      refine sqN ?_
                      obtain ⟨j28, hj28, h⟩ := ljS h
                      refine .join (fun s' => s' = ⟨[(1, (.ptr (16, 1) 0)), (5, (.sref (95, 15) 0 y23.length 1)), (6, (.sref (111, 15) 0 y21.length 1)), (7, (.sref (127, 15) 0 y22.length 1)), (8, (.sref (143, 15) 0 y11.length 1)), (9, (.ptr (144, 12) 0)), (13, (.ptr (208, 26) 0)), (q28_1 a0), (q28_2 a0), (41, (vI y13)), (45, (.ro 3 (nth E_LSiibe a0.f0 y13).length (flat E_Siibe (nth E_LSiibe a0.f0 y13)))), (46, (vI ((nth E_LSiibe a0.f0 y13).length : Int))), (47, (vI y24))], [(q28_0 a0), (95, ⟨15, .live, true, flat E_B y23⟩), (111, ⟨15, .live, true, flat E_B y21⟩), (127, ⟨15, .live, true, flat E_B y22⟩), (143, ⟨15, .live, true, flat E_B y11⟩), (144, ⟨12, .live, false, [(vI y18), (vI y19), (.val (.bool y20))]⟩), (208, ⟨26, .live, false, [(vI (nth E_Siibe (nth E_LSiibe a0.f0 y13) y24).f0), (vI (nth E_Siibe (nth E_LSiibe a0.f0 y13) y24).f1), (.val (.bool (nth E_Siibe (nth E_LSiibe a0.f0 y13) y24).f2))]⟩)], 33⟩ ∧ j28 () = some r) ?_ ?_
                      · refine .block ?_
                        refine .loopF (β := Int) (fun v => ⟨[(1, (.ptr (16, 1) 0)), (5, (.sref (95, 15) 0 y23.length 1)), (6, (.sref (111, 15) 0 y21.length 1)), (7, (.sref (127, 15) 0 y22.length 1)), (8, (.sref (143, 15) 0 y11.length 1)), (9, (.ptr (144, 12) 0)), (13, (.ptr (208, 26) 0)), (q28_1 a0), (q28_2 a0), (41, (vI y13)), (45, (.ro 3 (nth E_LSiibe a0.f0 y13).length (flat E_Siibe (nth E_LSiibe a0.f0 y13)))), (46, (vI ((nth E_LSiibe a0.f0 y13).length : Int))), (47, (vI y24)), (65, (.agg [(vI (nth E_Siibe (nth E_LSiibe a0.f0 y13) y24).f0), (vI (nth E_Siibe (nth E_LSiibe a0.f0 y13) y24).f1), (vI (w64 ((nth E_Siibe (nth E_LSiibe a0.f0 y13) y24).f0 - y18))), (vI (w64 ((nth E_Siibe (nth E_LSiibe a0.f0 y13) y24).f1 - y19)))])), (66, (vI v))], [(q28_0 a0), (95, ⟨15, .live, true, flat E_B y23⟩), (111, ⟨15, .live, true, flat E_B y21⟩), (127, ⟨15, .live, true, flat E_B y22⟩), (143, ⟨15, .live, true, flat E_B y11⟩), (144, ⟨12, .live, false, [(vI y18), (vI y19), (.val (.bool y20))]⟩), (208, ⟨26, .live, false, [(vI (nth E_Siibe (nth E_LSiibe a0.f0 y13) y24).f0), (vI (nth E_Siibe (nth E_LSiibe a0.f0 y13) y24).f1), (.val (.bool (nth E_Siibe (nth E_LSiibe a0.f0 y13) y24).f2))]⟩)], 30⟩) (fun m v => L_simple_Write_2 a0 y13 y18 y19 y24 j28 m v = some r) n 0 (by exact .tn [((16, 1), (16, 1)), ((95, 15), (95, 15)), ((111, 15), (111, 15)), ((127, 15), (127, 15)), ((143, 15), (143, 15)), ((144, 12), (144, 12)), ((208, 26), (208, 26))] ⟨rfl, rfl, rfl, rfl, rfl, rfl, rfl, rfl, rfl, rfl, rfl, rfl, rfl, rfl, rfl, trivial⟩ ⟨rfl, ⟨_, rfl, rfl⟩, ⟨rfl, ⟨_, rfl, ah_row E_B⟩, ⟨rfl, ⟨_, rfl, ah_row E_B⟩, ⟨rfl, ⟨_, rfl, ah_row E_B⟩, ⟨rfl, ⟨_, rfl, ah_row E_B⟩, ⟨rfl, ⟨_, rfl, rfl⟩, ⟨rfl, ⟨_, rfl, rfl⟩, trivial⟩⟩⟩⟩⟩⟩⟩ rfl) h ?_
                        rintro m y29 h
                        cases m with
                        | zero => exact nomatch h
                        | succ n =>
                          rw [L_simple_Write_2] at h
                          refine .seq ?_
                          refine .rgI rfl ?_
                          refine .seg tabOk 0 1 [1, 5, 6, 7, 8, 9, 13, 39, 40, 41, 45, 46, 47, 65, 66, 67] [16, 95, 111, 127, 143, 144, 208] (t := [(1, (.ptr (16, 1) 0)), (5, (.sref (95, 15) 0 y23.length 1)), (6, (.sref (111, 15) 0 y21.length 1)), (7, (.sref (127, 15) 0 y22.length 1)), (8, (.sref (143, 15) 0 y11.length 1)), (9, (.ptr (144, 12) 0)), (13, (.ptr (208, 26) 0)), (q28_1 a0), (q28_2 a0), (41, (vI y13)), (45, (.ro 3 (nth E_LSiibe a0.f0 y13).length (flat E_Siibe (nth E_LSiibe a0.f0 y13)))), (46, (vI ((nth E_LSiibe a0.f0 y13).length : Int))), (47, (vI y24)), (65, (.agg [(vI (nth E_Siibe (nth E_LSiibe a0.f0 y13) y24).f0), (vI (nth E_Siibe (nth E_LSiibe a0.f0 y13) y24).f1), (vI (w64 ((nth E_Siibe (nth E_LSiibe a0.f0 y13) y24).f0 - y18))), (vI (w64 ((nth E_Siibe (nth E_LSiibe a0.f0 y13) y24).f1 - y19)))])), (66, (vI y29)), (67, (.val (.bool (decide (y29 < 4)))))]) (h := [(q28_0 a0), (95, ⟨15, .live, true, flat E_B y23⟩), (111, ⟨15, .live, true, flat E_B y21⟩), (127, ⟨15, .live, true, flat E_B y22⟩), (143, ⟨15, .live, true, flat E_B y11⟩), (144, ⟨12, .live, false, [(vI y18), (vI y19), (.val (.bool y20))]⟩), (208, ⟨26, .live, false, [(vI (nth E_Siibe (nth E_LSiibe a0.f0 y13) y24).f0), (vI (nth E_Siibe (nth E_LSiibe a0.f0 y13) y24).f1), (.val (.bool (nth E_Siibe (nth E_LSiibe a0.f0 y13) y24).f2))]⟩)]) (ep := 32) (by kernel_rfl) ?_
                          refine .fin rfl ?_
                          refine sqN ?_
                          refine .seq ?_
                          refine .cond (decide (y29 < 4)) rfl (fun hc30 => ?_) (fun hc30 => ?_)
                          · have h := iT h hc30
                            refine .skip ?_
                            refine sqN ?_
                            refine .seq ?_
                            refine .block ?_
                            refine .seq ?_
                            refine .rgI rfl ?_
                            obtain ⟨hb31, h⟩ := gS h
                            refine .oo tabOk rfl rfl rfl (q_ixA E_i (l := ([(nth E_Siibe (nth E_LSiibe a0.f0 y13) y24).f0, (nth E_Siibe (nth E_LSiibe a0.f0 y13) y24).f1, (w64 ((nth E_Siibe (nth E_LSiibe a0.f0 y13) y24).f0 - y18)), (w64 ((nth E_Siibe (nth E_LSiibe a0.f0 y13) y24).f1 - y19))] : List Int)) rfl rfl rfl rfl rfl rfl rfl hb31 rfl) ?_
                            refine .seg tabOk 1 1 [1, 5, 6, 7, 8, 9, 13, 15, 39, 40, 41, 45, 46, 47, 65, 66] [16, 95, 111, 127, 143, 144, 208] (t := [(1, (.ptr (16, 1) 0)), (5, (.sref (95, 15) 0 y23.length 1)), (6, (.sref (111, 15) 0 y21.length 1)), (7, (.sref (127, 15) 0 y22.length 1)), (8, (.sref (143, 15) 0 y11.length 1)), (9, (.ptr (144, 12) 0)), (13, (.ptr (208, 26) 0)), (15, (vI (nth E_i ([(nth E_Siibe (nth E_LSiibe a0.f0 y13) y24).f0, (nth E_Siibe (nth E_LSiibe a0.f0 y13) y24).f1, (w64 ((nth E_Siibe (nth E_LSiibe a0.f0 y13) y24).f0 - y18)), (w64 ((nth E_Siibe (nth E_LSiibe a0.f0 y13) y24).f1 - y19))] : List Int) y29))), (q28_1 a0), (q28_2 a0), (41, (vI y13)), (45, (.ro 3 (nth E_LSiibe a0.f0 y13).length (flat E_Siibe (nth E_LSiibe a0.f0 y13)))), (46, (vI ((nth E_LSiibe a0.f0 y13).length : Int))), (47, (vI y24)), (65, (.agg [(vI (nth E_Siibe (nth E_LSiibe a0.f0 y13) y24).f0), (vI (nth E_Siibe (nth E_LSiibe a0.f0 y13) y24).f1), (vI (w64 ((nth E_Siibe (nth E_LSiibe a0.f0 y13) y24).f0 - y18))), (vI (w64 ((nth E_Siibe (nth E_LSiibe a0.f0 y13) y24).f1 - y19)))])), (66, (vI y29))]) (h := [(q28_0 a0), (95, ⟨15, .live, true, flat E_B y23⟩), (111, ⟨15, .live, true, flat E_B y21⟩), (127, ⟨15, .live, true, flat E_B y22⟩), (143, ⟨15, .live, true, flat E_B y11⟩), (144, ⟨12, .live, false, [(vI y18), (vI y19), (.val (.bool y20))]⟩), (208, ⟨26, .live, false, [(vI (nth E_Siibe (nth E_LSiibe a0.f0 y13) y24).f0), (vI (nth E_Siibe (nth E_LSiibe a0.f0 y13) y24).f1), (.val (.bool (nth E_Siibe (nth E_LSiibe a0.f0 y13) y24).f2))]⟩)]) (ep := 34) (by kernel_rfl) ?_
                            refine .fin rfl ?_
                            refine sqN ?_
                            refine .seq ?_
                            refine .rgI rfl ?_
                            refine .seg tabOk 0 5 [1, 5, 6, 7, 8, 9, 13, 39, 40, 41, 45, 46, 47, 65, 66, 73] [16, 95, 111, 127, 143, 144, 208] (t := [(1, (.ptr (16, 1) 0)), (5, (.sref (95, 15) 0 y23.length 1)), (6, (.sref (111, 15) 0 y21.length 1)), (7, (.sref (127, 15) 0 y22.length 1)), (8, (.sref (143, 15) 0 y11.length 1)), (9, (.ptr (144, 12) 0)), (13, (.ptr (208, 26) 0)), (q28_1 a0), (q28_2 a0), (41, (vI y13)), (45, (.ro 3 (nth E_LSiibe a0.f0 y13).length (flat E_Siibe (nth E_LSiibe a0.f0 y13)))), (46, (vI ((nth E_LSiibe a0.f0 y13).length : Int))), (47, (vI y24)), (65, (.agg [(vI (nth E_Siibe (nth E_LSiibe a0.f0 y13) y24).f0), (vI (nth E_Siibe (nth E_LSiibe a0.f0 y13) y24).f1), (vI (w64 ((nth E_Siibe (nth E_LSiibe a0.f0 y13) y24).f0 - y18))), (vI (w64 ((nth E_Siibe (nth E_LSiibe a0.f0 y13) y24).f1 - y19)))])), (66, (vI y29)), (73, (.val (.bool (!decide ((nth E_i ([(nth E_Siibe (nth E_LSiibe a0.f0 y13) y24).f0, (nth E_Siibe (nth E_LSiibe a0.f0 y13) y24).f1, (w64 ((nth E_Siibe (nth E_LSiibe a0.f0 y13) y24).f0 - y18)), (w64 ((nth E_Siibe (nth E_LSiibe a0.f0 y13) y24).f1 - y19))] : List Int) y29) = (w64 ((IntKind.wrap .i16 ((nth E_i ([(nth E_Siibe (nth E_LSiibe a0.f0 y13) y24).f0, (nth E_Siibe (nth E_LSiibe a0.f0 y13) y24).f1, (w64 ((nth E_Siibe (nth E_LSiibe a0.f0 y13) y24).f0 - y18)), (w64 ((nth E_Siibe (nth E_LSiibe a0.f0 y13) y24).f1 - y19))] : List Int) y29))))))))))]) (h := [(q28_0 a0), (95, ⟨15, .live, true, flat E_B y23⟩), (111, ⟨15, .live, true, flat E_B y21⟩), (127, ⟨15, .live, true, flat E_B y22⟩), (143, ⟨15, .live, true, flat E_B y11⟩), (144, ⟨12, .live, false, [(vI y18), (vI y19), (.val (.bool y20))]⟩), (208, ⟨26, .live, false, [(vI (nth E_Siibe (nth E_LSiibe a0.f0 y13) y24).f0), (vI (nth E_Siibe (nth E_LSiibe a0.f0 y13) y24).f1), (.val (.bool (nth E_Siibe (nth E_LSiibe a0.f0 y13) y24).f2))]⟩)]) (ep := 36) (by kernel_rfl) ?_
                            refine .fin rfl ?_
                            refine sqN ?_
                            refine .cond (!decide ((nth E_i ([(nth E_Siibe (nth E_LSiibe a0.f0 y13) y24).f0, (nth E_Siibe (nth E_LSiibe a0.f0 y13) y24).f1, (w64 ((nth E_Siibe (nth E_LSiibe a0.f0 y13) y24).f0 - y18)), (w64 ((nth E_Siibe (nth E_LSiibe a0.f0 y13) y24).f1 - y19))] : List Int) y29) = (w64 ((IntKind.wrap .i16 ((nth E_i ([(nth E_Siibe (nth E_LSiibe a0.f0 y13) y24).f0, (nth E_Siibe (nth E_LSiibe a0.f0 y13) y24).f1, (w64 ((nth E_Siibe (nth E_LSiibe a0.f0 y13) y24).f0 - y18)), (w64 ((nth E_Siibe (nth E_LSiibe a0.f0 y13) y24).f1 - y19))] : List Int) y29))))))) rfl (fun hc32 => ?_) (fun hc32 => ?_)
                            · have h := iT h hc32
                              refine .seq ?_
                              refine .rgI rfl ?_
                              refine .seg tabOk 0 2 [2, 3] [] (t := [(2, .nils), (3, (vI 6))]) (h := []) (ep := 38) (by kernel_rfl) ?_
                              refine .fin rfl ?_
                              refine sqN ?_
                              refine .pre (.nilRow 2 1 47 rfl (fresh_none rfl)) ?_
                              refine .ret ?_
                              refine bkR ?_
                              refine sqR ?_
                              refine jkR ?_
                              refine bkR ?_
                              refine jkR ?_
                              refine sqR ?_
                              refine bkR ?_
                              refine jkR ?_
                              refine sqR ?_
                              refine jkR ?_
                              refine bkR ?_
                              refine jkR ?_
                              refine sqR ?_
                              refine bkR ?_
                              refine jkR ?_
                              refine sqR ?_
                              refine jkR ?_
                              refine bkR ?_
                              refine jkR ?_
                              refine sqR ?_
                              injection h with h
                              subst h
                              exact ⟨.inr rfl, _, _, (f_cons (f_tmp rfl (o1_row E_B ([] : List Int) rfl rfl rfl rfl rfl)) (f_cons rfl f_nil)), nd_of rfl, rfl, rfl⟩
                            · have h := iF h hc32
                              refine .skip ?_
                              refine bkN ?_
                              refine sqN ?_
                              refine .rgI rfl ?_
                              refine .seg tabOk 0 2 [1, 5, 6, 7, 8, 9, 13, 39, 40, 41, 45, 46, 47, 65, 66] [16, 95, 111, 127, 143, 144, 208] (t := [(1, (.ptr (16, 1) 0)), (5, (.sref (95, 15) 0 y23.length 1)), (6, (.sref (111, 15) 0 y21.length 1)), (7, (.sref (127, 15) 0 y22.length 1)), (8, (.sref (143, 15) 0 y11.length 1)), (9, (.ptr (144, 12) 0)), (13, (.ptr (208, 26) 0)), (q28_1 a0), (q28_2 a0), (41, (vI y13)), (45, (.ro 3 (nth E_LSiibe a0.f0 y13).length (flat E_Siibe (nth E_LSiibe a0.f0 y13)))), (46, (vI ((nth E_LSiibe a0.f0 y13).length : Int))), (47, (vI y24)), (65, (.agg [(vI (nth E_Siibe (nth E_LSiibe a0.f0 y13) y24).f0), (vI (nth E_Siibe (nth E_LSiibe a0.f0 y13) y24).f1), (vI (w64 ((nth E_Siibe (nth E_LSiibe a0.f0 y13) y24).f0 - y18))), (vI (w64 ((nth E_Siibe (nth E_LSiibe a0.f0 y13) y24).f1 - y19)))])), (66, (vI (w64 (y29 + 1))))]) (h := [(q28_0 a0), (95, ⟨15, .live, true, flat E_B y23⟩), (111, ⟨15, .live, true, flat E_B y21⟩), (127, ⟨15, .live, true, flat E_B y22⟩), (143, ⟨15, .live, true, flat E_B y11⟩), (144, ⟨12, .live, false, [(vI y18), (vI y19), (.val (.bool y20))]⟩), (208, ⟨26, .live, false, [(vI (nth E_Siibe (nth E_LSiibe a0.f0 y13) y24).f0), (vI (nth E_Siibe (nth E_LSiibe a0.f0 y13) y24).f1), (.val (.bool (nth E_Siibe (nth E_LSiibe a0.f0 y13) y24).f2))]⟩)]) (ep := 38) (by kernel_rfl) ?_
                              refine .fin rfl ?_
                              exact jkN (by exact .tn [((16, 1), (16, 1)), ((95, 15), (95, 15)), ((111, 15), (111, 15)), ((127, 15), (127, 15)), ((143, 15), (143, 15)), ((144, 12), (144, 12)), ((208, 26), (208, 26))] ⟨rfl, rfl, rfl, rfl, rfl, rfl, rfl, rfl, rfl, rfl, rfl, rfl, rfl, rfl, rfl, trivial⟩ ⟨rfl, ⟨_, rfl, rfl⟩, ⟨rfl, ⟨_, rfl, ah_row E_B⟩, ⟨rfl, ⟨_, rfl, ah_row E_B⟩, ⟨rfl, ⟨_, rfl, ah_row E_B⟩, ⟨rfl, ⟨_, rfl, ah_row E_B⟩, ⟨rfl, ⟨_, rfl, rfl⟩, ⟨rfl, ⟨_, rfl, rfl⟩, trivial⟩⟩⟩⟩⟩⟩⟩ rfl) ⟨n, (w64 (y29 + 1)), Nat.lt_succ_self n, rfl, h⟩
                          · have h := iF h hc30
                            refine .exit ?_
                            refine sqX ?_
                            refine jkX ?_
                            refine bkE ?_
                            exact jkN (by exact .tn [((16, 1), (16, 1)), ((95, 15), (95, 15)), ((111, 15), (111, 15)), ((127, 15), (127, 15)), ((143, 15), (143, 15)), ((144, 12), (144, 12)), ((208, 26), (208, 26))] ⟨rfl, rfl, rfl, rfl, rfl, rfl, rfl, rfl, rfl, rfl, rfl, rfl, rfl, trivial⟩ ⟨rfl, ⟨_, rfl, rfl⟩, ⟨rfl, ⟨_, rfl, ah_row E_B⟩, ⟨rfl, ⟨_, rfl, ah_row E_B⟩, ⟨rfl, ⟨_, rfl, ah_row E_B⟩, ⟨rfl, ⟨_, rfl, ah_row E_B⟩, ⟨rfl, ⟨_, rfl, rfl⟩, ⟨rfl, ⟨_, rfl, rfl⟩, trivial⟩⟩⟩⟩⟩⟩⟩ rfl) ⟨rfl, h⟩
                      · rintro _ ⟨rfl, h⟩
                        subst hj28
                        refine sqN ?_
                        refine .seq ?_
                        refine .rgI rfl ?_
                        refine .seg tabOk 0 5 [1, 5, 6, 7, 8, 9, 13, 39, 40, 41, 45, 46, 47, 80] [16, 95, 111, 127, 143, 144, 208] (t := [(1, (.ptr (16, 1) 0)), (5, (.sref (95, 15) 0 y23.length 1)), (6, (.sref (111, 15) 0 y21.length 1)), (7, (.sref (127, 15) 0 y22.length 1)), (8, (.sref (143, 15) 0 y11.length 1)), (9, (.ptr (144, 12) 0)), (13, (.ptr (208, 26) 0)), (q28_1 a0), (q28_2 a0), (41, (vI y13)), (45, (.ro 3 (nth E_LSiibe a0.f0 y13).length (flat E_Siibe (nth E_LSiibe a0.f0 y13)))), (46, (vI ((nth E_LSiibe a0.f0 y13).length : Int))), (47, (vI y24)), (80, (vI (w64 ((nth E_Siibe (nth E_LSiibe a0.f0 y13) y24).f0 - y18))))]) (h := [(q28_0 a0), (95, ⟨15, .live, true, flat E_B y23⟩), (111, ⟨15, .live, true, flat E_B y21⟩), (127, ⟨15, .live, true, flat E_B y22⟩), (143, ⟨15, .live, true, flat E_B y11⟩), (144, ⟨12, .live, false, [(vI y18), (vI y19), (.val (.bool y20))]⟩), (208, ⟨26, .live, false, [(vI (nth E_Siibe (nth E_LSiibe a0.f0 y13) y24).f0), (vI (nth E_Siibe (nth E_LSiibe a0.f0 y13) y24).f1), (.val (.bool (nth E_Siibe (nth E_LSiibe a0.f0 y13) y24).f2))]⟩)]) (ep := 35) (by kernel_rfl) ?_
                        obtain ⟨v33, hv33, h⟩ := bS h
                        refine .cc true rfl rfl (C_simple_pack _ _ _ _ _ hv33) ent_simple_pack rfl rfl rfl rfl (g_cons (g_pl rfl rfl) (g_cons (g_pl rfl rfl) (g_cons (g_pl rfl rfl) g_nil))) rfl ?_
                        refine .seg tabOk 6 5 [1, 5, 6, 7, 8, 9, 13, 16, 17, 39, 40, 41, 45, 46, 47] [16, 95, 111, 127, 143, 144, 208, 1296] (t := [(1, (.ptr (16, 1) 0)), (5, (.sref (95, 15) 0 y23.length 1)), (6, (.sref (111, 15) 0 y21.length 1)), (7, (.sref (127, 15) 0 y22.length 1)), (8, (.sref (143, 15) 0 y11.length 1)), (9, (.ptr (144, 12) 0)), (13, (.ptr (208, 26) 0)), (16, (.val (.int .u8 v33.1))), (q28_16 v33), (q28_1 a0), (q28_2 a0), (41, (vI y13)), (45, (.ro 3 (nth E_LSiibe a0.f0 y13).length (flat E_Siibe (nth E_LSiibe a0.f0 y13)))), (46, (vI ((nth E_LSiibe a0.f0 y13).length : Int))), (47, (vI y24))]) (h := [(q28_0 a0), (95, ⟨15, .live, true, flat E_B y23⟩), (111, ⟨15, .live, true, flat E_B y21⟩), (127, ⟨15, .live, true, flat E_B y22⟩), (143, ⟨15, .live, true, flat E_B y11⟩), (144, ⟨12, .live, false, [(vI y18), (vI y19), (.val (.bool y20))]⟩), (208, ⟨26, .live, false, [(vI (nth E_Siibe (nth E_LSiibe a0.f0 y13) y24).f0), (vI (nth E_Siibe (nth E_LSiibe a0.f0 y13) y24).f1), (.val (.bool (nth E_Siibe (nth E_LSiibe a0.f0 y13) y24).f2))]⟩), (q28_14 v33)]) (ep := 36) (by kernel_rfl) ?_
                        refine .fin rfl ?_
                        refine sqN ?_
                        refine .seq ?_
                        refine .rgI rfl ?_
                        refine .seg tabOk 0 5 [1, 5, 6, 7, 8, 9, 13, 16, 17, 39, 40, 41, 45, 46, 47, 89] [16, 95, 111, 127, 143, 144, 208, 1296] (t := [(1, (.ptr (16, 1) 0)), (5, (.sref (95, 15) 0 y23.length 1)), (6, (.sref (111, 15) 0 y21.length 1)), (7, (.sref (127, 15) 0 y22.length 1)), (8, (.sref (143, 15) 0 y11.length 1)), (9, (.ptr (144, 12) 0)), (13, (.ptr (208, 26) 0)), (16, (.val (.int .u8 v33.1))), (q28_16 v33), (q28_1 a0), (q28_2 a0), (41, (vI y13)), (45, (.ro 3 (nth E_LSiibe a0.f0 y13).length (flat E_Siibe (nth E_LSiibe a0.f0 y13)))), (46, (vI ((nth E_LSiibe a0.f0 y13).length : Int))), (47, (vI y24)), (89, (vI (w64 ((nth E_Siibe (nth E_LSiibe a0.f0 y13) y24).f1 - y19))))]) (h := [(q28_0 a0), (95, ⟨15, .live, true, flat E_B y23⟩), (111, ⟨15, .live, true, flat E_B y21⟩), (127, ⟨15, .live, true, flat E_B y22⟩), (143, ⟨15, .live, true, flat E_B y11⟩), (144, ⟨12, .live, false, [(vI y18), (vI y19), (.val (.bool y20))]⟩), (208, ⟨26, .live, false, [(vI (nth E_Siibe (nth E_LSiibe a0.f0 y13) y24).f0), (vI (nth E_Siibe (nth E_LSiibe a0.f0 y13) y24).f1), (.val (.bool (nth E_Siibe (nth E_LSiibe a0.f0 y13) y24).f2))]⟩), (q28_14 v33)]) (ep := 38) (by kernel_rfl) ?_
                        obtain ⟨v34, hv34, h⟩ := bS h
                        refine .cc true rfl rfl (C_simple_pack _ _ _ _ _ hv34) ent_simple_pack rfl rfl rfl rfl (g_cons (g_pl rfl rfl) (g_cons (g_pl rfl rfl) (g_cons (g_pl rfl rfl) g_nil))) rfl ?_
                        refine .seg tabOk 6 5 [1, 5, 6, 7, 8, 9, 13, 16, 17, 18, 19, 39, 40, 41, 45, 46, 47] [16, 95, 111, 127, 143, 144, 208, 1296, 1440] (t := [(1, (.ptr (16, 1) 0)), (5, (.sref (95, 15) 0 y23.length 1)), (6, (.sref (111, 15) 0 y21.length 1)), (7, (.sref (127, 15) 0 y22.length 1)), (8, (.sref (143, 15) 0 y11.length 1)), (9, (.ptr (144, 12) 0)), (13, (.ptr (208, 26) 0)), (16, (.val (.int .u8 v33.1))), (q28_16 v33), (18, (.val (.int .u8 v34.1))), (q28_17 v34), (q28_1 a0), (q28_2 a0), (41, (vI y13)), (45, (.ro 3 (nth E_LSiibe a0.f0 y13).length (flat E_Siibe (nth E_LSiibe a0.f0 y13)))), (46, (vI ((nth E_LSiibe a0.f0 y13).length : Int))), (47, (vI y24))]) (h := [(q28_0 a0), (95, ⟨15, .live, true, flat E_B y23⟩), (111, ⟨15, .live, true, flat E_B y21⟩), (127, ⟨15, .live, true, flat E_B y22⟩), (143, ⟨15, .live, true, flat E_B y11⟩), (144, ⟨12, .live, false, [(vI y18), (vI y19), (.val (.bool y20))]⟩), (208, ⟨26, .live, false, [(vI (nth E_Siibe (nth E_LSiibe a0.f0 y13) y24).f0), (vI (nth E_Siibe (nth E_LSiibe a0.f0 y13) y24).f1), (.val (.bool (nth E_Siibe (nth E_LSiibe a0.f0 y13) y24).f2))]⟩), (q28_14 v33), (q28_15 v34)]) (ep := 39) (by kernel_rfl) ?_
                        refine .fin rfl ?_
                        refine sqN ?_
                        refine .seq ?_
                        refine .seq ?_
                        refine .rgI rfl ?_
                        refine .seg tabOk 0 2 [1, 5, 6, 7, 8, 9, 13, 16, 17, 18, 19, 39, 40, 41, 45, 46, 47, 94] [16, 95, 111, 127, 143, 144, 208, 1296, 1440] (t := [(1, (.ptr (16, 1) 0)), (5, (.sref (95, 15) 0 y23.length 1)), (6, (.sref (111, 15) 0 y21.length 1)), (7, (.sref (127, 15) 0 y22.length 1)), (8, (.sref (143, 15) 0 y11.length 1)), (9, (.ptr (144, 12) 0)), (13, (.ptr (208, 26) 0)), (16, (.val (.int .u8 v33.1))), (q28_16 v33), (18, (.val (.int .u8 v34.1))), (q28_17 v34), (q28_1 a0), (q28_2 a0), (41, (vI y13)), (45, (.ro 3 (nth E_LSiibe a0.f0 y13).length (flat E_Siibe (nth E_LSiibe a0.f0 y13)))), (46, (vI ((nth E_LSiibe a0.f0 y13).length : Int))), (47, (vI y24)), (94, (.val (.bool (nth E_Siibe (nth E_LSiibe a0.f0 y13) y24).f2)))]) (h := [(q28_0 a0), (95, ⟨15, .live, true, flat E_B y23⟩), (111, ⟨15, .live, true, flat E_B y21⟩), (127, ⟨15, .live, true, flat E_B y22⟩), (143, ⟨15, .live, true, flat E_B y11⟩), (144, ⟨12, .live, false, [(vI y18), (vI y19), (.val (.bool y20))]⟩), (208, ⟨26, .live, false, [(vI (nth E_Siibe (nth E_LSiibe a0.f0 y13) y24).f0), (vI (nth E_Siibe (nth E_LSiibe a0.f0 y13) y24).f1), (.val (.bool (nth E_Siibe (nth E_LSiibe a0.f0 y13) y24).f2))]⟩), (q28_14 v33), (q28_15 v34)]) (ep := 41) (by kernel_rfl) ?_
                        refine .fin rfl ?_
                        refine sqN ?_
                        refine .join (fun s' => s' = ⟨[(1, (.ptr (16, 1) 0)), (5, (.sref (95, 15) 0 y23.length 1)), (6, (.sref (111, 15) 0 y21.length 1)), (7, (.sref (127, 15) 0 y22.length 1)), (8, (.sref (143, 15) 0 y11.length 1)), (9, (.ptr (144, 12) 0)), (13, (.ptr (208, 26) 0)), (16, (.val (.int .u8 (if (nth E_Siibe (nth E_LSiibe a0.f0 y13) y24).f2 then (bits .or .u8 v33.1 1) else v33.1)))), (q28_16 v33), (18, (.val (.int .u8 v34.1))), (q28_17 v34), (q28_1 a0), (q28_2 a0), (41, (vI y13)), (45, (.ro 3 (nth E_LSiibe a0.f0 y13).length (flat E_Siibe (nth E_LSiibe a0.f0 y13)))), (46, (vI ((nth E_LSiibe a0.f0 y13).length : Int))), (47, (vI y24))], [(q28_0 a0), (95, ⟨15, .live, true, flat E_B y23⟩), (111, ⟨15, .live, true, flat E_B y21⟩), (127, ⟨15, .live, true, flat E_B y22⟩), (143, ⟨15, .live, true, flat E_B y11⟩), (144, ⟨12, .live, false, [(vI y18), (vI y19), (.val (.bool y20))]⟩), (208, ⟨26, .live, false, [(vI (nth E_Siibe (nth E_LSiibe a0.f0 y13) y24).f0), (vI (nth E_Siibe (nth E_LSiibe a0.f0 y13) y24).f1), (.val (.bool (nth E_Siibe (nth E_LSiibe a0.f0 y13) y24).f2))]⟩), (q28_14 v33), (q28_15 v34)], 44⟩) ?_ ?_
                        · refine .cond (nth E_Siibe (nth E_LSiibe a0.f0 y13) y24).f2 rfl (fun hc35 => ?_) (fun hc35 => ?_)
                          · skip
                            refine .rgI rfl ?_
                            refine .seg tabOk 0 3 [1, 5, 6, 7, 8, 9, 13, 16, 17, 18, 19, 39, 40, 41, 45, 46, 47] [16, 95, 111, 127, 143, 144, 208, 1296, 1440] (t := [(1, (.ptr (16, 1) 0)), (5, (.sref (95, 15) 0 y23.length 1)), (6, (.sref (111, 15) 0 y21.length 1)), (7, (.sref (127, 15) 0 y22.length 1)), (8, (.sref (143, 15) 0 y11.length 1)), (9, (.ptr (144, 12) 0)), (13, (.ptr (208, 26) 0)), (16, (.val (.int .u8 (bits .or .u8 v33.1 1)))), (q28_16 v33), (18, (.val (.int .u8 v34.1))), (q28_17 v34), (q28_1 a0), (q28_2 a0), (41, (vI y13)), (45, (.ro 3 (nth E_LSiibe a0.f0 y13).length (flat E_Siibe (nth E_LSiibe a0.f0 y13)))), (46, (vI ((nth E_LSiibe a0.f0 y13).length : Int))), (47, (vI y24))]) (h := [(q28_0 a0), (95, ⟨15, .live, true, flat E_B y23⟩), (111, ⟨15, .live, true, flat E_B y21⟩), (127, ⟨15, .live, true, flat E_B y22⟩), (143, ⟨15, .live, true, flat E_B y11⟩), (144, ⟨12, .live, false, [(vI y18), (vI y19), (.val (.bool y20))]⟩), (208, ⟨26, .live, false, [(vI (nth E_Siibe (nth E_LSiibe a0.f0 y13) y24).f0), (vI (nth E_Siibe (nth E_LSiibe a0.f0 y13) y24).f1), (.val (.bool (nth E_Siibe (nth E_LSiibe a0.f0 y13) y24).f2))]⟩), (q28_14 v33), (q28_15 v34)]) (ep := 43) (by kernel_rfl) ?_
                            refine .fin rfl ?_
                            exact jkN (by exact .tn [((16, 1), (16, 1)), ((95, 15), (95, 15)), ((111, 15), (111, 15)), ((127, 15), (127, 15)), ((143, 15), (143, 15)), ((144, 12), (144, 12)), ((208, 26), (208, 26)), ((1296, 35), (1296, 35)), ((1440, 38), (1440, 38))] ⟨(by (try rw [hc35]); rfl), (by (try rw [hc35]); rfl), (by (try rw [hc35]); rfl), (by (try rw [hc35]); rfl), (by (try rw [hc35]); rfl), (by (try rw [hc35]); rfl), (by (try rw [hc35]); rfl), (by (try rw [hc35]); rfl), (by (try rw [hc35]); rfl), (by (try rw [hc35]); rfl), (by (try rw [hc35]); rfl), (by (try rw [hc35]); rfl), (by (try rw [hc35]); rfl), (by (try rw [hc35]); rfl), (by (try rw [hc35]); rfl), (by (try rw [hc35]); rfl), (by (try rw [hc35]); rfl), trivial⟩ ⟨rfl, ⟨_, rfl, (by (try rw [hc35]); exact rfl)⟩, ⟨rfl, ⟨_, rfl, (by (try rw [hc35]); exact ah_row E_B)⟩, ⟨rfl, ⟨_, rfl, (by (try rw [hc35]); exact ah_row E_B)⟩, ⟨rfl, ⟨_, rfl, (by (try rw [hc35]); exact ah_row E_B)⟩, ⟨rfl, ⟨_, rfl, (by (try rw [hc35]); exact ah_row E_B)⟩, ⟨rfl, ⟨_, rfl, (by (try rw [hc35]); exact rfl)⟩, ⟨rfl, ⟨_, rfl, (by (try rw [hc35]); exact rfl)⟩, ⟨rfl, ⟨_, rfl, (by (try rw [hc35]); exact ah_row E_B)⟩, ⟨rfl, ⟨_, rfl, (by (try rw [hc35]); exact ah_row E_B)⟩, trivial⟩⟩⟩⟩⟩⟩⟩⟩⟩ rfl) rfl
                          · skip
                            refine .skip ?_
                            exact jkN (by exact .tn [((16, 1), (16, 1)), ((95, 15), (95, 15)), ((111, 15), (111, 15)), ((127, 15), (127, 15)), ((143, 15), (143, 15)), ((144, 12), (144, 12)), ((208, 26), (208, 26)), ((1296, 35), (1296, 35)), ((1440, 38), (1440, 38))] ⟨(by (try rw [hc35]); rfl), (by (try rw [hc35]); rfl), (by (try rw [hc35]); rfl), (by (try rw [hc35]); rfl), (by (try rw [hc35]); rfl), (by (try rw [hc35]); rfl), (by (try rw [hc35]); rfl), (by (try rw [hc35]); rfl), (by (try rw [hc35]); rfl), (by (try rw [hc35]); rfl), (by (try rw [hc35]); rfl), (by (try rw [hc35]); rfl), (by (try rw [hc35]); rfl), (by (try rw [hc35]); rfl), (by (try rw [hc35]); rfl), (by (try rw [hc35]); rfl), (by (try rw [hc35]); rfl), trivial⟩ ⟨rfl, ⟨_, rfl, (by (try rw [hc35]); exact rfl)⟩, ⟨rfl, ⟨_, rfl, (by (try rw [hc35]); exact ah_row E_B)⟩, ⟨rfl, ⟨_, rfl, (by (try rw [hc35]); exact ah_row E_B)⟩, ⟨rfl, ⟨_, rfl, (by (try rw [hc35]); exact ah_row E_B)⟩, ⟨rfl, ⟨_, rfl, (by (try rw [hc35]); exact ah_row E_B)⟩, ⟨rfl, ⟨_, rfl, (by (try rw [hc35]); exact rfl)⟩, ⟨rfl, ⟨_, rfl, (by (try rw [hc35]); exact rfl)⟩, ⟨rfl, ⟨_, rfl, (by (try rw [hc35]); exact ah_row E_B)⟩, ⟨rfl, ⟨_, rfl, (by (try rw [hc35]); exact ah_row E_B)⟩, trivial⟩⟩⟩⟩⟩⟩⟩⟩⟩ rfl) rfl
                        · rintro _ rfl
                          refine sqN ?_
                          refine .rgD rfl ?_
                          refine .seg tabOk 0 5 [1, 6, 7, 8, 9, 13, 17, 19, 39, 40, 41, 45, 46, 47, 97, 101] [16, 95, 111, 127, 143, 144, 208, 1296, 1440, 1616] (t := [(1, (.ptr (16, 1) 0)), (6, (.sref (111, 15) 0 y21.length 1)), (7, (.sref (127, 15) 0 y22.length 1)), (8, (.sref (143, 15) 0 y11.length 1)), (9, (.ptr (144, 12) 0)), (13, (.ptr (208, 26) 0)), (q28_16 v33), (q28_17 v34), (q28_1 a0), (q28_2 a0), (41, (vI y13)), (45, (.ro 3 (nth E_LSiibe a0.f0 y13).length (flat E_Siibe (nth E_LSiibe a0.f0 y13)))), (46, (vI ((nth E_LSiibe a0.f0 y13).length : Int))), (47, (vI y24)), (97, (.sref (95, 15) 0 y23.length 1)), (101, (.sref (1616, 45) 0 ([(bits .or .u8 (if (nth E_Siibe (nth E_LSiibe a0.f0 y13) y24).f2 then (bits .or .u8 v33.1 1) else v33.1) v34.1)] : List Int).length 1))]) (h := [(q28_0 a0), (95, ⟨15, .live, true, flat E_B y23⟩), (111, ⟨15, .live, true, flat E_B y21⟩), (127, ⟨15, .live, true, flat E_B y22⟩), (143, ⟨15, .live, true, flat E_B y11⟩), (144, ⟨12, .live, false, [(vI y18), (vI y19), (.val (.bool y20))]⟩), (208, ⟨26, .live, false, [(vI (nth E_Siibe (nth E_LSiibe a0.f0 y13) y24).f0), (vI (nth E_Siibe (nth E_LSiibe a0.f0 y13) y24).f1), (.val (.bool (nth E_Siibe (nth E_LSiibe a0.f0 y13) y24).f2))]⟩), (q28_14 v33), (q28_15 v34), (1616, ⟨45, .live, true, flat E_B ([(bits .or .u8 (if (nth E_Siibe (nth E_LSiibe a0.f0 y13) y24).f2 then (bits .or .u8 v33.1 1) else v33.1) v34.1)] : List Int)⟩)]) (ep := 45) (by kernel_rfl) ?_
                          obtain ⟨hb36, h⟩ := gS h
                          refine .oo tabOk rfl rfl rfl (q_app E_B (l := y23) rfl rfl rfl rfl rfl rfl rfl rfl rfl rfl rfl rfl rfl (.row ([(bits .or .u8 (if (nth E_Siibe (nth E_LSiibe a0.f0 y13) y24).f2 then (bits .or .u8 v33.1 1) else v33.1) v34.1)] : List Int) rfl rfl rfl rfl) hb36) rfl ?_
                          refine .seg tabOk 6 2 [1, 7, 8, 9, 13, 19, 39, 40, 41, 45, 46, 47, 102, 103, 104] [16, 95, 111, 127, 143, 144, 208, 1296, 1440, 1616, 1632] (t := [(1, (.ptr (16, 1) 0)), (7, (.sref (127, 15) 0 y22.length 1)), (8, (.sref (143, 15) 0 y11.length 1)), (9, (.ptr (144, 12) 0)), (13, (.ptr (208, 26) 0)), (q28_17 v34), (q28_1 a0), (q28_2 a0), (41, (vI y13)), (45, (.ro 3 (nth E_LSiibe a0.f0 y13).length (flat E_Siibe (nth E_LSiibe a0.f0 y13)))), (46, (vI ((nth E_LSiibe a0.f0 y13).length : Int))), (47, (vI y24)), (102, (.sref (1632, 45) 0 (y23 ++ ([(bits .or .u8 (if (nth E_Siibe (nth E_LSiibe a0.f0 y13) y24).f2 then (bits .or .u8 v33.1 1) else v33.1) v34.1)] : List Int)).length 1)), (103, (.sref (111, 15) 0 y21.length 1)), (104, (.sref (1296, 35) 0 v33.2.length 1))]) (h := [(q28_0 a0), (95, ⟨15, .gone, true, flat E_B y23⟩), (111, ⟨15, .live, true, flat E_B y21⟩), (127, ⟨15, .live, true, flat E_B y22⟩), (143, ⟨15, .live, true, flat E_B y11⟩), (144, ⟨12, .live, false, [(vI y18), (vI y19), (.val (.bool y20))]⟩), (208, ⟨26, .live, false, [(vI (nth E_Siibe (nth E_LSiibe a0.f0 y13) y24).f0), (vI (nth E_Siibe (nth E_LSiibe a0.f0 y13) y24).f1), (.val (.bool (nth E_Siibe (nth E_LSiibe a0.f0 y13) y24).f2))]⟩), (q28_14 v33), (q28_15 v34), (1616, ⟨45, .live, true, flat E_B ([(bits .or .u8 (if (nth E_Siibe (nth E_LSiibe a0.f0 y13) y24).f2 then (bits .or .u8 v33.1 1) else v33.1) v34.1)] : List Int)⟩), (1632, ⟨45, .live, true, flat E_B (y23 ++ ([(bits .or .u8 (if (nth E_Siibe (nth E_LSiibe a0.f0 y13) y24).f2 then (bits .or .u8 v33.1 1) else v33.1) v34.1)] : List Int))⟩)]) (ep := 45) (by kernel_rfl) ?_
                          obtain ⟨hb37, h⟩ := gS h
                          refine .oo tabOk rfl rfl rfl (q_app E_B (l := y21) rfl rfl rfl rfl rfl rfl rfl rfl rfl rfl rfl rfl rfl (.row v33.2 rfl rfl rfl rfl) hb37) rfl ?_
                          refine .seg tabOk 9 2 [1, 8, 9, 13, 39, 40, 41, 45, 46, 47, 102, 105, 106, 107] [16, 95, 111, 127, 143, 144, 208, 1296, 1440, 1616, 1632, 1680] (t := [(1, (.ptr (16, 1) 0)), (8, (.sref (143, 15) 0 y11.length 1)), (9, (.ptr (144, 12) 0)), (13, (.ptr (208, 26) 0)), (q28_1 a0), (q28_2 a0), (41, (vI y13)), (45, (.ro 3 (nth E_LSiibe a0.f0 y13).length (flat E_Siibe (nth E_LSiibe a0.f0 y13)))), (46, (vI ((nth E_LSiibe a0.f0 y13).length : Int))), (47, (vI y24)), (102, (.sref (1632, 45) 0 (y23 ++ ([(bits .or .u8 (if (nth E_Siibe (nth E_LSiibe a0.f0 y13) y24).f2 then (bits .or .u8 v33.1 1) else v33.1) v34.1)] : List Int)).length 1)), (105, (.sref (1680, 45) 0 (y21 ++ v33.2).length 1)), (106, (.sref (127, 15) 0 y22.length 1)), (107, (.sref (1440, 38) 0 v34.2.length 1))]) (h := [(q28_0 a0), (95, ⟨15, .gone, true, flat E_B y23⟩), (111, ⟨15, .gone, true, flat E_B y21⟩), (127, ⟨15, .live, true, flat E_B y22⟩), (143, ⟨15, .live, true, flat E_B y11⟩), (144, ⟨12, .live, false, [(vI y18), (vI y19), (.val (.bool y20))]⟩), (208, ⟨26, .live, false, [(vI (nth E_Siibe (nth E_LSiibe a0.f0 y13) y24).f0), (vI (nth E_Siibe (nth E_LSiibe a0.f0 y13) y24).f1), (.val (.bool (nth E_Siibe (nth E_LSiibe a0.f0 y13) y24).f2))]⟩), (q28_14 v33), (q28_15 v34), (1616, ⟨45, .live, true, flat E_B ([(bits .or .u8 (if (nth E_Siibe (nth E_LSiibe a0.f0 y13) y24).f2 then (bits .or .u8 v33.1 1) else v33.1) v34.1)] : List Int)⟩), (1632, ⟨45, .live, true, flat E_B (y23 ++ ([(bits .or .u8 (if (nth E_Siibe (nth E_LSiibe a0.f0 y13) y24).f2 then (bits .or .u8 v33.1 1) else v33.1) v34.1)] : List Int))⟩), (1680, ⟨45, .live, true, flat E_B (y21 ++ v33.2)⟩)]) (ep := 45) (by kernel_rfl) ?_
                          obtain ⟨hb38, h⟩ := gS h
                          refine .oo tabOk rfl rfl rfl (q_app E_B (l := y22) rfl rfl rfl rfl rfl rfl rfl rfl rfl rfl rfl rfl rfl (.row v34.2 rfl rfl rfl rfl) hb38) rfl ?_
                          refine .seg tabOk 12 5 [1, 5, 6, 7, 8, 9, 39, 40, 41, 45, 46, 47] [16, 95, 111, 127, 143, 144, 208, 1296, 1440, 1616, 1632, 1680, 1728] (t := [(1, (.ptr (16, 1) 0)), (5, (.sref (1632, 45) 0 (y23 ++ ([(bits .or .u8 (if (nth E_Siibe (nth E_LSiibe a0.f0 y13) y24).f2 then (bits .or .u8 v33.1 1) else v33.1) v34.1)] : List Int)).length 1)), (6, (.sref (1680, 45) 0 (y21 ++ v33.2).length 1)), (7, (.sref (1728, 45) 0 (y22 ++ v34.2).length 1)), (8, (.sref (143, 15) 0 y11.length 1)), (9, (.ptr (144, 12) 0)), (q28_1 a0), (q28_2 a0), (41, (vI y13)), (45, (.ro 3 (nth E_LSiibe a0.f0 y13).length (flat E_Siibe (nth E_LSiibe a0.f0 y13)))), (46, (vI ((nth E_LSiibe a0.f0 y13).length : Int))), (47, (vI y24))]) (h := [(q28_0 a0), (95, ⟨15, .gone, true, flat E_B y23⟩), (111, ⟨15, .gone, true, flat E_B y21⟩), (127, ⟨15, .gone, true, flat E_B y22⟩), (143, ⟨15, .live, true, flat E_B y11⟩), (144, ⟨12, .live, false, [(vI (nth E_Siibe (nth E_LSiibe a0.f0 y13) y24).f0), (vI (nth E_Siibe (nth E_LSiibe a0.f0 y13) y24).f1), (.val (.bool (nth E_Siibe (nth E_LSiibe a0.f0 y13) y24).f2))]⟩), (208, ⟨26, .live, false, [(vI (nth E_Siibe (nth E_LSiibe a0.f0 y13) y24).f0), (vI (nth E_Siibe (nth E_LSiibe a0.f0 y13) y24).f1), (.val (.bool (nth E_Siibe (nth E_LSiibe a0.f0 y13) y24).f2))]⟩), (q28_14 v33), (q28_15 v34), (1616, ⟨45, .live, true, flat E_B ([(bits .or .u8 (if (nth E_Siibe (nth E_LSiibe a0.f0 y13) y24).f2 then (bits .or .u8 v33.1 1) else v33.1) v34.1)] : List Int)⟩), (1632, ⟨45, .live, true, flat E_B (y23 ++ ([(bits .or .u8 (if (nth E_Siibe (nth E_LSiibe a0.f0 y13) y24).f2 then (bits .or .u8 v33.1 1) else v33.1) v34.1)] : List Int))⟩), (1680, ⟨45, .live, true, flat E_B (y21 ++ v33.2)⟩), (1728, ⟨45, .live, true, flat E_B (y22 ++ v34.2)⟩)]) (ep := 45) (by kernel_rfl) ?_
                          refine .fin mixed [1, 5, 6, 7, 8, 9, 39, 40, 41, 45, 46, 47] [16, 143, 144, 1632, 1680, 1728] (t := [(1, (.ptr (16, 1) 0)), (5, (.sref (1632, 45) 0 (y23 ++ ([(bits .or .u8 (if (nth E_Siibe (nth E_LSiibe a0.f0 y13) y24).f2 then (bits .or .u8 v33.1 1) else v33.1) v34.1)] : List Int)).length 1)), (6, (.sref (1680, 45) 0 (y21 ++ v33.2).length 1)), (7, (.sref (1728, 45) 0 (y22 ++ v34.2).length 1)), (8, (.sref (143, 15) 0 y11.length 1)), (9, (.ptr (144, 12) 0)), (q28_1 a0), (q28_2 a0), (41, (vI y13)), (45, (.ro 3 (nth E_LSiibe a0.f0 y13).length (flat E_Siibe (nth E_LSiibe a0.f0 y13)))), (46, (vI ((nth E_LSiibe a0.f0 y13).length : Int))), (47, (vI y24))]) (h := [(q28_0 a0), (143, ⟨15, .live, true, flat E_B y11⟩), (144, ⟨12, .live, false, [(vI (nth E_Siibe (nth E_LSiibe a0.f0 y13) y24).f0), (vI (nth E_Siibe (nth E_LSiibe a0.f0 y13) y24).f1), (.val (.bool (nth E_Siibe (nth E_LSiibe a0.f0 y13) y24).f2))]⟩), (1632, ⟨45, .live, true, flat E_B (y23 ++ ([(bits .or .u8 (if (nth E_Siibe (nth E_LSiibe a0.f0 y13) y24).f2 then (bits .or .u8 v33.1 1) else v33.1) v34.1)] : List Int))⟩), (1680, ⟨45, .live, true, flat E_B (y21 ++ v33.2)⟩), (1728, ⟨45, .live, true, flat E_B (y22 ++ v34.2)⟩)]) (ep := 46) rfl (by kernel_rfl) rfl ?_
                          refine bkN ?_
                          exact jkN (by exact .tn [((16, 1), (16, 1)), ((143, 15), (143, 15)), ((144, 12), (144, 12)), ((1632, 45), (1632, 45)), ((1680, 45), (1680, 45)), ((1728, 45), (1728, 45))] ⟨rfl, rfl, rfl, rfl, rfl, rfl, rfl, rfl, rfl, rfl, rfl, rfl, trivial⟩ ⟨rfl, ⟨_, rfl, rfl⟩, ⟨rfl, ⟨_, rfl, ah_row E_B⟩, ⟨rfl, ⟨_, rfl, rfl⟩, ⟨rfl, ⟨_, rfl, ah_row E_B⟩, ⟨rfl, ⟨_, rfl, ah_row E_B⟩, ⟨rfl, ⟨_, rfl, ah_row E_B⟩, trivial⟩⟩⟩⟩⟩⟩ rfl) ⟨_, _, _, rfl, h⟩
                    · rintro _ ⟨x39, x40, x41, rfl, h⟩
                      subst hj26
                      refine sqN ?_
                      refine .rgI rfl ?_
                      refine .seg tabOk 0 2 [1, 5, 6, 7, 8, 9, 39, 40, 41, 45, 46, 47] [16, 143, 144, 1632, 1680, 1728] (t := [(1, (.ptr (16, 1) 0)), (5, (.sref (1632, 45) 0 x39.length 1)), (6, (.sref (1680, 45) 0 x40.length 1)), (7, (.sref (1728, 45) 0 x41.length 1)), (8, (.sref (143, 15) 0 y11.length 1)), (9, (.ptr (144, 12) 0)), (q28_1 a0), (q28_2 a0), (41, (vI y13)), (45, (.ro 3 (nth E_LSiibe a0.f0 y13).length (flat E_Siibe (nth E_LSiibe a0.f0 y13)))), (46, (vI ((nth E_LSiibe a0.f0 y13).length : Int))), (47, (vI (w64 (y24 + 1))))]) (h := [(q28_0 a0), (143, ⟨15, .live, true, flat E_B y11⟩), (144, ⟨12, .live, false, [(vI (nth E_Siibe (nth E_LSiibe a0.f0 y13) y24).f0), (vI (nth E_Siibe (nth E_LSiibe a0.f0 y13) y24).f1), (.val (.bool (nth E_Siibe (nth E_LSiibe a0.f0 y13) y24).f2))]⟩), (1632, ⟨45, .live, true, flat E_B x39⟩), (1680, ⟨45, .live, true, flat E_B x40⟩), (1728, ⟨45, .live, true, flat E_B x41⟩)]) (ep := 49) (by kernel_rfl) ?_
                      refine .fin rfl ?_
                      exact jkN (by exact .tn [((16, 1), (16, 1)), ((1632, 45), (95, 15)), ((1680, 45), (111, 15)), ((1728, 45), (127, 15)), ((143, 15), (143, 15)), ((144, 12), (144, 12))] ⟨rfl, rfl, rfl, rfl, rfl, rfl, rfl, rfl, rfl, rfl, rfl, rfl, trivial⟩ ⟨rfl, ⟨_, rfl, rfl⟩, ⟨rfl, ⟨_, rfl, ah_row E_B⟩, ⟨rfl, ⟨_, rfl, ah_row E_B⟩, ⟨rfl, ⟨_, rfl, ah_row E_B⟩, ⟨rfl, ⟨_, rfl, ah_row E_B⟩, ⟨rfl, ⟨_, rfl, rfl⟩, trivial⟩⟩⟩⟩⟩⟩ rfl) ⟨n, ((nth E_Siibe (nth E_LSiibe a0.f0 y13) y24).f0, (nth E_Siibe (nth E_LSiibe a0.f0 y13) y24).f1, (nth E_Siibe (nth E_LSiibe a0.f0 y13) y24).f2, x40, x41, x39, (w64 (y24 + 1))), Nat.lt_succ_self n, rfl, h⟩
                  · have h := iF h hc25
                    refine .exit ?_
                    refine sqX ?_
                    refine jkX ?_
                    refine bkE ?_
                    exact jkN (by exact .tn [((16, 1), (16, 1)), ((95, 15), (95, 15)), ((111, 15), (111, 15)), ((127, 15), (127, 15)), ((143, 15), (143, 15)), ((144, 12), (144, 12))] ⟨rfl, rfl, rfl, rfl, rfl, rfl, rfl, rfl, rfl, trivial⟩ ⟨rfl, ⟨_, rfl, rfl⟩, ⟨rfl, ⟨_, rfl, ah_row E_B⟩, ⟨rfl, ⟨_, rfl, ah_row E_B⟩, ⟨rfl, ⟨_, rfl, ah_row E_B⟩, ⟨rfl, ⟨_, rfl, ah_row E_B⟩, ⟨rfl, ⟨_, rfl, rfl⟩, trivial⟩⟩⟩⟩⟩⟩ rfl) ⟨_, _, _, _, _, _, rfl, h⟩
              · rintro _ ⟨x42, x43, x44, x45, x46, x47, rfl, h⟩
                subst hj17
                refine sqN ?_
                refine .rgI rfl ?_
                refine .seg tabOk 0 4 [1, 5, 6, 7, 9, 39, 40, 41, 111, 114] [16, 95, 111, 127, 143, 144] (t := [(1, (.ptr (16, 1) 0)), (5, (.sref (95, 15) 0 x47.length 1)), (6, (.sref (111, 15) 0 x45.length 1)), (7, (.sref (127, 15) 0 x46.length 1)), (9, (.ptr (144, 12) 0)), (q28_1 a0), (q28_2 a0), (41, (vI y13)), (111, (.sref (143, 15) 0 y11.length 1)), (114, (vI (w64 ((x47.length : Int) - 1))))]) (h := [(q28_0 a0), (95, ⟨15, .live, true, flat E_B x47⟩), (111, ⟨15, .live, true, flat E_B x45⟩), (127, ⟨15, .live, true, flat E_B x46⟩), (143, ⟨15, .live, true, flat E_B y11⟩), (144, ⟨12, .live, false, [(vI x42), (vI x43), (.val (.bool x44))]⟩)]) (ep := 28) (by kernel_rfl) ?_
                obtain ⟨v48, hv48, h⟩ := bS h
                refine .cc true rfl rfl (C_be_Put _ _ _ _ hv48) ent_be_Put rfl rfl rfl rfl (g_cons (g_pl rfl rfl) (g_cons (g_pl rfl rfl) g_nil)) rfl ?_
                obtain ⟨hb49, h⟩ := gS h
                refine .oo tabOk rfl rfl rfl (q_app E_B (l := y11) rfl rfl rfl rfl rfl rfl rfl rfl rfl rfl rfl rfl rfl (.row v48 rfl rfl rfl rfl) hb49) ?_
                refine .seg tabOk 6 1 [1, 5, 6, 7, 8, 9, 39, 40, 41] [16, 95, 111, 127, 144, 1856] (t := [(1, (.ptr (16, 1) 0)), (5, (.sref (95, 15) 0 x47.length 1)), (6, (.sref (111, 15) 0 x45.length 1)), (7, (.sref (127, 15) 0 x46.length 1)), (8, (.sref (1856, 28) 0 (y11 ++ v48).length 1)), (9, (.ptr (144, 12) 0)), (q28_1 a0), (q28_2 a0), (41, (vI y13))]) (h := [(q28_0 a0), (95, ⟨15, .live, true, flat E_B x47⟩), (111, ⟨15, .live, true, flat E_B x45⟩), (127, ⟨15, .live, true, flat E_B x46⟩), (144, ⟨12, .live, false, [(vI x42), (vI x43), (.val (.bool x44))]⟩), (1856, ⟨28, .live, true, flat E_B (y11 ++ v48)⟩)]) (ep := 29) (by kernel_rfl) ?_
                refine .fin rfl ?_
                refine bkN ?_
                exact jkN (by exact .tn [((16, 1), (16, 1)), ((95, 15), (95, 15)), ((111, 15), (111, 15)), ((127, 15), (127, 15)), ((144, 12), (144, 12)), ((1856, 28), (1856, 28))] ⟨rfl, rfl, rfl, rfl, rfl, rfl, rfl, rfl, rfl, trivial⟩ ⟨rfl, ⟨_, rfl, rfl⟩, ⟨rfl, ⟨_, rfl, ah_row E_B⟩, ⟨rfl, ⟨_, rfl, ah_row E_B⟩, ⟨rfl, ⟨_, rfl, ah_row E_B⟩, ⟨rfl, ⟨_, rfl, rfl⟩, ⟨rfl, ⟨_, rfl, ah_row E_B⟩, trivial⟩⟩⟩⟩⟩⟩ rfl) ⟨_, _, _, _, _, _, _, rfl, h⟩
            · rintro _ ⟨x50, x51, x52, x53, x54, x55, x56, rfl, h⟩
              subst hj15
              refine sqN ?_
              refine .rgI rfl ?_
              refine .seg tabOk 0 2 [1, 5, 6, 7, 8, 9, 39, 40, 41] [16, 95, 111, 127, 144, 1856] (t := [(1, (.ptr (16, 1) 0)), (5, (.sref (95, 15) 0 x56.length 1)), (6, (.sref (111, 15) 0 x53.length 1)), (7, (.sref (127, 15) 0 x54.length 1)), (8, (.sref (1856, 28) 0 x55.length 1)), (9, (.ptr (144, 12) 0)), (q28_1 a0), (q28_2 a0), (41, (vI (w64 (y13 + 1))))]) (h := [(q28_0 a0), (95, ⟨15, .live, true, flat E_B x56⟩), (111, ⟨15, .live, true, flat E_B x53⟩), (127, ⟨15, .live, true, flat E_B x54⟩), (144, ⟨12, .live, false, [(vI x50), (vI x51), (.val (.bool x52))]⟩), (1856, ⟨28, .live, true, flat E_B x55⟩)]) (ep := 32) (by kernel_rfl) ?_
              refine .fin rfl ?_
              exact jkN (by exact .tn [((16, 1), (16, 1)), ((95, 15), (95, 15)), ((111, 15), (111, 15)), ((127, 15), (127, 15)), ((1856, 28), (143, 15)), ((144, 12), (144, 12))] ⟨rfl, rfl, rfl, rfl, rfl, rfl, rfl, rfl, rfl, trivial⟩ ⟨rfl, ⟨_, rfl, rfl⟩, ⟨rfl, ⟨_, rfl, ah_row E_B⟩, ⟨rfl, ⟨_, rfl, ah_row E_B⟩, ⟨rfl, ⟨_, rfl, ah_row E_B⟩, ⟨rfl, ⟨_, rfl, ah_row E_B⟩, ⟨rfl, ⟨_, rfl, rfl⟩, trivial⟩⟩⟩⟩⟩⟩ rfl) ⟨n, (x50, x51, x52, x53, x54, x55, x56, (w64 (y13 + 1))), Nat.lt_succ_self n, rfl, h⟩
          · have h := iF h hc14
            refine .exit ?_
            refine sqX ?_
            refine jkX ?_
            refine bkE ?_
            exact jkN (by exact .tn [((16, 1), (16, 1)), ((95, 15), (95, 18)), ((111, 15), (111, 18)), ((127, 15), (127, 18)), ((143, 15), (143, 18))] ⟨rfl, rfl, rfl, rfl, rfl, trivial⟩ ⟨rfl, ⟨_, rfl, rfl⟩, ⟨rfl, ⟨_, rfl, ah_row E_B⟩, ⟨rfl, ⟨_, rfl, ah_row E_B⟩, ⟨rfl, ⟨_, rfl, ah_row E_B⟩, ⟨rfl, ⟨_, rfl, ah_row E_B⟩, trivial⟩⟩⟩⟩⟩ rfl) ⟨_, _, _, _, rfl, h⟩
      · rintro _ ⟨x57, x58, x59, x60, rfl, h⟩
        subst hj5
        refine sqN ?_
        refine .seq ?_
        refine .rgI rfl ?_
        refine .seg tabOk 0 2 [1, 5, 6, 7, 8, 120] [16, 95, 111, 127, 143] (t := [(1, (.ptr (16, 1) 0)), (q28_11 x60), (q28_9 x57), (q28_6 x58), (q28_13 x59), (120, (.ro 1 a0.f0.length (flat E_LSiibe a0.f0)))]) (h := [(q28_0 a0), (q28_10 x60), (q28_7 x57), (q28_4 x58), (q28_12 x59)]) (ep := 21) (by kernel_rfl) ?_
        obtain ⟨v61, hv61, h⟩ := bS h
        refine .cc true rfl rfl (C_simple_Box _ _ _ hv61) ent_simple_Box rfl rfl rfl rfl (g_cons (g_pl rfl rfl) g_nil) rfl ?_
        refine .seg tabOk 3 7 [1, 5, 6, 7, 8, 20, 21] [16, 95, 111, 127, 143, 320, 336] (t := [(1, (.ptr (16, 1) 0)), (q28_11 x60), (q28_9 x57), (q28_6 x58), (q28_13 x59), (20, (.ptr (320, 21) 0)), (21, (.ptr (336, 21) 0))]) (h := [(q28_0 a0), (q28_10 x60), (q28_7 x57), (q28_4 x58), (q28_12 x59), (320, ⟨21, .live, false, [(vI v61.1.f0), (vI v61.1.f1)]⟩), (336, ⟨21, .live, false, [(vI v61.2.f0), (vI v61.2.f1)]⟩)]) (ep := 22) (by kernel_rfl) ?_
        refine .fin rfl ?_
        refine sqN ?_
        refine .seq ?_
        refine .rgI rfl ?_
        refine .seg tabOk 0 1 [1, 5, 6, 7, 8, 20, 21, 22] [16, 95, 111, 127, 143, 320, 336] (t := [(1, (.ptr (16, 1) 0)), (q28_11 x60), (q28_9 x57), (q28_6 x58), (q28_13 x59), (20, (.ptr (320, 21) 0)), (21, (.ptr (336, 21) 0)), (22, .nils)]) (h := [(q28_0 a0), (q28_10 x60), (q28_7 x57), (q28_4 x58), (q28_12 x59), (320, ⟨21, .live, false, [(vI v61.1.f0), (vI v61.1.f1)]⟩), (336, ⟨21, .live, false, [(vI v61.2.f0), (vI v61.2.f1)]⟩)]) (ep := 24) (by kernel_rfl) ?_
        refine .fin rfl ?_
        refine sqN ?_
        refine .seq ?_
        refine .seq ?_
        refine .rgI rfl ?_
        refine .seg tabOk 0 14 [1, 5, 6, 7, 8, 22, 135, 136, 137] [16, 95, 111, 127, 143, 2160] (t := [(1, (.ptr (16, 1) 0)), (q28_11 x60), (q28_9 x57), (q28_6 x58), (q28_13 x59), (22, .nils), (q28_3 a0 v61), (q28_8 a0 v61), (137, (vI 0))]) (h := [(q28_0 a0), (q28_10 x60), (q28_7 x57), (q28_4 x58), (q28_12 x59), (q28_5 a0 v61)]) (ep := 26) (by kernel_rfl) ?_
        refine .fin rfl ?_
        refine sqN ?_
        obtain ⟨j62, hj62, h⟩ := ljS h
        refine .join (fun s' => ∃ x69, s' = ⟨[(1, (.ptr (16, 1) 0)), (q28_11 x60), (q28_9 x57), (q28_6 x58), (q28_13 x59), (22, (.sref (367, 29) 0 x69.length 1))], [(q28_0 a0), (q28_10 x60), (q28_7 x57), (q28_4 x58), (q28_12 x59), (367, ⟨29, .live, true, flat E_B x69⟩)], 30⟩ ∧ j62 x69 = some r) ?_ ?_
        · refine .block ?_
          refine .loopF (β := (List Int) × Int) (fun v => ⟨[(1, (.ptr (16, 1) 0)), (q28_11 x60), (q28_9 x57), (q28_6 x58), (q28_13 x59), (22, (.sref (367, 26) 0 v.1.length 1)), (q28_3 a0 v61), (q28_8 a0 v61), (137, (vI v.2))], [(q28_0 a0), (q28_10 x60), (q28_7 x57), (q28_4 x58), (q28_12 x59), (367, ⟨26, .live, true, flat E_B v.1⟩), (q28_5 a0 v61)], 27⟩) (fun m v => L_simple_Write_3 a0 v61 j62 m v.1 v.2 = some r) n (([] : List Int), 0) (by exact .trans (.nilRow 22 1 367 rfl (fresh_none rfl)) (.tn [((16, 1), (16, 1)), ((95, 18), (95, 18)), ((111, 18), (111, 18)), ((127, 18), (127, 18)), ((143, 18), (143, 18)), ((367, 26), (367, 26)), ((2160, 25), (2160, 25))] ⟨rfl, rfl, rfl, rfl, rfl, rfl, rfl, rfl, rfl, trivial⟩ ⟨rfl, ⟨_, rfl, rfl⟩, ⟨rfl, ⟨_, rfl, ah_row E_B⟩, ⟨rfl, ⟨_, rfl, ah_row E_B⟩, ⟨rfl, ⟨_, rfl, ah_row E_B⟩, ⟨rfl, ⟨_, rfl, ah_row E_B⟩, ⟨rfl, ⟨_, rfl, ah_row E_B⟩, ⟨rfl, ⟨_, rfl, ah_row E_i⟩, trivial⟩⟩⟩⟩⟩⟩⟩ rfl)) h ?_
          rintro m ⟨y63, y64⟩ h
          cases m with
          | zero => exact nomatch h
          | succ n =>
            rw [L_simple_Write_3] at h
            refine .seq ?_
            refine .rgI rfl ?_
            refine .seg tabOk 0 1 [1, 5, 6, 7, 8, 22, 135, 136, 137, 138] [16, 95, 111, 127, 143, 367, 2160] (t := [(1, (.ptr (16, 1) 0)), (q28_11 x60), (q28_9 x57), (q28_6 x58), (q28_13 x59), (22, (.sref (367, 26) 0 y63.length 1)), (q28_3 a0 v61), (q28_8 a0 v61), (137, (vI y64)), (138, (.val (.bool (decide (y64 < (([(a0.f0.length : Int), v61.1.f0, v61.1.f1, v61.2.f0, v61.2.f1] : List Int).length : Int))))))]) (h := [(q28_0 a0), (q28_10 x60), (q28_7 x57), (q28_4 x58), (q28_12 x59), (367, ⟨26, .live, true, flat E_B y63⟩), (q28_5 a0 v61)]) (ep := 29) (by kernel_rfl) ?_
            refine .fin rfl ?_
            refine sqN ?_
            refine .seq ?_
            refine .cond (decide (y64 < (([(a0.f0.length : Int), v61.1.f0, v61.1.f1, v61.2.f0, v61.2.f1] : List Int).length : Int))) rfl (fun hc65 => ?_) (fun hc65 => ?_)
            · have h := iT h hc65
              refine .skip ?_
              refine sqN ?_
              refine .seq ?_
              refine .block ?_
              refine .seq ?_
              refine .rgI rfl ?_
              obtain ⟨hb66, h⟩ := gS h
              refine .oo tabOk rfl rfl rfl (q_idxS E_i (l := ([(a0.f0.length : Int), v61.1.f0, v61.1.f1, v61.2.f0, v61.2.f1] : List Int)) rfl rfl rfl rfl rfl rfl rfl rfl hb66) ?_
              refine .oo tabOk rfl rfl rfl (q_ldS E_i (l := ([(a0.f0.length : Int), v61.1.f0, v61.1.f1, v61.2.f0, v61.2.f1] : List Int)) rfl rfl rfl rfl rfl hb66 rfl) ?_
              refine .seg tabOk 2 1 [1, 5, 6, 7, 8, 22, 24, 135, 136, 137] [16, 95, 111, 127, 143, 367, 2160] (t := [(1, (.ptr (16, 1) 0)), (q28_11 x60), (q28_9 x57), (q28_6 x58), (q28_13 x59), (22, (.sref (367, 26) 0 y63.length 1)), (24, (vI (nth E_i ([(a0.f0.length : Int), v61.1.f0, v61.1.f1, v61.2.f0, v61.2.f1] : List Int) y64))), (q28_3 a0 v61), (q28_8 a0 v61), (137, (vI y64))]) (h := [(q28_0 a0), (q28_10 x60), (q28_7 x57), (q28_4 x58), (q28_12 x59), (367, ⟨26, .live, true, flat E_B y63⟩), (q28_5 a0 v61)]) (ep := 31) (by kernel_rfl) ?_
              refine .fin rfl ?_
              refine sqN ?_
              refine .rgI rfl ?_
              refine .seg tabOk 0 2 [1, 5, 6, 7, 8, 135, 136, 137, 141, 142] [16, 95, 111, 127, 143, 367, 2160] (t := [(1, (.ptr (16, 1) 0)), (q28_11 x60), (q28_9 x57), (q28_6 x58), (q28_13 x59), (q28_3 a0 v61), (q28_8 a0 v61), (137, (vI y64)), (141, (.sref (367, 26) 0 y63.length 1)), (142, (vI (nth E_i ([(a0.f0.length : Int), v61.1.f0, v61.1.f1, v61.2.f0, v61.2.f1] : List Int) y64)))]) (h := [(q28_0 a0), (q28_10 x60), (q28_7 x57), (q28_4 x58), (q28_12 x59), (367, ⟨26, .live, true, flat E_B y63⟩), (q28_5 a0 v61)]) (ep := 33) (by kernel_rfl) ?_
              obtain ⟨v67, hv67, h⟩ := bS h
              refine .cc true rfl rfl (C_be_Put _ _ _ _ hv67) ent_be_Put rfl rfl rfl rfl (g_cons (g_pl rfl rfl) (g_cons (g_pl rfl rfl) g_nil)) rfl ?_
              obtain ⟨hb68, h⟩ := gS h
              refine .oo tabOk rfl rfl rfl (q_app E_B (l := y63) rfl rfl rfl rfl rfl rfl rfl rfl rfl rfl rfl rfl rfl (.row v67 rfl rfl rfl rfl) hb68) ?_
              refine .seg tabOk 4 1 [1, 5, 6, 7, 8, 22, 135, 136, 137] [16, 95, 111, 127, 143, 2160, 2304] (t := [(1, (.ptr (16, 1) 0)), (q28_11 x60), (q28_9 x57), (q28_6 x58), (q28_13 x59), (22, (.sref (2304, 33) 0 (y63 ++ v67).length 1)), (q28_3 a0 v61), (q28_8 a0 v61), (137, (vI y64))]) (h := [(q28_0 a0), (q28_10 x60), (q28_7 x57), (q28_4 x58), (q28_12 x59), (q28_5 a0 v61), (2304, ⟨33, .live, true, flat E_B (y63 ++ v67)⟩)]) (ep := 34) (by kernel_rfl) ?_
              refine .fin rfl ?_
              refine bkN ?_
              refine sqN ?_
              refine .rgI rfl ?_
              refine .seg tabOk 0 2 [1, 5, 6, 7, 8, 22, 135, 136, 137] [16, 95, 111, 127, 143, 2160, 2304] (t := [(1, (.ptr (16, 1) 0)), (q28_11 x60), (q28_9 x57), (q28_6 x58), (q28_13 x59), (22, (.sref (2304, 33) 0 (y63 ++ v67).length 1)), (q28_3 a0 v61), (q28_8 a0 v61), (137, (vI (w64 (y64 + 1))))]) (h := [(q28_0 a0), (q28_10 x60), (q28_7 x57), (q28_4 x58), (q28_12 x59), (q28_5 a0 v61), (2304, ⟨33, .live, true, flat E_B (y63 ++ v67)⟩)]) (ep := 36) (by kernel_rfl) ?_
              refine .fin rfl ?_
              exact jkN (by exact .tn [((16, 1), (16, 1)), ((95, 18), (95, 18)), ((111, 18), (111, 18)), ((127, 18), (127, 18)), ((143, 18), (143, 18)), ((2304, 33), (367, 26)), ((2160, 25), (2160, 25))] ⟨rfl, rfl, rfl, rfl, rfl, rfl, rfl, rfl, rfl, trivial⟩ ⟨rfl, ⟨_, rfl, rfl⟩, ⟨rfl, ⟨_, rfl, ah_row E_B⟩, ⟨rfl, ⟨_, rfl, ah_row E_B⟩, ⟨rfl, ⟨_, rfl, ah_row E_B⟩, ⟨rfl, ⟨_, rfl, ah_row E_B⟩, ⟨rfl, ⟨_, rfl, ah_row E_B⟩, ⟨rfl, ⟨_, rfl, ah_row E_i⟩, trivial⟩⟩⟩⟩⟩⟩⟩ rfl) ⟨n, ((y63 ++ v67), (w64 (y64 + 1))), Nat.lt_succ_self n, rfl, h⟩
            · have h := iF h hc65
              refine .exit ?_
              refine sqX ?_
              refine jkX ?_
              refine bkE ?_
              exact jkN (by exact .tn [((16, 1), (16, 1)), ((95, 18), (95, 18)), ((111, 18), (111, 18)), ((127, 18), (127, 18)), ((143, 18), (143, 18)), ((367, 26), (367, 29))] ⟨rfl, rfl, rfl, rfl, rfl, rfl, trivial⟩ ⟨rfl, ⟨_, rfl, rfl⟩, ⟨rfl, ⟨_, rfl, ah_row E_B⟩, ⟨rfl, ⟨_, rfl, ah_row E_B⟩, ⟨rfl, ⟨_, rfl, ah_row E_B⟩, ⟨rfl, ⟨_, rfl, ah_row E_B⟩, ⟨rfl, ⟨_, rfl, ah_row E_B⟩, trivial⟩⟩⟩⟩⟩⟩ rfl) ⟨_, rfl, h⟩
        · rintro _ ⟨x69, rfl, h⟩
          subst hj62
          refine sqN ?_
          refine .seq ?_
          refine .rgD rfl ?_
          refine .seg tabOk 0 2 [1, 5, 6, 7, 146, 147] [16, 95, 111, 127, 143, 367] (t := [(1, (.ptr (16, 1) 0)), (q28_11 x60), (q28_9 x57), (q28_6 x58), (146, (.sref (367, 29) 0 x69.length 1)), (147, (.sref (143, 18) 0 x59.length 1))]) (h := [(q28_0 a0), (q28_10 x60), (q28_7 x57), (q28_4 x58), (q28_12 x59), (367, ⟨29, .live, true, flat E_B x69⟩)]) (ep := 31) (by kernel_rfl) ?_
          obtain ⟨hb70, h⟩ := gS h
          refine .oo tabOk rfl rfl rfl (q_app E_B (l := x69) rfl rfl rfl rfl rfl rfl rfl rfl rfl rfl rfl rfl rfl (.row x59 rfl rfl rfl rfl) hb70) rfl ?_
          refine .seg tabOk 3 3 [1, 5, 6, 7, 148, 151] [16, 95, 111, 127, 143, 367, 2368] (t := [(1, (.ptr (16, 1) 0)), (q28_11 x60), (q28_9 x57), (q28_6 x58), (148, (.sref (2368, 31) 0 (x69 ++ x59).length 1)), (151, (vI (a0.f1.length : Int)))]) (h := [(q28_0 a0), (q28_10 x60), (q28_7 x57), (q28_4 x58), (q28_12 x59), (367, ⟨29, .gone, true, flat E_B x69⟩), (2368, ⟨31, .live, true, flat E_B (x69 ++ x59)⟩)]) (ep := 31) (by kernel_rfl) ?_
          obtain ⟨v71, hv71, h⟩ := bS h
          refine .cc true rfl rfl (C_be_Put _ _ _ _ hv71) ent_be_Put rfl rfl rfl rfl (g_cons (g_pl rfl rfl) (g_cons (g_pl rfl rfl) g_nil)) rfl rfl ?_
          obtain ⟨hb72, h⟩ := gS h
          refine .oo tabOk rfl rfl rfl (q_app E_B (l := (x69 ++ x59)) rfl rfl rfl rfl rfl rfl rfl rfl rfl rfl rfl rfl rfl (.row v71 rfl rfl rfl rfl) hb72) rfl ?_
          refine .seg tabOk 8 1 [1, 5, 6, 7, 22] [16, 95, 111, 127, 143, 367, 2368, 2432, 2448] (t := [(1, (.ptr (16, 1) 0)), (q28_11 x60), (q28_9 x57), (q28_6 x58), (22, (.sref (2448, 31) 0 ((x69 ++ x59) ++ v71).length 1))]) (h := [(q28_0 a0), (q28_10 x60), (q28_7 x57), (q28_4 x58), (q28_12 x59), (367, ⟨29, .gone, true, flat E_B x69⟩), (2368, ⟨31, .gone, true, flat E_B (x69 ++ x59)⟩), (2432, ⟨31, .live, true, flat E_B v71⟩), (2448, ⟨31, .live, true, flat E_B ((x69 ++ x59) ++ v71)⟩)]) (ep := 31) (by kernel_rfl) ?_
          refine .fin mixed [1, 5, 6, 7, 22] [16, 95, 111, 127, 2448] (t := [(1, (.ptr (16, 1) 0)), (q28_11 x60), (q28_9 x57), (q28_6 x58), (22, (.sref (2448, 31) 0 ((x69 ++ x59) ++ v71).length 1))]) (h := [(q28_0 a0), (q28_10 x60), (q28_7 x57), (q28_4 x58), (2448, ⟨31, .live, true, flat E_B ((x69 ++ x59) ++ v71)⟩)]) (ep := 32) rfl (by kernel_rfl) rfl ?_
          refine sqN ?_
          refine .seq ?_
          refine .rgI rfl ?_
          refine .seg tabOk 0 3 [5, 6, 7, 154, 156] [95, 111, 127, 2448] (t := [(q28_11 x60), (q28_9 x57), (q28_6 x58), (154, (.sref (2448, 31) 0 ((x69 ++ x59) ++ v71).length 1)), (156, (.ro 1 a0.f1.length (flat E_B a0.f1)))]) (h := [(q28_10 x60), (q28_7 x57), (q28_4 x58), (2448, ⟨31, .live, true, flat E_B ((x69 ++ x59) ++ v71)⟩)]) (ep := 34) (by kernel_rfl) ?_
          obtain ⟨hb73, h⟩ := gS h
          refine .oo tabOk rfl rfl rfl (q_app E_B (l := ((x69 ++ x59) ++ v71)) rfl rfl rfl rfl rfl rfl rfl rfl rfl rfl rfl rfl rfl (.ro a0.f1) hb73) ?_
          refine .seg tabOk 4 1 [6, 7, 157, 158] [95, 111, 127, 2512] (t := [(q28_9 x57), (q28_6 x58), (157, (.sref (2512, 34) 0 (((x69 ++ x59) ++ v71) ++ a0.f1).length 1)), (158, (.sref (95, 18) 0 x60.length 1))]) (h := [(q28_10 x60), (q28_7 x57), (q28_4 x58), (2512, ⟨34, .live, true, flat E_B (((x69 ++ x59) ++ v71) ++ a0.f1)⟩)]) (ep := 35) (by kernel_rfl) ?_
          obtain ⟨v74, hv74, h⟩ := bS h
          refine .cc true rfl rfl (C_simple_packed _ _ _ hv74) ent_simple_packed rfl rfl rfl rfl (g_cons (g_row E_B x60 rfl rfl rfl rfl rfl) g_nil) rfl ?_
          obtain ⟨hb75, h⟩ := gS h
          refine .oo tabOk rfl rfl rfl (q_app E_B (l := (((x69 ++ x59) ++ v71) ++ a0.f1)) rfl rfl rfl rfl rfl rfl rfl rfl rfl rfl rfl rfl rfl (.row v74 rfl rfl rfl rfl) hb75) ?_
          refine .seg tabOk 7 1 [6, 7, 22] [111, 127, 2560] (t := [(q28_9 x57), (q28_6 x58), (22, (.sref (2560, 35) 0 ((((x69 ++ x59) ++ v71) ++ a0.f1) ++ v74).length 1))]) (h := [(q28_7 x57), (q28_4 x58), (2560, ⟨35, .live, true, flat E_B ((((x69 ++ x59) ++ v71) ++ a0.f1) ++ v74)⟩)]) (ep := 36) (by kernel_rfl) ?_
          refine .fin rfl ?_
          refine sqN ?_
          refine .seq ?_
          refine .rgI rfl ?_
          refine .seg tabOk 0 2 [7, 161, 162] [111, 127, 2560] (t := [(q28_6 x58), (161, (.sref (2560, 35) 0 ((((x69 ++ x59) ++ v71) ++ a0.f1) ++ v74).length 1)), (162, (.sref (111, 18) 0 x57.length 1))]) (h := [(q28_7 x57), (q28_4 x58), (2560, ⟨35, .live, true, flat E_B ((((x69 ++ x59) ++ v71) ++ a0.f1) ++ v74)⟩)]) (ep := 38) (by kernel_rfl) ?_
          obtain ⟨hb76, h⟩ := gS h
          refine .oo tabOk rfl rfl rfl (q_app E_B (l := ((((x69 ++ x59) ++ v71) ++ a0.f1) ++ v74)) rfl rfl rfl rfl rfl rfl rfl rfl rfl rfl rfl rfl rfl (.row x57 rfl rfl rfl rfl) hb76) ?_
          refine .seg tabOk 3 1 [163, 164] [127, 2608] (t := [(163, (.sref (2608, 38) 0 (((((x69 ++ x59) ++ v71) ++ a0.f1) ++ v74) ++ x57).length 1)), (164, (.sref (127, 18) 0 x58.length 1))]) (h := [(q28_4 x58), (2608, ⟨38, .live, true, flat E_B (((((x69 ++ x59) ++ v71) ++ a0.f1) ++ v74) ++ x57)⟩)]) (ep := 39) (by kernel_rfl) ?_
          obtain ⟨hb77, h⟩ := gS h
          refine .oo tabOk rfl rfl rfl (q_app E_B (l := (((((x69 ++ x59) ++ v71) ++ a0.f1) ++ v74) ++ x57)) rfl rfl rfl rfl rfl rfl rfl rfl rfl rfl rfl rfl rfl (.row x58 rfl rfl rfl rfl) hb77) ?_
          refine .seg tabOk 5 2 [2, 3] [2640] (t := [(2, (.sref (2640, 39) 0 ((((((x69 ++ x59) ++ v71) ++ a0.f1) ++ v74) ++ x57) ++ x58).length 1)), (3, (vI 0))]) (h := [(2640, ⟨39, .live, true, flat E_B ((((((x69 ++ x59) ++ v71) ++ a0.f1) ++ v74) ++ x57) ++ x58)⟩)]) (ep := 40) (by kernel_rfl) ?_
          refine .fin rfl ?_
          refine sqN ?_
          refine .ret ?_
          injection h with h
          subst h
          exact ⟨.inr rfl, _, _, (f_cons (f_tmp rfl (o1_row E_B ((((((x69 ++ x59) ++ v71) ++ a0.f1) ++ v74) ++ x57) ++ x58) rfl rfl rfl rfl rfl)) (f_cons rfl f_nil)), nd_of rfl, rfl, rfl⟩
abbrev R_law07_triangle := T_SLLSiibeLBe
def F_law07_triangle (n : Nat) : Option R_law07_triangle :=
  some (⟨([([(⟨0, 0, true⟩ : T_Siibe), (⟨100, 0, true⟩ : T_Siibe), (⟨0, 300, true⟩ : T_Siibe)] : List T_Siibe)] : List (List T_Siibe)), ([] : List Int)⟩ : T_SLLSiibeLBe)
theorem C_law07_triangle (n : Nat) (r : R_law07_triangle) (h : F_law07_triangle n = some r) : CallS Try.prog 46 [] (.agg [(.own 1 r.f0.length (flat E_LSiibe r.f0)), (.own 1 r.f1.length (flat E_B r.f1))]) [] := by
  refine CallS.introK tabOk Try.func46 rfl Try.ntmps46 (Nat.le_of_ble_eq_true rfl) ?_
  rw [F_law07_triangle] at h
  refine .seq ?_
  refine .rgI rfl ?_
  refine .seg tabOk 0 1 [0] [0] (t := [(0, (.ptr (0, 1) 0))]) (h := [(0, ⟨1, .live, false, [.nils, .nils]⟩)]) (ep := 2) (by kernel_rfl) ?_
  refine .fin rfl ?_
  refine sqN ?_
  refine .seq ?_
  refine .rgI rfl ?_
  refine .seg tabOk 0 4 [0, 4] [0, 64] (t := [(0, (.ptr (0, 1) 0)), (4, (.sref (64, 3) 0 ([(⟨0, 0, true⟩ : T_Siibe), (⟨100, 0, true⟩ : T_Siibe), (⟨0, 300, true⟩ : T_Siibe)] : List T_Siibe).length 3))]) (h := [(0, ⟨1, .live, false, [.nils, .nils]⟩), (64, ⟨3, .live, true, flat E_Siibe ([(⟨0, 0, true⟩ : T_Siibe), (⟨100, 0, true⟩ : T_Siibe), (⟨0, 300, true⟩ : T_Siibe)] : List T_Siibe)⟩)]) (ep := 4) (by kernel_rfl) ?_
  refine .oo tabOk rfl rfl rfl (q_bs E_LSiibe (cs := [(.sref (64, 3) 0 ([(⟨0, 0, true⟩ : T_Siibe), (⟨100, 0, true⟩ : T_Siibe), (⟨0, 300, true⟩ : T_Siibe)] : List T_Siibe).length 3)]) ([([(⟨0, 0, true⟩ : T_Siibe), (⟨100, 0, true⟩ : T_Siibe), (⟨0, 300, true⟩ : T_Siibe)] : List T_Siibe)] : List (List T_Siibe)) rfl rfl rfl rfl rfl rfl (z_row E_Siibe ([(⟨0, 0, true⟩ : T_Siibe), (⟨100, 0, true⟩ : T_Siibe), (⟨0, 300, true⟩ : T_Siibe)] : List T_Siibe) rfl rfl rfl rfl rfl z_nil) rfl rfl rfl) ?_
  refine .seg tabOk 5 2 [0] [0, 80] (t := [(0, (.ptr (0, 1) 0))]) (h := [(0, ⟨1, .live, false, [(.sref (80, 4) 0 ([([(⟨0, 0, true⟩ : T_Siibe), (⟨100, 0, true⟩ : T_Siibe), (⟨0, 300, true⟩ : T_Siibe)] : List T_Siibe)] : List (List T_Siibe)).length 1), .nils]⟩), (80, ⟨4, .live, true, flat E_LSiibe ([([(⟨0, 0, true⟩ : T_Siibe), (⟨100, 0, true⟩ : T_Siibe), (⟨0, 300, true⟩ : T_Siibe)] : List T_Siibe)] : List (List T_Siibe))⟩)]) (ep := 5) (by kernel_rfl) ?_
  refine .fin rfl ?_
  refine sqN ?_
  refine .pre (.nilRowO (0, 1) _ 1 15 1 rfl rfl rfl rfl (fresh_none rfl) (by decide)) ?_
  refine .ret ?_
  injection h with h
  subst h
  exact ⟨.inr rfl, _, _, (f_cons (f_mem rfl (o_agg (ol_cons (o1_row E_LSiibe ([([(⟨0, 0, true⟩ : T_Siibe), (⟨100, 0, true⟩ : T_Siibe), (⟨0, 300, true⟩ : T_Siibe)] : List T_Siibe)] : List (List T_Siibe)) rfl rfl rfl rfl rfl) (ol_cons (o1_row E_B ([] : List Int) rfl rfl rfl rfl rfl) ol_nil)))) f_nil), nd_of rfl, rfl, rfl⟩
abbrev R_law07_alive := Bool
def F_law07_alive (n : Nat) : Option R_law07_alive :=
  Option.bind (F_law07_triangle n ) fun v1 =>
  Option.bind (F_simple_Write n v1) fun v2 =>
  Option.bind (F_simple_Read n v2.1) fun v3 =>
  Option.bind (F_law07_triangle n ) fun v4 =>
  Option.bind (F_simple_Box n v4.f0) fun v5 =>
  if (decide (v2.2 = 0)) then
    if ((bstr v2.1).toList == (⟨#[0, 1, 0, 0, 0, 0, 0, 100, 1, 44, 0, 2, 0, 0, 49, 51, 3, 100, 100, 1, 44]⟩ : ByteArray).toList) then
      if (decide (v3.2 = 0)) then
        Option.bind (F_law07_triangle n ) fun v9 =>
        Option.bind (F_r07_Same n v3.1.f0 v9.f0) fun v10 =>
        if v10 then
          if ((decide (v5.1.f0 = 0)) && ((decide (v5.1.f1 = 0)) && true)) then
            some ((decide (v5.2.f0 = 100)) && ((decide (v5.2.f1 = 300)) && true))
          else
          some false
        else
        some false
      else
      some false
    else
    some false
  else
  some false
abbrev q22_0 (v3 : R_simple_Read) : Nat × Ob := (48, ⟨6, .live, false, [(.sref (224, 6) 0 v3.1.f0.length 1), (.sref (225, 6) 0 v3.1.f1.length 1)]⟩)
abbrev q22_1 (v5 : R_simple_Box) : Nat × Ob := (80, ⟨9, .live, false, [(vI v5.1.f0), (vI v5.1.f1)]⟩)
abbrev q22_2 (v5 : R_simple_Box) : Nat × Ob := (96, ⟨9, .live, false, [(vI v5.2.f0), (vI v5.2.f1)]⟩)
abbrev q22_3 (v3 : R_simple_Read) : Nat × Ob := (224, ⟨6, .live, true, flat E_LSiibe v3.1.f0⟩)
abbrev q22_4 (v3 : R_simple_Read) : Nat × Ob := (225, ⟨6, .live, true, flat E_B v3.1.f1⟩)
abbrev q22_5 (v2 : R_simple_Write) : Nat × Ob := (144, ⟨3, .froz, true, flat E_B v2.1⟩)
abbrev q22_6 (v9 : R_law07_triangle) : Nat × Ob := (592, ⟨11, .live, true, flat E_LSiibe v9.f0⟩)
abbrev q22_7 (v9 : R_law07_triangle) : Nat × Ob := (593, ⟨11, .live, true, flat E_B v9.f1⟩)
abbrev q22_8 (v2 : R_simple_Write) : Nat × V := (1, (.sref (144, 3) 0 v2.1.length 1))
theorem C_law07_alive (n : Nat) (r : R_law07_alive) (h : F_law07_alive n = some r) : CallS Try.prog 22 [] (.val (.bool r)) [] := by
  refine CallS.introK tabOk Try.func22 rfl Try.ntmps22 (Nat.le_of_ble_eq_true rfl) ?_
  rw [F_law07_alive] at h
  refine .seq ?_
  refine .rgI rfl ?_
  refine .seg tabOk 0 1 [] [] (t := []) (h := []) (ep := 2) (by kernel_rfl) ?_
  refine .fin rfl ?_
  refine sqN ?_
  refine .seq ?_
  refine .rgI rfl ?_
  obtain ⟨v1, hv1, h⟩ := bS h
  refine .cc true rfl rfl (C_law07_triangle _ _ hv1) ent_law07_triangle rfl rfl rfl rfl g_nil rfl ?_
  obtain ⟨v2, hv2, h⟩ := bS h
  refine .cc true rfl rfl (C_simple_Write _ _ _ hv2) ent_simple_Write rfl rfl rfl rfl (g_cons (g_agg (s_row E_LSiibe v1.f0 rfl rfl rfl rfl rfl (s_row E_B v1.f1 rfl rfl rfl rfl rfl s_nil))) g_nil) rfl ?_
  refine .seg tabOk 2 5 [1, 2] [144] (t := [(q22_8 v2), (2, (vI v2.2))]) (h := [(144, ⟨3, .live, true, flat E_B v2.1⟩)]) (ep := 4) (by kernel_rfl) ?_
  refine .fin rfl ?_
  refine sqN ?_
  refine .seq ?_
  refine .rgI rfl ?_
  refine .seg tabOk 0 1 [1, 2, 13] [144] (t := [(q22_8 v2), (2, (vI v2.2)), (13, (.sref (144, 3) 0 v2.1.length 1))]) (h := [(144, ⟨3, .live, true, flat E_B v2.1⟩)]) (ep := 6) (by kernel_rfl) ?_
  obtain ⟨v3, hv3, h⟩ := bS h
  refine .cc true rfl rfl (C_simple_Read _ _ _ hv3) ent_simple_Read rfl rfl rfl rfl (g_cons (g_row E_B v2.1 rfl rfl rfl rfl rfl) g_nil) rfl ?_
  refine .seg tabOk 2 6 [1, 2, 3, 4] [48, 144, 224, 225] (t := [(q22_8 v2), (2, (vI v2.2)), (3, (.ptr (48, 6) 0)), (4, (vI v3.2))]) (h := [(q22_0 v3), (q22_5 v2), (q22_3 v3), (q22_4 v3)]) (ep := 7) (by kernel_rfl) ?_
  refine .fin rfl ?_
  refine sqN ?_
  refine .seq ?_
  refine .rgI rfl ?_
  obtain ⟨v4, hv4, h⟩ := bS h
  refine .cc true rfl rfl (C_law07_triangle _ _ hv4) ent_law07_triangle rfl rfl rfl rfl g_nil rfl ?_
  refine .seg tabOk 1 1 [1, 2, 3, 4, 19] [48, 144, 224, 225, 288] (t := [(q22_8 v2), (2, (vI v2.2)), (3, (.ptr (48, 6) 0)), (4, (vI v3.2)), (19, (.sref (288, 8) 0 v4.f0.length 1))]) (h := [(q22_0 v3), (q22_5 v2), (q22_3 v3), (q22_4 v3), (288, ⟨8, .live, true, flat E_LSiibe v4.f0⟩)]) (ep := 9) (by kernel_rfl) ?_
  obtain ⟨v5, hv5, h⟩ := bS h
  refine .cc false rfl rfl (C_simple_Box _ _ _ hv5) ent_simple_Box rfl rfl rfl rfl (g_cons (g_row E_LSiibe v4.f0 rfl rfl rfl rfl rfl) g_nil) rfl ?_
  refine .seg tabOk 3 7 [1, 2, 3, 4, 5, 6] [48, 80, 96, 144, 224, 225] (t := [(q22_8 v2), (2, (vI v2.2)), (3, (.ptr (48, 6) 0)), (4, (vI v3.2)), (5, (.ptr (80, 9) 0)), (6, (.ptr (96, 9) 0))]) (h := [(q22_0 v3), (q22_1 v5), (q22_2 v5), (q22_5 v2), (q22_3 v3), (q22_4 v3)]) (ep := 10) (by kernel_rfl) ?_
  refine .fin rfl ?_
  refine sqN ?_
  refine .seq ?_
  refine .rgD rfl ?_
  refine .seg tabOk 0 3 [1, 3, 4, 5, 6, 25] [48, 80, 96, 144, 224, 225] (t := [(q22_8 v2), (3, (.ptr (48, 6) 0)), (4, (vI v3.2)), (5, (.ptr (80, 9) 0)), (6, (.ptr (96, 9) 0)), (25, (.val (.bool (decide (v2.2 = 0)))))]) (h := [(q22_0 v3), (q22_1 v5), (q22_2 v5), (q22_5 v2), (q22_3 v3), (q22_4 v3)]) (ep := 11) (by kernel_rfl) ?_
  cases hB6 : (decide (v2.2 = 0)) with
  | false =>
    have h := iF h hB6
    refine .seg tabOk 3 26 [0] [48, 80, 96, 144, 224, 225] (t := [(0, (.val (.bool false)))]) (h := [(q22_0 v3), (q22_1 v5), (q22_2 v5), (q22_5 v2), (q22_3 v3), (q22_4 v3)]) (ep := 11) (by kernel_rfl) ?_
    refine .fin mixed [0] [] (t := [(0, (.val (.bool false)))]) (h := []) (ep := 12) rfl (by kernel_rfl) rfl ?_
    refine sqN ?_
    refine .ret ?_
    injection h with h
    subst h
    exact ⟨.inr rfl, _, _, rfl, List.nodup_nil, rfl, rfl⟩
  | true =>
    have h := iT h hB6
    refine .seg tabOk 3 1 [3, 4, 5, 6, 25, 26] [48, 80, 96, 144, 224, 225] (t := [(3, (.ptr (48, 6) 0)), (4, (vI v3.2)), (5, (.ptr (80, 9) 0)), (6, (.ptr (96, 9) 0)), (25, (.val (.bool true))), (26, (.sref (144, 3) 0 v2.1.length 1))]) (h := [(q22_0 v3), (q22_1 v5), (q22_2 v5), (q22_5 v2), (q22_3 v3), (q22_4 v3)]) (ep := 11) (by kernel_rfl) ?_
    refine .oo tabOk rfl rfl rfl (q_strS E_B rfl (fun _ => rfl) rfl rfl rfl rfl rfl rfl rfl rfl rfl rfl) rfl ?_
    refine .seg tabOk 5 3 [3, 4, 5, 6, 30] [48, 80, 96, 144, 224, 225] (t := [(3, (.ptr (48, 6) 0)), (4, (vI v3.2)), (5, (.ptr (80, 9) 0)), (6, (.ptr (96, 9) 0)), (30, (.val (.bool ((bstr v2.1).toList == (⟨#[0, 1, 0, 0, 0, 0, 0, 100, 1, 44, 0, 2, 0, 0, 49, 51, 3, 100, 100, 1, 44]⟩ : ByteArray).toList))))]) (h := [(q22_0 v3), (q22_1 v5), (q22_2 v5), (q22_5 v2), (q22_3 v3), (q22_4 v3)]) (ep := 11) (by kernel_rfl) ?_
    cases hB7 : ((bstr v2.1).toList == (⟨#[0, 1, 0, 0, 0, 0, 0, 100, 1, 44, 0, 2, 0, 0, 49, 51, 3, 100, 100, 1, 44]⟩ : ByteArray).toList) with
    | false =>
      have h := iF h hB7
      refine .seg tabOk 8 21 [0] [48, 80, 96, 144, 224, 225] (t := [(0, (.val (.bool false)))]) (h := [(q22_0 v3), (q22_1 v5), (q22_2 v5), (q22_5 v2), (q22_3 v3), (q22_4 v3)]) (ep := 11) (by kernel_rfl) ?_
      refine .fin mixed [0] [] (t := [(0, (.val (.bool false)))]) (h := []) (ep := 12) rfl (by kernel_rfl) rfl ?_
      refine sqN ?_
      refine .ret ?_
      injection h with h
      subst h
      exact ⟨.inr rfl, _, _, rfl, List.nodup_nil, rfl, rfl⟩
    | true =>
      have h := iT h hB7
      refine .seg tabOk 8 4 [3, 5, 6, 34] [48, 80, 96, 144, 224, 225] (t := [(3, (.ptr (48, 6) 0)), (5, (.ptr (80, 9) 0)), (6, (.ptr (96, 9) 0)), (34, (.val (.bool (decide (v3.2 = 0)))))]) (h := [(q22_0 v3), (q22_1 v5), (q22_2 v5), (q22_5 v2), (q22_3 v3), (q22_4 v3)]) (ep := 11) (by kernel_rfl) ?_
      cases hB8 : (decide (v3.2 = 0)) with
      | false =>
        have h := iF h hB8
        refine .seg tabOk 12 17 [0] [48, 80, 96, 144, 224, 225] (t := [(0, (.val (.bool false)))]) (h := [(q22_0 v3), (q22_1 v5), (q22_2 v5), (q22_5 v2), (q22_3 v3), (q22_4 v3)]) (ep := 11) (by kernel_rfl) ?_
        refine .fin mixed [0] [] (t := [(0, (.val (.bool false)))]) (h := []) (ep := 12) rfl (by kernel_rfl) rfl ?_
        refine sqN ?_
        refine .ret ?_
        injection h with h
        subst h
        exact ⟨.inr rfl, _, _, rfl, List.nodup_nil, rfl, rfl⟩
      | true =>
        have h := iT h hB8
        refine .seg tabOk 12 2 [5, 6, 34, 36] [48, 80, 96, 144, 224, 225] (t := [(5, (.ptr (80, 9) 0)), (6, (.ptr (96, 9) 0)), (34, (.val (.bool true))), (36, (.sref (224, 6) 0 v3.1.f0.length 1))]) (h := [(q22_0 v3), (q22_1 v5), (q22_2 v5), (q22_5 v2), (q22_3 v3), (q22_4 v3)]) (ep := 11) (by kernel_rfl) ?_
        obtain ⟨v9, hv9, h⟩ := bS h
        refine .cc true rfl rfl (C_law07_triangle _ _ hv9) ent_law07_triangle rfl rfl rfl rfl g_nil rfl rfl ?_
        refine .seg tabOk 15 1 [5, 6, 34, 36, 38] [48, 80, 96, 144, 224, 225, 592, 593] (t := [(5, (.ptr (80, 9) 0)), (6, (.ptr (96, 9) 0)), (34, (.val (.bool true))), (36, (.sref (224, 6) 0 v3.1.f0.length 1)), (38, (.sref (592, 11) 0 v9.f0.length 1))]) (h := [(q22_0 v3), (q22_1 v5), (q22_2 v5), (q22_5 v2), (q22_3 v3), (q22_4 v3), (q22_6 v9), (q22_7 v9)]) (ep := 11) (by kernel_rfl) ?_
        obtain ⟨v10, hv10, h⟩ := bS h
        refine .cc false rfl rfl (C_r07_Same _ _ _ _ hv10) ent_r07_Same rfl rfl rfl rfl (g_cons (g_row E_LSiibe v3.1.f0 rfl rfl rfl rfl rfl) (g_cons (g_row E_LSiibe v9.f0 rfl rfl rfl rfl rfl) g_nil)) rfl rfl ?_
        refine .seg tabOk 17 2 [5, 6, 41] [48, 80, 96, 144, 224, 225, 592, 593] (t := [(5, (.ptr (80, 9) 0)), (6, (.ptr (96, 9) 0)), (41, (.val (.bool v10)))]) (h := [(q22_0 v3), (q22_1 v5), (q22_2 v5), (q22_5 v2), (q22_3 v3), (q22_4 v3), (q22_6 v9), (q22_7 v9)]) (ep := 11) (by kernel_rfl) ?_
        cases hB11 : v10 with
        | false =>
          have h := iF h hB11
          refine .seg tabOk 19 10 [0] [48, 80, 96, 144, 224, 225, 592, 593] (t := [(0, (.val (.bool false)))]) (h := [(q22_0 v3), (q22_1 v5), (q22_2 v5), (q22_5 v2), (q22_3 v3), (q22_4 v3), (q22_6 v9), (q22_7 v9)]) (ep := 11) (by kernel_rfl) ?_
          refine .fin mixed [0] [] (t := [(0, (.val (.bool false)))]) (h := []) (ep := 12) rfl (by kernel_rfl) rfl ?_
          refine sqN ?_
          refine .ret ?_
          injection h with h
          subst h
          exact ⟨.inr rfl, _, _, rfl, List.nodup_nil, rfl, rfl⟩
        | true =>
          have h := iT h hB11
          refine .seg tabOk 19 5 [6, 46] [48, 80, 96, 144, 224, 225, 592, 593] (t := [(6, (.ptr (96, 9) 0)), (46, (.val (.bool ((decide (v5.1.f0 = 0)) && ((decide (v5.1.f1 = 0)) && true)))))]) (h := [(q22_0 v3), (q22_1 v5), (q22_2 v5), (q22_5 v2), (q22_3 v3), (q22_4 v3), (q22_6 v9), (q22_7 v9)]) (ep := 11) (by kernel_rfl) ?_
          cases hB12 : ((decide (v5.1.f0 = 0)) && ((decide (v5.1.f1 = 0)) && true)) with
          | false =>
            have h := iF h hB12
            refine .seg tabOk 24 5 [0] [48, 80, 96, 144, 224, 225, 592, 593] (t := [(0, (.val (.bool false)))]) (h := [(q22_0 v3), (q22_1 v5), (q22_2 v5), (q22_5 v2), (q22_3 v3), (q22_4 v3), (q22_6 v9), (q22_7 v9)]) (ep := 11) (by kernel_rfl) ?_
            refine .fin mixed [0] [] (t := [(0, (.val (.bool false)))]) (h := []) (ep := 12) rfl (by kernel_rfl) rfl ?_
            refine sqN ?_
            refine .ret ?_
            injection h with h
            subst h
            exact ⟨.inr rfl, _, _, rfl, List.nodup_nil, rfl, rfl⟩
          | true =>
            have h := iT h hB12
            refine .seg tabOk 24 5 [0] [48, 80, 96, 144, 224, 225, 592, 593] (t := [(0, (.val (.bool ((decide (v5.2.f0 = 100)) && ((decide (v5.2.f1 = 300)) && true)))))]) (h := [(q22_0 v3), (q22_1 v5), (q22_2 v5), (q22_5 v2), (q22_3 v3), (q22_4 v3), (q22_6 v9), (q22_7 v9)]) (ep := 11) (by kernel_rfl) ?_
            refine .fin mixed [0] [] (t := [(0, (.val (.bool ((decide (v5.2.f0 = 100)) && ((decide (v5.2.f1 = 300)) && true)))))]) (h := []) (ep := 12) rfl (by kernel_rfl) rfl ?_
            refine sqN ?_
            refine .ret ?_
            injection h with h
            subst h
            exact ⟨.inr rfl, _, _, rfl, List.nodup_nil, rfl, rfl⟩
abbrev R_r07_Great := Bool
def L_r07_Great_0 (a0 : (List (List T_Siibe))) (j2 : Int → Option R_r07_Great) : Nat → Int → Int → Option R_r07_Great
  | 0, _, _ => none
  | n + 1, y3, y4 =>
    if (decide (y3 < (a0.length : Int))) then
      gd (0 ≤ y3 ∧ y3 < a0.length) <|
      if (decide (5000 < ((nth E_LSiibe a0 y3).length : Int))) then
        some true
      else
      L_r07_Great_0 a0 j2 n (w64 (y3 + 1)) (w64 (y4 + ((nth E_LSiibe a0 y3).length : Int)))
    else
    j2 y4
def F_r07_Great (n : Nat) (a0 : (List (List T_Siibe))) : Option R_r07_Great :=
  if (decide (600 < (a0.length : Int))) then
    some true
  else
  lj (fun (x8 : Int) =>
    some (decide (9000 < x8))) fun j2 =>
  L_r07_Great_0 a0 j2 n 0 0
abbrev q26_0 (a0 : (List (List T_Siibe))) : Nat × V := (9, (.ro 1 a0.length (flat E_LSiibe a0)))
abbrev q26_1 (a0 : (List (List T_Siibe))) : Nat × V := (10, (vI (a0.length : Int)))
theorem C_r07_Great (n : Nat) (a0 : (List (List T_Siibe))) (r : R_r07_Great) (h : F_r07_Great n a0 = some r) : CallS Try.prog 26 [(.ro 1 a0.length (flat E_LSiibe a0))] (.val (.bool r)) [none] := by
  refine CallS.introK tabOk Try.func26 rfl Try.ntmps26 (Nat.le_of_ble_eq_true rfl) ?_
  rw [F_r07_Great] at h
  refine .seq ?_
  refine .rgI rfl ?_
  refine .seg tabOk 0 1 [0] [] (t := [(0, (.ro 1 a0.length (flat E_LSiibe a0)))]) (h := []) (ep := 2) (by kernel_rfl) ?_
  refine .fin rfl ?_
  refine sqN ?_
  refine .seq ?_
  refine .seq ?_
  refine .rgI rfl ?_
  refine .seg tabOk 0 3 [0, 8] [] (t := [(0, (.ro 1 a0.length (flat E_LSiibe a0))), (8, (.val (.bool (decide (600 < (a0.length : Int))))))]) (h := []) (ep := 4) (by kernel_rfl) ?_
  refine .fin rfl ?_
  refine sqN ?_
  refine .cond (decide (600 < (a0.length : Int))) rfl (fun hc1 => ?_) (fun hc1 => ?_)
  · have h := iT h hc1
    refine .seq ?_
    refine .rgI rfl ?_
    refine .seg tabOk 0 1 [2] [] (t := [(2, (.val (.bool true)))]) (h := []) (ep := 6) (by kernel_rfl) ?_
    refine .fin rfl ?_
    refine sqN ?_
    refine .ret ?_
    refine sqR ?_
    injection h with h
    subst h
    exact ⟨.inr rfl, _, _, rfl, List.nodup_nil, rfl, rfl⟩
  · have h := iF h hc1
    refine .skip ?_
    refine sqN ?_
    refine .seq ?_
    refine .rgI rfl ?_
    refine .seg tabOk 0 1 [0, 3] [] (t := [(0, (.ro 1 a0.length (flat E_LSiibe a0))), (3, (vI 0))]) (h := []) (ep := 6) (by kernel_rfl) ?_
    refine .fin rfl ?_
    refine sqN ?_
    refine .seq ?_
    refine .seq ?_
    refine .rgI rfl ?_
    refine .seg tabOk 0 3 [3, 9, 10, 11] [] (t := [(3, (vI 0)), (q26_0 a0), (q26_1 a0), (11, (vI 0))]) (h := []) (ep := 8) (by kernel_rfl) ?_
    refine .fin rfl ?_
    refine sqN ?_
    obtain ⟨j2, hj2, h⟩ := ljS h
    refine .join (fun s' => ∃ x8, s' = ⟨[(3, (vI x8))], [], 12⟩ ∧ j2 x8 = some r) ?_ ?_
    · refine .block ?_
      refine .loopF (β := Int × Int) (fun v => ⟨[(3, (vI v.2)), (q26_0 a0), (q26_1 a0), (11, (vI v.1))], [], 9⟩) (fun m v => L_r07_Great_0 a0 j2 m v.1 v.2 = some r) n (0, 0) (by exact .tn [] ⟨rfl, rfl, rfl, rfl, trivial⟩ trivial rfl) h ?_
      rintro m ⟨y3, y4⟩ h
      cases m with
      | zero => exact nomatch h
      | succ n =>
        rw [L_r07_Great_0] at h
        refine .seq ?_
        refine .rgI rfl ?_
        refine .seg tabOk 0 1 [3, 9, 10, 11, 12] [] (t := [(3, (vI y4)), (q26_0 a0), (q26_1 a0), (11, (vI y3)), (12, (.val (.bool (decide (y3 < (a0.length : Int))))))]) (h := []) (ep := 11) (by kernel_rfl) ?_
        refine .fin rfl ?_
        refine sqN ?_
        refine .seq ?_
        refine .cond (decide (y3 < (a0.length : Int))) rfl (fun hc5 => ?_) (fun hc5 => ?_)
        · have h := iT h hc5
          refine .skip ?_
          refine sqN ?_
          refine .seq ?_
          refine .block ?_
          refine .seq ?_
          refine .rgI rfl ?_
          obtain ⟨hb6, h⟩ := gS h
          refine .o tabOk rfl rfl rfl (q_idx E_LSiibe rfl rfl rfl rfl rfl rfl hb6) ?_
          refine .o tabOk rfl rfl rfl (q_ld0 E_LSiibe rfl rfl rfl hb6 rfl) ?_
          refine .seg tabOk 2 1 [3, 5, 9, 10, 11] [] (t := [(3, (vI y4)), (5, (.ro 3 (nth E_LSiibe a0 y3).length (flat E_Siibe (nth E_LSiibe a0 y3)))), (q26_0 a0), (q26_1 a0), (11, (vI y3))]) (h := []) (ep := 13) (by kernel_rfl) ?_
          refine .fin rfl ?_
          refine sqN ?_
          refine .seq ?_
          refine .seq ?_
          refine .rgI rfl ?_
          refine .seg tabOk 0 3 [3, 5, 9, 10, 11, 17] [] (t := [(3, (vI y4)), (5, (.ro 3 (nth E_LSiibe a0 y3).length (flat E_Siibe (nth E_LSiibe a0 y3)))), (q26_0 a0), (q26_1 a0), (11, (vI y3)), (17, (.val (.bool (decide (5000 < ((nth E_LSiibe a0 y3).length : Int))))))]) (h := []) (ep := 15) (by kernel_rfl) ?_
          refine .fin rfl ?_
          refine sqN ?_
          refine .cond (decide (5000 < ((nth E_LSiibe a0 y3).length : Int))) rfl (fun hc7 => ?_) (fun hc7 => ?_)
          · have h := iT h hc7
            refine .seq ?_
            refine .rgI rfl ?_
            refine .seg tabOk 0 1 [2] [] (t := [(2, (.val (.bool true)))]) (h := []) (ep := 17) (by kernel_rfl) ?_
            refine .fin rfl ?_
            refine sqN ?_
            refine .ret ?_
            refine sqR ?_
            refine bkR ?_
            refine sqR ?_
            refine jkR ?_
            refine bkR ?_
            refine jkR ?_
            refine sqR ?_
            injection h with h
            subst h
            exact ⟨.inr rfl, _, _, rfl, List.nodup_nil, rfl, rfl⟩
          · have h := iF h hc7
            refine .skip ?_
            refine sqN ?_
            refine .rgI rfl ?_
            refine .seg tabOk 0 5 [3, 9, 10, 11] [] (t := [(3, (vI (w64 (y4 + ((nth E_LSiibe a0 y3).length : Int))))), (q26_0 a0), (q26_1 a0), (11, (vI y3))]) (h := []) (ep := 17) (by kernel_rfl) ?_
            refine .fin rfl ?_
            refine bkN ?_
            refine sqN ?_
            refine .rgI rfl ?_
            refine .seg tabOk 0 2 [3, 9, 10, 11] [] (t := [(3, (vI (w64 (y4 + ((nth E_LSiibe a0 y3).length : Int))))), (q26_0 a0), (q26_1 a0), (11, (vI (w64 (y3 + 1))))]) (h := []) (ep := 19) (by kernel_rfl) ?_
            refine .fin rfl ?_
            exact jkN (by exact .tn [] ⟨rfl, rfl, rfl, rfl, trivial⟩ trivial rfl) ⟨n, ((w64 (y3 + 1)), (w64 (y4 + ((nth E_LSiibe a0 y3).length : Int)))), Nat.lt_succ_self n, rfl, h⟩
        · have h := iF h hc5
          refine .exit ?_
          refine sqX ?_
          refine jkX ?_
          refine bkE ?_
          exact jkN (by exact .tn [] ⟨rfl, trivial⟩ trivial rfl) ⟨_, rfl, h⟩
    · rintro _ ⟨x8, rfl, h⟩
      subst hj2
      refine sqN ?_
      refine .seq ?_
      refine .rgI rfl ?_
      refine .seg tabOk 0 3 [2] [] (t := [(2, (.val (.bool (decide (9000 < x8)))))]) (h := []) (ep := 14) (by kernel_rfl) ?_
      refine .fin rfl ?_
      refine sqN ?_
      refine .ret ?_
      injection h with h
      subst h
      exact ⟨.inr rfl, _, _, rfl, List.nodup_nil, rfl, rfl⟩
abbrev R_law07_SimpleCut := Bool
def F_law07_SimpleCut (n : Nat) (a0 : T_SLLSiibeLBe) (a1 : Int) : Option R_law07_SimpleCut :=
  Option.bind (F_law07_alive n ) fun v1 =>
  if (!v1) then
    some false
  else
  lj (fun (x5 : Bool) =>
    if x5 then
      some true
    else
    Option.bind (F_simple_Write n a0) fun v8 =>
    if ((!decide (v8.2 = 0)) || (decide ((v8.1.length : Int) = 0))) then
      some (decide ((v8.1.length : Int) = 0))
    else
    gd ((v8.1.length : Int) ≠ 0) <|
    gd ((0 : Int) ≤ 0 ∧ 0 ≤ (Int.tmod (w64 (a1)) (v8.1.length : Int)) ∧ (Int.tmod (w64 (a1)) (v8.1.length : Int)) ≤ (v8.1.length : Int)) <|
    Option.bind (F_simple_Read n (slc v8.1 0 (Int.tmod (w64 (a1)) (v8.1.length : Int)))) fun v13 =>
    if (decide ((Int.tmod (w64 (a1)) (v8.1.length : Int)) = 0)) then
      if (decide (v13.2 = 0)) then
        some (decide ((v13.1.f0.length : Int) = 0))
      else
      some false
    else
    if (decide (v13.2 = 3)) then
      some (decide ((v13.1.f0.length : Int) = 0))
    else
    some false) fun j6 =>
  Option.bind (F_r07_Great n a0.f0) fun v3 =>
  if v3 then
    j6 true
  else
  j6 (decide (1000 < (a0.f1.length : Int)))
abbrev q12_0 (a0 : T_SLLSiibeLBe) : Nat × Ob := (32, ⟨1, .live, false, [(.ro 1 a0.f0.length (flat E_LSiibe a0.f0)), (.ro 1 a0.f1.length (flat E_B a0.f1))]⟩)
abbrev q12_1 (v13 : R_simple_Read) : Nat × Ob := (128, ⟨21, .live, false, [(.sref (720, 21) 0 v13.1.f0.length 1), (.sref (721, 21) 0 v13.1.f1.length 1)]⟩)
abbrev q12_2 (a1 : Int) : Nat × V := (1, (.val (.int .u16 a1)))
abbrev q12_3 (v8 : R_simple_Write) : Nat × Ob := (368, ⟨11, .live, true, flat E_B v8.1⟩)
abbrev q12_4 (v8 : R_simple_Write) : Nat × V := (5, (.sref (368, 11) 0 v8.1.length 1))
abbrev q12_5 (v13 : R_simple_Read) : Nat × Ob := (720, ⟨21, .live, true, flat E_LSiibe v13.1.f0⟩)
abbrev q12_6 (v13 : R_simple_Read) : Nat × Ob := (721, ⟨21, .live, true, flat E_B v13.1.f1⟩)
abbrev q12_7 (a1 : Int) (v8 : R_simple_Write) : Nat × V := (7, (vI (Int.tmod (w64 (a1)) (v8.1.length : Int))))
theorem C_law07_SimpleCut (n : Nat) (a0 : T_SLLSiibeLBe) (a1 : Int) (r : R_law07_SimpleCut) (h : F_law07_SimpleCut n a0 a1 = some r) : CallS Try.prog 12 [(.agg [(.ro 1 a0.f0.length (flat E_LSiibe a0.f0)), (.ro 1 a0.f1.length (flat E_B a0.f1))]), (.val (.int .u16 a1))] (.val (.bool r)) [none, none] := by
  refine CallS.introK tabOk Try.func12 rfl Try.ntmps12 (Nat.le_of_ble_eq_true rfl) ?_
  rw [F_law07_SimpleCut] at h
  refine .seq ?_
  refine .rgI rfl ?_
  refine .seg tabOk 0 2 [1, 2] [32] (t := [(q12_2 a1), (2, (.ptr (32, 1) 0))]) (h := [(q12_0 a0)]) (ep := 2) (by kernel_rfl) ?_
  refine .fin rfl ?_
  refine sqN ?_
  refine .seq ?_
  refine .seq ?_
  refine .rgI rfl ?_
  obtain ⟨v1, hv1, h⟩ := bS h
  refine .cc true rfl rfl (C_law07_alive _ _ hv1) ent_law07_alive rfl rfl rfl rfl g_nil rfl ?_
  refine .seg tabOk 1 1 [1, 2, 11] [32] (t := [(q12_2 a1), (2, (.ptr (32, 1) 0)), (11, (.val (.bool (!v1))))]) (h := [(q12_0 a0)]) (ep := 4) (by kernel_rfl) ?_
  refine .fin rfl ?_
  refine sqN ?_
  refine .cond (!v1) rfl (fun hc2 => ?_) (fun hc2 => ?_)
  · have h := iT h hc2
    refine .seq ?_
    refine .rgI rfl ?_
    refine .seg tabOk 0 1 [4] [] (t := [(4, (.val (.bool false)))]) (h := []) (ep := 6) (by kernel_rfl) ?_
    refine .fin rfl ?_
    refine sqN ?_
    refine .ret ?_
    refine sqR ?_
    injection h with h
    subst h
    exact ⟨.inr rfl, _, _, rfl, List.nodup_nil, rfl, rfl⟩
  · have h := iF h hc2
    refine .skip ?_
    refine sqN ?_
    refine .seq ?_
    refine .seq ?_
    obtain ⟨j6, hj6, h⟩ := ljS h
    refine .join (fun s' => ∃ x5, s' = ⟨[(q12_2 a1), (2, (.ptr (32, 1) 0)), (20, (.val (.bool x5)))], [(q12_0 a0)], 9⟩ ∧ j6 x5 = some r) ?_ ?_
    · refine .rgI rfl ?_
      refine .seg tabOk 0 2 [1, 2, 13] [32] (t := [(q12_2 a1), (2, (.ptr (32, 1) 0)), (13, (.ro 1 a0.f0.length (flat E_LSiibe a0.f0)))]) (h := [(q12_0 a0)]) (ep := 6) (by kernel_rfl) ?_
      obtain ⟨v3, hv3, h⟩ := bS h
      refine .cc true rfl rfl (C_r07_Great _ _ _ hv3) ent_r07_Great rfl rfl rfl rfl (g_cons (g_pl rfl rfl) g_nil) rfl ?_
      refine .seg tabOk 3 1 [1, 2, 15] [32] (t := [(q12_2 a1), (2, (.ptr (32, 1) 0)), (15, (.val (.bool v3)))]) (h := [(q12_0 a0)]) (ep := 7) (by kernel_rfl) ?_
      cases hB4 : v3 with
      | false =>
        have h := iF h hB4
        refine .seg tabOk 4 5 [1, 2, 20] [32] (t := [(q12_2 a1), (2, (.ptr (32, 1) 0)), (20, (.val (.bool (decide (1000 < (a0.f1.length : Int))))))]) (h := [(q12_0 a0)]) (ep := 8) (by kernel_rfl) ?_
        refine .fin rfl ?_
        exact jkN (by exact .tn [((32, 1), (32, 1))] ⟨rfl, rfl, rfl, trivial⟩ ⟨rfl, ⟨_, rfl, rfl⟩, trivial⟩ rfl) ⟨_, rfl, h⟩
      | true =>
        have h := iT h hB4
        refine .seg tabOk 4 5 [1, 2, 20] [32] (t := [(q12_2 a1), (2, (.ptr (32, 1) 0)), (20, (.val (.bool true)))]) (h := [(q12_0 a0)]) (ep := 8) (by kernel_rfl) ?_
        refine .fin rfl ?_
        exact jkN (by exact .tn [((32, 1), (32, 1))] ⟨rfl, rfl, rfl, trivial⟩ ⟨rfl, ⟨_, rfl, rfl⟩, trivial⟩ rfl) ⟨_, rfl, h⟩
    · rintro _ ⟨x5, rfl, h⟩
      subst hj6
      refine sqN ?_
      refine .cond x5 rfl (fun hc7 => ?_) (fun hc7 => ?_)
      · have h := iT h hc7
        refine .seq ?_
        refine .rgI rfl ?_
        refine .seg tabOk 0 1 [4] [] (t := [(4, (.val (.bool true)))]) (h := []) (ep := 11) (by kernel_rfl) ?_
        refine .fin rfl ?_
        refine sqN ?_
        refine .ret ?_
        refine sqR ?_
        injection h with h
        subst h
        exact ⟨.inr rfl, _, _, rfl, List.nodup_nil, rfl, rfl⟩
      · have h := iF h hc7
        refine .skip ?_
        refine sqN ?_
        refine .seq ?_
        refine .rgI rfl ?_
        refine .seg tabOk 0 1 [1, 22] [] (t := [(q12_2 a1), (22, (.agg [(.ro 1 a0.f0.length (flat E_LSiibe a0.f0)), (.ro 1 a0.f1.length (flat E_B a0.f1))]))]) (h := []) (ep := 11) (by kernel_rfl) ?_
        obtain ⟨v8, hv8, h⟩ := bS h
        refine .cc true rfl rfl (C_simple_Write _ _ _ hv8) ent_simple_Write rfl rfl rfl rfl (g_cons (g_pl rfl rfl) g_nil) rfl ?_
        refine .seg tabOk 2 5 [1, 5, 6] [368] (t := [(q12_2 a1), (q12_4 v8), (6, (vI v8.2))]) (h := [(q12_3 v8)]) (ep := 12) (by kernel_rfl) ?_
        refine .fin rfl ?_
        refine sqN ?_
        refine .seq ?_
        refine .seq ?_
        refine .join (fun s' => s' = ⟨[(q12_2 a1), (q12_4 v8), (32, (.val (.bool ((!decide (v8.2 = 0)) || (decide ((v8.1.length : Int) = 0))))))], [(q12_3 v8)], 16⟩) ?_ ?_
        · refine .rgI rfl ?_
          refine .seg tabOk 0 3 [1, 5, 28] [368] (t := [(q12_2 a1), (q12_4 v8), (28, (.val (.bool (!decide (v8.2 = 0)))))]) (h := [(q12_3 v8)]) (ep := 14) (by kernel_rfl) ?_
          cases hB9 : (!decide (v8.2 = 0)) with
          | false =>
            skip
            refine .seg tabOk 3 4 [1, 5, 32] [368] (t := [(q12_2 a1), (q12_4 v8), (32, (.val (.bool (decide ((v8.1.length : Int) = 0)))))]) (h := [(q12_3 v8)]) (ep := 15) (by kernel_rfl) ?_
            refine .fin rfl ?_
            exact jkN (by exact .tn [((368, 11), (368, 11))] ⟨rfl, rfl, rfl, trivial⟩ ⟨rfl, ⟨_, rfl, ah_row E_B⟩, trivial⟩ rfl) rfl
          | true =>
            skip
            refine .seg tabOk 3 4 [1, 5, 32] [368] (t := [(q12_2 a1), (q12_4 v8), (32, (.val (.bool true)))]) (h := [(q12_3 v8)]) (ep := 15) (by kernel_rfl) ?_
            refine .fin rfl ?_
            exact jkN (by exact .tn [((368, 11), (368, 11))] ⟨rfl, rfl, rfl, trivial⟩ ⟨rfl, ⟨_, rfl, ah_row E_B⟩, trivial⟩ rfl) rfl
        · rintro _ rfl
          refine sqN ?_
          refine .cond ((!decide (v8.2 = 0)) || (decide ((v8.1.length : Int) = 0))) rfl (fun hc10 => ?_) (fun hc10 => ?_)
          · have h := iT h hc10
            refine .seq ?_
            refine .rgI rfl ?_
            refine .seg tabOk 0 4 [4] [] (t := [(4, (.val (.bool (decide ((v8.1.length : Int) = 0)))))]) (h := []) (ep := 18) (by kernel_rfl) ?_
            refine .fin rfl ?_
            refine sqN ?_
            refine .ret ?_
            refine sqR ?_
            injection h with h
            subst h
            exact ⟨.inr rfl, _, _, rfl, List.nodup_nil, rfl, rfl⟩
          · have h := iF h hc10
            refine .skip ?_
            refine sqN ?_
            refine .seq ?_
            refine .rgI rfl ?_
            refine .seg tabOk 0 4 [5, 37, 39] [368] (t := [(q12_4 v8), (37, (vI (w64 (a1)))), (39, (vI (v8.1.length : Int)))]) (h := [(q12_3 v8)]) (ep := 18) (by kernel_rfl) ?_
            obtain ⟨hb11, h⟩ := gS h
            refine .o tabOk rfl rfl rfl (q_rem rfl rfl hb11) ?_
            refine .seg tabOk 5 1 [5, 7] [368] (t := [(q12_4 v8), (q12_7 a1 v8)]) (h := [(q12_3 v8)]) (ep := 19) (by kernel_rfl) ?_
            refine .fin rfl ?_
            refine sqN ?_
            refine .seq ?_
            refine .rgI rfl ?_
            refine .seg tabOk 0 2 [7, 42, 43] [368] (t := [(q12_7 a1 v8), (42, (.sref (368, 11) 0 v8.1.length 1)), (43, (vI (Int.tmod (w64 (a1)) (v8.1.length : Int))))]) (h := [(q12_3 v8)]) (ep := 21) (by kernel_rfl) ?_
            obtain ⟨hb12, h⟩ := gS h
            refine .oo tabOk rfl rfl rfl (q_slS E_B (l := v8.1) rfl rfl rfl rfl rfl rfl rfl .no (.to rfl) hb12) ?_
            obtain ⟨v13, hv13, h⟩ := bS h
            refine .cc true rfl rfl (C_simple_Read _ _ _ hv13) ent_simple_Read rfl rfl rfl rfl (g_cons (g_part E_B v8.1 hb12 rfl rfl rfl rfl) g_nil) rfl ?_
            refine .seg tabOk 4 6 [7, 8, 9] [128, 720, 721] (t := [(q12_7 a1 v8), (8, (.ptr (128, 21) 0)), (9, (vI v13.2))]) (h := [(q12_1 v13), (q12_5 v13), (q12_6 v13)]) (ep := 22) (by kernel_rfl) ?_
            refine .fin rfl ?_
            refine sqN ?_
            refine .seq ?_
            refine .seq ?_
            refine .rgI rfl ?_
            refine .seg tabOk 0 2 [8, 9, 49] [128, 720, 721] (t := [(8, (.ptr (128, 21) 0)), (9, (vI v13.2)), (49, (.val (.bool (decide ((Int.tmod (w64 (a1)) (v8.1.length : Int)) = 0)))))]) (h := [(q12_1 v13), (q12_5 v13), (q12_6 v13)]) (ep := 24) (by kernel_rfl) ?_
            refine .fin rfl ?_
            refine sqN ?_
            refine .cond (decide ((Int.tmod (w64 (a1)) (v8.1.length : Int)) = 0)) rfl (fun hc14 => ?_) (fun hc14 => ?_)
            · have h := iT h hc14
              refine .seq ?_
              refine .rgI rfl ?_
              refine .seg tabOk 0 3 [8, 52] [128, 720, 721] (t := [(8, (.ptr (128, 21) 0)), (52, (.val (.bool (decide (v13.2 = 0)))))]) (h := [(q12_1 v13), (q12_5 v13), (q12_6 v13)]) (ep := 26) (by kernel_rfl) ?_
              cases hB15 : (decide (v13.2 = 0)) with
              | false =>
                have h := iF h hB15
                refine .seg tabOk 3 6 [4] [] (t := [(4, (.val (.bool false)))]) (h := []) (ep := 27) (by kernel_rfl) ?_
                refine .fin rfl ?_
                refine sqN ?_
                refine .ret ?_
                refine sqR ?_
                injection h with h
                subst h
                exact ⟨.inr rfl, _, _, rfl, List.nodup_nil, rfl, rfl⟩
              | true =>
                have h := iT h hB15
                refine .seg tabOk 3 6 [4] [] (t := [(4, (.val (.bool (decide ((v13.1.f0.length : Int) = 0)))))]) (h := []) (ep := 27) (by kernel_rfl) ?_
                refine .fin rfl ?_
                refine sqN ?_
                refine .ret ?_
                refine sqR ?_
                injection h with h
                subst h
                exact ⟨.inr rfl, _, _, rfl, List.nodup_nil, rfl, rfl⟩
            · have h := iF h hc14
              refine .skip ?_
              refine sqN ?_
              refine .seq ?_
              refine .rgI rfl ?_
              refine .seg tabOk 0 3 [8, 60] [128, 720, 721] (t := [(8, (.ptr (128, 21) 0)), (60, (.val (.bool (decide (v13.2 = 3)))))]) (h := [(q12_1 v13), (q12_5 v13), (q12_6 v13)]) (ep := 26) (by kernel_rfl) ?_
              cases hB16 : (decide (v13.2 = 3)) with
              | false =>
                have h := iF h hB16
                refine .seg tabOk 3 6 [4] [] (t := [(4, (.val (.bool false)))]) (h := []) (ep := 27) (by kernel_rfl) ?_
                refine .fin rfl ?_
                refine sqN ?_
                refine .ret ?_
                injection h with h
                subst h
                exact ⟨.inr rfl, _, _, rfl, List.nodup_nil, rfl, rfl⟩
              | true =>
                have h := iT h hB16
                refine .seg tabOk 3 6 [4] [] (t := [(4, (.val (.bool (decide ((v13.1.f0.length : Int) = 0)))))]) (h := []) (ep := 27) (by kernel_rfl) ?_
                refine .fin rfl ?_
                refine sqN ?_
                refine .ret ?_
                injection h with h
                subst h
                exact ⟨.inr rfl, _, _, rfl, List.nodup_nil, rfl, rfl⟩
end Go.Proofs.Ytgkekjfbacncoaa
