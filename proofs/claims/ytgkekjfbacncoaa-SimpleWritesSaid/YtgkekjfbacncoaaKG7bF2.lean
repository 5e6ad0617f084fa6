/- Printed by a program: shallow functions of the Go functions, and the proofs that the Go functions come to their answers. -/
import Derived.Test.YtgkekjfbacncoaaKG7bF1
set_option linter.unusedVariables false
open Go Go.Ab
namespace Go.Proofs.Ytgkekjfbacncoaa
abbrev R_simple_Write := (List Int) × Int
def L_simple_Write_2 (a0 : T_SLLSiibeLBe) (y13 : Int) (y18 : Int) (y19 : Int) (y24 : Int) (j28 : Unit → Option R_simple_Write) : Nat → Int → Option R_simple_Write
  | 0, _ => none
  | n + 1, y29 =>
    if (decide (y29 < 4)) then
      gd (0 ≤ y29 ∧ y29 < 4) <|
      if (!decide ((nth E_i ([(nth E_Siibe (nth E_LSiibe a0.f0 y13) y24).f0, (nth E_Siibe (nth E_LSiibe a0.f0 y13) y24).f1, (w64 ((nth E_Siibe (nth E_LSiibe a0.f0 y13) y24).f0 - y18)), (w64 ((nth E_Siibe (nth E_LSiibe a0.f0 y13) y24).f1 - y19))] : List Int) y29) = (w64 ((IntKind.wrap .i16 ((nth E_i ([(nth E_Siibe (nth E_LSiibe a0.f0 y13) y24).f0, (nth E_Siibe (nth E_LSiibe a0.f0 y13) y24).f1, (w64 ((nth E_Siibe (nth E_LSiibe a0.f0 y13) y24).f0 - y18)), (w64 ((nth E_Siibe (nth E_LSiibe a0.f0 y13) y24).f1 - y19))] : List Int) y29))))))) then
        some (([] : List Int), 6)
      else
      L_simple_Write_2 a0 y13 y18 y19 y24 j28 n (w64 (y29 + 1))
    else
    j28 ()
def L_simple_Write_1 (a0 : T_SLLSiibeLBe) (y13 : Int) (j17 : Int → Int → Bool → (List Int) → (List Int) → (List Int) → Option R_simple_Write) : Nat → Int → Int → Bool → (List Int) → (List Int) → (List Int) → Int → Option R_simple_Write
  | 0, _, _, _, _, _, _, _ => none
  | n + 1, y18, y19, y20, y21, y22, y23, y24 =>
    if (decide (y24 < ((nth E_LSiibe a0.f0 y13).length : Int))) then
      lj (fun (x39 : (List Int)) (x40 : (List Int)) (x41 : (List Int)) =>
        L_simple_Write_1 a0 y13 j17 n (nth E_Siibe (nth E_LSiibe a0.f0 y13) y24).f0 (nth E_Siibe (nth E_LSiibe a0.f0 y13) y24).f1 (nth E_Siibe (nth E_LSiibe a0.f0 y13) y24).f2 x40 x41 x39 (w64 (y24 + 1))) fun j26 =>
      gd (0 ≤ y24 ∧ y24 < (nth E_LSiibe a0.f0 y13).length) <|
      lj (fun (_ : Unit) =>
        Option.bind (F_simple_pack n (w64 ((nth E_Siibe (nth E_LSiibe a0.f0 y13) y24).f0 - y18)) 2 16) fun v33 =>
        Option.bind (F_simple_pack n (w64 ((nth E_Siibe (nth E_LSiibe a0.f0 y13) y24).f1 - y19)) 4 32) fun v34 =>
        gd (fits (y23.length + ([(bits .or .u8 (if (nth E_Siibe (nth E_LSiibe a0.f0 y13) y24).f2 then (bits .or .u8 v33.1 1) else v33.1) v34.1)] : List Int).length) 1 = true) <|
        gd (fits (y21.length + v33.2.length) 1 = true) <|
        gd (fits (y22.length + v34.2.length) 1 = true) <|
        j26 (y23 ++ ([(bits .or .u8 (if (nth E_Siibe (nth E_LSiibe a0.f0 y13) y24).f2 then (bits .or .u8 v33.1 1) else v33.1) v34.1)] : List Int)) (y21 ++ v33.2) (y22 ++ v34.2)) fun j28 =>
      L_simple_Write_2 a0 y13 y18 y19 y24 j28 n 0
    else
    j17 y18 y19 y20 y21 y22 y23
def L_simple_Write_0 (a0 : T_SLLSiibeLBe) (j5 : (List Int) → (List Int) → (List Int) → (List Int) → Option R_simple_Write) : Nat → Int → Int → Bool → (List Int) → (List Int) → (List Int) → (List Int) → Int → Option R_simple_Write
  | 0, _, _, _, _, _, _, _, _ => none
  | n + 1, y6, y7, y8, y9, y10, y11, y12, y13 =>
    if (decide (y13 < (a0.f0.length : Int))) then
      lj (fun (x50 : Int) (x51 : Int) (x52 : Bool) (x53 : (List Int)) (x54 : (List Int)) (x55 : (List Int)) (x56 : (List Int)) =>
        L_simple_Write_0 a0 j5 n x50 x51 x52 x53 x54 x55 x56 (w64 (y13 + 1))) fun j15 =>
      gd (0 ≤ y13 ∧ y13 < a0.f0.length) <|
      lj (fun (x42 : Int) (x43 : Int) (x44 : Bool) (x45 : (List Int)) (x46 : (List Int)) (x47 : (List Int)) =>
        Option.bind (F_be_Put n (w64 ((x47.length : Int) - 1)) 2) fun v48 =>
        gd (fits (y11.length + v48.length) 1 = true) <|
        j15 x42 x43 x44 x45 x46 (y11 ++ v48) x47) fun j17 =>
      L_simple_Write_1 a0 y13 j17 n y6 y7 y8 y9 y10 y12 0
    else
    j5 y9 y10 y11 y12
def L_simple_Write_3 (a0 : T_SLLSiibeLBe) (v61 : R_simple_Box) (j62 : (List Int) → Option R_simple_Write) : Nat → (List Int) → Int → Option R_simple_Write
  | 0, _, _ => none
  | n + 1, y63, y64 =>
    if (decide (y64 < (([(a0.f0.length : Int), v61.1.f0, v61.1.f1, v61.2.f0, v61.2.f1] : List Int).length : Int))) then
      gd (0 ≤ y64 ∧ y64 < ([(a0.f0.length : Int), v61.1.f0, v61.1.f1, v61.2.f0, v61.2.f1] : List Int).length) <|
      Option.bind (F_be_Put n (nth E_i ([(a0.f0.length : Int), v61.1.f0, v61.1.f1, v61.2.f0, v61.2.f1] : List Int) y64) 2) fun v67 =>
      gd (fits (y63.length + v67.length) 1 = true) <|
      L_simple_Write_3 a0 v61 j62 n (y63 ++ v67) (w64 (y64 + 1))
    else
    j62 y63
def F_simple_Write (n : Nat) (a0 : T_SLLSiibeLBe) : Option R_simple_Write :=
  if (decide ((a0.f0.length : Int) = 0)) then
    if (decide (0 < (a0.f1.length : Int))) then
      some (([] : List Int), 4)
    else
    some (([] : List Int), 0)
  else
  Option.bind (F_simple_ask n a0) fun v3 =>
  if (!decide (v3 = 0)) then
    some (([] : List Int), v3)
  else
  lj (fun (x57 : (List Int)) (x58 : (List Int)) (x59 : (List Int)) (x60 : (List Int)) =>
    Option.bind (F_simple_Box n a0.f0) fun v61 =>
    lj (fun (x69 : (List Int)) =>
      gd (fits (x69.length + x59.length) 1 = true) <|
      Option.bind (F_be_Put n (a0.f1.length : Int) 2) fun v71 =>
      gd (fits ((x69 ++ x59).length + v71.length) 1 = true) <|
      gd (fits (((x69 ++ x59) ++ v71).length + a0.f1.length) 1 = true) <|
      Option.bind (F_simple_packed n x60) fun v74 =>
      gd (fits ((((x69 ++ x59) ++ v71) ++ a0.f1).length + v74.length) 1 = true) <|
      gd (fits (((((x69 ++ x59) ++ v71) ++ a0.f1) ++ v74).length + x57.length) 1 = true) <|
      gd (fits ((((((x69 ++ x59) ++ v71) ++ a0.f1) ++ v74) ++ x57).length + x58.length) 1 = true) <|
      some (((((((x69 ++ x59) ++ v71) ++ a0.f1) ++ v74) ++ x57) ++ x58), 0)) fun j62 =>
    L_simple_Write_3 a0 v61 j62 n ([] : List Int) 0) fun j5 =>
  L_simple_Write_0 a0 j5 n 0 0 false ([] : List Int) ([] : List Int) ([] : List Int) ([] : List Int) 0
abbrev q28_0 (a0 : T_SLLSiibeLBe) : Nat × Ob := (16, ⟨1, .live, false, [(.ro 1 a0.f0.length (flat E_LSiibe a0.f0)), (.ro 1 a0.f1.length (flat E_B a0.f1))]⟩)
abbrev q28_1 (a0 : T_SLLSiibeLBe) : Nat × V := (39, (.ro 1 a0.f0.length (flat E_LSiibe a0.f0)))
abbrev q28_2 (a0 : T_SLLSiibeLBe) : Nat × V := (40, (vI (a0.f0.length : Int)))
abbrev q28_3 (a0 : T_SLLSiibeLBe) (v61 : R_simple_Box) : Nat × V := (135, (.sref (2160, 25) 0 ([(a0.f0.length : Int), v61.1.f0, v61.1.f1, v61.2.f0, v61.2.f1] : List Int).length 1))
abbrev q28_4 (x58 : (List Int)) : Nat × Ob := (127, ⟨18, .live, true, flat E_B x58⟩)
abbrev q28_5 (a0 : T_SLLSiibeLBe) (v61 : R_simple_Box) : Nat × Ob := (2160, ⟨25, .live, true, flat E_i ([(a0.f0.length : Int), v61.1.f0, v61.1.f1, v61.2.f0, v61.2.f1] : List Int)⟩)
abbrev q28_6 (x58 : (List Int)) : Nat × V := (7, (.sref (127, 18) 0 x58.length 1))
abbrev q28_7 (x57 : (List Int)) : Nat × Ob := (111, ⟨18, .live, true, flat E_B x57⟩)
abbrev q28_8 (a0 : T_SLLSiibeLBe) (v61 : R_simple_Box) : Nat × V := (136, (vI (([(a0.f0.length : Int), v61.1.f0, v61.1.f1, v61.2.f0, v61.2.f1] : List Int).length : Int)))
abbrev q28_9 (x57 : (List Int)) : Nat × V := (6, (.sref (111, 18) 0 x57.length 1))
abbrev q28_10 (x60 : (List Int)) : Nat × Ob := (95, ⟨18, .live, true, flat E_B x60⟩)
abbrev q28_11 (x60 : (List Int)) : Nat × V := (5, (.sref (95, 18) 0 x60.length 1))
abbrev q28_12 (x59 : (List Int)) : Nat × Ob := (143, ⟨18, .live, true, flat E_B x59⟩)
abbrev q28_13 (x59 : (List Int)) : Nat × V := (8, (.sref (143, 18) 0 x59.length 1))
abbrev q28_14 (v33 : R_simple_pack) : Nat × Ob := (1296, ⟨35, .live, true, flat E_B v33.2⟩)
abbrev q28_15 (v34 : R_simple_pack) : Nat × Ob := (1440, ⟨38, .live, true, flat E_B v34.2⟩)
abbrev q28_16 (v33 : R_simple_pack) : Nat × V := (17, (.sref (1296, 35) 0 v33.2.length 1))
abbrev q28_17 (v34 : R_simple_pack) : Nat × V := (19, (.sref (1440, 38) 0 v34.2.length 1))
abbrev q28_18 : Nat × Ob := (144, ⟨12, .live, false, [(vI 0), (vI 0), (.val (.bool false))]⟩)
theorem C_simple_Write (n : Nat) (a0 : T_SLLSiibeLBe) (r : R_simple_Write) (h : F_simple_Write n a0 = some r) : CallS Try.prog 28 [(.agg [(.ro 1 a0.f0.length (flat E_LSiibe a0.f0)), (.ro 1 a0.f1.length (flat E_B a0.f1))])] (.tup [(.own 1 r.1.length (flat E_B r.1)), (vI r.2)]) [none] := by
  refine CallS.introK tabOk Try.func28 rfl Try.ntmps28 (Nat.le_of_ble_eq_true rfl) ?_
  rw [F_simple_Write] at h
  refine .seq ?_
  refine .rgI rfl ?_
  refine .seg tabOk 0 3 [1] [16] (t := [(1, (.ptr (16, 1) 0))]) (h := [(q28_0 a0)]) (ep := 2) (by kernel_rfl) ?_
  refine .fin rfl ?_
  refine sqN ?_
  refine .seq ?_
  refine .seq ?_
  refine .rgI rfl ?_
  refine .seg tabOk 0 4 [1, 28] [16] (t := [(1, (.ptr (16, 1) 0)), (28, (.val (.bool (decide ((a0.f0.length : Int) = 0)))))]) (h := [(q28_0 a0)]) (ep := 4) (by kernel_rfl) ?_
  refine .fin rfl ?_
  refine sqN ?_
  refine .cond (decide ((a0.f0.length : Int) = 0)) rfl (fun hc1 => ?_) (fun hc1 => ?_)
  · have h := iT h hc1
    refine .seq ?_
    refine .seq ?_
    refine .rgI rfl ?_
    refine .seg tabOk 0 4 [32] [] (t := [(32, (.val (.bool (decide (0 < (a0.f1.length : Int))))))]) (h := []) (ep := 6) (by kernel_rfl) ?_
    refine .fin rfl ?_
    refine sqN ?_
    refine .cond (decide (0 < (a0.f1.length : Int))) rfl (fun hc2 => ?_) (fun hc2 => ?_)
    · have h := iT h hc2
      refine .seq ?_
      refine .rgI rfl ?_
      refine .seg tabOk 0 2 [2, 3] [] (t := [(2, .nils), (3, (vI 4))]) (h := []) (ep := 8) (by kernel_rfl) ?_
      refine .fin rfl ?_
      refine sqN ?_
      refine .pre (.nilRow 2 1 47 rfl (fresh_none rfl)) ?_
      refine .ret ?_
      refine sqR ?_
      refine sqR ?_
      injection h with h
      subst h
      exact ⟨.inr rfl, _, _, (f_cons (f_tmp rfl (o1_row E_B ([] : List Int) rfl rfl rfl rfl rfl)) (f_cons rfl f_nil)), nd_of rfl, rfl, rfl⟩
    · have h := iF h hc2
      refine .skip ?_
      refine sqN ?_
      refine .seq ?_
      refine .rgI rfl ?_
      refine .seg tabOk 0 2 [2, 3] [] (t := [(2, .nils), (3, (vI 0))]) (h := []) (ep := 8) (by kernel_rfl) ?_
      refine .fin rfl ?_
      refine sqN ?_
      refine .pre (.nilRow 2 1 47 rfl (fresh_none rfl)) ?_
      refine .ret ?_
      refine sqR ?_
      injection h with h
      subst h
      exact ⟨.inr rfl, _, _, (f_cons (f_tmp rfl (o1_row E_B ([] : List Int) rfl rfl rfl rfl rfl)) (f_cons rfl f_nil)), nd_of rfl, rfl, rfl⟩
  · have h := iF h hc1
    refine .skip ?_
    refine sqN ?_
    refine .seq ?_
    refine .seq ?_
    refine .rgI rfl ?_
    refine .seg tabOk 0 1 [1, 33] [16] (t := [(1, (.ptr (16, 1) 0)), (33, (.agg [(.ro 1 a0.f0.length (flat E_LSiibe a0.f0)), (.ro 1 a0.f1.length (flat E_B a0.f1))]))]) (h := [(q28_0 a0)]) (ep := 6) (by kernel_rfl) ?_
    obtain ⟨v3, hv3, h⟩ := bS h
    refine .cc true rfl rfl (C_simple_ask _ _ _ hv3) ent_simple_ask rfl rfl rfl rfl (g_cons (g_pl rfl rfl) g_nil) rfl ?_
    refine .seg tabOk 2 1 [1, 4] [16] (t := [(1, (.ptr (16, 1) 0)), (4, (vI v3))]) (h := [(q28_0 a0)]) (ep := 7) (by kernel_rfl) ?_
    refine .fin rfl ?_
    refine sqN ?_
    refine .seq ?_
    refine .rgI rfl ?_
    refine .seg tabOk 0 2 [1, 4, 36] [16] (t := [(1, (.ptr (16, 1) 0)), (4, (vI v3)), (36, (.val (.bool (!decide (v3 = 0)))))]) (h := [(q28_0 a0)]) (ep := 9) (by kernel_rfl) ?_
    refine .fin rfl ?_
    refine sqN ?_
    refine .cond (!decide (v3 = 0)) rfl (fun hc4 => ?_) (fun hc4 => ?_)
    · have h := iT h hc4
      refine .seq ?_
      refine .rgI rfl ?_
      refine .seg tabOk 0 3 [2, 3] [] (t := [(2, .nils), (3, (vI v3))]) (h := []) (ep := 11) (by kernel_rfl) ?_
      refine .fin rfl ?_
      refine sqN ?_
      refine .pre (.nilRow 2 1 47 rfl (fresh_none rfl)) ?_
      refine .ret ?_
      refine sqR ?_
      injection h with h
      subst h
      exact ⟨.inr rfl, _, _, (f_cons (f_tmp rfl (o1_row E_B ([] : List Int) rfl rfl rfl rfl rfl)) (f_cons rfl f_nil)), nd_of rfl, rfl, rfl⟩
    · have h := iF h hc4
      refine .skip ?_
      refine sqN ?_
      refine .seq ?_
      refine .rgI rfl ?_
      refine .seg tabOk 0 4 [1, 5, 6, 7, 8] [16] (t := [(1, (.ptr (16, 1) 0)), (5, .nils), (6, .nils), (7, .nils), (8, .nils)]) (h := [(q28_0 a0)]) (ep := 11) (by kernel_rfl) ?_
      refine .fin rfl ?_
      refine sqN ?_
      refine .seq ?_
      refine .rgI rfl ?_
      refine .seg tabOk 0 1 [1, 5, 6, 7, 8, 9] [16, 144] (t := [(1, (.ptr (16, 1) 0)), (5, .nils), (6, .nils), (7, .nils), (8, .nils), (9, (.ptr (144, 12) 0))]) (h := [(q28_0 a0), q28_18]) (ep := 13) (by kernel_rfl) ?_
      refine .fin rfl ?_
      refine sqN ?_
      refine .seq ?_
      refine .seq ?_
      refine .rgI rfl ?_
      refine .seg tabOk 0 4 [1, 5, 6, 7, 8, 9, 39, 40, 41] [16, 144] (t := [(1, (.ptr (16, 1) 0)), (5, .nils), (6, .nils), (7, .nils), (8, .nils), (9, (.ptr (144, 12) 0)), (q28_1 a0), (q28_2 a0), (41, (vI 0))]) (h := [(q28_0 a0), q28_18]) (ep := 15) (by kernel_rfl) ?_
      refine .fin rfl ?_
      refine sqN ?_
      obtain ⟨j5, hj5, h⟩ := ljS h
      refine .join (fun s' => ∃ x57 x58 x59 x60, s' = ⟨[(1, (.ptr (16, 1) 0)), (q28_11 x60), (q28_9 x57), (q28_6 x58), (q28_13 x59)], [(q28_0 a0), (q28_10 x60), (q28_7 x57), (q28_4 x58), (q28_12 x59)], 19⟩ ∧ j5 x57 x58 x59 x60 = some r) ?_ ?_
      · refine .block ?_
        refine .loopF (β := Int × Int × Bool × (List Int) × (List Int) × (List Int) × (List Int) × Int) (fun v => ⟨[(1, (.ptr (16, 1) 0)), (5, (.sref (95, 15) 0 v.2.2.2.2.2.2.1.length 1)), (6, (.sref (111, 15) 0 v.2.2.2.1.length 1)), (7, (.sref (127, 15) 0 v.2.2.2.2.1.length 1)), (8, (.sref (143, 15) 0 v.2.2.2.2.2.1.length 1)), (9, (.ptr (144, 12) 0)), (q28_1 a0), (q28_2 a0), (41, (vI v.2.2.2.2.2.2.2))], [(q28_0 a0), (95, ⟨15, .live, true, flat E_B v.2.2.2.2.2.2.1⟩), (111, ⟨15, .live, true, flat E_B v.2.2.2.1⟩), (127, ⟨15, .live, true, flat E_B v.2.2.2.2.1⟩), (143, ⟨15, .live, true, flat E_B v.2.2.2.2.2.1⟩), (144, ⟨12, .live, false, [(vI v.1), (vI v.2.1), (.val (.bool v.2.2.1))]⟩)], 16⟩) (fun m v => L_simple_Write_0 a0 j5 m v.1 v.2.1 v.2.2.1 v.2.2.2.1 v.2.2.2.2.1 v.2.2.2.2.2.1 v.2.2.2.2.2.2.1 v.2.2.2.2.2.2.2 = some r) n (0, 0, false, ([] : List Int), ([] : List Int), ([] : List Int), ([] : List Int), 0) (by exact .trans (.nilRow 5 1 95 rfl (fresh_none rfl)) (.trans (.nilRow 6 1 111 rfl (fresh_none rfl)) (.trans (.nilRow 7 1 127 rfl (fresh_none rfl)) (.trans (.nilRow 8 1 143 rfl (fresh_none rfl)) (.tn [((16, 1), (16, 1)), ((95, 15), (95, 15)), ((111, 15), (111, 15)), ((127, 15), (127, 15)), ((143, 15), (143, 15)), ((144, 12), (144, 12))] ⟨rfl, rfl, rfl, rfl, rfl, rfl, rfl, rfl, rfl, trivial⟩ ⟨rfl, ⟨_, rfl, rfl⟩, ⟨rfl, ⟨_, rfl, ah_row E_B⟩, ⟨rfl, ⟨_, rfl, ah_row E_B⟩, ⟨rfl, ⟨_, rfl, ah_row E_B⟩, ⟨rfl, ⟨_, rfl, ah_row E_B⟩, ⟨rfl, ⟨_, rfl, rfl⟩, trivial⟩⟩⟩⟩⟩⟩ rfl))))) h ?_
        rintro m ⟨y6, y7, y8, y9, y10, y11, y12, y13⟩ h
        cases m with
        | zero => exact nomatch h
        | succ n =>
          rw [L_simple_Write_0] at h
          refine .seq ?_
          refine .rgI rfl ?_
          refine .seg tabOk 0 1 [1, 5, 6, 7, 8, 9, 39, 40, 41, 42] [16, 95, 111, 127, 143, 144] (t := [(1, (.ptr (16, 1) 0)), (5, (.sref (95, 15) 0 y12.length 1)), (6, (.sref (111, 15) 0 y9.length 1)), (7, (.sref (127, 15) 0 y10.length 1)), (8, (.sref (143, 15) 0 y11.length 1)), (9, (.ptr (144, 12) 0)), (q28_1 a0), (q28_2 a0), (41, (vI y13)), (42, (.val (.bool (decide (y13 < (a0.f0.length : Int))))))]) (h := [(q28_0 a0), (95, ⟨15, .live, true, flat E_B y12⟩), (111, ⟨15, .live, true, flat E_B y9⟩), (127, ⟨15, .live, true, flat E_B y10⟩), (143, ⟨15, .live, true, flat E_B y11⟩), (144, ⟨12, .live, false, [(vI y6), (vI y7), (.val (.bool y8))]⟩)]) (ep := 18) (by kernel_rfl) ?_
          refine .fin rfl ?_
          refine sqN ?_
          refine .seq ?_
          refine .cond (decide (y13 < (a0.f0.length : Int))) rfl (fun hc14 => ?_) (fun hc14 => ?_)
          · have h := iT h hc14
            refine .skip ?_
            refine sqN ?_
            refine .seq ?_
            obtain ⟨j15, hj15, h⟩ := ljS h
            refine .join (fun s' => ∃ x50 x51 x52 x53 x54 x55 x56, s' = ⟨[(1, (.ptr (16, 1) 0)), (5, (.sref (95, 15) 0 x56.length 1)), (6, (.sref (111, 15) 0 x53.length 1)), (7, (.sref (127, 15) 0 x54.length 1)), (8, (.sref (1856, 28) 0 x55.length 1)), (9, (.ptr (144, 12) 0)), (q28_1 a0), (q28_2 a0), (41, (vI y13))], [(q28_0 a0), (95, ⟨15, .live, true, flat E_B x56⟩), (111, ⟨15, .live, true, flat E_B x53⟩), (127, ⟨15, .live, true, flat E_B x54⟩), (144, ⟨12, .live, false, [(vI x50), (vI x51), (.val (.bool x52))]⟩), (1856, ⟨28, .live, true, flat E_B x55⟩)], 30⟩ ∧ j15 x50 x51 x52 x53 x54 x55 x56 = some r) ?_ ?_
            · refine .block ?_
              refine .seq ?_
              refine .rgI rfl ?_
              obtain ⟨hb16, h⟩ := gS h
              refine .o tabOk rfl rfl rfl (q_idx E_LSiibe rfl rfl rfl rfl rfl rfl hb16) ?_
              refine .o tabOk rfl rfl rfl (q_ld0 E_LSiibe rfl rfl rfl hb16 rfl) ?_
              refine .seg tabOk 2 1 [1, 5, 6, 7, 8, 9, 11, 39, 40, 41] [16, 95, 111, 127, 143, 144] (t := [(1, (.ptr (16, 1) 0)), (5, (.sref (95, 15) 0 y12.length 1)), (6, (.sref (111, 15) 0 y9.length 1)), (7, (.sref (127, 15) 0 y10.length 1)), (8, (.sref (143, 15) 0 y11.length 1)), (9, (.ptr (144, 12) 0)), (11, (.ro 3 (nth E_LSiibe a0.f0 y13).length (flat E_Siibe (nth E_LSiibe a0.f0 y13)))), (q28_1 a0), (q28_2 a0), (41, (vI y13))]) (h := [(q28_0 a0), (95, ⟨15, .live, true, flat E_B y12⟩), (111, ⟨15, .live, true, flat E_B y9⟩), (127, ⟨15, .live, true, flat E_B y10⟩), (143, ⟨15, .live, true, flat E_B y11⟩), (144, ⟨12, .live, false, [(vI y6), (vI y7), (.val (.bool y8))]⟩)]) (ep := 20) (by kernel_rfl) ?_
              refine .fin rfl ?_
              refine sqN ?_
              refine .seq ?_
              refine .seq ?_
              refine .rgI rfl ?_
              refine .seg tabOk 0 3 [1, 5, 6, 7, 8, 9, 39, 40, 41, 45, 46, 47] [16, 95, 111, 127, 143, 144] (t := [(1, (.ptr (16, 1) 0)), (5, (.sref (95, 15) 0 y12.length 1)), (6, (.sref (111, 15) 0 y9.length 1)), (7, (.sref (127, 15) 0 y10.length 1)), (8, (.sref (143, 15) 0 y11.length 1)), (9, (.ptr (144, 12) 0)), (q28_1 a0), (q28_2 a0), (41, (vI y13)), (45, (.ro 3 (nth E_LSiibe a0.f0 y13).length (flat E_Siibe (nth E_LSiibe a0.f0 y13)))), (46, (vI ((nth E_LSiibe a0.f0 y13).length : Int))), (47, (vI 0))]) (h := [(q28_0 a0), (95, ⟨15, .live, true, flat E_B y12⟩), (111, ⟨15, .live, true, flat E_B y9⟩), (127, ⟨15, .live, true, flat E_B y10⟩), (143, ⟨15, .live, true, flat E_B y11⟩), (144, ⟨12, .live, false, [(vI y6), (vI y7), (.val (.bool y8))]⟩)]) (ep := 22) (by kernel_rfl) ?_
              refine .fin rfl ?_
              refine sqN ?_
              obtain ⟨j17, hj17, h⟩ := ljS h
              refine .join (fun s' => ∃ x42 x43 x44 x45 x46 x47, s' = ⟨[(1, (.ptr (16, 1) 0)), (5, (.sref (95, 15) 0 x47.length 1)), (6, (.sref (111, 15) 0 x45.length 1)), (7, (.sref (127, 15) 0 x46.length 1)), (8, (.sref (143, 15) 0 y11.length 1)), (9, (.ptr (144, 12) 0)), (q28_1 a0), (q28_2 a0), (41, (vI y13))], [(q28_0 a0), (95, ⟨15, .live, true, flat E_B x47⟩), (111, ⟨15, .live, true, flat E_B x45⟩), (127, ⟨15, .live, true, flat E_B x46⟩), (143, ⟨15, .live, true, flat E_B y11⟩), (144, ⟨12, .live, false, [(vI x42), (vI x43), (.val (.bool x44))]⟩)], 26⟩ ∧ j17 x42 x43 x44 x45 x46 x47 = some r) ?_ ?_
              · refine .block ?_
                refine .loopF (β := Int × Int × Bool × (List Int) × (List Int) × (List Int) × Int) (fun v => ⟨[(1, (.ptr (16, 1) 0)), (5, (.sref (95, 15) 0 v.2.2.2.2.2.1.length 1)), (6, (.sref (111, 15) 0 v.2.2.2.1.length 1)), (7, (.sref (127, 15) 0 v.2.2.2.2.1.length 1)), (8, (.sref (143, 15) 0 y11.length 1)), (9, (.ptr (144, 12) 0)), (q28_1 a0), (q28_2 a0), (41, (vI y13)), (45, (.ro 3 (nth E_LSiibe a0.f0 y13).length (flat E_Siibe (nth E_LSiibe a0.f0 y13)))), (46, (vI ((nth E_LSiibe a0.f0 y13).length : Int))), (47, (vI v.2.2.2.2.2.2))], [(q28_0 a0), (95, ⟨15, .live, true, flat E_B v.2.2.2.2.2.1⟩), (111, ⟨15, .live, true, flat E_B v.2.2.2.1⟩), (127, ⟨15, .live, true, flat E_B v.2.2.2.2.1⟩), (143, ⟨15, .live, true, flat E_B y11⟩), (144, ⟨12, .live, false, [(vI v.1), (vI v.2.1), (.val (.bool v.2.2.1))]⟩)], 23⟩) (fun m v => L_simple_Write_1 a0 y13 j17 m v.1 v.2.1 v.2.2.1 v.2.2.2.1 v.2.2.2.2.1 v.2.2.2.2.2.1 v.2.2.2.2.2.2 = some r) n (y6, y7, y8, y9, y10, y12, 0) (by exact .tn [((16, 1), (16, 1)), ((95, 15), (95, 15)), ((111, 15), (111, 15)), ((127, 15), (127, 15)), ((143, 15), (143, 15)), ((144, 12), (144, 12))] ⟨rfl, rfl, rfl, rfl, rfl, rfl, rfl, rfl, rfl, rfl, rfl, rfl, trivial⟩ ⟨rfl, ⟨_, rfl, rfl⟩, ⟨rfl, ⟨_, rfl, ah_row E_B⟩, ⟨rfl, ⟨_, rfl, ah_row E_B⟩, ⟨rfl, ⟨_, rfl, ah_row E_B⟩, ⟨rfl, ⟨_, rfl, ah_row E_B⟩, ⟨rfl, ⟨_, rfl, rfl⟩, trivial⟩⟩⟩⟩⟩⟩ rfl) h ?_
                rintro m ⟨y18, y19, y20, y21, y22, y23, y24⟩ h
                cases m with
                | zero => exact nomatch h
                | succ n =>
                  rw [L_simple_Write_1] at h
                  refine .seq ?_
                  refine .rgI rfl ?_
                  refine .seg tabOk 0 1 [1, 5, 6, 7, 8, 9, 39, 40, 41, 45, 46, 47, 48] [16, 95, 111, 127, 143, 144] (t := [(1, (.ptr (16, 1) 0)), (5, (.sref (95, 15) 0 y23.length 1)), (6, (.sref (111, 15) 0 y21.length 1)), (7, (.sref (127, 15) 0 y22.length 1)), (8, (.sref (143, 15) 0 y11.length 1)), (9, (.ptr (144, 12) 0)), (q28_1 a0), (q28_2 a0), (41, (vI y13)), (45, (.ro 3 (nth E_LSiibe a0.f0 y13).length (flat E_Siibe (nth E_LSiibe a0.f0 y13)))), (46, (vI ((nth E_LSiibe a0.f0 y13).length : Int))), (47, (vI y24)), (48, (.val (.bool (decide (y24 < ((nth E_LSiibe a0.f0 y13).length : Int))))))]) (h := [(q28_0 a0), (95, ⟨15, .live, true, flat E_B y23⟩), (111, ⟨15, .live, true, flat E_B y21⟩), (127, ⟨15, .live, true, flat E_B y22⟩), (143, ⟨15, .live, true, flat E_B y11⟩), (144, ⟨12, .live, false, [(vI y18), (vI y19), (.val (.bool y20))]⟩)]) (ep := 25) (by kernel_rfl) ?_
                  refine .fin rfl ?_
                  refine sqN ?_
                  refine .seq ?_
                  refine .cond (decide (y24 < ((nth E_LSiibe a0.f0 y13).length : Int))) rfl (fun hc25 => ?_) (fun hc25 => ?_)
                  · have h := iT h hc25
                    refine .skip ?_
                    refine sqN ?_
                    refine .seq ?_
                    obtain ⟨j26, hj26, h⟩ := ljS h
                    refine .join (fun s' => ∃ x39 x40 x41, s' = ⟨[(1, (.ptr (16, 1) 0)), (5, (.sref (1632, 45) 0 x39.length 1)), (6, (.sref (1680, 45) 0 x40.length 1)), (7, (.sref (1728, 45) 0 x41.length 1)), (8, (.sref (143, 15) 0 y11.length 1)), (9, (.ptr (144, 12) 0)), (q28_1 a0), (q28_2 a0), (41, (vI y13)), (45, (.ro 3 (nth E_LSiibe a0.f0 y13).length (flat E_Siibe (nth E_LSiibe a0.f0 y13)))), (46, (vI ((nth E_LSiibe a0.f0 y13).length : Int))), (47, (vI y24))], [(q28_0 a0), (143, ⟨15, .live, true, flat E_B y11⟩), (144, ⟨12, .live, false, [(vI (nth E_Siibe (nth E_LSiibe a0.f0 y13) y24).f0), (vI (nth E_Siibe (nth E_LSiibe a0.f0 y13) y24).f1), (.val (.bool (nth E_Siibe (nth E_LSiibe a0.f0 y13) y24).f2))]⟩), (1632, ⟨45, .live, true, flat E_B x39⟩), (1680, ⟨45, .live, true, flat E_B x40⟩), (1728, ⟨45, .live, true, flat E_B x41⟩)], 47⟩ ∧ j26 x39 x40 x41 = some r) ?_ ?_
                    · refine .block ?_
                      refine .seq ?_
                      refine .rgI rfl ?_
                      obtain ⟨hb27, h⟩ := gS h
                      refine .o tabOk rfl rfl rfl (q_idx E_Siibe rfl rfl rfl rfl rfl rfl hb27) ?_
                      refine .o tabOk rfl rfl rfl (q_ld0 E_Siibe rfl rfl rfl hb27 rfl) ?_
                      refine .seg tabOk 2 2 [1, 5, 6, 7, 8, 9, 13, 39, 40, 41, 45, 46, 47] [16, 95, 111, 127, 143, 144, 208] (t := [(1, (.ptr (16, 1) 0)), (5, (.sref (95, 15) 0 y23.length 1)), (6, (.sref (111, 15) 0 y21.length 1)), (7, (.sref (127, 15) 0 y22.length 1)), (8, (.sref (143, 15) 0 y11.length 1)), (9, (.ptr (144, 12) 0)), (13, (.ptr (208, 26) 0)), (q28_1 a0), (q28_2 a0), (41, (vI y13)), (45, (.ro 3 (nth E_LSiibe a0.f0 y13).length (flat E_Siibe (nth E_LSiibe a0.f0 y13)))), (46, (vI ((nth E_LSiibe a0.f0 y13).length : Int))), (47, (vI y24))]) (h := [(q28_0 a0), (95, ⟨15, .live, true, flat E_B y23⟩), (111, ⟨15, .live, true, flat E_B y21⟩), (127, ⟨15, .live, true, flat E_B y22⟩), (143, ⟨15, .live, true, flat E_B y11⟩), (144, ⟨12, .live, false, [(vI y18), (vI y19), (.val (.bool y20))]⟩), (208, ⟨26, .live, false, [(vI (nth E_Siibe (nth E_LSiibe a0.f0 y13) y24).f0), (vI (nth E_Siibe (nth E_LSiibe a0.f0 y13) y24).f1), (.val (.bool (nth E_Siibe (nth E_LSiibe a0.f0 y13) y24).f2))]⟩)]) (ep := 27) (by kernel_rfl) ?_
                      refine .fin rfl ?_
                      refine sqN ?_
                      refine .seq ?_
                      refine .seq ?_
                      refine .rgI rfl ?_
                      refine .seg tabOk 0 16 [1, 5, 6, 7, 8, 9, 13, 39, 40, 41, 45, 46, 47, 65, 66] [16, 95, 111, 127, 143, 144, 208] (t := [(1, (.ptr (16, 1) 0)), (5, (.sref (95, 15) 0 y23.length 1)), (6, (.sref (111, 15) 0 y21.length 1)), (7, (.sref (127, 15) 0 y22.length 1)), (8, (.sref (143, 15) 0 y11.length 1)), (9, (.ptr (144, 12) 0)), (13, (.ptr (208, 26) 0)), (q28_1 a0), (q28_2 a0), (41, (vI y13)), (45, (.ro 3 (nth E_LSiibe a0.f0 y13).length (flat E_Siibe (nth E_LSiibe a0.f0 y13)))), (46, (vI ((nth E_LSiibe a0.f0 y13).length : Int))), (47, (vI y24)), (65, (.agg [(vI (nth E_Siibe (nth E_LSiibe a0.f0 y13) y24).f0), (vI (nth E_Siibe (nth E_LSiibe a0.f0 y13) y24).f1), (vI (w64 ((nth E_Siibe (nth E_LSiibe a0.f0 y13) y24).f0 - y18))), (vI (w64 ((nth E_Siibe (nth E_LSiibe a0.f0 y13) y24).f1 - y19)))])), (66, (vI 0))]) (h := [(q28_0 a0), (95, ⟨15, .live, true, flat E_B y23⟩), (111, ⟨15, .live, true, flat E_B y21⟩), (127, ⟨15, .live, true, flat E_B y22⟩), (143, ⟨15, .live, true, flat E_B y11⟩), (144, ⟨12, .live, false, [(vI y18), (vI y19), (.val (.bool y20))]⟩), (208, ⟨26, .live, false, [(vI (nth E_Siibe (nth E_LSiibe a0.f0 y13) y24).f0), (vI (nth E_Siibe (nth E_LSiibe a0.f0 y13) y24).f1), (.val (.bool (nth E_Siibe (nth E_LSiibe a0.f0 y13) y24).f2))]⟩)]) (ep := 29) (by kernel_rfl) ?_
                      refine .fin rfl ?_
                      refine sqN ?_
                      obtain ⟨j28, hj28, h⟩ := ljS h
                      refine .join (fun s' => s' = ⟨[(1, (.ptr (16, 1) 0)), (5, (.sref (95, 15) 0 y23.length 1)), (6, (.sref (111, 15) 0 y21.length 1)), (7, (.sref (127, 15) 0 y22.length 1)), (8, (.sref (143, 15) 0 y11.length 1)), (9, (.ptr (144, 12) 0)), (13, (.ptr (208, 26) 0)), (q28_1 a0), (q28_2 a0), (41, (vI y13)), (45, (.ro 3 (nth E_LSiibe a0.f0 y13).length (flat E_Siibe (nth E_LSiibe a0.f0 y13)))), (46, (vI ((nth E_LSiibe a0.f0 y13).length : Int))), (47, (vI y24))], [(q28_0 a0), (95, ⟨15, .live, true, flat E_B y23⟩), (111, ⟨15, .live, true, flat E_B y21⟩), (127, ⟨15, .live, true, flat E_B y22⟩), (143, ⟨15, .live, true, flat E_B y11⟩), (144, ⟨12, .live, false, [(vI y18), (vI y19), (.val (.bool y20))]⟩), (208, ⟨26, .live, false, [(vI (nth E_Siibe (nth E_LSiibe a0.f0 y13) y24).f0), (vI (nth E_Siibe (nth E_LSiibe a0.f0 y13) y24).f1), (.val (.bool (nth E_Siibe (nth E_LSiibe a0.f0 y13) y24).f2))]⟩)], 33⟩ ∧ j28 () = some r) ?_ ?_
                      · refine .block ?_
                        refine .loopF (β := Int) (fun v => ⟨[(1, (.ptr (16, 1) 0)), (5, (.sref (95, 15) 0 y23.length 1)), (6, (.sref (111, 15) 0 y21.length 1)), (7, (.sref (127, 15) 0 y22.length 1)), (8, (.sref (143, 15) 0 y11.length 1)), (9, (.ptr (144, 12) 0)), (13, (.ptr (208, 26) 0)), (q28_1 a0), (q28_2 a0), (41, (vI y13)), (45, (.ro 3 (nth E_LSiibe a0.f0 y13).length (flat E_Siibe (nth E_LSiibe a0.f0 y13)))), (46, (vI ((nth E_LSiibe a0.f0 y13).length : Int))), (47, (vI y24)), (65, (.agg [(vI (nth E_Siibe (nth E_LSiibe a0.f0 y13) y24).f0), (vI (nth E_Siibe (nth E_LSiibe a0.f0 y13) y24).f1), (vI (w64 ((nth E_Siibe (nth E_LSiibe a0.f0 y13) y24).f0 - y18))), (vI (w64 ((nth E_Siibe (nth E_LSiibe a0.f0 y13) y24).f1 - y19)))])), (66, (vI v))], [(q28_0 a0), (95, ⟨15, .live, true, flat E_B y23⟩), (111, ⟨15, .live, true, flat E_B y21⟩), (127, ⟨15, .live, true, flat E_B y22⟩), (143, ⟨15, .live, true, flat E_B y11⟩), (144, ⟨12, .live, false, [(vI y18), (vI y19), (.val (.bool y20))]⟩), (208, ⟨26, .live, false, [(vI (nth E_Siibe (nth E_LSiibe a0.f0 y13) y24).f0), (vI (nth E_Siibe (nth E_LSiibe a0.f0 y13) y24).f1), (.val (.bool (nth E_Siibe (nth E_LSiibe a0.f0 y13) y24).f2))]⟩)], 30⟩) (fun m v => L_simple_Write_2 a0 y13 y18 y19 y24 j28 m v = some r) n 0 (by exact .tn [((16, 1), (16, 1)), ((95, 15), (95, 15)), ((111, 15), (111, 15)), ((127, 15), (127, 15)), ((143, 15), (143, 15)), ((144, 12), (144, 12)), ((208, 26), (208, 26))] ⟨rfl, rfl, rfl, rfl, rfl, rfl, rfl, rfl, rfl, rfl, rfl, rfl, rfl, rfl, rfl, trivial⟩ ⟨rfl, ⟨_, rfl, rfl⟩, ⟨rfl, ⟨_, rfl, ah_row E_B⟩, ⟨rfl, ⟨_, rfl, ah_row E_B⟩, ⟨rfl, ⟨_, rfl, ah_row E_B⟩, ⟨rfl, ⟨_, rfl, ah_row E_B⟩, ⟨rfl, ⟨_, rfl, rfl⟩, ⟨rfl, ⟨_, rfl, rfl⟩, trivial⟩⟩⟩⟩⟩⟩⟩ rfl) h ?_
                        rintro m y29 h
                        cases m with
                        | zero => exact nomatch h
                        | succ n =>
                          rw [L_simple_Write_2] at h
                          refine .seq ?_
                          refine .rgI rfl ?_
                          refine .seg tabOk 0 1 [1, 5, 6, 7, 8, 9, 13, 39, 40, 41, 45, 46, 47, 65, 66, 67] [16, 95, 111, 127, 143, 144, 208] (t := [(1, (.ptr (16, 1) 0)), (5, (.sref (95, 15) 0 y23.length 1)), (6, (.sref (111, 15) 0 y21.length 1)), (7, (.sref (127, 15) 0 y22.length 1)), (8, (.sref (143, 15) 0 y11.length 1)), (9, (.ptr (144, 12) 0)), (13, (.ptr (208, 26) 0)), (q28_1 a0), (q28_2 a0), (41, (vI y13)), (45, (.ro 3 (nth E_LSiibe a0.f0 y13).length (flat E_Siibe (nth E_LSiibe a0.f0 y13)))), (46, (vI ((nth E_LSiibe a0.f0 y13).length : Int))), (47, (vI y24)), (65, (.agg [(vI (nth E_Siibe (nth E_LSiibe a0.f0 y13) y24).f0), (vI (nth E_Siibe (nth E_LSiibe a0.f0 y13) y24).f1), (vI (w64 ((nth E_Siibe (nth E_LSiibe a0.f0 y13) y24).f0 - y18))), (vI (w64 ((nth E_Siibe (nth E_LSiibe a0.f0 y13) y24).f1 - y19)))])), (66, (vI y29)), (67, (.val (.bool (decide (y29 < 4)))))]) (h := [(q28_0 a0), (95, ⟨15, .live, true, flat E_B y23⟩), (111, ⟨15, .live, true, flat E_B y21⟩), (127, ⟨15, .live, true, flat E_B y22⟩), (143, ⟨15, .live, true, flat E_B y11⟩), (144, ⟨12, .live, false, [(vI y18), (vI y19), (.val (.bool y20))]⟩), (208, ⟨26, .live, false, [(vI (nth E_Siibe (nth E_LSiibe a0.f0 y13) y24).f0), (vI (nth E_Siibe (nth E_LSiibe a0.f0 y13) y24).f1), (.val (.bool (nth E_Siibe (nth E_LSiibe a0.f0 y13) y24).f2))]⟩)]) (ep := 32) (by kernel_rfl) ?_
                          refine .fin rfl ?_
                          refine sqN ?_
                          refine .seq ?_
                          refine .cond (decide (y29 < 4)) rfl (fun hc30 => ?_) (fun hc30 => ?_)
                          · have h := iT h hc30
                            refine .skip ?_
                            refine sqN ?_
                            refine .seq ?_
                            refine .block ?_
                            refine .seq ?_
                            refine .rgI rfl ?_
                            obtain ⟨hb31, h⟩ := gS h
                            refine .oo tabOk rfl rfl rfl (q_ixA E_i (l := ([(nth E_Siibe (nth E_LSiibe a0.f0 y13) y24).f0, (nth E_Siibe (nth E_LSiibe a0.f0 y13) y24).f1, (w64 ((nth E_Siibe (nth E_LSiibe a0.f0 y13) y24).f0 - y18)), (w64 ((nth E_Siibe (nth E_LSiibe a0.f0 y13) y24).f1 - y19))] : List Int)) rfl rfl rfl rfl rfl rfl rfl hb31 rfl) ?_
                            refine .seg tabOk 1 1 [1, 5, 6, 7, 8, 9, 13, 15, 39, 40, 41, 45, 46, 47, 65, 66] [16, 95, 111, 127, 143, 144, 208] (t := [(1, (.ptr (16, 1) 0)), (5, (.sref (95, 15) 0 y23.length 1)), (6, (.sref (111, 15) 0 y21.length 1)), (7, (.sref (127, 15) 0 y22.length 1)), (8, (.sref (143, 15) 0 y11.length 1)), (9, (.ptr (144, 12) 0)), (13, (.ptr (208, 26) 0)), (15, (vI (nth E_i ([(nth E_Siibe (nth E_LSiibe a0.f0 y13) y24).f0, (nth E_Siibe (nth E_LSiibe a0.f0 y13) y24).f1, (w64 ((nth E_Siibe (nth E_LSiibe a0.f0 y13) y24).f0 - y18)), (w64 ((nth E_Siibe (nth E_LSiibe a0.f0 y13) y24).f1 - y19))] : List Int) y29))), (q28_1 a0), (q28_2 a0), (41, (vI y13)), (45, (.ro 3 (nth E_LSiibe a0.f0 y13).length (flat E_Siibe (nth E_LSiibe a0.f0 y13)))), (46, (vI ((nth E_LSiibe a0.f0 y13).length : Int))), (47, (vI y24)), (65, (.agg [(vI (nth E_Siibe (nth E_LSiibe a0.f0 y13) y24).f0), (vI (nth E_Siibe (nth E_LSiibe a0.f0 y13) y24).f1), (vI (w64 ((nth E_Siibe (nth E_LSiibe a0.f0 y13) y24).f0 - y18))), (vI (w64 ((nth E_Siibe (nth E_LSiibe a0.f0 y13) y24).f1 - y19)))])), (66, (vI y29))]) (h := [(q28_0 a0), (95, ⟨15, .live, true, flat E_B y23⟩), (111, ⟨15, .live, true, flat E_B y21⟩), (127, ⟨15, .live, true, flat E_B y22⟩), (143, ⟨15, .live, true, flat E_B y11⟩), (144, ⟨12, .live, false, [(vI y18), (vI y19), (.val (.bool y20))]⟩), (208, ⟨26, .live, false, [(vI (nth E_Siibe (nth E_LSiibe a0.f0 y13) y24).f0), (vI (nth E_Siibe (nth E_LSiibe a0.f0 y13) y24).f1), (.val (.bool (nth E_Siibe (nth E_LSiibe a0.f0 y13) y24).f2))]⟩)]) (ep := 34) (by kernel_rfl) ?_
                            refine .fin rfl ?_
                            refine sqN ?_
                            refine .seq ?_
                            refine .rgI rfl ?_
                            refine .seg tabOk 0 5 [1, 5, 6, 7, 8, 9, 13, 39, 40, 41, 45, 46, 47, 65, 66, 73] [16, 95, 111, 127, 143, 144, 208] (t := [(1, (.ptr (16, 1) 0)), (5, (.sref (95, 15) 0 y23.length 1)), (6, (.sref (111, 15) 0 y21.length 1)), (7, (.sref (127, 15) 0 y22.length 1)), (8, (.sref (143, 15) 0 y11.length 1)), (9, (.ptr (144, 12) 0)), (13, (.ptr (208, 26) 0)), (q28_1 a0), (q28_2 a0), (41, (vI y13)), (45, (.ro 3 (nth E_LSiibe a0.f0 y13).length (flat E_Siibe (nth E_LSiibe a0.f0 y13)))), (46, (vI ((nth E_LSiibe a0.f0 y13).length : Int))), (47, (vI y24)), (65, (.agg [(vI (nth E_Siibe (nth E_LSiibe a0.f0 y13) y24).f0), (vI (nth E_Siibe (nth E_LSiibe a0.f0 y13) y24).f1), (vI (w64 ((nth E_Siibe (nth E_LSiibe a0.f0 y13) y24).f0 - y18))), (vI (w64 ((nth E_Siibe (nth E_LSiibe a0.f0 y13) y24).f1 - y19)))])), (66, (vI y29)), (73, (.val (.bool (!decide ((nth E_i ([(nth E_Siibe (nth E_LSiibe a0.f0 y13) y24).f0, (nth E_Siibe (nth E_LSiibe a0.f0 y13) y24).f1, (w64 ((nth E_Siibe (nth E_LSiibe a0.f0 y13) y24).f0 - y18)), (w64 ((nth E_Siibe (nth E_LSiibe a0.f0 y13) y24).f1 - y19))] : List Int) y29) = (w64 ((IntKind.wrap .i16 ((nth E_i ([(nth E_Siibe (nth E_LSiibe a0.f0 y13) y24).f0, (nth E_Siibe (nth E_LSiibe a0.f0 y13) y24).f1, (w64 ((nth E_Siibe (nth E_LSiibe a0.f0 y13) y24).f0 - y18)), (w64 ((nth E_Siibe (nth E_LSiibe a0.f0 y13) y24).f1 - y19))] : List Int) y29))))))))))]) (h := [(q28_0 a0), (95, ⟨15, .live, true, flat E_B y23⟩), (111, ⟨15, .live, true, flat E_B y21⟩), (127, ⟨15, .live, true, flat E_B y22⟩), (143, ⟨15, .live, true, flat E_B y11⟩), (144, ⟨12, .live, false, [(vI y18), (vI y19), (.val (.bool y20))]⟩), (208, ⟨26, .live, false, [(vI (nth E_Siibe (nth E_LSiibe a0.f0 y13) y24).f0), (vI (nth E_Siibe (nth E_LSiibe a0.f0 y13) y24).f1), (.val (.bool (nth E_Siibe (nth E_LSiibe a0.f0 y13) y24).f2))]⟩)]) (ep := 36) (by kernel_rfl) ?_
                            refine .fin rfl ?_
                            refine sqN ?_
                            refine .cond (!decide ((nth E_i ([(nth E_Siibe (nth E_LSiibe a0.f0 y13) y24).f0, (nth E_Siibe (nth E_LSiibe a0.f0 y13) y24).f1, (w64 ((nth E_Siibe (nth E_LSiibe a0.f0 y13) y24).f0 - y18)), (w64 ((nth E_Siibe (nth E_LSiibe a0.f0 y13) y24).f1 - y19))] : List Int) y29) = (w64 ((IntKind.wrap .i16 ((nth E_i ([(nth E_Siibe (nth E_LSiibe a0.f0 y13) y24).f0, (nth E_Siibe (nth E_LSiibe a0.f0 y13) y24).f1, (w64 ((nth E_Siibe (nth E_LSiibe a0.f0 y13) y24).f0 - y18)), (w64 ((nth E_Siibe (nth E_LSiibe a0.f0 y13) y24).f1 - y19))] : List Int) y29))))))) rfl (fun hc32 => ?_) (fun hc32 => ?_)
                            · have h := iT h hc32
                              refine .seq ?_
                              refine .rgI rfl ?_
                              refine .seg tabOk 0 2 [2, 3] [] (t := [(2, .nils), (3, (vI 6))]) (h := []) (ep := 38) (by kernel_rfl) ?_
                              refine .fin rfl ?_
                              refine sqN ?_
                              refine .pre (.nilRow 2 1 47 rfl (fresh_none rfl)) ?_
                              refine .ret ?_
                              refine bkR ?_
                              refine sqR ?_
                              refine jkR ?_
                              refine bkR ?_
                              refine jkR ?_
                              refine sqR ?_
                              refine bkR ?_
                              refine jkR ?_
                              refine sqR ?_
                              refine jkR ?_
                              refine bkR ?_
                              refine jkR ?_
                              refine sqR ?_
                              refine bkR ?_
                              refine jkR ?_
                              refine sqR ?_
                              refine jkR ?_
                              refine bkR ?_
                              refine jkR ?_
                              refine sqR ?_
                              injection h with h
                              subst h
                              exact ⟨.inr rfl, _, _, (f_cons (f_tmp rfl (o1_row E_B ([] : List Int) rfl rfl rfl rfl rfl)) (f_cons rfl f_nil)), nd_of rfl, rfl, rfl⟩
                            · have h := iF h hc32
                              refine .skip ?_
                              refine bkN ?_
                              refine sqN ?_
                              refine .rgI rfl ?_
                              refine .seg tabOk 0 2 [1, 5, 6, 7, 8, 9, 13, 39, 40, 41, 45, 46, 47, 65, 66] [16, 95, 111, 127, 143, 144, 208] (t := [(1, (.ptr (16, 1) 0)), (5, (.sref (95, 15) 0 y23.length 1)), (6, (.sref (111, 15) 0 y21.length 1)), (7, (.sref (127, 15) 0 y22.length 1)), (8, (.sref (143, 15) 0 y11.length 1)), (9, (.ptr (144, 12) 0)), (13, (.ptr (208, 26) 0)), (q28_1 a0), (q28_2 a0), (41, (vI y13)), (45, (.ro 3 (nth E_LSiibe a0.f0 y13).length (flat E_Siibe (nth E_LSiibe a0.f0 y13)))), (46, (vI ((nth E_LSiibe a0.f0 y13).length : Int))), (47, (vI y24)), (65, (.agg [(vI (nth E_Siibe (nth E_LSiibe a0.f0 y13) y24).f0), (vI (nth E_Siibe (nth E_LSiibe a0.f0 y13) y24).f1), (vI (w64 ((nth E_Siibe (nth E_LSiibe a0.f0 y13) y24).f0 - y18))), (vI (w64 ((nth E_Siibe (nth E_LSiibe a0.f0 y13) y24).f1 - y19)))])), (66, (vI (w64 (y29 + 1))))]) (h := [(q28_0 a0), (95, ⟨15, .live, true, flat E_B y23⟩), (111, ⟨15, .live, true, flat E_B y21⟩), (127, ⟨15, .live, true, flat E_B y22⟩), (143, ⟨15, .live, true, flat E_B y11⟩), (144, ⟨12, .live, false, [(vI y18), (vI y19), (.val (.bool y20))]⟩), (208, ⟨26, .live, false, [(vI (nth E_Siibe (nth E_LSiibe a0.f0 y13) y24).f0), (vI (nth E_Siibe (nth E_LSiibe a0.f0 y13) y24).f1), (.val (.bool (nth E_Siibe (nth E_LSiibe a0.f0 y13) y24).f2))]⟩)]) (ep := 38) (by kernel_rfl) ?_
                              refine .fin rfl ?_
                              exact jkN (by exact .tn [((16, 1), (16, 1)), ((95, 15), (95, 15)), ((111, 15), (111, 15)), ((127, 15), (127, 15)), ((143, 15), (143, 15)), ((144, 12), (144, 12)), ((208, 26), (208, 26))] ⟨rfl, rfl, rfl, rfl, rfl, rfl, rfl, rfl, rfl, rfl, rfl, rfl, rfl, rfl, rfl, trivial⟩ ⟨rfl, ⟨_, rfl, rfl⟩, ⟨rfl, ⟨_, rfl, ah_row E_B⟩, ⟨rfl, ⟨_, rfl, ah_row E_B⟩, ⟨rfl, ⟨_, rfl, ah_row E_B⟩, ⟨rfl, ⟨_, rfl, ah_row E_B⟩, ⟨rfl, ⟨_, rfl, rfl⟩, ⟨rfl, ⟨_, rfl, rfl⟩, trivial⟩⟩⟩⟩⟩⟩⟩ rfl) ⟨n, (w64 (y29 + 1)), Nat.lt_succ_self n, rfl, h⟩
                          · have h := iF h hc30
                            refine .exit ?_
                            refine sqX ?_
                            refine jkX ?_
                            refine bkE ?_
                            exact jkN (by exact .tn [((16, 1), (16, 1)), ((95, 15), (95, 15)), ((111, 15), (111, 15)), ((127, 15), (127, 15)), ((143, 15), (143, 15)), ((144, 12), (144, 12)), ((208, 26), (208, 26))] ⟨rfl, rfl, rfl, rfl, rfl, rfl, rfl, rfl, rfl, rfl, rfl, rfl, rfl, trivial⟩ ⟨rfl, ⟨_, rfl, rfl⟩, ⟨rfl, ⟨_, rfl, ah_row E_B⟩, ⟨rfl, ⟨_, rfl, ah_row E_B⟩, ⟨rfl, ⟨_, rfl, ah_row E_B⟩, ⟨rfl, ⟨_, rfl, ah_row E_B⟩, ⟨rfl, ⟨_, rfl, rfl⟩, ⟨rfl, ⟨_, rfl, rfl⟩, trivial⟩⟩⟩⟩⟩⟩⟩ rfl) ⟨rfl, h⟩
                      · rintro _ ⟨rfl, h⟩
                        subst hj28
                        refine sqN ?_
                        refine .seq ?_
                        refine .rgI rfl ?_
                        refine .seg tabOk 0 5 [1, 5, 6, 7, 8, 9, 13, 39, 40, 41, 45, 46, 47, 80] [16, 95, 111, 127, 143, 144, 208] (t := [(1, (.ptr (16, 1) 0)), (5, (.sref (95, 15) 0 y23.length 1)), (6, (.sref (111, 15) 0 y21.length 1)), (7, (.sref (127, 15) 0 y22.length 1)), (8, (.sref (143, 15) 0 y11.length 1)), (9, (.ptr (144, 12) 0)), (13, (.ptr (208, 26) 0)), (q28_1 a0), (q28_2 a0), (41, (vI y13)), (45, (.ro 3 (nth E_LSiibe a0.f0 y13).length (flat E_Siibe (nth E_LSiibe a0.f0 y13)))), (46, (vI ((nth E_LSiibe a0.f0 y13).length : Int))), (47, (vI y24)), (80, (vI (w64 ((nth E_Siibe (nth E_LSiibe a0.f0 y13) y24).f0 - y18))))]) (h := [(q28_0 a0), (95, ⟨15, .live, true, flat E_B y23⟩), (111, ⟨15, .live, true, flat E_B y21⟩), (127, ⟨15, .live, true, flat E_B y22⟩), (143, ⟨15, .live, true, flat E_B y11⟩), (144, ⟨12, .live, false, [(vI y18), (vI y19), (.val (.bool y20))]⟩), (208, ⟨26, .live, false, [(vI (nth E_Siibe (nth E_LSiibe a0.f0 y13) y24).f0), (vI (nth E_Siibe (nth E_LSiibe a0.f0 y13) y24).f1), (.val (.bool (nth E_Siibe (nth E_LSiibe a0.f0 y13) y24).f2))]⟩)]) (ep := 35) (by kernel_rfl) ?_
                        obtain ⟨v33, hv33, h⟩ := bS h
                        refine .cc true rfl rfl (C_simple_pack _ _ _ _ _ hv33) ent_simple_pack rfl rfl rfl rfl (g_cons (g_pl rfl rfl) (g_cons (g_pl rfl rfl) (g_cons (g_pl rfl rfl) g_nil))) rfl ?_
                        refine .seg tabOk 6 5 [1, 5, 6, 7, 8, 9, 13, 16, 17, 39, 40, 41, 45, 46, 47] [16, 95, 111, 127, 143, 144, 208, 1296] (t := [(1, (.ptr (16, 1) 0)), (5, (.sref (95, 15) 0 y23.length 1)), (6, (.sref (111, 15) 0 y21.length 1)), (7, (.sref (127, 15) 0 y22.length 1)), (8, (.sref (143, 15) 0 y11.length 1)), (9, (.ptr (144, 12) 0)), (13, (.ptr (208, 26) 0)), (16, (.val (.int .u8 v33.1))), (q28_16 v33), (q28_1 a0), (q28_2 a0), (41, (vI y13)), (45, (.ro 3 (nth E_LSiibe a0.f0 y13).length (flat E_Siibe (nth E_LSiibe a0.f0 y13)))), (46, (vI ((nth E_LSiibe a0.f0 y13).length : Int))), (47, (vI y24))]) (h := [(q28_0 a0), (95, ⟨15, .live, true, flat E_B y23⟩), (111, ⟨15, .live, true, flat E_B y21⟩), (127, ⟨15, .live, true, flat E_B y22⟩), (143, ⟨15, .live, true, flat E_B y11⟩), (144, ⟨12, .live, false, [(vI y18), (vI y19), (.val (.bool y20))]⟩), (208, ⟨26, .live, false, [(vI (nth E_Siibe (nth E_LSiibe a0.f0 y13) y24).f0), (vI (nth E_Siibe (nth E_LSiibe a0.f0 y13) y24).f1), (.val (.bool (nth E_Siibe (nth E_LSiibe a0.f0 y13) y24).f2))]⟩), (q28_14 v33)]) (ep := 36) (by kernel_rfl) ?_
                        refine .fin rfl ?_
                        refine sqN ?_
                        refine .seq ?_
                        refine .rgI rfl ?_
                        refine .seg tabOk 0 5 [1, 5, 6, 7, 8, 9, 13, 16, 17, 39, 40, 41, 45, 46, 47, 89] [16, 95, 111, 127, 143, 144, 208, 1296] (t := [(1, (.ptr (16, 1) 0)), (5, (.sref (95, 15) 0 y23.length 1)), (6, (.sref (111, 15) 0 y21.length 1)), (7, (.sref (127, 15) 0 y22.length 1)), (8, (.sref (143, 15) 0 y11.length 1)), (9, (.ptr (144, 12) 0)), (13, (.ptr (208, 26) 0)), (16, (.val (.int .u8 v33.1))), (q28_16 v33), (q28_1 a0), (q28_2 a0), (41, (vI y13)), (45, (.ro 3 (nth E_LSiibe a0.f0 y13).length (flat E_Siibe (nth E_LSiibe a0.f0 y13)))), (46, (vI ((nth E_LSiibe a0.f0 y13).length : Int))), (47, (vI y24)), (89, (vI (w64 ((nth E_Siibe (nth E_LSiibe a0.f0 y13) y24).f1 - y19))))]) (h := [(q28_0 a0), (95, ⟨15, .live, true, flat E_B y23⟩), (111, ⟨15, .live, true, flat E_B y21⟩), (127, ⟨15, .live, true, flat E_B y22⟩), (143, ⟨15, .live, true, flat E_B y11⟩), (144, ⟨12, .live, false, [(vI y18), (vI y19), (.val (.bool y20))]⟩), (208, ⟨26, .live, false, [(vI (nth E_Siibe (nth E_LSiibe a0.f0 y13) y24).f0), (vI (nth E_Siibe (nth E_LSiibe a0.f0 y13) y24).f1), (.val (.bool (nth E_Siibe (nth E_LSiibe a0.f0 y13) y24).f2))]⟩), (q28_14 v33)]) (ep := 38) (by kernel_rfl) ?_
                        obtain ⟨v34, hv34, h⟩ := bS h
                        refine .cc true rfl rfl (C_simple_pack _ _ _ _ _ hv34) ent_simple_pack rfl rfl rfl rfl (g_cons (g_pl rfl rfl) (g_cons (g_pl rfl rfl) (g_cons (g_pl rfl rfl) g_nil))) rfl ?_
                        refine .seg tabOk 6 5 [1, 5, 6, 7, 8, 9, 13, 16, 17, 18, 19, 39, 40, 41, 45, 46, 47] [16, 95, 111, 127, 143, 144, 208, 1296, 1440] (t := [(1, (.ptr (16, 1) 0)), (5, (.sref (95, 15) 0 y23.length 1)), (6, (.sref (111, 15) 0 y21.length 1)), (7, (.sref (127, 15) 0 y22.length 1)), (8, (.sref (143, 15) 0 y11.length 1)), (9, (.ptr (144, 12) 0)), (13, (.ptr (208, 26) 0)), (16, (.val (.int .u8 v33.1))), (q28_16 v33), (18, (.val (.int .u8 v34.1))), (q28_17 v34), (q28_1 a0), (q28_2 a0), (41, (vI y13)), (45, (.ro 3 (nth E_LSiibe a0.f0 y13).length (flat E_Siibe (nth E_LSiibe a0.f0 y13)))), (46, (vI ((nth E_LSiibe a0.f0 y13).length : Int))), (47, (vI y24))]) (h := [(q28_0 a0), (95, ⟨15, .live, true, flat E_B y23⟩), (111, ⟨15, .live, true, flat E_B y21⟩), (127, ⟨15, .live, true, flat E_B y22⟩), (143, ⟨15, .live, true, flat E_B y11⟩), (144, ⟨12, .live, false, [(vI y18), (vI y19), (.val (.bool y20))]⟩), (208, ⟨26, .live, false, [(vI (nth E_Siibe (nth E_LSiibe a0.f0 y13) y24).f0), (vI (nth E_Siibe (nth E_LSiibe a0.f0 y13) y24).f1), (.val (.bool (nth E_Siibe (nth E_LSiibe a0.f0 y13) y24).f2))]⟩), (q28_14 v33), (q28_15 v34)]) (ep := 39) (by kernel_rfl) ?_
                        refine .fin rfl ?_
                        refine sqN ?_
                        refine .seq ?_
                        refine .seq ?_
                        refine .rgI rfl ?_
                        refine .seg tabOk 0 2 [1, 5, 6, 7, 8, 9, 13, 16, 17, 18, 19, 39, 40, 41, 45, 46, 47, 94] [16, 95, 111, 127, 143, 144, 208, 1296, 1440] (t := [(1, (.ptr (16, 1) 0)), (5, (.sref (95, 15) 0 y23.length 1)), (6, (.sref (111, 15) 0 y21.length 1)), (7, (.sref (127, 15) 0 y22.length 1)), (8, (.sref (143, 15) 0 y11.length 1)), (9, (.ptr (144, 12) 0)), (13, (.ptr (208, 26) 0)), (16, (.val (.int .u8 v33.1))), (q28_16 v33), (18, (.val (.int .u8 v34.1))), (q28_17 v34), (q28_1 a0), (q28_2 a0), (41, (vI y13)), (45, (.ro 3 (nth E_LSiibe a0.f0 y13).length (flat E_Siibe (nth E_LSiibe a0.f0 y13)))), (46, (vI ((nth E_LSiibe a0.f0 y13).length : Int))), (47, (vI y24)), (94, (.val (.bool (nth E_Siibe (nth E_LSiibe a0.f0 y13) y24).f2)))]) (h := [(q28_0 a0), (95, ⟨15, .live, true, flat E_B y23⟩), (111, ⟨15, .live, true, flat E_B y21⟩), (127, ⟨15, .live, true, flat E_B y22⟩), (143, ⟨15, .live, true, flat E_B y11⟩), (144, ⟨12, .live, false, [(vI y18), (vI y19), (.val (.bool y20))]⟩), (208, ⟨26, .live, false, [(vI (nth E_Siibe (nth E_LSiibe a0.f0 y13) y24).f0), (vI (nth E_Siibe (nth E_LSiibe a0.f0 y13) y24).f1), (.val (.bool (nth E_Siibe (nth E_LSiibe a0.f0 y13) y24).f2))]⟩), (q28_14 v33), (q28_15 v34)]) (ep := 41) (by kernel_rfl) ?_
                        refine .fin rfl ?_
                        refine sqN ?_
                        refine .join (fun s' => s' = ⟨[(1, (.ptr (16, 1) 0)), (5, (.sref (95, 15) 0 y23.length 1)), (6, (.sref (111, 15) 0 y21.length 1)), (7, (.sref (127, 15) 0 y22.length 1)), (8, (.sref (143, 15) 0 y11.length 1)), (9, (.ptr (144, 12) 0)), (13, (.ptr (208, 26) 0)), (16, (.val (.int .u8 (if (nth E_Siibe (nth E_LSiibe a0.f0 y13) y24).f2 then (bits .or .u8 v33.1 1) else v33.1)))), (q28_16 v33), (18, (.val (.int .u8 v34.1))), (q28_17 v34), (q28_1 a0), (q28_2 a0), (41, (vI y13)), (45, (.ro 3 (nth E_LSiibe a0.f0 y13).length (flat E_Siibe (nth E_LSiibe a0.f0 y13)))), (46, (vI ((nth E_LSiibe a0.f0 y13).length : Int))), (47, (vI y24))], [(q28_0 a0), (95, ⟨15, .live, true, flat E_B y23⟩), (111, ⟨15, .live, true, flat E_B y21⟩), (127, ⟨15, .live, true, flat E_B y22⟩), (143, ⟨15, .live, true, flat E_B y11⟩), (144, ⟨12, .live, false, [(vI y18), (vI y19), (.val (.bool y20))]⟩), (208, ⟨26, .live, false, [(vI (nth E_Siibe (nth E_LSiibe a0.f0 y13) y24).f0), (vI (nth E_Siibe (nth E_LSiibe a0.f0 y13) y24).f1), (.val (.bool (nth E_Siibe (nth E_LSiibe a0.f0 y13) y24).f2))]⟩), (q28_14 v33), (q28_15 v34)], 44⟩) ?_ ?_
                        · refine .cond (nth E_Siibe (nth E_LSiibe a0.f0 y13) y24).f2 rfl (fun hc35 => ?_) (fun hc35 => ?_)
                          · skip
                            refine .rgI rfl ?_
                            refine .seg tabOk 0 3 [1, 5, 6, 7, 8, 9, 13, 16, 17, 18, 19, 39, 40, 41, 45, 46, 47] [16, 95, 111, 127, 143, 144, 208, 1296, 1440] (t := [(1, (.ptr (16, 1) 0)), (5, (.sref (95, 15) 0 y23.length 1)), (6, (.sref (111, 15) 0 y21.length 1)), (7, (.sref (127, 15) 0 y22.length 1)), (8, (.sref (143, 15) 0 y11.length 1)), (9, (.ptr (144, 12) 0)), (13, (.ptr (208, 26) 0)), (16, (.val (.int .u8 (bits .or .u8 v33.1 1)))), (q28_16 v33), (18, (.val (.int .u8 v34.1))), (q28_17 v34), (q28_1 a0), (q28_2 a0), (41, (vI y13)), (45, (.ro 3 (nth E_LSiibe a0.f0 y13).length (flat E_Siibe (nth E_LSiibe a0.f0 y13)))), (46, (vI ((nth E_LSiibe a0.f0 y13).length : Int))), (47, (vI y24))]) (h := [(q28_0 a0), (95, ⟨15, .live, true, flat E_B y23⟩), (111, ⟨15, .live, true, flat E_B y21⟩), (127, ⟨15, .live, true, flat E_B y22⟩), (143, ⟨15, .live, true, flat E_B y11⟩), (144, ⟨12, .live, false, [(vI y18), (vI y19), (.val (.bool y20))]⟩), (208, ⟨26, .live, false, [(vI (nth E_Siibe (nth E_LSiibe a0.f0 y13) y24).f0), (vI (nth E_Siibe (nth E_LSiibe a0.f0 y13) y24).f1), (.val (.bool (nth E_Siibe (nth E_LSiibe a0.f0 y13) y24).f2))]⟩), (q28_14 v33), (q28_15 v34)]) (ep := 43) (by kernel_rfl) ?_
                            refine .fin rfl ?_
                            exact jkN (by exact .tn [((16, 1), (16, 1)), ((95, 15), (95, 15)), ((111, 15), (111, 15)), ((127, 15), (127, 15)), ((143, 15), (143, 15)), ((144, 12), (144, 12)), ((208, 26), (208, 26)), ((1296, 35), (1296, 35)), ((1440, 38), (1440, 38))] ⟨(by (try rw [hc35]); rfl), (by (try rw [hc35]); rfl), (by (try rw [hc35]); rfl), (by (try rw [hc35]); rfl), (by (try rw [hc35]); rfl), (by (try rw [hc35]); rfl), (by (try rw [hc35]); rfl), (by (try rw [hc35]); rfl), (by (try rw [hc35]); rfl), (by (try rw [hc35]); rfl), (by (try rw [hc35]); rfl), (by (try rw [hc35]); rfl), (by (try rw [hc35]); rfl), (by (try rw [hc35]); rfl), (by (try rw [hc35]); rfl), (by (try rw [hc35]); rfl), (by (try rw [hc35]); rfl), trivial⟩ ⟨rfl, ⟨_, rfl, (by (try rw [hc35]); exact rfl)⟩, ⟨rfl, ⟨_, rfl, (by (try rw [hc35]); exact ah_row E_B)⟩, ⟨rfl, ⟨_, rfl, (by (try rw [hc35]); exact ah_row E_B)⟩, ⟨rfl, ⟨_, rfl, (by (try rw [hc35]); exact ah_row E_B)⟩, ⟨rfl, ⟨_, rfl, (by (try rw [hc35]); exact ah_row E_B)⟩, ⟨rfl, ⟨_, rfl, (by (try rw [hc35]); exact rfl)⟩, ⟨rfl, ⟨_, rfl, (by (try rw [hc35]); exact rfl)⟩, ⟨rfl, ⟨_, rfl, (by (try rw [hc35]); exact ah_row E_B)⟩, ⟨rfl, ⟨_, rfl, (by (try rw [hc35]); exact ah_row E_B)⟩, trivial⟩⟩⟩⟩⟩⟩⟩⟩⟩ rfl) rfl
                          · skip
                            refine .skip ?_
                            exact jkN (by exact .tn [((16, 1), (16, 1)), ((95, 15), (95, 15)), ((111, 15), (111, 15)), ((127, 15), (127, 15)), ((143, 15), (143, 15)), ((144, 12), (144, 12)), ((208, 26), (208, 26)), ((1296, 35), (1296, 35)), ((1440, 38), (1440, 38))] ⟨(by (try rw [hc35]); rfl), (by (try rw [hc35]); rfl), (by (try rw [hc35]); rfl), (by (try rw [hc35]); rfl), (by (try rw [hc35]); rfl), (by (try rw [hc35]); rfl), (by (try rw [hc35]); rfl), (by (try rw [hc35]); rfl), (by (try rw [hc35]); rfl), (by (try rw [hc35]); rfl), (by (try rw [hc35]); rfl), (by (try rw [hc35]); rfl), (by (try rw [hc35]); rfl), (by (try rw [hc35]); rfl), (by (try rw [hc35]); rfl), (by (try rw [hc35]); rfl), (by (try rw [hc35]); rfl), trivial⟩ ⟨rfl, ⟨_, rfl, (by (try rw [hc35]); exact rfl)⟩, ⟨rfl, ⟨_, rfl, (by (try rw [hc35]); exact ah_row E_B)⟩, ⟨rfl, ⟨_, rfl, (by (try rw [hc35]); exact ah_row E_B)⟩, ⟨rfl, ⟨_, rfl, (by (try rw [hc35]); exact ah_row E_B)⟩, ⟨rfl, ⟨_, rfl, (by (try rw [hc35]); exact ah_row E_B)⟩, ⟨rfl, ⟨_, rfl, (by (try rw [hc35]); exact rfl)⟩, ⟨rfl, ⟨_, rfl, (by (try rw [hc35]); exact rfl)⟩, ⟨rfl, ⟨_, rfl, (by (try rw [hc35]); exact ah_row E_B)⟩, ⟨rfl, ⟨_, rfl, (by (try rw [hc35]); exact ah_row E_B)⟩, trivial⟩⟩⟩⟩⟩⟩⟩⟩⟩ rfl) rfl
                        · rintro _ rfl
                          refine sqN ?_
                          refine .rgD rfl ?_
                          refine .seg tabOk 0 5 [1, 6, 7, 8, 9, 13, 17, 19, 39, 40, 41, 45, 46, 47, 97, 101] [16, 95, 111, 127, 143, 144, 208, 1296, 1440, 1616] (t := [(1, (.ptr (16, 1) 0)), (6, (.sref (111, 15) 0 y21.length 1)), (7, (.sref (127, 15) 0 y22.length 1)), (8, (.sref (143, 15) 0 y11.length 1)), (9, (.ptr (144, 12) 0)), (13, (.ptr (208, 26) 0)), (q28_16 v33), (q28_17 v34), (q28_1 a0), (q28_2 a0), (41, (vI y13)), (45, (.ro 3 (nth E_LSiibe a0.f0 y13).length (flat E_Siibe (nth E_LSiibe a0.f0 y13)))), (46, (vI ((nth E_LSiibe a0.f0 y13).length : Int))), (47, (vI y24)), (97, (.sref (95, 15) 0 y23.length 1)), (101, (.sref (1616, 45) 0 ([(bits .or .u8 (if (nth E_Siibe (nth E_LSiibe a0.f0 y13) y24).f2 then (bits .or .u8 v33.1 1) else v33.1) v34.1)] : List Int).length 1))]) (h := [(q28_0 a0), (95, ⟨15, .live, true, flat E_B y23⟩), (111, ⟨15, .live, true, flat E_B y21⟩), (127, ⟨15, .live, true, flat E_B y22⟩), (143, ⟨15, .live, true, flat E_B y11⟩), (144, ⟨12, .live, false, [(vI y18), (vI y19), (.val (.bool y20))]⟩), (208, ⟨26, .live, false, [(vI (nth E_Siibe (nth E_LSiibe a0.f0 y13) y24).f0), (vI (nth E_Siibe (nth E_LSiibe a0.f0 y13) y24).f1), (.val (.bool (nth E_Siibe (nth E_LSiibe a0.f0 y13) y24).f2))]⟩), (q28_14 v33), (q28_15 v34), (1616, ⟨45, .live, true, flat E_B ([(bits .or .u8 (if (nth E_Siibe (nth E_LSiibe a0.f0 y13) y24).f2 then (bits .or .u8 v33.1 1) else v33.1) v34.1)] : List Int)⟩)]) (ep := 45) (by kernel_rfl) ?_
                          obtain ⟨hb36, h⟩ := gS h
                          refine .oo tabOk rfl rfl rfl (q_app E_B (l := y23) rfl rfl rfl rfl rfl rfl rfl rfl rfl rfl rfl rfl rfl (.row ([(bits .or .u8 (if (nth E_Siibe (nth E_LSiibe a0.f0 y13) y24).f2 then (bits .or .u8 v33.1 1) else v33.1) v34.1)] : List Int) rfl rfl rfl rfl) hb36) rfl ?_
                          refine .seg tabOk 6 2 [1, 7, 8, 9, 13, 19, 39, 40, 41, 45, 46, 47, 102, 103, 104] [16, 95, 111, 127, 143, 144, 208, 1296, 1440, 1616, 1632] (t := [(1, (.ptr (16, 1) 0)), (7, (.sref (127, 15) 0 y22.length 1)), (8, (.sref (143, 15) 0 y11.length 1)), (9, (.ptr (144, 12) 0)), (13, (.ptr (208, 26) 0)), (q28_17 v34), (q28_1 a0), (q28_2 a0), (41, (vI y13)), (45, (.ro 3 (nth E_LSiibe a0.f0 y13).length (flat E_Siibe (nth E_LSiibe a0.f0 y13)))), (46, (vI ((nth E_LSiibe a0.f0 y13).length : Int))), (47, (vI y24)), (102, (.sref (1632, 45) 0 (y23 ++ ([(bits .or .u8 (if (nth E_Siibe (nth E_LSiibe a0.f0 y13) y24).f2 then (bits .or .u8 v33.1 1) else v33.1) v34.1)] : List Int)).length 1)), (103, (.sref (111, 15) 0 y21.length 1)), (104, (.sref (1296, 35) 0 v33.2.length 1))]) (h := [(q28_0 a0), (95, ⟨15, .gone, true, flat E_B y23⟩), (111, ⟨15, .live, true, flat E_B y21⟩), (127, ⟨15, .live, true, flat E_B y22⟩), (143, ⟨15, .live, true, flat E_B y11⟩), (144, ⟨12, .live, false, [(vI y18), (vI y19), (.val (.bool y20))]⟩), (208, ⟨26, .live, false, [(vI (nth E_Siibe (nth E_LSiibe a0.f0 y13) y24).f0), (vI (nth E_Siibe (nth E_LSiibe a0.f0 y13) y24).f1), (.val (.bool (nth E_Siibe (nth E_LSiibe a0.f0 y13) y24).f2))]⟩), (q28_14 v33), (q28_15 v34), (1616, ⟨45, .live, true, flat E_B ([(bits .or .u8 (if (nth E_Siibe (nth E_LSiibe a0.f0 y13) y24).f2 then (bits .or .u8 v33.1 1) else v33.1) v34.1)] : List Int)⟩), (1632, ⟨45, .live, true, flat E_B (y23 ++ ([(bits .or .u8 (if (nth E_Siibe (nth E_LSiibe a0.f0 y13) y24).f2 then (bits .or .u8 v33.1 1) else v33.1) v34.1)] : List Int))⟩)]) (ep := 45) (by kernel_rfl) ?_
                          obtain ⟨hb37, h⟩ := gS h
                          refine .oo tabOk rfl rfl rfl (q_app E_B (l := y21) rfl rfl rfl rfl rfl rfl rfl rfl rfl rfl rfl rfl rfl (.row v33.2 rfl rfl rfl rfl) hb37) rfl ?_
                          refine .seg tabOk 9 2 [1, 8, 9, 13, 39, 40, 41, 45, 46, 47, 102, 105, 106, 107] [16, 95, 111, 127, 143, 144, 208, 1296, 1440, 1616, 1632, 1680] (t := [(1, (.ptr (16, 1) 0)), (8, (.sref (143, 15) 0 y11.length 1)), (9, (.ptr (144, 12) 0)), (13, (.ptr (208, 26) 0)), (q28_1 a0), (q28_2 a0), (41, (vI y13)), (45, (.ro 3 (nth E_LSiibe a0.f0 y13).length (flat E_Siibe (nth E_LSiibe a0.f0 y13)))), (46, (vI ((nth E_LSiibe a0.f0 y13).length : Int))), (47, (vI y24)), (102, (.sref (1632, 45) 0 (y23 ++ ([(bits .or .u8 (if (nth E_Siibe (nth E_LSiibe a0.f0 y13) y24).f2 then (bits .or .u8 v33.1 1) else v33.1) v34.1)] : List Int)).length 1)), (105, (.sref (1680, 45) 0 (y21 ++ v33.2).length 1)), (106, (.sref (127, 15) 0 y22.length 1)), (107, (.sref (1440, 38) 0 v34.2.length 1))]) (h := [(q28_0 a0), (95, ⟨15, .gone, true, flat E_B y23⟩), (111, ⟨15, .gone, true, flat E_B y21⟩), (127, ⟨15, .live, true, flat E_B y22⟩), (143, ⟨15, .live, true, flat E_B y11⟩), (144, ⟨12, .live, false, [(vI y18), (vI y19), (.val (.bool y20))]⟩), (208, ⟨26, .live, false, [(vI (nth E_Siibe (nth E_LSiibe a0.f0 y13) y24).f0), (vI (nth E_Siibe (nth E_LSiibe a0.f0 y13) y24).f1), (.val (.bool (nth E_Siibe (nth E_LSiibe a0.f0 y13) y24).f2))]⟩), (q28_14 v33), (q28_15 v34), (1616, ⟨45, .live, true, flat E_B ([(bits .or .u8 (if (nth E_Siibe (nth E_LSiibe a0.f0 y13) y24).f2 then (bits .or .u8 v33.1 1) else v33.1) v34.1)] : List Int)⟩), (1632, ⟨45, .live, true, flat E_B (y23 ++ ([(bits .or .u8 (if (nth E_Siibe (nth E_LSiibe a0.f0 y13) y24).f2 then (bits .or .u8 v33.1 1) else v33.1) v34.1)] : List Int))⟩), (1680, ⟨45, .live, true, flat E_B (y21 ++ v33.2)⟩)]) (ep := 45) (by kernel_rfl) ?_
                          obtain ⟨hb38, h⟩ := gS h
                          refine .oo tabOk rfl rfl rfl (q_app E_B (l := y22) rfl rfl rfl rfl rfl rfl rfl rfl rfl rfl rfl rfl rfl (.row v34.2 rfl rfl rfl rfl) hb38) rfl ?_
                          refine .seg tabOk 12 5 [1, 5, 6, 7, 8, 9, 39, 40, 41, 45, 46, 47] [16, 95, 111, 127, 143, 144, 208, 1296, 1440, 1616, 1632, 1680, 1728] (t := [(1, (.ptr (16, 1) 0)), (5, (.sref (1632, 45) 0 (y23 ++ ([(bits .or .u8 (if (nth E_Siibe (nth E_LSiibe a0.f0 y13) y24).f2 then (bits .or .u8 v33.1 1) else v33.1) v34.1)] : List Int)).length 1)), (6, (.sref (1680, 45) 0 (y21 ++ v33.2).length 1)), (7, (.sref (1728, 45) 0 (y22 ++ v34.2).length 1)), (8, (.sref (143, 15) 0 y11.length 1)), (9, (.ptr (144, 12) 0)), (q28_1 a0), (q28_2 a0), (41, (vI y13)), (45, (.ro 3 (nth E_LSiibe a0.f0 y13).length (flat E_Siibe (nth E_LSiibe a0.f0 y13)))), (46, (vI ((nth E_LSiibe a0.f0 y13).length : Int))), (47, (vI y24))]) (h := [(q28_0 a0), (95, ⟨15, .gone, true, flat E_B y23⟩), (111, ⟨15, .gone, true, flat E_B y21⟩), (127, ⟨15, .gone, true, flat E_B y22⟩), (143, ⟨15, .live, true, flat E_B y11⟩), (144, ⟨12, .live, false, [(vI (nth E_Siibe (nth E_LSiibe a0.f0 y13) y24).f0), (vI (nth E_Siibe (nth E_LSiibe a0.f0 y13) y24).f1), (.val (.bool (nth E_Siibe (nth E_LSiibe a0.f0 y13) y24).f2))]⟩), (208, ⟨26, .live, false, [(vI (nth E_Siibe (nth E_LSiibe a0.f0 y13) y24).f0), (vI (nth E_Siibe (nth E_LSiibe a0.f0 y13) y24).f1), (.val (.bool (nth E_Siibe (nth E_LSiibe a0.f0 y13) y24).f2))]⟩), (q28_14 v33), (q28_15 v34), (1616, ⟨45, .live, true, flat E_B ([(bits .or .u8 (if (nth E_Siibe (nth E_LSiibe a0.f0 y13) y24).f2 then (bits .or .u8 v33.1 1) else v33.1) v34.1)] : List Int)⟩), (1632, ⟨45, .live, true, flat E_B (y23 ++ ([(bits .or .u8 (if (nth E_Siibe (nth E_LSiibe a0.f0 y13) y24).f2 then (bits .or .u8 v33.1 1) else v33.1) v34.1)] : List Int))⟩), (1680, ⟨45, .live, true, flat E_B (y21 ++ v33.2)⟩), (1728, ⟨45, .live, true, flat E_B (y22 ++ v34.2)⟩)]) (ep := 45) (by kernel_rfl) ?_
                          refine .fin mixed [1, 5, 6, 7, 8, 9, 39, 40, 41, 45, 46, 47] [16, 143, 144, 1632, 1680, 1728] (t := [(1, (.ptr (16, 1) 0)), (5, (.sref (1632, 45) 0 (y23 ++ ([(bits .or .u8 (if (nth E_Siibe (nth E_LSiibe a0.f0 y13) y24).f2 then (bits .or .u8 v33.1 1) else v33.1) v34.1)] : List Int)).length 1)), (6, (.sref (1680, 45) 0 (y21 ++ v33.2).length 1)), (7, (.sref (1728, 45) 0 (y22 ++ v34.2).length 1)), (8, (.sref (143, 15) 0 y11.length 1)), (9, (.ptr (144, 12) 0)), (q28_1 a0), (q28_2 a0), (41, (vI y13)), (45, (.ro 3 (nth E_LSiibe a0.f0 y13).length (flat E_Siibe (nth E_LSiibe a0.f0 y13)))), (46, (vI ((nth E_LSiibe a0.f0 y13).length : Int))), (47, (vI y24))]) (h := [(q28_0 a0), (143, ⟨15, .live, true, flat E_B y11⟩), (144, ⟨12, .live, false, [(vI (nth E_Siibe (nth E_LSiibe a0.f0 y13) y24).f0), (vI (nth E_Siibe (nth E_LSiibe a0.f0 y13) y24).f1), (.val (.bool (nth E_Siibe (nth E_LSiibe a0.f0 y13) y24).f2))]⟩), (1632, ⟨45, .live, true, flat E_B (y23 ++ ([(bits .or .u8 (if (nth E_Siibe (nth E_LSiibe a0.f0 y13) y24).f2 then (bits .or .u8 v33.1 1) else v33.1) v34.1)] : List Int))⟩), (1680, ⟨45, .live, true, flat E_B (y21 ++ v33.2)⟩), (1728, ⟨45, .live, true, flat E_B (y22 ++ v34.2)⟩)]) (ep := 46) rfl (by kernel_rfl) rfl ?_
                          refine bkN ?_
                          exact jkN (by exact .tn [((16, 1), (16, 1)), ((143, 15), (143, 15)), ((144, 12), (144, 12)), ((1632, 45), (1632, 45)), ((1680, 45), (1680, 45)), ((1728, 45), (1728, 45))] ⟨rfl, rfl, rfl, rfl, rfl, rfl, rfl, rfl, rfl, rfl, rfl, rfl, trivial⟩ ⟨rfl, ⟨_, rfl, rfl⟩, ⟨rfl, ⟨_, rfl, ah_row E_B⟩, ⟨rfl, ⟨_, rfl, rfl⟩, ⟨rfl, ⟨_, rfl, ah_row E_B⟩, ⟨rfl, ⟨_, rfl, ah_row E_B⟩, ⟨rfl, ⟨_, rfl, ah_row E_B⟩, trivial⟩⟩⟩⟩⟩⟩ rfl) ⟨_, _, _, rfl, h⟩
                    · rintro _ ⟨x39, x40, x41, rfl, h⟩
                      subst hj26
                      refine sqN ?_
                      refine .rgI rfl ?_
                      refine .seg tabOk 0 2 [1, 5, 6, 7, 8, 9, 39, 40, 41, 45, 46, 47] [16, 143, 144, 1632, 1680, 1728] (t := [(1, (.ptr (16, 1) 0)), (5, (.sref (1632, 45) 0 x39.length 1)), (6, (.sref (1680, 45) 0 x40.length 1)), (7, (.sref (1728, 45) 0 x41.length 1)), (8, (.sref (143, 15) 0 y11.length 1)), (9, (.ptr (144, 12) 0)), (q28_1 a0), (q28_2 a0), (41, (vI y13)), (45, (.ro 3 (nth E_LSiibe a0.f0 y13).length (flat E_Siibe (nth E_LSiibe a0.f0 y13)))), (46, (vI ((nth E_LSiibe a0.f0 y13).length : Int))), (47, (vI (w64 (y24 + 1))))]) (h := [(q28_0 a0), (143, ⟨15, .live, true, flat E_B y11⟩), (144, ⟨12, .live, false, [(vI (nth E_Siibe (nth E_LSiibe a0.f0 y13) y24).f0), (vI (nth E_Siibe (nth E_LSiibe a0.f0 y13) y24).f1), (.val (.bool (nth E_Siibe (nth E_LSiibe a0.f0 y13) y24).f2))]⟩), (1632, ⟨45, .live, true, flat E_B x39⟩), (1680, ⟨45, .live, true, flat E_B x40⟩), (1728, ⟨45, .live, true, flat E_B x41⟩)]) (ep := 49) (by kernel_rfl) ?_
                      refine .fin rfl ?_
                      exact jkN (by exact .tn [((16, 1), (16, 1)), ((1632, 45), (95, 15)), ((1680, 45), (111, 15)), ((1728, 45), (127, 15)), ((143, 15), (143, 15)), ((144, 12), (144, 12))] ⟨rfl, rfl, rfl, rfl, rfl, rfl, rfl, rfl, rfl, rfl, rfl, rfl, trivial⟩ ⟨rfl, ⟨_, rfl, rfl⟩, ⟨rfl, ⟨_, rfl, ah_row E_B⟩, ⟨rfl, ⟨_, rfl, ah_row E_B⟩, ⟨rfl, ⟨_, rfl, ah_row E_B⟩, ⟨rfl, ⟨_, rfl, ah_row E_B⟩, ⟨rfl, ⟨_, rfl, rfl⟩, trivial⟩⟩⟩⟩⟩⟩ rfl) ⟨n, ((nth E_Siibe (nth E_LSiibe a0.f0 y13) y24).f0, (nth E_Siibe (nth E_LSiibe a0.f0 y13) y24).f1, (nth E_Siibe (nth E_LSiibe a0.f0 y13) y24).f2, x40, x41, x39, (w64 (y24 + 1))), Nat.lt_succ_self n, rfl, h⟩
                  · have h := iF h hc25
                    refine .exit ?_
                    refine sqX ?_
                    refine jkX ?_
                    refine bkE ?_
                    exact jkN (by exact .tn [((16, 1), (16, 1)), ((95, 15), (95, 15)), ((111, 15), (111, 15)), ((127, 15), (127, 15)), ((143, 15), (143, 15)), ((144, 12), (144, 12))] ⟨rfl, rfl, rfl, rfl, rfl, rfl, rfl, rfl, rfl, trivial⟩ ⟨rfl, ⟨_, rfl, rfl⟩, ⟨rfl, ⟨_, rfl, ah_row E_B⟩, ⟨rfl, ⟨_, rfl, ah_row E_B⟩, ⟨rfl, ⟨_, rfl, ah_row E_B⟩, ⟨rfl, ⟨_, rfl, ah_row E_B⟩, ⟨rfl, ⟨_, rfl, rfl⟩, trivial⟩⟩⟩⟩⟩⟩ rfl) ⟨_, _, _, _, _, _, rfl, h⟩
              · rintro _ ⟨x42, x43, x44, x45, x46, x47, rfl, h⟩
                subst hj17
                refine sqN ?_
                refine .rgI rfl ?_
                refine .seg tabOk 0 4 [1, 5, 6, 7, 9, 39, 40, 41, 111, 114] [16, 95, 111, 127, 143, 144] (t := [(1, (.ptr (16, 1) 0)), (5, (.sref (95, 15) 0 x47.length 1)), (6, (.sref (111, 15) 0 x45.length 1)), (7, (.sref (127, 15) 0 x46.length 1)), (9, (.ptr (144, 12) 0)), (q28_1 a0), (q28_2 a0), (41, (vI y13)), (111, (.sref (143, 15) 0 y11.length 1)), (114, (vI (w64 ((x47.length : Int) - 1))))]) (h := [(q28_0 a0), (95, ⟨15, .live, true, flat E_B x47⟩), (111, ⟨15, .live, true, flat E_B x45⟩), (127, ⟨15, .live, true, flat E_B x46⟩), (143, ⟨15, .live, true, flat E_B y11⟩), (144, ⟨12, .live, false, [(vI x42), (vI x43), (.val (.bool x44))]⟩)]) (ep := 28) (by kernel_rfl) ?_
                obtain ⟨v48, hv48, h⟩ := bS h
                refine .cc true rfl rfl (C_be_Put _ _ _ _ hv48) ent_be_Put rfl rfl rfl rfl (g_cons (g_pl rfl rfl) (g_cons (g_pl rfl rfl) g_nil)) rfl ?_
                obtain ⟨hb49, h⟩ := gS h
                refine .oo tabOk rfl rfl rfl (q_app E_B (l := y11) rfl rfl rfl rfl rfl rfl rfl rfl rfl rfl rfl rfl rfl (.row v48 rfl rfl rfl rfl) hb49) ?_
                refine .seg tabOk 6 1 [1, 5, 6, 7, 8, 9, 39, 40, 41] [16, 95, 111, 127, 144, 1856] (t := [(1, (.ptr (16, 1) 0)), (5, (.sref (95, 15) 0 x47.length 1)), (6, (.sref (111, 15) 0 x45.length 1)), (7, (.sref (127, 15) 0 x46.length 1)), (8, (.sref (1856, 28) 0 (y11 ++ v48).length 1)), (9, (.ptr (144, 12) 0)), (q28_1 a0), (q28_2 a0), (41, (vI y13))]) (h := [(q28_0 a0), (95, ⟨15, .live, true, flat E_B x47⟩), (111, ⟨15, .live, true, flat E_B x45⟩), (127, ⟨15, .live, true, flat E_B x46⟩), (144, ⟨12, .live, false, [(vI x42), (vI x43), (.val (.bool x44))]⟩), (1856, ⟨28, .live, true, flat E_B (y11 ++ v48)⟩)]) (ep := 29) (by kernel_rfl) ?_
                refine .fin rfl ?_
                refine bkN ?_
                exact jkN (by exact .tn [((16, 1), (16, 1)), ((95, 15), (95, 15)), ((111, 15), (111, 15)), ((127, 15), (127, 15)), ((144, 12), (144, 12)), ((1856, 28), (1856, 28))] ⟨rfl, rfl, rfl, rfl, rfl, rfl, rfl, rfl, rfl, trivial⟩ ⟨rfl, ⟨_, rfl, rfl⟩, ⟨rfl, ⟨_, rfl, ah_row E_B⟩, ⟨rfl, ⟨_, rfl, ah_row E_B⟩, ⟨rfl, ⟨_, rfl, ah_row E_B⟩, ⟨rfl, ⟨_, rfl, rfl⟩, ⟨rfl, ⟨_, rfl, ah_row E_B⟩, trivial⟩⟩⟩⟩⟩⟩ rfl) ⟨_, _, _, _, _, _, _, rfl, h⟩
            · rintro _ ⟨x50, x51, x52, x53, x54, x55, x56, rfl, h⟩
              subst hj15
              refine sqN ?_
              refine .rgI rfl ?_
              refine .seg tabOk 0 2 [1, 5, 6, 7, 8, 9, 39, 40, 41] [16, 95, 111, 127, 144, 1856] (t := [(1, (.ptr (16, 1) 0)), (5, (.sref (95, 15) 0 x56.length 1)), (6, (.sref (111, 15) 0 x53.length 1)), (7, (.sref (127, 15) 0 x54.length 1)), (8, (.sref (1856, 28) 0 x55.length 1)), (9, (.ptr (144, 12) 0)), (q28_1 a0), (q28_2 a0), (41, (vI (w64 (y13 + 1))))]) (h := [(q28_0 a0), (95, ⟨15, .live, true, flat E_B x56⟩), (111, ⟨15, .live, true, flat E_B x53⟩), (127, ⟨15, .live, true, flat E_B x54⟩), (144, ⟨12, .live, false, [(vI x50), (vI x51), (.val (.bool x52))]⟩), (1856, ⟨28, .live, true, flat E_B x55⟩)]) (ep := 32) (by kernel_rfl) ?_
              refine .fin rfl ?_
              exact jkN (by exact .tn [((16, 1), (16, 1)), ((95, 15), (95, 15)), ((111, 15), (111, 15)), ((127, 15), (127, 15)), ((1856, 28), (143, 15)), ((144, 12), (144, 12))] ⟨rfl, rfl, rfl, rfl, rfl, rfl, rfl, rfl, rfl, trivial⟩ ⟨rfl, ⟨_, rfl, rfl⟩, ⟨rfl, ⟨_, rfl, ah_row E_B⟩, ⟨rfl, ⟨_, rfl, ah_row E_B⟩, ⟨rfl, ⟨_, rfl, ah_row E_B⟩, ⟨rfl, ⟨_, rfl, ah_row E_B⟩, ⟨rfl, ⟨_, rfl, rfl⟩, trivial⟩⟩⟩⟩⟩⟩ rfl) ⟨n, (x50, x51, x52, x53, x54, x55, x56, (w64 (y13 + 1))), Nat.lt_succ_self n, rfl, h⟩
          · have h := iF h hc14
            refine .exit ?_
            refine sqX ?_
            refine jkX ?_
            refine bkE ?_
            exact jkN (by exact .tn [((16, 1), (16, 1)), ((95, 15), (95, 18)), ((111, 15), (111, 18)), ((127, 15), (127, 18)), ((143, 15), (143, 18))] ⟨rfl, rfl, rfl, rfl, rfl, trivial⟩ ⟨rfl, ⟨_, rfl, rfl⟩, ⟨rfl, ⟨_, rfl, ah_row E_B⟩, ⟨rfl, ⟨_, rfl, ah_row E_B⟩, ⟨rfl, ⟨_, rfl, ah_row E_B⟩, ⟨rfl, ⟨_, rfl, ah_row E_B⟩, trivial⟩⟩⟩⟩⟩ rfl) ⟨_, _, _, _, rfl, h⟩
      · rintro _ ⟨x57, x58, x59, x60, rfl, h⟩
        subst hj5
        refine sqN ?_
        refine .seq ?_
        refine .rgI rfl ?_
        refine .seg tabOk 0 2 [1, 5, 6, 7, 8, 120] [16, 95, 111, 127, 143] (t := [(1, (.ptr (16, 1) 0)), (q28_11 x60), (q28_9 x57), (q28_6 x58), (q28_13 x59), (120, (.ro 1 a0.f0.length (flat E_LSiibe a0.f0)))]) (h := [(q28_0 a0), (q28_10 x60), (q28_7 x57), (q28_4 x58), (q28_12 x59)]) (ep := 21) (by kernel_rfl) ?_
        obtain ⟨v61, hv61, h⟩ := bS h
        refine .cc true rfl rfl (C_simple_Box _ _ _ hv61) ent_simple_Box rfl rfl rfl rfl (g_cons (g_pl rfl rfl) g_nil) rfl ?_
        refine .seg tabOk 3 7 [1, 5, 6, 7, 8, 20, 21] [16, 95, 111, 127, 143, 320, 336] (t := [(1, (.ptr (16, 1) 0)), (q28_11 x60), (q28_9 x57), (q28_6 x58), (q28_13 x59), (20, (.ptr (320, 21) 0)), (21, (.ptr (336, 21) 0))]) (h := [(q28_0 a0), (q28_10 x60), (q28_7 x57), (q28_4 x58), (q28_12 x59), (320, ⟨21, .live, false, [(vI v61.1.f0), (vI v61.1.f1)]⟩), (336, ⟨21, .live, false, [(vI v61.2.f0), (vI v61.2.f1)]⟩)]) (ep := 22) (by kernel_rfl) ?_
        refine .fin rfl ?_
        refine sqN ?_
        refine .seq ?_
        refine .rgI rfl ?_
        refine .seg tabOk 0 1 [1, 5, 6, 7, 8, 20, 21, 22] [16, 95, 111, 127, 143, 320, 336] (t := [(1, (.ptr (16, 1) 0)), (q28_11 x60), (q28_9 x57), (q28_6 x58), (q28_13 x59), (20, (.ptr (320, 21) 0)), (21, (.ptr (336, 21) 0)), (22, .nils)]) (h := [(q28_0 a0), (q28_10 x60), (q28_7 x57), (q28_4 x58), (q28_12 x59), (320, ⟨21, .live, false, [(vI v61.1.f0), (vI v61.1.f1)]⟩), (336, ⟨21, .live, false, [(vI v61.2.f0), (vI v61.2.f1)]⟩)]) (ep := 24) (by kernel_rfl) ?_
        refine .fin rfl ?_
        refine sqN ?_
        refine .seq ?_
        refine .seq ?_
        refine .rgI rfl ?_
        refine .seg tabOk 0 14 [1, 5, 6, 7, 8, 22, 135, 136, 137] [16, 95, 111, 127, 143, 2160] (t := [(1, (.ptr (16, 1) 0)), (q28_11 x60), (q28_9 x57), (q28_6 x58), (q28_13 x59), (22, .nils), (q28_3 a0 v61), (q28_8 a0 v61), (137, (vI 0))]) (h := [(q28_0 a0), (q28_10 x60), (q28_7 x57), (q28_4 x58), (q28_12 x59), (q28_5 a0 v61)]) (ep := 26) (by kernel_rfl) ?_
        refine .fin rfl ?_
        refine sqN ?_
        obtain ⟨j62, hj62, h⟩ := ljS h
        refine .join (fun s' => ∃ x69, s' = ⟨[(1, (.ptr (16, 1) 0)), (q28_11 x60), (q28_9 x57), (q28_6 x58), (q28_13 x59), (22, (.sref (367, 29) 0 x69.length 1))], [(q28_0 a0), (q28_10 x60), (q28_7 x57), (q28_4 x58), (q28_12 x59), (367, ⟨29, .live, true, flat E_B x69⟩)], 30⟩ ∧ j62 x69 = some r) ?_ ?_
        · refine .block ?_
          refine .loopF (β := (List Int) × Int) (fun v => ⟨[(1, (.ptr (16, 1) 0)), (q28_11 x60), (q28_9 x57), (q28_6 x58), (q28_13 x59), (22, (.sref (367, 26) 0 v.1.length 1)), (q28_3 a0 v61), (q28_8 a0 v61), (137, (vI v.2))], [(q28_0 a0), (q28_10 x60), (q28_7 x57), (q28_4 x58), (q28_12 x59), (367, ⟨26, .live, true, flat E_B v.1⟩), (q28_5 a0 v61)], 27⟩) (fun m v => L_simple_Write_3 a0 v61 j62 m v.1 v.2 = some r) n (([] : List Int), 0) (by exact .trans (.nilRow 22 1 367 rfl (fresh_none rfl)) (.tn [((16, 1), (16, 1)), ((95, 18), (95, 18)), ((111, 18), (111, 18)), ((127, 18), (127, 18)), ((143, 18), (143, 18)), ((367, 26), (367, 26)), ((2160, 25), (2160, 25))] ⟨rfl, rfl, rfl, rfl, rfl, rfl, rfl, rfl, rfl, trivial⟩ ⟨rfl, ⟨_, rfl, rfl⟩, ⟨rfl, ⟨_, rfl, ah_row E_B⟩, ⟨rfl, ⟨_, rfl, ah_row E_B⟩, ⟨rfl, ⟨_, rfl, ah_row E_B⟩, ⟨rfl, ⟨_, rfl, ah_row E_B⟩, ⟨rfl, ⟨_, rfl, ah_row E_B⟩, ⟨rfl, ⟨_, rfl, ah_row E_i⟩, trivial⟩⟩⟩⟩⟩⟩⟩ rfl)) h ?_
          rintro m ⟨y63, y64⟩ h
          cases m with
          | zero => exact nomatch h
          | succ n =>
            rw [L_simple_Write_3] at h
            refine .seq ?_
            refine .rgI rfl ?_
            refine .seg tabOk 0 1 [1, 5, 6, 7, 8, 22, 135, 136, 137, 138] [16, 95, 111, 127, 143, 367, 2160] (t := [(1, (.ptr (16, 1) 0)), (q28_11 x60), (q28_9 x57), (q28_6 x58), (q28_13 x59), (22, (.sref (367, 26) 0 y63.length 1)), (q28_3 a0 v61), (q28_8 a0 v61), (137, (vI y64)), (138, (.val (.bool (decide (y64 < (([(a0.f0.length : Int), v61.1.f0, v61.1.f1, v61.2.f0, v61.2.f1] : List Int).length : Int))))))]) (h := [(q28_0 a0), (q28_10 x60), (q28_7 x57), (q28_4 x58), (q28_12 x59), (367, ⟨26, .live, true, flat E_B y63⟩), (q28_5 a0 v61)]) (ep := 29) (by kernel_rfl) ?_
            refine .fin rfl ?_
            refine sqN ?_
            refine .seq ?_
            refine .cond (decide (y64 < (([(a0.f0.length : Int), v61.1.f0, v61.1.f1, v61.2.f0, v61.2.f1] : List Int).length : Int))) rfl (fun hc65 => ?_) (fun hc65 => ?_)
            · have h := iT h hc65
              refine .skip ?_
              refine sqN ?_
              refine .seq ?_
              refine .block ?_
              refine .seq ?_
              refine .rgI rfl ?_
              obtain ⟨hb66, h⟩ := gS h
              refine .oo tabOk rfl rfl rfl (q_idxS E_i (l := ([(a0.f0.length : Int), v61.1.f0, v61.1.f1, v61.2.f0, v61.2.f1] : List Int)) rfl rfl rfl rfl rfl rfl rfl rfl hb66) ?_
              refine .oo tabOk rfl rfl rfl (q_ldS E_i (l := ([(a0.f0.length : Int), v61.1.f0, v61.1.f1, v61.2.f0, v61.2.f1] : List Int)) rfl rfl rfl rfl rfl hb66 rfl) ?_
              refine .seg tabOk 2 1 [1, 5, 6, 7, 8, 22, 24, 135, 136, 137] [16, 95, 111, 127, 143, 367, 2160] (t := [(1, (.ptr (16, 1) 0)), (q28_11 x60), (q28_9 x57), (q28_6 x58), (q28_13 x59), (22, (.sref (367, 26) 0 y63.length 1)), (24, (vI (nth E_i ([(a0.f0.length : Int), v61.1.f0, v61.1.f1, v61.2.f0, v61.2.f1] : List Int) y64))), (q28_3 a0 v61), (q28_8 a0 v61), (137, (vI y64))]) (h := [(q28_0 a0), (q28_10 x60), (q28_7 x57), (q28_4 x58), (q28_12 x59), (367, ⟨26, .live, true, flat E_B y63⟩), (q28_5 a0 v61)]) (ep := 31) (by kernel_rfl) ?_
              refine .fin rfl ?_
              refine sqN ?_
              refine .rgI rfl ?_
              refine .seg tabOk 0 2 [1, 5, 6, 7, 8, 135, 136, 137, 141, 142] [16, 95, 111, 127, 143, 367, 2160] (t := [(1, (.ptr (16, 1) 0)), (q28_11 x60), (q28_9 x57), (q28_6 x58), (q28_13 x59), (q28_3 a0 v61), (q28_8 a0 v61), (137, (vI y64)), (141, (.sref (367, 26) 0 y63.length 1)), (142, (vI (nth E_i ([(a0.f0.length : Int), v61.1.f0, v61.1.f1, v61.2.f0, v61.2.f1] : List Int) y64)))]) (h := [(q28_0 a0), (q28_10 x60), (q28_7 x57), (q28_4 x58), (q28_12 x59), (367, ⟨26, .live, true, flat E_B y63⟩), (q28_5 a0 v61)]) (ep := 33) (by kernel_rfl) ?_
              obtain ⟨v67, hv67, h⟩ := bS h
              refine .cc true rfl rfl (C_be_Put _ _ _ _ hv67) ent_be_Put rfl rfl rfl rfl (g_cons (g_pl rfl rfl) (g_cons (g_pl rfl rfl) g_nil)) rfl ?_
              obtain ⟨hb68, h⟩ := gS h
              refine .oo tabOk rfl rfl rfl (q_app E_B (l := y63) rfl rfl rfl rfl rfl rfl rfl rfl rfl rfl rfl rfl rfl (.row v67 rfl rfl rfl rfl) hb68) ?_
              refine .seg tabOk 4 1 [1, 5, 6, 7, 8, 22, 135, 136, 137] [16, 95, 111, 127, 143, 2160, 2304] (t := [(1, (.ptr (16, 1) 0)), (q28_11 x60), (q28_9 x57), (q28_6 x58), (q28_13 x59), (22, (.sref (2304, 33) 0 (y63 ++ v67).length 1)), (q28_3 a0 v61), (q28_8 a0 v61), (137, (vI y64))]) (h := [(q28_0 a0), (q28_10 x60), (q28_7 x57), (q28_4 x58), (q28_12 x59), (q28_5 a0 v61), (2304, ⟨33, .live, true, flat E_B (y63 ++ v67)⟩)]) (ep := 34) (by kernel_rfl) ?_
              refine .fin rfl ?_
              refine bkN ?_
              refine sqN ?_
              refine .rgI rfl ?_
              refine .seg tabOk 0 2 [1, 5, 6, 7, 8, 22, 135, 136, 137] [16, 95, 111, 127, 143, 2160, 2304] (t := [(1, (.ptr (16, 1) 0)), (q28_11 x60), (q28_9 x57), (q28_6 x58), (q28_13 x59), (22, (.sref (2304, 33) 0 (y63 ++ v67).length 1)), (q28_3 a0 v61), (q28_8 a0 v61), (137, (vI (w64 (y64 + 1))))]) (h := [(q28_0 a0), (q28_10 x60), (q28_7 x57), (q28_4 x58), (q28_12 x59), (q28_5 a0 v61), (2304, ⟨33, .live, true, flat E_B (y63 ++ v67)⟩)]) (ep := 36) (by kernel_rfl) ?_
              refine .fin rfl ?_
              exact jkN (by exact .tn [((16, 1), (16, 1)), ((95, 18), (95, 18)), ((111, 18), (111, 18)), ((127, 18), (127, 18)), ((143, 18), (143, 18)), ((2304, 33), (367, 26)), ((2160, 25), (2160, 25))] ⟨rfl, rfl, rfl, rfl, rfl, rfl, rfl, rfl, rfl, trivial⟩ ⟨rfl, ⟨_, rfl, rfl⟩, ⟨rfl, ⟨_, rfl, ah_row E_B⟩, ⟨rfl, ⟨_, rfl, ah_row E_B⟩, ⟨rfl, ⟨_, rfl, ah_row E_B⟩, ⟨rfl, ⟨_, rfl, ah_row E_B⟩, ⟨rfl, ⟨_, rfl, ah_row E_B⟩, ⟨rfl, ⟨_, rfl, ah_row E_i⟩, trivial⟩⟩⟩⟩⟩⟩⟩ rfl) ⟨n, ((y63 ++ v67), (w64 (y64 + 1))), Nat.lt_succ_self n, rfl, h⟩
            · have h := iF h hc65
              refine .exit ?_
              refine sqX ?_
              refine jkX ?_
              refine bkE ?_
              exact jkN (by exact .tn [((16, 1), (16, 1)), ((95, 18), (95, 18)), ((111, 18), (111, 18)), ((127, 18), (127, 18)), ((143, 18), (143, 18)), ((367, 26), (367, 29))] ⟨rfl, rfl, rfl, rfl, rfl, rfl, trivial⟩ ⟨rfl, ⟨_, rfl, rfl⟩, ⟨rfl, ⟨_, rfl, ah_row E_B⟩, ⟨rfl, ⟨_, rfl, ah_row E_B⟩, ⟨rfl, ⟨_, rfl, ah_row E_B⟩, ⟨rfl, ⟨_, rfl, ah_row E_B⟩, ⟨rfl, ⟨_, rfl, ah_row E_B⟩, trivial⟩⟩⟩⟩⟩⟩ rfl) ⟨_, rfl, h⟩
        · rintro _ ⟨x69, rfl, h⟩
          subst hj62
          refine sqN ?_
          refine .seq ?_
          refine .rgD rfl ?_
          refine .seg tabOk 0 2 [1, 5, 6, 7, 146, 147] [16, 95, 111, 127, 143, 367] (t := [(1, (.ptr (16, 1) 0)), (q28_11 x60), (q28_9 x57), (q28_6 x58), (146, (.sref (367, 29) 0 x69.length 1)), (147, (.sref (143, 18) 0 x59.length 1))]) (h := [(q28_0 a0), (q28_10 x60), (q28_7 x57), (q28_4 x58), (q28_12 x59), (367, ⟨29, .live, true, flat E_B x69⟩)]) (ep := 31) (by kernel_rfl) ?_
          obtain ⟨hb70, h⟩ := gS h
          refine .oo tabOk rfl rfl rfl (q_app E_B (l := x69) rfl rfl rfl rfl rfl rfl rfl rfl rfl rfl rfl rfl rfl (.row x59 rfl rfl rfl rfl) hb70) rfl ?_
          refine .seg tabOk 3 3 [1, 5, 6, 7, 148, 151] [16, 95, 111, 127, 143, 367, 2368] (t := [(1, (.ptr (16, 1) 0)), (q28_11 x60), (q28_9 x57), (q28_6 x58), (148, (.sref (2368, 31) 0 (x69 ++ x59).length 1)), (151, (vI (a0.f1.length : Int)))]) (h := [(q28_0 a0), (q28_10 x60), (q28_7 x57), (q28_4 x58), (q28_12 x59), (367, ⟨29, .gone, true, flat E_B x69⟩), (2368, ⟨31, .live, true, flat E_B (x69 ++ x59)⟩)]) (ep := 31) (by kernel_rfl) ?_
          obtain ⟨v71, hv71, h⟩ := bS h
          refine .cc true rfl rfl (C_be_Put _ _ _ _ hv71) ent_be_Put rfl rfl rfl rfl (g_cons (g_pl rfl rfl) (g_cons (g_pl rfl rfl) g_nil)) rfl rfl ?_
          obtain ⟨hb72, h⟩ := gS h
          refine .oo tabOk rfl rfl rfl (q_app E_B (l := (x69 ++ x59)) rfl rfl rfl rfl rfl rfl rfl rfl rfl rfl rfl rfl rfl (.row v71 rfl rfl rfl rfl) hb72) rfl ?_
          refine .seg tabOk 8 1 [1, 5, 6, 7, 22] [16, 95, 111, 127, 143, 367, 2368, 2432, 2448] (t := [(1, (.ptr (16, 1) 0)), (q28_11 x60), (q28_9 x57), (q28_6 x58), (22, (.sref (2448, 31) 0 ((x69 ++ x59) ++ v71).length 1))]) (h := [(q28_0 a0), (q28_10 x60), (q28_7 x57), (q28_4 x58), (q28_12 x59), (367, ⟨29, .gone, true, flat E_B x69⟩), (2368, ⟨31, .gone, true, flat E_B (x69 ++ x59)⟩), (2432, ⟨31, .live, true, flat E_B v71⟩), (2448, ⟨31, .live, true, flat E_B ((x69 ++ x59) ++ v71)⟩)]) (ep := 31) (by kernel_rfl) ?_
          refine .fin mixed [1, 5, 6, 7, 22] [16, 95, 111, 127, 2448] (t := [(1, (.ptr (16, 1) 0)), (q28_11 x60), (q28_9 x57), (q28_6 x58), (22, (.sref (2448, 31) 0 ((x69 ++ x59) ++ v71).length 1))]) (h := [(q28_0 a0), (q28_10 x60), (q28_7 x57), (q28_4 x58), (2448, ⟨31, .live, true, flat E_B ((x69 ++ x59) ++ v71)⟩)]) (ep := 32) rfl (by kernel_rfl) rfl ?_
          refine sqN ?_
          refine .seq ?_
          refine .rgI rfl ?_
          refine .seg tabOk 0 3 [5, 6, 7, 154, 156] [95, 111, 127, 2448] (t := [(q28_11 x60), (q28_9 x57), (q28_6 x58), (154, (.sref (2448, 31) 0 ((x69 ++ x59) ++ v71).length 1)), (156, (.ro 1 a0.f1.length (flat E_B a0.f1)))]) (h := [(q28_10 x60), (q28_7 x57), (q28_4 x58), (2448, ⟨31, .live, true, flat E_B ((x69 ++ x59) ++ v71)⟩)]) (ep := 34) (by kernel_rfl) ?_
          obtain ⟨hb73, h⟩ := gS h
          refine .oo tabOk rfl rfl rfl (q_app E_B (l := ((x69 ++ x59) ++ v71)) rfl rfl rfl rfl rfl rfl rfl rfl rfl rfl rfl rfl rfl (.ro a0.f1) hb73) ?_
          refine .seg tabOk 4 1 [6, 7, 157, 158] [95, 111, 127, 2512] (t := [(q28_9 x57), (q28_6 x58), (157, (.sref (2512, 34) 0 (((x69 ++ x59) ++ v71) ++ a0.f1).length 1)), (158, (.sref (95, 18) 0 x60.length 1))]) (h := [(q28_10 x60), (q28_7 x57), (q28_4 x58), (2512, ⟨34, .live, true, flat E_B (((x69 ++ x59) ++ v71) ++ a0.f1)⟩)]) (ep := 35) (by kernel_rfl) ?_
          obtain ⟨v74, hv74, h⟩ := bS h
          refine .cc true rfl rfl (C_simple_packed _ _ _ hv74) ent_simple_packed rfl rfl rfl rfl (g_cons (g_row E_B x60 rfl rfl rfl rfl rfl) g_nil) rfl ?_
          obtain ⟨hb75, h⟩ := gS h
          refine .oo tabOk rfl rfl rfl (q_app E_B (l := (((x69 ++ x59) ++ v71) ++ a0.f1)) rfl rfl rfl rfl rfl rfl rfl rfl rfl rfl rfl rfl rfl (.row v74 rfl rfl rfl rfl) hb75) ?_
          refine .seg tabOk 7 1 [6, 7, 22] [111, 127, 2560] (t := [(q28_9 x57), (q28_6 x58), (22, (.sref (2560, 35) 0 ((((x69 ++ x59) ++ v71) ++ a0.f1) ++ v74).length 1))]) (h := [(q28_7 x57), (q28_4 x58), (2560, ⟨35, .live, true, flat E_B ((((x69 ++ x59) ++ v71) ++ a0.f1) ++ v74)⟩)]) (ep := 36) (by kernel_rfl) ?_
          refine .fin rfl ?_
          refine sqN ?_
          refine .seq ?_
          refine .rgI rfl ?_
          refine .seg tabOk 0 2 [7, 161, 162] [111, 127, 2560] (t := [(q28_6 x58), (161, (.sref (2560, 35) 0 ((((x69 ++ x59) ++ v71) ++ a0.f1) ++ v74).length 1)), (162, (.sref (111, 18) 0 x57.length 1))]) (h := [(q28_7 x57), (q28_4 x58), (2560, ⟨35, .live, true, flat E_B ((((x69 ++ x59) ++ v71) ++ a0.f1) ++ v74)⟩)]) (ep := 38) (by kernel_rfl) ?_
          obtain ⟨hb76, h⟩ := gS h
          refine .oo tabOk rfl rfl rfl (q_app E_B (l := ((((x69 ++ x59) ++ v71) ++ a0.f1) ++ v74)) rfl rfl rfl rfl rfl rfl rfl rfl rfl rfl rfl rfl rfl (.row x57 rfl rfl rfl rfl) hb76) ?_
          refine .seg tabOk 3 1 [163, 164] [127, 2608] (t := [(163, (.sref (2608, 38) 0 (((((x69 ++ x59) ++ v71) ++ a0.f1) ++ v74) ++ x57).length 1)), (164, (.sref (127, 18) 0 x58.length 1))]) (h := [(q28_4 x58), (2608, ⟨38, .live, true, flat E_B (((((x69 ++ x59) ++ v71) ++ a0.f1) ++ v74) ++ x57)⟩)]) (ep := 39) (by kernel_rfl) ?_
          obtain ⟨hb77, h⟩ := gS h
          refine .oo tabOk rfl rfl rfl (q_app E_B (l := (((((x69 ++ x59) ++ v71) ++ a0.f1) ++ v74) ++ x57)) rfl rfl rfl rfl rfl rfl rfl rfl rfl rfl rfl rfl rfl (.row x58 rfl rfl rfl rfl) hb77) ?_
          refine .seg tabOk 5 2 [2, 3] [2640] (t := [(2, (.sref (2640, 39) 0 ((((((x69 ++ x59) ++ v71) ++ a0.f1) ++ v74) ++ x57) ++ x58).length 1)), (3, (vI 0))]) (h := [(2640, ⟨39, .live, true, flat E_B ((((((x69 ++ x59) ++ v71) ++ a0.f1) ++ v74) ++ x57) ++ x58)⟩)]) (ep := 40) (by kernel_rfl) ?_
          refine .fin rfl ?_
          refine sqN ?_
          refine .ret ?_
          injection h with h
          subst h
          exact ⟨.inr rfl, _, _, (f_cons (f_tmp rfl (o1_row E_B ((((((x69 ++ x59) ++ v71) ++ a0.f1) ++ v74) ++ x57) ++ x58) rfl rfl rfl rfl rfl)) (f_cons rfl f_nil)), nd_of rfl, rfl, rfl⟩
abbrev R_law07_triangle := T_SLLSiibeLBe
def F_law07_triangle (n : Nat) : Option R_law07_triangle :=
  some (⟨([([(⟨0, 0, true⟩ : T_Siibe), (⟨100, 0, true⟩ : T_Siibe), (⟨0, 300, true⟩ : T_Siibe)] : List T_Siibe)] : List (List T_Siibe)), ([] : List Int)⟩ : T_SLLSiibeLBe)
theorem C_law07_triangle (n : Nat) (r : R_law07_triangle) (h : F_law07_triangle n = some r) : CallS Try.prog 46 [] (.agg [(.own 1 r.f0.length (flat E_LSiibe r.f0)), (.own 1 r.f1.length (flat E_B r.f1))]) [] := by
  refine CallS.introK tabOk Try.func46 rfl Try.ntmps46 (Nat.le_of_ble_eq_true rfl) ?_
  rw [F_law07_triangle] at h
  refine .seq ?_
  refine .rgI rfl ?_
  refine .seg tabOk 0 1 [0] [0] (t := [(0, (.ptr (0, 1) 0))]) (h := [(0, ⟨1, .live, false, [.nils, .nils]⟩)]) (ep := 2) (by kernel_rfl) ?_
  refine .fin rfl ?_
  refine sqN ?_
  refine .seq ?_
  refine .rgI rfl ?_
  refine .seg tabOk 0 4 [0, 4] [0, 64] (t := [(0, (.ptr (0, 1) 0)), (4, (.sref (64, 3) 0 ([(⟨0, 0, true⟩ : T_Siibe), (⟨100, 0, true⟩ : T_Siibe), (⟨0, 300, true⟩ : T_Siibe)] : List T_Siibe).length 3))]) (h := [(0, ⟨1, .live, false, [.nils, .nils]⟩), (64, ⟨3, .live, true, flat E_Siibe ([(⟨0, 0, true⟩ : T_Siibe), (⟨100, 0, true⟩ : T_Siibe), (⟨0, 300, true⟩ : T_Siibe)] : List T_Siibe)⟩)]) (ep := 4) (by kernel_rfl) ?_
  refine .oo tabOk rfl rfl rfl (q_bs E_LSiibe (cs := [(.sref (64, 3) 0 ([(⟨0, 0, true⟩ : T_Siibe), (⟨100, 0, true⟩ : T_Siibe), (⟨0, 300, true⟩ : T_Siibe)] : List T_Siibe).length 3)]) ([([(⟨0, 0, true⟩ : T_Siibe), (⟨100, 0, true⟩ : T_Siibe), (⟨0, 300, true⟩ : T_Siibe)] : List T_Siibe)] : List (List T_Siibe)) rfl rfl rfl rfl rfl rfl (z_row E_Siibe ([(⟨0, 0, true⟩ : T_Siibe), (⟨100, 0, true⟩ : T_Siibe), (⟨0, 300, true⟩ : T_Siibe)] : List T_Siibe) rfl rfl rfl rfl rfl z_nil) rfl rfl rfl) ?_
  refine .seg tabOk 5 2 [0] [0, 80] (t := [(0, (.ptr (0, 1) 0))]) (h := [(0, ⟨1, .live, false, [(.sref (80, 4) 0 ([([(⟨0, 0, true⟩ : T_Siibe), (⟨100, 0, true⟩ : T_Siibe), (⟨0, 300, true⟩ : T_Siibe)] : List T_Siibe)] : List (List T_Siibe)).length 1), .nils]⟩), (80, ⟨4, .live, true, flat E_LSiibe ([([(⟨0, 0, true⟩ : T_Siibe), (⟨100, 0, true⟩ : T_Siibe), (⟨0, 300, true⟩ : T_Siibe)] : List T_Siibe)] : List (List T_Siibe))⟩)]) (ep := 5) (by kernel_rfl) ?_
  refine .fin rfl ?_
  refine sqN ?_
  refine .pre (.nilRowO (0, 1) _ 1 15 1 rfl rfl rfl rfl (fresh_none rfl) (by decide)) ?_
  refine .ret ?_
  injection h with h
  subst h
  exact ⟨.inr rfl, _, _, (f_cons (f_mem rfl (o_agg (ol_cons (o1_row E_LSiibe ([([(⟨0, 0, true⟩ : T_Siibe), (⟨100, 0, true⟩ : T_Siibe), (⟨0, 300, true⟩ : T_Siibe)] : List T_Siibe)] : List (List T_Siibe)) rfl rfl rfl rfl rfl) (ol_cons (o1_row E_B ([] : List Int) rfl rfl rfl rfl rfl) ol_nil)))) f_nil), nd_of rfl, rfl, rfl⟩
abbrev R_law07_alive := Bool
def F_law07_alive (n : Nat) : Option R_law07_alive :=
  Option.bind (F_law07_triangle n ) fun v1 =>
  Option.bind (F_simple_Write n v1) fun v2 =>
  Option.bind (F_simple_Read n v2.1) fun v3 =>
  Option.bind (F_law07_triangle n ) fun v4 =>
  Option.bind (F_simple_Box n v4.f0) fun v5 =>
  if (decide (v2.2 = 0)) then
    if ((bstr v2.1).toList == (⟨#[0, 1, 0, 0, 0, 0, 0, 100, 1, 44, 0, 2, 0, 0, 49, 51, 3, 100, 100, 1, 44]⟩ : ByteArray).toList) then
      if (decide (v3.2 = 0)) then
        Option.bind (F_law07_triangle n ) fun v9 =>
        Option.bind (F_r07_Same n v3.1.f0 v9.f0) fun v10 =>
        if v10 then
          if ((decide (v5.1.f0 = 0)) && ((decide (v5.1.f1 = 0)) && true)) then
            some ((decide (v5.2.f0 = 100)) && ((decide (v5.2.f1 = 300)) && true))
          else
          some false
        else
        some false
      else
      some false
    else
    some false
  else
  some false
abbrev q22_0 (v3 : R_simple_Read) : Nat × Ob := (48, ⟨6, .live, false, [(.sref (224, 6) 0 v3.1.f0.length 1), (.sref (225, 6) 0 v3.1.f1.length 1)]⟩)
abbrev q22_1 (v5 : R_simple_Box) : Nat × Ob := (80, ⟨9, .live, false, [(vI v5.1.f0), (vI v5.1.f1)]⟩)
abbrev q22_2 (v5 : R_simple_Box) : Nat × Ob := (96, ⟨9, .live, false, [(vI v5.2.f0), (vI v5.2.f1)]⟩)
abbrev q22_3 (v3 : R_simple_Read) : Nat × Ob := (224, ⟨6, .live, true, flat E_LSiibe v3.1.f0⟩)
abbrev q22_4 (v3 : R_simple_Read) : Nat × Ob := (225, ⟨6, .live, true, flat E_B v3.1.f1⟩)
abbrev q22_5 (v2 : R_simple_Write) : Nat × Ob := (144, ⟨3, .froz, true, flat E_B v2.1⟩)
abbrev q22_6 (v9 : R_law07_triangle) : Nat × Ob := (592, ⟨11, .live, true, flat E_LSiibe v9.f0⟩)
abbrev q22_7 (v9 : R_law07_triangle) : Nat × Ob := (593, ⟨11, .live, true, flat E_B v9.f1⟩)
abbrev q22_8 (v2 : R_simple_Write) : Nat × V := (1, (.sref (144, 3) 0 v2.1.length 1))
theorem C_law07_alive (n : Nat) (r : R_law07_alive) (h : F_law07_alive n = some r) : CallS Try.prog 22 [] (.val (.bool r)) [] := by
  refine CallS.introK tabOk Try.func22 rfl Try.ntmps22 (Nat.le_of_ble_eq_true rfl) ?_
  rw [F_law07_alive] at h
  refine .seq ?_
  refine .rgI rfl ?_
  refine .seg tabOk 0 1 [] [] (t := []) (h := []) (ep := 2) (by kernel_rfl) ?_
  refine .fin rfl ?_
  refine sqN ?_
  refine .seq ?_
  refine .rgI rfl ?_
  obtain ⟨v1, hv1, h⟩ := bS h
  refine .cc true rfl rfl (C_law07_triangle _ _ hv1) ent_law07_triangle rfl rfl rfl rfl g_nil rfl ?_
  obtain ⟨v2, hv2, h⟩ := bS h
  refine .cc true rfl rfl (C_simple_Write _ _ _ hv2) ent_simple_Write rfl rfl rfl rfl (g_cons (g_agg (s_row E_LSiibe v1.f0 rfl rfl rfl rfl rfl (s_row E_B v1.f1 rfl rfl rfl rfl rfl s_nil))) g_nil) rfl ?_
  refine .seg tabOk 2 5 [1, 2] [144] (t := [(q22_8 v2), (2, (vI v2.2))]) (h := [(144, ⟨3, .live, true, flat E_B v2.1⟩)]) (ep := 4) (by kernel_rfl) ?_
  refine .fin rfl ?_
  refine sqN ?_
  refine .seq ?_
  refine .rgI rfl ?_
  refine .seg tabOk 0 1 [1, 2, 13] [144] (t := [(q22_8 v2), (2, (vI v2.2)), (13, (.sref (144, 3) 0 v2.1.length 1))]) (h := [(144, ⟨3, .live, true, flat E_B v2.1⟩)]) (ep := 6) (by kernel_rfl) ?_
  obtain ⟨v3, hv3, h⟩ := bS h
  refine .cc true rfl rfl (C_simple_Read _ _ _ hv3) ent_simple_Read rfl rfl rfl rfl (g_cons (g_row E_B v2.1 rfl rfl rfl rfl rfl) g_nil) rfl ?_
  refine .seg tabOk 2 6 [1, 2, 3, 4] [48, 144, 224, 225] (t := [(q22_8 v2), (2, (vI v2.2)), (3, (.ptr (48, 6) 0)), (4, (vI v3.2))]) (h := [(q22_0 v3), (q22_5 v2), (q22_3 v3), (q22_4 v3)]) (ep := 7) (by kernel_rfl) ?_
  refine .fin rfl ?_
  refine sqN ?_
  refine .seq ?_
  refine .rgI rfl ?_
  obtain ⟨v4, hv4, h⟩ := bS h
  refine .cc true rfl rfl (C_law07_triangle _ _ hv4) ent_law07_triangle rfl rfl rfl rfl g_nil rfl ?_
  refine .seg tabOk 1 1 [1, 2, 3, 4, 19] [48, 144, 224, 225, 288] (t := [(q22_8 v2), (2, (vI v2.2)), (3, (.ptr (48, 6) 0)), (4, (vI v3.2)), (19, (.sref (288, 8) 0 v4.f0.length 1))]) (h := [(q22_0 v3), (q22_5 v2), (q22_3 v3), (q22_4 v3), (288, ⟨8, .live, true, flat E_LSiibe v4.f0⟩)]) (ep := 9) (by kernel_rfl) ?_
  obtain ⟨v5, hv5, h⟩ := bS h
  refine .cc false rfl rfl (C_simple_Box _ _ _ hv5) ent_simple_Box rfl rfl rfl rfl (g_cons (g_row E_LSiibe v4.f0 rfl rfl rfl rfl rfl) g_nil) rfl ?_
  refine .seg tabOk 3 7 [1, 2, 3, 4, 5, 6] [48, 80, 96, 144, 224, 225] (t := [(q22_8 v2), (2, (vI v2.2)), (3, (.ptr (48, 6) 0)), (4, (vI v3.2)), (5, (.ptr (80, 9) 0)), (6, (.ptr (96, 9) 0))]) (h := [(q22_0 v3), (q22_1 v5), (q22_2 v5), (q22_5 v2), (q22_3 v3), (q22_4 v3)]) (ep := 10) (by kernel_rfl) ?_
  refine .fin rfl ?_
  refine sqN ?_
  refine .seq ?_
  refine .rgD rfl ?_
  refine .seg tabOk 0 3 [1, 3, 4, 5, 6, 25] [48, 80, 96, 144, 224, 225] (t := [(q22_8 v2), (3, (.ptr (48, 6) 0)), (4, (vI v3.2)), (5, (.ptr (80, 9) 0)), (6, (.ptr (96, 9) 0)), (25, (.val (.bool (decide (v2.2 = 0)))))]) (h := [(q22_0 v3), (q22_1 v5), (q22_2 v5), (q22_5 v2), (q22_3 v3), (q22_4 v3)]) (ep := 11) (by kernel_rfl) ?_
  cases hB6 : (decide (v2.2 = 0)) with
  | false =>
    have h := iF h hB6
    refine .seg tabOk 3 26 [0] [48, 80, 96, 144, 224, 225] (t := [(0, (.val (.bool false)))]) (h := [(q22_0 v3), (q22_1 v5), (q22_2 v5), (q22_5 v2), (q22_3 v3), (q22_4 v3)]) (ep := 11) (by kernel_rfl) ?_
    refine .fin mixed [0] [] (t := [(0, (.val (.bool false)))]) (h := []) (ep := 12) rfl (by kernel_rfl) rfl ?_
    refine sqN ?_
    refine .ret ?_
    injection h with h
    subst h
    exact ⟨.inr rfl, _, _, rfl, List.nodup_nil, rfl, rfl⟩
  | true =>
    have h := iT h hB6
    refine .seg tabOk 3 1 [3, 4, 5, 6, 25, 26] [48, 80, 96, 144, 224, 225] (t := [(3, (.ptr (48, 6) 0)), (4, (vI v3.2)), (5, (.ptr (80, 9) 0)), (6, (.ptr (96, 9) 0)), (25, (.val (.bool true))), (26, (.sref (144, 3) 0 v2.1.length 1))]) (h := [(q22_0 v3), (q22_1 v5), (q22_2 v5), (q22_5 v2), (q22_3 v3), (q22_4 v3)]) (ep := 11) (by kernel_rfl) ?_
    refine .oo tabOk rfl rfl rfl (q_strS E_B rfl (fun _ => rfl) rfl rfl rfl rfl rfl rfl rfl rfl rfl rfl) rfl ?_
    refine .seg tabOk 5 3 [3, 4, 5, 6, 30] [48, 80, 96, 144, 224, 225] (t := [(3, (.ptr (48, 6) 0)), (4, (vI v3.2)), (5, (.ptr (80, 9) 0)), (6, (.ptr (96, 9) 0)), (30, (.val (.bool ((bstr v2.1).toList == (⟨#[0, 1, 0, 0, 0, 0, 0, 100, 1, 44, 0, 2, 0, 0, 49, 51, 3, 100, 100, 1, 44]⟩ : ByteArray).toList))))]) (h := [(q22_0 v3), (q22_1 v5), (q22_2 v5), (q22_5 v2), (q22_3 v3), (q22_4 v3)]) (ep := 11) (by kernel_rfl) ?_
    cases hB7 : ((bstr v2.1).toList == (⟨#[0, 1, 0, 0, 0, 0, 0, 100, 1, 44, 0, 2, 0, 0, 49, 51, 3, 100, 100, 1, 44]⟩ : ByteArray).toList) with
    | false =>
      have h := iF h hB7
      refine .seg tabOk 8 21 [0] [48, 80, 96, 144, 224, 225] (t := [(0, (.val (.bool false)))]) (h := [(q22_0 v3), (q22_1 v5), (q22_2 v5), (q22_5 v2), (q22_3 v3), (q22_4 v3)]) (ep := 11) (by kernel_rfl) ?_
      refine .fin mixed [0] [] (t := [(0, (.val (.bool false)))]) (h := []) (ep := 12) rfl (by kernel_rfl) rfl ?_
      refine sqN ?_
      refine .ret ?_
      injection h with h
      subst h
      exact ⟨.inr rfl, _, _, rfl, List.nodup_nil, rfl, rfl⟩
    | true =>
      have h := iT h hB7
      refine .seg tabOk 8 4 [3, 5, 6, 34] [48, 80, 96, 144, 224, 225] (t := [(3, (.ptr (48, 6) 0)), (5, (.ptr (80, 9) 0)), (6, (.ptr (96, 9) 0)), (34, (.val (.bool (decide (v3.2 = 0)))))]) (h := [(q22_0 v3), (q22_1 v5), (q22_2 v5), (q22_5 v2), (q22_3 v3), (q22_4 v3)]) (ep := 11) (by kernel_rfl) ?_
      cases hB8 : (decide (v3.2 = 0)) with
      | false =>
        have h := iF h hB8
        refine .seg tabOk 12 17 [0] [48, 80, 96, 144, 224, 225] (t := [(0, (.val (.bool false)))]) (h := [(q22_0 v3), (q22_1 v5), (q22_2 v5), (q22_5 v2), (q22_3 v3), (q22_4 v3)]) (ep := 11) (by kernel_rfl) ?_
        refine .fin mixed [0] [] (t := [(0, (.val (.bool false)))]) (h := []) (ep := 12) rfl (by kernel_rfl) rfl ?_
        refine sqN ?_
        refine .ret ?_
        injection h with h
        subst h
        exact ⟨.inr rfl, _, _, rfl, List.nodup_nil, rfl, rfl⟩
      | true =>
        have h := iT h hB8
        refine .seg tabOk 12 2 [5, 6, 34, 36] [48, 80, 96, 144, 224, 225] (t := [(5, (.ptr (80, 9) 0)), (6, (.ptr (96, 9) 0)), (34, (.val (.bool true))), (36, (.sref (224, 6) 0 v3.1.f0.length 1))]) (h := [(q22_0 v3), (q22_1 v5), (q22_2 v5), (q22_5 v2), (q22_3 v3), (q22_4 v3)]) (ep := 11) (by kernel_rfl) ?_
        obtain ⟨v9, hv9, h⟩ := bS h
        refine .cc true rfl rfl (C_law07_triangle _ _ hv9) ent_law07_triangle rfl rfl rfl rfl g_nil rfl rfl ?_
        refine .seg tabOk 15 1 [5, 6, 34, 36, 38] [48, 80, 96, 144, 224, 225, 592, 593] (t := [(5, (.ptr (80, 9) 0)), (6, (.ptr (96, 9) 0)), (34, (.val (.bool true))), (36, (.sref (224, 6) 0 v3.1.f0.length 1)), (38, (.sref (592, 11) 0 v9.f0.length 1))]) (h := [(q22_0 v3), (q22_1 v5), (q22_2 v5), (q22_5 v2), (q22_3 v3), (q22_4 v3), (q22_6 v9), (q22_7 v9)]) (ep := 11) (by kernel_rfl) ?_
        obtain ⟨v10, hv10, h⟩ := bS h
        refine .cc false rfl rfl (C_r07_Same _ _ _ _ hv10) ent_r07_Same rfl rfl rfl rfl (g_cons (g_row E_LSiibe v3.1.f0 rfl rfl rfl rfl rfl) (g_cons (g_row E_LSiibe v9.f0 rfl rfl rfl rfl rfl) g_nil)) rfl rfl ?_
        refine .seg tabOk 17 2 [5, 6, 41] [48, 80, 96, 144, 224, 225, 592, 593] (t := [(5, (.ptr (80, 9) 0)), (6, (.ptr (96, 9) 0)), (41, (.val (.bool v10)))]) (h := [(q22_0 v3), (q22_1 v5), (q22_2 v5), (q22_5 v2), (q22_3 v3), (q22_4 v3), (q22_6 v9), (q22_7 v9)]) (ep := 11) (by kernel_rfl) ?_
        cases hB11 : v10 with
        | false =>
          have h := iF h hB11
          refine .seg tabOk 19 10 [0] [48, 80, 96, 144, 224, 225, 592, 593] (t := [(0, (.val (.bool false)))]) (h := [(q22_0 v3), (q22_1 v5), (q22_2 v5), (q22_5 v2), (q22_3 v3), (q22_4 v3), (q22_6 v9), (q22_7 v9)]) (ep := 11) (by kernel_rfl) ?_
          refine .fin mixed [0] [] (t := [(0, (.val (.bool false)))]) (h := []) (ep := 12) rfl (by kernel_rfl) rfl ?_
          refine sqN ?_
          refine .ret ?_
          injection h with h
          subst h
          exact ⟨.inr rfl, _, _, rfl, List.nodup_nil, rfl, rfl⟩
        | true =>
          have h := iT h hB11
          refine .seg tabOk 19 5 [6, 46] [48, 80, 96, 144, 224, 225, 592, 593] (t := [(6, (.ptr (96, 9) 0)), (46, (.val (.bool ((decide (v5.1.f0 = 0)) && ((decide (v5.1.f1 = 0)) && true)))))]) (h := [(q22_0 v3), (q22_1 v5), (q22_2 v5), (q22_5 v2), (q22_3 v3), (q22_4 v3), (q22_6 v9), (q22_7 v9)]) (ep := 11) (by kernel_rfl) ?_
          cases hB12 : ((decide (v5.1.f0 = 0)) && ((decide (v5.1.f1 = 0)) && true)) with
          | false =>
            have h := iF h hB12
            refine .seg tabOk 24 5 [0] [48, 80, 96, 144, 224, 225, 592, 593] (t := [(0, (.val (.bool false)))]) (h := [(q22_0 v3), (q22_1 v5), (q22_2 v5), (q22_5 v2), (q22_3 v3), (q22_4 v3), (q22_6 v9), (q22_7 v9)]) (ep := 11) (by kernel_rfl) ?_
            refine .fin mixed [0] [] (t := [(0, (.val (.bool false)))]) (h := []) (ep := 12) rfl (by kernel_rfl) rfl ?_
            refine sqN ?_
            refine .ret ?_
            injection h with h
            subst h
            exact ⟨.inr rfl, _, _, rfl, List.nodup_nil, rfl, rfl⟩
          | true =>
            have h := iT h hB12
            refine .seg tabOk 24 5 [0] [48, 80, 96, 144, 224, 225, 592, 593] (t := [(0, (.val (.bool ((decide (v5.2.f0 = 100)) && ((decide (v5.2.f1 = 300)) && true)))))]) (h := [(q22_0 v3), (q22_1 v5), (q22_2 v5), (q22_5 v2), (q22_3 v3), (q22_4 v3), (q22_6 v9), (q22_7 v9)]) (ep := 11) (by kernel_rfl) ?_
            refine .fin mixed [0] [] (t := [(0, (.val (.bool ((decide (v5.2.f0 = 100)) && ((decide (v5.2.f1 = 300)) && true)))))]) (h := []) (ep := 12) rfl (by kernel_rfl) rfl ?_
            refine sqN ?_
            refine .ret ?_
            injection h with h
            subst h
            exact ⟨.inr rfl, _, _, rfl, List.nodup_nil, rfl, rfl⟩
abbrev R_r07_Great := Bool
def L_r07_Great_0 (a0 : (List (List T_Siibe))) (j2 : Int → Option R_r07_Great) : Nat → Int → Int → Option R_r07_Great
  | 0, _, _ => none
  | n + 1, y3, y4 =>
    if (decide (y3 < (a0.length : Int))) then
      gd (0 ≤ y3 ∧ y3 < a0.length) <|
      if (decide (5000 < ((nth E_LSiibe a0 y3).length : Int))) then
        some true
      else
      L_r07_Great_0 a0 j2 n (w64 (y3 + 1)) (w64 (y4 + ((nth E_LSiibe a0 y3).length : Int)))
    else
    j2 y4
def F_r07_Great (n : Nat) (a0 : (List (List T_Siibe))) : Option R_r07_Great :=
  if (decide (600 < (a0.length : Int))) then
    some true
  else
  lj (fun (x8 : Int) =>
    some (decide (9000 < x8))) fun j2 =>
  L_r07_Great_0 a0 j2 n 0 0
abbrev q26_0 (a0 : (List (List T_Siibe))) : Nat × V := (9, (.ro 1 a0.length (flat E_LSiibe a0)))
abbrev q26_1 (a0 : (List (List T_Siibe))) : Nat × V := (10, (vI (a0.length : Int)))
theorem C_r07_Great (n : Nat) (a0 : (List (List T_Siibe))) (r : R_r07_Great) (h : F_r07_Great n a0 = some r) : CallS Try.prog 26 [(.ro 1 a0.length (flat E_LSiibe a0))] (.val (.bool r)) [none] := by
  refine CallS.introK tabOk Try.func26 rfl Try.ntmps26 (Nat.le_of_ble_eq_true rfl) ?_
  rw [F_r07_Great] at h
  refine .seq ?_
  refine .rgI rfl ?_
  refine .seg tabOk 0 1 [0] [] (t := [(0, (.ro 1 a0.length (flat E_LSiibe a0)))]) (h := []) (ep := 2) (by kernel_rfl) ?_
  refine .fin rfl ?_
  refine sqN ?_
  refine .seq ?_
  refine .seq ?_
  refine .rgI rfl ?_
  refine .seg tabOk 0 3 [0, 8] [] (t := [(0, (.ro 1 a0.length (flat E_LSiibe a0))), (8, (.val (.bool (decide (600 < (a0.length : Int))))))]) (h := []) (ep := 4) (by kernel_rfl) ?_
  refine .fin rfl ?_
  refine sqN ?_
  refine .cond (decide (600 < (a0.length : Int))) rfl (fun hc1 => ?_) (fun hc1 => ?_)
  · have h := iT h hc1
    refine .seq ?_
    refine .rgI rfl ?_
    refine .seg tabOk 0 1 [2] [] (t := [(2, (.val (.bool true)))]) (h := []) (ep := 6) (by kernel_rfl) ?_
    refine .fin rfl ?_
    refine sqN ?_
    refine .ret ?_
    refine sqR ?_
    injection h with h
    subst h
    exact ⟨.inr rfl, _, _, rfl, List.nodup_nil, rfl, rfl⟩
  · have h := iF h hc1
    refine .skip ?_
    refine sqN ?_
    refine .seq ?_
    refine .rgI rfl ?_
    refine .seg tabOk 0 1 [0, 3] [] (t := [(0, (.ro 1 a0.length (flat E_LSiibe a0))), (3, (vI 0))]) (h := []) (ep := 6) (by kernel_rfl) ?_
    refine .fin rfl ?_
    refine sqN ?_
    refine .seq ?_
    refine .seq ?_
    refine .rgI rfl ?_
    refine .seg tabOk 0 3 [3, 9, 10, 11] [] (t := [(3, (vI 0)), (q26_0 a0), (q26_1 a0), (11, (vI 0))]) (h := []) (ep := 8) (by kernel_rfl) ?_
    refine .fin rfl ?_
    refine sqN ?_
    obtain ⟨j2, hj2, h⟩ := ljS h
    refine .join (fun s' => ∃ x8, s' = ⟨[(3, (vI x8))], [], 12⟩ ∧ j2 x8 = some r) ?_ ?_
    · refine .block ?_
      refine .loopF (β := Int × Int) (fun v => ⟨[(3, (vI v.2)), (q26_0 a0), (q26_1 a0), (11, (vI v.1))], [], 9⟩) (fun m v => L_r07_Great_0 a0 j2 m v.1 v.2 = some r) n (0, 0) (by exact .tn [] ⟨rfl, rfl, rfl, rfl, trivial⟩ trivial rfl) h ?_
      rintro m ⟨y3, y4⟩ h
      cases m with
      | zero => exact nomatch h
      | succ n =>
        rw [L_r07_Great_0] at h
        refine .seq ?_
        refine .rgI rfl ?_
        refine .seg tabOk 0 1 [3, 9, 10, 11, 12] [] (t := [(3, (vI y4)), (q26_0 a0), (q26_1 a0), (11, (vI y3)), (12, (.val (.bool (decide (y3 < (a0.length : Int))))))]) (h := []) (ep := 11) (by kernel_rfl) ?_
        refine .fin rfl ?_
        refine sqN ?_
        refine .seq ?_
        refine .cond (decide (y3 < (a0.length : Int))) rfl (fun hc5 => ?_) (fun hc5 => ?_)
        · have h := iT h hc5
          refine .skip ?_
          refine sqN ?_
          refine .seq ?_
          refine .block ?_
          refine .seq ?_
          refine .rgI rfl ?_
          obtain ⟨hb6, h⟩ := gS h
          refine .o tabOk rfl rfl rfl (q_idx E_LSiibe rfl rfl rfl rfl rfl rfl hb6) ?_
          refine .o tabOk rfl rfl rfl (q_ld0 E_LSiibe rfl rfl rfl hb6 rfl) ?_
          refine .seg tabOk 2 1 [3, 5, 9, 10, 11] [] (t := [(3, (vI y4)), (5, (.ro 3 (nth E_LSiibe a0 y3).length (flat E_Siibe (nth E_LSiibe a0 y3)))), (q26_0 a0), (q26_1 a0), (11, (vI y3))]) (h := []) (ep := 13) (by kernel_rfl) ?_
          refine .fin rfl ?_
          refine sqN ?_
          refine .seq ?_
          refine .seq ?_
          refine .rgI rfl ?_
          refine .seg tabOk 0 3 [3, 5, 9, 10, 11, 17] [] (t := [(3, (vI y4)), (5, (.ro 3 (nth E_LSiibe a0 y3).length (flat E_Siibe (nth E_LSiibe a0 y3)))), (q26_0 a0), (q26_1 a0), (11, (vI y3)), (17, (.val (.bool (decide (5000 < ((nth E_LSiibe a0 y3).length : Int))))))]) (h := []) (ep := 15) (by kernel_rfl) ?_
          refine .fin rfl ?_
          refine sqN ?_
          refine .cond (decide (5000 < ((nth E_LSiibe a0 y3).length : Int))) rfl (fun hc7 => ?_) (fun hc7 => ?_)
          · have h := iT h hc7
            refine .seq ?_
            refine .rgI rfl ?_
            refine .seg tabOk 0 1 [2] [] (t := [(2, (.val (.bool true)))]) (h := []) (ep := 17) (by kernel_rfl) ?_
            refine .fin rfl ?_
            refine sqN ?_
            refine .ret ?_
            refine sqR ?_
            refine bkR ?_
            refine sqR ?_
            refine jkR ?_
            refine bkR ?_
            refine jkR ?_
            refine sqR ?_
            injection h with h
            subst h
            exact ⟨.inr rfl, _, _, rfl, List.nodup_nil, rfl, rfl⟩
          · have h := iF h hc7
            refine .skip ?_
            refine sqN ?_
            refine .rgI rfl ?_
            refine .seg tabOk 0 5 [3, 9, 10, 11] [] (t := [(3, (vI (w64 (y4 + ((nth E_LSiibe a0 y3).length : Int))))), (q26_0 a0), (q26_1 a0), (11, (vI y3))]) (h := []) (ep := 17) (by kernel_rfl) ?_
            refine .fin rfl ?_
            refine bkN ?_
            refine sqN ?_
            refine .rgI rfl ?_
            refine .seg tabOk 0 2 [3, 9, 10, 11] [] (t := [(3, (vI (w64 (y4 + ((nth E_LSiibe a0 y3).length : Int))))), (q26_0 a0), (q26_1 a0), (11, (vI (w64 (y3 + 1))))]) (h := []) (ep := 19) (by kernel_rfl) ?_
            refine .fin rfl ?_
            exact jkN (by exact .tn [] ⟨rfl, rfl, rfl, rfl, trivial⟩ trivial rfl) ⟨n, ((w64 (y3 + 1)), (w64 (y4 + ((nth E_LSiibe a0 y3).length : Int)))), Nat.lt_succ_self n, rfl, h⟩
        · have h := iF h hc5
          refine .exit ?_
          refine sqX ?_
          refine jkX ?_
          refine bkE ?_
          exact jkN (by exact .tn [] ⟨rfl, trivial⟩ trivial rfl) ⟨_, rfl, h⟩
    · rintro _ ⟨x8, rfl, h⟩
      subst hj2
      refine sqN ?_
      refine .seq ?_
      refine .rgI rfl ?_
      refine .seg tabOk 0 3 [2] [] (t := [(2, (.val (.bool (decide (9000 < x8)))))]) (h := []) (ep := 14) (by kernel_rfl) ?_
      refine .fin rfl ?_
      refine sqN ?_
      refine .ret ?_
      injection h with h
      subst h
      exact ⟨.inr rfl, _, _, rfl, List.nodup_nil, rfl, rfl⟩
abbrev R_r07_Copy := (List (List T_Siibe))
def L_r07_Copy_0 (a0 : (List (List T_Siibe))) (j1 : (List (List T_Siibe)) → Option R_r07_Copy) : Nat → (List (List T_Siibe)) → Int → Option R_r07_Copy
  | 0, _, _ => none
  | n + 1, y2, y3 =>
    if (decide (y3 < (a0.length : Int))) then
      gd (0 ≤ y3 ∧ y3 < a0.length) <|
      gd (fits (([] : List T_Siibe).length + (nth E_LSiibe a0 y3).length) 24 = true) <|
      gd (fits (y2.length + ([(([] : List T_Siibe) ++ (nth E_LSiibe a0 y3))] : List (List T_Siibe)).length) 24 = true) <|
      L_r07_Copy_0 a0 j1 n (y2 ++ ([(([] : List T_Siibe) ++ (nth E_LSiibe a0 y3))] : List (List T_Siibe))) (w64 (y3 + 1))
    else
    j1 y2
def F_r07_Copy (n : Nat) (a0 : (List (List T_Siibe))) : Option R_r07_Copy :=
  lj (fun (x8 : (List (List T_Siibe))) =>
    some x8) fun j1 =>
  L_r07_Copy_0 a0 j1 n ([] : List (List T_Siibe)) 0
abbrev q27_0 (a0 : (List (List T_Siibe))) : Nat × V := (6, (.ro 1 a0.length (flat E_LSiibe a0)))
abbrev q27_1 (a0 : (List (List T_Siibe))) : Nat × V := (7, (vI (a0.length : Int)))
theorem C_r07_Copy (n : Nat) (a0 : (List (List T_Siibe))) (r : R_r07_Copy) (h : F_r07_Copy n a0 = some r) : CallS Try.prog 27 [(.ro 1 a0.length (flat E_LSiibe a0))] (.own 1 r.length (flat E_LSiibe r)) [none] := by
  refine CallS.introK tabOk Try.func27 rfl Try.ntmps27 (Nat.le_of_ble_eq_true rfl) ?_
  rw [F_r07_Copy] at h
  refine .seq ?_
  refine .rgI rfl ?_
  refine .seg tabOk 0 1 [0] [] (t := [(0, (.ro 1 a0.length (flat E_LSiibe a0)))]) (h := []) (ep := 2) (by kernel_rfl) ?_
  refine .fin rfl ?_
  refine sqN ?_
  refine .seq ?_
  refine .rgI rfl ?_
  refine .seg tabOk 0 1 [0, 3] [] (t := [(0, (.ro 1 a0.length (flat E_LSiibe a0))), (3, .nils)]) (h := []) (ep := 4) (by kernel_rfl) ?_
  refine .fin rfl ?_
  refine sqN ?_
  refine .seq ?_
  refine .seq ?_
  refine .rgI rfl ?_
  refine .seg tabOk 0 3 [3, 6, 7, 8] [] (t := [(3, .nils), (q27_0 a0), (q27_1 a0), (8, (vI 0))]) (h := []) (ep := 6) (by kernel_rfl) ?_
  refine .fin rfl ?_
  refine sqN ?_
  obtain ⟨j1, hj1, h⟩ := ljS h
  refine .join (fun s' => ∃ x8, s' = ⟨[(3, (.sref (63, 9) 0 x8.length 1))], [(63, ⟨9, .live, true, flat E_LSiibe x8⟩)], 10⟩ ∧ j1 x8 = some r) ?_ ?_
  · refine .block ?_
    refine .loopF (β := (List (List T_Siibe)) × Int) (fun v => ⟨[(3, (.sref (63, 6) 0 v.1.length 1)), (q27_0 a0), (q27_1 a0), (8, (vI v.2))], [(63, ⟨6, .live, true, flat E_LSiibe v.1⟩)], 7⟩) (fun m v => L_r07_Copy_0 a0 j1 m v.1 v.2 = some r) n (([] : List (List T_Siibe)), 0) (by exact .trans (.nilRow 3 1 63 rfl (fresh_none rfl)) (.tn [((63, 6), (63, 6))] ⟨rfl, rfl, rfl, rfl, trivial⟩ ⟨rfl, ⟨_, rfl, ah_row E_LSiibe⟩, trivial⟩ rfl)) h ?_
    rintro m ⟨y2, y3⟩ h
    cases m with
    | zero => exact nomatch h
    | succ n =>
      rw [L_r07_Copy_0] at h
      refine .seq ?_
      refine .rgI rfl ?_
      refine .seg tabOk 0 1 [3, 6, 7, 8, 9] [63] (t := [(3, (.sref (63, 6) 0 y2.length 1)), (q27_0 a0), (q27_1 a0), (8, (vI y3)), (9, (.val (.bool (decide (y3 < (a0.length : Int))))))]) (h := [(63, ⟨6, .live, true, flat E_LSiibe y2⟩)]) (ep := 9) (by kernel_rfl) ?_
      refine .fin rfl ?_
      refine sqN ?_
      refine .seq ?_
      refine .cond (decide (y3 < (a0.length : Int))) rfl (fun hc4 => ?_) (fun hc4 => ?_)
      · have h := iT h hc4
        refine .skip ?_
        refine sqN ?_
        refine .seq ?_
        refine .block ?_
        refine .seq ?_
        refine .rgI rfl ?_
        obtain ⟨hb5, h⟩ := gS h
        refine .o tabOk rfl rfl rfl (q_idx E_LSiibe rfl rfl rfl rfl rfl rfl hb5) ?_
        refine .o tabOk rfl rfl rfl (q_ld0 E_LSiibe rfl rfl rfl hb5 rfl) ?_
        refine .seg tabOk 2 1 [3, 5, 6, 7, 8] [63] (t := [(3, (.sref (63, 6) 0 y2.length 1)), (5, (.ro 3 (nth E_LSiibe a0 y3).length (flat E_Siibe (nth E_LSiibe a0 y3)))), (q27_0 a0), (q27_1 a0), (8, (vI y3))]) (h := [(63, ⟨6, .live, true, flat E_LSiibe y2⟩)]) (ep := 11) (by kernel_rfl) ?_
        refine .fin rfl ?_
        refine sqN ?_
        refine .rgI rfl ?_
        refine .seg tabOk 0 3 [6, 7, 8, 12, 13, 14] [63, 208] (t := [(q27_0 a0), (q27_1 a0), (8, (vI y3)), (12, (.sref (63, 6) 0 y2.length 1)), (13, (.sref (208, 12) 0 ([] : List T_Siibe).length 3)), (14, (.ro 3 (nth E_LSiibe a0 y3).length (flat E_Siibe (nth E_LSiibe a0 y3))))]) (h := [(63, ⟨6, .live, true, flat E_LSiibe y2⟩), (208, ⟨12, .live, true, flat E_Siibe ([] : List T_Siibe)⟩)]) (ep := 13) (by kernel_rfl) ?_
        obtain ⟨hb6, h⟩ := gS h
        refine .oo tabOk rfl rfl rfl (q_app E_Siibe (l := ([] : List T_Siibe)) rfl rfl rfl rfl rfl rfl rfl rfl rfl rfl rfl rfl rfl (.ro (nth E_LSiibe a0 y3)) hb6) ?_
        refine .oo tabOk rfl rfl rfl (q_bs E_LSiibe (cs := [(.sref (240, 13) 0 (([] : List T_Siibe) ++ (nth E_LSiibe a0 y3)).length 3)]) ([(([] : List T_Siibe) ++ (nth E_LSiibe a0 y3))] : List (List T_Siibe)) rfl rfl rfl rfl rfl rfl (z_row E_Siibe (([] : List T_Siibe) ++ (nth E_LSiibe a0 y3)) rfl rfl rfl rfl rfl z_nil) rfl rfl rfl) ?_
        obtain ⟨hb7, h⟩ := gS h
        refine .oo tabOk rfl rfl rfl (q_app E_LSiibe (l := y2) rfl rfl rfl rfl rfl rfl rfl rfl rfl rfl rfl rfl rfl (.row ([(([] : List T_Siibe) ++ (nth E_LSiibe a0 y3))] : List (List T_Siibe)) rfl rfl rfl rfl) hb7) ?_
        refine .seg tabOk 6 1 [3, 6, 7, 8] [272] (t := [(3, (.sref (272, 13) 0 (y2 ++ ([(([] : List T_Siibe) ++ (nth E_LSiibe a0 y3))] : List (List T_Siibe))).length 1)), (q27_0 a0), (q27_1 a0), (8, (vI y3))]) (h := [(272, ⟨13, .live, true, flat E_LSiibe (y2 ++ ([(([] : List T_Siibe) ++ (nth E_LSiibe a0 y3))] : List (List T_Siibe)))⟩)]) (ep := 14) (by kernel_rfl) ?_
        refine .fin rfl ?_
        refine bkN ?_
        refine sqN ?_
        refine .rgI rfl ?_
        refine .seg tabOk 0 2 [3, 6, 7, 8] [272] (t := [(3, (.sref (272, 13) 0 (y2 ++ ([(([] : List T_Siibe) ++ (nth E_LSiibe a0 y3))] : List (List T_Siibe))).length 1)), (q27_0 a0), (q27_1 a0), (8, (vI (w64 (y3 + 1))))]) (h := [(272, ⟨13, .live, true, flat E_LSiibe (y2 ++ ([(([] : List T_Siibe) ++ (nth E_LSiibe a0 y3))] : List (List T_Siibe)))⟩)]) (ep := 16) (by kernel_rfl) ?_
        refine .fin rfl ?_
        exact jkN (by exact .tn [((272, 13), (63, 6))] ⟨rfl, rfl, rfl, rfl, trivial⟩ ⟨rfl, ⟨_, rfl, ah_row E_LSiibe⟩, trivial⟩ rfl) ⟨n, ((y2 ++ ([(([] : List T_Siibe) ++ (nth E_LSiibe a0 y3))] : List (List T_Siibe))), (w64 (y3 + 1))), Nat.lt_succ_self n, rfl, h⟩
      · have h := iF h hc4
        refine .exit ?_
        refine sqX ?_
        refine jkX ?_
        refine bkE ?_
        exact jkN (by exact .tn [((63, 6), (63, 9))] ⟨rfl, trivial⟩ ⟨rfl, ⟨_, rfl, ah_row E_LSiibe⟩, trivial⟩ rfl) ⟨_, rfl, h⟩
  · rintro _ ⟨x8, rfl, h⟩
    subst hj1
    refine sqN ?_
    refine .seq ?_
    refine .rgI rfl ?_
    refine .seg tabOk 0 2 [2] [63] (t := [(2, (.sref (63, 9) 0 x8.length 1))]) (h := [(63, ⟨9, .live, true, flat E_LSiibe x8⟩)]) (ep := 12) (by kernel_rfl) ?_
    refine .fin rfl ?_
    refine sqN ?_
    refine .ret ?_
    injection h with h
    subst h
    exact ⟨.inr rfl, _, _, (f_cons (f_tmp rfl (o1_row E_LSiibe x8 rfl rfl rfl rfl rfl)) f_nil), nd_of rfl, rfl, rfl⟩
abbrev R_r07_Box := T_Siie × T_Siie
def L_r07_Box_1 (a0 : (List (List T_Siibe))) (y6 : Int) (j11 : Int → Int → Int → Int → Bool → Option R_r07_Box) : Nat → Int → Int → Int → Int → Int → Bool → Option R_r07_Box
  | 0, _, _, _, _, _, _ => none
  | n + 1, y12, y13, y14, y15, y16, y17 =>
    if (decide (y16 < ((nth E_LSiibe a0 y6).length : Int))) then
      gd (0 ≤ y16 ∧ y16 < (nth E_LSiibe a0 y6).length) <|
      L_r07_Box_1 a0 y6 j11 n (if (nth E_Siibe (nth E_LSiibe a0 y6) y16).f0 < (if y17 then (nth E_Siibe (nth E_LSiibe a0 y6) y16).f0 else y12) then (nth E_Siibe (nth E_LSiibe a0 y6) y16).f0 else (if y17 then (nth E_Siibe (nth E_LSiibe a0 y6) y16).f0 else y12)) (if (nth E_Siibe (nth E_LSiibe a0 y6) y16).f1 < (if y17 then (nth E_Siibe (nth E_LSiibe a0 y6) y16).f1 else y13) then (nth E_Siibe (nth E_LSiibe a0 y6) y16).f1 else (if y17 then (nth E_Siibe (nth E_LSiibe a0 y6) y16).f1 else y13)) (if (nth E_Siibe (nth E_LSiibe a0 y6) y16).f0 > (if y17 then (nth E_Siibe (nth E_LSiibe a0 y6) y16).f0 else y14) then (nth E_Siibe (nth E_LSiibe a0 y6) y16).f0 else (if y17 then (nth E_Siibe (nth E_LSiibe a0 y6) y16).f0 else y14)) (if (nth E_Siibe (nth E_LSiibe a0 y6) y16).f1 > (if y17 then (nth E_Siibe (nth E_LSiibe a0 y6) y16).f1 else y15) then (nth E_Siibe (nth E_LSiibe a0 y6) y16).f1 else (if y17 then (nth E_Siibe (nth E_LSiibe a0 y6) y16).f1 else y15)) (w64 (y16 + 1)) false
    else
    j11 y12 y13 y14 y15 y17
def L_r07_Box_0 (a0 : (List (List T_Siibe))) (j1 : Int → Int → Int → Int → Option R_r07_Box) : Nat → Int → Int → Int → Int → Int → Bool → Option R_r07_Box
  | 0, _, _, _, _, _, _ => none
  | n + 1, y2, y3, y4, y5, y6, y7 =>
    if (decide (y6 < (a0.length : Int))) then
      lj (fun (x26 : Int) (x27 : Int) (x28 : Int) (x29 : Int) (x30 : Bool) =>
        L_r07_Box_0 a0 j1 n x26 x27 x28 x29 (w64 (y6 + 1)) x30) fun j9 =>
      gd (0 ≤ y6 ∧ y6 < a0.length) <|
      lj (fun (x21 : Int) (x22 : Int) (x23 : Int) (x24 : Int) (x25 : Bool) =>
        j9 x21 x22 x23 x24 x25) fun j11 =>
      L_r07_Box_1 a0 y6 j11 n y2 y3 y4 y5 0 y7
    else
    j1 y2 y3 y4 y5
def F_r07_Box (n : Nat) (a0 : (List (List T_Siibe))) : Option R_r07_Box :=
  lj (fun (x31 : Int) (x32 : Int) (x33 : Int) (x34 : Int) =>
    some ((⟨x31, x32⟩ : T_Siie), (⟨x33, x34⟩ : T_Siie))) fun j1 =>
  L_r07_Box_0 a0 j1 n 0 0 0 0 0 true
abbrev q31_0 : Nat × Ob := (32, ⟨1, .live, false, [(vI 0), (vI 0)]⟩)
abbrev q31_1 : Nat × Ob := (48, ⟨1, .live, false, [(vI 0), (vI 0)]⟩)
abbrev q31_2 (a0 : (List (List T_Siibe))) : Nat × V := (11, (.ro 1 a0.length (flat E_LSiibe a0)))
abbrev q31_3 (a0 : (List (List T_Siibe))) : Nat × V := (12, (vI (a0.length : Int)))
abbrev q31_4 : Nat × Ob := (64, ⟨3, .live, false, [(vI 0), (vI 0)]⟩)
abbrev q31_5 : Nat × Ob := (80, ⟨3, .live, false, [(vI 0), (vI 0)]⟩)
theorem C_r07_Box (n : Nat) (a0 : (List (List T_Siibe))) (r : R_r07_Box) (h : F_r07_Box n a0 = some r) : CallS Try.prog 31 [(.ro 1 a0.length (flat E_LSiibe a0))] (.tup [(.agg [(vI r.1.f0), (vI r.1.f1)]), (.agg [(vI r.2.f0), (vI r.2.f1)])]) [none] := by
  refine CallS.introK tabOk Try.func31 rfl Try.ntmps31 (Nat.le_of_ble_eq_true rfl) ?_
  rw [F_r07_Box] at h
  refine .seq ?_
  refine .rgI rfl ?_
  refine .seg tabOk 0 2 [0, 2, 3] [32, 48] (t := [(0, (.ro 1 a0.length (flat E_LSiibe a0))), (2, (.ptr (32, 1) 0)), (3, (.ptr (48, 1) 0))]) (h := [q31_0, q31_1]) (ep := 2) (by kernel_rfl) ?_
  refine .fin rfl ?_
  refine sqN ?_
  refine .seq ?_
  refine .rgI rfl ?_
  refine .seg tabOk 0 2 [0, 2, 3, 4, 5] [32, 48, 64, 80] (t := [(0, (.ro 1 a0.length (flat E_LSiibe a0))), (2, (.ptr (32, 1) 0)), (3, (.ptr (48, 1) 0)), (4, (.ptr (64, 3) 0)), (5, (.ptr (80, 3) 0))]) (h := [q31_0, q31_1, q31_4, q31_5]) (ep := 4) (by kernel_rfl) ?_
  refine .fin rfl ?_
  refine sqN ?_
  refine .seq ?_
  refine .rgI rfl ?_
  refine .seg tabOk 0 1 [0, 2, 3, 4, 5, 6] [32, 48, 64, 80] (t := [(0, (.ro 1 a0.length (flat E_LSiibe a0))), (2, (.ptr (32, 1) 0)), (3, (.ptr (48, 1) 0)), (4, (.ptr (64, 3) 0)), (5, (.ptr (80, 3) 0)), (6, (.val (.bool true)))]) (h := [q31_0, q31_1, q31_4, q31_5]) (ep := 6) (by kernel_rfl) ?_
  refine .fin rfl ?_
  refine sqN ?_
  refine .seq ?_
  refine .seq ?_
  refine .rgI rfl ?_
  refine .seg tabOk 0 3 [2, 3, 4, 5, 6, 11, 12, 13] [32, 48, 64, 80] (t := [(2, (.ptr (32, 1) 0)), (3, (.ptr (48, 1) 0)), (4, (.ptr (64, 3) 0)), (5, (.ptr (80, 3) 0)), (6, (.val (.bool true))), (q31_2 a0), (q31_3 a0), (13, (vI 0))]) (h := [q31_0, q31_1, q31_4, q31_5]) (ep := 8) (by kernel_rfl) ?_
  refine .fin rfl ?_
  refine sqN ?_
  obtain ⟨j1, hj1, h⟩ := ljS h
  refine .join (fun s' => ∃ x31 x32 x33 x34, s' = ⟨[(2, (.ptr (32, 1) 0)), (3, (.ptr (48, 1) 0)), (4, (.ptr (64, 3) 0)), (5, (.ptr (80, 3) 0))], [q31_0, q31_1, (64, ⟨3, .live, false, [(vI x31), (vI x32)]⟩), (80, ⟨3, .live, false, [(vI x33), (vI x34)]⟩)], 12⟩ ∧ j1 x31 x32 x33 x34 = some r) ?_ ?_
  · refine .block ?_
    refine .loopF (β := Int × Int × Int × Int × Int × Bool) (fun v => ⟨[(2, (.ptr (32, 1) 0)), (3, (.ptr (48, 1) 0)), (4, (.ptr (64, 3) 0)), (5, (.ptr (80, 3) 0)), (6, (.val (.bool v.2.2.2.2.2))), (q31_2 a0), (q31_3 a0), (13, (vI v.2.2.2.2.1))], [q31_0, q31_1, (64, ⟨3, .live, false, [(vI v.1), (vI v.2.1)]⟩), (80, ⟨3, .live, false, [(vI v.2.2.1), (vI v.2.2.2.1)]⟩)], 9⟩) (fun m v => L_r07_Box_0 a0 j1 m v.1 v.2.1 v.2.2.1 v.2.2.2.1 v.2.2.2.2.1 v.2.2.2.2.2 = some r) n (0, 0, 0, 0, 0, true) (by exact .tn [((32, 1), (32, 1)), ((48, 1), (48, 1)), ((64, 3), (64, 3)), ((80, 3), (80, 3))] ⟨rfl, rfl, rfl, rfl, rfl, rfl, rfl, rfl, trivial⟩ ⟨rfl, ⟨_, rfl, rfl⟩, ⟨rfl, ⟨_, rfl, rfl⟩, ⟨rfl, ⟨_, rfl, rfl⟩, ⟨rfl, ⟨_, rfl, rfl⟩, trivial⟩⟩⟩⟩ rfl) h ?_
    rintro m ⟨y2, y3, y4, y5, y6, y7⟩ h
    cases m with
    | zero => exact nomatch h
    | succ n =>
      rw [L_r07_Box_0] at h
      refine .seq ?_
      refine .rgI rfl ?_
      refine .seg tabOk 0 1 [2, 3, 4, 5, 6, 11, 12, 13, 14] [32, 48, 64, 80] (t := [(2, (.ptr (32, 1) 0)), (3, (.ptr (48, 1) 0)), (4, (.ptr (64, 3) 0)), (5, (.ptr (80, 3) 0)), (6, (.val (.bool y7))), (q31_2 a0), (q31_3 a0), (13, (vI y6)), (14, (.val (.bool (decide (y6 < (a0.length : Int))))))]) (h := [q31_0, q31_1, (64, ⟨3, .live, false, [(vI y2), (vI y3)]⟩), (80, ⟨3, .live, false, [(vI y4), (vI y5)]⟩)]) (ep := 11) (by kernel_rfl) ?_
      refine .fin rfl ?_
      refine sqN ?_
      refine .seq ?_
      refine .cond (decide (y6 < (a0.length : Int))) rfl (fun hc8 => ?_) (fun hc8 => ?_)
      · have h := iT h hc8
        refine .skip ?_
        refine sqN ?_
        refine .seq ?_
        obtain ⟨j9, hj9, h⟩ := ljS h
        refine .join (fun s' => ∃ x26 x27 x28 x29 x30, s' = ⟨[(2, (.ptr (32, 1) 0)), (3, (.ptr (48, 1) 0)), (4, (.ptr (64, 3) 0)), (5, (.ptr (80, 3) 0)), (6, (.val (.bool x30))), (q31_2 a0), (q31_3 a0), (13, (vI y6))], [q31_0, q31_1, (64, ⟨3, .live, false, [(vI x26), (vI x27)]⟩), (80, ⟨3, .live, false, [(vI x28), (vI x29)]⟩)], 20⟩ ∧ j9 x26 x27 x28 x29 x30 = some r) ?_ ?_
        · refine .block ?_
          refine .seq ?_
          refine .rgI rfl ?_
          obtain ⟨hb10, h⟩ := gS h
          refine .o tabOk rfl rfl rfl (q_idx E_LSiibe rfl rfl rfl rfl rfl rfl hb10) ?_
          refine .o tabOk rfl rfl rfl (q_ld0 E_LSiibe rfl rfl rfl hb10 rfl) ?_
          refine .seg tabOk 2 1 [2, 3, 4, 5, 6, 8, 11, 12, 13] [32, 48, 64, 80] (t := [(2, (.ptr (32, 1) 0)), (3, (.ptr (48, 1) 0)), (4, (.ptr (64, 3) 0)), (5, (.ptr (80, 3) 0)), (6, (.val (.bool y7))), (8, (.ro 3 (nth E_LSiibe a0 y6).length (flat E_Siibe (nth E_LSiibe a0 y6)))), (q31_2 a0), (q31_3 a0), (13, (vI y6))]) (h := [q31_0, q31_1, (64, ⟨3, .live, false, [(vI y2), (vI y3)]⟩), (80, ⟨3, .live, false, [(vI y4), (vI y5)]⟩)]) (ep := 13) (by kernel_rfl) ?_
          refine .fin rfl ?_
          refine sqN ?_
          refine .seq ?_
          refine .rgI rfl ?_
          refine .seg tabOk 0 3 [2, 3, 4, 5, 6, 11, 12, 13, 17, 18, 19] [32, 48, 64, 80] (t := [(2, (.ptr (32, 1) 0)), (3, (.ptr (48, 1) 0)), (4, (.ptr (64, 3) 0)), (5, (.ptr (80, 3) 0)), (6, (.val (.bool y7))), (q31_2 a0), (q31_3 a0), (13, (vI y6)), (17, (.ro 3 (nth E_LSiibe a0 y6).length (flat E_Siibe (nth E_LSiibe a0 y6)))), (18, (vI ((nth E_LSiibe a0 y6).length : Int))), (19, (vI 0))]) (h := [q31_0, q31_1, (64, ⟨3, .live, false, [(vI y2), (vI y3)]⟩), (80, ⟨3, .live, false, [(vI y4), (vI y5)]⟩)]) (ep := 15) (by kernel_rfl) ?_
          refine .fin rfl ?_
          refine sqN ?_
          obtain ⟨j11, hj11, h⟩ := ljS h
          refine .join (fun s' => ∃ x21 x22 x23 x24 x25, s' = ⟨[(2, (.ptr (32, 1) 0)), (3, (.ptr (48, 1) 0)), (4, (.ptr (64, 3) 0)), (5, (.ptr (80, 3) 0)), (6, (.val (.bool x25))), (q31_2 a0), (q31_3 a0), (13, (vI y6))], [q31_0, q31_1, (64, ⟨3, .live, false, [(vI x21), (vI x22)]⟩), (80, ⟨3, .live, false, [(vI x23), (vI x24)]⟩)], 19⟩ ∧ j11 x21 x22 x23 x24 x25 = some r) ?_ ?_
          · refine .block ?_
            refine .loopF (β := Int × Int × Int × Int × Int × Bool) (fun v => ⟨[(2, (.ptr (32, 1) 0)), (3, (.ptr (48, 1) 0)), (4, (.ptr (64, 3) 0)), (5, (.ptr (80, 3) 0)), (6, (.val (.bool v.2.2.2.2.2))), (q31_2 a0), (q31_3 a0), (13, (vI y6)), (17, (.ro 3 (nth E_LSiibe a0 y6).length (flat E_Siibe (nth E_LSiibe a0 y6)))), (18, (vI ((nth E_LSiibe a0 y6).length : Int))), (19, (vI v.2.2.2.2.1))], [q31_0, q31_1, (64, ⟨3, .live, false, [(vI v.1), (vI v.2.1)]⟩), (80, ⟨3, .live, false, [(vI v.2.2.1), (vI v.2.2.2.1)]⟩)], 16⟩) (fun m v => L_r07_Box_1 a0 y6 j11 m v.1 v.2.1 v.2.2.1 v.2.2.2.1 v.2.2.2.2.1 v.2.2.2.2.2 = some r) n (y2, y3, y4, y5, 0, y7) (by exact .tn [((32, 1), (32, 1)), ((48, 1), (48, 1)), ((64, 3), (64, 3)), ((80, 3), (80, 3))] ⟨rfl, rfl, rfl, rfl, rfl, rfl, rfl, rfl, rfl, rfl, rfl, trivial⟩ ⟨rfl, ⟨_, rfl, rfl⟩, ⟨rfl, ⟨_, rfl, rfl⟩, ⟨rfl, ⟨_, rfl, rfl⟩, ⟨rfl, ⟨_, rfl, rfl⟩, trivial⟩⟩⟩⟩ rfl) h ?_
            rintro m ⟨y12, y13, y14, y15, y16, y17⟩ h
            cases m with
            | zero => exact nomatch h
            | succ n =>
              rw [L_r07_Box_1] at h
              refine .seq ?_
              refine .rgI rfl ?_
              refine .seg tabOk 0 1 [2, 3, 4, 5, 6, 11, 12, 13, 17, 18, 19, 20] [32, 48, 64, 80] (t := [(2, (.ptr (32, 1) 0)), (3, (.ptr (48, 1) 0)), (4, (.ptr (64, 3) 0)), (5, (.ptr (80, 3) 0)), (6, (.val (.bool y17))), (q31_2 a0), (q31_3 a0), (13, (vI y6)), (17, (.ro 3 (nth E_LSiibe a0 y6).length (flat E_Siibe (nth E_LSiibe a0 y6)))), (18, (vI ((nth E_LSiibe a0 y6).length : Int))), (19, (vI y16)), (20, (.val (.bool (decide (y16 < ((nth E_LSiibe a0 y6).length : Int))))))]) (h := [q31_0, q31_1, (64, ⟨3, .live, false, [(vI y12), (vI y13)]⟩), (80, ⟨3, .live, false, [(vI y14), (vI y15)]⟩)]) (ep := 18) (by kernel_rfl) ?_
              refine .fin rfl ?_
              refine sqN ?_
              refine .seq ?_
              refine .cond (decide (y16 < ((nth E_LSiibe a0 y6).length : Int))) rfl (fun hc18 => ?_) (fun hc18 => ?_)
              · have h := iT h hc18
                refine .skip ?_
                refine sqN ?_
                refine .seq ?_
                refine .block ?_
                refine .seq ?_
                refine .rgI rfl ?_
                obtain ⟨hb19, h⟩ := gS h
                refine .o tabOk rfl rfl rfl (q_idx E_Siibe rfl rfl rfl rfl rfl rfl hb19) ?_
                refine .o tabOk rfl rfl rfl (q_ld0 E_Siibe rfl rfl rfl hb19 rfl) ?_
                refine .seg tabOk 2 2 [2, 3, 4, 5, 6, 10, 11, 12, 13, 17, 18, 19] [32, 48, 64, 80, 160] (t := [(2, (.ptr (32, 1) 0)), (3, (.ptr (48, 1) 0)), (4, (.ptr (64, 3) 0)), (5, (.ptr (80, 3) 0)), (6, (.val (.bool y17))), (10, (.ptr (160, 19) 0)), (q31_2 a0), (q31_3 a0), (13, (vI y6)), (17, (.ro 3 (nth E_LSiibe a0 y6).length (flat E_Siibe (nth E_LSiibe a0 y6)))), (18, (vI ((nth E_LSiibe a0 y6).length : Int))), (19, (vI y16))]) (h := [q31_0, q31_1, (64, ⟨3, .live, false, [(vI y12), (vI y13)]⟩), (80, ⟨3, .live, false, [(vI y14), (vI y15)]⟩), (160, ⟨19, .live, false, [(vI (nth E_Siibe (nth E_LSiibe a0 y6) y16).f0), (vI (nth E_Siibe (nth E_LSiibe a0 y6) y16).f1), (.val (.bool (nth E_Siibe (nth E_LSiibe a0 y6) y16).f2))]⟩)]) (ep := 20) (by kernel_rfl) ?_
                refine .fin rfl ?_
                refine sqN ?_
                refine .seq ?_
                refine .seq ?_
                refine .rgI rfl ?_
                refine .seg tabOk 0 1 [2, 3, 4, 5, 10, 11, 12, 13, 17, 18, 19, 23] [32, 48, 64, 80, 160] (t := [(2, (.ptr (32, 1) 0)), (3, (.ptr (48, 1) 0)), (4, (.ptr (64, 3) 0)), (5, (.ptr (80, 3) 0)), (10, (.ptr (160, 19) 0)), (q31_2 a0), (q31_3 a0), (13, (vI y6)), (17, (.ro 3 (nth E_LSiibe a0 y6).length (flat E_Siibe (nth E_LSiibe a0 y6)))), (18, (vI ((nth E_LSiibe a0 y6).length : Int))), (19, (vI y16)), (23, (.val (.bool y17)))]) (h := [q31_0, q31_1, (64, ⟨3, .live, false, [(vI y12), (vI y13)]⟩), (80, ⟨3, .live, false, [(vI y14), (vI y15)]⟩), (160, ⟨19, .live, false, [(vI (nth E_Siibe (nth E_LSiibe a0 y6) y16).f0), (vI (nth E_Siibe (nth E_LSiibe a0 y6) y16).f1), (.val (.bool (nth E_Siibe (nth E_LSiibe a0 y6) y16).f2))]⟩)]) (ep := 22) (by kernel_rfl) ?_
                refine .fin rfl ?_
                refine sqN ?_
                refine .join (fun s' => s' = ⟨[(2, (.ptr (32, 1) 0)), (3, (.ptr (48, 1) 0)), (4, (.ptr (64, 3) 0)), (5, (.ptr (80, 3) 0)), (10, (.ptr (160, 19) 0)), (q31_2 a0), (q31_3 a0), (13, (vI y6)), (17, (.ro 3 (nth E_LSiibe a0 y6).length (flat E_Siibe (nth E_LSiibe a0 y6)))), (18, (vI ((nth E_LSiibe a0 y6).length : Int))), (19, (vI y16))], [q31_0, q31_1, (64, ⟨3, .live, false, [(vI (if y17 then (nth E_Siibe (nth E_LSiibe a0 y6) y16).f0 else y12)), (vI (if y17 then (nth E_Siibe (nth E_LSiibe a0 y6) y16).f1 else y13))]⟩), (80, ⟨3, .live, false, [(vI (if y17 then (nth E_Siibe (nth E_LSiibe a0 y6) y16).f0 else y14)), (vI (if y17 then (nth E_Siibe (nth E_LSiibe a0 y6) y16).f1 else y15))]⟩), (160, ⟨19, .live, false, [(vI (nth E_Siibe (nth E_LSiibe a0 y6) y16).f0), (vI (nth E_Siibe (nth E_LSiibe a0 y6) y16).f1), (.val (.bool (nth E_Siibe (nth E_LSiibe a0 y6) y16).f2))]⟩)], 25⟩) ?_ ?_
                · refine .cond y17 rfl (fun hc20 => ?_) (fun hc20 => ?_)
                  · skip
                    refine .rgD rfl ?_
                    refine .seg tabOk 0 12 [2, 3, 4, 5, 10, 11, 12, 13, 17, 18, 19] [32, 48, 64, 80, 160] (t := [(2, (.ptr (32, 1) 0)), (3, (.ptr (48, 1) 0)), (4, (.ptr (64, 3) 0)), (5, (.ptr (80, 3) 0)), (10, (.ptr (160, 19) 0)), (q31_2 a0), (q31_3 a0), (13, (vI y6)), (17, (.ro 3 (nth E_LSiibe a0 y6).length (flat E_Siibe (nth E_LSiibe a0 y6)))), (18, (vI ((nth E_LSiibe a0 y6).length : Int))), (19, (vI y16))]) (h := [q31_0, q31_1, (64, ⟨3, .live, false, [(vI (nth E_Siibe (nth E_LSiibe a0 y6) y16).f0), (vI (nth E_Siibe (nth E_LSiibe a0 y6) y16).f1)]⟩), (80, ⟨3, .live, false, [(vI (nth E_Siibe (nth E_LSiibe a0 y6) y16).f0), (vI (nth E_Siibe (nth E_LSiibe a0 y6) y16).f1)]⟩), (160, ⟨19, .live, false, [(vI (nth E_Siibe (nth E_LSiibe a0 y6) y16).f0), (vI (nth E_Siibe (nth E_LSiibe a0 y6) y16).f1), (.val (.bool (nth E_Siibe (nth E_LSiibe a0 y6) y16).f2))]⟩)]) (ep := 23) (by kernel_rfl) ?_
                    refine .fin mixed [2, 3, 4, 5, 10, 11, 12, 13, 17, 18, 19] [32, 48, 64, 80, 160] (t := [(2, (.ptr (32, 1) 0)), (3, (.ptr (48, 1) 0)), (4, (.ptr (64, 3) 0)), (5, (.ptr (80, 3) 0)), (10, (.ptr (160, 19) 0)), (q31_2 a0), (q31_3 a0), (13, (vI y6)), (17, (.ro 3 (nth E_LSiibe a0 y6).length (flat E_Siibe (nth E_LSiibe a0 y6)))), (18, (vI ((nth E_LSiibe a0 y6).length : Int))), (19, (vI y16))]) (h := [q31_0, q31_1, (64, ⟨3, .live, false, [(vI (nth E_Siibe (nth E_LSiibe a0 y6) y16).f0), (vI (nth E_Siibe (nth E_LSiibe a0 y6) y16).f1)]⟩), (80, ⟨3, .live, false, [(vI (nth E_Siibe (nth E_LSiibe a0 y6) y16).f0), (vI (nth E_Siibe (nth E_LSiibe a0 y6) y16).f1)]⟩), (160, ⟨19, .live, false, [(vI (nth E_Siibe (nth E_LSiibe a0 y6) y16).f0), (vI (nth E_Siibe (nth E_LSiibe a0 y6) y16).f1), (.val (.bool (nth E_Siibe (nth E_LSiibe a0 y6) y16).f2))]⟩)]) (ep := 24) rfl (by kernel_rfl) rfl ?_
                    exact jkN (by exact .tn [((32, 1), (32, 1)), ((48, 1), (48, 1)), ((64, 3), (64, 3)), ((80, 3), (80, 3)), ((160, 19), (160, 19))] ⟨(by (try rw [hc20]); rfl), (by (try rw [hc20]); rfl), (by (try rw [hc20]); rfl), (by (try rw [hc20]); rfl), (by (try rw [hc20]); rfl), (by (try rw [hc20]); rfl), (by (try rw [hc20]); rfl), (by (try rw [hc20]); rfl), (by (try rw [hc20]); rfl), (by (try rw [hc20]); rfl), (by (try rw [hc20]); rfl), trivial⟩ ⟨rfl, ⟨_, rfl, (by (try rw [hc20]); exact rfl)⟩, ⟨rfl, ⟨_, rfl, (by (try rw [hc20]); exact rfl)⟩, ⟨rfl, ⟨_, rfl, (by (try rw [hc20]); exact rfl)⟩, ⟨rfl, ⟨_, rfl, (by (try rw [hc20]); exact rfl)⟩, ⟨rfl, ⟨_, rfl, (by (try rw [hc20]); exact rfl)⟩, trivial⟩⟩⟩⟩⟩ rfl) rfl
                  · skip
                    refine .skip ?_
                    exact jkN (by exact .tn [((32, 1), (32, 1)), ((48, 1), (48, 1)), ((64, 3), (64, 3)), ((80, 3), (80, 3)), ((160, 19), (160, 19))] ⟨(by (try rw [hc20]); rfl), (by (try rw [hc20]); rfl), (by (try rw [hc20]); rfl), (by (try rw [hc20]); rfl), (by (try rw [hc20]); rfl), (by (try rw [hc20]); rfl), (by (try rw [hc20]); rfl), (by (try rw [hc20]); rfl), (by (try rw [hc20]); rfl), (by (try rw [hc20]); rfl), (by (try rw [hc20]); rfl), trivial⟩ ⟨rfl, ⟨_, rfl, (by (try rw [hc20]); exact rfl)⟩, ⟨rfl, ⟨_, rfl, (by (try rw [hc20]); exact rfl)⟩, ⟨rfl, ⟨_, rfl, (by (try rw [hc20]); exact rfl)⟩, ⟨rfl, ⟨_, rfl, (by (try rw [hc20]); exact rfl)⟩, ⟨rfl, ⟨_, rfl, (by (try rw [hc20]); exact rfl)⟩, trivial⟩⟩⟩⟩⟩ rfl) rfl
                · rintro _ rfl
                  refine sqN ?_
                  refine .seq ?_
                  refine .rgI rfl ?_
                  refine .seg tabOk 0 1 [2, 3, 4, 5, 6, 10, 11, 12, 13, 17, 18, 19] [32, 48, 64, 80, 160] (t := [(2, (.ptr (32, 1) 0)), (3, (.ptr (48, 1) 0)), (4, (.ptr (64, 3) 0)), (5, (.ptr (80, 3) 0)), (6, (.val (.bool false))), (10, (.ptr (160, 19) 0)), (q31_2 a0), (q31_3 a0), (13, (vI y6)), (17, (.ro 3 (nth E_LSiibe a0 y6).length (flat E_Siibe (nth E_LSiibe a0 y6)))), (18, (vI ((nth E_LSiibe a0 y6).length : Int))), (19, (vI y16))]) (h := [q31_0, q31_1, (64, ⟨3, .live, false, [(vI (if y17 then (nth E_Siibe (nth E_LSiibe a0 y6) y16).f0 else y12)), (vI (if y17 then (nth E_Siibe (nth E_LSiibe a0 y6) y16).f1 else y13))]⟩), (80, ⟨3, .live, false, [(vI (if y17 then (nth E_Siibe (nth E_LSiibe a0 y6) y16).f0 else y14)), (vI (if y17 then (nth E_Siibe (nth E_LSiibe a0 y6) y16).f1 else y15))]⟩), (160, ⟨19, .live, false, [(vI (nth E_Siibe (nth E_LSiibe a0 y6) y16).f0), (vI (nth E_Siibe (nth E_LSiibe a0 y6) y16).f1), (.val (.bool (nth E_Siibe (nth E_LSiibe a0 y6) y16).f2))]⟩)]) (ep := 27) (by kernel_rfl) ?_
                  refine .fin rfl ?_
                  refine sqN ?_
                  refine .seq ?_
                  refine .rgI rfl ?_
                  refine .seg tabOk 0 12 [2, 3, 4, 5, 6, 10, 11, 12, 13, 17, 18, 19] [32, 48, 64, 80, 160] (t := [(2, (.ptr (32, 1) 0)), (3, (.ptr (48, 1) 0)), (4, (.ptr (64, 3) 0)), (5, (.ptr (80, 3) 0)), (6, (.val (.bool false))), (10, (.ptr (160, 19) 0)), (q31_2 a0), (q31_3 a0), (13, (vI y6)), (17, (.ro 3 (nth E_LSiibe a0 y6).length (flat E_Siibe (nth E_LSiibe a0 y6)))), (18, (vI ((nth E_LSiibe a0 y6).length : Int))), (19, (vI y16))]) (h := [q31_0, q31_1, (64, ⟨3, .live, false, [(vI (if (nth E_Siibe (nth E_LSiibe a0 y6) y16).f0 < (if y17 then (nth E_Siibe (nth E_LSiibe a0 y6) y16).f0 else y12) then (nth E_Siibe (nth E_LSiibe a0 y6) y16).f0 else (if y17 then (nth E_Siibe (nth E_LSiibe a0 y6) y16).f0 else y12))), (vI (if (nth E_Siibe (nth E_LSiibe a0 y6) y16).f1 < (if y17 then (nth E_Siibe (nth E_LSiibe a0 y6) y16).f1 else y13) then (nth E_Siibe (nth E_LSiibe a0 y6) y16).f1 else (if y17 then (nth E_Siibe (nth E_LSiibe a0 y6) y16).f1 else y13)))]⟩), (80, ⟨3, .live, false, [(vI (if y17 then (nth E_Siibe (nth E_LSiibe a0 y6) y16).f0 else y14)), (vI (if y17 then (nth E_Siibe (nth E_LSiibe a0 y6) y16).f1 else y15))]⟩), (160, ⟨19, .live, false, [(vI (nth E_Siibe (nth E_LSiibe a0 y6) y16).f0), (vI (nth E_Siibe (nth E_LSiibe a0 y6) y16).f1), (.val (.bool (nth E_Siibe (nth E_LSiibe a0 y6) y16).f2))]⟩)]) (ep := 29) (by kernel_rfl) ?_
                  refine .fin rfl ?_
                  refine sqN ?_
                  refine .rgI rfl ?_
                  refine .seg tabOk 0 12 [2, 3, 4, 5, 6, 11, 12, 13, 17, 18, 19] [32, 48, 64, 80] (t := [(2, (.ptr (32, 1) 0)), (3, (.ptr (48, 1) 0)), (4, (.ptr (64, 3) 0)), (5, (.ptr (80, 3) 0)), (6, (.val (.bool false))), (q31_2 a0), (q31_3 a0), (13, (vI y6)), (17, (.ro 3 (nth E_LSiibe a0 y6).length (flat E_Siibe (nth E_LSiibe a0 y6)))), (18, (vI ((nth E_LSiibe a0 y6).length : Int))), (19, (vI y16))]) (h := [q31_0, q31_1, (64, ⟨3, .live, false, [(vI (if (nth E_Siibe (nth E_LSiibe a0 y6) y16).f0 < (if y17 then (nth E_Siibe (nth E_LSiibe a0 y6) y16).f0 else y12) then (nth E_Siibe (nth E_LSiibe a0 y6) y16).f0 else (if y17 then (nth E_Siibe (nth E_LSiibe a0 y6) y16).f0 else y12))), (vI (if (nth E_Siibe (nth E_LSiibe a0 y6) y16).f1 < (if y17 then (nth E_Siibe (nth E_LSiibe a0 y6) y16).f1 else y13) then (nth E_Siibe (nth E_LSiibe a0 y6) y16).f1 else (if y17 then (nth E_Siibe (nth E_LSiibe a0 y6) y16).f1 else y13)))]⟩), (80, ⟨3, .live, false, [(vI (if (nth E_Siibe (nth E_LSiibe a0 y6) y16).f0 > (if y17 then (nth E_Siibe (nth E_LSiibe a0 y6) y16).f0 else y14) then (nth E_Siibe (nth E_LSiibe a0 y6) y16).f0 else (if y17 then (nth E_Siibe (nth E_LSiibe a0 y6) y16).f0 else y14))), (vI (if (nth E_Siibe (nth E_LSiibe a0 y6) y16).f1 > (if y17 then (nth E_Siibe (nth E_LSiibe a0 y6) y16).f1 else y15) then (nth E_Siibe (nth E_LSiibe a0 y6) y16).f1 else (if y17 then (nth E_Siibe (nth E_LSiibe a0 y6) y16).f1 else y15)))]⟩)]) (ep := 31) (by kernel_rfl) ?_
                  refine .fin rfl ?_
                  refine bkN ?_
                  refine sqN ?_
                  refine .rgI rfl ?_
                  refine .seg tabOk 0 2 [2, 3, 4, 5, 6, 11, 12, 13, 17, 18, 19] [32, 48, 64, 80] (t := [(2, (.ptr (32, 1) 0)), (3, (.ptr (48, 1) 0)), (4, (.ptr (64, 3) 0)), (5, (.ptr (80, 3) 0)), (6, (.val (.bool false))), (q31_2 a0), (q31_3 a0), (13, (vI y6)), (17, (.ro 3 (nth E_LSiibe a0 y6).length (flat E_Siibe (nth E_LSiibe a0 y6)))), (18, (vI ((nth E_LSiibe a0 y6).length : Int))), (19, (vI (w64 (y16 + 1))))]) (h := [q31_0, q31_1, (64, ⟨3, .live, false, [(vI (if (nth E_Siibe (nth E_LSiibe a0 y6) y16).f0 < (if y17 then (nth E_Siibe (nth E_LSiibe a0 y6) y16).f0 else y12) then (nth E_Siibe (nth E_LSiibe a0 y6) y16).f0 else (if y17 then (nth E_Siibe (nth E_LSiibe a0 y6) y16).f0 else y12))), (vI (if (nth E_Siibe (nth E_LSiibe a0 y6) y16).f1 < (if y17 then (nth E_Siibe (nth E_LSiibe a0 y6) y16).f1 else y13) then (nth E_Siibe (nth E_LSiibe a0 y6) y16).f1 else (if y17 then (nth E_Siibe (nth E_LSiibe a0 y6) y16).f1 else y13)))]⟩), (80, ⟨3, .live, false, [(vI (if (nth E_Siibe (nth E_LSiibe a0 y6) y16).f0 > (if y17 then (nth E_Siibe (nth E_LSiibe a0 y6) y16).f0 else y14) then (nth E_Siibe (nth E_LSiibe a0 y6) y16).f0 else (if y17 then (nth E_Siibe (nth E_LSiibe a0 y6) y16).f0 else y14))), (vI (if (nth E_Siibe (nth E_LSiibe a0 y6) y16).f1 > (if y17 then (nth E_Siibe (nth E_LSiibe a0 y6) y16).f1 else y15) then (nth E_Siibe (nth E_LSiibe a0 y6) y16).f1 else (if y17 then (nth E_Siibe (nth E_LSiibe a0 y6) y16).f1 else y15)))]⟩)]) (ep := 33) (by kernel_rfl) ?_
                  refine .fin rfl ?_
                  exact jkN (by exact .tn [((32, 1), (32, 1)), ((48, 1), (48, 1)), ((64, 3), (64, 3)), ((80, 3), (80, 3))] ⟨rfl, rfl, rfl, rfl, rfl, rfl, rfl, rfl, rfl, rfl, rfl, trivial⟩ ⟨rfl, ⟨_, rfl, rfl⟩, ⟨rfl, ⟨_, rfl, rfl⟩, ⟨rfl, ⟨_, rfl, rfl⟩, ⟨rfl, ⟨_, rfl, rfl⟩, trivial⟩⟩⟩⟩ rfl) ⟨n, ((if (nth E_Siibe (nth E_LSiibe a0 y6) y16).f0 < (if y17 then (nth E_Siibe (nth E_LSiibe a0 y6) y16).f0 else y12) then (nth E_Siibe (nth E_LSiibe a0 y6) y16).f0 else (if y17 then (nth E_Siibe (nth E_LSiibe a0 y6) y16).f0 else y12)), (if (nth E_Siibe (nth E_LSiibe a0 y6) y16).f1 < (if y17 then (nth E_Siibe (nth E_LSiibe a0 y6) y16).f1 else y13) then (nth E_Siibe (nth E_LSiibe a0 y6) y16).f1 else (if y17 then (nth E_Siibe (nth E_LSiibe a0 y6) y16).f1 else y13)), (if (nth E_Siibe (nth E_LSiibe a0 y6) y16).f0 > (if y17 then (nth E_Siibe (nth E_LSiibe a0 y6) y16).f0 else y14) then (nth E_Siibe (nth E_LSiibe a0 y6) y16).f0 else (if y17 then (nth E_Siibe (nth E_LSiibe a0 y6) y16).f0 else y14)), (if (nth E_Siibe (nth E_LSiibe a0 y6) y16).f1 > (if y17 then (nth E_Siibe (nth E_LSiibe a0 y6) y16).f1 else y15) then (nth E_Siibe (nth E_LSiibe a0 y6) y16).f1 else (if y17 then (nth E_Siibe (nth E_LSiibe a0 y6) y16).f1 else y15)), (w64 (y16 + 1)), false), Nat.lt_succ_self n, rfl, h⟩
              · have h := iF h hc18
                refine .exit ?_
                refine sqX ?_
                refine jkX ?_
                refine bkE ?_
                exact jkN (by exact .tn [((32, 1), (32, 1)), ((48, 1), (48, 1)), ((64, 3), (64, 3)), ((80, 3), (80, 3))] ⟨rfl, rfl, rfl, rfl, rfl, rfl, rfl, rfl, trivial⟩ ⟨rfl, ⟨_, rfl, rfl⟩, ⟨rfl, ⟨_, rfl, rfl⟩, ⟨rfl, ⟨_, rfl, rfl⟩, ⟨rfl, ⟨_, rfl, rfl⟩, trivial⟩⟩⟩⟩ rfl) ⟨_, _, _, _, _, rfl, h⟩
          · rintro _ ⟨x21, x22, x23, x24, x25, rfl, h⟩
            subst hj11
            refine bkN ?_
            exact jkN (by exact .tn [((32, 1), (32, 1)), ((48, 1), (48, 1)), ((64, 3), (64, 3)), ((80, 3), (80, 3))] ⟨rfl, rfl, rfl, rfl, rfl, rfl, rfl, rfl, trivial⟩ ⟨rfl, ⟨_, rfl, rfl⟩, ⟨rfl, ⟨_, rfl, rfl⟩, ⟨rfl, ⟨_, rfl, rfl⟩, ⟨rfl, ⟨_, rfl, rfl⟩, trivial⟩⟩⟩⟩ rfl) ⟨_, _, _, _, _, rfl, h⟩
        · rintro _ ⟨x26, x27, x28, x29, x30, rfl, h⟩
          subst hj9
          refine sqN ?_
          refine .rgI rfl ?_
          refine .seg tabOk 0 2 [2, 3, 4, 5, 6, 11, 12, 13] [32, 48, 64, 80] (t := [(2, (.ptr (32, 1) 0)), (3, (.ptr (48, 1) 0)), (4, (.ptr (64, 3) 0)), (5, (.ptr (80, 3) 0)), (6, (.val (.bool x30))), (q31_2 a0), (q31_3 a0), (13, (vI (w64 (y6 + 1))))]) (h := [q31_0, q31_1, (64, ⟨3, .live, false, [(vI x26), (vI x27)]⟩), (80, ⟨3, .live, false, [(vI x28), (vI x29)]⟩)]) (ep := 22) (by kernel_rfl) ?_
          refine .fin rfl ?_
          exact jkN (by exact .tn [((32, 1), (32, 1)), ((48, 1), (48, 1)), ((64, 3), (64, 3)), ((80, 3), (80, 3))] ⟨rfl, rfl, rfl, rfl, rfl, rfl, rfl, rfl, trivial⟩ ⟨rfl, ⟨_, rfl, rfl⟩, ⟨rfl, ⟨_, rfl, rfl⟩, ⟨rfl, ⟨_, rfl, rfl⟩, ⟨rfl, ⟨_, rfl, rfl⟩, trivial⟩⟩⟩⟩ rfl) ⟨n, (x26, x27, x28, x29, (w64 (y6 + 1)), x30), Nat.lt_succ_self n, rfl, h⟩
      · have h := iF h hc8
        refine .exit ?_
        refine sqX ?_
        refine jkX ?_
        refine bkE ?_
        exact jkN (by exact .tn [((32, 1), (32, 1)), ((48, 1), (48, 1)), ((64, 3), (64, 3)), ((80, 3), (80, 3))] ⟨rfl, rfl, rfl, rfl, trivial⟩ ⟨rfl, ⟨_, rfl, rfl⟩, ⟨rfl, ⟨_, rfl, rfl⟩, ⟨rfl, ⟨_, rfl, rfl⟩, ⟨rfl, ⟨_, rfl, rfl⟩, trivial⟩⟩⟩⟩ rfl) ⟨_, _, _, _, rfl, h⟩
  · rintro _ ⟨x31, x32, x33, x34, rfl, h⟩
    subst hj1
    refine sqN ?_
    refine .seq ?_
    refine .rgD rfl ?_
    refine .seg tabOk 0 4 [2, 3] [32, 48, 64, 80] (t := [(2, (.ptr (32, 1) 0)), (3, (.ptr (48, 1) 0))]) (h := [(32, ⟨1, .live, false, [(vI x31), (vI x32)]⟩), (48, ⟨1, .live, false, [(vI x33), (vI x34)]⟩), (64, ⟨3, .live, false, [(vI x31), (vI x32)]⟩), (80, ⟨3, .live, false, [(vI x33), (vI x34)]⟩)]) (ep := 13) (by kernel_rfl) ?_
    refine .fin mixed [2, 3] [32, 48] (t := [(2, (.ptr (32, 1) 0)), (3, (.ptr (48, 1) 0))]) (h := [(32, ⟨1, .live, false, [(vI x31), (vI x32)]⟩), (48, ⟨1, .live, false, [(vI x33), (vI x34)]⟩)]) (ep := 14) rfl (by kernel_rfl) rfl ?_
    refine sqN ?_
    refine .ret ?_
    injection h with h
    subst h
    exact ⟨.inr rfl, _, _, rfl, List.nodup_nil, rfl, rfl⟩
abbrev R_r02_Put := (List Int)
def L_r02_Put_0 (j2 : (List Int) → Option R_r02_Put) : Nat → (List Int) → Int → Int → Option R_r02_Put
  | 0, _, _, _ => none
  | n + 1, y3, y4, y5 =>
    if (decide (0 ≤ y5)) then
      gd (0 ≤ y5 ∧ y5 < y3.length) <|
      L_r02_Put_0 j2 n (y3.set (Int.toNat y5) (IntKind.wrap .u8 ((Int.tmod y4 256)))) (IntKind.wrap .u64 (Int.tdiv y4 256)) (w64 (y5 - 1))
    else
    j2 y3
def F_r02_Put (n : Nat) (a0 : Int) (a1 : Int) : Option R_r02_Put :=
  gd (0 ≤ (if (if 8 < a1 then 8 else a1) > 0 then (if 8 < a1 then 8 else a1) else 0) ∧ fits (Int.toNat (if (if 8 < a1 then 8 else a1) > 0 then (if 8 < a1 then 8 else a1) else 0)) 1 = true) <|
  lj (fun (x8 : (List Int)) =>
    some x8) fun j2 =>
  L_r02_Put_0 j2 n (List.replicate (Int.toNat (if (if 8 < a1 then 8 else a1) > 0 then (if 8 < a1 then 8 else a1) else 0)) E_B.d) (IntKind.wrap .u64 (a0)) (w64 ((if (if 8 < a1 then 8 else a1) > 0 then (if 8 < a1 then 8 else a1) else 0) - 1))
theorem C_r02_Put (n : Nat) (a0 : Int) (a1 : Int) (r : R_r02_Put) (h : F_r02_Put n a0 a1 = some r) : CallS Try.prog 43 [(vI a0), (vI a1)] (.own 1 r.length (flat E_B r)) [none, none] := by
  refine CallS.introK tabOk Try.func43 rfl Try.ntmps43 (Nat.le_of_ble_eq_true rfl) ?_
  rw [F_r02_Put] at h
  refine .seq ?_
  refine .rgI rfl ?_
  refine .seg tabOk 0 1 [0, 1] [] (t := [(0, (vI a0)), (1, (vI a1))]) (h := []) (ep := 2) (by kernel_rfl) ?_
  refine .fin rfl ?_
  refine sqN ?_
  refine .seq ?_
  refine .rgI rfl ?_
  refine .seg tabOk 0 4 [0, 5] [] (t := [(0, (vI a0)), (5, (vI (if (if 8 < a1 then 8 else a1) > 0 then (if 8 < a1 then 8 else a1) else 0)))]) (h := []) (ep := 4) (by kernel_rfl) ?_
  refine .fin rfl ?_
  refine sqN ?_
  refine .seq ?_
  refine .rgI rfl ?_
  refine .seg tabOk 0 1 [0, 5, 12] [] (t := [(0, (vI a0)), (5, (vI (if (if 8 < a1 then 8 else a1) > 0 then (if 8 < a1 then 8 else a1) else 0))), (12, (vI (if (if 8 < a1 then 8 else a1) > 0 then (if 8 < a1 then 8 else a1) else 0)))]) (h := []) (ep := 6) (by kernel_rfl) ?_
  obtain ⟨hb1, h⟩ := gS h
  refine .oo tabOk rfl rfl rfl (q_mk E_B rfl rfl rfl rfl rfl rfl rfl hb1) ?_
  refine .seg tabOk 2 1 [0, 5, 6] [208] (t := [(0, (vI a0)), (5, (vI (if (if 8 < a1 then 8 else a1) > 0 then (if 8 < a1 then 8 else a1) else 0))), (6, (.sref (208, 6) 0 (List.replicate (Int.toNat (if (if 8 < a1 then 8 else a1) > 0 then (if 8 < a1 then 8 else a1) else 0)) E_B.d).length 1))]) (h := [(208, ⟨6, .live, true, flat E_B (List.replicate (Int.toNat (if (if 8 < a1 then 8 else a1) > 0 then (if 8 < a1 then 8 else a1) else 0)) E_B.d)⟩)]) (ep := 7) (by kernel_rfl) ?_
  refine .fin rfl ?_
  refine sqN ?_
  refine .seq ?_
  refine .rgI rfl ?_
  refine .seg tabOk 0 3 [5, 6, 7] [208] (t := [(5, (vI (if (if 8 < a1 then 8 else a1) > 0 then (if 8 < a1 then 8 else a1) else 0))), (6, (.sref (208, 6) 0 (List.replicate (Int.toNat (if (if 8 < a1 then 8 else a1) > 0 then (if 8 < a1 then 8 else a1) else 0)) E_B.d).length 1)), (7, (.val (.int .u64 (IntKind.wrap .u64 (a0)))))]) (h := [(208, ⟨6, .live, true, flat E_B (List.replicate (Int.toNat (if (if 8 < a1 then 8 else a1) > 0 then (if 8 < a1 then 8 else a1) else 0)) E_B.d)⟩)]) (ep := 9) (by kernel_rfl) ?_
  refine .fin rfl ?_
  refine sqN ?_
  refine .seq ?_
  refine .seq ?_
  refine .rgI rfl ?_
  refine .seg tabOk 0 3 [6, 7, 8] [208] (t := [(6, (.sref (208, 6) 0 (List.replicate (Int.toNat (if (if 8 < a1 then 8 else a1) > 0 then (if 8 < a1 then 8 else a1) else 0)) E_B.d).length 1)), (7, (.val (.int .u64 (IntKind.wrap .u64 (a0))))), (8, (vI (w64 ((if (if 8 < a1 then 8 else a1) > 0 then (if 8 < a1 then 8 else a1) else 0) - 1))))]) (h := [(208, ⟨6, .live, true, flat E_B (List.replicate (Int.toNat (if (if 8 < a1 then 8 else a1) > 0 then (if 8 < a1 then 8 else a1) else 0)) E_B.d)⟩)]) (ep := 11) (by kernel_rfl) ?_
  refine .fin rfl ?_
  refine sqN ?_
  obtain ⟨j2, hj2, h⟩ := ljS h
  refine .join (fun s' => ∃ x8, s' = ⟨[(6, (.sref (208, 6) 0 x8.length 1))], [(208, ⟨6, .live, true, flat E_B x8⟩)], 15⟩ ∧ j2 x8 = some r) ?_ ?_
  · refine .block ?_
    refine .loopF (β := (List Int) × Int × Int) (fun v => ⟨[(6, (.sref (208, 6) 0 v.1.length 1)), (7, (.val (.int .u64 v.2.1))), (8, (vI v.2.2))], [(208, ⟨6, .live, true, flat E_B v.1⟩)], 12⟩) (fun m v => L_r02_Put_0 j2 m v.1 v.2.1 v.2.2 = some r) n ((List.replicate (Int.toNat (if (if 8 < a1 then 8 else a1) > 0 then (if 8 < a1 then 8 else a1) else 0)) E_B.d), (IntKind.wrap .u64 (a0)), (w64 ((if (if 8 < a1 then 8 else a1) > 0 then (if 8 < a1 then 8 else a1) else 0) - 1))) (by exact .tn [((208, 6), (208, 6))] ⟨rfl, rfl, rfl, trivial⟩ ⟨rfl, ⟨_, rfl, ah_row E_B⟩, trivial⟩ rfl) h ?_
    rintro m ⟨y3, y4, y5⟩ h
    cases m with
    | zero => exact nomatch h
    | succ n =>
      rw [L_r02_Put_0] at h
      refine .seq ?_
      refine .seq ?_
      refine .rgI rfl ?_
      refine .seg tabOk 0 2 [6, 7, 8, 19] [208] (t := [(6, (.sref (208, 6) 0 y3.length 1)), (7, (.val (.int .u64 y4))), (8, (vI y5)), (19, (.val (.bool (decide (0 ≤ y5)))))]) (h := [(208, ⟨6, .live, true, flat E_B y3⟩)]) (ep := 14) (by kernel_rfl) ?_
      refine .fin rfl ?_
      refine sqN ?_
      refine .cond (decide (0 ≤ y5)) rfl (fun hc6 => ?_) (fun hc6 => ?_)
      · have h := iT h hc6
        refine .skip ?_
        refine sqN ?_
        refine .seq ?_
        refine .block ?_
        refine .seq ?_
        refine .rgI rfl ?_
        refine .seg tabOk 0 5 [6, 7, 8, 22, 23, 26] [208] (t := [(6, (.sref (208, 6) 0 y3.length 1)), (7, (.val (.int .u64 y4))), (8, (vI y5)), (22, (.sref (208, 6) 0 y3.length 1)), (23, (vI y5)), (26, (.val (.int .u8 (IntKind.wrap .u8 ((Int.tmod y4 256))))))]) (h := [(208, ⟨6, .live, true, flat E_B y3⟩)]) (ep := 16) (by kernel_rfl) ?_
        obtain ⟨hb7, h⟩ := gS h
        refine .oo tabOk rfl rfl rfl (q_idxS E_B (l := y3) rfl rfl rfl rfl rfl rfl rfl rfl hb7) ?_
        refine .oo tabOk rfl rfl rfl (q_stS E_B (l := y3) (v := (IntKind.wrap .u8 ((Int.tmod y4 256)))) rfl rfl rfl rfl rfl rfl rfl rfl hb7) ?_
        refine .seg tabOk 7 0 [6, 7, 8] [208] (t := [(6, (.sref (208, 6) 0 y3.length 1)), (7, (.val (.int .u64 y4))), (8, (vI y5))]) (h := [(208, ⟨6, .live, true, flat E_B (y3.set (Int.toNat y5) (IntKind.wrap .u8 ((Int.tmod y4 256))))⟩)]) (ep := 17) (by kernel_rfl) ?_
        refine .fin rfl ?_
        refine sqN ?_
        refine .rgI rfl ?_
        refine .seg tabOk 0 3 [6, 7, 8] [208] (t := [(6, (.sref (208, 6) 0 y3.length 1)), (7, (.val (.int .u64 (IntKind.wrap .u64 (Int.tdiv y4 256))))), (8, (vI y5))]) (h := [(208, ⟨6, .live, true, flat E_B (y3.set (Int.toNat y5) (IntKind.wrap .u8 ((Int.tmod y4 256))))⟩)]) (ep := 19) (by kernel_rfl) ?_
        refine .fin rfl ?_
        refine bkN ?_
        refine sqN ?_
        refine .rgI rfl ?_
        refine .seg tabOk 0 3 [6, 7, 8] [208] (t := [(6, (.sref (208, 6) 0 y3.length 1)), (7, (.val (.int .u64 (IntKind.wrap .u64 (Int.tdiv y4 256))))), (8, (vI (w64 (y5 - 1))))]) (h := [(208, ⟨6, .live, true, flat E_B (y3.set (Int.toNat y5) (IntKind.wrap .u8 ((Int.tmod y4 256))))⟩)]) (ep := 21) (by kernel_rfl) ?_
        refine .fin rfl ?_
        exact jkN (by exact .tn [((208, 6), (208, 6))] ⟨(sref_len (by simp) rfl), rfl, rfl, trivial⟩ ⟨rfl, ⟨_, rfl, ah_row E_B⟩, trivial⟩ rfl) ⟨n, ((y3.set (Int.toNat y5) (IntKind.wrap .u8 ((Int.tmod y4 256)))), (IntKind.wrap .u64 (Int.tdiv y4 256)), (w64 (y5 - 1))), Nat.lt_succ_self n, rfl, h⟩
      · have h := iF h hc6
        refine .exit ?_
        refine sqX ?_
        refine jkX ?_
        refine bkE ?_
        exact jkN (by exact .tn [((208, 6), (208, 6))] ⟨rfl, trivial⟩ ⟨rfl, ⟨_, rfl, ah_row E_B⟩, trivial⟩ rfl) ⟨_, rfl, h⟩
  · rintro _ ⟨x8, rfl, h⟩
    subst hj2
    refine sqN ?_
    refine .seq ?_
    refine .rgI rfl ?_
    refine .seg tabOk 0 2 [4] [208] (t := [(4, (.sref (208, 6) 0 x8.length 1))]) (h := [(208, ⟨6, .live, true, flat E_B x8⟩)]) (ep := 17) (by kernel_rfl) ?_
    refine .fin rfl ?_
    refine sqN ?_
    refine .ret ?_
    injection h with h
    subst h
    exact ⟨.inr rfl, _, _, (f_cons (f_tmp rfl (o1_row E_B x8 rfl rfl rfl rfl rfl)) f_nil), nd_of rfl, rfl, rfl⟩
abbrev R_r07_short := Bool
def F_r07_short (n : Nat) (a0 : Int) : Option R_r07_short :=
  if (decide ((-32768) ≤ a0)) then
    some (decide (a0 ≤ 32767))
  else
  some false
theorem C_r07_short (n : Nat) (a0 : Int) (r : R_r07_short) (h : F_r07_short n a0 = some r) : CallS Try.prog 59 [(vI a0)] (.val (.bool r)) [none] := by
  refine CallS.introK tabOk Try.func59 rfl Try.ntmps59 (Nat.le_of_ble_eq_true rfl) ?_
  rw [F_r07_short] at h
  refine .seq ?_
  refine .rgI rfl ?_
  refine .seg tabOk 0 1 [0] [] (t := [(0, (vI a0))]) (h := []) (ep := 2) (by kernel_rfl) ?_
  refine .fin rfl ?_
  refine sqN ?_
  refine .seq ?_
  refine .rgI rfl ?_
  refine .seg tabOk 0 3 [0, 5] [] (t := [(0, (vI a0)), (5, (.val (.bool (decide ((-32768) ≤ a0)))))]) (h := []) (ep := 4) (by kernel_rfl) ?_
  cases hB1 : (decide ((-32768) ≤ a0)) with
  | false =>
    have h := iF h hB1
    refine .seg tabOk 3 4 [2] [] (t := [(2, (.val (.bool false)))]) (h := []) (ep := 5) (by kernel_rfl) ?_
    refine .fin rfl ?_
    refine sqN ?_
    refine .ret ?_
    injection h with h
    subst h
    exact ⟨.inr rfl, _, _, rfl, List.nodup_nil, rfl, rfl⟩
  | true =>
    have h := iT h hB1
    refine .seg tabOk 3 4 [2] [] (t := [(2, (.val (.bool (decide (a0 ≤ 32767)))))]) (h := []) (ep := 5) (by kernel_rfl) ?_
    refine .fin rfl ?_
    refine sqN ?_
    refine .ret ?_
    injection h with h
    subst h
    exact ⟨.inr rfl, _, _, rfl, List.nodup_nil, rfl, rfl⟩
abbrev R_r07_step := Int × (List Int)
def F_r07_step (n : Nat) (a0 : Int) (a1 : Int) (a2 : Int) : Option R_r07_step :=
  if (decide (a0 = 0)) then
    some (a2, ([] : List Int))
  else
  if ((decide (0 < a0)) && (decide (a0 < 256))) then
    some ((w64 (a1 + a2)), ([(IntKind.wrap .u8 (a0))] : List Int))
  else
  if ((decide (a0 < 0)) && (decide ((-256) < a0))) then
    some (a1, ([(IntKind.wrap .u8 ((w64 (0 - a0))))] : List Int))
  else
  Option.bind (F_r02_Put n a0 2) fun v6 =>
  some (0, v6)
theorem C_r07_step (n : Nat) (a0 : Int) (a1 : Int) (a2 : Int) (r : R_r07_step) (h : F_r07_step n a0 a1 a2 = some r) : CallS Try.prog 60 [(vI a0), (vI a1), (vI a2)] (.tup [(vI r.1), (.own 1 r.2.length (flat E_B r.2))]) [none, none, none] := by
  refine CallS.introK tabOk Try.func60 rfl Try.ntmps60 (Nat.le_of_ble_eq_true rfl) ?_
  rw [F_r07_step] at h
  refine .seq ?_
  refine .rgI rfl ?_
  refine .seg tabOk 0 2 [0, 1, 2] [] (t := [(0, (vI a0)), (1, (vI a1)), (2, (vI a2))]) (h := []) (ep := 2) (by kernel_rfl) ?_
  refine .fin rfl ?_
  refine sqN ?_
  refine .seq ?_
  refine .block ?_
  refine .seq ?_
  refine .rgI rfl ?_
  refine .seg tabOk 0 3 [0, 1, 2, 8] [] (t := [(0, (vI a0)), (1, (vI a1)), (2, (vI a2)), (8, (.val (.bool (decide (a0 = 0)))))]) (h := []) (ep := 4) (by kernel_rfl) ?_
  refine .fin rfl ?_
  refine sqN ?_
  refine .cond (decide (a0 = 0)) rfl (fun hc1 => ?_) (fun hc1 => ?_)
  · have h := iT h hc1
    refine .seq ?_
    refine .rgI rfl ?_
    refine .seg tabOk 0 3 [6, 7] [] (t := [(6, (vI a2)), (7, .nils)]) (h := []) (ep := 6) (by kernel_rfl) ?_
    refine .fin rfl ?_
    refine sqN ?_
    refine .pre (.nilRow 7 1 127 rfl (fresh_none rfl)) ?_
    refine .ret ?_
    refine bkR ?_
    refine sqR ?_
    injection h with h
    subst h
    exact ⟨.inr rfl, _, _, (f_cons rfl (f_cons (f_tmp rfl (o1_row E_B ([] : List Int) rfl rfl rfl rfl rfl)) f_nil)), nd_of rfl, rfl, rfl⟩
  · have h := iF h hc1
    refine .seq ?_
    refine .join (fun s' => s' = ⟨[(0, (vI a0)), (1, (vI a1)), (2, (vI a2)), (12, (.val (.bool ((decide (0 < a0)) && (decide (a0 < 256))))))], [], 8⟩) ?_ ?_
    · refine .rgI rfl ?_
      refine .seg tabOk 0 3 [0, 1, 2, 15] [] (t := [(0, (vI a0)), (1, (vI a1)), (2, (vI a2)), (15, (.val (.bool (decide (0 < a0)))))]) (h := []) (ep := 6) (by kernel_rfl) ?_
      cases hB2 : (decide (0 < a0)) with
      | false =>
        skip
        refine .seg tabOk 3 4 [0, 1, 2, 12] [] (t := [(0, (vI a0)), (1, (vI a1)), (2, (vI a2)), (12, (.val (.bool false)))]) (h := []) (ep := 7) (by kernel_rfl) ?_
        refine .fin rfl ?_
        exact jkN (by exact .tn [] ⟨rfl, rfl, rfl, rfl, trivial⟩ trivial rfl) rfl
      | true =>
        skip
        refine .seg tabOk 3 4 [0, 1, 2, 12] [] (t := [(0, (vI a0)), (1, (vI a1)), (2, (vI a2)), (12, (.val (.bool (decide (a0 < 256)))))]) (h := []) (ep := 7) (by kernel_rfl) ?_
        refine .fin rfl ?_
        exact jkN (by exact .tn [] ⟨rfl, rfl, rfl, rfl, trivial⟩ trivial rfl) rfl
    · rintro _ rfl
      refine sqN ?_
      refine .cond ((decide (0 < a0)) && (decide (a0 < 256))) rfl (fun hc3 => ?_) (fun hc3 => ?_)
      · have h := iT h hc3
        refine .seq ?_
        refine .rgI rfl ?_
        refine .seg tabOk 0 8 [6, 7] [384] (t := [(6, (vI (w64 (a1 + a2)))), (7, (.sref (384, 9) 0 ([(IntKind.wrap .u8 (a0))] : List Int).length 1))]) (h := [(384, ⟨9, .live, true, flat E_B ([(IntKind.wrap .u8 (a0))] : List Int)⟩)]) (ep := 10) (by kernel_rfl) ?_
        refine .fin rfl ?_
        refine sqN ?_
        refine .ret ?_
        refine bkR ?_
        refine sqR ?_
        injection h with h
        subst h
        exact ⟨.inr rfl, _, _, (f_cons rfl (f_cons (f_tmp rfl (o1_row E_B ([(IntKind.wrap .u8 (a0))] : List Int) rfl rfl rfl rfl rfl)) f_nil)), nd_of rfl, rfl, rfl⟩
      · have h := iF h hc3
        refine .seq ?_
        refine .join (fun s' => s' = ⟨[(0, (vI a0)), (1, (vI a1)), (25, (.val (.bool ((decide (a0 < 0)) && (decide ((-256) < a0))))))], [], 12⟩) ?_ ?_
        · refine .rgI rfl ?_
          refine .seg tabOk 0 3 [0, 1, 28] [] (t := [(0, (vI a0)), (1, (vI a1)), (28, (.val (.bool (decide (a0 < 0)))))]) (h := []) (ep := 10) (by kernel_rfl) ?_
          cases hB4 : (decide (a0 < 0)) with
          | false =>
            skip
            refine .seg tabOk 3 4 [0, 1, 25] [] (t := [(0, (vI a0)), (1, (vI a1)), (25, (.val (.bool false)))]) (h := []) (ep := 11) (by kernel_rfl) ?_
            refine .fin rfl ?_
            exact jkN (by exact .tn [] ⟨rfl, rfl, rfl, trivial⟩ trivial rfl) rfl
          | true =>
            skip
            refine .seg tabOk 3 4 [0, 1, 25] [] (t := [(0, (vI a0)), (1, (vI a1)), (25, (.val (.bool (decide ((-256) < a0)))))]) (h := []) (ep := 11) (by kernel_rfl) ?_
            refine .fin rfl ?_
            exact jkN (by exact .tn [] ⟨rfl, rfl, rfl, trivial⟩ trivial rfl) rfl
        · rintro _ rfl
          refine sqN ?_
          refine .cond ((decide (a0 < 0)) && (decide ((-256) < a0))) rfl (fun hc5 => ?_) (fun hc5 => ?_)
          · have h := iT h hc5
            refine .seq ?_
            refine .rgI rfl ?_
            refine .seg tabOk 0 7 [6, 7] [576] (t := [(6, (vI a1)), (7, (.sref (576, 13) 0 ([(IntKind.wrap .u8 ((w64 (0 - a0))))] : List Int).length 1))]) (h := [(576, ⟨13, .live, true, flat E_B ([(IntKind.wrap .u8 ((w64 (0 - a0))))] : List Int)⟩)]) (ep := 14) (by kernel_rfl) ?_
            refine .fin rfl ?_
            refine sqN ?_
            refine .ret ?_
            refine bkR ?_
            refine sqR ?_
            injection h with h
            subst h
            exact ⟨.inr rfl, _, _, (f_cons rfl (f_cons (f_tmp rfl (o1_row E_B ([(IntKind.wrap .u8 ((w64 (0 - a0))))] : List Int) rfl rfl rfl rfl rfl)) f_nil)), nd_of rfl, rfl, rfl⟩
          · have h := iF h hc5
            refine .skip ?_
            refine bkN ?_
            refine sqN ?_
            refine .seq ?_
            refine .rgI rfl ?_
            refine .seg tabOk 0 1 [37] [] (t := [(37, (vI a0))]) (h := []) (ep := 14) (by kernel_rfl) ?_
            obtain ⟨v6, hv6, h⟩ := bS h
            refine .cc true rfl rfl (C_r02_Put _ _ _ _ hv6) ent_r02_Put rfl rfl rfl rfl (g_cons (g_pl rfl rfl) (g_cons (g_pl rfl rfl) g_nil)) rfl ?_
            refine .seg tabOk 2 2 [6, 7] [608] (t := [(6, (vI 0)), (7, (.sref (608, 14) 0 v6.length 1))]) (h := [(608, ⟨14, .live, true, flat E_B v6⟩)]) (ep := 15) (by kernel_rfl) ?_
            refine .fin rfl ?_
            refine sqN ?_
            refine .ret ?_
            injection h with h
            subst h
            exact ⟨.inr rfl, _, _, (f_cons rfl (f_cons (f_tmp rfl (o1_row E_B v6 rfl rfl rfl rfl rfl)) f_nil)), nd_of rfl, rfl, rfl⟩
abbrev R_r07_Write := (List Int) × Int
def L_r07_Write_0 (a0 : T_SLLSiibeLBe) (j3 : Unit → Option R_r07_Write) : Nat → Int → Option R_r07_Write
  | 0, _ => none
  | n + 1, y4 =>
    if (decide (y4 < (a0.f0.length : Int))) then
      gd (0 ≤ y4 ∧ y4 < a0.f0.length) <|
      if (decide (((nth E_LSiibe a0.f0 y4).length : Int) = 0)) then
        some (([] : List Int), 4)
      else
      L_r07_Write_0 a0 j3 n (w64 (y4 + 1))
    else
    j3 ()
def L_r07_Write_1 (a0 : T_SLLSiibeLBe) (j8 : Unit → Option R_r07_Write) : Nat → Int → Int → Option R_r07_Write
  | 0, _, _ => none
  | n + 1, y9, y10 =>
    if (decide (y10 < (a0.f0.length : Int))) then
      gd (0 ≤ y10 ∧ y10 < a0.f0.length) <|
      if (decide (4096 < (w64 (y9 + ((nth E_LSiibe a0.f0 y10).length : Int))))) then
        some (([] : List Int), 7)
      else
      L_r07_Write_1 a0 j8 n (w64 (y9 + ((nth E_LSiibe a0.f0 y10).length : Int))) (w64 (y10 + 1))
    else
    j8 ()
def L_r07_Write_3 (a0 : T_SLLSiibeLBe) (y22 : Int) (j27 : (List Int) → (List Int) → (List Int) → Int → Int → Option R_r07_Write) : Nat → (List Int) → (List Int) → (List Int) → Int → Int → Int → Option R_r07_Write
  | 0, _, _, _, _, _, _ => none
  | n + 1, y28, y29, y30, y31, y32, y33 =>
    if (decide (y32 < ((nth E_LSiibe a0.f0 y22).length : Int))) then
      gd (0 ≤ y32 ∧ y32 < (nth E_LSiibe a0.f0 y22).length) <|
      lj (fun (x43 : Bool) =>
        if x43 then
          some (([] : List Int), 6)
        else
        Option.bind (F_r07_step n (w64 ((nth E_Siibe (nth E_LSiibe a0.f0 y22) y32).f0 - y33)) 2 16) fun v46 =>
        Option.bind (F_r07_step n (w64 ((nth E_Siibe (nth E_LSiibe a0.f0 y22) y32).f1 - y31)) 4 32) fun v47 =>
        gd (fits (y28.length + ([(w64 ((if (nth E_Siibe (nth E_LSiibe a0.f0 y22) y32).f2 then (w64 (v46.1 + 1)) else v46.1) + v47.1))] : List Int).length) 8 = true) <|
        gd (fits (y29.length + v46.2.length) 1 = true) <|
        gd (fits (y30.length + v47.2.length) 1 = true) <|
        L_r07_Write_3 a0 y22 j27 n (y28 ++ ([(w64 ((if (nth E_Siibe (nth E_LSiibe a0.f0 y22) y32).f2 then (w64 (v46.1 + 1)) else v46.1) + v47.1))] : List Int)) (y29 ++ v46.2) (y30 ++ v47.2) (nth E_Siibe (nth E_LSiibe a0.f0 y22) y32).f1 (w64 (y32 + 1)) (nth E_Siibe (nth E_LSiibe a0.f0 y22) y32).f0) fun j44 =>
      Option.bind (F_r07_short n (nth E_Siibe (nth E_LSiibe a0.f0 y22) y32).f0) fun v36 =>
      if (!v36) then
        j44 true
      else
      Option.bind (F_r07_short n (nth E_Siibe (nth E_LSiibe a0.f0 y22) y32).f1) fun v38 =>
      if (!v38) then
        j44 true
      else
      Option.bind (F_r07_short n (w64 ((nth E_Siibe (nth E_LSiibe a0.f0 y22) y32).f0 - y33))) fun v40 =>
      if (!v40) then
        j44 true
      else
      Option.bind (F_r07_short n (w64 ((nth E_Siibe (nth E_LSiibe a0.f0 y22) y32).f1 - y31))) fun v42 =>
      j44 (!v42)
    else
    j27 y28 y29 y30 y31 y33
def L_r07_Write_2 (a0 : T_SLLSiibeLBe) (j15 : (List Int) → (List Int) → (List Int) → (List Int) → Option R_r07_Write) : Nat → (List Int) → (List Int) → (List Int) → (List Int) → Int → Int → Int → Int → Option R_r07_Write
  | 0, _, _, _, _, _, _, _, _ => none
  | n + 1, y16, y17, y18, y19, y20, y21, y22, y23 =>
    if (decide (y22 < (a0.f0.length : Int))) then
      lj (fun (x59 : (List Int)) (x60 : (List Int)) (x61 : (List Int)) (x62 : (List Int)) (x63 : Int) (x64 : Int) =>
        L_r07_Write_2 a0 j15 n x59 x60 x61 x62 x63 (w64 (y21 + ((nth E_LSiibe a0.f0 y22).length : Int))) (w64 (y22 + 1)) x64) fun j25 =>
      gd (0 ≤ y22 ∧ y22 < a0.f0.length) <|
      lj (fun (x52 : (List Int)) (x53 : (List Int)) (x54 : (List Int)) (x55 : Int) (x56 : Int) =>
        Option.bind (F_r02_Put n (w64 ((w64 (y21 + ((nth E_LSiibe a0.f0 y22).length : Int))) - 1)) 2) fun v57 =>
        gd (fits (y19.length + v57.length) 1 = true) <|
        j25 x52 x53 x54 (y19 ++ v57) x55 x56) fun j27 =>
      L_r07_Write_3 a0 y22 j27 n y16 y17 y18 y20 0 y23
    else
    j15 y16 y17 y18 y19
def L_r07_Write_4 (v69 : R_r07_Box) (j71 : (List Int) → Option R_r07_Write) : Nat → (List Int) → Int → Option R_r07_Write
  | 0, _, _ => none
  | n + 1, y72, y73 =>
    if (decide (y73 < 4)) then
      gd (0 ≤ y73 ∧ y73 < 4) <|
      Option.bind (F_r02_Put n (nth E_i ([v69.1.f0, v69.1.f1, v69.2.f0, v69.2.f1] : List Int) y73) 2) fun v76 =>
      gd (fits (y72.length + v76.length) 1 = true) <|
      L_r07_Write_4 v69 j71 n (y72 ++ v76) (w64 (y73 + 1))
    else
    j71 y72
def L_r07_Write_6 (x65 : (List Int)) (y85 : Int) (j88 : Int → Option R_r07_Write) : Nat → Int → Option R_r07_Write
  | 0, _ => none
  | n + 1, y89 =>
    lj (fun (x94 : Bool) =>
      if x94 then
        L_r07_Write_6 x65 y85 j88 n (w64 (y89 + 1))
      else
      j88 y89) fun j95 =>
    if (decide ((w64 (y85 + y89)) < (x65.length : Int))) then
      gd (0 ≤ (w64 (y85 + y89)) ∧ (w64 (y85 + y89)) < x65.length) <|
      gd (0 ≤ y85 ∧ y85 < x65.length) <|
      if (decide ((nth E_i x65 (w64 (y85 + y89))) = (nth E_i x65 y85))) then
        j95 (decide (y89 < 256))
      else
      j95 false
    else
    j95 false
def L_r07_Write_5 (x65 : (List Int)) (j83 : (List Int) → Option R_r07_Write) : Nat → (List Int) → Int → Option R_r07_Write
  | 0, _, _ => none
  | n + 1, y84, y85 =>
    if (decide (y85 < (x65.length : Int))) then
      lj (fun (x105 : (List Int)) (x106 : Int) =>
        L_r07_Write_5 x65 j83 n x105 x106) fun j87 =>
      lj (fun (x97 : Int) =>
        lj (fun (x103 : (List Int)) =>
          j87 x103 (w64 (y85 + x97))) fun j104 =>
        if (decide (1 < x97)) then
          gd (0 ≤ y85 ∧ y85 < x65.length) <|
          gd (fits (y84.length + ([(IntKind.wrap .u8 ((w64 ((nth E_i x65 y85) + 8)))), (IntKind.wrap .u8 ((w64 (x97 - 1))))] : List Int).length) 1 = true) <|
          j104 (y84 ++ ([(IntKind.wrap .u8 ((w64 ((nth E_i x65 y85) + 8)))), (IntKind.wrap .u8 ((w64 (x97 - 1))))] : List Int))
        else
        gd (0 ≤ y85 ∧ y85 < x65.length) <|
        gd (fits (y84.length + ([(IntKind.wrap .u8 ((nth E_i x65 y85)))] : List Int).length) 1 = true) <|
        j104 (y84 ++ ([(IntKind.wrap .u8 ((nth E_i x65 y85)))] : List Int))) fun j88 =>
      L_r07_Write_6 x65 y85 j88 n 1
    else
    j83 y84
def F_r07_Write (n : Nat) (a0 : T_SLLSiibeLBe) : Option R_r07_Write :=
  if (decide ((a0.f0.length : Int) = 0)) then
    if (decide (0 < (a0.f1.length : Int))) then
      some (([] : List Int), 4)
    else
    some (([] : List Int), 0)
  else
  lj (fun (_ : Unit) =>
    lj (fun (_ : Unit) =>
      if (decide (65535 < (a0.f1.length : Int))) then
        some (([] : List Int), 7)
      else
      lj (fun (x65 : (List Int)) (x66 : (List Int)) (x67 : (List Int)) (x68 : (List Int)) =>
        Option.bind (F_r07_Box n a0.f0) fun v69 =>
        Option.bind (F_r02_Put n (a0.f0.length : Int) 2) fun v70 =>
        lj (fun (x78 : (List Int)) =>
          gd (fits (x78.length + x68.length) 1 = true) <|
          Option.bind (F_r02_Put n (a0.f1.length : Int) 2) fun v80 =>
          gd (fits ((x78 ++ x68).length + v80.length) 1 = true) <|
          gd (fits (((x78 ++ x68) ++ v80).length + a0.f1.length) 1 = true) <|
          lj (fun (x107 : (List Int)) =>
            gd (fits (x107.length + x66.length) 1 = true) <|
            gd (fits ((x107 ++ x66).length + x67.length) 1 = true) <|
            some (((x107 ++ x66) ++ x67), 0)) fun j83 =>
          L_r07_Write_5 x65 j83 n (((x78 ++ x68) ++ v80) ++ a0.f1) 0) fun j71 =>
        L_r07_Write_4 v69 j71 n v70 0) fun j15 =>
      L_r07_Write_2 a0 j15 n ([] : List Int) ([] : List Int) ([] : List Int) ([] : List Int) 0 0 0 0) fun j8 =>
    L_r07_Write_1 a0 j8 n 0 0) fun j3 =>
  L_r07_Write_0 a0 j3 n 0
abbrev q29_0 (a0 : T_SLLSiibeLBe) : Nat × Ob := (16, ⟨1, .live, false, [(.ro 1 a0.f0.length (flat E_LSiibe a0.f0)), (.ro 1 a0.f1.length (flat E_B a0.f1))]⟩)
abbrev q29_1 (x67 : (List Int)) : Nat × V := (13, (.sref (223, 33) 0 x67.length 1))
abbrev q29_2 (x67 : (List Int)) : Nat × Ob := (223, ⟨33, .live, true, flat E_B x67⟩)
abbrev q29_3 (x66 : (List Int)) : Nat × V := (12, (.sref (207, 33) 0 x66.length 1))
abbrev q29_4 (x66 : (List Int)) : Nat × Ob := (207, ⟨33, .live, true, flat E_B x66⟩)
abbrev q29_5 (a0 : T_SLLSiibeLBe) : Nat × V := (68, (.ro 1 a0.f0.length (flat E_LSiibe a0.f0)))
abbrev q29_6 (x65 : (List Int)) : Nat × V := (11, (.sref (191, 33) 0 x65.length 1))
abbrev q29_7 (x65 : (List Int)) : Nat × Ob := (191, ⟨33, .live, true, flat E_i x65⟩)
abbrev q29_8 (a0 : T_SLLSiibeLBe) : Nat × V := (69, (vI (a0.f0.length : Int)))
abbrev q29_9 (x68 : (List Int)) : Nat × Ob := (239, ⟨33, .live, true, flat E_B x68⟩)
abbrev q29_10 (v69 : R_r07_Box) : Nat × V := (171, (.agg [(vI v69.1.f0), (vI v69.1.f1), (vI v69.2.f0), (vI v69.2.f1)]))
abbrev q29_11 (x68 : (List Int)) : Nat × V := (14, (.sref (239, 33) 0 x68.length 1))
abbrev q29_12 (v46 : R_r07_step) : Nat × Ob := (1776, ⟨54, .live, true, flat E_B v46.2⟩)
abbrev q29_13 (v46 : R_r07_step) : Nat × V := (20, (.sref (1776, 54) 0 v46.2.length 1))
abbrev q29_14 (a0 : T_SLLSiibeLBe) : Nat × V := (50, (.ro 1 a0.f0.length (flat E_LSiibe a0.f0)))
abbrev q29_15 (a0 : T_SLLSiibeLBe) : Nat × V := (39, (.ro 1 a0.f0.length (flat E_LSiibe a0.f0)))
abbrev q29_16 (a0 : T_SLLSiibeLBe) : Nat × V := (51, (vI (a0.f0.length : Int)))
abbrev q29_17 (a0 : T_SLLSiibeLBe) : Nat × V := (40, (vI (a0.f0.length : Int)))
abbrev q29_18 (v69 : R_r07_Box) : Nat × Ob := (368, ⟨36, .live, false, [(vI v69.1.f0), (vI v69.1.f1)]⟩)
abbrev q29_19 (v69 : R_r07_Box) : Nat × Ob := (384, ⟨36, .live, false, [(vI v69.2.f0), (vI v69.2.f1)]⟩)
abbrev q29_20 (x52 : (List Int)) : Nat × V := (11, (.sref (191, 30) 0 x52.length 1))
abbrev q29_21 (x52 : (List Int)) : Nat × Ob := (191, ⟨30, .live, true, flat E_i x52⟩)
abbrev q29_22 : Nat × V := (219, (.val (.bool false)))
theorem C_r07_Write (n : Nat) (a0 : T_SLLSiibeLBe) (r : R_r07_Write) (h : F_r07_Write n a0 = some r) : CallS Try.prog 29 [(.agg [(.ro 1 a0.f0.length (flat E_LSiibe a0.f0)), (.ro 1 a0.f1.length (flat E_B a0.f1))])] (.tup [(.own 1 r.1.length (flat E_B r.1)), (vI r.2)]) [none] := by
  refine CallS.introK tabOk Try.func29 rfl Try.ntmps29 (Nat.le_of_ble_eq_true rfl) ?_
  rw [F_r07_Write] at h
  refine .seq ?_
  refine .rgI rfl ?_
  refine .seg tabOk 0 3 [1] [16] (t := [(1, (.ptr (16, 1) 0))]) (h := [(q29_0 a0)]) (ep := 2) (by kernel_rfl) ?_
  refine .fin rfl ?_
  refine sqN ?_
  refine .seq ?_
  refine .seq ?_
  refine .rgI rfl ?_
  refine .seg tabOk 0 4 [1, 33] [16] (t := [(1, (.ptr (16, 1) 0)), (33, (.val (.bool (decide ((a0.f0.length : Int) = 0)))))]) (h := [(q29_0 a0)]) (ep := 4) (by kernel_rfl) ?_
  refine .fin rfl ?_
  refine sqN ?_
  refine .cond (decide ((a0.f0.length : Int) = 0)) rfl (fun hc1 => ?_) (fun hc1 => ?_)
  · have h := iT h hc1
    refine .seq ?_
    refine .seq ?_
    refine .rgI rfl ?_
    refine .seg tabOk 0 4 [37] [] (t := [(37, (.val (.bool (decide (0 < (a0.f1.length : Int))))))]) (h := []) (ep := 6) (by kernel_rfl) ?_
    refine .fin rfl ?_
    refine sqN ?_
    refine .cond (decide (0 < (a0.f1.length : Int))) rfl (fun hc2 => ?_) (fun hc2 => ?_)
    · have h := iT h hc2
      refine .seq ?_
      refine .rgI rfl ?_
      refine .seg tabOk 0 2 [2, 3] [] (t := [(2, .nils), (3, (vI 4))]) (h := []) (ep := 8) (by kernel_rfl) ?_
      refine .fin rfl ?_
      refine sqN ?_
      refine .pre (.nilRow 2 1 47 rfl (fresh_none rfl)) ?_
      refine .ret ?_
      refine sqR ?_
      refine sqR ?_
      injection h with h
      subst h
      exact ⟨.inr rfl, _, _, (f_cons (f_tmp rfl (o1_row E_B ([] : List Int) rfl rfl rfl rfl rfl)) (f_cons rfl f_nil)), nd_of rfl, rfl, rfl⟩
    · have h := iF h hc2
      refine .skip ?_
      refine sqN ?_
      refine .seq ?_
      refine .rgI rfl ?_
      refine .seg tabOk 0 2 [2, 3] [] (t := [(2, .nils), (3, (vI 0))]) (h := []) (ep := 8) (by kernel_rfl) ?_
      refine .fin rfl ?_
      refine sqN ?_
      refine .pre (.nilRow 2 1 47 rfl (fresh_none rfl)) ?_
      refine .ret ?_
      refine sqR ?_
      injection h with h
      subst h
      exact ⟨.inr rfl, _, _, (f_cons (f_tmp rfl (o1_row E_B ([] : List Int) rfl rfl rfl rfl rfl)) (f_cons rfl f_nil)), nd_of rfl, rfl, rfl⟩
  · have h := iF h hc1
    refine .skip ?_
    refine sqN ?_
    refine .seq ?_
    refine .rgI rfl ?_
    refine .seg tabOk 0 1 [1, 4] [16] (t := [(1, (.ptr (16, 1) 0)), (4, (vI 0))]) (h := [(q29_0 a0)]) (ep := 6) (by kernel_rfl) ?_
    refine .fin rfl ?_
    refine sqN ?_
    refine .seq ?_
    refine .seq ?_
    refine .rgI rfl ?_
    refine .seg tabOk 0 4 [1, 4, 39, 40, 41] [16] (t := [(1, (.ptr (16, 1) 0)), (4, (vI 0)), (q29_15 a0), (q29_17 a0), (41, (vI 0))]) (h := [(q29_0 a0)]) (ep := 8) (by kernel_rfl) ?_
    refine .fin rfl ?_
    refine sqN ?_
    obtain ⟨j3, hj3, h⟩ := ljS h
    refine .join (fun s' => s' = ⟨[(1, (.ptr (16, 1) 0)), (4, (vI 0))], [(q29_0 a0)], 12⟩ ∧ j3 () = some r) ?_ ?_
    · refine .block ?_
      refine .loopF (β := Int) (fun v => ⟨[(1, (.ptr (16, 1) 0)), (4, (vI 0)), (q29_15 a0), (q29_17 a0), (41, (vI v))], [(q29_0 a0)], 9⟩) (fun m v => L_r07_Write_0 a0 j3 m v = some r) n 0 (by exact .tn [((16, 1), (16, 1))] ⟨rfl, rfl, rfl, rfl, rfl, trivial⟩ ⟨rfl, ⟨_, rfl, rfl⟩, trivial⟩ rfl) h ?_
      rintro m y4 h
      cases m with
      | zero => exact nomatch h
      | succ n =>
        rw [L_r07_Write_0] at h
        refine .seq ?_
        refine .rgI rfl ?_
        refine .seg tabOk 0 1 [1, 4, 39, 40, 41, 42] [16] (t := [(1, (.ptr (16, 1) 0)), (4, (vI 0)), (q29_15 a0), (q29_17 a0), (41, (vI y4)), (42, (.val (.bool (decide (y4 < (a0.f0.length : Int))))))]) (h := [(q29_0 a0)]) (ep := 11) (by kernel_rfl) ?_
        refine .fin rfl ?_
        refine sqN ?_
        refine .seq ?_
        refine .cond (decide (y4 < (a0.f0.length : Int))) rfl (fun hc5 => ?_) (fun hc5 => ?_)
        · have h := iT h hc5
          refine .skip ?_
          refine sqN ?_
          refine .seq ?_
          refine .block ?_
          refine .seq ?_
          refine .rgI rfl ?_
          obtain ⟨hb6, h⟩ := gS h
          refine .o tabOk rfl rfl rfl (q_idx E_LSiibe rfl rfl rfl rfl rfl rfl hb6) ?_
          refine .o tabOk rfl rfl rfl (q_ld0 E_LSiibe rfl rfl rfl hb6 rfl) ?_
          refine .seg tabOk 2 1 [1, 4, 6, 39, 40, 41] [16] (t := [(1, (.ptr (16, 1) 0)), (4, (vI 0)), (6, (.ro 3 (nth E_LSiibe a0.f0 y4).length (flat E_Siibe (nth E_LSiibe a0.f0 y4)))), (q29_15 a0), (q29_17 a0), (41, (vI y4))]) (h := [(q29_0 a0)]) (ep := 13) (by kernel_rfl) ?_
          refine .fin rfl ?_
          refine sqN ?_
          refine .seq ?_
          refine .rgI rfl ?_
          refine .seg tabOk 0 3 [1, 4, 39, 40, 41, 47] [16] (t := [(1, (.ptr (16, 1) 0)), (4, (vI 0)), (q29_15 a0), (q29_17 a0), (41, (vI y4)), (47, (.val (.bool (decide (((nth E_LSiibe a0.f0 y4).length : Int) = 0)))))]) (h := [(q29_0 a0)]) (ep := 15) (by kernel_rfl) ?_
          refine .fin rfl ?_
          refine sqN ?_
          refine .cond (decide (((nth E_LSiibe a0.f0 y4).length : Int) = 0)) rfl (fun hc7 => ?_) (fun hc7 => ?_)
          · have h := iT h hc7
            refine .seq ?_
            refine .rgI rfl ?_
            refine .seg tabOk 0 2 [2, 3] [] (t := [(2, .nils), (3, (vI 4))]) (h := []) (ep := 17) (by kernel_rfl) ?_
            refine .fin rfl ?_
            refine sqN ?_
            refine .pre (.nilRow 2 1 47 rfl (fresh_none rfl)) ?_
            refine .ret ?_
            refine bkR ?_
            refine sqR ?_
            refine jkR ?_
            refine bkR ?_
            refine jkR ?_
            refine sqR ?_
            injection h with h
            subst h
            exact ⟨.inr rfl, _, _, (f_cons (f_tmp rfl (o1_row E_B ([] : List Int) rfl rfl rfl rfl rfl)) (f_cons rfl f_nil)), nd_of rfl, rfl, rfl⟩
          · have h := iF h hc7
            refine .skip ?_
            refine bkN ?_
            refine sqN ?_
            refine .rgI rfl ?_
            refine .seg tabOk 0 2 [1, 4, 39, 40, 41] [16] (t := [(1, (.ptr (16, 1) 0)), (4, (vI 0)), (q29_15 a0), (q29_17 a0), (41, (vI (w64 (y4 + 1))))]) (h := [(q29_0 a0)]) (ep := 17) (by kernel_rfl) ?_
            refine .fin rfl ?_
            exact jkN (by exact .tn [((16, 1), (16, 1))] ⟨rfl, rfl, rfl, rfl, rfl, trivial⟩ ⟨rfl, ⟨_, rfl, rfl⟩, trivial⟩ rfl) ⟨n, (w64 (y4 + 1)), Nat.lt_succ_self n, rfl, h⟩
        · have h := iF h hc5
          refine .exit ?_
          refine sqX ?_
          refine jkX ?_
          refine bkE ?_
          exact jkN (by exact .tn [((16, 1), (16, 1))] ⟨rfl, rfl, trivial⟩ ⟨rfl, ⟨_, rfl, rfl⟩, trivial⟩ rfl) ⟨rfl, h⟩
    · rintro _ ⟨rfl, h⟩
      subst hj3
      refine sqN ?_
      refine .seq ?_
      refine .seq ?_
      refine .rgI rfl ?_
      refine .seg tabOk 0 4 [1, 4, 50, 51, 52] [16] (t := [(1, (.ptr (16, 1) 0)), (4, (vI 0)), (q29_14 a0), (q29_16 a0), (52, (vI 0))]) (h := [(q29_0 a0)]) (ep := 14) (by kernel_rfl) ?_
      refine .fin rfl ?_
      refine sqN ?_
      obtain ⟨j8, hj8, h⟩ := ljS h
      refine .join (fun s' => s' = ⟨[(1, (.ptr (16, 1) 0))], [(q29_0 a0)], 18⟩ ∧ j8 () = some r) ?_ ?_
      · refine .block ?_
        refine .loopF (β := Int × Int) (fun v => ⟨[(1, (.ptr (16, 1) 0)), (4, (vI v.1)), (q29_14 a0), (q29_16 a0), (52, (vI v.2))], [(q29_0 a0)], 15⟩) (fun m v => L_r07_Write_1 a0 j8 m v.1 v.2 = some r) n (0, 0) (by exact .tn [((16, 1), (16, 1))] ⟨rfl, rfl, rfl, rfl, rfl, trivial⟩ ⟨rfl, ⟨_, rfl, rfl⟩, trivial⟩ rfl) h ?_
        rintro m ⟨y9, y10⟩ h
        cases m with
        | zero => exact nomatch h
        | succ n =>
          rw [L_r07_Write_1] at h
          refine .seq ?_
          refine .rgI rfl ?_
          refine .seg tabOk 0 1 [1, 4, 50, 51, 52, 53] [16] (t := [(1, (.ptr (16, 1) 0)), (4, (vI y9)), (q29_14 a0), (q29_16 a0), (52, (vI y10)), (53, (.val (.bool (decide (y10 < (a0.f0.length : Int))))))]) (h := [(q29_0 a0)]) (ep := 17) (by kernel_rfl) ?_
          refine .fin rfl ?_
          refine sqN ?_
          refine .seq ?_
          refine .cond (decide (y10 < (a0.f0.length : Int))) rfl (fun hc11 => ?_) (fun hc11 => ?_)
          · have h := iT h hc11
            refine .skip ?_
            refine sqN ?_
            refine .seq ?_
            refine .block ?_
            refine .seq ?_
            refine .rgI rfl ?_
            obtain ⟨hb12, h⟩ := gS h
            refine .o tabOk rfl rfl rfl (q_idx E_LSiibe rfl rfl rfl rfl rfl rfl hb12) ?_
            refine .o tabOk rfl rfl rfl (q_ld0 E_LSiibe rfl rfl rfl hb12 rfl) ?_
            refine .seg tabOk 2 1 [1, 4, 8, 50, 51, 52] [16] (t := [(1, (.ptr (16, 1) 0)), (4, (vI y9)), (8, (.ro 3 (nth E_LSiibe a0.f0 y10).length (flat E_Siibe (nth E_LSiibe a0.f0 y10)))), (q29_14 a0), (q29_16 a0), (52, (vI y10))]) (h := [(q29_0 a0)]) (ep := 19) (by kernel_rfl) ?_
            refine .fin rfl ?_
            refine sqN ?_
            refine .seq ?_
            refine .rgI rfl ?_
            refine .seg tabOk 0 5 [1, 4, 50, 51, 52] [16] (t := [(1, (.ptr (16, 1) 0)), (4, (vI (w64 (y9 + ((nth E_LSiibe a0.f0 y10).length : Int))))), (q29_14 a0), (q29_16 a0), (52, (vI y10))]) (h := [(q29_0 a0)]) (ep := 21) (by kernel_rfl) ?_
            refine .fin rfl ?_
            refine sqN ?_
            refine .seq ?_
            refine .rgI rfl ?_
            refine .seg tabOk 0 2 [1, 4, 50, 51, 52, 61] [16] (t := [(1, (.ptr (16, 1) 0)), (4, (vI (w64 (y9 + ((nth E_LSiibe a0.f0 y10).length : Int))))), (q29_14 a0), (q29_16 a0), (52, (vI y10)), (61, (.val (.bool (decide (4096 < (w64 (y9 + ((nth E_LSiibe a0.f0 y10).length : Int))))))))]) (h := [(q29_0 a0)]) (ep := 23) (by kernel_rfl) ?_
            refine .fin rfl ?_
            refine sqN ?_
            refine .cond (decide (4096 < (w64 (y9 + ((nth E_LSiibe a0.f0 y10).length : Int))))) rfl (fun hc13 => ?_) (fun hc13 => ?_)
            · have h := iT h hc13
              refine .seq ?_
              refine .rgI rfl ?_
              refine .seg tabOk 0 2 [2, 3] [] (t := [(2, .nils), (3, (vI 7))]) (h := []) (ep := 25) (by kernel_rfl) ?_
              refine .fin rfl ?_
              refine sqN ?_
              refine .pre (.nilRow 2 1 47 rfl (fresh_none rfl)) ?_
              refine .ret ?_
              refine bkR ?_
              refine sqR ?_
              refine jkR ?_
              refine bkR ?_
              refine jkR ?_
              refine sqR ?_
              injection h with h
              subst h
              exact ⟨.inr rfl, _, _, (f_cons (f_tmp rfl (o1_row E_B ([] : List Int) rfl rfl rfl rfl rfl)) (f_cons rfl f_nil)), nd_of rfl, rfl, rfl⟩
            · have h := iF h hc13
              refine .skip ?_
              refine bkN ?_
              refine sqN ?_
              refine .rgI rfl ?_
              refine .seg tabOk 0 2 [1, 4, 50, 51, 52] [16] (t := [(1, (.ptr (16, 1) 0)), (4, (vI (w64 (y9 + ((nth E_LSiibe a0.f0 y10).length : Int))))), (q29_14 a0), (q29_16 a0), (52, (vI (w64 (y10 + 1))))]) (h := [(q29_0 a0)]) (ep := 25) (by kernel_rfl) ?_
              refine .fin rfl ?_
              exact jkN (by exact .tn [((16, 1), (16, 1))] ⟨rfl, rfl, rfl, rfl, rfl, trivial⟩ ⟨rfl, ⟨_, rfl, rfl⟩, trivial⟩ rfl) ⟨n, ((w64 (y9 + ((nth E_LSiibe a0.f0 y10).length : Int))), (w64 (y10 + 1))), Nat.lt_succ_self n, rfl, h⟩
          · have h := iF h hc11
            refine .exit ?_
            refine sqX ?_
            refine jkX ?_
            refine bkE ?_
            exact jkN (by exact .tn [((16, 1), (16, 1))] ⟨rfl, trivial⟩ ⟨rfl, ⟨_, rfl, rfl⟩, trivial⟩ rfl) ⟨rfl, h⟩
      · rintro _ ⟨rfl, h⟩
        subst hj8
        refine sqN ?_
        refine .seq ?_
        refine .seq ?_
        refine .rgI rfl ?_
        refine .seg tabOk 0 4 [1, 66] [16] (t := [(1, (.ptr (16, 1) 0)), (66, (.val (.bool (decide (65535 < (a0.f1.length : Int))))))]) (h := [(q29_0 a0)]) (ep := 20) (by kernel_rfl) ?_
        refine .fin rfl ?_
        refine sqN ?_
        refine .cond (decide (65535 < (a0.f1.length : Int))) rfl (fun hc14 => ?_) (fun hc14 => ?_)
        · have h := iT h hc14
          refine .seq ?_
          refine .rgI rfl ?_
          refine .seg tabOk 0 2 [2, 3] [] (t := [(2, .nils), (3, (vI 7))]) (h := []) (ep := 22) (by kernel_rfl) ?_
          refine .fin rfl ?_
          refine sqN ?_
          refine .pre (.nilRow 2 1 47 rfl (fresh_none rfl)) ?_
          refine .ret ?_
          refine sqR ?_
          injection h with h
          subst h
          exact ⟨.inr rfl, _, _, (f_cons (f_tmp rfl (o1_row E_B ([] : List Int) rfl rfl rfl rfl rfl)) (f_cons rfl f_nil)), nd_of rfl, rfl, rfl⟩
        · have h := iF h hc14
          refine .skip ?_
          refine sqN ?_
          refine .seq ?_
          refine .rgI rfl ?_
          refine .seg tabOk 0 2 [1, 9, 10] [16] (t := [(1, (.ptr (16, 1) 0)), (9, (vI 0)), (10, (vI 0))]) (h := [(q29_0 a0)]) (ep := 22) (by kernel_rfl) ?_
          refine .fin rfl ?_
          refine sqN ?_
          refine .seq ?_
          refine .rgI rfl ?_
          refine .seg tabOk 0 1 [1, 9, 10, 11] [16] (t := [(1, (.ptr (16, 1) 0)), (9, (vI 0)), (10, (vI 0)), (11, .nils)]) (h := [(q29_0 a0)]) (ep := 24) (by kernel_rfl) ?_
          refine .fin rfl ?_
          refine sqN ?_
          refine .seq ?_
          refine .rgI rfl ?_
          refine .seg tabOk 0 3 [1, 9, 10, 11, 12, 13, 14] [16] (t := [(1, (.ptr (16, 1) 0)), (9, (vI 0)), (10, (vI 0)), (11, .nils), (12, .nils), (13, .nils), (14, .nils)]) (h := [(q29_0 a0)]) (ep := 26) (by kernel_rfl) ?_
          refine .fin rfl ?_
          refine sqN ?_
          refine .seq ?_
          refine .rgI rfl ?_
          refine .seg tabOk 0 1 [1, 4, 9, 10, 11, 12, 13, 14] [16] (t := [(1, (.ptr (16, 1) 0)), (4, (vI 0)), (9, (vI 0)), (10, (vI 0)), (11, .nils), (12, .nils), (13, .nils), (14, .nils)]) (h := [(q29_0 a0)]) (ep := 28) (by kernel_rfl) ?_
          refine .fin rfl ?_
          refine sqN ?_
          refine .seq ?_
          refine .seq ?_
          refine .rgI rfl ?_
          refine .seg tabOk 0 4 [1, 4, 9, 10, 11, 12, 13, 14, 68, 69, 70] [16] (t := [(1, (.ptr (16, 1) 0)), (4, (vI 0)), (9, (vI 0)), (10, (vI 0)), (11, .nils), (12, .nils), (13, .nils), (14, .nils), (q29_5 a0), (q29_8 a0), (70, (vI 0))]) (h := [(q29_0 a0)]) (ep := 30) (by kernel_rfl) ?_
          refine .fin rfl ?_
          refine sqN ?_
          obtain ⟨j15, hj15, h⟩ := ljS h
          refine .join (fun s' => ∃ x65 x66 x67 x68, s' = ⟨[(1, (.ptr (16, 1) 0)), (q29_6 x65), (q29_3 x66), (q29_1 x67), (q29_11 x68)], [(q29_0 a0), (q29_7 x65), (q29_4 x66), (q29_2 x67), (q29_9 x68)], 34⟩ ∧ j15 x65 x66 x67 x68 = some r) ?_ ?_
          · refine .block ?_
            refine .loopF (β := (List Int) × (List Int) × (List Int) × (List Int) × Int × Int × Int × Int) (fun v => ⟨[(1, (.ptr (16, 1) 0)), (4, (vI v.2.2.2.2.2.1)), (9, (vI v.2.2.2.2.2.2.2)), (10, (vI v.2.2.2.2.1)), (11, (.sref (191, 30) 0 v.1.length 1)), (12, (.sref (207, 30) 0 v.2.1.length 1)), (13, (.sref (223, 30) 0 v.2.2.1.length 1)), (14, (.sref (239, 30) 0 v.2.2.2.1.length 1)), (q29_5 a0), (q29_8 a0), (70, (vI v.2.2.2.2.2.2.1))], [(q29_0 a0), (191, ⟨30, .live, true, flat E_i v.1⟩), (207, ⟨30, .live, true, flat E_B v.2.1⟩), (223, ⟨30, .live, true, flat E_B v.2.2.1⟩), (239, ⟨30, .live, true, flat E_B v.2.2.2.1⟩)], 31⟩) (fun m v => L_r07_Write_2 a0 j15 m v.1 v.2.1 v.2.2.1 v.2.2.2.1 v.2.2.2.2.1 v.2.2.2.2.2.1 v.2.2.2.2.2.2.1 v.2.2.2.2.2.2.2 = some r) n (([] : List Int), ([] : List Int), ([] : List Int), ([] : List Int), 0, 0, 0, 0) (by exact .trans (.nilRow 11 1 191 rfl (fresh_none rfl)) (.trans (.nilRow 12 1 207 rfl (fresh_none rfl)) (.trans (.nilRow 13 1 223 rfl (fresh_none rfl)) (.trans (.nilRow 14 1 239 rfl (fresh_none rfl)) (.tn [((16, 1), (16, 1)), ((191, 30), (191, 30)), ((207, 30), (207, 30)), ((223, 30), (223, 30)), ((239, 30), (239, 30))] ⟨rfl, rfl, rfl, rfl, rfl, rfl, rfl, rfl, rfl, rfl, rfl, trivial⟩ ⟨rfl, ⟨_, rfl, rfl⟩, ⟨rfl, ⟨_, rfl, ah_row E_i⟩, ⟨rfl, ⟨_, rfl, ah_row E_B⟩, ⟨rfl, ⟨_, rfl, ah_row E_B⟩, ⟨rfl, ⟨_, rfl, ah_row E_B⟩, trivial⟩⟩⟩⟩⟩ rfl))))) h ?_
            rintro m ⟨y16, y17, y18, y19, y20, y21, y22, y23⟩ h
            cases m with
            | zero => exact nomatch h
            | succ n =>
              rw [L_r07_Write_2] at h
              refine .seq ?_
              refine .rgI rfl ?_
              refine .seg tabOk 0 1 [1, 4, 9, 10, 11, 12, 13, 14, 68, 69, 70, 71] [16, 191, 207, 223, 239] (t := [(1, (.ptr (16, 1) 0)), (4, (vI y21)), (9, (vI y23)), (10, (vI y20)), (11, (.sref (191, 30) 0 y16.length 1)), (12, (.sref (207, 30) 0 y17.length 1)), (13, (.sref (223, 30) 0 y18.length 1)), (14, (.sref (239, 30) 0 y19.length 1)), (q29_5 a0), (q29_8 a0), (70, (vI y22)), (71, (.val (.bool (decide (y22 < (a0.f0.length : Int))))))]) (h := [(q29_0 a0), (191, ⟨30, .live, true, flat E_i y16⟩), (207, ⟨30, .live, true, flat E_B y17⟩), (223, ⟨30, .live, true, flat E_B y18⟩), (239, ⟨30, .live, true, flat E_B y19⟩)]) (ep := 33) (by kernel_rfl) ?_
              refine .fin rfl ?_
              refine sqN ?_
              refine .seq ?_
              refine .cond (decide (y22 < (a0.f0.length : Int))) rfl (fun hc24 => ?_) (fun hc24 => ?_)
              · have h := iT h hc24
                refine .skip ?_
                refine sqN ?_
                refine .seq ?_
                obtain ⟨j25, hj25, h⟩ := ljS h
                refine .join (fun s' => ∃ x59 x60 x61 x62 x63 x64, s' = ⟨[(1, (.ptr (16, 1) 0)), (4, (vI (w64 (y21 + ((nth E_LSiibe a0.f0 y22).length : Int))))), (9, (vI x64)), (10, (vI x63)), (11, (.sref (191, 30) 0 x59.length 1)), (12, (.sref (207, 30) 0 x60.length 1)), (13, (.sref (223, 30) 0 x61.length 1)), (14, (.sref (2416, 45) 0 x62.length 1)), (q29_5 a0), (q29_8 a0), (70, (vI y22))], [(q29_0 a0), (191, ⟨30, .live, true, flat E_i x59⟩), (207, ⟨30, .live, true, flat E_B x60⟩), (223, ⟨30, .live, true, flat E_B x61⟩), (2416, ⟨45, .live, true, flat E_B x62⟩)], 47⟩ ∧ j25 x59 x60 x61 x62 x63 x64 = some r) ?_ ?_
                · refine .block ?_
                  refine .seq ?_
                  refine .rgI rfl ?_
                  obtain ⟨hb26, h⟩ := gS h
                  refine .o tabOk rfl rfl rfl (q_idx E_LSiibe rfl rfl rfl rfl rfl rfl hb26) ?_
                  refine .o tabOk rfl rfl rfl (q_ld0 E_LSiibe rfl rfl rfl hb26 rfl) ?_
                  refine .seg tabOk 2 1 [1, 4, 9, 10, 11, 12, 13, 14, 16, 68, 69, 70] [16, 191, 207, 223, 239] (t := [(1, (.ptr (16, 1) 0)), (4, (vI y21)), (9, (vI y23)), (10, (vI y20)), (11, (.sref (191, 30) 0 y16.length 1)), (12, (.sref (207, 30) 0 y17.length 1)), (13, (.sref (223, 30) 0 y18.length 1)), (14, (.sref (239, 30) 0 y19.length 1)), (16, (.ro 3 (nth E_LSiibe a0.f0 y22).length (flat E_Siibe (nth E_LSiibe a0.f0 y22)))), (q29_5 a0), (q29_8 a0), (70, (vI y22))]) (h := [(q29_0 a0), (191, ⟨30, .live, true, flat E_i y16⟩), (207, ⟨30, .live, true, flat E_B y17⟩), (223, ⟨30, .live, true, flat E_B y18⟩), (239, ⟨30, .live, true, flat E_B y19⟩)]) (ep := 35) (by kernel_rfl) ?_
                  refine .fin rfl ?_
                  refine sqN ?_
                  refine .seq ?_
                  refine .seq ?_
                  refine .rgI rfl ?_
                  refine .seg tabOk 0 3 [1, 4, 9, 10, 11, 12, 13, 14, 16, 68, 69, 70, 74, 75, 76] [16, 191, 207, 223, 239] (t := [(1, (.ptr (16, 1) 0)), (4, (vI y21)), (9, (vI y23)), (10, (vI y20)), (11, (.sref (191, 30) 0 y16.length 1)), (12, (.sref (207, 30) 0 y17.length 1)), (13, (.sref (223, 30) 0 y18.length 1)), (14, (.sref (239, 30) 0 y19.length 1)), (16, (.ro 3 (nth E_LSiibe a0.f0 y22).length (flat E_Siibe (nth E_LSiibe a0.f0 y22)))), (q29_5 a0), (q29_8 a0), (70, (vI y22)), (74, (.ro 3 (nth E_LSiibe a0.f0 y22).length (flat E_Siibe (nth E_LSiibe a0.f0 y22)))), (75, (vI ((nth E_LSiibe a0.f0 y22).length : Int))), (76, (vI 0))]) (h := [(q29_0 a0), (191, ⟨30, .live, true, flat E_i y16⟩), (207, ⟨30, .live, true, flat E_B y17⟩), (223, ⟨30, .live, true, flat E_B y18⟩), (239, ⟨30, .live, true, flat E_B y19⟩)]) (ep := 37) (by kernel_rfl) ?_
                  refine .fin rfl ?_
                  refine sqN ?_
                  obtain ⟨j27, hj27, h⟩ := ljS h
                  refine .join (fun s' => ∃ x52 x53 x54 x55 x56, s' = ⟨[(1, (.ptr (16, 1) 0)), (4, (vI y21)), (9, (vI x56)), (10, (vI x55)), (q29_20 x52), (12, (.sref (207, 30) 0 x53.length 1)), (13, (.sref (223, 30) 0 x54.length 1)), (14, (.sref (239, 30) 0 y19.length 1)), (16, (.ro 3 (nth E_LSiibe a0.f0 y22).length (flat E_Siibe (nth E_LSiibe a0.f0 y22)))), (q29_5 a0), (q29_8 a0), (70, (vI y22))], [(q29_0 a0), (q29_21 x52), (207, ⟨30, .live, true, flat E_B x53⟩), (223, ⟨30, .live, true, flat E_B x54⟩), (239, ⟨30, .live, true, flat E_B y19⟩)], 41⟩ ∧ j27 x52 x53 x54 x55 x56 = some r) ?_ ?_
                  · refine .block ?_
                    refine .loopF (β := (List Int) × (List Int) × (List Int) × Int × Int × Int) (fun v => ⟨[(1, (.ptr (16, 1) 0)), (4, (vI y21)), (9, (vI v.2.2.2.2.2)), (10, (vI v.2.2.2.1)), (11, (.sref (191, 30) 0 v.1.length 1)), (12, (.sref (207, 30) 0 v.2.1.length 1)), (13, (.sref (223, 30) 0 v.2.2.1.length 1)), (14, (.sref (239, 30) 0 y19.length 1)), (16, (.ro 3 (nth E_LSiibe a0.f0 y22).length (flat E_Siibe (nth E_LSiibe a0.f0 y22)))), (q29_5 a0), (q29_8 a0), (70, (vI y22)), (74, (.ro 3 (nth E_LSiibe a0.f0 y22).length (flat E_Siibe (nth E_LSiibe a0.f0 y22)))), (75, (vI ((nth E_LSiibe a0.f0 y22).length : Int))), (76, (vI v.2.2.2.2.1))], [(q29_0 a0), (191, ⟨30, .live, true, flat E_i v.1⟩), (207, ⟨30, .live, true, flat E_B v.2.1⟩), (223, ⟨30, .live, true, flat E_B v.2.2.1⟩), (239, ⟨30, .live, true, flat E_B y19⟩)], 38⟩) (fun m v => L_r07_Write_3 a0 y22 j27 m v.1 v.2.1 v.2.2.1 v.2.2.2.1 v.2.2.2.2.1 v.2.2.2.2.2 = some r) n (y16, y17, y18, y20, 0, y23) (by exact .tn [((16, 1), (16, 1)), ((191, 30), (191, 30)), ((207, 30), (207, 30)), ((223, 30), (223, 30)), ((239, 30), (239, 30))] ⟨rfl, rfl, rfl, rfl, rfl, rfl, rfl, rfl, rfl, rfl, rfl, rfl, rfl, rfl, rfl, trivial⟩ ⟨rfl, ⟨_, rfl, rfl⟩, ⟨rfl, ⟨_, rfl, ah_row E_i⟩, ⟨rfl, ⟨_, rfl, ah_row E_B⟩, ⟨rfl, ⟨_, rfl, ah_row E_B⟩, ⟨rfl, ⟨_, rfl, ah_row E_B⟩, trivial⟩⟩⟩⟩⟩ rfl) h ?_
                    rintro m ⟨y28, y29, y30, y31, y32, y33⟩ h
                    cases m with
                    | zero => exact nomatch h
                    | succ n =>
                      rw [L_r07_Write_3] at h
                      refine .seq ?_
                      refine .rgI rfl ?_
                      refine .seg tabOk 0 1 [1, 4, 9, 10, 11, 12, 13, 14, 16, 68, 69, 70, 74, 75, 76, 77] [16, 191, 207, 223, 239] (t := [(1, (.ptr (16, 1) 0)), (4, (vI y21)), (9, (vI y33)), (10, (vI y31)), (11, (.sref (191, 30) 0 y28.length 1)), (12, (.sref (207, 30) 0 y29.length 1)), (13, (.sref (223, 30) 0 y30.length 1)), (14, (.sref (239, 30) 0 y19.length 1)), (16, (.ro 3 (nth E_LSiibe a0.f0 y22).length (flat E_Siibe (nth E_LSiibe a0.f0 y22)))), (q29_5 a0), (q29_8 a0), (70, (vI y22)), (74, (.ro 3 (nth E_LSiibe a0.f0 y22).length (flat E_Siibe (nth E_LSiibe a0.f0 y22)))), (75, (vI ((nth E_LSiibe a0.f0 y22).length : Int))), (76, (vI y32)), (77, (.val (.bool (decide (y32 < ((nth E_LSiibe a0.f0 y22).length : Int))))))]) (h := [(q29_0 a0), (191, ⟨30, .live, true, flat E_i y28⟩), (207, ⟨30, .live, true, flat E_B y29⟩), (223, ⟨30, .live, true, flat E_B y30⟩), (239, ⟨30, .live, true, flat E_B y19⟩)]) (ep := 40) (by kernel_rfl) ?_
                      refine .fin rfl ?_
                      refine sqN ?_
                      refine .seq ?_
                      refine .cond (decide (y32 < ((nth E_LSiibe a0.f0 y22).length : Int))) rfl (fun hc34 => ?_) (fun hc34 => ?_)
                      · have h := iT h hc34
                        refine .skip ?_
                        refine sqN ?_
                        refine .seq ?_
                        refine .block ?_
                        refine .seq ?_
                        refine .rgI rfl ?_
                        obtain ⟨hb35, h⟩ := gS h
                        refine .o tabOk rfl rfl rfl (q_idx E_Siibe rfl rfl rfl rfl rfl rfl hb35) ?_
                        refine .o tabOk rfl rfl rfl (q_ld0 E_Siibe rfl rfl rfl hb35 rfl) ?_
                        refine .seg tabOk 2 2 [1, 4, 9, 10, 11, 12, 13, 14, 16, 18, 68, 69, 70, 74, 75, 76] [16, 191, 207, 223, 239, 288] (t := [(1, (.ptr (16, 1) 0)), (4, (vI y21)), (9, (vI y33)), (10, (vI y31)), (11, (.sref (191, 30) 0 y28.length 1)), (12, (.sref (207, 30) 0 y29.length 1)), (13, (.sref (223, 30) 0 y30.length 1)), (14, (.sref (239, 30) 0 y19.length 1)), (16, (.ro 3 (nth E_LSiibe a0.f0 y22).length (flat E_Siibe (nth E_LSiibe a0.f0 y22)))), (18, (.ptr (288, 41) 0)), (q29_5 a0), (q29_8 a0), (70, (vI y22)), (74, (.ro 3 (nth E_LSiibe a0.f0 y22).length (flat E_Siibe (nth E_LSiibe a0.f0 y22)))), (75, (vI ((nth E_LSiibe a0.f0 y22).length : Int))), (76, (vI y32))]) (h := [(q29_0 a0), (191, ⟨30, .live, true, flat E_i y28⟩), (207, ⟨30, .live, true, flat E_B y29⟩), (223, ⟨30, .live, true, flat E_B y30⟩), (239, ⟨30, .live, true, flat E_B y19⟩), (288, ⟨41, .live, false, [(vI (nth E_Siibe (nth E_LSiibe a0.f0 y22) y32).f0), (vI (nth E_Siibe (nth E_LSiibe a0.f0 y22) y32).f1), (.val (.bool (nth E_Siibe (nth E_LSiibe a0.f0 y22) y32).f2))]⟩)]) (ep := 42) (by kernel_rfl) ?_
                        refine .fin rfl ?_
                        refine sqN ?_
                        refine .seq ?_
                        refine .seq ?_
                        obtain ⟨j44, hj44, h⟩ := ljS h
                        refine .join (fun s' => ∃ x43, s' = ⟨[(1, (.ptr (16, 1) 0)), (4, (vI y21)), (9, (vI y33)), (10, (vI y31)), (11, (.sref (191, 30) 0 y28.length 1)), (12, (.sref (207, 30) 0 y29.length 1)), (13, (.sref (223, 30) 0 y30.length 1)), (14, (.sref (239, 30) 0 y19.length 1)), (16, (.ro 3 (nth E_LSiibe a0.f0 y22).length (flat E_Siibe (nth E_LSiibe a0.f0 y22)))), (18, (.ptr (288, 41) 0)), (q29_5 a0), (q29_8 a0), (70, (vI y22)), (74, (.ro 3 (nth E_LSiibe a0.f0 y22).length (flat E_Siibe (nth E_LSiibe a0.f0 y22)))), (75, (vI ((nth E_LSiibe a0.f0 y22).length : Int))), (76, (vI y32)), (105, (.val (.bool x43)))], [(q29_0 a0), (191, ⟨30, .live, true, flat E_i y28⟩), (207, ⟨30, .live, true, flat E_B y29⟩), (223, ⟨30, .live, true, flat E_B y30⟩), (239, ⟨30, .live, true, flat E_B y19⟩), (288, ⟨41, .live, false, [(vI (nth E_Siibe (nth E_LSiibe a0.f0 y22) y32).f0), (vI (nth E_Siibe (nth E_LSiibe a0.f0 y22) y32).f1), (.val (.bool (nth E_Siibe (nth E_LSiibe a0.f0 y22) y32).f2))]⟩)], 52⟩ ∧ j44 x43 = some r) ?_ ?_
                        · refine .rgI rfl ?_
                          refine .seg tabOk 0 2 [1, 4, 9, 10, 11, 12, 13, 14, 16, 18, 68, 69, 70, 74, 75, 76, 81] [16, 191, 207, 223, 239, 288] (t := [(1, (.ptr (16, 1) 0)), (4, (vI y21)), (9, (vI y33)), (10, (vI y31)), (11, (.sref (191, 30) 0 y28.length 1)), (12, (.sref (207, 30) 0 y29.length 1)), (13, (.sref (223, 30) 0 y30.length 1)), (14, (.sref (239, 30) 0 y19.length 1)), (16, (.ro 3 (nth E_LSiibe a0.f0 y22).length (flat E_Siibe (nth E_LSiibe a0.f0 y22)))), (18, (.ptr (288, 41) 0)), (q29_5 a0), (q29_8 a0), (70, (vI y22)), (74, (.ro 3 (nth E_LSiibe a0.f0 y22).length (flat E_Siibe (nth E_LSiibe a0.f0 y22)))), (75, (vI ((nth E_LSiibe a0.f0 y22).length : Int))), (76, (vI y32)), (81, (vI (nth E_Siibe (nth E_LSiibe a0.f0 y22) y32).f0))]) (h := [(q29_0 a0), (191, ⟨30, .live, true, flat E_i y28⟩), (207, ⟨30, .live, true, flat E_B y29⟩), (223, ⟨30, .live, true, flat E_B y30⟩), (239, ⟨30, .live, true, flat E_B y19⟩), (288, ⟨41, .live, false, [(vI (nth E_Siibe (nth E_LSiibe a0.f0 y22) y32).f0), (vI (nth E_Siibe (nth E_LSiibe a0.f0 y22) y32).f1), (.val (.bool (nth E_Siibe (nth E_LSiibe a0.f0 y22) y32).f2))]⟩)]) (ep := 44) (by kernel_rfl) ?_
                          obtain ⟨v36, hv36, h⟩ := bS h
                          refine .cc true rfl rfl (C_r07_short _ _ _ hv36) ent_r07_short rfl rfl rfl rfl (g_cons (g_pl rfl rfl) g_nil) rfl ?_
                          refine .seg tabOk 3 2 [1, 4, 9, 10, 11, 12, 13, 14, 16, 18, 68, 69, 70, 74, 75, 76, 84] [16, 191, 207, 223, 239, 288] (t := [(1, (.ptr (16, 1) 0)), (4, (vI y21)), (9, (vI y33)), (10, (vI y31)), (11, (.sref (191, 30) 0 y28.length 1)), (12, (.sref (207, 30) 0 y29.length 1)), (13, (.sref (223, 30) 0 y30.length 1)), (14, (.sref (239, 30) 0 y19.length 1)), (16, (.ro 3 (nth E_LSiibe a0.f0 y22).length (flat E_Siibe (nth E_LSiibe a0.f0 y22)))), (18, (.ptr (288, 41) 0)), (q29_5 a0), (q29_8 a0), (70, (vI y22)), (74, (.ro 3 (nth E_LSiibe a0.f0 y22).length (flat E_Siibe (nth E_LSiibe a0.f0 y22)))), (75, (vI ((nth E_LSiibe a0.f0 y22).length : Int))), (76, (vI y32)), (84, (.val (.bool (!v36))))]) (h := [(q29_0 a0), (191, ⟨30, .live, true, flat E_i y28⟩), (207, ⟨30, .live, true, flat E_B y29⟩), (223, ⟨30, .live, true, flat E_B y30⟩), (239, ⟨30, .live, true, flat E_B y19⟩), (288, ⟨41, .live, false, [(vI (nth E_Siibe (nth E_LSiibe a0.f0 y22) y32).f0), (vI (nth E_Siibe (nth E_LSiibe a0.f0 y22) y32).f1), (.val (.bool (nth E_Siibe (nth E_LSiibe a0.f0 y22) y32).f2))]⟩)]) (ep := 45) (by kernel_rfl) ?_
                          cases hB37 : (!v36) with
                          | false =>
                            have h := iF h hB37
                            refine .seg tabOk 5 2 [1, 4, 9, 10, 11, 12, 13, 14, 16, 18, 68, 69, 70, 74, 75, 76, 84, 86] [16, 191, 207, 223, 239, 288] (t := [(1, (.ptr (16, 1) 0)), (4, (vI y21)), (9, (vI y33)), (10, (vI y31)), (11, (.sref (191, 30) 0 y28.length 1)), (12, (.sref (207, 30) 0 y29.length 1)), (13, (.sref (223, 30) 0 y30.length 1)), (14, (.sref (239, 30) 0 y19.length 1)), (16, (.ro 3 (nth E_LSiibe a0.f0 y22).length (flat E_Siibe (nth E_LSiibe a0.f0 y22)))), (18, (.ptr (288, 41) 0)), (q29_5 a0), (q29_8 a0), (70, (vI y22)), (74, (.ro 3 (nth E_LSiibe a0.f0 y22).length (flat E_Siibe (nth E_LSiibe a0.f0 y22)))), (75, (vI ((nth E_LSiibe a0.f0 y22).length : Int))), (76, (vI y32)), (84, (.val (.bool false))), (86, (vI (nth E_Siibe (nth E_LSiibe a0.f0 y22) y32).f1))]) (h := [(q29_0 a0), (191, ⟨30, .live, true, flat E_i y28⟩), (207, ⟨30, .live, true, flat E_B y29⟩), (223, ⟨30, .live, true, flat E_B y30⟩), (239, ⟨30, .live, true, flat E_B y19⟩), (288, ⟨41, .live, false, [(vI (nth E_Siibe (nth E_LSiibe a0.f0 y22) y32).f0), (vI (nth E_Siibe (nth E_LSiibe a0.f0 y22) y32).f1), (.val (.bool (nth E_Siibe (nth E_LSiibe a0.f0 y22) y32).f2))]⟩)]) (ep := 46) (by kernel_rfl) ?_
                            obtain ⟨v38, hv38, h⟩ := bS h
                            refine .cc true rfl rfl (C_r07_short _ _ _ hv38) ent_r07_short rfl rfl rfl rfl (g_cons (g_pl rfl rfl) g_nil) rfl ?_
                            refine .seg tabOk 8 3 [1, 4, 9, 10, 11, 12, 13, 14, 16, 18, 68, 69, 70, 74, 75, 76, 90] [16, 191, 207, 223, 239, 288] (t := [(1, (.ptr (16, 1) 0)), (4, (vI y21)), (9, (vI y33)), (10, (vI y31)), (11, (.sref (191, 30) 0 y28.length 1)), (12, (.sref (207, 30) 0 y29.length 1)), (13, (.sref (223, 30) 0 y30.length 1)), (14, (.sref (239, 30) 0 y19.length 1)), (16, (.ro 3 (nth E_LSiibe a0.f0 y22).length (flat E_Siibe (nth E_LSiibe a0.f0 y22)))), (18, (.ptr (288, 41) 0)), (q29_5 a0), (q29_8 a0), (70, (vI y22)), (74, (.ro 3 (nth E_LSiibe a0.f0 y22).length (flat E_Siibe (nth E_LSiibe a0.f0 y22)))), (75, (vI ((nth E_LSiibe a0.f0 y22).length : Int))), (76, (vI y32)), (90, (.val (.bool (!v38))))]) (h := [(q29_0 a0), (191, ⟨30, .live, true, flat E_i y28⟩), (207, ⟨30, .live, true, flat E_B y29⟩), (223, ⟨30, .live, true, flat E_B y30⟩), (239, ⟨30, .live, true, flat E_B y19⟩), (288, ⟨41, .live, false, [(vI (nth E_Siibe (nth E_LSiibe a0.f0 y22) y32).f0), (vI (nth E_Siibe (nth E_LSiibe a0.f0 y22) y32).f1), (.val (.bool (nth E_Siibe (nth E_LSiibe a0.f0 y22) y32).f2))]⟩)]) (ep := 47) (by kernel_rfl) ?_
                            cases hB39 : (!v38) with
                            | false =>
                              have h := iF h hB39
                              refine .seg tabOk 11 4 [1, 4, 9, 10, 11, 12, 13, 14, 16, 18, 68, 69, 70, 74, 75, 76, 90, 94] [16, 191, 207, 223, 239, 288] (t := [(1, (.ptr (16, 1) 0)), (4, (vI y21)), (9, (vI y33)), (10, (vI y31)), (11, (.sref (191, 30) 0 y28.length 1)), (12, (.sref (207, 30) 0 y29.length 1)), (13, (.sref (223, 30) 0 y30.length 1)), (14, (.sref (239, 30) 0 y19.length 1)), (16, (.ro 3 (nth E_LSiibe a0.f0 y22).length (flat E_Siibe (nth E_LSiibe a0.f0 y22)))), (18, (.ptr (288, 41) 0)), (q29_5 a0), (q29_8 a0), (70, (vI y22)), (74, (.ro 3 (nth E_LSiibe a0.f0 y22).length (flat E_Siibe (nth E_LSiibe a0.f0 y22)))), (75, (vI ((nth E_LSiibe a0.f0 y22).length : Int))), (76, (vI y32)), (90, (.val (.bool false))), (94, (vI (w64 ((nth E_Siibe (nth E_LSiibe a0.f0 y22) y32).f0 - y33))))]) (h := [(q29_0 a0), (191, ⟨30, .live, true, flat E_i y28⟩), (207, ⟨30, .live, true, flat E_B y29⟩), (223, ⟨30, .live, true, flat E_B y30⟩), (239, ⟨30, .live, true, flat E_B y19⟩), (288, ⟨41, .live, false, [(vI (nth E_Siibe (nth E_LSiibe a0.f0 y22) y32).f0), (vI (nth E_Siibe (nth E_LSiibe a0.f0 y22) y32).f1), (.val (.bool (nth E_Siibe (nth E_LSiibe a0.f0 y22) y32).f2))]⟩)]) (ep := 48) (by kernel_rfl) ?_
                              obtain ⟨v40, hv40, h⟩ := bS h
                              refine .cc true rfl rfl (C_r07_short _ _ _ hv40) ent_r07_short rfl rfl rfl rfl (g_cons (g_pl rfl rfl) g_nil) rfl ?_
                              refine .seg tabOk 16 3 [1, 4, 9, 10, 11, 12, 13, 14, 16, 18, 68, 69, 70, 74, 75, 76, 98] [16, 191, 207, 223, 239, 288] (t := [(1, (.ptr (16, 1) 0)), (4, (vI y21)), (9, (vI y33)), (10, (vI y31)), (11, (.sref (191, 30) 0 y28.length 1)), (12, (.sref (207, 30) 0 y29.length 1)), (13, (.sref (223, 30) 0 y30.length 1)), (14, (.sref (239, 30) 0 y19.length 1)), (16, (.ro 3 (nth E_LSiibe a0.f0 y22).length (flat E_Siibe (nth E_LSiibe a0.f0 y22)))), (18, (.ptr (288, 41) 0)), (q29_5 a0), (q29_8 a0), (70, (vI y22)), (74, (.ro 3 (nth E_LSiibe a0.f0 y22).length (flat E_Siibe (nth E_LSiibe a0.f0 y22)))), (75, (vI ((nth E_LSiibe a0.f0 y22).length : Int))), (76, (vI y32)), (98, (.val (.bool (!v40))))]) (h := [(q29_0 a0), (191, ⟨30, .live, true, flat E_i y28⟩), (207, ⟨30, .live, true, flat E_B y29⟩), (223, ⟨30, .live, true, flat E_B y30⟩), (239, ⟨30, .live, true, flat E_B y19⟩), (288, ⟨41, .live, false, [(vI (nth E_Siibe (nth E_LSiibe a0.f0 y22) y32).f0), (vI (nth E_Siibe (nth E_LSiibe a0.f0 y22) y32).f1), (.val (.bool (nth E_Siibe (nth E_LSiibe a0.f0 y22) y32).f2))]⟩)]) (ep := 49) (by kernel_rfl) ?_
                              cases hB41 : (!v40) with
                              | false =>
                                have h := iF h hB41
                                refine .seg tabOk 19 4 [1, 4, 9, 10, 11, 12, 13, 14, 16, 18, 68, 69, 70, 74, 75, 76, 98, 102] [16, 191, 207, 223, 239, 288] (t := [(1, (.ptr (16, 1) 0)), (4, (vI y21)), (9, (vI y33)), (10, (vI y31)), (11, (.sref (191, 30) 0 y28.length 1)), (12, (.sref (207, 30) 0 y29.length 1)), (13, (.sref (223, 30) 0 y30.length 1)), (14, (.sref (239, 30) 0 y19.length 1)), (16, (.ro 3 (nth E_LSiibe a0.f0 y22).length (flat E_Siibe (nth E_LSiibe a0.f0 y22)))), (18, (.ptr (288, 41) 0)), (q29_5 a0), (q29_8 a0), (70, (vI y22)), (74, (.ro 3 (nth E_LSiibe a0.f0 y22).length (flat E_Siibe (nth E_LSiibe a0.f0 y22)))), (75, (vI ((nth E_LSiibe a0.f0 y22).length : Int))), (76, (vI y32)), (98, (.val (.bool false))), (102, (vI (w64 ((nth E_Siibe (nth E_LSiibe a0.f0 y22) y32).f1 - y31))))]) (h := [(q29_0 a0), (191, ⟨30, .live, true, flat E_i y28⟩), (207, ⟨30, .live, true, flat E_B y29⟩), (223, ⟨30, .live, true, flat E_B y30⟩), (239, ⟨30, .live, true, flat E_B y19⟩), (288, ⟨41, .live, false, [(vI (nth E_Siibe (nth E_LSiibe a0.f0 y22) y32).f0), (vI (nth E_Siibe (nth E_LSiibe a0.f0 y22) y32).f1), (.val (.bool (nth E_Siibe (nth E_LSiibe a0.f0 y22) y32).f2))]⟩)]) (ep := 50) (by kernel_rfl) ?_
                                obtain ⟨v42, hv42, h⟩ := bS h
                                refine .cc true rfl rfl (C_r07_short _ _ _ hv42) ent_r07_short rfl rfl rfl rfl (g_cons (g_pl rfl rfl) g_nil) rfl ?_
                                refine .seg tabOk 24 2 [1, 4, 9, 10, 11, 12, 13, 14, 16, 18, 68, 69, 70, 74, 75, 76, 105] [16, 191, 207, 223, 239, 288] (t := [(1, (.ptr (16, 1) 0)), (4, (vI y21)), (9, (vI y33)), (10, (vI y31)), (11, (.sref (191, 30) 0 y28.length 1)), (12, (.sref (207, 30) 0 y29.length 1)), (13, (.sref (223, 30) 0 y30.length 1)), (14, (.sref (239, 30) 0 y19.length 1)), (16, (.ro 3 (nth E_LSiibe a0.f0 y22).length (flat E_Siibe (nth E_LSiibe a0.f0 y22)))), (18, (.ptr (288, 41) 0)), (q29_5 a0), (q29_8 a0), (70, (vI y22)), (74, (.ro 3 (nth E_LSiibe a0.f0 y22).length (flat E_Siibe (nth E_LSiibe a0.f0 y22)))), (75, (vI ((nth E_LSiibe a0.f0 y22).length : Int))), (76, (vI y32)), (105, (.val (.bool (!v42))))]) (h := [(q29_0 a0), (191, ⟨30, .live, true, flat E_i y28⟩), (207, ⟨30, .live, true, flat E_B y29⟩), (223, ⟨30, .live, true, flat E_B y30⟩), (239, ⟨30, .live, true, flat E_B y19⟩), (288, ⟨41, .live, false, [(vI (nth E_Siibe (nth E_LSiibe a0.f0 y22) y32).f0), (vI (nth E_Siibe (nth E_LSiibe a0.f0 y22) y32).f1), (.val (.bool (nth E_Siibe (nth E_LSiibe a0.f0 y22) y32).f2))]⟩)]) (ep := 51) (by kernel_rfl) ?_
                                refine .fin rfl ?_
                                exact jkN (by exact .tn [((16, 1), (16, 1)), ((191, 30), (191, 30)), ((207, 30), (207, 30)), ((223, 30), (223, 30)), ((239, 30), (239, 30)), ((288, 41), (288, 41))] ⟨rfl, rfl, rfl, rfl, rfl, rfl, rfl, rfl, rfl, rfl, rfl, rfl, rfl, rfl, rfl, rfl, rfl, trivial⟩ ⟨rfl, ⟨_, rfl, rfl⟩, ⟨rfl, ⟨_, rfl, ah_row E_i⟩, ⟨rfl, ⟨_, rfl, ah_row E_B⟩, ⟨rfl, ⟨_, rfl, ah_row E_B⟩, ⟨rfl, ⟨_, rfl, ah_row E_B⟩, ⟨rfl, ⟨_, rfl, rfl⟩, trivial⟩⟩⟩⟩⟩⟩ rfl) ⟨_, rfl, h⟩
                              | true =>
                                have h := iT h hB41
                                refine .seg tabOk 19 7 [1, 4, 9, 10, 11, 12, 13, 14, 16, 18, 68, 69, 70, 74, 75, 76, 105] [16, 191, 207, 223, 239, 288] (t := [(1, (.ptr (16, 1) 0)), (4, (vI y21)), (9, (vI y33)), (10, (vI y31)), (11, (.sref (191, 30) 0 y28.length 1)), (12, (.sref (207, 30) 0 y29.length 1)), (13, (.sref (223, 30) 0 y30.length 1)), (14, (.sref (239, 30) 0 y19.length 1)), (16, (.ro 3 (nth E_LSiibe a0.f0 y22).length (flat E_Siibe (nth E_LSiibe a0.f0 y22)))), (18, (.ptr (288, 41) 0)), (q29_5 a0), (q29_8 a0), (70, (vI y22)), (74, (.ro 3 (nth E_LSiibe a0.f0 y22).length (flat E_Siibe (nth E_LSiibe a0.f0 y22)))), (75, (vI ((nth E_LSiibe a0.f0 y22).length : Int))), (76, (vI y32)), (105, (.val (.bool true)))]) (h := [(q29_0 a0), (191, ⟨30, .live, true, flat E_i y28⟩), (207, ⟨30, .live, true, flat E_B y29⟩), (223, ⟨30, .live, true, flat E_B y30⟩), (239, ⟨30, .live, true, flat E_B y19⟩), (288, ⟨41, .live, false, [(vI (nth E_Siibe (nth E_LSiibe a0.f0 y22) y32).f0), (vI (nth E_Siibe (nth E_LSiibe a0.f0 y22) y32).f1), (.val (.bool (nth E_Siibe (nth E_LSiibe a0.f0 y22) y32).f2))]⟩)]) (ep := 50) (by kernel_rfl) ?_
                                refine .fin rfl ?_
                                exact jkN (by exact .tn [((16, 1), (16, 1)), ((191, 30), (191, 30)), ((207, 30), (207, 30)), ((223, 30), (223, 30)), ((239, 30), (239, 30)), ((288, 41), (288, 41))] ⟨rfl, rfl, rfl, rfl, rfl, rfl, rfl, rfl, rfl, rfl, rfl, rfl, rfl, rfl, rfl, rfl, rfl, trivial⟩ ⟨rfl, ⟨_, rfl, rfl⟩, ⟨rfl, ⟨_, rfl, ah_row E_i⟩, ⟨rfl, ⟨_, rfl, ah_row E_B⟩, ⟨rfl, ⟨_, rfl, ah_row E_B⟩, ⟨rfl, ⟨_, rfl, ah_row E_B⟩, ⟨rfl, ⟨_, rfl, rfl⟩, trivial⟩⟩⟩⟩⟩⟩ rfl) ⟨_, rfl, h⟩
                            | true =>
                              have h := iT h hB39
                              refine .seg tabOk 11 15 [1, 4, 9, 10, 11, 12, 13, 14, 16, 18, 68, 69, 70, 74, 75, 76, 105] [16, 191, 207, 223, 239, 288] (t := [(1, (.ptr (16, 1) 0)), (4, (vI y21)), (9, (vI y33)), (10, (vI y31)), (11, (.sref (191, 30) 0 y28.length 1)), (12, (.sref (207, 30) 0 y29.length 1)), (13, (.sref (223, 30) 0 y30.length 1)), (14, (.sref (239, 30) 0 y19.length 1)), (16, (.ro 3 (nth E_LSiibe a0.f0 y22).length (flat E_Siibe (nth E_LSiibe a0.f0 y22)))), (18, (.ptr (288, 41) 0)), (q29_5 a0), (q29_8 a0), (70, (vI y22)), (74, (.ro 3 (nth E_LSiibe a0.f0 y22).length (flat E_Siibe (nth E_LSiibe a0.f0 y22)))), (75, (vI ((nth E_LSiibe a0.f0 y22).length : Int))), (76, (vI y32)), (105, (.val (.bool true)))]) (h := [(q29_0 a0), (191, ⟨30, .live, true, flat E_i y28⟩), (207, ⟨30, .live, true, flat E_B y29⟩), (223, ⟨30, .live, true, flat E_B y30⟩), (239, ⟨30, .live, true, flat E_B y19⟩), (288, ⟨41, .live, false, [(vI (nth E_Siibe (nth E_LSiibe a0.f0 y22) y32).f0), (vI (nth E_Siibe (nth E_LSiibe a0.f0 y22) y32).f1), (.val (.bool (nth E_Siibe (nth E_LSiibe a0.f0 y22) y32).f2))]⟩)]) (ep := 48) (by kernel_rfl) ?_
                              refine .fin rfl ?_
                              exact jkN (by exact .tn [((16, 1), (16, 1)), ((191, 30), (191, 30)), ((207, 30), (207, 30)), ((223, 30), (223, 30)), ((239, 30), (239, 30)), ((288, 41), (288, 41))] ⟨rfl, rfl, rfl, rfl, rfl, rfl, rfl, rfl, rfl, rfl, rfl, rfl, rfl, rfl, rfl, rfl, rfl, trivial⟩ ⟨rfl, ⟨_, rfl, rfl⟩, ⟨rfl, ⟨_, rfl, ah_row E_i⟩, ⟨rfl, ⟨_, rfl, ah_row E_B⟩, ⟨rfl, ⟨_, rfl, ah_row E_B⟩, ⟨rfl, ⟨_, rfl, ah_row E_B⟩, ⟨rfl, ⟨_, rfl, rfl⟩, trivial⟩⟩⟩⟩⟩⟩ rfl) ⟨_, rfl, h⟩
                          | true =>
                            have h := iT h hB37
                            refine .seg tabOk 5 21 [1, 4, 9, 10, 11, 12, 13, 14, 16, 18, 68, 69, 70, 74, 75, 76, 105] [16, 191, 207, 223, 239, 288] (t := [(1, (.ptr (16, 1) 0)), (4, (vI y21)), (9, (vI y33)), (10, (vI y31)), (11, (.sref (191, 30) 0 y28.length 1)), (12, (.sref (207, 30) 0 y29.length 1)), (13, (.sref (223, 30) 0 y30.length 1)), (14, (.sref (239, 30) 0 y19.length 1)), (16, (.ro 3 (nth E_LSiibe a0.f0 y22).length (flat E_Siibe (nth E_LSiibe a0.f0 y22)))), (18, (.ptr (288, 41) 0)), (q29_5 a0), (q29_8 a0), (70, (vI y22)), (74, (.ro 3 (nth E_LSiibe a0.f0 y22).length (flat E_Siibe (nth E_LSiibe a0.f0 y22)))), (75, (vI ((nth E_LSiibe a0.f0 y22).length : Int))), (76, (vI y32)), (105, (.val (.bool true)))]) (h := [(q29_0 a0), (191, ⟨30, .live, true, flat E_i y28⟩), (207, ⟨30, .live, true, flat E_B y29⟩), (223, ⟨30, .live, true, flat E_B y30⟩), (239, ⟨30, .live, true, flat E_B y19⟩), (288, ⟨41, .live, false, [(vI (nth E_Siibe (nth E_LSiibe a0.f0 y22) y32).f0), (vI (nth E_Siibe (nth E_LSiibe a0.f0 y22) y32).f1), (.val (.bool (nth E_Siibe (nth E_LSiibe a0.f0 y22) y32).f2))]⟩)]) (ep := 46) (by kernel_rfl) ?_
                            refine .fin rfl ?_
                            exact jkN (by exact .tn [((16, 1), (16, 1)), ((191, 30), (191, 30)), ((207, 30), (207, 30)), ((223, 30), (223, 30)), ((239, 30), (239, 30)), ((288, 41), (288, 41))] ⟨rfl, rfl, rfl, rfl, rfl, rfl, rfl, rfl, rfl, rfl, rfl, rfl, rfl, rfl, rfl, rfl, rfl, trivial⟩ ⟨rfl, ⟨_, rfl, rfl⟩, ⟨rfl, ⟨_, rfl, ah_row E_i⟩, ⟨rfl, ⟨_, rfl, ah_row E_B⟩, ⟨rfl, ⟨_, rfl, ah_row E_B⟩, ⟨rfl, ⟨_, rfl, ah_row E_B⟩, ⟨rfl, ⟨_, rfl, rfl⟩, trivial⟩⟩⟩⟩⟩⟩ rfl) ⟨_, rfl, h⟩
                        · rintro _ ⟨x43, rfl, h⟩
                          subst hj44
                          refine sqN ?_
                          refine .cond x43 rfl (fun hc45 => ?_) (fun hc45 => ?_)
                          · have h := iT h hc45
                            refine .seq ?_
                            refine .rgI rfl ?_
                            refine .seg tabOk 0 2 [2, 3] [] (t := [(2, .nils), (3, (vI 6))]) (h := []) (ep := 54) (by kernel_rfl) ?_
                            refine .fin rfl ?_
                            refine sqN ?_
                            refine .pre (.nilRow 2 1 47 rfl (fresh_none rfl)) ?_
                            refine .ret ?_
                            refine sqR ?_
                            refine bkR ?_
                            refine sqR ?_
                            refine jkR ?_
                            refine bkR ?_
                            refine jkR ?_
                            refine sqR ?_
                            refine bkR ?_
                            refine jkR ?_
                            refine sqR ?_
                            refine jkR ?_
                            refine bkR ?_
                            refine jkR ?_
                            refine sqR ?_
                            injection h with h
                            subst h
                            exact ⟨.inr rfl, _, _, (f_cons (f_tmp rfl (o1_row E_B ([] : List Int) rfl rfl rfl rfl rfl)) (f_cons rfl f_nil)), nd_of rfl, rfl, rfl⟩
                          · have h := iF h hc45
                            refine .skip ?_
                            refine sqN ?_
                            refine .seq ?_
                            refine .rgI rfl ?_
                            refine .seg tabOk 0 4 [1, 4, 10, 11, 12, 13, 14, 16, 18, 68, 69, 70, 74, 75, 76, 110] [16, 191, 207, 223, 239, 288] (t := [(1, (.ptr (16, 1) 0)), (4, (vI y21)), (10, (vI y31)), (11, (.sref (191, 30) 0 y28.length 1)), (12, (.sref (207, 30) 0 y29.length 1)), (13, (.sref (223, 30) 0 y30.length 1)), (14, (.sref (239, 30) 0 y19.length 1)), (16, (.ro 3 (nth E_LSiibe a0.f0 y22).length (flat E_Siibe (nth E_LSiibe a0.f0 y22)))), (18, (.ptr (288, 41) 0)), (q29_5 a0), (q29_8 a0), (70, (vI y22)), (74, (.ro 3 (nth E_LSiibe a0.f0 y22).length (flat E_Siibe (nth E_LSiibe a0.f0 y22)))), (75, (vI ((nth E_LSiibe a0.f0 y22).length : Int))), (76, (vI y32)), (110, (vI (w64 ((nth E_Siibe (nth E_LSiibe a0.f0 y22) y32).f0 - y33))))]) (h := [(q29_0 a0), (191, ⟨30, .live, true, flat E_i y28⟩), (207, ⟨30, .live, true, flat E_B y29⟩), (223, ⟨30, .live, true, flat E_B y30⟩), (239, ⟨30, .live, true, flat E_B y19⟩), (288, ⟨41, .live, false, [(vI (nth E_Siibe (nth E_LSiibe a0.f0 y22) y32).f0), (vI (nth E_Siibe (nth E_LSiibe a0.f0 y22) y32).f1), (.val (.bool (nth E_Siibe (nth E_LSiibe a0.f0 y22) y32).f2))]⟩)]) (ep := 54) (by kernel_rfl) ?_
                            obtain ⟨v46, hv46, h⟩ := bS h
                            refine .cc true rfl rfl (C_r07_step _ _ _ _ _ hv46) ent_r07_step rfl rfl rfl rfl (g_cons (g_pl rfl rfl) (g_cons (g_pl rfl rfl) (g_cons (g_pl rfl rfl) g_nil))) rfl ?_
                            refine .seg tabOk 5 5 [1, 4, 10, 11, 12, 13, 14, 16, 18, 19, 20, 68, 69, 70, 74, 75, 76] [16, 191, 207, 223, 239, 288, 1776] (t := [(1, (.ptr (16, 1) 0)), (4, (vI y21)), (10, (vI y31)), (11, (.sref (191, 30) 0 y28.length 1)), (12, (.sref (207, 30) 0 y29.length 1)), (13, (.sref (223, 30) 0 y30.length 1)), (14, (.sref (239, 30) 0 y19.length 1)), (16, (.ro 3 (nth E_LSiibe a0.f0 y22).length (flat E_Siibe (nth E_LSiibe a0.f0 y22)))), (18, (.ptr (288, 41) 0)), (19, (vI v46.1)), (q29_13 v46), (q29_5 a0), (q29_8 a0), (70, (vI y22)), (74, (.ro 3 (nth E_LSiibe a0.f0 y22).length (flat E_Siibe (nth E_LSiibe a0.f0 y22)))), (75, (vI ((nth E_LSiibe a0.f0 y22).length : Int))), (76, (vI y32))]) (h := [(q29_0 a0), (191, ⟨30, .live, true, flat E_i y28⟩), (207, ⟨30, .live, true, flat E_B y29⟩), (223, ⟨30, .live, true, flat E_B y30⟩), (239, ⟨30, .live, true, flat E_B y19⟩), (288, ⟨41, .live, false, [(vI (nth E_Siibe (nth E_LSiibe a0.f0 y22) y32).f0), (vI (nth E_Siibe (nth E_LSiibe a0.f0 y22) y32).f1), (.val (.bool (nth E_Siibe (nth E_LSiibe a0.f0 y22) y32).f2))]⟩), (q29_12 v46)]) (ep := 55) (by kernel_rfl) ?_
                            refine .fin rfl ?_
                            refine sqN ?_
                            refine .seq ?_
                            refine .rgI rfl ?_
                            refine .seg tabOk 0 4 [1, 4, 11, 12, 13, 14, 16, 18, 19, 20, 68, 69, 70, 74, 75, 76, 118] [16, 191, 207, 223, 239, 288, 1776] (t := [(1, (.ptr (16, 1) 0)), (4, (vI y21)), (11, (.sref (191, 30) 0 y28.length 1)), (12, (.sref (207, 30) 0 y29.length 1)), (13, (.sref (223, 30) 0 y30.length 1)), (14, (.sref (239, 30) 0 y19.length 1)), (16, (.ro 3 (nth E_LSiibe a0.f0 y22).length (flat E_Siibe (nth E_LSiibe a0.f0 y22)))), (18, (.ptr (288, 41) 0)), (19, (vI v46.1)), (q29_13 v46), (q29_5 a0), (q29_8 a0), (70, (vI y22)), (74, (.ro 3 (nth E_LSiibe a0.f0 y22).length (flat E_Siibe (nth E_LSiibe a0.f0 y22)))), (75, (vI ((nth E_LSiibe a0.f0 y22).length : Int))), (76, (vI y32)), (118, (vI (w64 ((nth E_Siibe (nth E_LSiibe a0.f0 y22) y32).f1 - y31))))]) (h := [(q29_0 a0), (191, ⟨30, .live, true, flat E_i y28⟩), (207, ⟨30, .live, true, flat E_B y29⟩), (223, ⟨30, .live, true, flat E_B y30⟩), (239, ⟨30, .live, true, flat E_B y19⟩), (288, ⟨41, .live, false, [(vI (nth E_Siibe (nth E_LSiibe a0.f0 y22) y32).f0), (vI (nth E_Siibe (nth E_LSiibe a0.f0 y22) y32).f1), (.val (.bool (nth E_Siibe (nth E_LSiibe a0.f0 y22) y32).f2))]⟩), (q29_12 v46)]) (ep := 57) (by kernel_rfl) ?_
                            obtain ⟨v47, hv47, h⟩ := bS h
                            refine .cc true rfl rfl (C_r07_step _ _ _ _ _ hv47) ent_r07_step rfl rfl rfl rfl (g_cons (g_pl rfl rfl) (g_cons (g_pl rfl rfl) (g_cons (g_pl rfl rfl) g_nil))) rfl ?_
                            refine .seg tabOk 5 5 [1, 4, 11, 12, 13, 14, 16, 18, 19, 20, 21, 22, 68, 69, 70, 74, 75, 76] [16, 191, 207, 223, 239, 288, 1776, 1904] (t := [(1, (.ptr (16, 1) 0)), (4, (vI y21)), (11, (.sref (191, 30) 0 y28.length 1)), (12, (.sref (207, 30) 0 y29.length 1)), (13, (.sref (223, 30) 0 y30.length 1)), (14, (.sref (239, 30) 0 y19.length 1)), (16, (.ro 3 (nth E_LSiibe a0.f0 y22).length (flat E_Siibe (nth E_LSiibe a0.f0 y22)))), (18, (.ptr (288, 41) 0)), (19, (vI v46.1)), (q29_13 v46), (21, (vI v47.1)), (22, (.sref (1904, 57) 0 v47.2.length 1)), (q29_5 a0), (q29_8 a0), (70, (vI y22)), (74, (.ro 3 (nth E_LSiibe a0.f0 y22).length (flat E_Siibe (nth E_LSiibe a0.f0 y22)))), (75, (vI ((nth E_LSiibe a0.f0 y22).length : Int))), (76, (vI y32))]) (h := [(q29_0 a0), (191, ⟨30, .live, true, flat E_i y28⟩), (207, ⟨30, .live, true, flat E_B y29⟩), (223, ⟨30, .live, true, flat E_B y30⟩), (239, ⟨30, .live, true, flat E_B y19⟩), (288, ⟨41, .live, false, [(vI (nth E_Siibe (nth E_LSiibe a0.f0 y22) y32).f0), (vI (nth E_Siibe (nth E_LSiibe a0.f0 y22) y32).f1), (.val (.bool (nth E_Siibe (nth E_LSiibe a0.f0 y22) y32).f2))]⟩), (q29_12 v46), (1904, ⟨57, .live, true, flat E_B v47.2⟩)]) (ep := 58) (by kernel_rfl) ?_
                            refine .fin rfl ?_
                            refine sqN ?_
                            refine .seq ?_
                            refine .seq ?_
                            refine .rgI rfl ?_
                            refine .seg tabOk 0 2 [1, 4, 11, 12, 13, 14, 16, 18, 19, 20, 21, 22, 68, 69, 70, 74, 75, 76, 123] [16, 191, 207, 223, 239, 288, 1776, 1904] (t := [(1, (.ptr (16, 1) 0)), (4, (vI y21)), (11, (.sref (191, 30) 0 y28.length 1)), (12, (.sref (207, 30) 0 y29.length 1)), (13, (.sref (223, 30) 0 y30.length 1)), (14, (.sref (239, 30) 0 y19.length 1)), (16, (.ro 3 (nth E_LSiibe a0.f0 y22).length (flat E_Siibe (nth E_LSiibe a0.f0 y22)))), (18, (.ptr (288, 41) 0)), (19, (vI v46.1)), (q29_13 v46), (21, (vI v47.1)), (22, (.sref (1904, 57) 0 v47.2.length 1)), (q29_5 a0), (q29_8 a0), (70, (vI y22)), (74, (.ro 3 (nth E_LSiibe a0.f0 y22).length (flat E_Siibe (nth E_LSiibe a0.f0 y22)))), (75, (vI ((nth E_LSiibe a0.f0 y22).length : Int))), (76, (vI y32)), (123, (.val (.bool (nth E_Siibe (nth E_LSiibe a0.f0 y22) y32).f2)))]) (h := [(q29_0 a0), (191, ⟨30, .live, true, flat E_i y28⟩), (207, ⟨30, .live, true, flat E_B y29⟩), (223, ⟨30, .live, true, flat E_B y30⟩), (239, ⟨30, .live, true, flat E_B y19⟩), (288, ⟨41, .live, false, [(vI (nth E_Siibe (nth E_LSiibe a0.f0 y22) y32).f0), (vI (nth E_Siibe (nth E_LSiibe a0.f0 y22) y32).f1), (.val (.bool (nth E_Siibe (nth E_LSiibe a0.f0 y22) y32).f2))]⟩), (q29_12 v46), (1904, ⟨57, .live, true, flat E_B v47.2⟩)]) (ep := 60) (by kernel_rfl) ?_
                            refine .fin rfl ?_
                            refine sqN ?_
                            refine .join (fun s' => s' = ⟨[(1, (.ptr (16, 1) 0)), (4, (vI y21)), (11, (.sref (191, 30) 0 y28.length 1)), (12, (.sref (207, 30) 0 y29.length 1)), (13, (.sref (223, 30) 0 y30.length 1)), (14, (.sref (239, 30) 0 y19.length 1)), (16, (.ro 3 (nth E_LSiibe a0.f0 y22).length (flat E_Siibe (nth E_LSiibe a0.f0 y22)))), (18, (.ptr (288, 41) 0)), (19, (vI (if (nth E_Siibe (nth E_LSiibe a0.f0 y22) y32).f2 then (w64 (v46.1 + 1)) else v46.1))), (q29_13 v46), (21, (vI v47.1)), (22, (.sref (1904, 57) 0 v47.2.length 1)), (q29_5 a0), (q29_8 a0), (70, (vI y22)), (74, (.ro 3 (nth E_LSiibe a0.f0 y22).length (flat E_Siibe (nth E_LSiibe a0.f0 y22)))), (75, (vI ((nth E_LSiibe a0.f0 y22).length : Int))), (76, (vI y32))], [(q29_0 a0), (191, ⟨30, .live, true, flat E_i y28⟩), (207, ⟨30, .live, true, flat E_B y29⟩), (223, ⟨30, .live, true, flat E_B y30⟩), (239, ⟨30, .live, true, flat E_B y19⟩), (288, ⟨41, .live, false, [(vI (nth E_Siibe (nth E_LSiibe a0.f0 y22) y32).f0), (vI (nth E_Siibe (nth E_LSiibe a0.f0 y22) y32).f1), (.val (.bool (nth E_Siibe (nth E_LSiibe a0.f0 y22) y32).f2))]⟩), (q29_12 v46), (1904, ⟨57, .live, true, flat E_B v47.2⟩)], 63⟩) ?_ ?_
                            · refine .cond (nth E_Siibe (nth E_LSiibe a0.f0 y22) y32).f2 rfl (fun hc48 => ?_) (fun hc48 => ?_)
                              · skip
                                refine .rgI rfl ?_
                                refine .seg tabOk 0 3 [1, 4, 11, 12, 13, 14, 16, 18, 19, 20, 21, 22, 68, 69, 70, 74, 75, 76] [16, 191, 207, 223, 239, 288, 1776, 1904] (t := [(1, (.ptr (16, 1) 0)), (4, (vI y21)), (11, (.sref (191, 30) 0 y28.length 1)), (12, (.sref (207, 30) 0 y29.length 1)), (13, (.sref (223, 30) 0 y30.length 1)), (14, (.sref (239, 30) 0 y19.length 1)), (16, (.ro 3 (nth E_LSiibe a0.f0 y22).length (flat E_Siibe (nth E_LSiibe a0.f0 y22)))), (18, (.ptr (288, 41) 0)), (19, (vI (w64 (v46.1 + 1)))), (q29_13 v46), (21, (vI v47.1)), (22, (.sref (1904, 57) 0 v47.2.length 1)), (q29_5 a0), (q29_8 a0), (70, (vI y22)), (74, (.ro 3 (nth E_LSiibe a0.f0 y22).length (flat E_Siibe (nth E_LSiibe a0.f0 y22)))), (75, (vI ((nth E_LSiibe a0.f0 y22).length : Int))), (76, (vI y32))]) (h := [(q29_0 a0), (191, ⟨30, .live, true, flat E_i y28⟩), (207, ⟨30, .live, true, flat E_B y29⟩), (223, ⟨30, .live, true, flat E_B y30⟩), (239, ⟨30, .live, true, flat E_B y19⟩), (288, ⟨41, .live, false, [(vI (nth E_Siibe (nth E_LSiibe a0.f0 y22) y32).f0), (vI (nth E_Siibe (nth E_LSiibe a0.f0 y22) y32).f1), (.val (.bool (nth E_Siibe (nth E_LSiibe a0.f0 y22) y32).f2))]⟩), (q29_12 v46), (1904, ⟨57, .live, true, flat E_B v47.2⟩)]) (ep := 62) (by kernel_rfl) ?_
                                refine .fin rfl ?_
                                exact jkN (by exact .tn [((16, 1), (16, 1)), ((191, 30), (191, 30)), ((207, 30), (207, 30)), ((223, 30), (223, 30)), ((239, 30), (239, 30)), ((288, 41), (288, 41)), ((1776, 54), (1776, 54)), ((1904, 57), (1904, 57))] ⟨(by (try rw [hc48]); rfl), (by (try rw [hc48]); rfl), (by (try rw [hc48]); rfl), (by (try rw [hc48]); rfl), (by (try rw [hc48]); rfl), (by (try rw [hc48]); rfl), (by (try rw [hc48]); rfl), (by (try rw [hc48]); rfl), (by (try rw [hc48]); rfl), (by (try rw [hc48]); rfl), (by (try rw [hc48]); rfl), (by (try rw [hc48]); rfl), (by (try rw [hc48]); rfl), (by (try rw [hc48]); rfl), (by (try rw [hc48]); rfl), (by (try rw [hc48]); rfl), (by (try rw [hc48]); rfl), (by (try rw [hc48]); rfl), trivial⟩ ⟨rfl, ⟨_, rfl, (by (try rw [hc48]); exact rfl)⟩, ⟨rfl, ⟨_, rfl, (by (try rw [hc48]); exact ah_row E_i)⟩, ⟨rfl, ⟨_, rfl, (by (try rw [hc48]); exact ah_row E_B)⟩, ⟨rfl, ⟨_, rfl, (by (try rw [hc48]); exact ah_row E_B)⟩, ⟨rfl, ⟨_, rfl, (by (try rw [hc48]); exact ah_row E_B)⟩, ⟨rfl, ⟨_, rfl, (by (try rw [hc48]); exact rfl)⟩, ⟨rfl, ⟨_, rfl, (by (try rw [hc48]); exact ah_row E_B)⟩, ⟨rfl, ⟨_, rfl, (by (try rw [hc48]); exact ah_row E_B)⟩, trivial⟩⟩⟩⟩⟩⟩⟩⟩ rfl) rfl
                              · skip
                                refine .skip ?_
                                exact jkN (by exact .tn [((16, 1), (16, 1)), ((191, 30), (191, 30)), ((207, 30), (207, 30)), ((223, 30), (223, 30)), ((239, 30), (239, 30)), ((288, 41), (288, 41)), ((1776, 54), (1776, 54)), ((1904, 57), (1904, 57))] ⟨(by (try rw [hc48]); rfl), (by (try rw [hc48]); rfl), (by (try rw [hc48]); rfl), (by (try rw [hc48]); rfl), (by (try rw [hc48]); rfl), (by (try rw [hc48]); rfl), (by (try rw [hc48]); rfl), (by (try rw [hc48]); rfl), (by (try rw [hc48]); rfl), (by (try rw [hc48]); rfl), (by (try rw [hc48]); rfl), (by (try rw [hc48]); rfl), (by (try rw [hc48]); rfl), (by (try rw [hc48]); rfl), (by (try rw [hc48]); rfl), (by (try rw [hc48]); rfl), (by (try rw [hc48]); rfl), (by (try rw [hc48]); rfl), trivial⟩ ⟨rfl, ⟨_, rfl, (by (try rw [hc48]); exact rfl)⟩, ⟨rfl, ⟨_, rfl, (by (try rw [hc48]); exact ah_row E_i)⟩, ⟨rfl, ⟨_, rfl, (by (try rw [hc48]); exact ah_row E_B)⟩, ⟨rfl, ⟨_, rfl, (by (try rw [hc48]); exact ah_row E_B)⟩, ⟨rfl, ⟨_, rfl, (by (try rw [hc48]); exact ah_row E_B)⟩, ⟨rfl, ⟨_, rfl, (by (try rw [hc48]); exact rfl)⟩, ⟨rfl, ⟨_, rfl, (by (try rw [hc48]); exact ah_row E_B)⟩, ⟨rfl, ⟨_, rfl, (by (try rw [hc48]); exact ah_row E_B)⟩, trivial⟩⟩⟩⟩⟩⟩⟩⟩ rfl) rfl
                            · rintro _ rfl
                              refine sqN ?_
                              refine .seq ?_
                              refine .rgI rfl ?_
                              refine .seg tabOk 0 5 [1, 4, 12, 13, 14, 16, 18, 20, 22, 68, 69, 70, 74, 75, 76, 126, 130] [16, 191, 207, 223, 239, 288, 1776, 1904, 2080] (t := [(1, (.ptr (16, 1) 0)), (4, (vI y21)), (12, (.sref (207, 30) 0 y29.length 1)), (13, (.sref (223, 30) 0 y30.length 1)), (14, (.sref (239, 30) 0 y19.length 1)), (16, (.ro 3 (nth E_LSiibe a0.f0 y22).length (flat E_Siibe (nth E_LSiibe a0.f0 y22)))), (18, (.ptr (288, 41) 0)), (q29_13 v46), (22, (.sref (1904, 57) 0 v47.2.length 1)), (q29_5 a0), (q29_8 a0), (70, (vI y22)), (74, (.ro 3 (nth E_LSiibe a0.f0 y22).length (flat E_Siibe (nth E_LSiibe a0.f0 y22)))), (75, (vI ((nth E_LSiibe a0.f0 y22).length : Int))), (76, (vI y32)), (126, (.sref (191, 30) 0 y28.length 1)), (130, (.sref (2080, 64) 0 ([(w64 ((if (nth E_Siibe (nth E_LSiibe a0.f0 y22) y32).f2 then (w64 (v46.1 + 1)) else v46.1) + v47.1))] : List Int).length 1))]) (h := [(q29_0 a0), (191, ⟨30, .live, true, flat E_i y28⟩), (207, ⟨30, .live, true, flat E_B y29⟩), (223, ⟨30, .live, true, flat E_B y30⟩), (239, ⟨30, .live, true, flat E_B y19⟩), (288, ⟨41, .live, false, [(vI (nth E_Siibe (nth E_LSiibe a0.f0 y22) y32).f0), (vI (nth E_Siibe (nth E_LSiibe a0.f0 y22) y32).f1), (.val (.bool (nth E_Siibe (nth E_LSiibe a0.f0 y22) y32).f2))]⟩), (q29_12 v46), (1904, ⟨57, .live, true, flat E_B v47.2⟩), (2080, ⟨64, .live, true, flat E_i ([(w64 ((if (nth E_Siibe (nth E_LSiibe a0.f0 y22) y32).f2 then (w64 (v46.1 + 1)) else v46.1) + v47.1))] : List Int)⟩)]) (ep := 65) (by kernel_rfl) ?_
                              obtain ⟨hb49, h⟩ := gS h
                              refine .oo tabOk rfl rfl rfl (q_app E_i (l := y28) rfl rfl rfl rfl rfl rfl rfl rfl rfl rfl rfl rfl rfl (.row ([(w64 ((if (nth E_Siibe (nth E_LSiibe a0.f0 y22) y32).f2 then (w64 (v46.1 + 1)) else v46.1) + v47.1))] : List Int) rfl rfl rfl rfl) hb49) ?_
                              refine .seg tabOk 6 1 [1, 4, 11, 12, 13, 14, 16, 18, 20, 22, 68, 69, 70, 74, 75, 76] [16, 207, 223, 239, 288, 1776, 1904, 2096] (t := [(1, (.ptr (16, 1) 0)), (4, (vI y21)), (11, (.sref (2096, 65) 0 (y28 ++ ([(w64 ((if (nth E_Siibe (nth E_LSiibe a0.f0 y22) y32).f2 then (w64 (v46.1 + 1)) else v46.1) + v47.1))] : List Int)).length 1)), (12, (.sref (207, 30) 0 y29.length 1)), (13, (.sref (223, 30) 0 y30.length 1)), (14, (.sref (239, 30) 0 y19.length 1)), (16, (.ro 3 (nth E_LSiibe a0.f0 y22).length (flat E_Siibe (nth E_LSiibe a0.f0 y22)))), (18, (.ptr (288, 41) 0)), (q29_13 v46), (22, (.sref (1904, 57) 0 v47.2.length 1)), (q29_5 a0), (q29_8 a0), (70, (vI y22)), (74, (.ro 3 (nth E_LSiibe a0.f0 y22).length (flat E_Siibe (nth E_LSiibe a0.f0 y22)))), (75, (vI ((nth E_LSiibe a0.f0 y22).length : Int))), (76, (vI y32))]) (h := [(q29_0 a0), (207, ⟨30, .live, true, flat E_B y29⟩), (223, ⟨30, .live, true, flat E_B y30⟩), (239, ⟨30, .live, true, flat E_B y19⟩), (288, ⟨41, .live, false, [(vI (nth E_Siibe (nth E_LSiibe a0.f0 y22) y32).f0), (vI (nth E_Siibe (nth E_LSiibe a0.f0 y22) y32).f1), (.val (.bool (nth E_Siibe (nth E_LSiibe a0.f0 y22) y32).f2))]⟩), (q29_12 v46), (1904, ⟨57, .live, true, flat E_B v47.2⟩), (2096, ⟨65, .live, true, flat E_i (y28 ++ ([(w64 ((if (nth E_Siibe (nth E_LSiibe a0.f0 y22) y32).f2 then (w64 (v46.1 + 1)) else v46.1) + v47.1))] : List Int))⟩)]) (ep := 66) (by kernel_rfl) ?_
                              refine .fin rfl ?_
                              refine sqN ?_
                              refine .seq ?_
                              refine .rgI rfl ?_
                              refine .seg tabOk 0 2 [1, 4, 11, 13, 14, 16, 18, 22, 68, 69, 70, 74, 75, 76, 132, 133] [16, 207, 223, 239, 288, 1776, 1904, 2096] (t := [(1, (.ptr (16, 1) 0)), (4, (vI y21)), (11, (.sref (2096, 65) 0 (y28 ++ ([(w64 ((if (nth E_Siibe (nth E_LSiibe a0.f0 y22) y32).f2 then (w64 (v46.1 + 1)) else v46.1) + v47.1))] : List Int)).length 1)), (13, (.sref (223, 30) 0 y30.length 1)), (14, (.sref (239, 30) 0 y19.length 1)), (16, (.ro 3 (nth E_LSiibe a0.f0 y22).length (flat E_Siibe (nth E_LSiibe a0.f0 y22)))), (18, (.ptr (288, 41) 0)), (22, (.sref (1904, 57) 0 v47.2.length 1)), (q29_5 a0), (q29_8 a0), (70, (vI y22)), (74, (.ro 3 (nth E_LSiibe a0.f0 y22).length (flat E_Siibe (nth E_LSiibe a0.f0 y22)))), (75, (vI ((nth E_LSiibe a0.f0 y22).length : Int))), (76, (vI y32)), (132, (.sref (207, 30) 0 y29.length 1)), (133, (.sref (1776, 54) 0 v46.2.length 1))]) (h := [(q29_0 a0), (207, ⟨30, .live, true, flat E_B y29⟩), (223, ⟨30, .live, true, flat E_B y30⟩), (239, ⟨30, .live, true, flat E_B y19⟩), (288, ⟨41, .live, false, [(vI (nth E_Siibe (nth E_LSiibe a0.f0 y22) y32).f0), (vI (nth E_Siibe (nth E_LSiibe a0.f0 y22) y32).f1), (.val (.bool (nth E_Siibe (nth E_LSiibe a0.f0 y22) y32).f2))]⟩), (q29_12 v46), (1904, ⟨57, .live, true, flat E_B v47.2⟩), (2096, ⟨65, .live, true, flat E_i (y28 ++ ([(w64 ((if (nth E_Siibe (nth E_LSiibe a0.f0 y22) y32).f2 then (w64 (v46.1 + 1)) else v46.1) + v47.1))] : List Int))⟩)]) (ep := 68) (by kernel_rfl) ?_
                              obtain ⟨hb50, h⟩ := gS h
                              refine .oo tabOk rfl rfl rfl (q_app E_B (l := y29) rfl rfl rfl rfl rfl rfl rfl rfl rfl rfl rfl rfl rfl (.row v46.2 rfl rfl rfl rfl) hb50) ?_
                              refine .seg tabOk 3 1 [1, 4, 11, 12, 13, 14, 16, 18, 22, 68, 69, 70, 74, 75, 76] [16, 223, 239, 288, 1904, 2096, 2144] (t := [(1, (.ptr (16, 1) 0)), (4, (vI y21)), (11, (.sref (2096, 65) 0 (y28 ++ ([(w64 ((if (nth E_Siibe (nth E_LSiibe a0.f0 y22) y32).f2 then (w64 (v46.1 + 1)) else v46.1) + v47.1))] : List Int)).length 1)), (12, (.sref (2144, 68) 0 (y29 ++ v46.2).length 1)), (13, (.sref (223, 30) 0 y30.length 1)), (14, (.sref (239, 30) 0 y19.length 1)), (16, (.ro 3 (nth E_LSiibe a0.f0 y22).length (flat E_Siibe (nth E_LSiibe a0.f0 y22)))), (18, (.ptr (288, 41) 0)), (22, (.sref (1904, 57) 0 v47.2.length 1)), (q29_5 a0), (q29_8 a0), (70, (vI y22)), (74, (.ro 3 (nth E_LSiibe a0.f0 y22).length (flat E_Siibe (nth E_LSiibe a0.f0 y22)))), (75, (vI ((nth E_LSiibe a0.f0 y22).length : Int))), (76, (vI y32))]) (h := [(q29_0 a0), (223, ⟨30, .live, true, flat E_B y30⟩), (239, ⟨30, .live, true, flat E_B y19⟩), (288, ⟨41, .live, false, [(vI (nth E_Siibe (nth E_LSiibe a0.f0 y22) y32).f0), (vI (nth E_Siibe (nth E_LSiibe a0.f0 y22) y32).f1), (.val (.bool (nth E_Siibe (nth E_LSiibe a0.f0 y22) y32).f2))]⟩), (1904, ⟨57, .live, true, flat E_B v47.2⟩), (2096, ⟨65, .live, true, flat E_i (y28 ++ ([(w64 ((if (nth E_Siibe (nth E_LSiibe a0.f0 y22) y32).f2 then (w64 (v46.1 + 1)) else v46.1) + v47.1))] : List Int))⟩), (2144, ⟨68, .live, true, flat E_B (y29 ++ v46.2)⟩)]) (ep := 69) (by kernel_rfl) ?_
                              refine .fin rfl ?_
                              refine sqN ?_
                              refine .seq ?_
                              refine .rgI rfl ?_
                              refine .seg tabOk 0 2 [1, 4, 11, 12, 14, 16, 18, 68, 69, 70, 74, 75, 76, 135, 136] [16, 223, 239, 288, 1904, 2096, 2144] (t := [(1, (.ptr (16, 1) 0)), (4, (vI y21)), (11, (.sref (2096, 65) 0 (y28 ++ ([(w64 ((if (nth E_Siibe (nth E_LSiibe a0.f0 y22) y32).f2 then (w64 (v46.1 + 1)) else v46.1) + v47.1))] : List Int)).length 1)), (12, (.sref (2144, 68) 0 (y29 ++ v46.2).length 1)), (14, (.sref (239, 30) 0 y19.length 1)), (16, (.ro 3 (nth E_LSiibe a0.f0 y22).length (flat E_Siibe (nth E_LSiibe a0.f0 y22)))), (18, (.ptr (288, 41) 0)), (q29_5 a0), (q29_8 a0), (70, (vI y22)), (74, (.ro 3 (nth E_LSiibe a0.f0 y22).length (flat E_Siibe (nth E_LSiibe a0.f0 y22)))), (75, (vI ((nth E_LSiibe a0.f0 y22).length : Int))), (76, (vI y32)), (135, (.sref (223, 30) 0 y30.length 1)), (136, (.sref (1904, 57) 0 v47.2.length 1))]) (h := [(q29_0 a0), (223, ⟨30, .live, true, flat E_B y30⟩), (239, ⟨30, .live, true, flat E_B y19⟩), (288, ⟨41, .live, false, [(vI (nth E_Siibe (nth E_LSiibe a0.f0 y22) y32).f0), (vI (nth E_Siibe (nth E_LSiibe a0.f0 y22) y32).f1), (.val (.bool (nth E_Siibe (nth E_LSiibe a0.f0 y22) y32).f2))]⟩), (1904, ⟨57, .live, true, flat E_B v47.2⟩), (2096, ⟨65, .live, true, flat E_i (y28 ++ ([(w64 ((if (nth E_Siibe (nth E_LSiibe a0.f0 y22) y32).f2 then (w64 (v46.1 + 1)) else v46.1) + v47.1))] : List Int))⟩), (2144, ⟨68, .live, true, flat E_B (y29 ++ v46.2)⟩)]) (ep := 71) (by kernel_rfl) ?_
                              obtain ⟨hb51, h⟩ := gS h
                              refine .oo tabOk rfl rfl rfl (q_app E_B (l := y30) rfl rfl rfl rfl rfl rfl rfl rfl rfl rfl rfl rfl rfl (.row v47.2 rfl rfl rfl rfl) hb51) ?_
                              refine .seg tabOk 3 1 [1, 4, 11, 12, 13, 14, 16, 18, 68, 69, 70, 74, 75, 76] [16, 239, 288, 2096, 2144, 2192] (t := [(1, (.ptr (16, 1) 0)), (4, (vI y21)), (11, (.sref (2096, 65) 0 (y28 ++ ([(w64 ((if (nth E_Siibe (nth E_LSiibe a0.f0 y22) y32).f2 then (w64 (v46.1 + 1)) else v46.1) + v47.1))] : List Int)).length 1)), (12, (.sref (2144, 68) 0 (y29 ++ v46.2).length 1)), (13, (.sref (2192, 71) 0 (y30 ++ v47.2).length 1)), (14, (.sref (239, 30) 0 y19.length 1)), (16, (.ro 3 (nth E_LSiibe a0.f0 y22).length (flat E_Siibe (nth E_LSiibe a0.f0 y22)))), (18, (.ptr (288, 41) 0)), (q29_5 a0), (q29_8 a0), (70, (vI y22)), (74, (.ro 3 (nth E_LSiibe a0.f0 y22).length (flat E_Siibe (nth E_LSiibe a0.f0 y22)))), (75, (vI ((nth E_LSiibe a0.f0 y22).length : Int))), (76, (vI y32))]) (h := [(q29_0 a0), (239, ⟨30, .live, true, flat E_B y19⟩), (288, ⟨41, .live, false, [(vI (nth E_Siibe (nth E_LSiibe a0.f0 y22) y32).f0), (vI (nth E_Siibe (nth E_LSiibe a0.f0 y22) y32).f1), (.val (.bool (nth E_Siibe (nth E_LSiibe a0.f0 y22) y32).f2))]⟩), (2096, ⟨65, .live, true, flat E_i (y28 ++ ([(w64 ((if (nth E_Siibe (nth E_LSiibe a0.f0 y22) y32).f2 then (w64 (v46.1 + 1)) else v46.1) + v47.1))] : List Int))⟩), (2144, ⟨68, .live, true, flat E_B (y29 ++ v46.2)⟩), (2192, ⟨71, .live, true, flat E_B (y30 ++ v47.2)⟩)]) (ep := 72) (by kernel_rfl) ?_
                              refine .fin rfl ?_
                              refine sqN ?_
                              refine .rgD rfl ?_
                              refine .seg tabOk 0 6 [1, 4, 9, 10, 11, 12, 13, 14, 16, 68, 69, 70, 74, 75, 76] [16, 239, 288, 2096, 2144, 2192] (t := [(1, (.ptr (16, 1) 0)), (4, (vI y21)), (9, (vI (nth E_Siibe (nth E_LSiibe a0.f0 y22) y32).f0)), (10, (vI (nth E_Siibe (nth E_LSiibe a0.f0 y22) y32).f1)), (11, (.sref (2096, 65) 0 (y28 ++ ([(w64 ((if (nth E_Siibe (nth E_LSiibe a0.f0 y22) y32).f2 then (w64 (v46.1 + 1)) else v46.1) + v47.1))] : List Int)).length 1)), (12, (.sref (2144, 68) 0 (y29 ++ v46.2).length 1)), (13, (.sref (2192, 71) 0 (y30 ++ v47.2).length 1)), (14, (.sref (239, 30) 0 y19.length 1)), (16, (.ro 3 (nth E_LSiibe a0.f0 y22).length (flat E_Siibe (nth E_LSiibe a0.f0 y22)))), (q29_5 a0), (q29_8 a0), (70, (vI y22)), (74, (.ro 3 (nth E_LSiibe a0.f0 y22).length (flat E_Siibe (nth E_LSiibe a0.f0 y22)))), (75, (vI ((nth E_LSiibe a0.f0 y22).length : Int))), (76, (vI y32))]) (h := [(q29_0 a0), (239, ⟨30, .live, true, flat E_B y19⟩), (288, ⟨41, .live, false, [(vI (nth E_Siibe (nth E_LSiibe a0.f0 y22) y32).f0), (vI (nth E_Siibe (nth E_LSiibe a0.f0 y22) y32).f1), (.val (.bool (nth E_Siibe (nth E_LSiibe a0.f0 y22) y32).f2))]⟩), (2096, ⟨65, .live, true, flat E_i (y28 ++ ([(w64 ((if (nth E_Siibe (nth E_LSiibe a0.f0 y22) y32).f2 then (w64 (v46.1 + 1)) else v46.1) + v47.1))] : List Int))⟩), (2144, ⟨68, .live, true, flat E_B (y29 ++ v46.2)⟩), (2192, ⟨71, .live, true, flat E_B (y30 ++ v47.2)⟩)]) (ep := 73) (by kernel_rfl) ?_
                              refine .fin mixed [1, 4, 9, 10, 11, 12, 13, 14, 16, 68, 69, 70, 74, 75, 76] [16, 239, 2096, 2144, 2192] (t := [(1, (.ptr (16, 1) 0)), (4, (vI y21)), (9, (vI (nth E_Siibe (nth E_LSiibe a0.f0 y22) y32).f0)), (10, (vI (nth E_Siibe (nth E_LSiibe a0.f0 y22) y32).f1)), (11, (.sref (2096, 65) 0 (y28 ++ ([(w64 ((if (nth E_Siibe (nth E_LSiibe a0.f0 y22) y32).f2 then (w64 (v46.1 + 1)) else v46.1) + v47.1))] : List Int)).length 1)), (12, (.sref (2144, 68) 0 (y29 ++ v46.2).length 1)), (13, (.sref (2192, 71) 0 (y30 ++ v47.2).length 1)), (14, (.sref (239, 30) 0 y19.length 1)), (16, (.ro 3 (nth E_LSiibe a0.f0 y22).length (flat E_Siibe (nth E_LSiibe a0.f0 y22)))), (q29_5 a0), (q29_8 a0), (70, (vI y22)), (74, (.ro 3 (nth E_LSiibe a0.f0 y22).length (flat E_Siibe (nth E_LSiibe a0.f0 y22)))), (75, (vI ((nth E_LSiibe a0.f0 y22).length : Int))), (76, (vI y32))]) (h := [(q29_0 a0), (239, ⟨30, .live, true, flat E_B y19⟩), (2096, ⟨65, .live, true, flat E_i (y28 ++ ([(w64 ((if (nth E_Siibe (nth E_LSiibe a0.f0 y22) y32).f2 then (w64 (v46.1 + 1)) else v46.1) + v47.1))] : List Int))⟩), (2144, ⟨68, .live, true, flat E_B (y29 ++ v46.2)⟩), (2192, ⟨71, .live, true, flat E_B (y30 ++ v47.2)⟩)]) (ep := 74) rfl (by kernel_rfl) rfl ?_
                              refine bkN ?_
                              refine sqN ?_
                              refine .rgI rfl ?_
                              refine .seg tabOk 0 2 [1, 4, 9, 10, 11, 12, 13, 14, 16, 68, 69, 70, 74, 75, 76] [16, 239, 2096, 2144, 2192] (t := [(1, (.ptr (16, 1) 0)), (4, (vI y21)), (9, (vI (nth E_Siibe (nth E_LSiibe a0.f0 y22) y32).f0)), (10, (vI (nth E_Siibe (nth E_LSiibe a0.f0 y22) y32).f1)), (11, (.sref (2096, 65) 0 (y28 ++ ([(w64 ((if (nth E_Siibe (nth E_LSiibe a0.f0 y22) y32).f2 then (w64 (v46.1 + 1)) else v46.1) + v47.1))] : List Int)).length 1)), (12, (.sref (2144, 68) 0 (y29 ++ v46.2).length 1)), (13, (.sref (2192, 71) 0 (y30 ++ v47.2).length 1)), (14, (.sref (239, 30) 0 y19.length 1)), (16, (.ro 3 (nth E_LSiibe a0.f0 y22).length (flat E_Siibe (nth E_LSiibe a0.f0 y22)))), (q29_5 a0), (q29_8 a0), (70, (vI y22)), (74, (.ro 3 (nth E_LSiibe a0.f0 y22).length (flat E_Siibe (nth E_LSiibe a0.f0 y22)))), (75, (vI ((nth E_LSiibe a0.f0 y22).length : Int))), (76, (vI (w64 (y32 + 1))))]) (h := [(q29_0 a0), (239, ⟨30, .live, true, flat E_B y19⟩), (2096, ⟨65, .live, true, flat E_i (y28 ++ ([(w64 ((if (nth E_Siibe (nth E_LSiibe a0.f0 y22) y32).f2 then (w64 (v46.1 + 1)) else v46.1) + v47.1))] : List Int))⟩), (2144, ⟨68, .live, true, flat E_B (y29 ++ v46.2)⟩), (2192, ⟨71, .live, true, flat E_B (y30 ++ v47.2)⟩)]) (ep := 76) (by kernel_rfl) ?_
                              refine .fin rfl ?_
                              exact jkN (by exact .tn [((16, 1), (16, 1)), ((2096, 65), (191, 30)), ((2144, 68), (207, 30)), ((2192, 71), (223, 30)), ((239, 30), (239, 30))] ⟨rfl, rfl, rfl, rfl, rfl, rfl, rfl, rfl, rfl, rfl, rfl, rfl, rfl, rfl, rfl, trivial⟩ ⟨rfl, ⟨_, rfl, rfl⟩, ⟨rfl, ⟨_, rfl, ah_row E_i⟩, ⟨rfl, ⟨_, rfl, ah_row E_B⟩, ⟨rfl, ⟨_, rfl, ah_row E_B⟩, ⟨rfl, ⟨_, rfl, ah_row E_B⟩, trivial⟩⟩⟩⟩⟩ rfl) ⟨n, ((y28 ++ ([(w64 ((if (nth E_Siibe (nth E_LSiibe a0.f0 y22) y32).f2 then (w64 (v46.1 + 1)) else v46.1) + v47.1))] : List Int)), (y29 ++ v46.2), (y30 ++ v47.2), (nth E_Siibe (nth E_LSiibe a0.f0 y22) y32).f1, (w64 (y32 + 1)), (nth E_Siibe (nth E_LSiibe a0.f0 y22) y32).f0), Nat.lt_succ_self n, rfl, h⟩
                      · have h := iF h hc34
                        refine .exit ?_
                        refine sqX ?_
                        refine jkX ?_
                        refine bkE ?_
                        exact jkN (by exact .tn [((16, 1), (16, 1)), ((191, 30), (191, 30)), ((207, 30), (207, 30)), ((223, 30), (223, 30)), ((239, 30), (239, 30))] ⟨rfl, rfl, rfl, rfl, rfl, rfl, rfl, rfl, rfl, rfl, rfl, rfl, trivial⟩ ⟨rfl, ⟨_, rfl, rfl⟩, ⟨rfl, ⟨_, rfl, ah_row E_i⟩, ⟨rfl, ⟨_, rfl, ah_row E_B⟩, ⟨rfl, ⟨_, rfl, ah_row E_B⟩, ⟨rfl, ⟨_, rfl, ah_row E_B⟩, trivial⟩⟩⟩⟩⟩ rfl) ⟨_, _, _, _, _, rfl, h⟩
                  · rintro _ ⟨x52, x53, x54, x55, x56, rfl, h⟩
                    subst hj27
                    refine sqN ?_
                    refine .seq ?_
                    refine .rgI rfl ?_
                    refine .seg tabOk 0 5 [1, 4, 9, 10, 11, 12, 13, 14, 68, 69, 70] [16, 191, 207, 223, 239] (t := [(1, (.ptr (16, 1) 0)), (4, (vI (w64 (y21 + ((nth E_LSiibe a0.f0 y22).length : Int))))), (9, (vI x56)), (10, (vI x55)), (q29_20 x52), (12, (.sref (207, 30) 0 x53.length 1)), (13, (.sref (223, 30) 0 x54.length 1)), (14, (.sref (239, 30) 0 y19.length 1)), (q29_5 a0), (q29_8 a0), (70, (vI y22))]) (h := [(q29_0 a0), (q29_21 x52), (207, ⟨30, .live, true, flat E_B x53⟩), (223, ⟨30, .live, true, flat E_B x54⟩), (239, ⟨30, .live, true, flat E_B y19⟩)]) (ep := 43) (by kernel_rfl) ?_
                    refine .fin rfl ?_
                    refine sqN ?_
                    refine .rgI rfl ?_
                    refine .seg tabOk 0 3 [1, 4, 9, 10, 11, 12, 13, 68, 69, 70, 147, 149] [16, 191, 207, 223, 239] (t := [(1, (.ptr (16, 1) 0)), (4, (vI (w64 (y21 + ((nth E_LSiibe a0.f0 y22).length : Int))))), (9, (vI x56)), (10, (vI x55)), (q29_20 x52), (12, (.sref (207, 30) 0 x53.length 1)), (13, (.sref (223, 30) 0 x54.length 1)), (q29_5 a0), (q29_8 a0), (70, (vI y22)), (147, (.sref (239, 30) 0 y19.length 1)), (149, (vI (w64 ((w64 (y21 + ((nth E_LSiibe a0.f0 y22).length : Int))) - 1))))]) (h := [(q29_0 a0), (q29_21 x52), (207, ⟨30, .live, true, flat E_B x53⟩), (223, ⟨30, .live, true, flat E_B x54⟩), (239, ⟨30, .live, true, flat E_B y19⟩)]) (ep := 45) (by kernel_rfl) ?_
                    obtain ⟨v57, hv57, h⟩ := bS h
                    refine .cc true rfl rfl (C_r02_Put _ _ _ _ hv57) ent_r02_Put rfl rfl rfl rfl (g_cons (g_pl rfl rfl) (g_cons (g_pl rfl rfl) g_nil)) rfl ?_
                    obtain ⟨hb58, h⟩ := gS h
                    refine .oo tabOk rfl rfl rfl (q_app E_B (l := y19) rfl rfl rfl rfl rfl rfl rfl rfl rfl rfl rfl rfl rfl (.row v57 rfl rfl rfl rfl) hb58) ?_
                    refine .seg tabOk 5 1 [1, 4, 9, 10, 11, 12, 13, 14, 68, 69, 70] [16, 191, 207, 223, 2416] (t := [(1, (.ptr (16, 1) 0)), (4, (vI (w64 (y21 + ((nth E_LSiibe a0.f0 y22).length : Int))))), (9, (vI x56)), (10, (vI x55)), (q29_20 x52), (12, (.sref (207, 30) 0 x53.length 1)), (13, (.sref (223, 30) 0 x54.length 1)), (14, (.sref (2416, 45) 0 (y19 ++ v57).length 1)), (q29_5 a0), (q29_8 a0), (70, (vI y22))]) (h := [(q29_0 a0), (q29_21 x52), (207, ⟨30, .live, true, flat E_B x53⟩), (223, ⟨30, .live, true, flat E_B x54⟩), (2416, ⟨45, .live, true, flat E_B (y19 ++ v57)⟩)]) (ep := 46) (by kernel_rfl) ?_
                    refine .fin rfl ?_
                    refine bkN ?_
                    exact jkN (by exact .tn [((16, 1), (16, 1)), ((191, 30), (191, 30)), ((207, 30), (207, 30)), ((223, 30), (223, 30)), ((2416, 45), (2416, 45))] ⟨rfl, rfl, rfl, rfl, rfl, rfl, rfl, rfl, rfl, rfl, rfl, trivial⟩ ⟨rfl, ⟨_, rfl, rfl⟩, ⟨rfl, ⟨_, rfl, ah_row E_i⟩, ⟨rfl, ⟨_, rfl, ah_row E_B⟩, ⟨rfl, ⟨_, rfl, ah_row E_B⟩, ⟨rfl, ⟨_, rfl, ah_row E_B⟩, trivial⟩⟩⟩⟩⟩ rfl) ⟨_, _, _, _, _, _, rfl, h⟩
                · rintro _ ⟨x59, x60, x61, x62, x63, x64, rfl, h⟩
                  subst hj25
                  refine sqN ?_
                  refine .rgI rfl ?_
                  refine .seg tabOk 0 2 [1, 4, 9, 10, 11, 12, 13, 14, 68, 69, 70] [16, 191, 207, 223, 2416] (t := [(1, (.ptr (16, 1) 0)), (4, (vI (w64 (y21 + ((nth E_LSiibe a0.f0 y22).length : Int))))), (9, (vI x64)), (10, (vI x63)), (11, (.sref (191, 30) 0 x59.length 1)), (12, (.sref (207, 30) 0 x60.length 1)), (13, (.sref (223, 30) 0 x61.length 1)), (14, (.sref (2416, 45) 0 x62.length 1)), (q29_5 a0), (q29_8 a0), (70, (vI (w64 (y22 + 1))))]) (h := [(q29_0 a0), (191, ⟨30, .live, true, flat E_i x59⟩), (207, ⟨30, .live, true, flat E_B x60⟩), (223, ⟨30, .live, true, flat E_B x61⟩), (2416, ⟨45, .live, true, flat E_B x62⟩)]) (ep := 49) (by kernel_rfl) ?_
                  refine .fin rfl ?_
                  exact jkN (by exact .tn [((16, 1), (16, 1)), ((191, 30), (191, 30)), ((207, 30), (207, 30)), ((223, 30), (223, 30)), ((2416, 45), (239, 30))] ⟨rfl, rfl, rfl, rfl, rfl, rfl, rfl, rfl, rfl, rfl, rfl, trivial⟩ ⟨rfl, ⟨_, rfl, rfl⟩, ⟨rfl, ⟨_, rfl, ah_row E_i⟩, ⟨rfl, ⟨_, rfl, ah_row E_B⟩, ⟨rfl, ⟨_, rfl, ah_row E_B⟩, ⟨rfl, ⟨_, rfl, ah_row E_B⟩, trivial⟩⟩⟩⟩⟩ rfl) ⟨n, (x59, x60, x61, x62, x63, (w64 (y21 + ((nth E_LSiibe a0.f0 y22).length : Int))), (w64 (y22 + 1)), x64), Nat.lt_succ_self n, rfl, h⟩
              · have h := iF h hc24
                refine .exit ?_
                refine sqX ?_
                refine jkX ?_
                refine bkE ?_
                exact jkN (by exact .tn [((16, 1), (16, 1)), ((191, 30), (191, 33)), ((207, 30), (207, 33)), ((223, 30), (223, 33)), ((239, 30), (239, 33))] ⟨rfl, rfl, rfl, rfl, rfl, trivial⟩ ⟨rfl, ⟨_, rfl, rfl⟩, ⟨rfl, ⟨_, rfl, ah_row E_i⟩, ⟨rfl, ⟨_, rfl, ah_row E_B⟩, ⟨rfl, ⟨_, rfl, ah_row E_B⟩, ⟨rfl, ⟨_, rfl, ah_row E_B⟩, trivial⟩⟩⟩⟩⟩ rfl) ⟨_, _, _, _, rfl, h⟩
          · rintro _ ⟨x65, x66, x67, x68, rfl, h⟩
            subst hj15
            refine sqN ?_
            refine .seq ?_
            refine .rgI rfl ?_
            refine .seg tabOk 0 2 [1, 11, 12, 13, 14, 155] [16, 191, 207, 223, 239] (t := [(1, (.ptr (16, 1) 0)), (q29_6 x65), (q29_3 x66), (q29_1 x67), (q29_11 x68), (155, (.ro 1 a0.f0.length (flat E_LSiibe a0.f0)))]) (h := [(q29_0 a0), (q29_7 x65), (q29_4 x66), (q29_2 x67), (q29_9 x68)]) (ep := 36) (by kernel_rfl) ?_
            obtain ⟨v69, hv69, h⟩ := bS h
            refine .cc true rfl rfl (C_r07_Box _ _ _ hv69) ent_r07_Box rfl rfl rfl rfl (g_cons (g_pl rfl rfl) g_nil) rfl ?_
            refine .seg tabOk 3 7 [1, 11, 12, 13, 14, 23, 24] [16, 191, 207, 223, 239, 368, 384] (t := [(1, (.ptr (16, 1) 0)), (q29_6 x65), (q29_3 x66), (q29_1 x67), (q29_11 x68), (23, (.ptr (368, 36) 0)), (24, (.ptr (384, 36) 0))]) (h := [(q29_0 a0), (q29_7 x65), (q29_4 x66), (q29_2 x67), (q29_9 x68), (q29_18 v69), (q29_19 v69)]) (ep := 37) (by kernel_rfl) ?_
            refine .fin rfl ?_
            refine sqN ?_
            refine .seq ?_
            refine .rgI rfl ?_
            refine .seg tabOk 0 3 [1, 11, 12, 13, 14, 23, 24, 161] [16, 191, 207, 223, 239, 368, 384] (t := [(1, (.ptr (16, 1) 0)), (q29_6 x65), (q29_3 x66), (q29_1 x67), (q29_11 x68), (23, (.ptr (368, 36) 0)), (24, (.ptr (384, 36) 0)), (161, (vI (a0.f0.length : Int)))]) (h := [(q29_0 a0), (q29_7 x65), (q29_4 x66), (q29_2 x67), (q29_9 x68), (q29_18 v69), (q29_19 v69)]) (ep := 39) (by kernel_rfl) ?_
            obtain ⟨v70, hv70, h⟩ := bS h
            refine .cc true rfl rfl (C_r02_Put _ _ _ _ hv70) ent_r02_Put rfl rfl rfl rfl (g_cons (g_pl rfl rfl) (g_cons (g_pl rfl rfl) g_nil)) rfl ?_
            refine .seg tabOk 4 1 [1, 11, 12, 13, 14, 23, 24, 25] [16, 191, 207, 223, 239, 368, 384, 2592] (t := [(1, (.ptr (16, 1) 0)), (q29_6 x65), (q29_3 x66), (q29_1 x67), (q29_11 x68), (23, (.ptr (368, 36) 0)), (24, (.ptr (384, 36) 0)), (25, (.sref (2592, 39) 0 v70.length 1))]) (h := [(q29_0 a0), (q29_7 x65), (q29_4 x66), (q29_2 x67), (q29_9 x68), (q29_18 v69), (q29_19 v69), (2592, ⟨39, .live, true, flat E_B v70⟩)]) (ep := 40) (by kernel_rfl) ?_
            refine .fin rfl ?_
            refine sqN ?_
            refine .seq ?_
            refine .seq ?_
            refine .rgI rfl ?_
            refine .seg tabOk 0 10 [1, 11, 12, 13, 14, 25, 171, 172] [16, 191, 207, 223, 239, 2592] (t := [(1, (.ptr (16, 1) 0)), (q29_6 x65), (q29_3 x66), (q29_1 x67), (q29_11 x68), (25, (.sref (2592, 39) 0 v70.length 1)), (q29_10 v69), (172, (vI 0))]) (h := [(q29_0 a0), (q29_7 x65), (q29_4 x66), (q29_2 x67), (q29_9 x68), (2592, ⟨39, .live, true, flat E_B v70⟩)]) (ep := 42) (by kernel_rfl) ?_
            refine .fin rfl ?_
            refine sqN ?_
            obtain ⟨j71, hj71, h⟩ := ljS h
            refine .join (fun s' => ∃ x78, s' = ⟨[(1, (.ptr (16, 1) 0)), (q29_6 x65), (q29_3 x66), (q29_1 x67), (q29_11 x68), (25, (.sref (2592, 39) 0 x78.length 1))], [(q29_0 a0), (q29_7 x65), (q29_4 x66), (q29_2 x67), (q29_9 x68), (2592, ⟨39, .live, true, flat E_B x78⟩)], 46⟩ ∧ j71 x78 = some r) ?_ ?_
            · refine .block ?_
              refine .loopF (β := (List Int) × Int) (fun v => ⟨[(1, (.ptr (16, 1) 0)), (q29_6 x65), (q29_3 x66), (q29_1 x67), (q29_11 x68), (25, (.sref (2592, 39) 0 v.1.length 1)), (q29_10 v69), (172, (vI v.2))], [(q29_0 a0), (q29_7 x65), (q29_4 x66), (q29_2 x67), (q29_9 x68), (2592, ⟨39, .live, true, flat E_B v.1⟩)], 43⟩) (fun m v => L_r07_Write_4 v69 j71 m v.1 v.2 = some r) n (v70, 0) (by exact .tn [((16, 1), (16, 1)), ((191, 33), (191, 33)), ((207, 33), (207, 33)), ((223, 33), (223, 33)), ((239, 33), (239, 33)), ((2592, 39), (2592, 39))] ⟨rfl, rfl, rfl, rfl, rfl, rfl, rfl, rfl, trivial⟩ ⟨rfl, ⟨_, rfl, rfl⟩, ⟨rfl, ⟨_, rfl, ah_row E_i⟩, ⟨rfl, ⟨_, rfl, ah_row E_B⟩, ⟨rfl, ⟨_, rfl, ah_row E_B⟩, ⟨rfl, ⟨_, rfl, ah_row E_B⟩, ⟨rfl, ⟨_, rfl, ah_row E_B⟩, trivial⟩⟩⟩⟩⟩⟩ rfl) h ?_
              rintro m ⟨y72, y73⟩ h
              cases m with
              | zero => exact nomatch h
              | succ n =>
                rw [L_r07_Write_4] at h
                refine .seq ?_
                refine .rgI rfl ?_
                refine .seg tabOk 0 1 [1, 11, 12, 13, 14, 25, 171, 172, 173] [16, 191, 207, 223, 239, 2592] (t := [(1, (.ptr (16, 1) 0)), (q29_6 x65), (q29_3 x66), (q29_1 x67), (q29_11 x68), (25, (.sref (2592, 39) 0 y72.length 1)), (q29_10 v69), (172, (vI y73)), (173, (.val (.bool (decide (y73 < 4)))))]) (h := [(q29_0 a0), (q29_7 x65), (q29_4 x66), (q29_2 x67), (q29_9 x68), (2592, ⟨39, .live, true, flat E_B y72⟩)]) (ep := 45) (by kernel_rfl) ?_
                refine .fin rfl ?_
                refine sqN ?_
                refine .seq ?_
                refine .cond (decide (y73 < 4)) rfl (fun hc74 => ?_) (fun hc74 => ?_)
                · have h := iT h hc74
                  refine .skip ?_
                  refine sqN ?_
                  refine .seq ?_
                  refine .block ?_
                  refine .seq ?_
                  refine .rgI rfl ?_
                  obtain ⟨hb75, h⟩ := gS h
                  refine .oo tabOk rfl rfl rfl (q_ixA E_i (l := ([v69.1.f0, v69.1.f1, v69.2.f0, v69.2.f1] : List Int)) rfl rfl rfl rfl rfl rfl rfl hb75 rfl) ?_
                  refine .seg tabOk 1 1 [1, 11, 12, 13, 14, 25, 27, 171, 172] [16, 191, 207, 223, 239, 2592] (t := [(1, (.ptr (16, 1) 0)), (q29_6 x65), (q29_3 x66), (q29_1 x67), (q29_11 x68), (25, (.sref (2592, 39) 0 y72.length 1)), (27, (vI (nth E_i ([v69.1.f0, v69.1.f1, v69.2.f0, v69.2.f1] : List Int) y73))), (q29_10 v69), (172, (vI y73))]) (h := [(q29_0 a0), (q29_7 x65), (q29_4 x66), (q29_2 x67), (q29_9 x68), (2592, ⟨39, .live, true, flat E_B y72⟩)]) (ep := 47) (by kernel_rfl) ?_
                  refine .fin rfl ?_
                  refine sqN ?_
                  refine .rgI rfl ?_
                  refine .seg tabOk 0 2 [1, 11, 12, 13, 14, 171, 172, 175, 176] [16, 191, 207, 223, 239, 2592] (t := [(1, (.ptr (16, 1) 0)), (q29_6 x65), (q29_3 x66), (q29_1 x67), (q29_11 x68), (q29_10 v69), (172, (vI y73)), (175, (.sref (2592, 39) 0 y72.length 1)), (176, (vI (nth E_i ([v69.1.f0, v69.1.f1, v69.2.f0, v69.2.f1] : List Int) y73)))]) (h := [(q29_0 a0), (q29_7 x65), (q29_4 x66), (q29_2 x67), (q29_9 x68), (2592, ⟨39, .live, true, flat E_B y72⟩)]) (ep := 49) (by kernel_rfl) ?_
                  obtain ⟨v76, hv76, h⟩ := bS h
                  refine .cc true rfl rfl (C_r02_Put _ _ _ _ hv76) ent_r02_Put rfl rfl rfl rfl (g_cons (g_pl rfl rfl) (g_cons (g_pl rfl rfl) g_nil)) rfl ?_
                  obtain ⟨hb77, h⟩ := gS h
                  refine .oo tabOk rfl rfl rfl (q_app E_B (l := y72) rfl rfl rfl rfl rfl rfl rfl rfl rfl rfl rfl rfl rfl (.row v76 rfl rfl rfl rfl) hb77) ?_
                  refine .seg tabOk 4 1 [1, 11, 12, 13, 14, 25, 171, 172] [16, 191, 207, 223, 239, 2848] (t := [(1, (.ptr (16, 1) 0)), (q29_6 x65), (q29_3 x66), (q29_1 x67), (q29_11 x68), (25, (.sref (2848, 49) 0 (y72 ++ v76).length 1)), (q29_10 v69), (172, (vI y73))]) (h := [(q29_0 a0), (q29_7 x65), (q29_4 x66), (q29_2 x67), (q29_9 x68), (2848, ⟨49, .live, true, flat E_B (y72 ++ v76)⟩)]) (ep := 50) (by kernel_rfl) ?_
                  refine .fin rfl ?_
                  refine bkN ?_
                  refine sqN ?_
                  refine .rgI rfl ?_
                  refine .seg tabOk 0 2 [1, 11, 12, 13, 14, 25, 171, 172] [16, 191, 207, 223, 239, 2848] (t := [(1, (.ptr (16, 1) 0)), (q29_6 x65), (q29_3 x66), (q29_1 x67), (q29_11 x68), (25, (.sref (2848, 49) 0 (y72 ++ v76).length 1)), (q29_10 v69), (172, (vI (w64 (y73 + 1))))]) (h := [(q29_0 a0), (q29_7 x65), (q29_4 x66), (q29_2 x67), (q29_9 x68), (2848, ⟨49, .live, true, flat E_B (y72 ++ v76)⟩)]) (ep := 52) (by kernel_rfl) ?_
                  refine .fin rfl ?_
                  exact jkN (by exact .tn [((16, 1), (16, 1)), ((191, 33), (191, 33)), ((207, 33), (207, 33)), ((223, 33), (223, 33)), ((239, 33), (239, 33)), ((2848, 49), (2592, 39))] ⟨rfl, rfl, rfl, rfl, rfl, rfl, rfl, rfl, trivial⟩ ⟨rfl, ⟨_, rfl, rfl⟩, ⟨rfl, ⟨_, rfl, ah_row E_i⟩, ⟨rfl, ⟨_, rfl, ah_row E_B⟩, ⟨rfl, ⟨_, rfl, ah_row E_B⟩, ⟨rfl, ⟨_, rfl, ah_row E_B⟩, ⟨rfl, ⟨_, rfl, ah_row E_B⟩, trivial⟩⟩⟩⟩⟩⟩ rfl) ⟨n, ((y72 ++ v76), (w64 (y73 + 1))), Nat.lt_succ_self n, rfl, h⟩
                · have h := iF h hc74
                  refine .exit ?_
                  refine sqX ?_
                  refine jkX ?_
                  refine bkE ?_
                  exact jkN (by exact .tn [((16, 1), (16, 1)), ((191, 33), (191, 33)), ((207, 33), (207, 33)), ((223, 33), (223, 33)), ((239, 33), (239, 33)), ((2592, 39), (2592, 39))] ⟨rfl, rfl, rfl, rfl, rfl, rfl, trivial⟩ ⟨rfl, ⟨_, rfl, rfl⟩, ⟨rfl, ⟨_, rfl, ah_row E_i⟩, ⟨rfl, ⟨_, rfl, ah_row E_B⟩, ⟨rfl, ⟨_, rfl, ah_row E_B⟩, ⟨rfl, ⟨_, rfl, ah_row E_B⟩, ⟨rfl, ⟨_, rfl, ah_row E_B⟩, trivial⟩⟩⟩⟩⟩⟩ rfl) ⟨_, rfl, h⟩
            · rintro _ ⟨x78, rfl, h⟩
              subst hj71
              refine sqN ?_
              refine .seq ?_
              refine .rgI rfl ?_
              refine .seg tabOk 0 2 [1, 11, 12, 13, 180, 181] [16, 191, 207, 223, 239, 2592] (t := [(1, (.ptr (16, 1) 0)), (q29_6 x65), (q29_3 x66), (q29_1 x67), (180, (.sref (2592, 39) 0 x78.length 1)), (181, (.sref (239, 33) 0 x68.length 1))]) (h := [(q29_0 a0), (q29_7 x65), (q29_4 x66), (q29_2 x67), (q29_9 x68), (2592, ⟨39, .live, true, flat E_B x78⟩)]) (ep := 48) (by kernel_rfl) ?_
              obtain ⟨hb79, h⟩ := gS h
              refine .oo tabOk rfl rfl rfl (q_app E_B (l := x78) rfl rfl rfl rfl rfl rfl rfl rfl rfl rfl rfl rfl rfl (.row x68 rfl rfl rfl rfl) hb79) ?_
              refine .seg tabOk 3 1 [1, 11, 12, 13, 25] [16, 191, 207, 223, 2912] (t := [(1, (.ptr (16, 1) 0)), (q29_6 x65), (q29_3 x66), (q29_1 x67), (25, (.sref (2912, 48) 0 (x78 ++ x68).length 1))]) (h := [(q29_0 a0), (q29_7 x65), (q29_4 x66), (q29_2 x67), (2912, ⟨48, .live, true, flat E_B (x78 ++ x68)⟩)]) (ep := 49) (by kernel_rfl) ?_
              refine .fin rfl ?_
              refine sqN ?_
              refine .seq ?_
              refine .rgI rfl ?_
              refine .seg tabOk 0 4 [1, 11, 12, 13, 183, 186] [16, 191, 207, 223, 2912] (t := [(1, (.ptr (16, 1) 0)), (q29_6 x65), (q29_3 x66), (q29_1 x67), (183, (.sref (2912, 48) 0 (x78 ++ x68).length 1)), (186, (vI (a0.f1.length : Int)))]) (h := [(q29_0 a0), (q29_7 x65), (q29_4 x66), (q29_2 x67), (2912, ⟨48, .live, true, flat E_B (x78 ++ x68)⟩)]) (ep := 51) (by kernel_rfl) ?_
              obtain ⟨v80, hv80, h⟩ := bS h
              refine .cc true rfl rfl (C_r02_Put _ _ _ _ hv80) ent_r02_Put rfl rfl rfl rfl (g_cons (g_pl rfl rfl) (g_cons (g_pl rfl rfl) g_nil)) rfl ?_
              obtain ⟨hb81, h⟩ := gS h
              refine .oo tabOk rfl rfl rfl (q_app E_B (l := (x78 ++ x68)) rfl rfl rfl rfl rfl rfl rfl rfl rfl rfl rfl rfl rfl (.row v80 rfl rfl rfl rfl) hb81) ?_
              refine .seg tabOk 6 1 [1, 11, 12, 13, 25] [16, 191, 207, 223, 3008] (t := [(1, (.ptr (16, 1) 0)), (q29_6 x65), (q29_3 x66), (q29_1 x67), (25, (.sref (3008, 51) 0 ((x78 ++ x68) ++ v80).length 1))]) (h := [(q29_0 a0), (q29_7 x65), (q29_4 x66), (q29_2 x67), (3008, ⟨51, .live, true, flat E_B ((x78 ++ x68) ++ v80)⟩)]) (ep := 52) (by kernel_rfl) ?_
              refine .fin rfl ?_
              refine sqN ?_
              refine .seq ?_
              refine .rgI rfl ?_
              refine .seg tabOk 0 3 [11, 12, 13, 189, 191] [191, 207, 223, 3008] (t := [(q29_6 x65), (q29_3 x66), (q29_1 x67), (189, (.sref (3008, 51) 0 ((x78 ++ x68) ++ v80).length 1)), (191, (.ro 1 a0.f1.length (flat E_B a0.f1)))]) (h := [(q29_7 x65), (q29_4 x66), (q29_2 x67), (3008, ⟨51, .live, true, flat E_B ((x78 ++ x68) ++ v80)⟩)]) (ep := 54) (by kernel_rfl) ?_
              obtain ⟨hb82, h⟩ := gS h
              refine .oo tabOk rfl rfl rfl (q_app E_B (l := ((x78 ++ x68) ++ v80)) rfl rfl rfl rfl rfl rfl rfl rfl rfl rfl rfl rfl rfl (.ro a0.f1) hb82) ?_
              refine .seg tabOk 4 1 [11, 12, 13, 25] [191, 207, 223, 3072] (t := [(q29_6 x65), (q29_3 x66), (q29_1 x67), (25, (.sref (3072, 54) 0 (((x78 ++ x68) ++ v80) ++ a0.f1).length 1))]) (h := [(q29_7 x65), (q29_4 x66), (q29_2 x67), (3072, ⟨54, .live, true, flat E_B (((x78 ++ x68) ++ v80) ++ a0.f1)⟩)]) (ep := 55) (by kernel_rfl) ?_
              refine .fin rfl ?_
              refine sqN ?_
              refine .seq ?_
              refine .seq ?_
              refine .rgI rfl ?_
              refine .seg tabOk 0 1 [11, 12, 13, 25, 28] [191, 207, 223, 3072] (t := [(q29_6 x65), (q29_3 x66), (q29_1 x67), (25, (.sref (3072, 54) 0 (((x78 ++ x68) ++ v80) ++ a0.f1).length 1)), (28, (vI 0))]) (h := [(q29_7 x65), (q29_4 x66), (q29_2 x67), (3072, ⟨54, .live, true, flat E_B (((x78 ++ x68) ++ v80) ++ a0.f1)⟩)]) (ep := 57) (by kernel_rfl) ?_
              refine .fin rfl ?_
              refine sqN ?_
              obtain ⟨j83, hj83, h⟩ := ljS h
              refine .join (fun s' => ∃ x107, s' = ⟨[(q29_3 x66), (q29_1 x67), (25, (.sref (3072, 54) 0 x107.length 1))], [(q29_4 x66), (q29_2 x67), (3072, ⟨54, .live, true, flat E_B x107⟩)], 61⟩ ∧ j83 x107 = some r) ?_ ?_
              · refine .block ?_
                refine .loopF (β := (List Int) × Int) (fun v => ⟨[(q29_6 x65), (q29_3 x66), (q29_1 x67), (25, (.sref (3072, 54) 0 v.1.length 1)), (28, (vI v.2))], [(q29_7 x65), (q29_4 x66), (q29_2 x67), (3072, ⟨54, .live, true, flat E_B v.1⟩)], 58⟩) (fun m v => L_r07_Write_5 x65 j83 m v.1 v.2 = some r) n ((((x78 ++ x68) ++ v80) ++ a0.f1), 0) (by exact .tn [((191, 33), (191, 33)), ((207, 33), (207, 33)), ((223, 33), (223, 33)), ((3072, 54), (3072, 54))] ⟨rfl, rfl, rfl, rfl, rfl, trivial⟩ ⟨rfl, ⟨_, rfl, ah_row E_i⟩, ⟨rfl, ⟨_, rfl, ah_row E_B⟩, ⟨rfl, ⟨_, rfl, ah_row E_B⟩, ⟨rfl, ⟨_, rfl, ah_row E_B⟩, trivial⟩⟩⟩⟩ rfl) h ?_
                rintro m ⟨y84, y85⟩ h
                cases m with
                | zero => exact nomatch h
                | succ n =>
                  rw [L_r07_Write_5] at h
                  refine .seq ?_
                  refine .seq ?_
                  refine .rgI rfl ?_
                  refine .seg tabOk 0 4 [11, 12, 13, 25, 28, 196] [191, 207, 223, 3072] (t := [(q29_6 x65), (q29_3 x66), (q29_1 x67), (25, (.sref (3072, 54) 0 y84.length 1)), (28, (vI y85)), (196, (.val (.bool (decide (y85 < (x65.length : Int))))))]) (h := [(q29_7 x65), (q29_4 x66), (q29_2 x67), (3072, ⟨54, .live, true, flat E_B y84⟩)]) (ep := 60) (by kernel_rfl) ?_
                  refine .fin rfl ?_
                  refine sqN ?_
                  refine .cond (decide (y85 < (x65.length : Int))) rfl (fun hc86 => ?_) (fun hc86 => ?_)
                  · have h := iT h hc86
                    refine .skip ?_
                    refine sqN ?_
                    obtain ⟨j87, hj87, h⟩ := ljS h
                    refine .join (fun s' => ∃ x105 x106, s' = ⟨[(q29_6 x65), (q29_3 x66), (q29_1 x67), (25, (.sref (3760, 72) 0 x105.length 1)), (28, (vI x106))], [(q29_7 x65), (q29_4 x66), (q29_2 x67), (3760, ⟨72, .live, true, flat E_B x105⟩)], 77⟩ ∧ j87 x105 x106 = some r) ?_ ?_
                    · refine .block ?_
                      refine .seq ?_
                      refine .rgI rfl ?_
                      refine .seg tabOk 0 1 [11, 12, 13, 25, 28, 29] [191, 207, 223, 3072] (t := [(q29_6 x65), (q29_3 x66), (q29_1 x67), (25, (.sref (3072, 54) 0 y84.length 1)), (28, (vI y85)), (29, (vI 1))]) (h := [(q29_7 x65), (q29_4 x66), (q29_2 x67), (3072, ⟨54, .live, true, flat E_B y84⟩)]) (ep := 62) (by kernel_rfl) ?_
                      refine .fin rfl ?_
                      refine sqN ?_
                      refine .seq ?_
                      obtain ⟨j88, hj88, h⟩ := ljS h
                      refine .join (fun s' => ∃ x97, s' = ⟨[(q29_6 x65), (q29_3 x66), (q29_1 x67), (25, (.sref (3072, 54) 0 y84.length 1)), (28, (vI y85)), (29, (vI x97))], [(q29_7 x65), (q29_4 x66), (q29_2 x67), (3072, ⟨54, .live, true, flat E_B y84⟩)], 67⟩ ∧ j88 x97 = some r) ?_ ?_
                      · refine .block ?_
                        refine .loopF (β := Int) (fun v => ⟨[(q29_6 x65), (q29_3 x66), (q29_1 x67), (25, (.sref (3072, 54) 0 y84.length 1)), (28, (vI y85)), (29, (vI v))], [(q29_7 x65), (q29_4 x66), (q29_2 x67), (3072, ⟨54, .live, true, flat E_B y84⟩)], 63⟩) (fun m v => L_r07_Write_6 x65 y85 j88 m v = some r) n 1 (by exact .tn [((191, 33), (191, 33)), ((207, 33), (207, 33)), ((223, 33), (223, 33)), ((3072, 54), (3072, 54))] ⟨rfl, rfl, rfl, rfl, rfl, rfl, trivial⟩ ⟨rfl, ⟨_, rfl, ah_row E_i⟩, ⟨rfl, ⟨_, rfl, ah_row E_B⟩, ⟨rfl, ⟨_, rfl, ah_row E_B⟩, ⟨rfl, ⟨_, rfl, ah_row E_B⟩, trivial⟩⟩⟩⟩ rfl) h ?_
                        rintro m y89 h
                        cases m with
                        | zero => exact nomatch h
                        | succ n =>
                          rw [L_r07_Write_6] at h
                          refine .seq ?_
                          refine .seq ?_
                          obtain ⟨j95, hj95, h⟩ := ljS h
                          refine .join (fun s' => ∃ x94, s' = ⟨[(q29_6 x65), (q29_3 x66), (q29_1 x67), (25, (.sref (3072, 54) 0 y84.length 1)), (28, (vI y85)), (29, (vI y89)), (219, (.val (.bool x94)))], [(q29_7 x65), (q29_4 x66), (q29_2 x67), (3072, ⟨54, .live, true, flat E_B y84⟩)], 66⟩ ∧ j95 x94 = some r) ?_ ?_
                          · refine .rgD rfl ?_
                            refine .seg tabOk 0 7 [11, 12, 13, 25, 28, 29, 203] [191, 207, 223, 3072] (t := [(q29_6 x65), (q29_3 x66), (q29_1 x67), (25, (.sref (3072, 54) 0 y84.length 1)), (28, (vI y85)), (29, (vI y89)), (203, (.val (.bool (decide ((w64 (y85 + y89)) < (x65.length : Int))))))]) (h := [(q29_7 x65), (q29_4 x66), (q29_2 x67), (3072, ⟨54, .live, true, flat E_B y84⟩)]) (ep := 64) (by kernel_rfl) ?_
                            cases hB90 : (decide ((w64 (y85 + y89)) < (x65.length : Int))) with
                            | false =>
                              have h := iF h hB90
                              refine .seg tabOk 7 16 [11, 12, 13, 25, 28, 29, 219] [191, 207, 223, 3072] (t := [(q29_6 x65), (q29_3 x66), (q29_1 x67), (25, (.sref (3072, 54) 0 y84.length 1)), (28, (vI y85)), (29, (vI y89)), q29_22]) (h := [(q29_7 x65), (q29_4 x66), (q29_2 x67), (3072, ⟨54, .live, true, flat E_B y84⟩)]) (ep := 64) (by kernel_rfl) ?_
                              refine .fin mixed [11, 12, 13, 25, 28, 29, 219] [191, 207, 223, 3072] (t := [(q29_6 x65), (q29_3 x66), (q29_1 x67), (25, (.sref (3072, 54) 0 y84.length 1)), (28, (vI y85)), (29, (vI y89)), q29_22]) (h := [(q29_7 x65), (q29_4 x66), (q29_2 x67), (3072, ⟨54, .live, true, flat E_B y84⟩)]) (ep := 65) rfl (by kernel_rfl) rfl ?_
                              exact jkN (by exact .tn [((191, 33), (191, 33)), ((207, 33), (207, 33)), ((223, 33), (223, 33)), ((3072, 54), (3072, 54))] ⟨rfl, rfl, rfl, rfl, rfl, rfl, rfl, trivial⟩ ⟨rfl, ⟨_, rfl, ah_row E_i⟩, ⟨rfl, ⟨_, rfl, ah_row E_B⟩, ⟨rfl, ⟨_, rfl, ah_row E_B⟩, ⟨rfl, ⟨_, rfl, ah_row E_B⟩, trivial⟩⟩⟩⟩ rfl) ⟨_, rfl, h⟩
                            | true =>
                              have h := iT h hB90
                              refine .seg tabOk 7 4 [11, 12, 13, 25, 28, 29, 203, 204, 207] [191, 207, 223, 3072] (t := [(q29_6 x65), (q29_3 x66), (q29_1 x67), (25, (.sref (3072, 54) 0 y84.length 1)), (28, (vI y85)), (29, (vI y89)), (203, (.val (.bool true))), (204, (.sref (191, 33) 0 x65.length 1)), (207, (vI (w64 (y85 + y89))))]) (h := [(q29_7 x65), (q29_4 x66), (q29_2 x67), (3072, ⟨54, .live, true, flat E_B y84⟩)]) (ep := 64) (by kernel_rfl) ?_
                              obtain ⟨hb91, h⟩ := gS h
                              refine .oo tabOk rfl rfl rfl (q_idxS E_i (l := x65) rfl rfl rfl rfl rfl rfl rfl rfl hb91) rfl ?_
                              refine .oo tabOk rfl rfl rfl (q_ldS E_i (l := x65) rfl rfl rfl rfl rfl hb91 rfl) rfl ?_
                              refine .seg tabOk 13 2 [11, 12, 13, 25, 28, 29, 203, 209, 210, 211] [191, 207, 223, 3072] (t := [(q29_6 x65), (q29_3 x66), (q29_1 x67), (25, (.sref (3072, 54) 0 y84.length 1)), (28, (vI y85)), (29, (vI y89)), (203, (.val (.bool true))), (209, (vI (nth E_i x65 (w64 (y85 + y89))))), (210, (.sref (191, 33) 0 x65.length 1)), (211, (vI y85))]) (h := [(q29_7 x65), (q29_4 x66), (q29_2 x67), (3072, ⟨54, .live, true, flat E_B y84⟩)]) (ep := 64) (by kernel_rfl) ?_
                              obtain ⟨hb92, h⟩ := gS h
                              refine .oo tabOk rfl rfl rfl (q_idxS E_i (l := x65) rfl rfl rfl rfl rfl rfl rfl rfl hb92) rfl ?_
                              refine .oo tabOk rfl rfl rfl (q_ldS E_i (l := x65) rfl rfl rfl rfl rfl hb92 rfl) rfl ?_
                              refine .seg tabOk 17 3 [11, 12, 13, 25, 28, 29, 216] [191, 207, 223, 3072] (t := [(q29_6 x65), (q29_3 x66), (q29_1 x67), (25, (.sref (3072, 54) 0 y84.length 1)), (28, (vI y85)), (29, (vI y89)), (216, (.val (.bool (decide ((nth E_i x65 (w64 (y85 + y89))) = (nth E_i x65 y85))))))]) (h := [(q29_7 x65), (q29_4 x66), (q29_2 x67), (3072, ⟨54, .live, true, flat E_B y84⟩)]) (ep := 64) (by kernel_rfl) ?_
                              cases hB93 : (decide ((nth E_i x65 (w64 (y85 + y89))) = (nth E_i x65 y85))) with
                              | false =>
                                have h := iF h hB93
                                refine .seg tabOk 20 3 [11, 12, 13, 25, 28, 29, 219] [191, 207, 223, 3072] (t := [(q29_6 x65), (q29_3 x66), (q29_1 x67), (25, (.sref (3072, 54) 0 y84.length 1)), (28, (vI y85)), (29, (vI y89)), q29_22]) (h := [(q29_7 x65), (q29_4 x66), (q29_2 x67), (3072, ⟨54, .live, true, flat E_B y84⟩)]) (ep := 64) (by kernel_rfl) ?_
                                refine .fin mixed [11, 12, 13, 25, 28, 29, 219] [191, 207, 223, 3072] (t := [(q29_6 x65), (q29_3 x66), (q29_1 x67), (25, (.sref (3072, 54) 0 y84.length 1)), (28, (vI y85)), (29, (vI y89)), q29_22]) (h := [(q29_7 x65), (q29_4 x66), (q29_2 x67), (3072, ⟨54, .live, true, flat E_B y84⟩)]) (ep := 65) rfl (by kernel_rfl) rfl ?_
                                exact jkN (by exact .tn [((191, 33), (191, 33)), ((207, 33), (207, 33)), ((223, 33), (223, 33)), ((3072, 54), (3072, 54))] ⟨rfl, rfl, rfl, rfl, rfl, rfl, rfl, trivial⟩ ⟨rfl, ⟨_, rfl, ah_row E_i⟩, ⟨rfl, ⟨_, rfl, ah_row E_B⟩, ⟨rfl, ⟨_, rfl, ah_row E_B⟩, ⟨rfl, ⟨_, rfl, ah_row E_B⟩, trivial⟩⟩⟩⟩ rfl) ⟨_, rfl, h⟩
                              | true =>
                                have h := iT h hB93
                                refine .seg tabOk 20 3 [11, 12, 13, 25, 28, 29, 219] [191, 207, 223, 3072] (t := [(q29_6 x65), (q29_3 x66), (q29_1 x67), (25, (.sref (3072, 54) 0 y84.length 1)), (28, (vI y85)), (29, (vI y89)), (219, (.val (.bool (decide (y89 < 256)))))]) (h := [(q29_7 x65), (q29_4 x66), (q29_2 x67), (3072, ⟨54, .live, true, flat E_B y84⟩)]) (ep := 64) (by kernel_rfl) ?_
                                refine .fin mixed [11, 12, 13, 25, 28, 29, 219] [191, 207, 223, 3072] (t := [(q29_6 x65), (q29_3 x66), (q29_1 x67), (25, (.sref (3072, 54) 0 y84.length 1)), (28, (vI y85)), (29, (vI y89)), (219, (.val (.bool (decide (y89 < 256)))))]) (h := [(q29_7 x65), (q29_4 x66), (q29_2 x67), (3072, ⟨54, .live, true, flat E_B y84⟩)]) (ep := 65) rfl (by kernel_rfl) rfl ?_
                                exact jkN (by exact .tn [((191, 33), (191, 33)), ((207, 33), (207, 33)), ((223, 33), (223, 33)), ((3072, 54), (3072, 54))] ⟨rfl, rfl, rfl, rfl, rfl, rfl, rfl, trivial⟩ ⟨rfl, ⟨_, rfl, ah_row E_i⟩, ⟨rfl, ⟨_, rfl, ah_row E_B⟩, ⟨rfl, ⟨_, rfl, ah_row E_B⟩, ⟨rfl, ⟨_, rfl, ah_row E_B⟩, trivial⟩⟩⟩⟩ rfl) ⟨_, rfl, h⟩
                          · rintro _ ⟨x94, rfl, h⟩
                            subst hj95
                            refine sqN ?_
                            refine .cond x94 rfl (fun hc96 => ?_) (fun hc96 => ?_)
                            · have h := iT h hc96
                              refine .skip ?_
                              refine sqN ?_
                              refine .block ?_
                              refine .rgI rfl ?_
                              refine .seg tabOk 0 3 [11, 12, 13, 25, 28, 29] [191, 207, 223, 3072] (t := [(q29_6 x65), (q29_3 x66), (q29_1 x67), (25, (.sref (3072, 54) 0 y84.length 1)), (28, (vI y85)), (29, (vI (w64 (y89 + 1))))]) (h := [(q29_7 x65), (q29_4 x66), (q29_2 x67), (3072, ⟨54, .live, true, flat E_B y84⟩)]) (ep := 68) (by kernel_rfl) ?_
                              refine .fin rfl ?_
                              refine bkN ?_
                              exact jkN (by exact .tn [((191, 33), (191, 33)), ((207, 33), (207, 33)), ((223, 33), (223, 33)), ((3072, 54), (3072, 54))] ⟨rfl, rfl, rfl, rfl, rfl, rfl, trivial⟩ ⟨rfl, ⟨_, rfl, ah_row E_i⟩, ⟨rfl, ⟨_, rfl, ah_row E_B⟩, ⟨rfl, ⟨_, rfl, ah_row E_B⟩, ⟨rfl, ⟨_, rfl, ah_row E_B⟩, trivial⟩⟩⟩⟩ rfl) ⟨n, (w64 (y89 + 1)), Nat.lt_succ_self n, rfl, h⟩
                            · have h := iF h hc96
                              refine .exit ?_
                              refine sqX ?_
                              refine jkX ?_
                              refine bkE ?_
                              exact jkN (by exact .tn [((191, 33), (191, 33)), ((207, 33), (207, 33)), ((223, 33), (223, 33)), ((3072, 54), (3072, 54))] ⟨rfl, rfl, rfl, rfl, rfl, rfl, trivial⟩ ⟨rfl, ⟨_, rfl, ah_row E_i⟩, ⟨rfl, ⟨_, rfl, ah_row E_B⟩, ⟨rfl, ⟨_, rfl, ah_row E_B⟩, ⟨rfl, ⟨_, rfl, ah_row E_B⟩, trivial⟩⟩⟩⟩ rfl) ⟨_, rfl, h⟩
                      · rintro _ ⟨x97, rfl, h⟩
                        subst hj88
                        refine sqN ?_
                        refine .seq ?_
                        refine .seq ?_
                        refine .rgI rfl ?_
                        refine .seg tabOk 0 2 [11, 12, 13, 25, 28, 29, 223] [191, 207, 223, 3072] (t := [(q29_6 x65), (q29_3 x66), (q29_1 x67), (25, (.sref (3072, 54) 0 y84.length 1)), (28, (vI y85)), (29, (vI x97)), (223, (.val (.bool (decide (1 < x97)))))]) (h := [(q29_7 x65), (q29_4 x66), (q29_2 x67), (3072, ⟨54, .live, true, flat E_B y84⟩)]) (ep := 69) (by kernel_rfl) ?_
                        refine .fin rfl ?_
                        refine sqN ?_
                        obtain ⟨j104, hj104, h⟩ := ljS h
                        refine .join (fun s' => ∃ x103, s' = ⟨[(q29_6 x65), (q29_3 x66), (q29_1 x67), (25, (.sref (3760, 72) 0 x103.length 1)), (28, (vI y85)), (29, (vI x97))], [(q29_7 x65), (q29_4 x66), (q29_2 x67), (3760, ⟨72, .live, true, flat E_B x103⟩)], 74⟩ ∧ j104 x103 = some r) ?_ ?_
                        · refine .cond (decide (1 < x97)) rfl (fun hc98 => ?_) (fun hc98 => ?_)
                          · have h := iT h hc98
                            refine .rgI rfl ?_
                            refine .seg tabOk 0 3 [11, 12, 13, 28, 29, 224, 225, 226] [191, 207, 223, 3072] (t := [(q29_6 x65), (q29_3 x66), (q29_1 x67), (28, (vI y85)), (29, (vI x97)), (224, (.sref (3072, 54) 0 y84.length 1)), (225, (.sref (191, 33) 0 x65.length 1)), (226, (vI y85))]) (h := [(q29_7 x65), (q29_4 x66), (q29_2 x67), (3072, ⟨54, .live, true, flat E_B y84⟩)]) (ep := 71) (by kernel_rfl) ?_
                            obtain ⟨hb99, h⟩ := gS h
                            refine .oo tabOk rfl rfl rfl (q_idxS E_i (l := x65) rfl rfl rfl rfl rfl rfl rfl rfl hb99) ?_
                            refine .oo tabOk rfl rfl rfl (q_ldS E_i (l := x65) rfl rfl rfl rfl rfl hb99 rfl) ?_
                            refine .seg tabOk 5 6 [11, 12, 13, 28, 29, 224, 234] [191, 207, 223, 3072, 3744] (t := [(q29_6 x65), (q29_3 x66), (q29_1 x67), (28, (vI y85)), (29, (vI x97)), (224, (.sref (3072, 54) 0 y84.length 1)), (234, (.sref (3744, 71) 0 ([(IntKind.wrap .u8 ((w64 ((nth E_i x65 y85) + 8)))), (IntKind.wrap .u8 ((w64 (x97 - 1))))] : List Int).length 1))]) (h := [(q29_7 x65), (q29_4 x66), (q29_2 x67), (3072, ⟨54, .live, true, flat E_B y84⟩), (3744, ⟨71, .live, true, flat E_B ([(IntKind.wrap .u8 ((w64 ((nth E_i x65 y85) + 8)))), (IntKind.wrap .u8 ((w64 (x97 - 1))))] : List Int)⟩)]) (ep := 72) (by kernel_rfl) ?_
                            obtain ⟨hb100, h⟩ := gS h
                            refine .oo tabOk rfl rfl rfl (q_app E_B (l := y84) rfl rfl rfl rfl rfl rfl rfl rfl rfl rfl rfl rfl rfl (.row ([(IntKind.wrap .u8 ((w64 ((nth E_i x65 y85) + 8)))), (IntKind.wrap .u8 ((w64 (x97 - 1))))] : List Int) rfl rfl rfl rfl) hb100) ?_
                            refine .seg tabOk 12 1 [11, 12, 13, 25, 28, 29] [191, 207, 223, 3760] (t := [(q29_6 x65), (q29_3 x66), (q29_1 x67), (25, (.sref (3760, 72) 0 (y84 ++ ([(IntKind.wrap .u8 ((w64 ((nth E_i x65 y85) + 8)))), (IntKind.wrap .u8 ((w64 (x97 - 1))))] : List Int)).length 1)), (28, (vI y85)), (29, (vI x97))]) (h := [(q29_7 x65), (q29_4 x66), (q29_2 x67), (3760, ⟨72, .live, true, flat E_B (y84 ++ ([(IntKind.wrap .u8 ((w64 ((nth E_i x65 y85) + 8)))), (IntKind.wrap .u8 ((w64 (x97 - 1))))] : List Int))⟩)]) (ep := 73) (by kernel_rfl) ?_
                            refine .fin rfl ?_
                            exact jkN (by exact .tn [((191, 33), (191, 33)), ((207, 33), (207, 33)), ((223, 33), (223, 33)), ((3760, 72), (3760, 72))] ⟨rfl, rfl, rfl, rfl, rfl, rfl, trivial⟩ ⟨rfl, ⟨_, rfl, ah_row E_i⟩, ⟨rfl, ⟨_, rfl, ah_row E_B⟩, ⟨rfl, ⟨_, rfl, ah_row E_B⟩, ⟨rfl, ⟨_, rfl, ah_row E_B⟩, trivial⟩⟩⟩⟩ rfl) ⟨_, rfl, h⟩
                          · have h := iF h hc98
                            refine .rgI rfl ?_
                            refine .seg tabOk 0 3 [11, 12, 13, 28, 29, 236, 237, 238] [191, 207, 223, 3072] (t := [(q29_6 x65), (q29_3 x66), (q29_1 x67), (28, (vI y85)), (29, (vI x97)), (236, (.sref (3072, 54) 0 y84.length 1)), (237, (.sref (191, 33) 0 x65.length 1)), (238, (vI y85))]) (h := [(q29_7 x65), (q29_4 x66), (q29_2 x67), (3072, ⟨54, .live, true, flat E_B y84⟩)]) (ep := 71) (by kernel_rfl) ?_
                            obtain ⟨hb101, h⟩ := gS h
                            refine .oo tabOk rfl rfl rfl (q_idxS E_i (l := x65) rfl rfl rfl rfl rfl rfl rfl rfl hb101) ?_
                            refine .oo tabOk rfl rfl rfl (q_ldS E_i (l := x65) rfl rfl rfl rfl rfl hb101 rfl) ?_
                            refine .seg tabOk 5 2 [11, 12, 13, 28, 29, 236, 242] [191, 207, 223, 3072, 3872] (t := [(q29_6 x65), (q29_3 x66), (q29_1 x67), (28, (vI y85)), (29, (vI x97)), (236, (.sref (3072, 54) 0 y84.length 1)), (242, (.sref (3872, 71) 0 ([(IntKind.wrap .u8 ((nth E_i x65 y85)))] : List Int).length 1))]) (h := [(q29_7 x65), (q29_4 x66), (q29_2 x67), (3072, ⟨54, .live, true, flat E_B y84⟩), (3872, ⟨71, .live, true, flat E_B ([(IntKind.wrap .u8 ((nth E_i x65 y85)))] : List Int)⟩)]) (ep := 72) (by kernel_rfl) ?_
                            obtain ⟨hb102, h⟩ := gS h
                            refine .oo tabOk rfl rfl rfl (q_app E_B (l := y84) rfl rfl rfl rfl rfl rfl rfl rfl rfl rfl rfl rfl rfl (.row ([(IntKind.wrap .u8 ((nth E_i x65 y85)))] : List Int) rfl rfl rfl rfl) hb102) ?_
                            refine .seg tabOk 8 1 [11, 12, 13, 25, 28, 29] [191, 207, 223, 3888] (t := [(q29_6 x65), (q29_3 x66), (q29_1 x67), (25, (.sref (3888, 72) 0 (y84 ++ ([(IntKind.wrap .u8 ((nth E_i x65 y85)))] : List Int)).length 1)), (28, (vI y85)), (29, (vI x97))]) (h := [(q29_7 x65), (q29_4 x66), (q29_2 x67), (3888, ⟨72, .live, true, flat E_B (y84 ++ ([(IntKind.wrap .u8 ((nth E_i x65 y85)))] : List Int))⟩)]) (ep := 73) (by kernel_rfl) ?_
                            refine .fin rfl ?_
                            exact jkN (by exact .tn [((191, 33), (191, 33)), ((207, 33), (207, 33)), ((223, 33), (223, 33)), ((3888, 72), (3760, 72))] ⟨rfl, rfl, rfl, rfl, rfl, rfl, trivial⟩ ⟨rfl, ⟨_, rfl, ah_row E_i⟩, ⟨rfl, ⟨_, rfl, ah_row E_B⟩, ⟨rfl, ⟨_, rfl, ah_row E_B⟩, ⟨rfl, ⟨_, rfl, ah_row E_B⟩, trivial⟩⟩⟩⟩ rfl) ⟨_, rfl, h⟩
                        · rintro _ ⟨x103, rfl, h⟩
                          subst hj104
                          refine sqN ?_
                          refine .rgI rfl ?_
                          refine .seg tabOk 0 4 [11, 12, 13, 25, 28] [191, 207, 223, 3760] (t := [(q29_6 x65), (q29_3 x66), (q29_1 x67), (25, (.sref (3760, 72) 0 x103.length 1)), (28, (vI (w64 (y85 + x97))))]) (h := [(q29_7 x65), (q29_4 x66), (q29_2 x67), (3760, ⟨72, .live, true, flat E_B x103⟩)]) (ep := 76) (by kernel_rfl) ?_
                          refine .fin rfl ?_
                          refine bkN ?_
                          exact jkN (by exact .tn [((191, 33), (191, 33)), ((207, 33), (207, 33)), ((223, 33), (223, 33)), ((3760, 72), (3760, 72))] ⟨rfl, rfl, rfl, rfl, rfl, trivial⟩ ⟨rfl, ⟨_, rfl, ah_row E_i⟩, ⟨rfl, ⟨_, rfl, ah_row E_B⟩, ⟨rfl, ⟨_, rfl, ah_row E_B⟩, ⟨rfl, ⟨_, rfl, ah_row E_B⟩, trivial⟩⟩⟩⟩ rfl) ⟨_, _, rfl, h⟩
                    · rintro _ ⟨x105, x106, rfl, h⟩
                      subst hj87
                      exact jkN (by exact .tn [((191, 33), (191, 33)), ((207, 33), (207, 33)), ((223, 33), (223, 33)), ((3760, 72), (3072, 54))] ⟨rfl, rfl, rfl, rfl, rfl, trivial⟩ ⟨rfl, ⟨_, rfl, ah_row E_i⟩, ⟨rfl, ⟨_, rfl, ah_row E_B⟩, ⟨rfl, ⟨_, rfl, ah_row E_B⟩, ⟨rfl, ⟨_, rfl, ah_row E_B⟩, trivial⟩⟩⟩⟩ rfl) ⟨n, (x105, x106), Nat.lt_succ_self n, rfl, h⟩
                  · have h := iF h hc86
                    refine .exit ?_
                    refine sqX ?_
                    refine jkX ?_
                    refine bkE ?_
                    exact jkN (by exact .tn [((207, 33), (207, 33)), ((223, 33), (223, 33)), ((3072, 54), (3072, 54))] ⟨rfl, rfl, rfl, trivial⟩ ⟨rfl, ⟨_, rfl, ah_row E_B⟩, ⟨rfl, ⟨_, rfl, ah_row E_B⟩, ⟨rfl, ⟨_, rfl, ah_row E_B⟩, trivial⟩⟩⟩ rfl) ⟨_, rfl, h⟩
              · rintro _ ⟨x107, rfl, h⟩
                subst hj83
                refine sqN ?_
                refine .seq ?_
                refine .rgI rfl ?_
                refine .seg tabOk 0 2 [13, 247, 248] [207, 223, 3072] (t := [(q29_1 x67), (247, (.sref (3072, 54) 0 x107.length 1)), (248, (.sref (207, 33) 0 x66.length 1))]) (h := [(q29_4 x66), (q29_2 x67), (3072, ⟨54, .live, true, flat E_B x107⟩)]) (ep := 63) (by kernel_rfl) ?_
                obtain ⟨hb108, h⟩ := gS h
                refine .oo tabOk rfl rfl rfl (q_app E_B (l := x107) rfl rfl rfl rfl rfl rfl rfl rfl rfl rfl rfl rfl rfl (.row x66 rfl rfl rfl rfl) hb108) ?_
                refine .seg tabOk 3 1 [249, 250] [223, 3984] (t := [(249, (.sref (3984, 63) 0 (x107 ++ x66).length 1)), (250, (.sref (223, 33) 0 x67.length 1))]) (h := [(q29_2 x67), (3984, ⟨63, .live, true, flat E_B (x107 ++ x66)⟩)]) (ep := 64) (by kernel_rfl) ?_
                obtain ⟨hb109, h⟩ := gS h
                refine .oo tabOk rfl rfl rfl (q_app E_B (l := (x107 ++ x66)) rfl rfl rfl rfl rfl rfl rfl rfl rfl rfl rfl rfl rfl (.row x67 rfl rfl rfl rfl) hb109) ?_
                refine .seg tabOk 5 2 [2, 3] [4016] (t := [(2, (.sref (4016, 64) 0 ((x107 ++ x66) ++ x67).length 1)), (3, (vI 0))]) (h := [(4016, ⟨64, .live, true, flat E_B ((x107 ++ x66) ++ x67)⟩)]) (ep := 65) (by kernel_rfl) ?_
                refine .fin rfl ?_
                refine sqN ?_
                refine .ret ?_
                injection h with h
                subst h
                exact ⟨.inr rfl, _, _, (f_cons (f_tmp rfl (o1_row E_B ((x107 ++ x66) ++ x67) rfl rfl rfl rfl rfl)) (f_cons rfl f_nil)), nd_of rfl, rfl, rfl⟩
end Go.Proofs.Ytgkekjfbacncoaa
