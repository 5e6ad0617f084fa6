/- Printed by a program: shallow functions of the Go functions, and the proofs that the Go functions come to their answers. -/
import Derived.Test.YtgkekjfbacncoaaKG7aF1
set_option linter.unusedVariables false
open Go Go.Ab
namespace Go.Proofs.Ytgkekjfbacncoaa
abbrev R_simple_Write := (List Int) × Int
def L_simple_Write_2 (a0 : T_SLLSiibeLBe) (y13 : Int) (y18 : Int) (y19 : Int) (y24 : Int) (j28 : Unit → Option R_simple_Write) : Nat → Int → Option R_simple_Write
  | 0, _ => none
  | n + 1, y29 =>
    if (decide (y29 < 4)) then
      gd (0 ≤ y29 ∧ y29 < 4) <|
      if (!decide ((nth E_i ([(nth E_Siibe (nth E_LSiibe a0.f0 y13) y24).f0, (nth E_Siibe (nth E_LSiibe a0.f0 y13) y24).f1, (w64 ((nth E_Siibe (nth E_LSiibe a0.f0 y13) y24).f0 - y18)), (w64 ((nth E_Siibe (nth E_LSiibe a0.f0 y13) y24).f1 - y19))] : List Int) y29) = (w64 ((IntKind.wrap .i16 ((nth E_i ([(nth E_Siibe (nth E_LSiibe a0.f0 y13) y24).f0, (nth E_Siibe (nth E_LSiibe a0.f0 y13) y24).f1, (w64 ((nth E_Siibe (nth E_LSiibe a0.f0 y13) y24).f0 - y18)), (w64 ((nth E_Siibe (nth E_LSiibe a0.f0 y13) y24).f1 - y19))] : List Int) y29))))))) then
        some (([] : List Int), 6)
      else
      L_simple_Write_2 a0 y13 y18 y19 y24 j28 n (w64 (y29 + 1))
    else
    j28 ()
def L_simple_Write_1 (a0 : T_SLLSiibeLBe) (y13 : Int) (j17 : Int → Int → Bool → (List Int) → (List Int) → (List Int) → Option R_simple_Write) : Nat → Int → Int → Bool → (List Int) → (List Int) → (List Int) → Int → Option R_simple_Write
  | 0, _, _, _, _, _, _, _ => none
  | n + 1, y18, y19, y20, y21, y22, y23, y24 =>
    if (decide (y24 < ((nth E_LSiibe a0.f0 y13).length : Int))) then
      lj (fun (x39 : (List Int)) (x40 : (List Int)) (x41 : (List Int)) =>
        L_simple_Write_1 a0 y13 j17 n (nth E_Siibe (nth E_LSiibe a0.f0 y13) y24).f0 (nth E_Siibe (nth E_LSiibe a0.f0 y13) y24).f1 (nth E_Siibe (nth E_LSiibe a0.f0 y13) y24).f2 x40 x41 x39 (w64 (y24 + 1))) fun j26 =>
      gd (0 ≤ y24 ∧ y24 < (nth E_LSiibe a0.f0 y13).length) <|
      lj (fun (_ : Unit) =>
        Option.bind (F_simple_pack n (w64 ((nth E_Siibe (nth E_LSiibe a0.f0 y13) y24).f0 - y18)) 2 16) fun v33 =>
        Option.bind (F_simple_pack n (w64 ((nth E_Siibe (nth E_LSiibe a0.f0 y13) y24).f1 - y19)) 4 32) fun v34 =>
        gd (fits (y23.length + ([(bits .or .u8 (if (nth E_Siibe (nth E_LSiibe a0.f0 y13) y24).f2 then (bits .or .u8 v33.1 1) else v33.1) v34.1)] : List Int).length) 1 = true) <|
        gd (fits (y21.length + v33.2.length) 1 = true) <|
        gd (fits (y22.length + v34.2.length) 1 = true) <|
        j26 (y23 ++ ([(bits .or .u8 (if (nth E_Siibe (nth E_LSiibe a0.f0 y13) y24).f2 then (bits .or .u8 v33.1 1) else v33.1) v34.1)] : List Int)) (y21 ++ v33.2) (y22 ++ v34.2)) fun j28 =>
      L_simple_Write_2 a0 y13 y18 y19 y24 j28 n 0
    else
    j17 y18 y19 y20 y21 y22 y23
def L_simple_Write_0 (a0 : T_SLLSiibeLBe) (j5 : (List Int) → (List Int) → (List Int) → (List Int) → Option R_simple_Write) : Nat → Int → Int → Bool → (List Int) → (List Int) → (List Int) → (List Int) → Int → Option R_simple_Write
  | 0, _, _, _, _, _, _, _, _ => none
  | n + 1, y6, y7, y8, y9, y10, y11, y12, y13 =>
    if (decide (y13 < (a0.f0.length : Int))) then
      lj (fun (x50 : Int) (x51 : Int) (x52 : Bool) (x53 : (List Int)) (x54 : (List Int)) (x55 : (List Int)) (x56 : (List Int)) =>
        L_simple_Write_0 a0 j5 n x50 x51 x52 x53 x54 x55 x56 (w64 (y13 + 1))) fun j15 =>
      gd (0 ≤ y13 ∧ y13 < a0.f0.length) <|
      lj (fun (x42 : Int) (x43 : Int) (x44 : Bool) (x45 : (List Int)) (x46 : (List Int)) (x47 : (List Int)) =>
        Option.bind (F_be_Put n (w64 ((x47.length : Int) - 1)) 2) fun v48 =>
        gd (fits (y11.length + v48.length) 1 = true) <|
        j15 x42 x43 x44 x45 x46 (y11 ++ v48) x47) fun j17 =>
      L_simple_Write_1 a0 y13 j17 n y6 y7 y8 y9 y10 y12 0
    else
    j5 y9 y10 y11 y12
def L_simple_Write_3 (a0 : T_SLLSiibeLBe) (v61 : R_simple_Box) (j62 : (List Int) → Option R_simple_Write) : Nat → (List Int) → Int → Option R_simple_Write
  | 0, _, _ => none
  | n + 1, y63, y64 =>
    if (decide (y64 < (([(a0.f0.length : Int), v61.1.f0, v61.1.f1, v61.2.f0, v61.2.f1] : List Int).length : Int))) then
      gd (0 ≤ y64 ∧ y64 < ([(a0.f0.length : Int), v61.1.f0, v61.1.f1, v61.2.f0, v61.2.f1] : List Int).length) <|
      Option.bind (F_be_Put n (nth E_i ([(a0.f0.length : Int), v61.1.f0, v61.1.f1, v61.2.f0, v61.2.f1] : List Int) y64) 2) fun v67 =>
      gd (fits (y63.length + v67.length) 1 = true) <|
      L_simple_Write_3 a0 v61 j62 n (y63 ++ v67) (w64 (y64 + 1))
    else
    j62 y63
def F_simple_Write (n : Nat) (a0 : T_SLLSiibeLBe) : Option R_simple_Write :=
  if (decide ((a0.f0.length : Int) = 0)) then
    if (decide (0 < (a0.f1.length : Int))) then
      some (([] : List Int), 4)
    else
    some (([] : List Int), 0)
  else
  Option.bind (F_simple_ask n a0) fun v3 =>
  if (!decide (v3 = 0)) then
    some (([] : List Int), v3)
  else
  lj (fun (x57 : (List Int)) (x58 : (List Int)) (x59 : (List Int)) (x60 : (List Int)) =>
    Option.bind (F_simple_Box n a0.f0) fun v61 =>
    lj (fun (x69 : (List Int)) =>
      gd (fits (x69.length + x59.length) 1 = true) <|
      Option.bind (F_be_Put n (a0.f1.length : Int) 2) fun v71 =>
      gd (fits ((x69 ++ x59).length + v71.length) 1 = true) <|
      gd (fits (((x69 ++ x59) ++ v71).length + a0.f1.length) 1 = true) <|
      Option.bind (F_simple_packed n x60) fun v74 =>
      gd (fits ((((x69 ++ x59) ++ v71) ++ a0.f1).length + v74.length) 1 = true) <|
      gd (fits (((((x69 ++ x59) ++ v71) ++ a0.f1) ++ v74).length + x57.length) 1 = true) <|
      gd (fits ((((((x69 ++ x59) ++ v71) ++ a0.f1) ++ v74) ++ x57).length + x58.length) 1 = true) <|
      some (((((((x69 ++ x59) ++ v71) ++ a0.f1) ++ v74) ++ x57) ++ x58), 0)) fun j62 =>
    L_simple_Write_3 a0 v61 j62 n ([] : List Int) 0) fun j5 =>
  L_simple_Write_0 a0 j5 n 0 0 false ([] : List Int) ([] : List Int) ([] : List Int) ([] : List Int) 0
abbrev q28_0 (a0 : T_SLLSiibeLBe) : Nat × Ob := (16, ⟨1, .live, false, [(.ro 1 a0.f0.length (flat E_LSiibe a0.f0)), (.ro 1 a0.f1.length (flat E_B a0.f1))]⟩)
abbrev q28_1 (a0 : T_SLLSiibeLBe) : Nat × V := (39, (.ro 1 a0.f0.length (flat E_LSiibe a0.f0)))
abbrev q28_2 (a0 : T_SLLSiibeLBe) : Nat × V := (40, (vI (a0.f0.length : Int)))
abbrev q28_3 (a0 : T_SLLSiibeLBe) (v61 : R_simple_Box) : Nat × V := (135, (.sref (2160, 25) 0 ([(a0.f0.length : Int), v61.1.f0, v61.1.f1, v61.2.f0, v61.2.f1] : List Int).length 1))
abbrev q28_4 (x58 : (List Int)) : Nat × Ob := (127, ⟨18, .live, true, flat E_B x58⟩)
abbrev q28_5 (a0 : T_SLLSiibeLBe) (v61 : R_simple_Box) : Nat × Ob := (2160, ⟨25, .live, true, flat E_i ([(a0.f0.length : Int), v61.1.f0, v61.1.f1, v61.2.f0, v61.2.f1] : List Int)⟩)
abbrev q28_6 (x58 : (List Int)) : Nat × V := (7, (.sref (127, 18) 0 x58.length 1))
abbrev q28_7 (x57 : (List Int)) : Nat × Ob := (111, ⟨18, .live, true, flat E_B x57⟩)
abbrev q28_8 (a0 : T_SLLSiibeLBe) (v61 : R_simple_Box) : Nat × V := (136, (vI (([(a0.f0.length : Int), v61.1.f0, v61.1.f1, v61.2.f0, v61.2.f1] : List Int).length : Int)))
abbrev q28_9 (x57 : (List Int)) : Nat × V := (6, (.sref (111, 18) 0 x57.length 1))
abbrev q28_10 (x60 : (List Int)) : Nat × Ob := (95, ⟨18, .live, true, flat E_B x60⟩)
abbrev q28_11 (x60 : (List Int)) : Nat × V := (5, (.sref (95, 18) 0 x60.length 1))
abbrev q28_12 (x59 : (List Int)) : Nat × Ob := (143, ⟨18, .live, true, flat E_B x59⟩)
abbrev q28_13 (x59 : (List Int)) : Nat × V := (8, (.sref (143, 18) 0 x59.length 1))
abbrev q28_14 (v33 : R_simple_pack) : Nat × Ob := (1296, ⟨35, .live, true, flat E_B v33.2⟩)
abbrev q28_15 (v34 : R_simple_pack) : Nat × Ob := (1440, ⟨38, .live, true, flat E_B v34.2⟩)
abbrev q28_16 (v33 : R_simple_pack) : Nat × V := (17, (.sref (1296, 35) 0 v33.2.length 1))
abbrev q28_17 (v34 : R_simple_pack) : Nat × V := (19, (.sref (1440, 38) 0 v34.2.length 1))
abbrev q28_18 : Nat × Ob := (144, ⟨12, .live, false, [(vI 0), (vI 0), (.val (.bool false))]⟩)
theorem C_simple_Write (n : Nat) (a0 : T_SLLSiibeLBe) (r : R_simple_Write) (h : F_simple_Write n a0 = some r) : CallS Try.prog 28 [(.agg [(.ro 1 a0.f0.length (flat E_LSiibe a0.f0)), (.ro 1 a0.f1.length (flat E_B a0.f1))])] (.tup [(.own 1 r.1.length (flat E_B r.1)), (vI r.2)]) [none] := by
  refine CallS.introK tabOk Try.func28 rfl Try.ntmps28 (Nat.le_of_ble_eq_true rfl) ?_
  rw [F_simple_Write] at h
  refine .seq ?_
  refine .rgI rfl ?_
  refine .seg tabOk 0 3 [1] [16] (t := [(1, (.ptr (16, 1) 0))]) (h := [(q28_0 a0)]) (ep := 2) (by kernel_rfl) ?_
  refine .fin rfl ?_
  refine sqN ?_
  refine .seq ?_
  refine .seq ?_
  refine .rgI rfl ?_
  refine .seg tabOk 0 4 [1, 28] [16] (t := [(1, (.ptr (16, 1) 0)), (28, (.val (.bool (decide ((a0.f0.length : Int) = 0)))))]) (h := [(q28_0 a0)]) (ep := 4) (by kernel_rfl) ?_
  refine .fin rfl ?_
  refine sqN ?_
  refine .cond (decide ((a0.f0.length : Int) = 0)) rfl (fun hc1 => ?_) (fun hc1 => ?_)
  · have h := iT h hc1
    refine .seq ?_
    refine .seq ?_
    refine .rgI rfl ?_
    refine .seg tabOk 0 4 [32] [] (t := [(32, (.val (.bool (decide (0 < (a0.f1.length : Int))))))]) (h := []) (ep := 6) (by kernel_rfl) ?_
    refine .fin rfl ?_
    refine sqN ?_
    refine .cond (decide (0 < (a0.f1.length : Int))) rfl (fun hc2 => ?_) (fun hc2 => ?_)
    · have h := iT h hc2
      refine .seq ?_
      refine .rgI rfl ?_
      refine .seg tabOk 0 2 [2, 3] [] (t := [(2, .nils), (3, (vI 4))]) (h := []) (ep := 8) (by kernel_rfl) ?_
      refine .fin rfl ?_
      refine sqN ?_
      refine .pre (.nilRow 2 1 47 rfl (fresh_none rfl)) ?_
      refine .ret ?_
      refine sqR ?_
      refine sqR ?_
      injection h with h
      subst h
      exact ⟨.inr rfl, _, _, (f_cons (f_tmp rfl (o1_row E_B ([] : List Int) rfl rfl rfl rfl rfl)) (f_cons rfl f_nil)), nd_of rfl, rfl, rfl⟩
    · have h := iF h hc2
      refine .skip ?_
      refine sqN ?_
      refine .seq ?_
      refine .rgI rfl ?_
      refine .seg tabOk 0 2 [2, 3] [] (t := [(2, .nils), (3, (vI 0))]) (h := []) (ep := 8) (by kernel_rfl) ?_
      refine .fin rfl ?_
      refine sqN ?_
      refine .pre (.nilRow 2 1 47 rfl (fresh_none rfl)) ?_
      refine .ret ?_
      refine sqR ?_
      injection h with h
      subst h
      exact ⟨.inr rfl, _, _, (f_cons (f_tmp rfl (o1_row E_B ([] : List Int) rfl rfl rfl rfl rfl)) (f_cons rfl f_nil)), nd_of rfl, rfl, rfl⟩
  · have h := iF h hc1
    refine .skip ?_
    refine sqN ?_
    refine .seq ?_
    refine .seq ?_
    refine .rgI rfl ?_
    refine .seg tabOk 0 1 [1, 33] [16] (t := [(1, (.ptr (16, 1) 0)), (33, (.agg [(.ro 1 a0.f0.length (flat E_LSiibe a0.f0)), (.ro 1 a0.f1.length (flat E_B a0.f1))]))]) (h := [(q28_0 a0)]) (ep := 6) (by kernel_rfl) ?_
    obtain ⟨v3, hv3, h⟩ := bS h
    refine .cc true rfl rfl (C_simple_ask _ _ _ hv3) ent_simple_ask rfl rfl rfl rfl (g_cons (g_pl rfl rfl) g_nil) rfl ?_
    refine .seg tabOk 2 1 [1, 4] [16] (t := [(1, (.ptr (16, 1) 0)), (4, (vI v3))]) (h := [(q28_0 a0)]) (ep := 7) (by kernel_rfl) ?_
    refine .fin rfl ?_
    refine sqN ?_
    refine .seq ?_
    refine .rgI rfl ?_
    refine .seg tabOk 0 2 [1, 4, 36] [16] (t := [(1, (.ptr (16, 1) 0)), (4, (vI v3)), (36, (.val (.bool (!decide (v3 = 0)))))]) (h := [(q28_0 a0)]) (ep := 9) (by kernel_rfl) ?_
    refine .fin rfl ?_
    refine sqN ?_
    refine .cond (!decide (v3 = 0)) rfl (fun hc4 => ?_) (fun hc4 => ?_)
    · have h := iT h hc4
      refine .seq ?_
      refine .rgI rfl ?_
      refine .seg tabOk 0 3 [2, 3] [] (t := [(2, .nils), (3, (vI v3))]) (h := []) (ep := 11) (by kernel_rfl) ?_
      refine .fin rfl ?_
      refine sqN ?_
      refine .pre (.nilRow 2 1 47 rfl (fresh_none rfl)) ?_
      refine .ret ?_
      refine sqR ?_
      injection h with h
      subst h
      exact ⟨.inr rfl, _, _, (f_cons (f_tmp rfl (o1_row E_B ([] : List Int) rfl rfl rfl rfl rfl)) (f_cons rfl f_nil)), nd_of rfl, rfl, rfl⟩
    · have h := iF h hc4
      refine .skip ?_
      refine sqN ?_
      refine .seq ?_
      refine .rgI rfl ?_
      refine .seg tabOk 0 4 [1, 5, 6, 7, 8] [16] (t := [(1, (.ptr (16, 1) 0)), (5, .nils), (6, .nils), (7, .nils), (8, .nils)]) (h := [(q28_0 a0)]) (ep := 11) (by kernel_rfl) ?_
      refine .fin rfl ?_
      refine sqN ?_
      refine .seq ?_
      refine .rgI rfl ?_
      refine .seg tabOk 0 1 [1, 5, 6, 7, 8, 9] [16, 144] (t := [(1, (.ptr (16, 1) 0)), (5, .nils), (6, .nils), (7, .nils), (8, .nils), (9, (.ptr (144, 12) 0))]) (h := [(q28_0 a0), q28_18]) (ep := 13) (by kernel_rfl) ?_
      refine .fin rfl ?_
      refine sqN ?_
      refine .seq ?_
      refine .seq ?_
      refine .rgI rfl ?_
      refine .seg tabOk 0 4 [1, 5, 6, 7, 8, 9, 39, 40, 41] [16, 144] (t := [(1, (.ptr (16, 1) 0)), (5, .nils), (6, .nils), (7, .nils), (8, .nils), (9, (.ptr (144, 12) 0)), (q28_1 a0), (q28_2 a0), (41, (vI 0))]) (h := [(q28_0 a0), q28_18]) (ep := 15) (by kernel_rfl) ?_
      refine .fin rfl ?_
      refine sqN ?_
      obtain ⟨j5, hj5, h⟩ := ljS h
      refine .join (fun s' => ∃ x57 x58 x59 x60, s' = ⟨[(1, (.ptr (16, 1) 0)), (q28_11 x60), (q28_9 x57), (q28_6 x58), (q28_13 x59)], [(q28_0 a0), (q28_10 x60), (q28_7 x57), (q28_4 x58), (q28_12 x59)], 19⟩ ∧ j5 x57 x58 x59 x60 = some r) ?_ ?_
      · refine .block ?_
        refine .loopF (β := Int × Int × Bool × (List Int) × (List Int) × (List Int) × (List Int) × Int) (fun v => ⟨[(1, (.ptr (16, 1) 0)), (5, (.sref (95, 15) 0 v.2.2.2.2.2.2.1.length 1)), (6, (.sref (111, 15) 0 v.2.2.2.1.length 1)), (7, (.sref (127, 15) 0 v.2.2.2.2.1.length 1)), (8, (.sref (143, 15) 0 v.2.2.2.2.2.1.length 1)), (9, (.ptr (144, 12) 0)), (q28_1 a0), (q28_2 a0), (41, (vI v.2.2.2.2.2.2.2))], [(q28_0 a0), (95, ⟨15, .live, true, flat E_B v.2.2.2.2.2.2.1⟩), (111, ⟨15, .live, true, flat E_B v.2.2.2.1⟩), (127, ⟨15, .live, true, flat E_B v.2.2.2.2.1⟩), (143, ⟨15, .live, true, flat E_B v.2.2.2.2.2.1⟩), (144, ⟨12, .live, false, [(vI v.1), (vI v.2.1), (.val (.bool v.2.2.1))]⟩)], 16⟩) (fun m v => L_simple_Write_0 a0 j5 m v.1 v.2.1 v.2.2.1 v.2.2.2.1 v.2.2.2.2.1 v.2.2.2.2.2.1 v.2.2.2.2.2.2.1 v.2.2.2.2.2.2.2 = some r) n (0, 0, false, ([] : List Int), ([] : List Int), ([] : List Int), ([] : List Int), 0) (by exact .trans (.nilRow 5 1 95 rfl (fresh_none rfl)) (.trans (.nilRow 6 1 111 rfl (fresh_none rfl)) (.trans (.nilRow 7 1 127 rfl (fresh_none rfl)) (.trans (.nilRow 8 1 143 rfl (fresh_none rfl)) (.tn [((16, 1), (16, 1)), ((95, 15), (95, 15)), ((111, 15), (111, 15)), ((127, 15), (127, 15)), ((143, 15), (143, 15)), ((144, 12), (144, 12))] ⟨rfl, rfl, rfl, rfl, rfl, rfl, rfl, rfl, rfl, trivial⟩ ⟨rfl, ⟨_, rfl, rfl⟩, ⟨rfl, ⟨_, rfl, ah_row E_B⟩, ⟨rfl, ⟨_, rfl, ah_row E_B⟩, ⟨rfl, ⟨_, rfl, ah_row E_B⟩, ⟨rfl, ⟨_, rfl, ah_row E_B⟩, ⟨rfl, ⟨_, rfl, rfl⟩, trivial⟩⟩⟩⟩⟩⟩ rfl))))) h ?_
        rintro m ⟨y6, y7, y8, y9, y10, y11, y12, y13⟩ h
        cases m with
        | zero => exact nomatch h
        | succ n =>
          rw [L_simple_Write_0] at h
          refine .seq ?_
          refine .rgI rfl ?_
          refine .seg tabOk 0 1 [1, 5, 6, 7, 8, 9, 39, 40, 41, 42] [16, 95, 111, 127, 143, 144] (t := [(1, (.ptr (16, 1) 0)), (5, (.sref (95, 15) 0 y12.length 1)), (6, (.sref (111, 15) 0 y9.length 1)), (7, (.sref (127, 15) 0 y10.length 1)), (8, (.sref (143, 15) 0 y11.length 1)), (9, (.ptr (144, 12) 0)), (q28_1 a0), (q28_2 a0), (41, (vI y13)), (42, (.val (.bool (decide (y13 < (a0.f0.length : Int))))))]) (h := [(q28_0 a0), (95, ⟨15, .live, true, flat E_B y12⟩), (111, ⟨15, .live, true, flat E_B y9⟩), (127, ⟨15, .live, true, flat E_B y10⟩), (143, ⟨15, .live, true, flat E_B y11⟩), (144, ⟨12, .live, false, [(vI y6), (vI y7), (.val (.bool y8))]⟩)]) (ep := 18) (by kernel_rfl) ?_
          refine .fin rfl ?_
          refine sqN ?_
          refine .seq ?_
          refine .cond (decide (y13 < (a0.f0.length : Int))) rfl (fun hc14 => ?_) (fun hc14 => ?_)
          · have h := iT h hc14
            refine .skip ?_
            refine sqN ?_
            refine .seq ?_
            obtain ⟨j15, hj15, h⟩ := ljS h
            refine .join (fun s' => ∃ x50 x51 x52 x53 x54 x55 x56, s' = ⟨[(1, (.ptr (16, 1) 0)), (5, (.sref (95, 15) 0 x56.length 1)), (6, (.sref (111, 15) 0 x53.length 1)), (7, (.sref (127, 15) 0 x54.length 1)), (8, (.sref (1856, 28) 0 x55.length 1)), (9, (.ptr (144, 12) 0)), (q28_1 a0), (q28_2 a0), (41, (vI y13))], [(q28_0 a0), (95, ⟨15, .live, true, flat E_B x56⟩), (111, ⟨15, .live, true, flat E_B x53⟩), (127, ⟨15, .live, true, flat E_B x54⟩), (144, ⟨12, .live, false, [(vI x50), (vI x51), (.val (.bool x52))]⟩), (1856, ⟨28, .live, true, flat E_B x55⟩)], 30⟩ ∧ j15 x50 x51 x52 x53 x54 x55 x56 = some r) ?_ ?_
            · refine .block ?_
              refine .seq ?_
              refine .rgI rfl ?_
              obtain ⟨hb16, h⟩ := gS h
              refine .o tabOk rfl rfl rfl (q_idx E_LSiibe rfl rfl rfl rfl rfl rfl hb16) ?_
              refine .o tabOk rfl rfl rfl (q_ld0 E_LSiibe rfl rfl rfl hb16 rfl) ?_
              refine .seg tabOk 2 1 [1, 5, 6, 7, 8, 9, 11, 39, 40, 41] [16, 95, 111, 127, 143, 144] (t := [(1, (.ptr (16, 1) 0)), (5, (.sref (95, 15) 0 y12.length 1)), (6, (.sref (111, 15) 0 y9.length 1)), (7, (.sref (127, 15) 0 y10.length 1)), (8, (.sref (143, 15) 0 y11.length 1)), (9, (.ptr (144, 12) 0)), (11, (.ro 3 (nth E_LSiibe a0.f0 y13).length (flat E_Siibe (nth E_LSiibe a0.f0 y13)))), (q28_1 a0), (q28_2 a0), (41, (vI y13))]) (h := [(q28_0 a0), (95, ⟨15, .live, true, flat E_B y12⟩), (111, ⟨15, .live, true, flat E_B y9⟩), (127, ⟨15, .live, true, flat E_B y10⟩), (143, ⟨15, .live, true, flat E_B y11⟩), (144, ⟨12, .live, false, [(vI y6), (vI y7), (.val (.bool y8))]⟩)]) (ep := 20) (by kernel_rfl) ?_
              refine .fin rfl ?_
              refine sqN ?_
              refine .seq ?_
              refine .seq ?_
              refine .rgI rfl ?_
              refine .seg tabOk 0 3 [1, 5, 6, 7, 8, 9, 39, 40, 41, 45, 46, 47] [16, 95, 111, 127, 143, 144] (t := [(1, (.ptr (16, 1) 0)), (5, (.sref (95, 15) 0 y12.length 1)), (6, (.sref (111, 15) 0 y9.length 1)), (7, (.sref (127, 15) 0 y10.length 1)), (8, (.sref (143, 15) 0 y11.length 1)), (9, (.ptr (144, 12) 0)), (q28_1 a0), (q28_2 a0), (41, (vI y13)), (45, (.ro 3 (nth E_LSiibe a0.f0 y13).length (flat E_Siibe (nth E_LSiibe a0.f0 y13)))), (46, (vI ((nth E_LSiibe a0.f0 y13).length : Int))), (47, (vI 0))]) (h := [(q28_0 a0), (95, ⟨15, .live, true, flat E_B y12⟩), (111, ⟨15, .live, true, flat E_B y9⟩), (127, ⟨15, .live, true, flat E_B y10⟩), (143, ⟨15, .live, true, flat E_B y11⟩), (144, ⟨12, .live, false, [(vI y6), (vI y7), (.val (.bool y8))]⟩)]) (ep := 22) (by kernel_rfl) ?_
              refine .fin rfl ?_
              refine sqN ?_
              obtain ⟨j17, hj17, h⟩ := ljS h
              refine .join (fun s' => ∃ x42 x43 x44 x45 x46 x47, s' = ⟨[(1, (.ptr (16, 1) 0)), (5, (.sref (95, 15) 0 x47.length 1)), (6, (.sref (111, 15) 0 x45.length 1)), (7, (.sref (127, 15) 0 x46.length 1)), (8, (.sref (143, 15) 0 y11.length 1)), (9, (.ptr (144, 12) 0)), (q28_1 a0), (q28_2 a0), (41, (vI y13))], [(q28_0 a0), (95, ⟨15, .live, true, flat E_B x47⟩), (111, ⟨15, .live, true, flat E_B x45⟩), (127, ⟨15, .live, true, flat E_B x46⟩), (143, ⟨15, .live, true, flat E_B y11⟩), (144, ⟨12, .live, false, [(vI x42), (vI x43), (.val (.bool x44))]⟩)], 26⟩ ∧ j17 x42 x43 x44 x45 x46 x47 = some r) ?_ ?_
              · refine .block ?_
                refine .loopF (β := Int × Int × Bool × (List Int) × (List Int) × (List Int) × Int) (fun v => ⟨[(1, (.ptr (16, 1) 0)), (5, (.sref (95, 15) 0 v.2.2.2.2.2.1.length 1)), (6, (.sref (111, 15) 0 v.2.2.2.1.length 1)), (7, (.sref (127, 15) 0 v.2.2.2.2.1.length 1)), (8, (.sref (143, 15) 0 y11.length 1)), (9, (.ptr (144, 12) 0)), (q28_1 a0), (q28_2 a0), (41, (vI y13)), (45, (.ro 3 (nth E_LSiibe a0.f0 y13).length (flat E_Siibe (nth E_LSiibe a0.f0 y13)))), (46, (vI ((nth E_LSiibe a0.f0 y13).length : Int))), (47, (vI v.2.2.2.2.2.2))], [(q28_0 a0), (95, ⟨15, .live, true, flat E_B v.2.2.2.2.2.1⟩), (111, ⟨15, .live, true, flat E_B v.2.2.2.1⟩), (127, ⟨15, .live, true, flat E_B v.2.2.2.2.1⟩), (143, ⟨15, .live, true, flat E_B y11⟩), (144, ⟨12, .live, false, [(vI v.1), (vI v.2.1), (.val (.bool v.2.2.1))]⟩)], 23⟩) (fun m v => L_simple_Write_1 a0 y13 j17 m v.1 v.2.1 v.2.2.1 v.2.2.2.1 v.2.2.2.2.1 v.2.2.2.2.2.1 v.2.2.2.2.2.2 = some r) n (y6, y7, y8, y9, y10, y12, 0) (by exact .tn [((16, 1), (16, 1)), ((95, 15), (95, 15)), ((111, 15), (111, 15)), ((127, 15), (127, 15)), ((143, 15), (143, 15)), ((144, 12), (144, 12))] ⟨rfl, rfl, rfl, rfl, rfl, rfl, rfl, rfl, rfl, rfl, rfl, rfl, trivial⟩ ⟨rfl, ⟨_, rfl, rfl⟩, ⟨rfl, ⟨_, rfl, ah_row E_B⟩, ⟨rfl, ⟨_, rfl, ah_row E_B⟩, ⟨rfl, ⟨_, rfl, ah_row E_B⟩, ⟨rfl, ⟨_, rfl, ah_row E_B⟩, ⟨rfl, ⟨_, rfl, rfl⟩, trivial⟩⟩⟩⟩⟩⟩ rfl) h ?_
                rintro m ⟨y18, y19, y20, y21, y22, y23, y24⟩ h
                cases m with
                | zero => exact nomatch h
                | succ n =>
                  rw [L_simple_Write_1] at h
                  refine .seq ?_
                  refine .rgI rfl ?_
                  refine .seg tabOk 0 1 [1, 5, 6, 7, 8, 9, 39, 40, 41, 45, 46, 47, 48] [16, 95, 111, 127, 143, 144] (t := [(1, (.ptr (16, 1) 0)), (5, (.sref (95, 15) 0 y23.length 1)), (6, (.sref (111, 15) 0 y21.length 1)), (7, (.sref (127, 15) 0 y22.length 1)), (8, (.sref (143, 15) 0 y11.length 1)), (9, (.ptr (144, 12) 0)), (q28_1 a0), (q28_2 a0), (41, (vI y13)), (45, (.ro 3 (nth E_LSiibe a0.f0 y13).length (flat E_Siibe (nth E_LSiibe a0.f0 y13)))), (46, (vI ((nth E_LSiibe a0.f0 y13).length : Int))), (47, (vI y24)), (48, (.val (.bool (decide (y24 < ((nth E_LSiibe a0.f0 y13).length : Int))))))]) (h := [(q28_0 a0), (95, ⟨15, .live, true, flat E_B y23⟩), (111, ⟨15, .live, true, flat E_B y21⟩), (127, ⟨15, .live, true, flat E_B y22⟩), (143, ⟨15, .live, true, flat E_B y11⟩), (144, ⟨12, .live, false, [(vI y18), (vI y19), (.val (.bool y20))]⟩)]) (ep := 25) (by kernel_rfl) ?_
                  refine .fin rfl ?_
                  refine sqN ?_
                  refine .seq ?_
                  refine .cond (decide (y24 < ((nth E_LSiibe a0.f0 y13).length : Int))) rfl (fun hc25 => ?_) (fun hc25 => ?_)
                  · have h := iT h hc25
                    refine .skip ?_
                    refine sqN ?_
                    refine .seq ?_
                    obtain ⟨j26, hj26, h⟩ := ljS h
                    refine .join (fun s' => ∃ x39 x40 x41, s' = ⟨[(1, (.ptr (16, 1) 0)), (5, (.sref (1632, 45) 0 x39.length 1)), (6, (.sref (1680, 45) 0 x40.length 1)), (7, (.sref (1728, 45) 0 x41.length 1)), (8, (.sref (143, 15) 0 y11.length 1)), (9, (.ptr (144, 12) 0)), (q28_1 a0), (q28_2 a0), (41, (vI y13)), (45, (.ro 3 (nth E_LSiibe a0.f0 y13).length (flat E_Siibe (nth E_LSiibe a0.f0 y13)))), (46, (vI ((nth E_LSiibe a0.f0 y13).length : Int))), (47, (vI y24))], [(q28_0 a0), (143, ⟨15, .live, true, flat E_B y11⟩), (144, ⟨12, .live, false, [(vI (nth E_Siibe (nth E_LSiibe a0.f0 y13) y24).f0), (vI (nth E_Siibe (nth E_LSiibe a0.f0 y13) y24).f1), (.val (.bool (nth E_Siibe (nth E_LSiibe a0.f0 y13) y24).f2))]⟩), (1632, ⟨45, .live, true, flat E_B x39⟩), (1680, ⟨45, .live, true, flat E_B x40⟩), (1728, ⟨45, .live, true, flat E_B x41⟩)], 47⟩ ∧ j26 x39 x40 x41 = some r) ?_ ?_
                    · refine .block ?_
                      refine .seq ?_
                      refine .rgI rfl ?_
                      obtain ⟨hb27, h⟩ := gS h
                      refine .o tabOk rfl rfl rfl (q_idx E_Siibe rfl rfl rfl rfl rfl rfl hb27) ?_
                      refine .o tabOk rfl rfl rfl (q_ld0 E_Siibe rfl rfl rfl hb27 rfl) ?_
                      refine .seg tabOk 2 2 [1, 5, 6, 7, 8, 9, 13, 39, 40, 41, 45, 46, 47] [16, 95, 111, 127, 143, 144, 208] (t := [(1, (.ptr (16, 1) 0)), (5, (.sref (95, 15) 0 y23.length 1)), (6, (.sref (111, 15) 0 y21.length 1)), (7, (.sref (127, 15) 0 y22.length 1)), (8, (.sref (143, 15) 0 y11.length 1)), (9, (.ptr (144, 12) 0)), (13, (.ptr (208, 26) 0)), (q28_1 a0), (q28_2 a0), (41, (vI y13)), (45, (.ro 3 (nth E_LSiibe a0.f0 y13).length (flat E_Siibe (nth E_LSiibe a0.f0 y13)))), (46, (vI ((nth E_LSiibe a0.f0 y13).length : Int))), (47, (vI y24))]) (h := [(q28_0 a0), (95, ⟨15, .live, true, flat E_B y23⟩), (111, ⟨15, .live, true, flat E_B y21⟩), (127, ⟨15, .live, true, flat E_B y22⟩), (143, ⟨15, .live, true, flat E_B y11⟩), (144, ⟨12, .live, false, [(vI y18), (vI y19), (.val (.bool y20))]⟩), (208, ⟨26, .live, false, [(vI (nth E_Siibe (nth E_LSiibe a0.f0 y13) y24).f0), (vI (nth E_Siibe (nth E_LSiibe a0.f0 y13) y24).f1), (.val (.bool (nth E_Siibe (nth E_LSiibe a0.f0 y13) y24).f2))]⟩)]) (ep := 27) (by kernel_rfl) ?_
                      refine .fin rfl ?_
                      refine sqN ?_
                      refine .seq ?_
                      refine .seq ?_
                      refine .rgI rfl ?_
                      refine .seg tabOk 0 16 [1, 5, 6, 7, 8, 9, 13, 39, 40, 41, 45, 46, 47, 65, 66] [16, 95, 111, 127, 143, 144, 208] (t := [(1, (.ptr (16, 1) 0)), (5, (.sref (95, 15) 0 y23.length 1)), (6, (.sref (111, 15) 0 y21.length 1)), (7, (.sref (127, 15) 0 y22.length 1)), (8, (.sref (143, 15) 0 y11.length 1)), (9, (.ptr (144, 12) 0)), (13, (.ptr (208, 26) 0)), (q28_1 a0), (q28_2 a0), (41, (vI y13)), (45, (.ro 3 (nth E_LSiibe a0.f0 y13).length (flat E_Siibe (nth E_LSiibe a0.f0 y13)))), (46, (vI ((nth E_LSiibe a0.f0 y13).length : Int))), (47, (vI y24)), (65, (.agg [(vI (nth E_Siibe (nth E_LSiibe a0.f0 y13) y24).f0), (vI (nth E_Siibe (nth E_LSiibe a0.f0 y13) y24).f1), (vI (w64 ((nth E_Siibe (nth E_LSiibe a0.f0 y13) y24).f0 - y18))), (vI (w64 ((nth E_Siibe (nth E_LSiibe a0.f0 y13) y24).f1 - y19)))])), (66, (vI 0))]) (h := [(q28_0 a0), (95, ⟨15, .live, true, flat E_B y23⟩), (111, ⟨15, .live, true, flat E_B y21⟩), (127, ⟨15, .live, true, flat E_B y22⟩), (143, ⟨15, .live, true, flat E_B y11⟩), (144, ⟨12, .live, false, [(vI y18), (vI y19), (.val (.bool y20))]⟩), (208, ⟨26, .live, false, [(vI (nth E_Siibe (nth E_LSiibe a0.f0 y13) y24).f0), (vI (nth E_Siibe (nth E_LSiibe a0.f0 y13) y24).f1), (.val (.bool (nth E_Siibe (nth E_LSiibe a0.f0 y13) y24).f2))]⟩)]) (ep := 29) (by kernel_rfl) ?_
                      refine .fin rfl ?_
                      refine sqN ?_
                      obtain ⟨j28, hj28, h⟩ := ljS h
                      refine .join (fun s' => s' = ⟨[(1, (.ptr (16, 1) 0)), (5, (.sref (95, 15) 0 y23.length 1)), (6, (.sref (111, 15) 0 y21.length 1)), (7, (.sref (127, 15) 0 y22.length 1)), (8, (.sref (143, 15) 0 y11.length 1)), (9, (.ptr (144, 12) 0)), (13, (.ptr (208, 26) 0)), (q28_1 a0), (q28_2 a0), (41, (vI y13)), (45, (.ro 3 (nth E_LSiibe a0.f0 y13).length (flat E_Siibe (nth E_LSiibe a0.f0 y13)))), (46, (vI ((nth E_LSiibe a0.f0 y13).length : Int))), (47, (vI y24))], [(q28_0 a0), (95, ⟨15, .live, true, flat E_B y23⟩), (111, ⟨15, .live, true, flat E_B y21⟩), (127, ⟨15, .live, true, flat E_B y22⟩), (143, ⟨15, .live, true, flat E_B y11⟩), (144, ⟨12, .live, false, [(vI y18), (vI y19), (.val (.bool y20))]⟩), (208, ⟨26, .live, false, [(vI (nth E_Siibe (nth E_LSiibe a0.f0 y13) y24).f0), (vI (nth E_Siibe (nth E_LSiibe a0.f0 y13) y24).f1), (.val (.bool (nth E_Siibe (nth E_LSiibe a0.f0 y13) y24).f2))]⟩)], 33⟩ ∧ j28 () = some r) ?_ ?_
                      · refine .block ?_
                        refine .loopF (β := Int) (fun v => ⟨[(1, (.ptr (16, 1) 0)), (5, (.sref (95, 15) 0 y23.length 1)), (6, (.sref (111, 15) 0 y21.length 1)), (7, (.sref (127, 15) 0 y22.length 1)), (8, (.sref (143, 15) 0 y11.length 1)), (9, (.ptr (144, 12) 0)), (13, (.ptr (208, 26) 0)), (q28_1 a0), (q28_2 a0), (41, (vI y13)), (45, (.ro 3 (nth E_LSiibe a0.f0 y13).length (flat E_Siibe (nth E_LSiibe a0.f0 y13)))), (46, (vI ((nth E_LSiibe a0.f0 y13).length : Int))), (47, (vI y24)), (65, (.agg [(vI (nth E_Siibe (nth E_LSiibe a0.f0 y13) y24).f0), (vI (nth E_Siibe (nth E_LSiibe a0.f0 y13) y24).f1), (vI (w64 ((nth E_Siibe (nth E_LSiibe a0.f0 y13) y24).f0 - y18))), (vI (w64 ((nth E_Siibe (nth E_LSiibe a0.f0 y13) y24).f1 - y19)))])), (66, (vI v))], [(q28_0 a0), (95, ⟨15, .live, true, flat E_B y23⟩), (111, ⟨15, .live, true, flat E_B y21⟩), (127, ⟨15, .live, true, flat E_B y22⟩), (143, ⟨15, .live, true, flat E_B y11⟩), (144, ⟨12, .live, false, [(vI y18), (vI y19), (.val (.bool y20))]⟩), (208, ⟨26, .live, false, [(vI (nth E_Siibe (nth E_LSiibe a0.f0 y13) y24).f0), (vI (nth E_Siibe (nth E_LSiibe a0.f0 y13) y24).f1), (.val (.bool (nth E_Siibe (nth E_LSiibe a0.f0 y13) y24).f2))]⟩)], 30⟩) (fun m v => L_simple_Write_2 a0 y13 y18 y19 y24 j28 m v = some r) n 0 (by exact .tn [((16, 1), (16, 1)), ((95, 15), (95, 15)), ((111, 15), (111, 15)), ((127, 15), (127, 15)), ((143, 15), (143, 15)), ((144, 12), (144, 12)), ((208, 26), (208, 26))] ⟨rfl, rfl, rfl, rfl, rfl, rfl, rfl, rfl, rfl, rfl, rfl, rfl, rfl, rfl, rfl, trivial⟩ ⟨rfl, ⟨_, rfl, rfl⟩, ⟨rfl, ⟨_, rfl, ah_row E_B⟩, ⟨rfl, ⟨_, rfl, ah_row E_B⟩, ⟨rfl, ⟨_, rfl, ah_row E_B⟩, ⟨rfl, ⟨_, rfl, ah_row E_B⟩, ⟨rfl, ⟨_, rfl, rfl⟩, ⟨rfl, ⟨_, rfl, rfl⟩, trivial⟩⟩⟩⟩⟩⟩⟩ rfl) h ?_
                        rintro m y29 h
                        cases m with
                        | zero => exact nomatch h
                        | succ n =>
                          rw [L_simple_Write_2] at h
                          refine .seq ?_
                          refine .rgI rfl ?_
                          refine .seg tabOk 0 1 [1, 5, 6, 7, 8, 9, 13, 39, 40, 41, 45, 46, 47, 65, 66, 67] [16, 95, 111, 127, 143, 144, 208] (t := [(1, (.ptr (16, 1) 0)), (5, (.sref (95, 15) 0 y23.length 1)), (6, (.sref (111, 15) 0 y21.length 1)), (7, (.sref (127, 15) 0 y22.length 1)), (8, (.sref (143, 15) 0 y11.length 1)), (9, (.ptr (144, 12) 0)), (13, (.ptr (208, 26) 0)), (q28_1 a0), (q28_2 a0), (41, (vI y13)), (45, (.ro 3 (nth E_LSiibe a0.f0 y13).length (flat E_Siibe (nth E_LSiibe a0.f0 y13)))), (46, (vI ((nth E_LSiibe a0.f0 y13).length : Int))), (47, (vI y24)), (65, (.agg [(vI (nth E_Siibe (nth E_LSiibe a0.f0 y13) y24).f0), (vI (nth E_Siibe (nth E_LSiibe a0.f0 y13) y24).f1), (vI (w64 ((nth E_Siibe (nth E_LSiibe a0.f0 y13) y24).f0 - y18))), (vI (w64 ((nth E_Siibe (nth E_LSiibe a0.f0 y13) y24).f1 - y19)))])), (66, (vI y29)), (67, (.val (.bool (decide (y29 < 4)))))]) (h := [(q28_0 a0), (95, ⟨15, .live, true, flat E_B y23⟩), (111, ⟨15, .live, true, flat E_B y21⟩), (127, ⟨15, .live, true, flat E_B y22⟩), (143, ⟨15, .live, true, flat E_B y11⟩), (144, ⟨12, .live, false, [(vI y18), (vI y19), (.val (.bool y20))]⟩), (208, ⟨26, .live, false, [(vI (nth E_Siibe (nth E_LSiibe a0.f0 y13) y24).f0), (vI (nth E_Siibe (nth E_LSiibe a0.f0 y13) y24).f1), (.val (.bool (nth E_Siibe (nth E_LSiibe a0.f0 y13) y24).f2))]⟩)]) (ep := 32) (by kernel_rfl) ?_
                          refine .fin rfl ?_
                          refine sqN ?_
                          refine .seq ?_
                          refine .cond (decide (y29 < 4)) rfl (fun hc30 => ?_) (fun hc30 => ?_)
                          · have h := iT h hc30
                            refine .skip ?_
                            refine sqN ?_
                            refine .seq ?_
                            refine .block ?_
                            refine .seq ?_
                            refine .rgI rfl ?_
                            obtain ⟨hb31, h⟩ := gS h
                            refine .oo tabOk rfl rfl rfl (q_ixA E_i (l := ([(nth E_Siibe (nth E_LSiibe a0.f0 y13) y24).f0, (nth E_Siibe (nth E_LSiibe a0.f0 y13) y24).f1, (w64 ((nth E_Siibe (nth E_LSiibe a0.f0 y13) y24).f0 - y18)), (w64 ((nth E_Siibe (nth E_LSiibe a0.f0 y13) y24).f1 - y19))] : List Int)) rfl rfl rfl rfl rfl rfl rfl hb31 rfl) ?_
                            refine .seg tabOk 1 1 [1, 5, 6, 7, 8, 9, 13, 15, 39, 40, 41, 45, 46, 47, 65, 66] [16, 95, 111, 127, 143, 144, 208] (t := [(1, (.ptr (16, 1) 0)), (5, (.sref (95, 15) 0 y23.length 1)), (6, (.sref (111, 15) 0 y21.length 1)), (7, (.sref (127, 15) 0 y22.length 1)), (8, (.sref (143, 15) 0 y11.length 1)), (9, (.ptr (144, 12) 0)), (13, (.ptr (208, 26) 0)), (15, (vI (nth E_i ([(nth E_Siibe (nth E_LSiibe a0.f0 y13) y24).f0, (nth E_Siibe (nth E_LSiibe a0.f0 y13) y24).f1, (w64 ((nth E_Siibe (nth E_LSiibe a0.f0 y13) y24).f0 - y18)), (w64 ((nth E_Siibe (nth E_LSiibe a0.f0 y13) y24).f1 - y19))] : List Int) y29))), (q28_1 a0), (q28_2 a0), (41, (vI y13)), (45, (.ro 3 (nth E_LSiibe a0.f0 y13).length (flat E_Siibe (nth E_LSiibe a0.f0 y13)))), (46, (vI ((nth E_LSiibe a0.f0 y13).length : Int))), (47, (vI y24)), (65, (.agg [(vI (nth E_Siibe (nth E_LSiibe a0.f0 y13) y24).f0), (vI (nth E_Siibe (nth E_LSiibe a0.f0 y13) y24).f1), (vI (w64 ((nth E_Siibe (nth E_LSiibe a0.f0 y13) y24).f0 - y18))), (vI (w64 ((nth E_Siibe (nth E_LSiibe a0.f0 y13) y24).f1 - y19)))])), (66, (vI y29))]) (h := [(q28_0 a0), (95, ⟨15, .live, true, flat E_B y23⟩), (111, ⟨15, .live, true, flat E_B y21⟩), (127, ⟨15, .live, true, flat E_B y22⟩), (143, ⟨15, .live, true, flat E_B y11⟩), (144, ⟨12, .live, false, [(vI y18), (vI y19), (.val (.bool y20))]⟩), (208, ⟨26, .live, false, [(vI (nth E_Siibe (nth E_LSiibe a0.f0 y13) y24).f0), (vI (nth E_Siibe (nth E_LSiibe a0.f0 y13) y24).f1), (.val (.bool (nth E_Siibe (nth E_LSiibe a0.f0 y13) y24).f2))]⟩)]) (ep := 34) (by kernel_rfl) ?_
                            refine .fin rfl ?_
                            refine sqN ?_
                            refine .seq ?_
                            refine .rgI rfl ?_
                            refine .seg tabOk 0 5 [1, 5, 6, 7, 8, 9, 13, 39, 40, 41, 45, 46, 47, 65, 66, 73] [16, 95, 111, 127, 143, 144, 208] (t := [(1, (.ptr (16, 1) 0)), (5, (.sref (95, 15) 0 y23.length 1)), (6, (.sref (111, 15) 0 y21.length 1)), (7, (.sref (127, 15) 0 y22.length 1)), (8, (.sref (143, 15) 0 y11.length 1)), (9, (.ptr (144, 12) 0)), (13, (.ptr (208, 26) 0)), (q28_1 a0), (q28_2 a0), (41, (vI y13)), (45, (.ro 3 (nth E_LSiibe a0.f0 y13).length (flat E_Siibe (nth E_LSiibe a0.f0 y13)))), (46, (vI ((nth E_LSiibe a0.f0 y13).length : Int))), (47, (vI y24)), (65, (.agg [(vI (nth E_Siibe (nth E_LSiibe a0.f0 y13) y24).f0), (vI (nth E_Siibe (nth E_LSiibe a0.f0 y13) y24).f1), (vI (w64 ((nth E_Siibe (nth E_LSiibe a0.f0 y13) y24).f0 - y18))), (vI (w64 ((nth E_Siibe (nth E_LSiibe a0.f0 y13) y24).f1 - y19)))])), (66, (vI y29)), (73, (.val (.bool (!decide ((nth E_i ([(nth E_Siibe (nth E_LSiibe a0.f0 y13) y24).f0, (nth E_Siibe (nth E_LSiibe a0.f0 y13) y24).f1, (w64 ((nth E_Siibe (nth E_LSiibe a0.f0 y13) y24).f0 - y18)), (w64 ((nth E_Siibe (nth E_LSiibe a0.f0 y13) y24).f1 - y19))] : List Int) y29) = (w64 ((IntKind.wrap .i16 ((nth E_i ([(nth E_Siibe (nth E_LSiibe a0.f0 y13) y24).f0, (nth E_Siibe (nth E_LSiibe a0.f0 y13) y24).f1, (w64 ((nth E_Siibe (nth E_LSiibe a0.f0 y13) y24).f0 - y18)), (w64 ((nth E_Siibe (nth E_LSiibe a0.f0 y13) y24).f1 - y19))] : List Int) y29))))))))))]) (h := [(q28_0 a0), (95, ⟨15, .live, true, flat E_B y23⟩), (111, ⟨15, .live, true, flat E_B y21⟩), (127, ⟨15, .live, true, flat E_B y22⟩), (143, ⟨15, .live, true, flat E_B y11⟩), (144, ⟨12, .live, false, [(vI y18), (vI y19), (.val (.bool y20))]⟩), (208, ⟨26, .live, false, [(vI (nth E_Siibe (nth E_LSiibe a0.f0 y13) y24).f0), (vI (nth E_Siibe (nth E_LSiibe a0.f0 y13) y24).f1), (.val (.bool (nth E_Siibe (nth E_LSiibe a0.f0 y13) y24).f2))]⟩)]) (ep := 36) (by kernel_rfl) ?_
                            refine .fin rfl ?_
                            refine sqN ?_
                            refine .cond (!decide ((nth E_i ([(nth E_Siibe (nth E_LSiibe a0.f0 y13) y24).f0, (nth E_Siibe (nth E_LSiibe a0.f0 y13) y24).f1, (w64 ((nth E_Siibe (nth E_LSiibe a0.f0 y13) y24).f0 - y18)), (w64 ((nth E_Siibe (nth E_LSiibe a0.f0 y13) y24).f1 - y19))] : List Int) y29) = (w64 ((IntKind.wrap .i16 ((nth E_i ([(nth E_Siibe (nth E_LSiibe a0.f0 y13) y24).f0, (nth E_Siibe (nth E_LSiibe a0.f0 y13) y24).f1, (w64 ((nth E_Siibe (nth E_LSiibe a0.f0 y13) y24).f0 - y18)), (w64 ((nth E_Siibe (nth E_LSiibe a0.f0 y13) y24).f1 - y19))] : List Int) y29))))))) rfl (fun hc32 => ?_) (fun hc32 => ?_)
                            · have h := iT h hc32
                              refine .seq ?_
                              refine .rgI rfl ?_
                              refine .seg tabOk 0 2 [2, 3] [] (t := [(2, .nils), (3, (vI 6))]) (h := []) (ep := 38) (by kernel_rfl) ?_
                              refine .fin rfl ?_
                              refine sqN ?_
                              refine .pre (.nilRow 2 1 47 rfl (fresh_none rfl)) ?_
                              refine .ret ?_
                              refine bkR ?_
                              refine sqR ?_
                              refine jkR ?_
                              refine bkR ?_
                              refine jkR ?_
                              refine sqR ?_
                              refine bkR ?_
                              refine jkR ?_
                              refine sqR ?_
                              refine jkR ?_
                              refine bkR ?_
                              refine jkR ?_
                              refine sqR ?_
                              refine bkR ?_
                              refine jkR ?_
                              refine sqR ?_
                              refine jkR ?_
                              refine bkR ?_
                              refine jkR ?_
                              refine sqR ?_
                              injection h with h
                              subst h
                              exact ⟨.inr rfl, _, _, (f_cons (f_tmp rfl (o1_row E_B ([] : List Int) rfl rfl rfl rfl rfl)) (f_cons rfl f_nil)), nd_of rfl, rfl, rfl⟩
                            · have h := iF h hc32
                              refine .skip ?_
                              refine bkN ?_
                              refine sqN ?_
                              refine .rgI rfl ?_
                              refine .seg tabOk 0 2 [1, 5, 6, 7, 8, 9, 13, 39, 40, 41, 45, 46, 47, 65, 66] [16, 95, 111, 127, 143, 144, 208] (t := [(1, (.ptr (16, 1) 0)), (5, (.sref (95, 15) 0 y23.length 1)), (6, (.sref (111, 15) 0 y21.length 1)), (7, (.sref (127, 15) 0 y22.length 1)), (8, (.sref (143, 15) 0 y11.length 1)), (9, (.ptr (144, 12) 0)), (13, (.ptr (208, 26) 0)), (q28_1 a0), (q28_2 a0), (41, (vI y13)), (45, (.ro 3 (nth E_LSiibe a0.f0 y13).length (flat E_Siibe (nth E_LSiibe a0.f0 y13)))), (46, (vI ((nth E_LSiibe a0.f0 y13).length : Int))), (47, (vI y24)), (65, (.agg [(vI (nth E_Siibe (nth E_LSiibe a0.f0 y13) y24).f0), (vI (nth E_Siibe (nth E_LSiibe a0.f0 y13) y24).f1), (vI (w64 ((nth E_Siibe (nth E_LSiibe a0.f0 y13) y24).f0 - y18))), (vI (w64 ((nth E_Siibe (nth E_LSiibe a0.f0 y13) y24).f1 - y19)))])), (66, (vI (w64 (y29 + 1))))]) (h := [(q28_0 a0), (95, ⟨15, .live, true, flat E_B y23⟩), (111, ⟨15, .live, true, flat E_B y21⟩), (127, ⟨15, .live, true, flat E_B y22⟩), (143, ⟨15, .live, true, flat E_B y11⟩), (144, ⟨12, .live, false, [(vI y18), (vI y19), (.val (.bool y20))]⟩), (208, ⟨26, .live, false, [(vI (nth E_Siibe (nth E_LSiibe a0.f0 y13) y24).f0), (vI (nth E_Siibe (nth E_LSiibe a0.f0 y13) y24).f1), (.val (.bool (nth E_Siibe (nth E_LSiibe a0.f0 y13) y24).f2))]⟩)]) (ep := 38) (by kernel_rfl) ?_
                              refine .fin rfl ?_
                              exact jkN (by exact .tn [((16, 1), (16, 1)), ((95, 15), (95, 15)), ((111, 15), (111, 15)), ((127, 15), (127, 15)), ((143, 15), (143, 15)), ((144, 12), (144, 12)), ((208, 26), (208, 26))] ⟨rfl, rfl, rfl, rfl, rfl, rfl, rfl, rfl, rfl, rfl, rfl, rfl, rfl, rfl, rfl, trivial⟩ ⟨rfl, ⟨_, rfl, rfl⟩, ⟨rfl, ⟨_, rfl, ah_row E_B⟩, ⟨rfl, ⟨_, rfl, ah_row E_B⟩, ⟨rfl, ⟨_, rfl, ah_row E_B⟩, ⟨rfl, ⟨_, rfl, ah_row E_B⟩, ⟨rfl, ⟨_, rfl, rfl⟩, ⟨rfl, ⟨_, rfl, rfl⟩, trivial⟩⟩⟩⟩⟩⟩⟩ rfl) ⟨n, (w64 (y29 + 1)), Nat.lt_succ_self n, rfl, h⟩
                          · have h := iF h hc30
                            refine .exit ?_
                            refine sqX ?_
                            refine jkX ?_
                            refine bkE ?_
                            exact jkN (by exact .tn [((16, 1), (16, 1)), ((95, 15), (95, 15)), ((111, 15), (111, 15)), ((127, 15), (127, 15)), ((143, 15), (143, 15)), ((144, 12), (144, 12)), ((208, 26), (208, 26))] ⟨rfl, rfl, rfl, rfl, rfl, rfl, rfl, rfl, rfl, rfl, rfl, rfl, rfl, trivial⟩ ⟨rfl, ⟨_, rfl, rfl⟩, ⟨rfl, ⟨_, rfl, ah_row E_B⟩, ⟨rfl, ⟨_, rfl, ah_row E_B⟩, ⟨rfl, ⟨_, rfl, ah_row E_B⟩, ⟨rfl, ⟨_, rfl, ah_row E_B⟩, ⟨rfl, ⟨_, rfl, rfl⟩, ⟨rfl, ⟨_, rfl, rfl⟩, trivial⟩⟩⟩⟩⟩⟩⟩ rfl) ⟨rfl, h⟩
                      · rintro _ ⟨rfl, h⟩
                        subst hj28
                        refine sqN ?_
                        refine .seq ?_
                        refine .rgI rfl ?_
                        refine .seg tabOk 0 5 [1, 5, 6, 7, 8, 9, 13, 39, 40, 41, 45, 46, 47, 80] [16, 95, 111, 127, 143, 144, 208] (t := [(1, (.ptr (16, 1) 0)), (5, (.sref (95, 15) 0 y23.length 1)), (6, (.sref (111, 15) 0 y21.length 1)), (7, (.sref (127, 15) 0 y22.length 1)), (8, (.sref (143, 15) 0 y11.length 1)), (9, (.ptr (144, 12) 0)), (13, (.ptr (208, 26) 0)), (q28_1 a0), (q28_2 a0), (41, (vI y13)), (45, (.ro 3 (nth E_LSiibe a0.f0 y13).length (flat E_Siibe (nth E_LSiibe a0.f0 y13)))), (46, (vI ((nth E_LSiibe a0.f0 y13).length : Int))), (47, (vI y24)), (80, (vI (w64 ((nth E_Siibe (nth E_LSiibe a0.f0 y13) y24).f0 - y18))))]) (h := [(q28_0 a0), (95, ⟨15, .live, true, flat E_B y23⟩), (111, ⟨15, .live, true, flat E_B y21⟩), (127, ⟨15, .live, true, flat E_B y22⟩), (143, ⟨15, .live, true, flat E_B y11⟩), (144, ⟨12, .live, false, [(vI y18), (vI y19), (.val (.bool y20))]⟩), (208, ⟨26, .live, false, [(vI (nth E_Siibe (nth E_LSiibe a0.f0 y13) y24).f0), (vI (nth E_Siibe (nth E_LSiibe a0.f0 y13) y24).f1), (.val (.bool (nth E_Siibe (nth E_LSiibe a0.f0 y13) y24).f2))]⟩)]) (ep := 35) (by kernel_rfl) ?_
                        obtain ⟨v33, hv33, h⟩ := bS h
                        refine .cc true rfl rfl (C_simple_pack _ _ _ _ _ hv33) ent_simple_pack rfl rfl rfl rfl (g_cons (g_pl rfl rfl) (g_cons (g_pl rfl rfl) (g_cons (g_pl rfl rfl) g_nil))) rfl ?_
                        refine .seg tabOk 6 5 [1, 5, 6, 7, 8, 9, 13, 16, 17, 39, 40, 41, 45, 46, 47] [16, 95, 111, 127, 143, 144, 208, 1296] (t := [(1, (.ptr (16, 1) 0)), (5, (.sref (95, 15) 0 y23.length 1)), (6, (.sref (111, 15) 0 y21.length 1)), (7, (.sref (127, 15) 0 y22.length 1)), (8, (.sref (143, 15) 0 y11.length 1)), (9, (.ptr (144, 12) 0)), (13, (.ptr (208, 26) 0)), (16, (.val (.int .u8 v33.1))), (q28_16 v33), (q28_1 a0), (q28_2 a0), (41, (vI y13)), (45, (.ro 3 (nth E_LSiibe a0.f0 y13).length (flat E_Siibe (nth E_LSiibe a0.f0 y13)))), (46, (vI ((nth E_LSiibe a0.f0 y13).length : Int))), (47, (vI y24))]) (h := [(q28_0 a0), (95, ⟨15, .live, true, flat E_B y23⟩), (111, ⟨15, .live, true, flat E_B y21⟩), (127, ⟨15, .live, true, flat E_B y22⟩), (143, ⟨15, .live, true, flat E_B y11⟩), (144, ⟨12, .live, false, [(vI y18), (vI y19), (.val (.bool y20))]⟩), (208, ⟨26, .live, false, [(vI (nth E_Siibe (nth E_LSiibe a0.f0 y13) y24).f0), (vI (nth E_Siibe (nth E_LSiibe a0.f0 y13) y24).f1), (.val (.bool (nth E_Siibe (nth E_LSiibe a0.f0 y13) y24).f2))]⟩), (q28_14 v33)]) (ep := 36) (by kernel_rfl) ?_
                        refine .fin rfl ?_
                        refine sqN ?_
                        refine .seq ?_
                        refine .rgI rfl ?_
                        refine .seg tabOk 0 5 [1, 5, 6, 7, 8, 9, 13, 16, 17, 39, 40, 41, 45, 46, 47, 89] [16, 95, 111, 127, 143, 144, 208, 1296] (t := [(1, (.ptr (16, 1) 0)), (5, (.sref (95, 15) 0 y23.length 1)), (6, (.sref (111, 15) 0 y21.length 1)), (7, (.sref (127, 15) 0 y22.length 1)), (8, (.sref (143, 15) 0 y11.length 1)), (9, (.ptr (144, 12) 0)), (13, (.ptr (208, 26) 0)), (16, (.val (.int .u8 v33.1))), (q28_16 v33), (q28_1 a0), (q28_2 a0), (41, (vI y13)), (45, (.ro 3 (nth E_LSiibe a0.f0 y13).length (flat E_Siibe (nth E_LSiibe a0.f0 y13)))), (46, (vI ((nth E_LSiibe a0.f0 y13).length : Int))), (47, (vI y24)), (89, (vI (w64 ((nth E_Siibe (nth E_LSiibe a0.f0 y13) y24).f1 - y19))))]) (h := [(q28_0 a0), (95, ⟨15, .live, true, flat E_B y23⟩), (111, ⟨15, .live, true, flat E_B y21⟩), (127, ⟨15, .live, true, flat E_B y22⟩), (143, ⟨15, .live, true, flat E_B y11⟩), (144, ⟨12, .live, false, [(vI y18), (vI y19), (.val (.bool y20))]⟩), (208, ⟨26, .live, false, [(vI (nth E_Siibe (nth E_LSiibe a0.f0 y13) y24).f0), (vI (nth E_Siibe (nth E_LSiibe a0.f0 y13) y24).f1), (.val (.bool (nth E_Siibe (nth E_LSiibe a0.f0 y13) y24).f2))]⟩), (q28_14 v33)]) (ep := 38) (by kernel_rfl) ?_
                        obtain ⟨v34, hv34, h⟩ := bS h
                        refine .cc true rfl rfl (C_simple_pack _ _ _ _ _ hv34) ent_simple_pack rfl rfl rfl rfl (g_cons (g_pl rfl rfl) (g_cons (g_pl rfl rfl) (g_cons (g_pl rfl rfl) g_nil))) rfl ?_
                        refine .seg tabOk 6 5 [1, 5, 6, 7, 8, 9, 13, 16, 17, 18, 19, 39, 40, 41, 45, 46, 47] [16, 95, 111, 127, 143, 144, 208, 1296, 1440] (t := [(1, (.ptr (16, 1) 0)), (5, (.sref (95, 15) 0 y23.length 1)), (6, (.sref (111, 15) 0 y21.length 1)), (7, (.sref (127, 15) 0 y22.length 1)), (8, (.sref (143, 15) 0 y11.length 1)), (9, (.ptr (144, 12) 0)), (13, (.ptr (208, 26) 0)), (16, (.val (.int .u8 v33.1))), (q28_16 v33), (18, (.val (.int .u8 v34.1))), (q28_17 v34), (q28_1 a0), (q28_2 a0), (41, (vI y13)), (45, (.ro 3 (nth E_LSiibe a0.f0 y13).length (flat E_Siibe (nth E_LSiibe a0.f0 y13)))), (46, (vI ((nth E_LSiibe a0.f0 y13).length : Int))), (47, (vI y24))]) (h := [(q28_0 a0), (95, ⟨15, .live, true, flat E_B y23⟩), (111, ⟨15, .live, true, flat E_B y21⟩), (127, ⟨15, .live, true, flat E_B y22⟩), (143, ⟨15, .live, true, flat E_B y11⟩), (144, ⟨12, .live, false, [(vI y18), (vI y19), (.val (.bool y20))]⟩), (208, ⟨26, .live, false, [(vI (nth E_Siibe (nth E_LSiibe a0.f0 y13) y24).f0), (vI (nth E_Siibe (nth E_LSiibe a0.f0 y13) y24).f1), (.val (.bool (nth E_Siibe (nth E_LSiibe a0.f0 y13) y24).f2))]⟩), (q28_14 v33), (q28_15 v34)]) (ep := 39) (by kernel_rfl) ?_
                        refine .fin rfl ?_
                        refine sqN ?_
                        refine .seq ?_
                        refine .seq ?_
                        refine .rgI rfl ?_
                        refine .seg tabOk 0 2 [1, 5, 6, 7, 8, 9, 13, 16, 17, 18, 19, 39, 40, 41, 45, 46, 47, 94] [16, 95, 111, 127, 143, 144, 208, 1296, 1440] (t := [(1, (.ptr (16, 1) 0)), (5, (.sref (95, 15) 0 y23.length 1)), (6, (.sref (111, 15) 0 y21.length 1)), (7, (.sref (127, 15) 0 y22.length 1)), (8, (.sref (143, 15) 0 y11.length 1)), (9, (.ptr (144, 12) 0)), (13, (.ptr (208, 26) 0)), (16, (.val (.int .u8 v33.1))), (q28_16 v33), (18, (.val (.int .u8 v34.1))), (q28_17 v34), (q28_1 a0), (q28_2 a0), (41, (vI y13)), (45, (.ro 3 (nth E_LSiibe a0.f0 y13).length (flat E_Siibe (nth E_LSiibe a0.f0 y13)))), (46, (vI ((nth E_LSiibe a0.f0 y13).length : Int))), (47, (vI y24)), (94, (.val (.bool (nth E_Siibe (nth E_LSiibe a0.f0 y13) y24).f2)))]) (h := [(q28_0 a0), (95, ⟨15, .live, true, flat E_B y23⟩), (111, ⟨15, .live, true, flat E_B y21⟩), (127, ⟨15, .live, true, flat E_B y22⟩), (143, ⟨15, .live, true, flat E_B y11⟩), (144, ⟨12, .live, false, [(vI y18), (vI y19), (.val (.bool y20))]⟩), (208, ⟨26, .live, false, [(vI (nth E_Siibe (nth E_LSiibe a0.f0 y13) y24).f0), (vI (nth E_Siibe (nth E_LSiibe a0.f0 y13) y24).f1), (.val (.bool (nth E_Siibe (nth E_LSiibe a0.f0 y13) y24).f2))]⟩), (q28_14 v33), (q28_15 v34)]) (ep := 41) (by kernel_rfl) ?_
                        refine .fin rfl ?_
                        refine sqN ?_
                        refine .join (fun s' => s' = ⟨[(1, (.ptr (16, 1) 0)), (5, (.sref (95, 15) 0 y23.length 1)), (6, (.sref (111, 15) 0 y21.length 1)), (7, (.sref (127, 15) 0 y22.length 1)), (8, (.sref (143, 15) 0 y11.length 1)), (9, (.ptr (144, 12) 0)), (13, (.ptr (208, 26) 0)), (16, (.val (.int .u8 (if (nth E_Siibe (nth E_LSiibe a0.f0 y13) y24).f2 then (bits .or .u8 v33.1 1) else v33.1)))), (q28_16 v33), (18, (.val (.int .u8 v34.1))), (q28_17 v34), (q28_1 a0), (q28_2 a0), (41, (vI y13)), (45, (.ro 3 (nth E_LSiibe a0.f0 y13).length (flat E_Siibe (nth E_LSiibe a0.f0 y13)))), (46, (vI ((nth E_LSiibe a0.f0 y13).length : Int))), (47, (vI y24))], [(q28_0 a0), (95, ⟨15, .live, true, flat E_B y23⟩), (111, ⟨15, .live, true, flat E_B y21⟩), (127, ⟨15, .live, true, flat E_B y22⟩), (143, ⟨15, .live, true, flat E_B y11⟩), (144, ⟨12, .live, false, [(vI y18), (vI y19), (.val (.bool y20))]⟩), (208, ⟨26, .live, false, [(vI (nth E_Siibe (nth E_LSiibe a0.f0 y13) y24).f0), (vI (nth E_Siibe (nth E_LSiibe a0.f0 y13) y24).f1), (.val (.bool (nth E_Siibe (nth E_LSiibe a0.f0 y13) y24).f2))]⟩), (q28_14 v33), (q28_15 v34)], 44⟩) ?_ ?_
                        · refine .cond (nth E_Siibe (nth E_LSiibe a0.f0 y13) y24).f2 rfl (fun hc35 => ?_) (fun hc35 => ?_)
                          · skip
                            refine .rgI rfl ?_
                            refine .seg tabOk 0 3 [1, 5, 6, 7, 8, 9, 13, 16, 17, 18, 19, 39, 40, 41, 45, 46, 47] [16, 95, 111, 127, 143, 144, 208, 1296, 1440] (t := [(1, (.ptr (16, 1) 0)), (5, (.sref (95, 15) 0 y23.length 1)), (6, (.sref (111, 15) 0 y21.length 1)), (7, (.sref (127, 15) 0 y22.length 1)), (8, (.sref (143, 15) 0 y11.length 1)), (9, (.ptr (144, 12) 0)), (13, (.ptr (208, 26) 0)), (16, (.val (.int .u8 (bits .or .u8 v33.1 1)))), (q28_16 v33), (18, (.val (.int .u8 v34.1))), (q28_17 v34), (q28_1 a0), (q28_2 a0), (41, (vI y13)), (45, (.ro 3 (nth E_LSiibe a0.f0 y13).length (flat E_Siibe (nth E_LSiibe a0.f0 y13)))), (46, (vI ((nth E_LSiibe a0.f0 y13).length : Int))), (47, (vI y24))]) (h := [(q28_0 a0), (95, ⟨15, .live, true, flat E_B y23⟩), (111, ⟨15, .live, true, flat E_B y21⟩), (127, ⟨15, .live, true, flat E_B y22⟩), (143, ⟨15, .live, true, flat E_B y11⟩), (144, ⟨12, .live, false, [(vI y18), (vI y19), (.val (.bool y20))]⟩), (208, ⟨26, .live, false, [(vI (nth E_Siibe (nth E_LSiibe a0.f0 y13) y24).f0), (vI (nth E_Siibe (nth E_LSiibe a0.f0 y13) y24).f1), (.val (.bool (nth E_Siibe (nth E_LSiibe a0.f0 y13) y24).f2))]⟩), (q28_14 v33), (q28_15 v34)]) (ep := 43) (by kernel_rfl) ?_
                            refine .fin rfl ?_
                            exact jkN (by exact .tn [((16, 1), (16, 1)), ((95, 15), (95, 15)), ((111, 15), (111, 15)), ((127, 15), (127, 15)), ((143, 15), (143, 15)), ((144, 12), (144, 12)), ((208, 26), (208, 26)), ((1296, 35), (1296, 35)), ((1440, 38), (1440, 38))] ⟨(by (try rw [hc35]); rfl), (by (try rw [hc35]); rfl), (by (try rw [hc35]); rfl), (by (try rw [hc35]); rfl), (by (try rw [hc35]); rfl), (by (try rw [hc35]); rfl), (by (try rw [hc35]); rfl), (by (try rw [hc35]); rfl), (by (try rw [hc35]); rfl), (by (try rw [hc35]); rfl), (by (try rw [hc35]); rfl), (by (try rw [hc35]); rfl), (by (try rw [hc35]); rfl), (by (try rw [hc35]); rfl), (by (try rw [hc35]); rfl), (by (try rw [hc35]); rfl), (by (try rw [hc35]); rfl), trivial⟩ ⟨rfl, ⟨_, rfl, (by (try rw [hc35]); exact rfl)⟩, ⟨rfl, ⟨_, rfl, (by (try rw [hc35]); exact ah_row E_B)⟩, ⟨rfl, ⟨_, rfl, (by (try rw [hc35]); exact ah_row E_B)⟩, ⟨rfl, ⟨_, rfl, (by (try rw [hc35]); exact ah_row E_B)⟩, ⟨rfl, ⟨_, rfl, (by (try rw [hc35]); exact ah_row E_B)⟩, ⟨rfl, ⟨_, rfl, (by (try rw [hc35]); exact rfl)⟩, ⟨rfl, ⟨_, rfl, (by (try rw [hc35]); exact rfl)⟩, ⟨rfl, ⟨_, rfl, (by (try rw [hc35]); exact ah_row E_B)⟩, ⟨rfl, ⟨_, rfl, (by (try rw [hc35]); exact ah_row E_B)⟩, trivial⟩⟩⟩⟩⟩⟩⟩⟩⟩ rfl) rfl
                          · skip
                            refine .skip ?_
                            exact jkN (by exact .tn [((16, 1), (16, 1)), ((95, 15), (95, 15)), ((111, 15), (111, 15)), ((127, 15), (127, 15)), ((143, 15), (143, 15)), ((144, 12), (144, 12)), ((208, 26), (208, 26)), ((1296, 35), (1296, 35)), ((1440, 38), (1440, 38))] ⟨(by (try rw [hc35]); rfl), (by (try rw [hc35]); rfl), (by (try rw [hc35]); rfl), (by (try rw [hc35]); rfl), (by (try rw [hc35]); rfl), (by (try rw [hc35]); rfl), (by (try rw [hc35]); rfl), (by (try rw [hc35]); rfl), (by (try rw [hc35]); rfl), (by (try rw [hc35]); rfl), (by (try rw [hc35]); rfl), (by (try rw [hc35]); rfl), (by (try rw [hc35]); rfl), (by (try rw [hc35]); rfl), (by (try rw [hc35]); rfl), (by (try rw [hc35]); rfl), (by (try rw [hc35]); rfl), trivial⟩ ⟨rfl, ⟨_, rfl, (by (try rw [hc35]); exact rfl)⟩, ⟨rfl, ⟨_, rfl, (by (try rw [hc35]); exact ah_row E_B)⟩, ⟨rfl, ⟨_, rfl, (by (try rw [hc35]); exact ah_row E_B)⟩, ⟨rfl, ⟨_, rfl, (by (try rw [hc35]); exact ah_row E_B)⟩, ⟨rfl, ⟨_, rfl, (by (try rw [hc35]); exact ah_row E_B)⟩, ⟨rfl, ⟨_, rfl, (by (try rw [hc35]); exact rfl)⟩, ⟨rfl, ⟨_, rfl, (by (try rw [hc35]); exact rfl)⟩, ⟨rfl, ⟨_, rfl, (by (try rw [hc35]); exact ah_row E_B)⟩, ⟨rfl, ⟨_, rfl, (by (try rw [hc35]); exact ah_row E_B)⟩, trivial⟩⟩⟩⟩⟩⟩⟩⟩⟩ rfl) rfl
                        · rintro _ rfl
                          refine sqN ?_
                          refine .rgD rfl ?_
                          refine .seg tabOk 0 5 [1, 6, 7, 8, 9, 13, 17, 19, 39, 40, 41, 45, 46, 47, 97, 101] [16, 95, 111, 127, 143, 144, 208, 1296, 1440, 1616] (t := [(1, (.ptr (16, 1) 0)), (6, (.sref (111, 15) 0 y21.length 1)), (7, (.sref (127, 15) 0 y22.length 1)), (8, (.sref (143, 15) 0 y11.length 1)), (9, (.ptr (144, 12) 0)), (13, (.ptr (208, 26) 0)), (q28_16 v33), (q28_17 v34), (q28_1 a0), (q28_2 a0), (41, (vI y13)), (45, (.ro 3 (nth E_LSiibe a0.f0 y13).length (flat E_Siibe (nth E_LSiibe a0.f0 y13)))), (46, (vI ((nth E_LSiibe a0.f0 y13).length : Int))), (47, (vI y24)), (97, (.sref (95, 15) 0 y23.length 1)), (101, (.sref (1616, 45) 0 ([(bits .or .u8 (if (nth E_Siibe (nth E_LSiibe a0.f0 y13) y24).f2 then (bits .or .u8 v33.1 1) else v33.1) v34.1)] : List Int).length 1))]) (h := [(q28_0 a0), (95, ⟨15, .live, true, flat E_B y23⟩), (111, ⟨15, .live, true, flat E_B y21⟩), (127, ⟨15, .live, true, flat E_B y22⟩), (143, ⟨15, .live, true, flat E_B y11⟩), (144, ⟨12, .live, false, [(vI y18), (vI y19), (.val (.bool y20))]⟩), (208, ⟨26, .live, false, [(vI (nth E_Siibe (nth E_LSiibe a0.f0 y13) y24).f0), (vI (nth E_Siibe (nth E_LSiibe a0.f0 y13) y24).f1), (.val (.bool (nth E_Siibe (nth E_LSiibe a0.f0 y13) y24).f2))]⟩), (q28_14 v33), (q28_15 v34), (1616, ⟨45, .live, true, flat E_B ([(bits .or .u8 (if (nth E_Siibe (nth E_LSiibe a0.f0 y13) y24).f2 then (bits .or .u8 v33.1 1) else v33.1) v34.1)] : List Int)⟩)]) (ep := 45) (by kernel_rfl) ?_
                          obtain ⟨hb36, h⟩ := gS h
                          refine .oo tabOk rfl rfl rfl (q_app E_B (l := y23) rfl rfl rfl rfl rfl rfl rfl rfl rfl rfl rfl rfl rfl (.row ([(bits .or .u8 (if (nth E_Siibe (nth E_LSiibe a0.f0 y13) y24).f2 then (bits .or .u8 v33.1 1) else v33.1) v34.1)] : List Int) rfl rfl rfl rfl) hb36) rfl ?_
                          refine .seg tabOk 6 2 [1, 7, 8, 9, 13, 19, 39, 40, 41, 45, 46, 47, 102, 103, 104] [16, 95, 111, 127, 143, 144, 208, 1296, 1440, 1616, 1632] (t := [(1, (.ptr (16, 1) 0)), (7, (.sref (127, 15) 0 y22.length 1)), (8, (.sref (143, 15) 0 y11.length 1)), (9, (.ptr (144, 12) 0)), (13, (.ptr (208, 26) 0)), (q28_17 v34), (q28_1 a0), (q28_2 a0), (41, (vI y13)), (45, (.ro 3 (nth E_LSiibe a0.f0 y13).length (flat E_Siibe (nth E_LSiibe a0.f0 y13)))), (46, (vI ((nth E_LSiibe a0.f0 y13).length : Int))), (47, (vI y24)), (102, (.sref (1632, 45) 0 (y23 ++ ([(bits .or .u8 (if (nth E_Siibe (nth E_LSiibe a0.f0 y13) y24).f2 then (bits .or .u8 v33.1 1) else v33.1) v34.1)] : List Int)).length 1)), (103, (.sref (111, 15) 0 y21.length 1)), (104, (.sref (1296, 35) 0 v33.2.length 1))]) (h := [(q28_0 a0), (95, ⟨15, .gone, true, flat E_B y23⟩), (111, ⟨15, .live, true, flat E_B y21⟩), (127, ⟨15, .live, true, flat E_B y22⟩), (143, ⟨15, .live, true, flat E_B y11⟩), (144, ⟨12, .live, false, [(vI y18), (vI y19), (.val (.bool y20))]⟩), (208, ⟨26, .live, false, [(vI (nth E_Siibe (nth E_LSiibe a0.f0 y13) y24).f0), (vI (nth E_Siibe (nth E_LSiibe a0.f0 y13) y24).f1), (.val (.bool (nth E_Siibe (nth E_LSiibe a0.f0 y13) y24).f2))]⟩), (q28_14 v33), (q28_15 v34), (1616, ⟨45, .live, true, flat E_B ([(bits .or .u8 (if (nth E_Siibe (nth E_LSiibe a0.f0 y13) y24).f2 then (bits .or .u8 v33.1 1) else v33.1) v34.1)] : List Int)⟩), (1632, ⟨45, .live, true, flat E_B (y23 ++ ([(bits .or .u8 (if (nth E_Siibe (nth E_LSiibe a0.f0 y13) y24).f2 then (bits .or .u8 v33.1 1) else v33.1) v34.1)] : List Int))⟩)]) (ep := 45) (by kernel_rfl) ?_
                          obtain ⟨hb37, h⟩ := gS h
                          refine .oo tabOk rfl rfl rfl (q_app E_B (l := y21) rfl rfl rfl rfl rfl rfl rfl rfl rfl rfl rfl rfl rfl (.row v33.2 rfl rfl rfl rfl) hb37) rfl ?_
                          refine .seg tabOk 9 2 [1, 8, 9, 13, 39, 40, 41, 45, 46, 47, 102, 105, 106, 107] [16, 95, 111, 127, 143, 144, 208, 1296, 1440, 1616, 1632, 1680] (t := [(1, (.ptr (16, 1) 0)), (8, (.sref (143, 15) 0 y11.length 1)), (9, (.ptr (144, 12) 0)), (13, (.ptr (208, 26) 0)), (q28_1 a0), (q28_2 a0), (41, (vI y13)), (45, (.ro 3 (nth E_LSiibe a0.f0 y13).length (flat E_Siibe (nth E_LSiibe a0.f0 y13)))), (46, (vI ((nth E_LSiibe a0.f0 y13).length : Int))), (47, (vI y24)), (102, (.sref (1632, 45) 0 (y23 ++ ([(bits .or .u8 (if (nth E_Siibe (nth E_LSiibe a0.f0 y13) y24).f2 then (bits .or .u8 v33.1 1) else v33.1) v34.1)] : List Int)).length 1)), (105, (.sref (1680, 45) 0 (y21 ++ v33.2).length 1)), (106, (.sref (127, 15) 0 y22.length 1)), (107, (.sref (1440, 38) 0 v34.2.length 1))]) (h := [(q28_0 a0), (95, ⟨15, .gone, true, flat E_B y23⟩), (111, ⟨15, .gone, true, flat E_B y21⟩), (127, ⟨15, .live, true, flat E_B y22⟩), (143, ⟨15, .live, true, flat E_B y11⟩), (144, ⟨12, .live, false, [(vI y18), (vI y19), (.val (.bool y20))]⟩), (208, ⟨26, .live, false, [(vI (nth E_Siibe (nth E_LSiibe a0.f0 y13) y24).f0), (vI (nth E_Siibe (nth E_LSiibe a0.f0 y13) y24).f1), (.val (.bool (nth E_Siibe (nth E_LSiibe a0.f0 y13) y24).f2))]⟩), (q28_14 v33), (q28_15 v34), (1616, ⟨45, .live, true, flat E_B ([(bits .or .u8 (if (nth E_Siibe (nth E_LSiibe a0.f0 y13) y24).f2 then (bits .or .u8 v33.1 1) else v33.1) v34.1)] : List Int)⟩), (1632, ⟨45, .live, true, flat E_B (y23 ++ ([(bits .or .u8 (if (nth E_Siibe (nth E_LSiibe a0.f0 y13) y24).f2 then (bits .or .u8 v33.1 1) else v33.1) v34.1)] : List Int))⟩), (1680, ⟨45, .live, true, flat E_B (y21 ++ v33.2)⟩)]) (ep := 45) (by kernel_rfl) ?_
                          obtain ⟨hb38, h⟩ := gS h
                          refine .oo tabOk rfl rfl rfl (q_app E_B (l := y22) rfl rfl rfl rfl rfl rfl rfl rfl rfl rfl rfl rfl rfl (.row v34.2 rfl rfl rfl rfl) hb38) rfl ?_
                          refine .seg tabOk 12 5 [1, 5, 6, 7, 8, 9, 39, 40, 41, 45, 46, 47] [16, 95, 111, 127, 143, 144, 208, 1296, 1440, 1616, 1632, 1680, 1728] (t := [(1, (.ptr (16, 1) 0)), (5, (.sref (1632, 45) 0 (y23 ++ ([(bits .or .u8 (if (nth E_Siibe (nth E_LSiibe a0.f0 y13) y24).f2 then (bits .or .u8 v33.1 1) else v33.1) v34.1)] : List Int)).length 1)), (6, (.sref (1680, 45) 0 (y21 ++ v33.2).length 1)), (7, (.sref (1728, 45) 0 (y22 ++ v34.2).length 1)), (8, (.sref (143, 15) 0 y11.length 1)), (9, (.ptr (144, 12) 0)), (q28_1 a0), (q28_2 a0), (41, (vI y13)), (45, (.ro 3 (nth E_LSiibe a0.f0 y13).length (flat E_Siibe (nth E_LSiibe a0.f0 y13)))), (46, (vI ((nth E_LSiibe a0.f0 y13).length : Int))), (47, (vI y24))]) (h := [(q28_0 a0), (95, ⟨15, .gone, true, flat E_B y23⟩), (111, ⟨15, .gone, true, flat E_B y21⟩), (127, ⟨15, .gone, true, flat E_B y22⟩), (143, ⟨15, .live, true, flat E_B y11⟩), (144, ⟨12, .live, false, [(vI (nth E_Siibe (nth E_LSiibe a0.f0 y13) y24).f0), (vI (nth E_Siibe (nth E_LSiibe a0.f0 y13) y24).f1), (.val (.bool (nth E_Siibe (nth E_LSiibe a0.f0 y13) y24).f2))]⟩), (208, ⟨26, .live, false, [(vI (nth E_Siibe (nth E_LSiibe a0.f0 y13) y24).f0), (vI (nth E_Siibe (nth E_LSiibe a0.f0 y13) y24).f1), (.val (.bool (nth E_Siibe (nth E_LSiibe a0.f0 y13) y24).f2))]⟩), (q28_14 v33), (q28_15 v34), (1616, ⟨45, .live, true, flat E_B ([(bits .or .u8 (if (nth E_Siibe (nth E_LSiibe a0.f0 y13) y24).f2 then (bits .or .u8 v33.1 1) else v33.1) v34.1)] : List Int)⟩), (1632, ⟨45, .live, true, flat E_B (y23 ++ ([(bits .or .u8 (if (nth E_Siibe (nth E_LSiibe a0.f0 y13) y24).f2 then (bits .or .u8 v33.1 1) else v33.1) v34.1)] : List Int))⟩), (1680, ⟨45, .live, true, flat E_B (y21 ++ v33.2)⟩), (1728, ⟨45, .live, true, flat E_B (y22 ++ v34.2)⟩)]) (ep := 45) (by kernel_rfl) ?_
                          refine .fin mixed [1, 5, 6, 7, 8, 9, 39, 40, 41, 45, 46, 47] [16, 143, 144, 1632, 1680, 1728] (t := [(1, (.ptr (16, 1) 0)), (5, (.sref (1632, 45) 0 (y23 ++ ([(bits .or .u8 (if (nth E_Siibe (nth E_LSiibe a0.f0 y13) y24).f2 then (bits .or .u8 v33.1 1) else v33.1) v34.1)] : List Int)).length 1)), (6, (.sref (1680, 45) 0 (y21 ++ v33.2).length 1)), (7, (.sref (1728, 45) 0 (y22 ++ v34.2).length 1)), (8, (.sref (143, 15) 0 y11.length 1)), (9, (.ptr (144, 12) 0)), (q28_1 a0), (q28_2 a0), (41, (vI y13)), (45, (.ro 3 (nth E_LSiibe a0.f0 y13).length (flat E_Siibe (nth E_LSiibe a0.f0 y13)))), (46, (vI ((nth E_LSiibe a0.f0 y13).length : Int))), (47, (vI y24))]) (h := [(q28_0 a0), (143, ⟨15, .live, true, flat E_B y11⟩), (144, ⟨12, .live, false, [(vI (nth E_Siibe (nth E_LSiibe a0.f0 y13) y24).f0), (vI (nth E_Siibe (nth E_LSiibe a0.f0 y13) y24).f1), (.val (.bool (nth E_Siibe (nth E_LSiibe a0.f0 y13) y24).f2))]⟩), (1632, ⟨45, .live, true, flat E_B (y23 ++ ([(bits .or .u8 (if (nth E_Siibe (nth E_LSiibe a0.f0 y13) y24).f2 then (bits .or .u8 v33.1 1) else v33.1) v34.1)] : List Int))⟩), (1680, ⟨45, .live, true, flat E_B (y21 ++ v33.2)⟩), (1728, ⟨45, .live, true, flat E_B (y22 ++ v34.2)⟩)]) (ep := 46) rfl (by kernel_rfl) rfl ?_
                          refine bkN ?_
                          exact jkN (by exact .tn [((16, 1), (16, 1)), ((143, 15), (143, 15)), ((144, 12), (144, 12)), ((1632, 45), (1632, 45)), ((1680, 45), (1680, 45)), ((1728, 45), (1728, 45))] ⟨rfl, rfl, rfl, rfl, rfl, rfl, rfl, rfl, rfl, rfl, rfl, rfl, trivial⟩ ⟨rfl, ⟨_, rfl, rfl⟩, ⟨rfl, ⟨_, rfl, ah_row E_B⟩, ⟨rfl, ⟨_, rfl, rfl⟩, ⟨rfl, ⟨_, rfl, ah_row E_B⟩, ⟨rfl, ⟨_, rfl, ah_row E_B⟩, ⟨rfl, ⟨_, rfl, ah_row E_B⟩, trivial⟩⟩⟩⟩⟩⟩ rfl) ⟨_, _, _, rfl, h⟩
                    · rintro _ ⟨x39, x40, x41, rfl, h⟩
                      subst hj26
                      refine sqN ?_
                      refine .rgI rfl ?_
                      refine .seg tabOk 0 2 [1, 5, 6, 7, 8, 9, 39, 40, 41, 45, 46, 47] [16, 143, 144, 1632, 1680, 1728] (t := [(1, (.ptr (16, 1) 0)), (5, (.sref (1632, 45) 0 x39.length 1)), (6, (.sref (1680, 45) 0 x40.length 1)), (7, (.sref (1728, 45) 0 x41.length 1)), (8, (.sref (143, 15) 0 y11.length 1)), (9, (.ptr (144, 12) 0)), (q28_1 a0), (q28_2 a0), (41, (vI y13)), (45, (.ro 3 (nth E_LSiibe a0.f0 y13).length (flat E_Siibe (nth E_LSiibe a0.f0 y13)))), (46, (vI ((nth E_LSiibe a0.f0 y13).length : Int))), (47, (vI (w64 (y24 + 1))))]) (h := [(q28_0 a0), (143, ⟨15, .live, true, flat E_B y11⟩), (144, ⟨12, .live, false, [(vI (nth E_Siibe (nth E_LSiibe a0.f0 y13) y24).f0), (vI (nth E_Siibe (nth E_LSiibe a0.f0 y13) y24).f1), (.val (.bool (nth E_Siibe (nth E_LSiibe a0.f0 y13) y24).f2))]⟩), (1632, ⟨45, .live, true, flat E_B x39⟩), (1680, ⟨45, .live, true, flat E_B x40⟩), (1728, ⟨45, .live, true, flat E_B x41⟩)]) (ep := 49) (by kernel_rfl) ?_
                      refine .fin rfl ?_
                      exact jkN (by exact .tn [((16, 1), (16, 1)), ((1632, 45), (95, 15)), ((1680, 45), (111, 15)), ((1728, 45), (127, 15)), ((143, 15), (143, 15)), ((144, 12), (144, 12))] ⟨rfl, rfl, rfl, rfl, rfl, rfl, rfl, rfl, rfl, rfl, rfl, rfl, trivial⟩ ⟨rfl, ⟨_, rfl, rfl⟩, ⟨rfl, ⟨_, rfl, ah_row E_B⟩, ⟨rfl, ⟨_, rfl, ah_row E_B⟩, ⟨rfl, ⟨_, rfl, ah_row E_B⟩, ⟨rfl, ⟨_, rfl, ah_row E_B⟩, ⟨rfl, ⟨_, rfl, rfl⟩, trivial⟩⟩⟩⟩⟩⟩ rfl) ⟨n, ((nth E_Siibe (nth E_LSiibe a0.f0 y13) y24).f0, (nth E_Siibe (nth E_LSiibe a0.f0 y13) y24).f1, (nth E_Siibe (nth E_LSiibe a0.f0 y13) y24).f2, x40, x41, x39, (w64 (y24 + 1))), Nat.lt_succ_self n, rfl, h⟩
                  · have h := iF h hc25
                    refine .exit ?_
                    refine sqX ?_
                    refine jkX ?_
                    refine bkE ?_
                    exact jkN (by exact .tn [((16, 1), (16, 1)), ((95, 15), (95, 15)), ((111, 15), (111, 15)), ((127, 15), (127, 15)), ((143, 15), (143, 15)), ((144, 12), (144, 12))] ⟨rfl, rfl, rfl, rfl, rfl, rfl, rfl, rfl, rfl, trivial⟩ ⟨rfl, ⟨_, rfl, rfl⟩, ⟨rfl, ⟨_, rfl, ah_row E_B⟩, ⟨rfl, ⟨_, rfl, ah_row E_B⟩, ⟨rfl, ⟨_, rfl, ah_row E_B⟩, ⟨rfl, ⟨_, rfl, ah_row E_B⟩, ⟨rfl, ⟨_, rfl, rfl⟩, trivial⟩⟩⟩⟩⟩⟩ rfl) ⟨_, _, _, _, _, _, rfl, h⟩
              · rintro _ ⟨x42, x43, x44, x45, x46, x47, rfl, h⟩
                subst hj17
                refine sqN ?_
                refine .rgI rfl ?_
                refine .seg tabOk 0 4 [1, 5, 6, 7, 9, 39, 40, 41, 111, 114] [16, 95, 111, 127, 143, 144] (t := [(1, (.ptr (16, 1) 0)), (5, (.sref (95, 15) 0 x47.length 1)), (6, (.sref (111, 15) 0 x45.length 1)), (7, (.sref (127, 15) 0 x46.length 1)), (9, (.ptr (144, 12) 0)), (q28_1 a0), (q28_2 a0), (41, (vI y13)), (111, (.sref (143, 15) 0 y11.length 1)), (114, (vI (w64 ((x47.length : Int) - 1))))]) (h := [(q28_0 a0), (95, ⟨15, .live, true, flat E_B x47⟩), (111, ⟨15, .live, true, flat E_B x45⟩), (127, ⟨15, .live, true, flat E_B x46⟩), (143, ⟨15, .live, true, flat E_B y11⟩), (144, ⟨12, .live, false, [(vI x42), (vI x43), (.val (.bool x44))]⟩)]) (ep := 28) (by kernel_rfl) ?_
                obtain ⟨v48, hv48, h⟩ := bS h
                refine .cc true rfl rfl (C_be_Put _ _ _ _ hv48) ent_be_Put rfl rfl rfl rfl (g_cons (g_pl rfl rfl) (g_cons (g_pl rfl rfl) g_nil)) rfl ?_
                obtain ⟨hb49, h⟩ := gS h
                refine .oo tabOk rfl rfl rfl (q_app E_B (l := y11) rfl rfl rfl rfl rfl rfl rfl rfl rfl rfl rfl rfl rfl (.row v48 rfl rfl rfl rfl) hb49) ?_
                refine .seg tabOk 6 1 [1, 5, 6, 7, 8, 9, 39, 40, 41] [16, 95, 111, 127, 144, 1856] (t := [(1, (.ptr (16, 1) 0)), (5, (.sref (95, 15) 0 x47.length 1)), (6, (.sref (111, 15) 0 x45.length 1)), (7, (.sref (127, 15) 0 x46.length 1)), (8, (.sref (1856, 28) 0 (y11 ++ v48).length 1)), (9, (.ptr (144, 12) 0)), (q28_1 a0), (q28_2 a0), (41, (vI y13))]) (h := [(q28_0 a0), (95, ⟨15, .live, true, flat E_B x47⟩), (111, ⟨15, .live, true, flat E_B x45⟩), (127, ⟨15, .live, true, flat E_B x46⟩), (144, ⟨12, .live, false, [(vI x42), (vI x43), (.val (.bool x44))]⟩), (1856, ⟨28, .live, true, flat E_B (y11 ++ v48)⟩)]) (ep := 29) (by kernel_rfl) ?_
                refine .fin rfl ?_
                refine bkN ?_
                exact jkN (by exact .tn [((16, 1), (16, 1)), ((95, 15), (95, 15)), ((111, 15), (111, 15)), ((127, 15), (127, 15)), ((144, 12), (144, 12)), ((1856, 28), (1856, 28))] ⟨rfl, rfl, rfl, rfl, rfl, rfl, rfl, rfl, rfl, trivial⟩ ⟨rfl, ⟨_, rfl, rfl⟩, ⟨rfl, ⟨_, rfl, ah_row E_B⟩, ⟨rfl, ⟨_, rfl, ah_row E_B⟩, ⟨rfl, ⟨_, rfl, ah_row E_B⟩, ⟨rfl, ⟨_, rfl, rfl⟩, ⟨rfl, ⟨_, rfl, ah_row E_B⟩, trivial⟩⟩⟩⟩⟩⟩ rfl) ⟨_, _, _, _, _, _, _, rfl, h⟩
            · rintro _ ⟨x50, x51, x52, x53, x54, x55, x56, rfl, h⟩
              subst hj15
              refine sqN ?_
              refine .rgI rfl ?_
              refine .seg tabOk 0 2 [1, 5, 6, 7, 8, 9, 39, 40, 41] [16, 95, 111, 127, 144, 1856] (t := [(1, (.ptr (16, 1) 0)), (5, (.sref (95, 15) 0 x56.length 1)), (6, (.sref (111, 15) 0 x53.length 1)), (7, (.sref (127, 15) 0 x54.length 1)), (8, (.sref (1856, 28) 0 x55.length 1)), (9, (.ptr (144, 12) 0)), (q28_1 a0), (q28_2 a0), (41, (vI (w64 (y13 + 1))))]) (h := [(q28_0 a0), (95, ⟨15, .live, true, flat E_B x56⟩), (111, ⟨15, .live, true, flat E_B x53⟩), (127, ⟨15, .live, true, flat E_B x54⟩), (144, ⟨12, .live, false, [(vI x50), (vI x51), (.val (.bool x52))]⟩), (1856, ⟨28, .live, true, flat E_B x55⟩)]) (ep := 32) (by kernel_rfl) ?_
              refine .fin rfl ?_
              exact jkN (by exact .tn [((16, 1), (16, 1)), ((95, 15), (95, 15)), ((111, 15), (111, 15)), ((127, 15), (127, 15)), ((1856, 28), (143, 15)), ((144, 12), (144, 12))] ⟨rfl, rfl, rfl, rfl, rfl, rfl, rfl, rfl, rfl, trivial⟩ ⟨rfl, ⟨_, rfl, rfl⟩, ⟨rfl, ⟨_, rfl, ah_row E_B⟩, ⟨rfl, ⟨_, rfl, ah_row E_B⟩, ⟨rfl, ⟨_, rfl, ah_row E_B⟩, ⟨rfl, ⟨_, rfl, ah_row E_B⟩, ⟨rfl, ⟨_, rfl, rfl⟩, trivial⟩⟩⟩⟩⟩⟩ rfl) ⟨n, (x50, x51, x52, x53, x54, x55, x56, (w64 (y13 + 1))), Nat.lt_succ_self n, rfl, h⟩
          · have h := iF h hc14
            refine .exit ?_
            refine sqX ?_
            refine jkX ?_
            refine bkE ?_
            exact jkN (by exact .tn [((16, 1), (16, 1)), ((95, 15), (95, 18)), ((111, 15), (111, 18)), ((127, 15), (127, 18)), ((143, 15), (143, 18))] ⟨rfl, rfl, rfl, rfl, rfl, trivial⟩ ⟨rfl, ⟨_, rfl, rfl⟩, ⟨rfl, ⟨_, rfl, ah_row E_B⟩, ⟨rfl, ⟨_, rfl, ah_row E_B⟩, ⟨rfl, ⟨_, rfl, ah_row E_B⟩, ⟨rfl, ⟨_, rfl, ah_row E_B⟩, trivial⟩⟩⟩⟩⟩ rfl) ⟨_, _, _, _, rfl, h⟩
      · rintro _ ⟨x57, x58, x59, x60, rfl, h⟩
        subst hj5
        refine sqN ?_
        refine .seq ?_
        refine .rgI rfl ?_
        refine .seg tabOk 0 2 [1, 5, 6, 7, 8, 120] [16, 95, 111, 127, 143] (t := [(1, (.ptr (16, 1) 0)), (q28_11 x60), (q28_9 x57), (q28_6 x58), (q28_13 x59), (120, (.ro 1 a0.f0.length (flat E_LSiibe a0.f0)))]) (h := [(q28_0 a0), (q28_10 x60), (q28_7 x57), (q28_4 x58), (q28_12 x59)]) (ep := 21) (by kernel_rfl) ?_
        obtain ⟨v61, hv61, h⟩ := bS h
        refine .cc true rfl rfl (C_simple_Box _ _ _ hv61) ent_simple_Box rfl rfl rfl rfl (g_cons (g_pl rfl rfl) g_nil) rfl ?_
        refine .seg tabOk 3 7 [1, 5, 6, 7, 8, 20, 21] [16, 95, 111, 127, 143, 320, 336] (t := [(1, (.ptr (16, 1) 0)), (q28_11 x60), (q28_9 x57), (q28_6 x58), (q28_13 x59), (20, (.ptr (320, 21) 0)), (21, (.ptr (336, 21) 0))]) (h := [(q28_0 a0), (q28_10 x60), (q28_7 x57), (q28_4 x58), (q28_12 x59), (320, ⟨21, .live, false, [(vI v61.1.f0), (vI v61.1.f1)]⟩), (336, ⟨21, .live, false, [(vI v61.2.f0), (vI v61.2.f1)]⟩)]) (ep := 22) (by kernel_rfl) ?_
        refine .fin rfl ?_
        refine sqN ?_
        refine .seq ?_
        refine .rgI rfl ?_
        refine .seg tabOk 0 1 [1, 5, 6, 7, 8, 20, 21, 22] [16, 95, 111, 127, 143, 320, 336] (t := [(1, (.ptr (16, 1) 0)), (q28_11 x60), (q28_9 x57), (q28_6 x58), (q28_13 x59), (20, (.ptr (320, 21) 0)), (21, (.ptr (336, 21) 0)), (22, .nils)]) (h := [(q28_0 a0), (q28_10 x60), (q28_7 x57), (q28_4 x58), (q28_12 x59), (320, ⟨21, .live, false, [(vI v61.1.f0), (vI v61.1.f1)]⟩), (336, ⟨21, .live, false, [(vI v61.2.f0), (vI v61.2.f1)]⟩)]) (ep := 24) (by kernel_rfl) ?_
        refine .fin rfl ?_
        refine sqN ?_
        refine .seq ?_
        refine .seq ?_
        refine .rgI rfl ?_
        refine .seg tabOk 0 14 [1, 5, 6, 7, 8, 22, 135, 136, 137] [16, 95, 111, 127, 143, 2160] (t := [(1, (.ptr (16, 1) 0)), (q28_11 x60), (q28_9 x57), (q28_6 x58), (q28_13 x59), (22, .nils), (q28_3 a0 v61), (q28_8 a0 v61), (137, (vI 0))]) (h := [(q28_0 a0), (q28_10 x60), (q28_7 x57), (q28_4 x58), (q28_12 x59), (q28_5 a0 v61)]) (ep := 26) (by kernel_rfl) ?_
        refine .fin rfl ?_
        refine sqN ?_
        obtain ⟨j62, hj62, h⟩ := ljS h
        refine .join (fun s' => ∃ x69, s' = ⟨[(1, (.ptr (16, 1) 0)), (q28_11 x60), (q28_9 x57), (q28_6 x58), (q28_13 x59), (22, (.sref (367, 29) 0 x69.length 1))], [(q28_0 a0), (q28_10 x60), (q28_7 x57), (q28_4 x58), (q28_12 x59), (367, ⟨29, .live, true, flat E_B x69⟩)], 30⟩ ∧ j62 x69 = some r) ?_ ?_
        · refine .block ?_
          refine .loopF (β := (List Int) × Int) (fun v => ⟨[(1, (.ptr (16, 1) 0)), (q28_11 x60), (q28_9 x57), (q28_6 x58), (q28_13 x59), (22, (.sref (367, 26) 0 v.1.length 1)), (q28_3 a0 v61), (q28_8 a0 v61), (137, (vI v.2))], [(q28_0 a0), (q28_10 x60), (q28_7 x57), (q28_4 x58), (q28_12 x59), (367, ⟨26, .live, true, flat E_B v.1⟩), (q28_5 a0 v61)], 27⟩) (fun m v => L_simple_Write_3 a0 v61 j62 m v.1 v.2 = some r) n (([] : List Int), 0) (by exact .trans (.nilRow 22 1 367 rfl (fresh_none rfl)) (.tn [((16, 1), (16, 1)), ((95, 18), (95, 18)), ((111, 18), (111, 18)), ((127, 18), (127, 18)), ((143, 18), (143, 18)), ((367, 26), (367, 26)), ((2160, 25), (2160, 25))] ⟨rfl, rfl, rfl, rfl, rfl, rfl, rfl, rfl, rfl, trivial⟩ ⟨rfl, ⟨_, rfl, rfl⟩, ⟨rfl, ⟨_, rfl, ah_row E_B⟩, ⟨rfl, ⟨_, rfl, ah_row E_B⟩, ⟨rfl, ⟨_, rfl, ah_row E_B⟩, ⟨rfl, ⟨_, rfl, ah_row E_B⟩, ⟨rfl, ⟨_, rfl, ah_row E_B⟩, ⟨rfl, ⟨_, rfl, ah_row E_i⟩, trivial⟩⟩⟩⟩⟩⟩⟩ rfl)) h ?_
          rintro m ⟨y63, y64⟩ h
          cases m with
          | zero => exact nomatch h
          | succ n =>
            rw [L_simple_Write_3] at h
            refine .seq ?_
            refine .rgI rfl ?_
            refine .seg tabOk 0 1 [1, 5, 6, 7, 8, 22, 135, 136, 137, 138] [16, 95, 111, 127, 143, 367, 2160] (t := [(1, (.ptr (16, 1) 0)), (q28_11 x60), (q28_9 x57), (q28_6 x58), (q28_13 x59), (22, (.sref (367, 26) 0 y63.length 1)), (q28_3 a0 v61), (q28_8 a0 v61), (137, (vI y64)), (138, (.val (.bool (decide (y64 < (([(a0.f0.length : Int), v61.1.f0, v61.1.f1, v61.2.f0, v61.2.f1] : List Int).length : Int))))))]) (h := [(q28_0 a0), (q28_10 x60), (q28_7 x57), (q28_4 x58), (q28_12 x59), (367, ⟨26, .live, true, flat E_B y63⟩), (q28_5 a0 v61)]) (ep := 29) (by kernel_rfl) ?_
            refine .fin rfl ?_
            refine sqN ?_
            refine .seq ?_
            refine .cond (decide (y64 < (([(a0.f0.length : Int), v61.1.f0, v61.1.f1, v61.2.f0, v61.2.f1] : List Int).length : Int))) rfl (fun hc65 => ?_) (fun hc65 => ?_)
            · have h := iT h hc65
              refine .skip ?_
              refine sqN ?_
              refine .seq ?_
              refine .block ?_
              refine .seq ?_
              refine .rgI rfl ?_
              obtain ⟨hb66, h⟩ := gS h
              refine .oo tabOk rfl rfl rfl (q_idxS E_i (l := ([(a0.f0.length : Int), v61.1.f0, v61.1.f1, v61.2.f0, v61.2.f1] : List Int)) rfl rfl rfl rfl rfl rfl rfl rfl hb66) ?_
              refine .oo tabOk rfl rfl rfl (q_ldS E_i (l := ([(a0.f0.length : Int), v61.1.f0, v61.1.f1, v61.2.f0, v61.2.f1] : List Int)) rfl rfl rfl rfl rfl hb66 rfl) ?_
              refine .seg tabOk 2 1 [1, 5, 6, 7, 8, 22, 24, 135, 136, 137] [16, 95, 111, 127, 143, 367, 2160] (t := [(1, (.ptr (16, 1) 0)), (q28_11 x60), (q28_9 x57), (q28_6 x58), (q28_13 x59), (22, (.sref (367, 26) 0 y63.length 1)), (24, (vI (nth E_i ([(a0.f0.length : Int), v61.1.f0, v61.1.f1, v61.2.f0, v61.2.f1] : List Int) y64))), (q28_3 a0 v61), (q28_8 a0 v61), (137, (vI y64))]) (h := [(q28_0 a0), (q28_10 x60), (q28_7 x57), (q28_4 x58), (q28_12 x59), (367, ⟨26, .live, true, flat E_B y63⟩), (q28_5 a0 v61)]) (ep := 31) (by kernel_rfl) ?_
              refine .fin rfl ?_
              refine sqN ?_
              refine .rgI rfl ?_
              refine .seg tabOk 0 2 [1, 5, 6, 7, 8, 135, 136, 137, 141, 142] [16, 95, 111, 127, 143, 367, 2160] (t := [(1, (.ptr (16, 1) 0)), (q28_11 x60), (q28_9 x57), (q28_6 x58), (q28_13 x59), (q28_3 a0 v61), (q28_8 a0 v61), (137, (vI y64)), (141, (.sref (367, 26) 0 y63.length 1)), (142, (vI (nth E_i ([(a0.f0.length : Int), v61.1.f0, v61.1.f1, v61.2.f0, v61.2.f1] : List Int) y64)))]) (h := [(q28_0 a0), (q28_10 x60), (q28_7 x57), (q28_4 x58), (q28_12 x59), (367, ⟨26, .live, true, flat E_B y63⟩), (q28_5 a0 v61)]) (ep := 33) (by kernel_rfl) ?_
              obtain ⟨v67, hv67, h⟩ := bS h
              refine .cc true rfl rfl (C_be_Put _ _ _ _ hv67) ent_be_Put rfl rfl rfl rfl (g_cons (g_pl rfl rfl) (g_cons (g_pl rfl rfl) g_nil)) rfl ?_
              obtain ⟨hb68, h⟩ := gS h
              refine .oo tabOk rfl rfl rfl (q_app E_B (l := y63) rfl rfl rfl rfl rfl rfl rfl rfl rfl rfl rfl rfl rfl (.row v67 rfl rfl rfl rfl) hb68) ?_
              refine .seg tabOk 4 1 [1, 5, 6, 7, 8, 22, 135, 136, 137] [16, 95, 111, 127, 143, 2160, 2304] (t := [(1, (.ptr (16, 1) 0)), (q28_11 x60), (q28_9 x57), (q28_6 x58), (q28_13 x59), (22, (.sref (2304, 33) 0 (y63 ++ v67).length 1)), (q28_3 a0 v61), (q28_8 a0 v61), (137, (vI y64))]) (h := [(q28_0 a0), (q28_10 x60), (q28_7 x57), (q28_4 x58), (q28_12 x59), (q28_5 a0 v61), (2304, ⟨33, .live, true, flat E_B (y63 ++ v67)⟩)]) (ep := 34) (by kernel_rfl) ?_
              refine .fin rfl ?_
              refine bkN ?_
              refine sqN ?_
              refine .rgI rfl ?_
              refine .seg tabOk 0 2 [1, 5, 6, 7, 8, 22, 135, 136, 137] [16, 95, 111, 127, 143, 2160, 2304] (t := [(1, (.ptr (16, 1) 0)), (q28_11 x60), (q28_9 x57), (q28_6 x58), (q28_13 x59), (22, (.sref (2304, 33) 0 (y63 ++ v67).length 1)), (q28_3 a0 v61), (q28_8 a0 v61), (137, (vI (w64 (y64 + 1))))]) (h := [(q28_0 a0), (q28_10 x60), (q28_7 x57), (q28_4 x58), (q28_12 x59), (q28_5 a0 v61), (2304, ⟨33, .live, true, flat E_B (y63 ++ v67)⟩)]) (ep := 36) (by kernel_rfl) ?_
              refine .fin rfl ?_
              exact jkN (by exact .tn [((16, 1), (16, 1)), ((95, 18), (95, 18)), ((111, 18), (111, 18)), ((127, 18), (127, 18)), ((143, 18), (143, 18)), ((2304, 33), (367, 26)), ((2160, 25), (2160, 25))] ⟨rfl, rfl, rfl, rfl, rfl, rfl, rfl, rfl, rfl, trivial⟩ ⟨rfl, ⟨_, rfl, rfl⟩, ⟨rfl, ⟨_, rfl, ah_row E_B⟩, ⟨rfl, ⟨_, rfl, ah_row E_B⟩, ⟨rfl, ⟨_, rfl, ah_row E_B⟩, ⟨rfl, ⟨_, rfl, ah_row E_B⟩, ⟨rfl, ⟨_, rfl, ah_row E_B⟩, ⟨rfl, ⟨_, rfl, ah_row E_i⟩, trivial⟩⟩⟩⟩⟩⟩⟩ rfl) ⟨n, ((y63 ++ v67), (w64 (y64 + 1))), Nat.lt_succ_self n, rfl, h⟩
            · have h := iF h hc65
              refine .exit ?_
              refine sqX ?_
              refine jkX ?_
              refine bkE ?_
              exact jkN (by exact .tn [((16, 1), (16, 1)), ((95, 18), (95, 18)), ((111, 18), (111, 18)), ((127, 18), (127, 18)), ((143, 18), (143, 18)), ((367, 26), (367, 29))] ⟨rfl, rfl, rfl, rfl, rfl, rfl, trivial⟩ ⟨rfl, ⟨_, rfl, rfl⟩, ⟨rfl, ⟨_, rfl, ah_row E_B⟩, ⟨rfl, ⟨_, rfl, ah_row E_B⟩, ⟨rfl, ⟨_, rfl, ah_row E_B⟩, ⟨rfl, ⟨_, rfl, ah_row E_B⟩, ⟨rfl, ⟨_, rfl, ah_row E_B⟩, trivial⟩⟩⟩⟩⟩⟩ rfl) ⟨_, rfl, h⟩
        · rintro _ ⟨x69, rfl, h⟩
          subst hj62
          refine sqN ?_
          refine .seq ?_
          refine .rgD rfl ?_
          refine .seg tabOk 0 2 [1, 5, 6, 7, 146, 147] [16, 95, 111, 127, 143, 367] (t := [(1, (.ptr (16, 1) 0)), (q28_11 x60), (q28_9 x57), (q28_6 x58), (146, (.sref (367, 29) 0 x69.length 1)), (147, (.sref (143, 18) 0 x59.length 1))]) (h := [(q28_0 a0), (q28_10 x60), (q28_7 x57), (q28_4 x58), (q28_12 x59), (367, ⟨29, .live, true, flat E_B x69⟩)]) (ep := 31) (by kernel_rfl) ?_
          obtain ⟨hb70, h⟩ := gS h
          refine .oo tabOk rfl rfl rfl (q_app E_B (l := x69) rfl rfl rfl rfl rfl rfl rfl rfl rfl rfl rfl rfl rfl (.row x59 rfl rfl rfl rfl) hb70) rfl ?_
          refine .seg tabOk 3 3 [1, 5, 6, 7, 148, 151] [16, 95, 111, 127, 143, 367, 2368] (t := [(1, (.ptr (16, 1) 0)), (q28_11 x60), (q28_9 x57), (q28_6 x58), (148, (.sref (2368, 31) 0 (x69 ++ x59).length 1)), (151, (vI (a0.f1.length : Int)))]) (h := [(q28_0 a0), (q28_10 x60), (q28_7 x57), (q28_4 x58), (q28_12 x59), (367, ⟨29, .gone, true, flat E_B x69⟩), (2368, ⟨31, .live, true, flat E_B (x69 ++ x59)⟩)]) (ep := 31) (by kernel_rfl) ?_
          obtain ⟨v71, hv71, h⟩ := bS h
          refine .cc true rfl rfl (C_be_Put _ _ _ _ hv71) ent_be_Put rfl rfl rfl rfl (g_cons (g_pl rfl rfl) (g_cons (g_pl rfl rfl) g_nil)) rfl rfl ?_
          obtain ⟨hb72, h⟩ := gS h
          refine .oo tabOk rfl rfl rfl (q_app E_B (l := (x69 ++ x59)) rfl rfl rfl rfl rfl rfl rfl rfl rfl rfl rfl rfl rfl (.row v71 rfl rfl rfl rfl) hb72) rfl ?_
          refine .seg tabOk 8 1 [1, 5, 6, 7, 22] [16, 95, 111, 127, 143, 367, 2368, 2432, 2448] (t := [(1, (.ptr (16, 1) 0)), (q28_11 x60), (q28_9 x57), (q28_6 x58), (22, (.sref (2448, 31) 0 ((x69 ++ x59) ++ v71).length 1))]) (h := [(q28_0 a0), (q28_10 x60), (q28_7 x57), (q28_4 x58), (q28_12 x59), (367, ⟨29, .gone, true, flat E_B x69⟩), (2368, ⟨31, .gone, true, flat E_B (x69 ++ x59)⟩), (2432, ⟨31, .live, true, flat E_B v71⟩), (2448, ⟨31, .live, true, flat E_B ((x69 ++ x59) ++ v71)⟩)]) (ep := 31) (by kernel_rfl) ?_
          refine .fin mixed [1, 5, 6, 7, 22] [16, 95, 111, 127, 2448] (t := [(1, (.ptr (16, 1) 0)), (q28_11 x60), (q28_9 x57), (q28_6 x58), (22, (.sref (2448, 31) 0 ((x69 ++ x59) ++ v71).length 1))]) (h := [(q28_0 a0), (q28_10 x60), (q28_7 x57), (q28_4 x58), (2448, ⟨31, .live, true, flat E_B ((x69 ++ x59) ++ v71)⟩)]) (ep := 32) rfl (by kernel_rfl) rfl ?_
          refine sqN ?_
          refine .seq ?_
          refine .rgI rfl ?_
          refine .seg tabOk 0 3 [5, 6, 7, 154, 156] [95, 111, 127, 2448] (t := [(q28_11 x60), (q28_9 x57), (q28_6 x58), (154, (.sref (2448, 31) 0 ((x69 ++ x59) ++ v71).length 1)), (156, (.ro 1 a0.f1.length (flat E_B a0.f1)))]) (h := [(q28_10 x60), (q28_7 x57), (q28_4 x58), (2448, ⟨31, .live, true, flat E_B ((x69 ++ x59) ++ v71)⟩)]) (ep := 34) (by kernel_rfl) ?_
          obtain ⟨hb73, h⟩ := gS h
          refine .oo tabOk rfl rfl rfl (q_app E_B (l := ((x69 ++ x59) ++ v71)) rfl rfl rfl rfl rfl rfl rfl rfl rfl rfl rfl rfl rfl (.ro a0.f1) hb73) ?_
          refine .seg tabOk 4 1 [6, 7, 157, 158] [95, 111, 127, 2512] (t := [(q28_9 x57), (q28_6 x58), (157, (.sref (2512, 34) 0 (((x69 ++ x59) ++ v71) ++ a0.f1).length 1)), (158, (.sref (95, 18) 0 x60.length 1))]) (h := [(q28_10 x60), (q28_7 x57), (q28_4 x58), (2512, ⟨34, .live, true, flat E_B (((x69 ++ x59) ++ v71) ++ a0.f1)⟩)]) (ep := 35) (by kernel_rfl) ?_
          obtain ⟨v74, hv74, h⟩ := bS h
          refine .cc true rfl rfl (C_simple_packed _ _ _ hv74) ent_simple_packed rfl rfl rfl rfl (g_cons (g_row E_B x60 rfl rfl rfl rfl rfl) g_nil) rfl ?_
          obtain ⟨hb75, h⟩ := gS h
          refine .oo tabOk rfl rfl rfl (q_app E_B (l := (((x69 ++ x59) ++ v71) ++ a0.f1)) rfl rfl rfl rfl rfl rfl rfl rfl rfl rfl rfl rfl rfl (.row v74 rfl rfl rfl rfl) hb75) ?_
          refine .seg tabOk 7 1 [6, 7, 22] [111, 127, 2560] (t := [(q28_9 x57), (q28_6 x58), (22, (.sref (2560, 35) 0 ((((x69 ++ x59) ++ v71) ++ a0.f1) ++ v74).length 1))]) (h := [(q28_7 x57), (q28_4 x58), (2560, ⟨35, .live, true, flat E_B ((((x69 ++ x59) ++ v71) ++ a0.f1) ++ v74)⟩)]) (ep := 36) (by kernel_rfl) ?_
          refine .fin rfl ?_
          refine sqN ?_
          refine .seq ?_
          refine .rgI rfl ?_
          refine .seg tabOk 0 2 [7, 161, 162] [111, 127, 2560] (t := [(q28_6 x58), (161, (.sref (2560, 35) 0 ((((x69 ++ x59) ++ v71) ++ a0.f1) ++ v74).length 1)), (162, (.sref (111, 18) 0 x57.length 1))]) (h := [(q28_7 x57), (q28_4 x58), (2560, ⟨35, .live, true, flat E_B ((((x69 ++ x59) ++ v71) ++ a0.f1) ++ v74)⟩)]) (ep := 38) (by kernel_rfl) ?_
          obtain ⟨hb76, h⟩ := gS h
          refine .oo tabOk rfl rfl rfl (q_app E_B (l := ((((x69 ++ x59) ++ v71) ++ a0.f1) ++ v74)) rfl rfl rfl rfl rfl rfl rfl rfl rfl rfl rfl rfl rfl (.row x57 rfl rfl rfl rfl) hb76) ?_
          refine .seg tabOk 3 1 [163, 164] [127, 2608] (t := [(163, (.sref (2608, 38) 0 (((((x69 ++ x59) ++ v71) ++ a0.f1) ++ v74) ++ x57).length 1)), (164, (.sref (127, 18) 0 x58.length 1))]) (h := [(q28_4 x58), (2608, ⟨38, .live, true, flat E_B (((((x69 ++ x59) ++ v71) ++ a0.f1) ++ v74) ++ x57)⟩)]) (ep := 39) (by kernel_rfl) ?_
          obtain ⟨hb77, h⟩ := gS h
          refine .oo tabOk rfl rfl rfl (q_app E_B (l := (((((x69 ++ x59) ++ v71) ++ a0.f1) ++ v74) ++ x57)) rfl rfl rfl rfl rfl rfl rfl rfl rfl rfl rfl rfl rfl (.row x58 rfl rfl rfl rfl) hb77) ?_
          refine .seg tabOk 5 2 [2, 3] [2640] (t := [(2, (.sref (2640, 39) 0 ((((((x69 ++ x59) ++ v71) ++ a0.f1) ++ v74) ++ x57) ++ x58).length 1)), (3, (vI 0))]) (h := [(2640, ⟨39, .live, true, flat E_B ((((((x69 ++ x59) ++ v71) ++ a0.f1) ++ v74) ++ x57) ++ x58)⟩)]) (ep := 40) (by kernel_rfl) ?_
          refine .fin rfl ?_
          refine sqN ?_
          refine .ret ?_
          injection h with h
          subst h
          exact ⟨.inr rfl, _, _, (f_cons (f_tmp rfl (o1_row E_B ((((((x69 ++ x59) ++ v71) ++ a0.f1) ++ v74) ++ x57) ++ x58) rfl rfl rfl rfl rfl)) (f_cons rfl f_nil)), nd_of rfl, rfl, rfl⟩
abbrev R_law07_triangle := T_SLLSiibeLBe
def F_law07_triangle (n : Nat) : Option R_law07_triangle :=
  some (⟨([([(⟨0, 0, true⟩ : T_Siibe), (⟨100, 0, true⟩ : T_Siibe), (⟨0, 300, true⟩ : T_Siibe)] : List T_Siibe)] : List (List T_Siibe)), ([] : List Int)⟩ : T_SLLSiibeLBe)
theorem C_law07_triangle (n : Nat) (r : R_law07_triangle) (h : F_law07_triangle n = some r) : CallS Try.prog 46 [] (.agg [(.own 1 r.f0.length (flat E_LSiibe r.f0)), (.own 1 r.f1.length (flat E_B r.f1))]) [] := by
  refine CallS.introK tabOk Try.func46 rfl Try.ntmps46 (Nat.le_of_ble_eq_true rfl) ?_
  rw [F_law07_triangle] at h
  refine .seq ?_
  refine .rgI rfl ?_
  refine .seg tabOk 0 1 [0] [0] (t := [(0, (.ptr (0, 1) 0))]) (h := [(0, ⟨1, .live, false, [.nils, .nils]⟩)]) (ep := 2) (by kernel_rfl) ?_
  refine .fin rfl ?_
  refine sqN ?_
  refine .seq ?_
  refine .rgI rfl ?_
  refine .seg tabOk 0 4 [0, 4] [0, 64] (t := [(0, (.ptr (0, 1) 0)), (4, (.sref (64, 3) 0 ([(⟨0, 0, true⟩ : T_Siibe), (⟨100, 0, true⟩ : T_Siibe), (⟨0, 300, true⟩ : T_Siibe)] : List T_Siibe).length 3))]) (h := [(0, ⟨1, .live, false, [.nils, .nils]⟩), (64, ⟨3, .live, true, flat E_Siibe ([(⟨0, 0, true⟩ : T_Siibe), (⟨100, 0, true⟩ : T_Siibe), (⟨0, 300, true⟩ : T_Siibe)] : List T_Siibe)⟩)]) (ep := 4) (by kernel_rfl) ?_
  refine .oo tabOk rfl rfl rfl (q_bs E_LSiibe (cs := [(.sref (64, 3) 0 ([(⟨0, 0, true⟩ : T_Siibe), (⟨100, 0, true⟩ : T_Siibe), (⟨0, 300, true⟩ : T_Siibe)] : List T_Siibe).length 3)]) ([([(⟨0, 0, true⟩ : T_Siibe), (⟨100, 0, true⟩ : T_Siibe), (⟨0, 300, true⟩ : T_Siibe)] : List T_Siibe)] : List (List T_Siibe)) rfl rfl rfl rfl rfl rfl (z_row E_Siibe ([(⟨0, 0, true⟩ : T_Siibe), (⟨100, 0, true⟩ : T_Siibe), (⟨0, 300, true⟩ : T_Siibe)] : List T_Siibe) rfl rfl rfl rfl rfl z_nil) rfl rfl rfl) ?_
  refine .seg tabOk 5 2 [0] [0, 80] (t := [(0, (.ptr (0, 1) 0))]) (h := [(0, ⟨1, .live, false, [(.sref (80, 4) 0 ([([(⟨0, 0, true⟩ : T_Siibe), (⟨100, 0, true⟩ : T_Siibe), (⟨0, 300, true⟩ : T_Siibe)] : List T_Siibe)] : List (List T_Siibe)).length 1), .nils]⟩), (80, ⟨4, .live, true, flat E_LSiibe ([([(⟨0, 0, true⟩ : T_Siibe), (⟨100, 0, true⟩ : T_Siibe), (⟨0, 300, true⟩ : T_Siibe)] : List T_Siibe)] : List (List T_Siibe))⟩)]) (ep := 5) (by kernel_rfl) ?_
  refine .fin rfl ?_
  refine sqN ?_
  refine .pre (.nilRowO (0, 1) _ 1 15 1 rfl rfl rfl rfl (fresh_none rfl) (by decide)) ?_
  refine .ret ?_
  injection h with h
  subst h
  exact ⟨.inr rfl, _, _, (f_cons (f_mem rfl (o_agg (ol_cons (o1_row E_LSiibe ([([(⟨0, 0, true⟩ : T_Siibe), (⟨100, 0, true⟩ : T_Siibe), (⟨0, 300, true⟩ : T_Siibe)] : List T_Siibe)] : List (List T_Siibe)) rfl rfl rfl rfl rfl) (ol_cons (o1_row E_B ([] : List Int) rfl rfl rfl rfl rfl) ol_nil)))) f_nil), nd_of rfl, rfl, rfl⟩
abbrev R_law07_alive := Bool
def F_law07_alive (n : Nat) : Option R_law07_alive :=
  Option.bind (F_law07_triangle n ) fun v1 =>
  Option.bind (F_simple_Write n v1) fun v2 =>
  Option.bind (F_simple_Read n v2.1) fun v3 =>
  Option.bind (F_law07_triangle n ) fun v4 =>
  Option.bind (F_simple_Box n v4.f0) fun v5 =>
  if (decide (v2.2 = 0)) then
    if ((bstr v2.1).toList == (⟨#[0, 1, 0, 0, 0, 0, 0, 100, 1, 44, 0, 2, 0, 0, 49, 51, 3, 100, 100, 1, 44]⟩ : ByteArray).toList) then
      if (decide (v3.2 = 0)) then
        Option.bind (F_law07_triangle n ) fun v9 =>
        Option.bind (F_r07_Same n v3.1.f0 v9.f0) fun v10 =>
        if v10 then
          if ((decide (v5.1.f0 = 0)) && ((decide (v5.1.f1 = 0)) && true)) then
            some ((decide (v5.2.f0 = 100)) && ((decide (v5.2.f1 = 300)) && true))
          else
          some false
        else
        some false
      else
      some false
    else
    some false
  else
  some false
abbrev q22_0 (v3 : R_simple_Read) : Nat × Ob := (48, ⟨6, .live, false, [(.sref (224, 6) 0 v3.1.f0.length 1), (.sref (225, 6) 0 v3.1.f1.length 1)]⟩)
abbrev q22_1 (v5 : R_simple_Box) : Nat × Ob := (80, ⟨9, .live, false, [(vI v5.1.f0), (vI v5.1.f1)]⟩)
abbrev q22_2 (v5 : R_simple_Box) : Nat × Ob := (96, ⟨9, .live, false, [(vI v5.2.f0), (vI v5.2.f1)]⟩)
abbrev q22_3 (v3 : R_simple_Read) : Nat × Ob := (224, ⟨6, .live, true, flat E_LSiibe v3.1.f0⟩)
abbrev q22_4 (v3 : R_simple_Read) : Nat × Ob := (225, ⟨6, .live, true, flat E_B v3.1.f1⟩)
abbrev q22_5 (v2 : R_simple_Write) : Nat × Ob := (144, ⟨3, .froz, true, flat E_B v2.1⟩)
abbrev q22_6 (v9 : R_law07_triangle) : Nat × Ob := (592, ⟨11, .live, true, flat E_LSiibe v9.f0⟩)
abbrev q22_7 (v9 : R_law07_triangle) : Nat × Ob := (593, ⟨11, .live, true, flat E_B v9.f1⟩)
abbrev q22_8 (v2 : R_simple_Write) : Nat × V := (1, (.sref (144, 3) 0 v2.1.length 1))
theorem C_law07_alive (n : Nat) (r : R_law07_alive) (h : F_law07_alive n = some r) : CallS Try.prog 22 [] (.val (.bool r)) [] := by
  refine CallS.introK tabOk Try.func22 rfl Try.ntmps22 (Nat.le_of_ble_eq_true rfl) ?_
  rw [F_law07_alive] at h
  refine .seq ?_
  refine .rgI rfl ?_
  refine .seg tabOk 0 1 [] [] (t := []) (h := []) (ep := 2) (by kernel_rfl) ?_
  refine .fin rfl ?_
  refine sqN ?_
  refine .seq ?_
  refine .rgI rfl ?_
  obtain ⟨v1, hv1, h⟩ := bS h
  refine .cc true rfl rfl (C_law07_triangle _ _ hv1) ent_law07_triangle rfl rfl rfl rfl g_nil rfl ?_
  obtain ⟨v2, hv2, h⟩ := bS h
  refine .cc true rfl rfl (C_simple_Write _ _ _ hv2) ent_simple_Write rfl rfl rfl rfl (g_cons (g_agg (s_row E_LSiibe v1.f0 rfl rfl rfl rfl rfl (s_row E_B v1.f1 rfl rfl rfl rfl rfl s_nil))) g_nil) rfl ?_
  refine .seg tabOk 2 5 [1, 2] [144] (t := [(q22_8 v2), (2, (vI v2.2))]) (h := [(144, ⟨3, .live, true, flat E_B v2.1⟩)]) (ep := 4) (by kernel_rfl) ?_
  refine .fin rfl ?_
  refine sqN ?_
  refine .seq ?_
  refine .rgI rfl ?_
  refine .seg tabOk 0 1 [1, 2, 13] [144] (t := [(q22_8 v2), (2, (vI v2.2)), (13, (.sref (144, 3) 0 v2.1.length 1))]) (h := [(144, ⟨3, .live, true, flat E_B v2.1⟩)]) (ep := 6) (by kernel_rfl) ?_
  obtain ⟨v3, hv3, h⟩ := bS h
  refine .cc true rfl rfl (C_simple_Read _ _ _ hv3) ent_simple_Read rfl rfl rfl rfl (g_cons (g_row E_B v2.1 rfl rfl rfl rfl rfl) g_nil) rfl ?_
  refine .seg tabOk 2 6 [1, 2, 3, 4] [48, 144, 224, 225] (t := [(q22_8 v2), (2, (vI v2.2)), (3, (.ptr (48, 6) 0)), (4, (vI v3.2))]) (h := [(q22_0 v3), (q22_5 v2), (q22_3 v3), (q22_4 v3)]) (ep := 7) (by kernel_rfl) ?_
  refine .fin rfl ?_
  refine sqN ?_
  refine .seq ?_
  refine .rgI rfl ?_
  obtain ⟨v4, hv4, h⟩ := bS h
  refine .cc true rfl rfl (C_law07_triangle _ _ hv4) ent_law07_triangle rfl rfl rfl rfl g_nil rfl ?_
  refine .seg tabOk 1 1 [1, 2, 3, 4, 19] [48, 144, 224, 225, 288] (t := [(q22_8 v2), (2, (vI v2.2)), (3, (.ptr (48, 6) 0)), (4, (vI v3.2)), (19, (.sref (288, 8) 0 v4.f0.length 1))]) (h := [(q22_0 v3), (q22_5 v2), (q22_3 v3), (q22_4 v3), (288, ⟨8, .live, true, flat E_LSiibe v4.f0⟩)]) (ep := 9) (by kernel_rfl) ?_
  obtain ⟨v5, hv5, h⟩ := bS h
  refine .cc false rfl rfl (C_simple_Box _ _ _ hv5) ent_simple_Box rfl rfl rfl rfl (g_cons (g_row E_LSiibe v4.f0 rfl rfl rfl rfl rfl) g_nil) rfl ?_
  refine .seg tabOk 3 7 [1, 2, 3, 4, 5, 6] [48, 80, 96, 144, 224, 225] (t := [(q22_8 v2), (2, (vI v2.2)), (3, (.ptr (48, 6) 0)), (4, (vI v3.2)), (5, (.ptr (80, 9) 0)), (6, (.ptr (96, 9) 0))]) (h := [(q22_0 v3), (q22_1 v5), (q22_2 v5), (q22_5 v2), (q22_3 v3), (q22_4 v3)]) (ep := 10) (by kernel_rfl) ?_
  refine .fin rfl ?_
  refine sqN ?_
  refine .seq ?_
  refine .rgD rfl ?_
  refine .seg tabOk 0 3 [1, 3, 4, 5, 6, 25] [48, 80, 96, 144, 224, 225] (t := [(q22_8 v2), (3, (.ptr (48, 6) 0)), (4, (vI v3.2)), (5, (.ptr (80, 9) 0)), (6, (.ptr (96, 9) 0)), (25, (.val (.bool (decide (v2.2 = 0)))))]) (h := [(q22_0 v3), (q22_1 v5), (q22_2 v5), (q22_5 v2), (q22_3 v3), (q22_4 v3)]) (ep := 11) (by kernel_rfl) ?_
  cases hB6 : (decide (v2.2 = 0)) with
  | false =>
    have h := iF h hB6
    refine .seg tabOk 3 26 [0] [48, 80, 96, 144, 224, 225] (t := [(0, (.val (.bool false)))]) (h := [(q22_0 v3), (q22_1 v5), (q22_2 v5), (q22_5 v2), (q22_3 v3), (q22_4 v3)]) (ep := 11) (by kernel_rfl) ?_
    refine .fin mixed [0] [] (t := [(0, (.val (.bool false)))]) (h := []) (ep := 12) rfl (by kernel_rfl) rfl ?_
    refine sqN ?_
    refine .ret ?_
    injection h with h
    subst h
    exact ⟨.inr rfl, _, _, rfl, List.nodup_nil, rfl, rfl⟩
  | true =>
    have h := iT h hB6
    refine .seg tabOk 3 1 [3, 4, 5, 6, 25, 26] [48, 80, 96, 144, 224, 225] (t := [(3, (.ptr (48, 6) 0)), (4, (vI v3.2)), (5, (.ptr (80, 9) 0)), (6, (.ptr (96, 9) 0)), (25, (.val (.bool true))), (26, (.sref (144, 3) 0 v2.1.length 1))]) (h := [(q22_0 v3), (q22_1 v5), (q22_2 v5), (q22_5 v2), (q22_3 v3), (q22_4 v3)]) (ep := 11) (by kernel_rfl) ?_
    refine .oo tabOk rfl rfl rfl (q_strS E_B rfl (fun _ => rfl) rfl rfl rfl rfl rfl rfl rfl rfl rfl rfl) rfl ?_
    refine .seg tabOk 5 3 [3, 4, 5, 6, 30] [48, 80, 96, 144, 224, 225] (t := [(3, (.ptr (48, 6) 0)), (4, (vI v3.2)), (5, (.ptr (80, 9) 0)), (6, (.ptr (96, 9) 0)), (30, (.val (.bool ((bstr v2.1).toList == (⟨#[0, 1, 0, 0, 0, 0, 0, 100, 1, 44, 0, 2, 0, 0, 49, 51, 3, 100, 100, 1, 44]⟩ : ByteArray).toList))))]) (h := [(q22_0 v3), (q22_1 v5), (q22_2 v5), (q22_5 v2), (q22_3 v3), (q22_4 v3)]) (ep := 11) (by kernel_rfl) ?_
    cases hB7 : ((bstr v2.1).toList == (⟨#[0, 1, 0, 0, 0, 0, 0, 100, 1, 44, 0, 2, 0, 0, 49, 51, 3, 100, 100, 1, 44]⟩ : ByteArray).toList) with
    | false =>
      have h := iF h hB7
      refine .seg tabOk 8 21 [0] [48, 80, 96, 144, 224, 225] (t := [(0, (.val (.bool false)))]) (h := [(q22_0 v3), (q22_1 v5), (q22_2 v5), (q22_5 v2), (q22_3 v3), (q22_4 v3)]) (ep := 11) (by kernel_rfl) ?_
      refine .fin mixed [0] [] (t := [(0, (.val (.bool false)))]) (h := []) (ep := 12) rfl (by kernel_rfl) rfl ?_
      refine sqN ?_
      refine .ret ?_
      injection h with h
      subst h
      exact ⟨.inr rfl, _, _, rfl, List.nodup_nil, rfl, rfl⟩
    | true =>
      have h := iT h hB7
      refine .seg tabOk 8 4 [3, 5, 6, 34] [48, 80, 96, 144, 224, 225] (t := [(3, (.ptr (48, 6) 0)), (5, (.ptr (80, 9) 0)), (6, (.ptr (96, 9) 0)), (34, (.val (.bool (decide (v3.2 = 0)))))]) (h := [(q22_0 v3), (q22_1 v5), (q22_2 v5), (q22_5 v2), (q22_3 v3), (q22_4 v3)]) (ep := 11) (by kernel_rfl) ?_
      cases hB8 : (decide (v3.2 = 0)) with
      | false =>
        have h := iF h hB8
        refine .seg tabOk 12 17 [0] [48, 80, 96, 144, 224, 225] (t := [(0, (.val (.bool false)))]) (h := [(q22_0 v3), (q22_1 v5), (q22_2 v5), (q22_5 v2), (q22_3 v3), (q22_4 v3)]) (ep := 11) (by kernel_rfl) ?_
        refine .fin mixed [0] [] (t := [(0, (.val (.bool false)))]) (h := []) (ep := 12) rfl (by kernel_rfl) rfl ?_
        refine sqN ?_
        refine .ret ?_
        injection h with h
        subst h
        exact ⟨.inr rfl, _, _, rfl, List.nodup_nil, rfl, rfl⟩
      | true =>
        have h := iT h hB8
        refine .seg tabOk 12 2 [5, 6, 34, 36] [48, 80, 96, 144, 224, 225] (t := [(5, (.ptr (80, 9) 0)), (6, (.ptr (96, 9) 0)), (34, (.val (.bool true))), (36, (.sref (224, 6) 0 v3.1.f0.length 1))]) (h := [(q22_0 v3), (q22_1 v5), (q22_2 v5), (q22_5 v2), (q22_3 v3), (q22_4 v3)]) (ep := 11) (by kernel_rfl) ?_
        obtain ⟨v9, hv9, h⟩ := bS h
        refine .cc true rfl rfl (C_law07_triangle _ _ hv9) ent_law07_triangle rfl rfl rfl rfl g_nil rfl rfl ?_
        refine .seg tabOk 15 1 [5, 6, 34, 36, 38] [48, 80, 96, 144, 224, 225, 592, 593] (t := [(5, (.ptr (80, 9) 0)), (6, (.ptr (96, 9) 0)), (34, (.val (.bool true))), (36, (.sref (224, 6) 0 v3.1.f0.length 1)), (38, (.sref (592, 11) 0 v9.f0.length 1))]) (h := [(q22_0 v3), (q22_1 v5), (q22_2 v5), (q22_5 v2), (q22_3 v3), (q22_4 v3), (q22_6 v9), (q22_7 v9)]) (ep := 11) (by kernel_rfl) ?_
        obtain ⟨v10, hv10, h⟩ := bS h
        refine .cc false rfl rfl (C_r07_Same _ _ _ _ hv10) ent_r07_Same rfl rfl rfl rfl (g_cons (g_row E_LSiibe v3.1.f0 rfl rfl rfl rfl rfl) (g_cons (g_row E_LSiibe v9.f0 rfl rfl rfl rfl rfl) g_nil)) rfl rfl ?_
        refine .seg tabOk 17 2 [5, 6, 41] [48, 80, 96, 144, 224, 225, 592, 593] (t := [(5, (.ptr (80, 9) 0)), (6, (.ptr (96, 9) 0)), (41, (.val (.bool v10)))]) (h := [(q22_0 v3), (q22_1 v5), (q22_2 v5), (q22_5 v2), (q22_3 v3), (q22_4 v3), (q22_6 v9), (q22_7 v9)]) (ep := 11) (by kernel_rfl) ?_
        cases hB11 : v10 with
        | false =>
          have h := iF h hB11
          refine .seg tabOk 19 10 [0] [48, 80, 96, 144, 224, 225, 592, 593] (t := [(0, (.val (.bool false)))]) (h := [(q22_0 v3), (q22_1 v5), (q22_2 v5), (q22_5 v2), (q22_3 v3), (q22_4 v3), (q22_6 v9), (q22_7 v9)]) (ep := 11) (by kernel_rfl) ?_
          refine .fin mixed [0] [] (t := [(0, (.val (.bool false)))]) (h := []) (ep := 12) rfl (by kernel_rfl) rfl ?_
          refine sqN ?_
          refine .ret ?_
          injection h with h
          subst h
          exact ⟨.inr rfl, _, _, rfl, List.nodup_nil, rfl, rfl⟩
        | true =>
          have h := iT h hB11
          refine .seg tabOk 19 5 [6, 46] [48, 80, 96, 144, 224, 225, 592, 593] (t := [(6, (.ptr (96, 9) 0)), (46, (.val (.bool ((decide (v5.1.f0 = 0)) && ((decide (v5.1.f1 = 0)) && true)))))]) (h := [(q22_0 v3), (q22_1 v5), (q22_2 v5), (q22_5 v2), (q22_3 v3), (q22_4 v3), (q22_6 v9), (q22_7 v9)]) (ep := 11) (by kernel_rfl) ?_
          cases hB12 : ((decide (v5.1.f0 = 0)) && ((decide (v5.1.f1 = 0)) && true)) with
          | false =>
            have h := iF h hB12
            refine .seg tabOk 24 5 [0] [48, 80, 96, 144, 224, 225, 592, 593] (t := [(0, (.val (.bool false)))]) (h := [(q22_0 v3), (q22_1 v5), (q22_2 v5), (q22_5 v2), (q22_3 v3), (q22_4 v3), (q22_6 v9), (q22_7 v9)]) (ep := 11) (by kernel_rfl) ?_
            refine .fin mixed [0] [] (t := [(0, (.val (.bool false)))]) (h := []) (ep := 12) rfl (by kernel_rfl) rfl ?_
            refine sqN ?_
            refine .ret ?_
            injection h with h
            subst h
            exact ⟨.inr rfl, _, _, rfl, List.nodup_nil, rfl, rfl⟩
          | true =>
            have h := iT h hB12
            refine .seg tabOk 24 5 [0] [48, 80, 96, 144, 224, 225, 592, 593] (t := [(0, (.val (.bool ((decide (v5.2.f0 = 100)) && ((decide (v5.2.f1 = 300)) && true)))))]) (h := [(q22_0 v3), (q22_1 v5), (q22_2 v5), (q22_5 v2), (q22_3 v3), (q22_4 v3), (q22_6 v9), (q22_7 v9)]) (ep := 11) (by kernel_rfl) ?_
            refine .fin mixed [0] [] (t := [(0, (.val (.bool ((decide (v5.2.f0 = 100)) && ((decide (v5.2.f1 = 300)) && true)))))]) (h := []) (ep := 12) rfl (by kernel_rfl) rfl ?_
            refine sqN ?_
            refine .ret ?_
            injection h with h
            subst h
            exact ⟨.inr rfl, _, _, rfl, List.nodup_nil, rfl, rfl⟩
abbrev R_r02_There := Bool
def F_r02_There (n : Nat) (a0 : (List Int)) (a1 : Int) (a2 : Int) : Option R_r02_There :=
  if (decide (0 ≤ a1)) then
    if (decide (0 ≤ a2)) then
      if (decide (a1 ≤ (a0.length : Int))) then
        some (decide (a2 ≤ (w64 ((a0.length : Int) - a1))))
      else
      some false
    else
    some false
  else
  some false
abbrev q63_0 (a0 : (List Int)) : Nat × V := (0, (.ro 1 a0.length (flat E_B a0)))
theorem C_r02_There (n : Nat) (a0 : (List Int)) (a1 : Int) (a2 : Int) (r : R_r02_There) (h : F_r02_There n a0 a1 a2 = some r) : CallS Try.prog 63 [(.ro 1 a0.length (flat E_B a0)), (vI a1), (vI a2)] (.val (.bool r)) [none, none, none] := by
  refine CallS.introK tabOk Try.func63 rfl Try.ntmps63 (Nat.le_of_ble_eq_true rfl) ?_
  rw [F_r02_There] at h
  refine .seq ?_
  refine .rgI rfl ?_
  refine .seg tabOk 0 1 [0, 1, 2] [] (t := [(q63_0 a0), (1, (vI a1)), (2, (vI a2))]) (h := []) (ep := 2) (by kernel_rfl) ?_
  refine .fin rfl ?_
  refine sqN ?_
  refine .seq ?_
  refine .rgI rfl ?_
  refine .seg tabOk 0 3 [0, 1, 2, 9] [] (t := [(q63_0 a0), (1, (vI a1)), (2, (vI a2)), (9, (.val (.bool (decide (0 ≤ a1)))))]) (h := []) (ep := 4) (by kernel_rfl) ?_
  cases hB1 : (decide (0 ≤ a1)) with
  | false =>
    have h := iF h hB1
    refine .seg tabOk 3 18 [6] [] (t := [(6, (.val (.bool false)))]) (h := []) (ep := 5) (by kernel_rfl) ?_
    refine .fin rfl ?_
    refine sqN ?_
    refine .ret ?_
    injection h with h
    subst h
    exact ⟨.inr rfl, _, _, rfl, List.nodup_nil, rfl, rfl⟩
  | true =>
    have h := iT h hB1
    refine .seg tabOk 3 4 [0, 1, 2, 13] [] (t := [(q63_0 a0), (1, (vI a1)), (2, (vI a2)), (13, (.val (.bool (decide (0 ≤ a2)))))]) (h := []) (ep := 5) (by kernel_rfl) ?_
    cases hB2 : (decide (0 ≤ a2)) with
    | false =>
      have h := iF h hB2
      refine .seg tabOk 7 14 [6] [] (t := [(6, (.val (.bool false)))]) (h := []) (ep := 6) (by kernel_rfl) ?_
      refine .fin rfl ?_
      refine sqN ?_
      refine .ret ?_
      injection h with h
      subst h
      exact ⟨.inr rfl, _, _, rfl, List.nodup_nil, rfl, rfl⟩
    | true =>
      have h := iT h hB2
      refine .seg tabOk 7 6 [0, 1, 2, 19] [] (t := [(q63_0 a0), (1, (vI a1)), (2, (vI a2)), (19, (.val (.bool (decide (a1 ≤ (a0.length : Int))))))]) (h := []) (ep := 6) (by kernel_rfl) ?_
      cases hB3 : (decide (a1 ≤ (a0.length : Int))) with
      | false =>
        have h := iF h hB3
        refine .seg tabOk 13 8 [6] [] (t := [(6, (.val (.bool false)))]) (h := []) (ep := 7) (by kernel_rfl) ?_
        refine .fin rfl ?_
        refine sqN ?_
        refine .ret ?_
        injection h with h
        subst h
        exact ⟨.inr rfl, _, _, rfl, List.nodup_nil, rfl, rfl⟩
      | true =>
        have h := iT h hB3
        refine .seg tabOk 13 8 [6] [] (t := [(6, (.val (.bool (decide (a2 ≤ (w64 ((a0.length : Int) - a1)))))))]) (h := []) (ep := 7) (by kernel_rfl) ?_
        refine .fin rfl ?_
        refine sqN ?_
        refine .ret ?_
        injection h with h
        subst h
        exact ⟨.inr rfl, _, _, rfl, List.nodup_nil, rfl, rfl⟩
abbrev R_r02_U := Int × Int
def L_r02_U_0 (a0 : (List Int)) (a1 : Int) (a2 : Int) (j5 : Int → Option R_r02_U) : Nat → Int → Int → Option R_r02_U
  | 0, _, _ => none
  | n + 1, y6, y7 =>
    if (decide (y7 < (w64 (a1 + a2)))) then
      gd (0 ≤ y7 ∧ y7 < a0.length) <|
      L_r02_U_0 a0 a1 a2 j5 n (w64 ((w64 (256 * y6)) + (w64 ((nth E_B a0 y7))))) (w64 (y7 + 1))
    else
    j5 y6
def F_r02_U (n : Nat) (a0 : (List Int)) (a1 : Int) (a2 : Int) : Option R_r02_U :=
  if ((decide (a2 < 1)) || (decide (4 < a2))) then
    some (0, 2)
  else
  Option.bind (F_r02_There n a0 a1 a2) fun v3 =>
  if (!v3) then
    some (0, 3)
  else
  lj (fun (x10 : Int) =>
    some (x10, 0)) fun j5 =>
  L_r02_U_0 a0 a1 a2 j5 n 0 a1
abbrev q66_0 (a0 : (List Int)) : Nat × V := (0, (.ro 1 a0.length (flat E_B a0)))
theorem C_r02_U (n : Nat) (a0 : (List Int)) (a1 : Int) (a2 : Int) (r : R_r02_U) (h : F_r02_U n a0 a1 a2 = some r) : CallS Try.prog 66 [(.ro 1 a0.length (flat E_B a0)), (vI a1), (vI a2)] (.tup [(vI r.1), (vI r.2)]) [none, none, none] := by
  refine CallS.introK tabOk Try.func66 rfl Try.ntmps66 (Nat.le_of_ble_eq_true rfl) ?_
  rw [F_r02_U] at h
  refine .seq ?_
  refine .rgI rfl ?_
  refine .seg tabOk 0 2 [0, 1, 2] [] (t := [(q66_0 a0), (1, (vI a1)), (2, (vI a2))]) (h := []) (ep := 2) (by kernel_rfl) ?_
  refine .fin rfl ?_
  refine sqN ?_
  refine .seq ?_
  refine .seq ?_
  refine .join (fun s' => s' = ⟨[(q66_0 a0), (1, (vI a1)), (2, (vI a2)), (15, (.val (.bool ((decide (a2 < 1)) || (decide (4 < a2))))))], [], 6⟩) ?_ ?_
  · refine .rgI rfl ?_
    refine .seg tabOk 0 3 [0, 1, 2, 12] [] (t := [(q66_0 a0), (1, (vI a1)), (2, (vI a2)), (12, (.val (.bool (decide (a2 < 1)))))]) (h := []) (ep := 4) (by kernel_rfl) ?_
    cases hB1 : (decide (a2 < 1)) with
    | false =>
      skip
      refine .seg tabOk 3 3 [0, 1, 2, 15] [] (t := [(q66_0 a0), (1, (vI a1)), (2, (vI a2)), (15, (.val (.bool (decide (4 < a2)))))]) (h := []) (ep := 5) (by kernel_rfl) ?_
      refine .fin rfl ?_
      exact jkN (by exact .tn [] ⟨rfl, rfl, rfl, rfl, trivial⟩ trivial rfl) rfl
    | true =>
      skip
      refine .seg tabOk 3 3 [0, 1, 2, 15] [] (t := [(q66_0 a0), (1, (vI a1)), (2, (vI a2)), (15, (.val (.bool true)))]) (h := []) (ep := 5) (by kernel_rfl) ?_
      refine .fin rfl ?_
      exact jkN (by exact .tn [] ⟨rfl, rfl, rfl, rfl, trivial⟩ trivial rfl) rfl
  · rintro _ rfl
    refine sqN ?_
    refine .cond ((decide (a2 < 1)) || (decide (4 < a2))) rfl (fun hc2 => ?_) (fun hc2 => ?_)
    · have h := iT h hc2
      refine .seq ?_
      refine .rgI rfl ?_
      refine .seg tabOk 0 2 [6, 7] [] (t := [(6, (vI 0)), (7, (vI 2))]) (h := []) (ep := 8) (by kernel_rfl) ?_
      refine .fin rfl ?_
      refine sqN ?_
      refine .ret ?_
      refine sqR ?_
      injection h with h
      subst h
      exact ⟨.inr rfl, _, _, rfl, List.nodup_nil, rfl, rfl⟩
    · have h := iF h hc2
      refine .skip ?_
      refine sqN ?_
      refine .seq ?_
      refine .seq ?_
      refine .rgI rfl ?_
      refine .seg tabOk 0 3 [0, 1, 2, 16, 17, 18] [] (t := [(q66_0 a0), (1, (vI a1)), (2, (vI a2)), (16, (.ro 1 a0.length (flat E_B a0))), (17, (vI a1)), (18, (vI a2))]) (h := []) (ep := 8) (by kernel_rfl) ?_
      obtain ⟨v3, hv3, h⟩ := bS h
      refine .cc true rfl rfl (C_r02_There _ _ _ _ _ hv3) ent_r02_There rfl rfl rfl rfl (g_cons (g_pl rfl rfl) (g_cons (g_pl rfl rfl) (g_cons (g_pl rfl rfl) g_nil))) rfl ?_
      refine .seg tabOk 4 1 [0, 1, 2, 20] [] (t := [(q66_0 a0), (1, (vI a1)), (2, (vI a2)), (20, (.val (.bool (!v3))))]) (h := []) (ep := 9) (by kernel_rfl) ?_
      refine .fin rfl ?_
      refine sqN ?_
      refine .cond (!v3) rfl (fun hc4 => ?_) (fun hc4 => ?_)
      · have h := iT h hc4
        refine .seq ?_
        refine .rgI rfl ?_
        refine .seg tabOk 0 2 [6, 7] [] (t := [(6, (vI 0)), (7, (vI 3))]) (h := []) (ep := 11) (by kernel_rfl) ?_
        refine .fin rfl ?_
        refine sqN ?_
        refine .ret ?_
        refine sqR ?_
        injection h with h
        subst h
        exact ⟨.inr rfl, _, _, rfl, List.nodup_nil, rfl, rfl⟩
      · have h := iF h hc4
        refine .skip ?_
        refine sqN ?_
        refine .seq ?_
        refine .rgI rfl ?_
        refine .seg tabOk 0 1 [0, 1, 2, 8] [] (t := [(q66_0 a0), (1, (vI a1)), (2, (vI a2)), (8, (vI 0))]) (h := []) (ep := 11) (by kernel_rfl) ?_
        refine .fin rfl ?_
        refine sqN ?_
        refine .seq ?_
        refine .seq ?_
        refine .rgI rfl ?_
        refine .seg tabOk 0 2 [0, 1, 2, 8, 9] [] (t := [(q66_0 a0), (1, (vI a1)), (2, (vI a2)), (8, (vI 0)), (9, (vI a1))]) (h := []) (ep := 13) (by kernel_rfl) ?_
        refine .fin rfl ?_
        refine sqN ?_
        obtain ⟨j5, hj5, h⟩ := ljS h
        refine .join (fun s' => ∃ x10, s' = ⟨[(8, (vI x10))], [], 17⟩ ∧ j5 x10 = some r) ?_ ?_
        · refine .block ?_
          refine .loopF (β := Int × Int) (fun v => ⟨[(q66_0 a0), (1, (vI a1)), (2, (vI a2)), (8, (vI v.1)), (9, (vI v.2))], [], 14⟩) (fun m v => L_r02_U_0 a0 a1 a2 j5 m v.1 v.2 = some r) n (0, a1) (by exact .tn [] ⟨rfl, rfl, rfl, rfl, rfl, trivial⟩ trivial rfl) h ?_
          rintro m ⟨y6, y7⟩ h
          cases m with
          | zero => exact nomatch h
          | succ n =>
            rw [L_r02_U_0] at h
            refine .seq ?_
            refine .seq ?_
            refine .rgI rfl ?_
            refine .seg tabOk 0 5 [0, 1, 2, 8, 9, 26] [] (t := [(q66_0 a0), (1, (vI a1)), (2, (vI a2)), (8, (vI y6)), (9, (vI y7)), (26, (.val (.bool (decide (y7 < (w64 (a1 + a2)))))))]) (h := []) (ep := 16) (by kernel_rfl) ?_
            refine .fin rfl ?_
            refine sqN ?_
            refine .cond (decide (y7 < (w64 (a1 + a2)))) rfl (fun hc8 => ?_) (fun hc8 => ?_)
            · have h := iT h hc8
              refine .skip ?_
              refine sqN ?_
              refine .seq ?_
              refine .block ?_
              refine .rgI rfl ?_
              refine .seg tabOk 0 4 [0, 1, 2, 9, 30, 31, 32] [] (t := [(q66_0 a0), (1, (vI a1)), (2, (vI a2)), (9, (vI y7)), (30, (vI (w64 (256 * y6)))), (31, (.ro 1 a0.length (flat E_B a0))), (32, (vI y7))]) (h := []) (ep := 18) (by kernel_rfl) ?_
              obtain ⟨hb9, h⟩ := gS h
              refine .o tabOk rfl rfl rfl (q_idx E_B rfl rfl rfl rfl rfl rfl hb9) ?_
              refine .o tabOk rfl rfl rfl (q_ld0 E_B rfl rfl rfl hb9 rfl) ?_
              refine .seg tabOk 6 3 [0, 1, 2, 8, 9] [] (t := [(q66_0 a0), (1, (vI a1)), (2, (vI a2)), (8, (vI (w64 ((w64 (256 * y6)) + (w64 ((nth E_B a0 y7))))))), (9, (vI y7))]) (h := []) (ep := 19) (by kernel_rfl) ?_
              refine .fin rfl ?_
              refine bkN ?_
              refine sqN ?_
              refine .rgI rfl ?_
              refine .seg tabOk 0 3 [0, 1, 2, 8, 9] [] (t := [(q66_0 a0), (1, (vI a1)), (2, (vI a2)), (8, (vI (w64 ((w64 (256 * y6)) + (w64 ((nth E_B a0 y7))))))), (9, (vI (w64 (y7 + 1))))]) (h := []) (ep := 21) (by kernel_rfl) ?_
              refine .fin rfl ?_
              exact jkN (by exact .tn [] ⟨rfl, rfl, rfl, rfl, rfl, trivial⟩ trivial rfl) ⟨n, ((w64 ((w64 (256 * y6)) + (w64 ((nth E_B a0 y7))))), (w64 (y7 + 1))), Nat.lt_succ_self n, rfl, h⟩
            · have h := iF h hc8
              refine .exit ?_
              refine sqX ?_
              refine jkX ?_
              refine bkE ?_
              exact jkN (by exact .tn [] ⟨rfl, trivial⟩ trivial rfl) ⟨_, rfl, h⟩
        · rintro _ ⟨x10, rfl, h⟩
          subst hj5
          refine sqN ?_
          refine .seq ?_
          refine .rgI rfl ?_
          refine .seg tabOk 0 3 [6, 7] [] (t := [(6, (vI x10)), (7, (vI 0))]) (h := []) (ep := 19) (by kernel_rfl) ?_
          refine .fin rfl ?_
          refine sqN ?_
          refine .ret ?_
          injection h with h
          subst h
          exact ⟨.inr rfl, _, _, rfl, List.nodup_nil, rfl, rfl⟩
abbrev R_r07_reader_u := Int × T_SLBiie
def F_r07_reader_u (n : Nat) (a0 : T_SLBiie) (a1 : Int) : Option R_r07_reader_u :=
  if (!decide (a0.f2 = 0)) then
    some (0, a0)
  else
  Option.bind (F_r02_U n a0.f0 a0.f1 a1) fun v2 =>
  if (!decide (v2.2 = 0)) then
    some (0, (⟨a0.f0, a0.f1, 3⟩ : T_SLBiie))
  else
  some (v2.1, (⟨a0.f0, (w64 (a0.f1 + a1)), a0.f2⟩ : T_SLBiie))
abbrev q53_0 (a0 : T_SLBiie) : Nat × Ob := (0, ⟨0, .live, false, [(.ro 1 a0.f0.length (flat E_B a0.f0)), (vI a0.f1), (vI a0.f2)]⟩)
abbrev q53_1 (a0 : T_SLBiie) (a1 : Int) : Nat × Ob := (0, ⟨0, .live, false, [(.ro 1 a0.f0.length (flat E_B a0.f0)), (vI (w64 (a0.f1 + a1))), (vI a0.f2)]⟩)
abbrev q53_2 (a0 : T_SLBiie) : Nat × Ob := (0, ⟨0, .live, false, [(.ro 1 a0.f0.length (flat E_B a0.f0)), (vI a0.f1), (vI 3)]⟩)
theorem C_r07_reader_u (n : Nat) (a0 : T_SLBiie) (a1 : Int) (r : R_r07_reader_u) (h : F_r07_reader_u n a0 a1 = some r) : CallS Try.prog 53 [(.box [(.ro 1 a0.f0.length (flat E_B a0.f0)), (vI a0.f1), (vI a0.f2)]), (vI a1)] (vI r.1) [some [(.ro 1 r.2.f0.length (flat E_B r.2.f0)), (vI r.2.f1), (vI r.2.f2)], none] := by
  refine CallS.introK tabOk Try.func53 rfl Try.ntmps53 (Nat.le_of_ble_eq_true rfl) ?_
  rw [F_r07_reader_u] at h
  refine .seq ?_
  refine .rgI rfl ?_
  refine .seg tabOk 0 1 [0, 1] [0] (t := [(0, (.ptr (0, 0) 0)), (1, (vI a1))]) (h := [(q53_0 a0)]) (ep := 2) (by kernel_rfl) ?_
  refine .fin rfl ?_
  refine sqN ?_
  refine .seq ?_
  refine .seq ?_
  refine .rgI rfl ?_
  refine .seg tabOk 0 5 [0, 1, 11] [0] (t := [(0, (.ptr (0, 0) 0)), (1, (vI a1)), (11, (.val (.bool (!decide (a0.f2 = 0)))))]) (h := [(q53_0 a0)]) (ep := 4) (by kernel_rfl) ?_
  refine .fin rfl ?_
  refine sqN ?_
  refine .cond (!decide (a0.f2 = 0)) rfl (fun hc1 => ?_) (fun hc1 => ?_)
  · have h := iT h hc1
    refine .seq ?_
    refine .rgI rfl ?_
    refine .seg tabOk 0 1 [4] [0] (t := [(4, (vI 0))]) (h := [(q53_0 a0)]) (ep := 6) (by kernel_rfl) ?_
    refine .fin rfl ?_
    refine sqN ?_
    refine .ret ?_
    refine sqR ?_
    injection h with h
    subst h
    exact ⟨.inr rfl, _, _, rfl, List.nodup_nil, rfl, rfl⟩
  · have h := iF h hc1
    refine .skip ?_
    refine sqN ?_
    refine .seq ?_
    refine .rgD rfl ?_
    refine .seg tabOk 0 9 [0, 1, 16, 20, 21] [0] (t := [(0, (.ptr (0, 0) 0)), (1, (vI a1)), (16, (.ro 1 a0.f0.length (flat E_B a0.f0))), (20, (vI a0.f1)), (21, (vI a1))]) (h := [(q53_0 a0)]) (ep := 5) (by kernel_rfl) ?_
    obtain ⟨v2, hv2, h⟩ := bS h
    refine .cc true rfl rfl (C_r02_U _ _ _ _ _ hv2) ent_r02_U rfl rfl rfl rfl (g_cons (g_pl rfl rfl) (g_cons (g_pl rfl rfl) (g_cons (g_pl rfl rfl) g_nil))) rfl rfl ?_
    refine .seg tabOk 10 5 [0, 1, 5, 6] [0] (t := [(0, (.ptr (0, 0) 0)), (1, (vI a1)), (5, (vI v2.1)), (6, (vI v2.2))]) (h := [(q53_0 a0)]) (ep := 5) (by kernel_rfl) ?_
    refine .fin mixed [0, 1, 5, 6] [0] (t := [(0, (.ptr (0, 0) 0)), (1, (vI a1)), (5, (vI v2.1)), (6, (vI v2.2))]) (h := [(q53_0 a0)]) (ep := 6) rfl (by kernel_rfl) rfl ?_
    refine sqN ?_
    refine .seq ?_
    refine .seq ?_
    refine .rgI rfl ?_
    refine .seg tabOk 0 2 [0, 1, 5, 26] [0] (t := [(0, (.ptr (0, 0) 0)), (1, (vI a1)), (5, (vI v2.1)), (26, (.val (.bool (!decide (v2.2 = 0)))))]) (h := [(q53_0 a0)]) (ep := 8) (by kernel_rfl) ?_
    refine .fin rfl ?_
    refine sqN ?_
    refine .cond (!decide (v2.2 = 0)) rfl (fun hc3 => ?_) (fun hc3 => ?_)
    · have h := iT h hc3
      refine .seq ?_
      refine .rgI rfl ?_
      refine .seg tabOk 0 4 [] [0] (t := []) (h := [(q53_2 a0)]) (ep := 10) (by kernel_rfl) ?_
      refine .fin rfl ?_
      refine sqN ?_
      refine .seq ?_
      refine .rgI rfl ?_
      refine .seg tabOk 0 1 [4] [0] (t := [(4, (vI 0))]) (h := [(q53_2 a0)]) (ep := 12) (by kernel_rfl) ?_
      refine .fin rfl ?_
      refine sqN ?_
      refine .ret ?_
      refine sqR ?_
      injection h with h
      subst h
      exact ⟨.inr rfl, _, _, rfl, List.nodup_nil, rfl, rfl⟩
    · have h := iF h hc3
      refine .skip ?_
      refine sqN ?_
      refine .seq ?_
      refine .rgI rfl ?_
      refine .seg tabOk 0 9 [5] [0] (t := [(5, (vI v2.1))]) (h := [(q53_1 a0 a1)]) (ep := 10) (by kernel_rfl) ?_
      refine .fin rfl ?_
      refine sqN ?_
      refine .seq ?_
      refine .rgI rfl ?_
      refine .seg tabOk 0 2 [4] [0] (t := [(4, (vI v2.1))]) (h := [(q53_1 a0 a1)]) (ep := 12) (by kernel_rfl) ?_
      refine .fin rfl ?_
      refine sqN ?_
      refine .ret ?_
      injection h with h
      subst h
      exact ⟨.inr rfl, _, _, rfl, List.nodup_nil, rfl, rfl⟩
abbrev R_r07_reader_s := Int × T_SLBiie
def F_r07_reader_s (n : Nat) (a0 : T_SLBiie) : Option R_r07_reader_s :=
  Option.bind (F_r07_reader_u n a0 2) fun v1 =>
  if (decide (32768 ≤ v1.1)) then
    some ((w64 (v1.1 - 65536)), v1.2)
  else
  some (v1.1, v1.2)
abbrev q52_0 (v1 : R_r07_reader_u) : Nat × Ob := (0, ⟨0, .live, false, [(.ro 1 v1.2.f0.length (flat E_B v1.2.f0)), (vI v1.2.f1), (vI v1.2.f2)]⟩)
abbrev q52_1 (a0 : T_SLBiie) : Nat × Ob := (0, ⟨0, .live, false, [(.ro 1 a0.f0.length (flat E_B a0.f0)), (vI a0.f1), (vI a0.f2)]⟩)
theorem C_r07_reader_s (n : Nat) (a0 : T_SLBiie) (r : R_r07_reader_s) (h : F_r07_reader_s n a0 = some r) : CallS Try.prog 52 [(.box [(.ro 1 a0.f0.length (flat E_B a0.f0)), (vI a0.f1), (vI a0.f2)])] (vI r.1) [some [(.ro 1 r.2.f0.length (flat E_B r.2.f0)), (vI r.2.f1), (vI r.2.f2)]] := by
  refine CallS.introK tabOk Try.func52 rfl Try.ntmps52 (Nat.le_of_ble_eq_true rfl) ?_
  rw [F_r07_reader_s] at h
  refine .seq ?_
  refine .rgI rfl ?_
  refine .seg tabOk 0 1 [0] [0] (t := [(0, (.ptr (0, 0) 0))]) (h := [(q52_1 a0)]) (ep := 2) (by kernel_rfl) ?_
  refine .fin rfl ?_
  refine sqN ?_
  refine .seq ?_
  refine .rgI rfl ?_
  refine .seg tabOk 0 1 [4] [0] (t := [(4, (.ptr (0, 0) 0))]) (h := [(q52_1 a0)]) (ep := 4) (by kernel_rfl) ?_
  obtain ⟨v1, hv1, h⟩ := bS h
  refine .cc true rfl rfl (C_r07_reader_u _ _ _ _ hv1) ent_r07_reader_u rfl rfl rfl rfl (g_cons (g_pl rfl rfl) (g_cons (g_pl rfl rfl) g_nil)) rfl ?_
  refine .seg tabOk 2 1 [3] [0] (t := [(3, (vI v1.1))]) (h := [(q52_0 v1)]) (ep := 5) (by kernel_rfl) ?_
  refine .fin rfl ?_
  refine sqN ?_
  refine .seq ?_
  refine .seq ?_
  refine .rgI rfl ?_
  refine .seg tabOk 0 2 [3, 7] [0] (t := [(3, (vI v1.1)), (7, (.val (.bool (decide (32768 ≤ v1.1)))))]) (h := [(q52_0 v1)]) (ep := 7) (by kernel_rfl) ?_
  refine .fin rfl ?_
  refine sqN ?_
  refine .cond (decide (32768 ≤ v1.1)) rfl (fun hc2 => ?_) (fun hc2 => ?_)
  · have h := iT h hc2
    refine .seq ?_
    refine .rgI rfl ?_
    refine .seg tabOk 0 3 [2] [0] (t := [(2, (vI (w64 (v1.1 - 65536))))]) (h := [(q52_0 v1)]) (ep := 9) (by kernel_rfl) ?_
    refine .fin rfl ?_
    refine sqN ?_
    refine .ret ?_
    refine sqR ?_
    injection h with h
    subst h
    exact ⟨.inr rfl, _, _, rfl, List.nodup_nil, rfl, rfl⟩
  · have h := iF h hc2
    refine .skip ?_
    refine sqN ?_
    refine .seq ?_
    refine .rgI rfl ?_
    refine .seg tabOk 0 2 [2] [0] (t := [(2, (vI v1.1))]) (h := [(q52_0 v1)]) (ep := 9) (by kernel_rfl) ?_
    refine .fin rfl ?_
    refine sqN ?_
    refine .ret ?_
    injection h with h
    subst h
    exact ⟨.inr rfl, _, _, rfl, List.nodup_nil, rfl, rfl⟩
abbrev R_r07_reader_fail := T_SLBiie
def F_r07_reader_fail (n : Nat) (a0 : T_SLBiie) (a1 : Int) : Option R_r07_reader_fail :=
  if (decide (a0.f2 = 0)) then
    some (⟨a0.f0, a0.f1, a1⟩ : T_SLBiie)
  else
  some a0
theorem C_r07_reader_fail (n : Nat) (a0 : T_SLBiie) (a1 : Int) (r : R_r07_reader_fail) (h : F_r07_reader_fail n a0 a1 = some r) : CallS Try.prog 67 [(.box [(.ro 1 a0.f0.length (flat E_B a0.f0)), (vI a0.f1), (vI a0.f2)]), (vI a1)] (.tup []) [some [(.ro 1 r.f0.length (flat E_B r.f0)), (vI r.f1), (vI r.f2)], none] := by
  refine CallS.introK tabOk Try.func67 rfl Try.ntmps67 (Nat.le_of_ble_eq_true rfl) ?_
  rw [F_r07_reader_fail] at h
  refine .seq ?_
  refine .rgI rfl ?_
  refine .seg tabOk 0 5 [0, 1, 8] [0] (t := [(0, (.ptr (0, 0) 0)), (1, (vI a1)), (8, (.val (.bool (decide (a0.f2 = 0)))))]) (h := [(0, ⟨0, .live, false, [(.ro 1 a0.f0.length (flat E_B a0.f0)), (vI a0.f1), (vI a0.f2)]⟩)]) (ep := 2) (by kernel_rfl) ?_
  refine .fin rfl ?_
  refine sqN ?_
  refine .cond (decide (a0.f2 = 0)) rfl (fun hc1 => ?_) (fun hc1 => ?_)
  · have h := iT h hc1
    refine .rgI rfl ?_
    refine .seg tabOk 0 5 [] [0] (t := []) (h := [(0, ⟨0, .live, false, [(.ro 1 a0.f0.length (flat E_B a0.f0)), (vI a0.f1), (vI a1)]⟩)]) (ep := 4) (by kernel_rfl) ?_
    refine .fin rfl ?_
    injection h with h
    subst h
    exact ⟨.inl rfl, _, _, rfl, List.nodup_nil, rfl, rfl⟩
  · have h := iF h hc1
    refine .skip ?_
    injection h with h
    subst h
    exact ⟨.inl rfl, _, _, rfl, List.nodup_nil, rfl, rfl⟩
abbrev R_r07_reader_flags := (List Int) × T_SLBiie
def L_r07_reader_flags_1 (v9 : R_r07_reader_u) (x15 : Int) (j19 : (List Int) → Option R_r07_reader_flags) : Nat → (List Int) → Int → Option R_r07_reader_flags
  | 0, _, _ => none
  | n + 1, y20, y21 =>
    if (decide (y21 < x15)) then
      gd (fits (y20.length + ([v9.1] : List Int).length) 8 = true) <|
      L_r07_reader_flags_1 v9 x15 j19 n (y20 ++ ([v9.1] : List Int)) (w64 (y21 + 1))
    else
    j19 y20
def L_r07_reader_flags_0 (a1 : Int) (j1 : (List Int) → Int → Int → (List Int) → Option R_r07_reader_flags) : Nat → (List Int) → Int → Int → (List Int) → Option R_r07_reader_flags
  | 0, _, _, _, _ => none
  | n + 1, y2, y3, y4, y5 =>
    if ((decide (y4 = 0)) && (decide ((y5.length : Int) < a1))) then
      lj (fun (x25 : (List Int)) (x26 : Int) (x27 : Int) (x28 : (List Int)) =>
        L_r07_reader_flags_0 a1 j1 n x25 x26 x27 x28) fun j8 =>
      Option.bind (F_r07_reader_u n (⟨y2, y3, y4⟩ : T_SLBiie) 1) fun v9 =>
      lj (fun (x12 : (List Int)) (x13 : Int) (x14 : Int) (x15 : Int) =>
        if (decide (a1 < (w64 ((y5.length : Int) + x15)))) then
          Option.bind (F_r07_reader_fail n (⟨x12, x13, x14⟩ : T_SLBiie) 4) fun v18 =>
          some (([] : List Int), v18)
        else
        lj (fun (x24 : (List Int)) =>
          j8 x12 x13 x14 x24) fun j19 =>
        L_r07_reader_flags_1 v9 x15 j19 n y5 0) fun j16 =>
      if (decide ((Int.tmod (w64 (Int.tdiv v9.1 8)) 2) = 1)) then
        Option.bind (F_r07_reader_u n v9.2 1) fun v11 =>
        j16 v11.2.f0 v11.2.f1 v11.2.f2 (w64 (1 + v11.1))
      else
      j16 v9.2.f0 v9.2.f1 v9.2.f2 1
    else
    j1 y2 y3 y4 y5
def F_r07_reader_flags (n : Nat) (a0 : T_SLBiie) (a1 : Int) : Option R_r07_reader_flags :=
  lj (fun (x29 : (List Int)) (x30 : Int) (x31 : Int) (x32 : (List Int)) =>
    some (x32, (⟨x29, x30, x31⟩ : T_SLBiie))) fun j1 =>
  L_r07_reader_flags_0 a1 j1 n a0.f0 a0.f1 a0.f2 ([] : List Int)
abbrev q54_0 (y5 : (List Int)) : Nat × V := (5, (.sref (95, 4) 0 y5.length 1))
abbrev q54_1 (y5 : (List Int)) : Nat × Ob := (95, ⟨4, .live, true, flat E_i y5⟩)
abbrev q54_2 (v9 : R_r07_reader_u) : Nat × Ob := (0, ⟨0, .live, false, [(.ro 1 v9.2.f0.length (flat E_B v9.2.f0)), (vI v9.2.f1), (vI v9.2.f2)]⟩)
abbrev q54_3 (v18 : R_r07_reader_fail) : Nat × Ob := (0, ⟨0, .live, false, [(.ro 1 v18.f0.length (flat E_B v18.f0)), (vI v18.f1), (vI v18.f2)]⟩)
abbrev q54_4 (a0 : T_SLBiie) : Nat × Ob := (0, ⟨0, .live, false, [(.ro 1 a0.f0.length (flat E_B a0.f0)), (vI a0.f1), (vI a0.f2)]⟩)
theorem C_r07_reader_flags (n : Nat) (a0 : T_SLBiie) (a1 : Int) (r : R_r07_reader_flags) (h : F_r07_reader_flags n a0 a1 = some r) : CallS Try.prog 54 [(.box [(.ro 1 a0.f0.length (flat E_B a0.f0)), (vI a0.f1), (vI a0.f2)]), (vI a1)] (.own 1 r.1.length (flat E_i r.1)) [some [(.ro 1 r.2.f0.length (flat E_B r.2.f0)), (vI r.2.f1), (vI r.2.f2)], none] := by
  refine CallS.introK tabOk Try.func54 rfl Try.ntmps54 (Nat.le_of_ble_eq_true rfl) ?_
  rw [F_r07_reader_flags] at h
  refine .seq ?_
  refine .rgI rfl ?_
  refine .seg tabOk 0 1 [0, 1] [0] (t := [(0, (.ptr (0, 0) 0)), (1, (vI a1))]) (h := [(q54_4 a0)]) (ep := 2) (by kernel_rfl) ?_
  refine .fin rfl ?_
  refine sqN ?_
  refine .seq ?_
  refine .rgI rfl ?_
  refine .seg tabOk 0 1 [0, 1, 5] [0] (t := [(0, (.ptr (0, 0) 0)), (1, (vI a1)), (5, .nils)]) (h := [(q54_4 a0)]) (ep := 4) (by kernel_rfl) ?_
  refine .fin rfl ?_
  refine sqN ?_
  refine .seq ?_
  obtain ⟨j1, hj1, h⟩ := ljS h
  refine .join (fun s' => ∃ x29 x30 x31 x32, s' = ⟨[(5, (.sref (95, 9) 0 x32.length 1))], [(0, ⟨0, .live, false, [(.ro 1 x29.length (flat E_B x29)), (vI x30), (vI x31)]⟩), (95, ⟨9, .live, true, flat E_i x32⟩)], 10⟩ ∧ j1 x29 x30 x31 x32 = some r) ?_ ?_
  · refine .block ?_
    refine .loopF (β := (List Int) × Int × Int × (List Int)) (fun v => ⟨[(0, (.ptr (0, 0) 0)), (1, (vI a1)), (5, (.sref (95, 4) 0 v.2.2.2.length 1))], [(0, ⟨0, .live, false, [(.ro 1 v.1.length (flat E_B v.1)), (vI v.2.1), (vI v.2.2.1)]⟩), (95, ⟨4, .live, true, flat E_i v.2.2.2⟩)], 5⟩) (fun m v => L_r07_reader_flags_0 a1 j1 m v.1 v.2.1 v.2.2.1 v.2.2.2 = some r) n (a0.f0, a0.f1, a0.f2, ([] : List Int)) (by exact .trans (.nilRow 5 1 95 rfl (fresh_none rfl)) (.tn [((0, 0), (0, 0)), ((95, 4), (95, 4))] ⟨rfl, rfl, rfl, trivial⟩ ⟨rfl, ⟨_, rfl, rfl⟩, ⟨rfl, ⟨_, rfl, ah_row E_i⟩, trivial⟩⟩ rfl)) h ?_
    rintro m ⟨y2, y3, y4, y5⟩ h
    cases m with
    | zero => exact nomatch h
    | succ n =>
      rw [L_r07_reader_flags_0] at h
      refine .seq ?_
      refine .seq ?_
      refine .join (fun s' => s' = ⟨[(0, (.ptr (0, 0) 0)), (1, (vI a1)), (q54_0 y5), (19, (.val (.bool ((decide (y4 = 0)) && (decide ((y5.length : Int) < a1))))))], [(0, ⟨0, .live, false, [(.ro 1 y2.length (flat E_B y2)), (vI y3), (vI y4)]⟩), (q54_1 y5)], 9⟩) ?_ ?_
      · refine .rgI rfl ?_
        refine .seg tabOk 0 6 [0, 1, 5, 14] [0, 95] (t := [(0, (.ptr (0, 0) 0)), (1, (vI a1)), (q54_0 y5), (14, (.val (.bool (decide (y4 = 0)))))]) (h := [(0, ⟨0, .live, false, [(.ro 1 y2.length (flat E_B y2)), (vI y3), (vI y4)]⟩), (q54_1 y5)]) (ep := 7) (by kernel_rfl) ?_
        cases hB6 : (decide (y4 = 0)) with
        | false =>
          skip
          refine .seg tabOk 6 5 [0, 1, 5, 19] [0, 95] (t := [(0, (.ptr (0, 0) 0)), (1, (vI a1)), (q54_0 y5), (19, (.val (.bool false)))]) (h := [(0, ⟨0, .live, false, [(.ro 1 y2.length (flat E_B y2)), (vI y3), (vI y4)]⟩), (q54_1 y5)]) (ep := 8) (by kernel_rfl) ?_
          refine .fin rfl ?_
          exact jkN (by exact .tn [((0, 0), (0, 0)), ((95, 4), (95, 4))] ⟨rfl, rfl, rfl, rfl, trivial⟩ ⟨rfl, ⟨_, rfl, rfl⟩, ⟨rfl, ⟨_, rfl, ah_row E_i⟩, trivial⟩⟩ rfl) rfl
        | true =>
          skip
          refine .seg tabOk 6 5 [0, 1, 5, 19] [0, 95] (t := [(0, (.ptr (0, 0) 0)), (1, (vI a1)), (q54_0 y5), (19, (.val (.bool (decide ((y5.length : Int) < a1)))))]) (h := [(0, ⟨0, .live, false, [(.ro 1 y2.length (flat E_B y2)), (vI y3), (vI y4)]⟩), (q54_1 y5)]) (ep := 8) (by kernel_rfl) ?_
          refine .fin rfl ?_
          exact jkN (by exact .tn [((0, 0), (0, 0)), ((95, 4), (95, 4))] ⟨rfl, rfl, rfl, rfl, trivial⟩ ⟨rfl, ⟨_, rfl, rfl⟩, ⟨rfl, ⟨_, rfl, ah_row E_i⟩, trivial⟩⟩ rfl) rfl
      · rintro _ rfl
        refine sqN ?_
        refine .cond ((decide (y4 = 0)) && (decide ((y5.length : Int) < a1))) rfl (fun hc7 => ?_) (fun hc7 => ?_)
        · have h := iT h hc7
          refine .skip ?_
          refine sqN ?_
          obtain ⟨j8, hj8, h⟩ := ljS h
          refine .join (fun s' => ∃ x25 x26 x27 x28, s' = ⟨[(0, (.ptr (0, 0) 0)), (1, (vI a1)), (5, (.sref (95, 4) 0 x28.length 1))], [(0, ⟨0, .live, false, [(.ro 1 x25.length (flat E_B x25)), (vI x26), (vI x27)]⟩), (95, ⟨4, .live, true, flat E_i x28⟩)], 29⟩ ∧ j8 x25 x26 x27 x28 = some r) ?_ ?_
          · refine .block ?_
            refine .seq ?_
            refine .rgI rfl ?_
            refine .seg tabOk 0 1 [0, 1, 5, 20] [0, 95] (t := [(0, (.ptr (0, 0) 0)), (1, (vI a1)), (q54_0 y5), (20, (.ptr (0, 0) 0))]) (h := [(0, ⟨0, .live, false, [(.ro 1 y2.length (flat E_B y2)), (vI y3), (vI y4)]⟩), (q54_1 y5)]) (ep := 11) (by kernel_rfl) ?_
            obtain ⟨v9, hv9, h⟩ := bS h
            refine .cc true rfl rfl (C_r07_reader_u _ _ _ _ hv9) ent_r07_reader_u rfl rfl rfl rfl (g_cons (g_pl rfl rfl) (g_cons (g_pl rfl rfl) g_nil)) rfl ?_
            refine .seg tabOk 2 1 [0, 1, 5, 6] [0, 95] (t := [(0, (.ptr (0, 0) 0)), (1, (vI a1)), (q54_0 y5), (6, (vI v9.1))]) (h := [(q54_2 v9), (q54_1 y5)]) (ep := 12) (by kernel_rfl) ?_
            refine .fin rfl ?_
            refine sqN ?_
            refine .seq ?_
            refine .rgI rfl ?_
            refine .seg tabOk 0 1 [0, 1, 5, 6, 7] [0, 95] (t := [(0, (.ptr (0, 0) 0)), (1, (vI a1)), (q54_0 y5), (6, (vI v9.1)), (7, (vI 1))]) (h := [(q54_2 v9), (q54_1 y5)]) (ep := 14) (by kernel_rfl) ?_
            refine .fin rfl ?_
            refine sqN ?_
            refine .seq ?_
            refine .seq ?_
            refine .rgI rfl ?_
            refine .seg tabOk 0 4 [0, 1, 5, 6, 7, 25] [0, 95] (t := [(0, (.ptr (0, 0) 0)), (1, (vI a1)), (q54_0 y5), (6, (vI v9.1)), (7, (vI 1)), (25, (.val (.bool (decide ((Int.tmod (w64 (Int.tdiv v9.1 8)) 2) = 1)))))]) (h := [(q54_2 v9), (q54_1 y5)]) (ep := 16) (by kernel_rfl) ?_
            refine .fin rfl ?_
            refine sqN ?_
            obtain ⟨j16, hj16, h⟩ := ljS h
            refine .join (fun s' => ∃ x12 x13 x14 x15, s' = ⟨[(0, (.ptr (0, 0) 0)), (1, (vI a1)), (q54_0 y5), (6, (vI v9.1)), (7, (vI x15))], [(0, ⟨0, .live, false, [(.ro 1 x12.length (flat E_B x12)), (vI x13), (vI x14)]⟩), (q54_1 y5)], 20⟩ ∧ j16 x12 x13 x14 x15 = some r) ?_ ?_
            · refine .cond (decide ((Int.tmod (w64 (Int.tdiv v9.1 8)) 2) = 1)) rfl (fun hc10 => ?_) (fun hc10 => ?_)
              · have h := iT h hc10
                refine .rgI rfl ?_
                refine .seg tabOk 0 2 [0, 1, 5, 6, 26, 27] [0, 95] (t := [(0, (.ptr (0, 0) 0)), (1, (vI a1)), (q54_0 y5), (6, (vI v9.1)), (26, (vI 1)), (27, (.ptr (0, 0) 0))]) (h := [(q54_2 v9), (q54_1 y5)]) (ep := 18) (by kernel_rfl) ?_
                obtain ⟨v11, hv11, h⟩ := bS h
                refine .cc true rfl rfl (C_r07_reader_u _ _ _ _ hv11) ent_r07_reader_u rfl rfl rfl rfl (g_cons (g_pl rfl rfl) (g_cons (g_pl rfl rfl) g_nil)) rfl ?_
                refine .seg tabOk 3 2 [0, 1, 5, 6, 7] [0, 95] (t := [(0, (.ptr (0, 0) 0)), (1, (vI a1)), (q54_0 y5), (6, (vI v9.1)), (7, (vI (w64 (1 + v11.1))))]) (h := [(0, ⟨0, .live, false, [(.ro 1 v11.2.f0.length (flat E_B v11.2.f0)), (vI v11.2.f1), (vI v11.2.f2)]⟩), (q54_1 y5)]) (ep := 19) (by kernel_rfl) ?_
                refine .fin rfl ?_
                exact jkN (by exact .tn [((0, 0), (0, 0)), ((95, 4), (95, 4))] ⟨rfl, rfl, rfl, rfl, rfl, trivial⟩ ⟨rfl, ⟨_, rfl, rfl⟩, ⟨rfl, ⟨_, rfl, ah_row E_i⟩, trivial⟩⟩ rfl) ⟨_, _, _, _, rfl, h⟩
              · have h := iF h hc10
                refine .skip ?_
                exact jkN (by exact .tn [((0, 0), (0, 0)), ((95, 4), (95, 4))] ⟨rfl, rfl, rfl, rfl, rfl, trivial⟩ ⟨rfl, ⟨_, rfl, rfl⟩, ⟨rfl, ⟨_, rfl, ah_row E_i⟩, trivial⟩⟩ rfl) ⟨_, _, _, _, rfl, h⟩
            · rintro _ ⟨x12, x13, x14, x15, rfl, h⟩
              subst hj16
              refine sqN ?_
              refine .seq ?_
              refine .seq ?_
              refine .rgI rfl ?_
              refine .seg tabOk 0 6 [0, 1, 5, 6, 7, 35] [0, 95] (t := [(0, (.ptr (0, 0) 0)), (1, (vI a1)), (q54_0 y5), (6, (vI v9.1)), (7, (vI x15)), (35, (.val (.bool (decide (a1 < (w64 ((y5.length : Int) + x15)))))))]) (h := [(0, ⟨0, .live, false, [(.ro 1 x12.length (flat E_B x12)), (vI x13), (vI x14)]⟩), (q54_1 y5)]) (ep := 22) (by kernel_rfl) ?_
              refine .fin rfl ?_
              refine sqN ?_
              refine .cond (decide (a1 < (w64 ((y5.length : Int) + x15)))) rfl (fun hc17 => ?_) (fun hc17 => ?_)
              · have h := iT h hc17
                refine .seq ?_
                refine .rgI rfl ?_
                refine .seg tabOk 0 1 [36] [0] (t := [(36, (.ptr (0, 0) 0))]) (h := [(0, ⟨0, .live, false, [(.ro 1 x12.length (flat E_B x12)), (vI x13), (vI x14)]⟩)]) (ep := 24) (by kernel_rfl) ?_
                obtain ⟨v18, hv18, h⟩ := bS h
                refine .cc true rfl rfl (C_r07_reader_fail _ _ _ _ hv18) ent_r07_reader_fail rfl rfl rfl rfl (g_cons (g_pl rfl rfl) (g_cons (g_pl rfl rfl) g_nil)) rfl ?_
                refine .seg tabOk 2 0 [] [0] (t := []) (h := [(q54_3 v18)]) (ep := 25) (by kernel_rfl) ?_
                refine .fin rfl ?_
                refine sqN ?_
                refine .seq ?_
                refine .rgI rfl ?_
                refine .seg tabOk 0 1 [4] [0] (t := [(4, .nils)]) (h := [(q54_3 v18)]) (ep := 27) (by kernel_rfl) ?_
                refine .fin rfl ?_
                refine sqN ?_
                refine .pre (.nilRow 4 1 79 rfl (fresh_none rfl)) ?_
                refine .ret ?_
                refine sqR ?_
                refine bkR ?_
                refine jkR ?_
                refine jkR ?_
                refine bkR ?_
                refine jkR ?_
                refine sqR ?_
                injection h with h
                subst h
                exact ⟨.inr rfl, _, _, (f_cons (f_tmp rfl (o1_row E_i ([] : List Int) rfl rfl rfl rfl rfl)) f_nil), nd_of rfl, rfl, rfl⟩
              · have h := iF h hc17
                refine .skip ?_
                refine sqN ?_
                refine .seq ?_
                refine .rgI rfl ?_
                refine .seg tabOk 0 1 [0, 1, 5, 6, 7, 8] [0, 95] (t := [(0, (.ptr (0, 0) 0)), (1, (vI a1)), (q54_0 y5), (6, (vI v9.1)), (7, (vI x15)), (8, (vI 0))]) (h := [(0, ⟨0, .live, false, [(.ro 1 x12.length (flat E_B x12)), (vI x13), (vI x14)]⟩), (q54_1 y5)]) (ep := 24) (by kernel_rfl) ?_
                refine .fin rfl ?_
                refine sqN ?_
                obtain ⟨j19, hj19, h⟩ := ljS h
                refine .join (fun s' => ∃ x24, s' = ⟨[(0, (.ptr (0, 0) 0)), (1, (vI a1)), (5, (.sref (95, 4) 0 x24.length 1))], [(0, ⟨0, .live, false, [(.ro 1 x12.length (flat E_B x12)), (vI x13), (vI x14)]⟩), (95, ⟨4, .live, true, flat E_i x24⟩)], 28⟩ ∧ j19 x24 = some r) ?_ ?_
                · refine .block ?_
                  refine .loopF (β := (List Int) × Int) (fun v => ⟨[(0, (.ptr (0, 0) 0)), (1, (vI a1)), (5, (.sref (95, 4) 0 v.1.length 1)), (6, (vI v9.1)), (7, (vI x15)), (8, (vI v.2))], [(0, ⟨0, .live, false, [(.ro 1 x12.length (flat E_B x12)), (vI x13), (vI x14)]⟩), (95, ⟨4, .live, true, flat E_i v.1⟩)], 25⟩) (fun m v => L_r07_reader_flags_1 v9 x15 j19 m v.1 v.2 = some r) n (y5, 0) (by exact .tn [((0, 0), (0, 0)), ((95, 4), (95, 4))] ⟨rfl, rfl, rfl, rfl, rfl, rfl, trivial⟩ ⟨rfl, ⟨_, rfl, rfl⟩, ⟨rfl, ⟨_, rfl, ah_row E_i⟩, trivial⟩⟩ rfl) h ?_
                  rintro m ⟨y20, y21⟩ h
                  cases m with
                  | zero => exact nomatch h
                  | succ n =>
                    rw [L_r07_reader_flags_1] at h
                    refine .seq ?_
                    refine .seq ?_
                    refine .rgI rfl ?_
                    refine .seg tabOk 0 3 [0, 1, 5, 6, 7, 8, 40] [0, 95] (t := [(0, (.ptr (0, 0) 0)), (1, (vI a1)), (5, (.sref (95, 4) 0 y20.length 1)), (6, (vI v9.1)), (7, (vI x15)), (8, (vI y21)), (40, (.val (.bool (decide (y21 < x15)))))]) (h := [(0, ⟨0, .live, false, [(.ro 1 x12.length (flat E_B x12)), (vI x13), (vI x14)]⟩), (95, ⟨4, .live, true, flat E_i y20⟩)]) (ep := 27) (by kernel_rfl) ?_
                    refine .fin rfl ?_
                    refine sqN ?_
                    refine .cond (decide (y21 < x15)) rfl (fun hc22 => ?_) (fun hc22 => ?_)
                    · have h := iT h hc22
                      refine .skip ?_
                      refine sqN ?_
                      refine .seq ?_
                      refine .block ?_
                      refine .rgI rfl ?_
                      refine .seg tabOk 0 3 [0, 1, 6, 7, 8, 43, 45] [0, 95, 720] (t := [(0, (.ptr (0, 0) 0)), (1, (vI a1)), (6, (vI v9.1)), (7, (vI x15)), (8, (vI y21)), (43, (.sref (95, 4) 0 y20.length 1)), (45, (.sref (720, 28) 0 ([v9.1] : List Int).length 1))]) (h := [(0, ⟨0, .live, false, [(.ro 1 x12.length (flat E_B x12)), (vI x13), (vI x14)]⟩), (95, ⟨4, .live, true, flat E_i y20⟩), (720, ⟨28, .live, true, flat E_i ([v9.1] : List Int)⟩)]) (ep := 29) (by kernel_rfl) ?_
                      obtain ⟨hb23, h⟩ := gS h
                      refine .oo tabOk rfl rfl rfl (q_app E_i (l := y20) rfl rfl rfl rfl rfl rfl rfl rfl rfl rfl rfl rfl rfl (.row ([v9.1] : List Int) rfl rfl rfl rfl) hb23) ?_
                      refine .seg tabOk 4 1 [0, 1, 5, 6, 7, 8] [0, 736] (t := [(0, (.ptr (0, 0) 0)), (1, (vI a1)), (5, (.sref (736, 29) 0 (y20 ++ ([v9.1] : List Int)).length 1)), (6, (vI v9.1)), (7, (vI x15)), (8, (vI y21))]) (h := [(0, ⟨0, .live, false, [(.ro 1 x12.length (flat E_B x12)), (vI x13), (vI x14)]⟩), (736, ⟨29, .live, true, flat E_i (y20 ++ ([v9.1] : List Int))⟩)]) (ep := 30) (by kernel_rfl) ?_
                      refine .fin rfl ?_
                      refine bkN ?_
                      refine sqN ?_
                      refine .rgI rfl ?_
                      refine .seg tabOk 0 3 [0, 1, 5, 6, 7, 8] [0, 736] (t := [(0, (.ptr (0, 0) 0)), (1, (vI a1)), (5, (.sref (736, 29) 0 (y20 ++ ([v9.1] : List Int)).length 1)), (6, (vI v9.1)), (7, (vI x15)), (8, (vI (w64 (y21 + 1))))]) (h := [(0, ⟨0, .live, false, [(.ro 1 x12.length (flat E_B x12)), (vI x13), (vI x14)]⟩), (736, ⟨29, .live, true, flat E_i (y20 ++ ([v9.1] : List Int))⟩)]) (ep := 32) (by kernel_rfl) ?_
                      refine .fin rfl ?_
                      exact jkN (by exact .tn [((0, 0), (0, 0)), ((736, 29), (95, 4))] ⟨rfl, rfl, rfl, rfl, rfl, rfl, trivial⟩ ⟨rfl, ⟨_, rfl, rfl⟩, ⟨rfl, ⟨_, rfl, ah_row E_i⟩, trivial⟩⟩ rfl) ⟨n, ((y20 ++ ([v9.1] : List Int)), (w64 (y21 + 1))), Nat.lt_succ_self n, rfl, h⟩
                    · have h := iF h hc22
                      refine .exit ?_
                      refine sqX ?_
                      refine jkX ?_
                      refine bkE ?_
                      exact jkN (by exact .tn [((0, 0), (0, 0)), ((95, 4), (95, 4))] ⟨rfl, rfl, rfl, trivial⟩ ⟨rfl, ⟨_, rfl, rfl⟩, ⟨rfl, ⟨_, rfl, ah_row E_i⟩, trivial⟩⟩ rfl) ⟨_, rfl, h⟩
                · rintro _ ⟨x24, rfl, h⟩
                  subst hj19
                  refine bkN ?_
                  exact jkN (by exact .tn [((0, 0), (0, 0)), ((95, 4), (95, 4))] ⟨rfl, rfl, rfl, trivial⟩ ⟨rfl, ⟨_, rfl, rfl⟩, ⟨rfl, ⟨_, rfl, ah_row E_i⟩, trivial⟩⟩ rfl) ⟨_, _, _, _, rfl, h⟩
          · rintro _ ⟨x25, x26, x27, x28, rfl, h⟩
            subst hj8
            exact jkN (by exact .tn [((0, 0), (0, 0)), ((95, 4), (95, 4))] ⟨rfl, rfl, rfl, trivial⟩ ⟨rfl, ⟨_, rfl, rfl⟩, ⟨rfl, ⟨_, rfl, ah_row E_i⟩, trivial⟩⟩ rfl) ⟨n, (x25, x26, x27, x28), Nat.lt_succ_self n, rfl, h⟩
        · have h := iF h hc7
          refine .exit ?_
          refine sqX ?_
          refine jkX ?_
          refine bkE ?_
          exact jkN (by exact .tn [((0, 0), (0, 0)), ((95, 4), (95, 9))] ⟨rfl, trivial⟩ ⟨rfl, ⟨_, rfl, rfl⟩, ⟨rfl, ⟨_, rfl, ah_row E_i⟩, trivial⟩⟩ rfl) ⟨_, _, _, _, rfl, h⟩
  · rintro _ ⟨x29, x30, x31, x32, rfl, h⟩
    subst hj1
    refine sqN ?_
    refine .seq ?_
    refine .rgI rfl ?_
    refine .seg tabOk 0 2 [4] [0, 95] (t := [(4, (.sref (95, 9) 0 x32.length 1))]) (h := [(0, ⟨0, .live, false, [(.ro 1 x29.length (flat E_B x29)), (vI x30), (vI x31)]⟩), (95, ⟨9, .live, true, flat E_i x32⟩)]) (ep := 12) (by kernel_rfl) ?_
    refine .fin rfl ?_
    refine sqN ?_
    refine .ret ?_
    injection h with h
    subst h
    exact ⟨.inr rfl, _, _, (f_cons (f_tmp rfl (o1_row E_i x32 rfl rfl rfl rfl rfl)) f_nil), nd_of rfl, rfl, rfl⟩
abbrev R_r07_reader_steps := (List Int) × T_SLBiie
def L_r07_reader_steps_0 (a1 : (List Int)) (a2 : Int) (a3 : Int) (j1 : (List Int) → Int → Int → (List Int) → Option R_r07_reader_steps) : Nat → (List Int) → Int → Int → (List Int) → Int → Int → Option R_r07_reader_steps
  | 0, _, _, _, _, _, _ => none
  | n + 1, y2, y3, y4, y5, y6, y7 =>
    if (decide (y7 < (a1.length : Int))) then
      gd (0 ≤ y7 ∧ y7 < a1.length) <|
      gd (a2 ≠ 0) <|
      gd (a3 ≠ 0) <|
      lj (fun (x19 : (List Int)) (x20 : Int) (x21 : Int) (x22 : Int) =>
        lj (fun (x27 : (List Int)) (x28 : Int) (x29 : Int) =>
          if (!decide (x29 = 0)) then
            some (([] : List Int), (⟨x27, x28, x29⟩ : T_SLBiie))
          else
          gd (fits (y5.length + ([x22] : List Int).length) 8 = true) <|
          L_r07_reader_steps_0 a1 a2 a3 j1 n x27 x28 x29 (y5 ++ ([x22] : List Int)) x22 (w64 (y7 + 1))) fun j30 =>
        if ((decide (x22 < (-32768))) || (decide (32767 < x22))) then
          Option.bind (F_r07_reader_fail n (⟨x19, x20, x21⟩ : T_SLBiie) 6) fun v26 =>
          j30 v26.f0 v26.f1 v26.f2
        else
        j30 x19 x20 x21) fun j23 =>
      if ((decide ((Int.tmod (w64 (Int.tdiv (nth E_i a1 y7) a2)) 2) = 1)) && (decide ((Int.tmod (w64 (Int.tdiv (nth E_i a1 y7) a3)) 2) = 1))) then
        Option.bind (F_r07_reader_u n (⟨y2, y3, y4⟩ : T_SLBiie) 1) fun v14 =>
        j23 v14.2.f0 v14.2.f1 v14.2.f2 (w64 (y6 + v14.1))
      else
      if ((decide ((Int.tmod (w64 (Int.tdiv (nth E_i a1 y7) a2)) 2) = 1)) && true) then
        Option.bind (F_r07_reader_u n (⟨y2, y3, y4⟩ : T_SLBiie) 1) fun v16 =>
        j23 v16.2.f0 v16.2.f1 v16.2.f2 (w64 (y6 - v16.1))
      else
      if (!(decide ((Int.tmod (w64 (Int.tdiv (nth E_i a1 y7) a3)) 2) = 1))) then
        Option.bind (F_r07_reader_s n (⟨y2, y3, y4⟩ : T_SLBiie)) fun v18 =>
        j23 v18.2.f0 v18.2.f1 v18.2.f2 (w64 (y6 + v18.1))
      else
      j23 y2 y3 y4 y6
    else
    j1 y2 y3 y4 y5
def F_r07_reader_steps (n : Nat) (a0 : T_SLBiie) (a1 : (List Int)) (a2 : Int) (a3 : Int) : Option R_r07_reader_steps :=
  lj (fun (x33 : (List Int)) (x34 : Int) (x35 : Int) (x36 : (List Int)) =>
    some (x36, (⟨x33, x34, x35⟩ : T_SLBiie))) fun j1 =>
  L_r07_reader_steps_0 a1 a2 a3 j1 n a0.f0 a0.f1 a0.f2 ([] : List Int) 0 0
abbrev q55_0 (a1 : (List Int)) : Nat × V := (15, (.ro 1 a1.length (flat E_i a1)))
abbrev q55_1 (a1 : (List Int)) : Nat × V := (16, (vI (a1.length : Int)))
abbrev q55_2 (a1 : (List Int)) (y7 : Int) (a3 : Int) : Nat × V := (14, (.val (.bool (decide ((Int.tmod (w64 (Int.tdiv (nth E_i a1 y7) a3)) 2) = 1)))))
abbrev q55_3 (a0 : T_SLBiie) : Nat × Ob := (0, ⟨0, .live, false, [(.ro 1 a0.f0.length (flat E_B a0.f0)), (vI a0.f1), (vI a0.f2)]⟩)
theorem C_r07_reader_steps (n : Nat) (a0 : T_SLBiie) (a1 : (List Int)) (a2 : Int) (a3 : Int) (r : R_r07_reader_steps) (h : F_r07_reader_steps n a0 a1 a2 a3 = some r) : CallS Try.prog 55 [(.box [(.ro 1 a0.f0.length (flat E_B a0.f0)), (vI a0.f1), (vI a0.f2)]), (.ro 1 a1.length (flat E_i a1)), (vI a2), (vI a3)] (.own 1 r.1.length (flat E_i r.1)) [some [(.ro 1 r.2.f0.length (flat E_B r.2.f0)), (vI r.2.f1), (vI r.2.f2)], none, none, none] := by
  refine CallS.introK tabOk Try.func55 rfl Try.ntmps55 (Nat.le_of_ble_eq_true rfl) ?_
  rw [F_r07_reader_steps] at h
  refine .seq ?_
  refine .rgI rfl ?_
  refine .seg tabOk 0 1 [0, 1, 2, 3] [0] (t := [(0, (.ptr (0, 0) 0)), (1, (.ro 1 a1.length (flat E_i a1))), (2, (vI a2)), (3, (vI a3))]) (h := [(q55_3 a0)]) (ep := 2) (by kernel_rfl) ?_
  refine .fin rfl ?_
  refine sqN ?_
  refine .seq ?_
  refine .rgI rfl ?_
  refine .seg tabOk 0 1 [0, 1, 2, 3, 9] [0] (t := [(0, (.ptr (0, 0) 0)), (1, (.ro 1 a1.length (flat E_i a1))), (2, (vI a2)), (3, (vI a3)), (9, .nils)]) (h := [(q55_3 a0)]) (ep := 4) (by kernel_rfl) ?_
  refine .fin rfl ?_
  refine sqN ?_
  refine .seq ?_
  refine .rgI rfl ?_
  refine .seg tabOk 0 1 [0, 1, 2, 3, 9, 10] [0] (t := [(0, (.ptr (0, 0) 0)), (1, (.ro 1 a1.length (flat E_i a1))), (2, (vI a2)), (3, (vI a3)), (9, .nils), (10, (vI 0))]) (h := [(q55_3 a0)]) (ep := 6) (by kernel_rfl) ?_
  refine .fin rfl ?_
  refine sqN ?_
  refine .seq ?_
  refine .seq ?_
  refine .rgI rfl ?_
  refine .seg tabOk 0 3 [0, 2, 3, 9, 10, 15, 16, 17] [0] (t := [(0, (.ptr (0, 0) 0)), (2, (vI a2)), (3, (vI a3)), (9, .nils), (10, (vI 0)), (q55_0 a1), (q55_1 a1), (17, (vI 0))]) (h := [(q55_3 a0)]) (ep := 8) (by kernel_rfl) ?_
  refine .fin rfl ?_
  refine sqN ?_
  obtain ⟨j1, hj1, h⟩ := ljS h
  refine .join (fun s' => ∃ x33 x34 x35 x36, s' = ⟨[(9, (.sref (159, 11) 0 x36.length 1))], [(0, ⟨0, .live, false, [(.ro 1 x33.length (flat E_B x33)), (vI x34), (vI x35)]⟩), (159, ⟨11, .live, true, flat E_i x36⟩)], 12⟩ ∧ j1 x33 x34 x35 x36 = some r) ?_ ?_
  · refine .block ?_
    refine .loopF (β := (List Int) × Int × Int × (List Int) × Int × Int) (fun v => ⟨[(0, (.ptr (0, 0) 0)), (2, (vI a2)), (3, (vI a3)), (9, (.sref (159, 8) 0 v.2.2.2.1.length 1)), (10, (vI v.2.2.2.2.1)), (q55_0 a1), (q55_1 a1), (17, (vI v.2.2.2.2.2))], [(0, ⟨0, .live, false, [(.ro 1 v.1.length (flat E_B v.1)), (vI v.2.1), (vI v.2.2.1)]⟩), (159, ⟨8, .live, true, flat E_i v.2.2.2.1⟩)], 9⟩) (fun m v => L_r07_reader_steps_0 a1 a2 a3 j1 m v.1 v.2.1 v.2.2.1 v.2.2.2.1 v.2.2.2.2.1 v.2.2.2.2.2 = some r) n (a0.f0, a0.f1, a0.f2, ([] : List Int), 0, 0) (by exact .trans (.nilRow 9 1 159 rfl (fresh_none rfl)) (.tn [((0, 0), (0, 0)), ((159, 8), (159, 8))] ⟨rfl, rfl, rfl, rfl, rfl, rfl, rfl, rfl, trivial⟩ ⟨rfl, ⟨_, rfl, rfl⟩, ⟨rfl, ⟨_, rfl, ah_row E_i⟩, trivial⟩⟩ rfl)) h ?_
    rintro m ⟨y2, y3, y4, y5, y6, y7⟩ h
    cases m with
    | zero => exact nomatch h
    | succ n =>
      rw [L_r07_reader_steps_0] at h
      refine .seq ?_
      refine .rgI rfl ?_
      refine .seg tabOk 0 1 [0, 2, 3, 9, 10, 15, 16, 17, 18] [0, 159] (t := [(0, (.ptr (0, 0) 0)), (2, (vI a2)), (3, (vI a3)), (9, (.sref (159, 8) 0 y5.length 1)), (10, (vI y6)), (q55_0 a1), (q55_1 a1), (17, (vI y7)), (18, (.val (.bool (decide (y7 < (a1.length : Int))))))]) (h := [(0, ⟨0, .live, false, [(.ro 1 y2.length (flat E_B y2)), (vI y3), (vI y4)]⟩), (159, ⟨8, .live, true, flat E_i y5⟩)]) (ep := 11) (by kernel_rfl) ?_
      refine .fin rfl ?_
      refine sqN ?_
      refine .seq ?_
      refine .cond (decide (y7 < (a1.length : Int))) rfl (fun hc8 => ?_) (fun hc8 => ?_)
      · have h := iT h hc8
        refine .skip ?_
        refine sqN ?_
        refine .seq ?_
        refine .block ?_
        refine .seq ?_
        refine .rgI rfl ?_
        obtain ⟨hb9, h⟩ := gS h
        refine .o tabOk rfl rfl rfl (q_idx E_i rfl rfl rfl rfl rfl rfl hb9) ?_
        refine .o tabOk rfl rfl rfl (q_ld0 E_i rfl rfl rfl hb9 rfl) ?_
        refine .seg tabOk 2 1 [0, 2, 3, 9, 10, 12, 15, 16, 17] [0, 159] (t := [(0, (.ptr (0, 0) 0)), (2, (vI a2)), (3, (vI a3)), (9, (.sref (159, 8) 0 y5.length 1)), (10, (vI y6)), (12, (vI (nth E_i a1 y7))), (q55_0 a1), (q55_1 a1), (17, (vI y7))]) (h := [(0, ⟨0, .live, false, [(.ro 1 y2.length (flat E_B y2)), (vI y3), (vI y4)]⟩), (159, ⟨8, .live, true, flat E_i y5⟩)]) (ep := 13) (by kernel_rfl) ?_
        refine .fin rfl ?_
        refine sqN ?_
        refine .seq ?_
        refine .rgD rfl ?_
        refine .seg tabOk 0 2 [0, 2, 3, 9, 10, 12, 15, 16, 17, 21, 22] [0, 159] (t := [(0, (.ptr (0, 0) 0)), (2, (vI a2)), (3, (vI a3)), (9, (.sref (159, 8) 0 y5.length 1)), (10, (vI y6)), (12, (vI (nth E_i a1 y7))), (q55_0 a1), (q55_1 a1), (17, (vI y7)), (21, (vI (nth E_i a1 y7))), (22, (vI a2))]) (h := [(0, ⟨0, .live, false, [(.ro 1 y2.length (flat E_B y2)), (vI y3), (vI y4)]⟩), (159, ⟨8, .live, true, flat E_i y5⟩)]) (ep := 14) (by kernel_rfl) ?_
        obtain ⟨hb10, h⟩ := gS h
        refine .o tabOk rfl rfl rfl (q_quo rfl rfl hb10) (a_quo rfl rfl hb10) rfl ?_
        refine .seg tabOk 3 4 [0, 2, 3, 9, 10, 15, 16, 17, 25, 26, 27] [0, 159] (t := [(0, (.ptr (0, 0) 0)), (2, (vI a2)), (3, (vI a3)), (9, (.sref (159, 8) 0 y5.length 1)), (10, (vI y6)), (q55_0 a1), (q55_1 a1), (17, (vI y7)), (25, (.val (.bool (decide ((Int.tmod (w64 (Int.tdiv (nth E_i a1 y7) a2)) 2) = 1))))), (26, (vI (nth E_i a1 y7))), (27, (vI a3))]) (h := [(0, ⟨0, .live, false, [(.ro 1 y2.length (flat E_B y2)), (vI y3), (vI y4)]⟩), (159, ⟨8, .live, true, flat E_i y5⟩)]) (ep := 14) (by kernel_rfl) ?_
        obtain ⟨hb11, h⟩ := gS h
        refine .o tabOk rfl rfl rfl (q_quo rfl rfl hb11) (a_quo rfl rfl hb11) rfl ?_
        refine .seg tabOk 8 4 [0, 2, 3, 9, 10, 13, 14, 15, 16, 17] [0, 159] (t := [(0, (.ptr (0, 0) 0)), (2, (vI a2)), (3, (vI a3)), (9, (.sref (159, 8) 0 y5.length 1)), (10, (vI y6)), (13, (.val (.bool (decide ((Int.tmod (w64 (Int.tdiv (nth E_i a1 y7) a2)) 2) = 1))))), (q55_2 a1 y7 a3), (q55_0 a1), (q55_1 a1), (17, (vI y7))]) (h := [(0, ⟨0, .live, false, [(.ro 1 y2.length (flat E_B y2)), (vI y3), (vI y4)]⟩), (159, ⟨8, .live, true, flat E_i y5⟩)]) (ep := 14) (by kernel_rfl) ?_
        refine .fin mixed [0, 2, 3, 9, 10, 13, 14, 15, 16, 17] [0, 159] (t := [(0, (.ptr (0, 0) 0)), (2, (vI a2)), (3, (vI a3)), (9, (.sref (159, 8) 0 y5.length 1)), (10, (vI y6)), (13, (.val (.bool (decide ((Int.tmod (w64 (Int.tdiv (nth E_i a1 y7) a2)) 2) = 1))))), (q55_2 a1 y7 a3), (q55_0 a1), (q55_1 a1), (17, (vI y7))]) (h := [(0, ⟨0, .live, false, [(.ro 1 y2.length (flat E_B y2)), (vI y3), (vI y4)]⟩), (159, ⟨8, .live, true, flat E_i y5⟩)]) (ep := 15) rfl (by kernel_rfl) rfl ?_
        refine sqN ?_
        refine .seq ?_
        refine .block ?_
        refine .seq ?_
        refine .join (fun s' => s' = ⟨[(0, (.ptr (0, 0) 0)), (2, (vI a2)), (3, (vI a3)), (9, (.sref (159, 8) 0 y5.length 1)), (10, (vI y6)), (13, (.val (.bool ((decide ((Int.tmod (w64 (Int.tdiv (nth E_i a1 y7) a2)) 2) = 1)) && true)))), (q55_2 a1 y7 a3), (q55_0 a1), (q55_1 a1), (17, (vI y7)), (31, (.val (.bool ((decide ((Int.tmod (w64 (Int.tdiv (nth E_i a1 y7) a2)) 2) = 1)) && (decide ((Int.tmod (w64 (Int.tdiv (nth E_i a1 y7) a3)) 2) = 1))))))], [(0, ⟨0, .live, false, [(.ro 1 y2.length (flat E_B y2)), (vI y3), (vI y4)]⟩), (159, ⟨8, .live, true, flat E_i y5⟩)], 19⟩) ?_ ?_
        · refine .rgI rfl ?_
          refine .seg tabOk 0 2 [0, 2, 3, 9, 10, 13, 14, 15, 16, 17, 33] [0, 159] (t := [(0, (.ptr (0, 0) 0)), (2, (vI a2)), (3, (vI a3)), (9, (.sref (159, 8) 0 y5.length 1)), (10, (vI y6)), (13, (.val (.bool (decide ((Int.tmod (w64 (Int.tdiv (nth E_i a1 y7) a2)) 2) = 1))))), (q55_2 a1 y7 a3), (q55_0 a1), (q55_1 a1), (17, (vI y7)), (33, (.val (.bool (decide ((Int.tmod (w64 (Int.tdiv (nth E_i a1 y7) a2)) 2) = 1)))))]) (h := [(0, ⟨0, .live, false, [(.ro 1 y2.length (flat E_B y2)), (vI y3), (vI y4)]⟩), (159, ⟨8, .live, true, flat E_i y5⟩)]) (ep := 17) (by kernel_rfl) ?_
          cases hB12 : (decide ((Int.tmod (w64 (Int.tdiv (nth E_i a1 y7) a2)) 2) = 1)) with
          | false =>
            skip
            refine .seg tabOk 2 3 [0, 2, 3, 9, 10, 13, 14, 15, 16, 17, 31] [0, 159] (t := [(0, (.ptr (0, 0) 0)), (2, (vI a2)), (3, (vI a3)), (9, (.sref (159, 8) 0 y5.length 1)), (10, (vI y6)), (13, (.val (.bool false))), (q55_2 a1 y7 a3), (q55_0 a1), (q55_1 a1), (17, (vI y7)), (31, (.val (.bool false)))]) (h := [(0, ⟨0, .live, false, [(.ro 1 y2.length (flat E_B y2)), (vI y3), (vI y4)]⟩), (159, ⟨8, .live, true, flat E_i y5⟩)]) (ep := 18) (by kernel_rfl) ?_
            refine .fin rfl ?_
            exact jkN (by exact .tn [((0, 0), (0, 0)), ((159, 8), (159, 8))] ⟨rfl, rfl, rfl, rfl, rfl, rfl, rfl, rfl, rfl, rfl, rfl, trivial⟩ ⟨rfl, ⟨_, rfl, rfl⟩, ⟨rfl, ⟨_, rfl, ah_row E_i⟩, trivial⟩⟩ rfl) rfl
          | true =>
            skip
            refine .seg tabOk 2 3 [0, 2, 3, 9, 10, 13, 14, 15, 16, 17, 31] [0, 159] (t := [(0, (.ptr (0, 0) 0)), (2, (vI a2)), (3, (vI a3)), (9, (.sref (159, 8) 0 y5.length 1)), (10, (vI y6)), (13, (.val (.bool true))), (q55_2 a1 y7 a3), (q55_0 a1), (q55_1 a1), (17, (vI y7)), (31, (.val (.bool (decide ((Int.tmod (w64 (Int.tdiv (nth E_i a1 y7) a3)) 2) = 1)))))]) (h := [(0, ⟨0, .live, false, [(.ro 1 y2.length (flat E_B y2)), (vI y3), (vI y4)]⟩), (159, ⟨8, .live, true, flat E_i y5⟩)]) (ep := 18) (by kernel_rfl) ?_
            refine .fin rfl ?_
            exact jkN (by exact .tn [((0, 0), (0, 0)), ((159, 8), (159, 8))] ⟨rfl, rfl, rfl, rfl, rfl, rfl, rfl, rfl, rfl, rfl, rfl, trivial⟩ ⟨rfl, ⟨_, rfl, rfl⟩, ⟨rfl, ⟨_, rfl, ah_row E_i⟩, trivial⟩⟩ rfl) rfl
        · rintro _ rfl
          refine sqN ?_
          obtain ⟨j23, hj23, h⟩ := ljS h
          refine .join (fun s' => ∃ x19 x20 x21 x22, s' = ⟨[(0, (.ptr (0, 0) 0)), (2, (vI a2)), (3, (vI a3)), (9, (.sref (159, 8) 0 y5.length 1)), (10, (vI x22)), (q55_0 a1), (q55_1 a1), (17, (vI y7))], [(0, ⟨0, .live, false, [(.ro 1 x19.length (flat E_B x19)), (vI x20), (vI x21)]⟩), (159, ⟨8, .live, true, flat E_i y5⟩)], 27⟩ ∧ j23 x19 x20 x21 x22 = some r) ?_ ?_
          · refine .cond ((decide ((Int.tmod (w64 (Int.tdiv (nth E_i a1 y7) a2)) 2) = 1)) && (decide ((Int.tmod (w64 (Int.tdiv (nth E_i a1 y7) a3)) 2) = 1))) rfl (fun hc13 => ?_) (fun hc13 => ?_)
            · have h := iT h hc13
              refine .rgI rfl ?_
              refine .seg tabOk 0 2 [0, 2, 3, 9, 15, 16, 17, 36, 37] [0, 159] (t := [(0, (.ptr (0, 0) 0)), (2, (vI a2)), (3, (vI a3)), (9, (.sref (159, 8) 0 y5.length 1)), (q55_0 a1), (q55_1 a1), (17, (vI y7)), (36, (vI y6)), (37, (.ptr (0, 0) 0))]) (h := [(0, ⟨0, .live, false, [(.ro 1 y2.length (flat E_B y2)), (vI y3), (vI y4)]⟩), (159, ⟨8, .live, true, flat E_i y5⟩)]) (ep := 21) (by kernel_rfl) ?_
              obtain ⟨v14, hv14, h⟩ := bS h
              refine .cc true rfl rfl (C_r07_reader_u _ _ _ _ hv14) ent_r07_reader_u rfl rfl rfl rfl (g_cons (g_pl rfl rfl) (g_cons (g_pl rfl rfl) g_nil)) rfl ?_
              refine .seg tabOk 3 2 [0, 2, 3, 9, 10, 15, 16, 17] [0, 159] (t := [(0, (.ptr (0, 0) 0)), (2, (vI a2)), (3, (vI a3)), (9, (.sref (159, 8) 0 y5.length 1)), (10, (vI (w64 (y6 + v14.1)))), (q55_0 a1), (q55_1 a1), (17, (vI y7))]) (h := [(0, ⟨0, .live, false, [(.ro 1 v14.2.f0.length (flat E_B v14.2.f0)), (vI v14.2.f1), (vI v14.2.f2)]⟩), (159, ⟨8, .live, true, flat E_i y5⟩)]) (ep := 22) (by kernel_rfl) ?_
              refine .fin rfl ?_
              exact jkN (by exact .tn [((0, 0), (0, 0)), ((159, 8), (159, 8))] ⟨rfl, rfl, rfl, rfl, rfl, rfl, rfl, rfl, trivial⟩ ⟨rfl, ⟨_, rfl, rfl⟩, ⟨rfl, ⟨_, rfl, ah_row E_i⟩, trivial⟩⟩ rfl) ⟨_, _, _, _, rfl, h⟩
            · have h := iF h hc13
              refine .seq ?_
              refine .rgI rfl ?_
              refine .seg tabOk 0 2 [0, 2, 3, 9, 10, 14, 15, 16, 17, 40] [0, 159] (t := [(0, (.ptr (0, 0) 0)), (2, (vI a2)), (3, (vI a3)), (9, (.sref (159, 8) 0 y5.length 1)), (10, (vI y6)), (q55_2 a1 y7 a3), (q55_0 a1), (q55_1 a1), (17, (vI y7)), (40, (.val (.bool ((decide ((Int.tmod (w64 (Int.tdiv (nth E_i a1 y7) a2)) 2) = 1)) && true))))]) (h := [(0, ⟨0, .live, false, [(.ro 1 y2.length (flat E_B y2)), (vI y3), (vI y4)]⟩), (159, ⟨8, .live, true, flat E_i y5⟩)]) (ep := 21) (by kernel_rfl) ?_
              refine .fin rfl ?_
              refine sqN ?_
              refine .cond ((decide ((Int.tmod (w64 (Int.tdiv (nth E_i a1 y7) a2)) 2) = 1)) && true) rfl (fun hc15 => ?_) (fun hc15 => ?_)
              · have h := iT h hc15
                refine .rgI rfl ?_
                refine .seg tabOk 0 2 [0, 2, 3, 9, 15, 16, 17, 42, 43] [0, 159] (t := [(0, (.ptr (0, 0) 0)), (2, (vI a2)), (3, (vI a3)), (9, (.sref (159, 8) 0 y5.length 1)), (q55_0 a1), (q55_1 a1), (17, (vI y7)), (42, (vI y6)), (43, (.ptr (0, 0) 0))]) (h := [(0, ⟨0, .live, false, [(.ro 1 y2.length (flat E_B y2)), (vI y3), (vI y4)]⟩), (159, ⟨8, .live, true, flat E_i y5⟩)]) (ep := 23) (by kernel_rfl) ?_
                obtain ⟨v16, hv16, h⟩ := bS h
                refine .cc true rfl rfl (C_r07_reader_u _ _ _ _ hv16) ent_r07_reader_u rfl rfl rfl rfl (g_cons (g_pl rfl rfl) (g_cons (g_pl rfl rfl) g_nil)) rfl ?_
                refine .seg tabOk 3 2 [0, 2, 3, 9, 10, 15, 16, 17] [0, 159] (t := [(0, (.ptr (0, 0) 0)), (2, (vI a2)), (3, (vI a3)), (9, (.sref (159, 8) 0 y5.length 1)), (10, (vI (w64 (y6 - v16.1)))), (q55_0 a1), (q55_1 a1), (17, (vI y7))]) (h := [(0, ⟨0, .live, false, [(.ro 1 v16.2.f0.length (flat E_B v16.2.f0)), (vI v16.2.f1), (vI v16.2.f2)]⟩), (159, ⟨8, .live, true, flat E_i y5⟩)]) (ep := 24) (by kernel_rfl) ?_
                refine .fin rfl ?_
                exact jkN (by exact .tn [((0, 0), (0, 0)), ((159, 8), (159, 8))] ⟨rfl, rfl, rfl, rfl, rfl, rfl, rfl, rfl, trivial⟩ ⟨rfl, ⟨_, rfl, rfl⟩, ⟨rfl, ⟨_, rfl, ah_row E_i⟩, trivial⟩⟩ rfl) ⟨_, _, _, _, rfl, h⟩
              · have h := iF h hc15
                refine .seq ?_
                refine .rgI rfl ?_
                refine .seg tabOk 0 3 [0, 2, 3, 9, 10, 15, 16, 17, 46] [0, 159] (t := [(0, (.ptr (0, 0) 0)), (2, (vI a2)), (3, (vI a3)), (9, (.sref (159, 8) 0 y5.length 1)), (10, (vI y6)), (q55_0 a1), (q55_1 a1), (17, (vI y7)), (46, (.val (.bool (!(decide ((Int.tmod (w64 (Int.tdiv (nth E_i a1 y7) a3)) 2) = 1))))))]) (h := [(0, ⟨0, .live, false, [(.ro 1 y2.length (flat E_B y2)), (vI y3), (vI y4)]⟩), (159, ⟨8, .live, true, flat E_i y5⟩)]) (ep := 23) (by kernel_rfl) ?_
                refine .fin rfl ?_
                refine sqN ?_
                refine .cond (!(decide ((Int.tmod (w64 (Int.tdiv (nth E_i a1 y7) a3)) 2) = 1))) rfl (fun hc17 => ?_) (fun hc17 => ?_)
                · have h := iT h hc17
                  refine .rgI rfl ?_
                  refine .seg tabOk 0 2 [0, 2, 3, 9, 15, 16, 17, 49, 50] [0, 159] (t := [(0, (.ptr (0, 0) 0)), (2, (vI a2)), (3, (vI a3)), (9, (.sref (159, 8) 0 y5.length 1)), (q55_0 a1), (q55_1 a1), (17, (vI y7)), (49, (vI y6)), (50, (.ptr (0, 0) 0))]) (h := [(0, ⟨0, .live, false, [(.ro 1 y2.length (flat E_B y2)), (vI y3), (vI y4)]⟩), (159, ⟨8, .live, true, flat E_i y5⟩)]) (ep := 25) (by kernel_rfl) ?_
                  obtain ⟨v18, hv18, h⟩ := bS h
                  refine .cc true rfl rfl (C_r07_reader_s _ _ _ hv18) ent_r07_reader_s rfl rfl rfl rfl (g_cons (g_pl rfl rfl) g_nil) rfl ?_
                  refine .seg tabOk 3 2 [0, 2, 3, 9, 10, 15, 16, 17] [0, 159] (t := [(0, (.ptr (0, 0) 0)), (2, (vI a2)), (3, (vI a3)), (9, (.sref (159, 8) 0 y5.length 1)), (10, (vI (w64 (y6 + v18.1)))), (q55_0 a1), (q55_1 a1), (17, (vI y7))]) (h := [(0, ⟨0, .live, false, [(.ro 1 v18.2.f0.length (flat E_B v18.2.f0)), (vI v18.2.f1), (vI v18.2.f2)]⟩), (159, ⟨8, .live, true, flat E_i y5⟩)]) (ep := 26) (by kernel_rfl) ?_
                  refine .fin rfl ?_
                  exact jkN (by exact .tn [((0, 0), (0, 0)), ((159, 8), (159, 8))] ⟨rfl, rfl, rfl, rfl, rfl, rfl, rfl, rfl, trivial⟩ ⟨rfl, ⟨_, rfl, rfl⟩, ⟨rfl, ⟨_, rfl, ah_row E_i⟩, trivial⟩⟩ rfl) ⟨_, _, _, _, rfl, h⟩
                · have h := iF h hc17
                  refine .skip ?_
                  exact jkN (by exact .tn [((0, 0), (0, 0)), ((159, 8), (159, 8))] ⟨rfl, rfl, rfl, rfl, rfl, rfl, rfl, rfl, trivial⟩ ⟨rfl, ⟨_, rfl, rfl⟩, ⟨rfl, ⟨_, rfl, ah_row E_i⟩, trivial⟩⟩ rfl) ⟨_, _, _, _, rfl, h⟩
          · rintro _ ⟨x19, x20, x21, x22, rfl, h⟩
            subst hj23
            refine bkN ?_
            refine sqN ?_
            refine .seq ?_
            refine .seq ?_
            refine .join (fun s' => s' = ⟨[(0, (.ptr (0, 0) 0)), (2, (vI a2)), (3, (vI a3)), (9, (.sref (159, 8) 0 y5.length 1)), (10, (vI x22)), (q55_0 a1), (q55_1 a1), (17, (vI y7)), (58, (.val (.bool ((decide (x22 < (-32768))) || (decide (32767 < x22))))))], [(0, ⟨0, .live, false, [(.ro 1 x19.length (flat E_B x19)), (vI x20), (vI x21)]⟩), (159, ⟨8, .live, true, flat E_i y5⟩)], 31⟩) ?_ ?_
            · refine .rgI rfl ?_
              refine .seg tabOk 0 3 [0, 2, 3, 9, 10, 15, 16, 17, 55] [0, 159] (t := [(0, (.ptr (0, 0) 0)), (2, (vI a2)), (3, (vI a3)), (9, (.sref (159, 8) 0 y5.length 1)), (10, (vI x22)), (q55_0 a1), (q55_1 a1), (17, (vI y7)), (55, (.val (.bool (decide (x22 < (-32768))))))]) (h := [(0, ⟨0, .live, false, [(.ro 1 x19.length (flat E_B x19)), (vI x20), (vI x21)]⟩), (159, ⟨8, .live, true, flat E_i y5⟩)]) (ep := 29) (by kernel_rfl) ?_
              cases hB24 : (decide (x22 < (-32768))) with
              | false =>
                skip
                refine .seg tabOk 3 3 [0, 2, 3, 9, 10, 15, 16, 17, 58] [0, 159] (t := [(0, (.ptr (0, 0) 0)), (2, (vI a2)), (3, (vI a3)), (9, (.sref (159, 8) 0 y5.length 1)), (10, (vI x22)), (q55_0 a1), (q55_1 a1), (17, (vI y7)), (58, (.val (.bool (decide (32767 < x22)))))]) (h := [(0, ⟨0, .live, false, [(.ro 1 x19.length (flat E_B x19)), (vI x20), (vI x21)]⟩), (159, ⟨8, .live, true, flat E_i y5⟩)]) (ep := 30) (by kernel_rfl) ?_
                refine .fin rfl ?_
                exact jkN (by exact .tn [((0, 0), (0, 0)), ((159, 8), (159, 8))] ⟨rfl, rfl, rfl, rfl, rfl, rfl, rfl, rfl, rfl, trivial⟩ ⟨rfl, ⟨_, rfl, rfl⟩, ⟨rfl, ⟨_, rfl, ah_row E_i⟩, trivial⟩⟩ rfl) rfl
              | true =>
                skip
                refine .seg tabOk 3 3 [0, 2, 3, 9, 10, 15, 16, 17, 58] [0, 159] (t := [(0, (.ptr (0, 0) 0)), (2, (vI a2)), (3, (vI a3)), (9, (.sref (159, 8) 0 y5.length 1)), (10, (vI x22)), (q55_0 a1), (q55_1 a1), (17, (vI y7)), (58, (.val (.bool true)))]) (h := [(0, ⟨0, .live, false, [(.ro 1 x19.length (flat E_B x19)), (vI x20), (vI x21)]⟩), (159, ⟨8, .live, true, flat E_i y5⟩)]) (ep := 30) (by kernel_rfl) ?_
                refine .fin rfl ?_
                exact jkN (by exact .tn [((0, 0), (0, 0)), ((159, 8), (159, 8))] ⟨rfl, rfl, rfl, rfl, rfl, rfl, rfl, rfl, rfl, trivial⟩ ⟨rfl, ⟨_, rfl, rfl⟩, ⟨rfl, ⟨_, rfl, ah_row E_i⟩, trivial⟩⟩ rfl) rfl
            · rintro _ rfl
              refine sqN ?_
              obtain ⟨j30, hj30, h⟩ := ljS h
              refine .join (fun s' => ∃ x27 x28 x29, s' = ⟨[(0, (.ptr (0, 0) 0)), (2, (vI a2)), (3, (vI a3)), (9, (.sref (159, 8) 0 y5.length 1)), (10, (vI x22)), (q55_0 a1), (q55_1 a1), (17, (vI y7))], [(0, ⟨0, .live, false, [(.ro 1 x27.length (flat E_B x27)), (vI x28), (vI x29)]⟩), (159, ⟨8, .live, true, flat E_i y5⟩)], 35⟩ ∧ j30 x27 x28 x29 = some r) ?_ ?_
              · refine .cond ((decide (x22 < (-32768))) || (decide (32767 < x22))) rfl (fun hc25 => ?_) (fun hc25 => ?_)
                · have h := iT h hc25
                  refine .rgI rfl ?_
                  refine .seg tabOk 0 1 [0, 2, 3, 9, 10, 15, 16, 17, 59] [0, 159] (t := [(0, (.ptr (0, 0) 0)), (2, (vI a2)), (3, (vI a3)), (9, (.sref (159, 8) 0 y5.length 1)), (10, (vI x22)), (q55_0 a1), (q55_1 a1), (17, (vI y7)), (59, (.ptr (0, 0) 0))]) (h := [(0, ⟨0, .live, false, [(.ro 1 x19.length (flat E_B x19)), (vI x20), (vI x21)]⟩), (159, ⟨8, .live, true, flat E_i y5⟩)]) (ep := 33) (by kernel_rfl) ?_
                  obtain ⟨v26, hv26, h⟩ := bS h
                  refine .cc true rfl rfl (C_r07_reader_fail _ _ _ _ hv26) ent_r07_reader_fail rfl rfl rfl rfl (g_cons (g_pl rfl rfl) (g_cons (g_pl rfl rfl) g_nil)) rfl ?_
                  refine .seg tabOk 2 0 [0, 2, 3, 9, 10, 15, 16, 17] [0, 159] (t := [(0, (.ptr (0, 0) 0)), (2, (vI a2)), (3, (vI a3)), (9, (.sref (159, 8) 0 y5.length 1)), (10, (vI x22)), (q55_0 a1), (q55_1 a1), (17, (vI y7))]) (h := [(0, ⟨0, .live, false, [(.ro 1 v26.f0.length (flat E_B v26.f0)), (vI v26.f1), (vI v26.f2)]⟩), (159, ⟨8, .live, true, flat E_i y5⟩)]) (ep := 34) (by kernel_rfl) ?_
                  refine .fin rfl ?_
                  exact jkN (by exact .tn [((0, 0), (0, 0)), ((159, 8), (159, 8))] ⟨rfl, rfl, rfl, rfl, rfl, rfl, rfl, rfl, trivial⟩ ⟨rfl, ⟨_, rfl, rfl⟩, ⟨rfl, ⟨_, rfl, ah_row E_i⟩, trivial⟩⟩ rfl) ⟨_, _, _, rfl, h⟩
                · have h := iF h hc25
                  refine .skip ?_
                  exact jkN (by exact .tn [((0, 0), (0, 0)), ((159, 8), (159, 8))] ⟨rfl, rfl, rfl, rfl, rfl, rfl, rfl, rfl, trivial⟩ ⟨rfl, ⟨_, rfl, rfl⟩, ⟨rfl, ⟨_, rfl, ah_row E_i⟩, trivial⟩⟩ rfl) ⟨_, _, _, rfl, h⟩
              · rintro _ ⟨x27, x28, x29, rfl, h⟩
                subst hj30
                refine sqN ?_
                refine .seq ?_
                refine .seq ?_
                refine .rgI rfl ?_
                refine .seg tabOk 0 5 [0, 2, 3, 9, 10, 15, 16, 17, 65] [0, 159] (t := [(0, (.ptr (0, 0) 0)), (2, (vI a2)), (3, (vI a3)), (9, (.sref (159, 8) 0 y5.length 1)), (10, (vI x22)), (q55_0 a1), (q55_1 a1), (17, (vI y7)), (65, (.val (.bool (!decide (x29 = 0)))))]) (h := [(0, ⟨0, .live, false, [(.ro 1 x27.length (flat E_B x27)), (vI x28), (vI x29)]⟩), (159, ⟨8, .live, true, flat E_i y5⟩)]) (ep := 37) (by kernel_rfl) ?_
                refine .fin rfl ?_
                refine sqN ?_
                refine .cond (!decide (x29 = 0)) rfl (fun hc31 => ?_) (fun hc31 => ?_)
                · have h := iT h hc31
                  refine .seq ?_
                  refine .rgI rfl ?_
                  refine .seg tabOk 0 1 [8] [0] (t := [(8, .nils)]) (h := [(0, ⟨0, .live, false, [(.ro 1 x27.length (flat E_B x27)), (vI x28), (vI x29)]⟩)]) (ep := 39) (by kernel_rfl) ?_
                  refine .fin rfl ?_
                  refine sqN ?_
                  refine .pre (.nilRow 8 1 143 rfl (fresh_none rfl)) ?_
                  refine .ret ?_
                  refine sqR ?_
                  refine bkR ?_
                  refine sqR ?_
                  refine jkR ?_
                  refine bkR ?_
                  refine jkR ?_
                  refine sqR ?_
                  injection h with h
                  subst h
                  exact ⟨.inr rfl, _, _, (f_cons (f_tmp rfl (o1_row E_i ([] : List Int) rfl rfl rfl rfl rfl)) f_nil), nd_of rfl, rfl, rfl⟩
                · have h := iF h hc31
                  refine .skip ?_
                  refine sqN ?_
                  refine .rgI rfl ?_
                  refine .seg tabOk 0 3 [0, 2, 3, 10, 15, 16, 17, 66, 68] [0, 159, 1088] (t := [(0, (.ptr (0, 0) 0)), (2, (vI a2)), (3, (vI a3)), (10, (vI x22)), (q55_0 a1), (q55_1 a1), (17, (vI y7)), (66, (.sref (159, 8) 0 y5.length 1)), (68, (.sref (1088, 38) 0 ([x22] : List Int).length 1))]) (h := [(0, ⟨0, .live, false, [(.ro 1 x27.length (flat E_B x27)), (vI x28), (vI x29)]⟩), (159, ⟨8, .live, true, flat E_i y5⟩), (1088, ⟨38, .live, true, flat E_i ([x22] : List Int)⟩)]) (ep := 39) (by kernel_rfl) ?_
                  obtain ⟨hb32, h⟩ := gS h
                  refine .oo tabOk rfl rfl rfl (q_app E_i (l := y5) rfl rfl rfl rfl rfl rfl rfl rfl rfl rfl rfl rfl rfl (.row ([x22] : List Int) rfl rfl rfl rfl) hb32) ?_
                  refine .seg tabOk 4 1 [0, 2, 3, 9, 10, 15, 16, 17] [0, 1104] (t := [(0, (.ptr (0, 0) 0)), (2, (vI a2)), (3, (vI a3)), (9, (.sref (1104, 39) 0 (y5 ++ ([x22] : List Int)).length 1)), (10, (vI x22)), (q55_0 a1), (q55_1 a1), (17, (vI y7))]) (h := [(0, ⟨0, .live, false, [(.ro 1 x27.length (flat E_B x27)), (vI x28), (vI x29)]⟩), (1104, ⟨39, .live, true, flat E_i (y5 ++ ([x22] : List Int))⟩)]) (ep := 40) (by kernel_rfl) ?_
                  refine .fin rfl ?_
                  refine bkN ?_
                  refine sqN ?_
                  refine .rgI rfl ?_
                  refine .seg tabOk 0 2 [0, 2, 3, 9, 10, 15, 16, 17] [0, 1104] (t := [(0, (.ptr (0, 0) 0)), (2, (vI a2)), (3, (vI a3)), (9, (.sref (1104, 39) 0 (y5 ++ ([x22] : List Int)).length 1)), (10, (vI x22)), (q55_0 a1), (q55_1 a1), (17, (vI (w64 (y7 + 1))))]) (h := [(0, ⟨0, .live, false, [(.ro 1 x27.length (flat E_B x27)), (vI x28), (vI x29)]⟩), (1104, ⟨39, .live, true, flat E_i (y5 ++ ([x22] : List Int))⟩)]) (ep := 42) (by kernel_rfl) ?_
                  refine .fin rfl ?_
                  exact jkN (by exact .tn [((0, 0), (0, 0)), ((1104, 39), (159, 8))] ⟨rfl, rfl, rfl, rfl, rfl, rfl, rfl, rfl, trivial⟩ ⟨rfl, ⟨_, rfl, rfl⟩, ⟨rfl, ⟨_, rfl, ah_row E_i⟩, trivial⟩⟩ rfl) ⟨n, (x27, x28, x29, (y5 ++ ([x22] : List Int)), x22, (w64 (y7 + 1))), Nat.lt_succ_self n, rfl, h⟩
      · have h := iF h hc8
        refine .exit ?_
        refine sqX ?_
        refine jkX ?_
        refine bkE ?_
        exact jkN (by exact .tn [((0, 0), (0, 0)), ((159, 8), (159, 11))] ⟨rfl, trivial⟩ ⟨rfl, ⟨_, rfl, rfl⟩, ⟨rfl, ⟨_, rfl, ah_row E_i⟩, trivial⟩⟩ rfl) ⟨_, _, _, _, rfl, h⟩
  · rintro _ ⟨x33, x34, x35, x36, rfl, h⟩
    subst hj1
    refine sqN ?_
    refine .seq ?_
    refine .rgI rfl ?_
    refine .seg tabOk 0 2 [8] [0, 159] (t := [(8, (.sref (159, 11) 0 x36.length 1))]) (h := [(0, ⟨0, .live, false, [(.ro 1 x33.length (flat E_B x33)), (vI x34), (vI x35)]⟩), (159, ⟨11, .live, true, flat E_i x36⟩)]) (ep := 14) (by kernel_rfl) ?_
    refine .fin rfl ?_
    refine sqN ?_
    refine .ret ?_
    injection h with h
    subst h
    exact ⟨.inr rfl, _, _, (f_cons (f_tmp rfl (o1_row E_i x36 rfl rfl rfl rfl rfl)) f_nil), nd_of rfl, rfl, rfl⟩
abbrev R_r07_Read := T_SLLSiibeLBe × Int
def L_r07_Read_0 (v3 : R_r07_reader_s) (j6 : (List Int) → Int → Int → (List Int) → Option R_r07_Read) : Nat → (List Int) → Int → Int → (List Int) → Int → Option R_r07_Read
  | 0, _, _, _, _, _ => none
  | n + 1, y7, y8, y9, y10, y11 =>
    if ((decide (y11 < v3.1)) && (decide (y9 = 0))) then
      Option.bind (F_r07_reader_u n (⟨y7, y8, y9⟩ : T_SLBiie) 2) fun v14 =>
      gd (fits (y10.length + ([v14.1] : List Int).length) 8 = true) <|
      L_r07_Read_0 v3 j6 n v14.2.f0 v14.2.f1 v14.2.f2 (y10 ++ ([v14.1] : List Int)) (w64 (y11 + 1))
    else
    j6 y7 y8 y9 y10
def L_r07_Read_1 (x19 : (List Int)) (j21 : Unit → Option R_r07_Read) : Nat → Int → Option R_r07_Read
  | 0, _ => none
  | n + 1, y22 =>
    if (decide (y22 < (x19.length : Int))) then
      lj (fun (x27 : Bool) =>
        if x27 then
          some ((⟨([] : List (List T_Siibe)), ([] : List Int)⟩ : T_SLLSiibeLBe), 12)
        else
        L_r07_Read_1 x19 j21 n (w64 (y22 + 1))) fun j28 =>
      if (decide (0 < y22)) then
        gd (0 ≤ y22 ∧ y22 < x19.length) <|
        gd (0 ≤ (w64 (y22 - 1)) ∧ (w64 (y22 - 1)) < x19.length) <|
        j28 (decide ((nth E_i x19 y22) ≤ (nth E_i x19 (w64 (y22 - 1)))))
      else
      j28 false
    else
    j21 ()
def L_r07_Read_2 (v32 : R_r07_reader_u) (j33 : (List Int) → Int → Int → (List Int) → Option R_r07_Read) : Nat → (List Int) → Int → Int → (List Int) → Int → Option R_r07_Read
  | 0, _, _, _, _, _ => none
  | n + 1, y34, y35, y36, y37, y38 =>
    if ((decide (y38 < v32.1)) && (decide (y36 = 0))) then
      Option.bind (F_r07_reader_u n (⟨y34, y35, y36⟩ : T_SLBiie) 1) fun v41 =>
      gd (fits (y37.length + ([(IntKind.wrap .u8 (v41.1))] : List Int).length) 1 = true) <|
      L_r07_Read_2 v32 j33 n v41.2.f0 v41.2.f1 v41.2.f2 (y37 ++ ([(IntKind.wrap .u8 (v41.1))] : List Int)) (w64 (y38 + 1))
    else
    j33 y34 y35 y36 y37
def L_r07_Read_4 (x19 : (List Int)) (v47 : R_r07_reader_flags) (v48 : R_r07_reader_steps) (v49 : R_r07_reader_steps) (y53 : Int) (j58 : (List T_Siibe) → Int → Option R_r07_Read) : Nat → (List T_Siibe) → Int → Option R_r07_Read
  | 0, _, _ => none
  | n + 1, y59, y60 =>
    if (decide (y60 ≤ (nth E_i x19 y53))) then
      gd (0 ≤ y60 ∧ y60 < v48.1.length) <|
      gd (0 ≤ y60 ∧ y60 < v49.1.length) <|
      gd (0 ≤ y60 ∧ y60 < v47.1.length) <|
      gd (fits (y59.length + ([(⟨(nth E_i v48.1 y60), (nth E_i v49.1 y60), (decide ((Int.tmod (nth E_i v47.1 y60) 2) = 1))⟩ : T_Siibe)] : List T_Siibe).length) 24 = true) <|
      L_r07_Read_4 x19 v47 v48 v49 y53 j58 n (y59 ++ ([(⟨(nth E_i v48.1 y60), (nth E_i v49.1 y60), (decide ((Int.tmod (nth E_i v47.1 y60) 2) = 1))⟩ : T_Siibe)] : List T_Siibe)) (w64 (y60 + 1))
    else
    j58 y59 y60
def L_r07_Read_3 (x19 : (List Int)) (v47 : R_r07_reader_flags) (v48 : R_r07_reader_steps) (v49 : R_r07_reader_steps) (j51 : (List (List T_Siibe)) → Option R_r07_Read) : Nat → (List (List T_Siibe)) → Int → Int → Option R_r07_Read
  | 0, _, _, _ => none
  | n + 1, y52, y53, y54 =>
    if (decide (y53 < (x19.length : Int))) then
      lj (fun (x69 : (List (List T_Siibe))) (x70 : Int) =>
        L_r07_Read_3 x19 v47 v48 v49 j51 n x69 (w64 (y53 + 1)) x70) fun j56 =>
      gd (0 ≤ y53 ∧ y53 < x19.length) <|
      lj (fun (x66 : (List T_Siibe)) (x67 : Int) =>
        gd (fits (y52.length + ([x66] : List (List T_Siibe)).length) 24 = true) <|
        j56 (y52 ++ ([x66] : List (List T_Siibe))) x67) fun j58 =>
      L_r07_Read_4 x19 v47 v48 v49 y53 j58 n ([] : List T_Siibe) y54
    else
    j51 y52
def F_r07_Read (n : Nat) (a0 : (List Int)) : Option R_r07_Read :=
  if (decide ((a0.length : Int) = 0)) then
    some ((⟨([] : List (List T_Siibe)), ([] : List Int)⟩ : T_SLLSiibeLBe), 0)
  else
  if (decide ((a0.length : Int) < 10)) then
    some ((⟨([] : List (List T_Siibe)), ([] : List Int)⟩ : T_SLLSiibeLBe), 3)
  else
  Option.bind (F_r07_reader_s n (⟨a0, 0, 0⟩ : T_SLBiie)) fun v3 =>
  if (decide (v3.1 < 0)) then
    some ((⟨([] : List (List T_Siibe)), ([] : List Int)⟩ : T_SLLSiibeLBe), 11)
  else
  if (decide (v3.1 = 0)) then
    some ((⟨([] : List (List T_Siibe)), ([] : List Int)⟩ : T_SLLSiibeLBe), 0)
  else
  lj (fun (x16 : (List Int)) (x17 : Int) (x18 : Int) (x19 : (List Int)) =>
    if (!decide (x18 = 0)) then
      some ((⟨([] : List (List T_Siibe)), ([] : List Int)⟩ : T_SLLSiibeLBe), x18)
    else
    lj (fun (_ : Unit) =>
      gd (0 ≤ (w64 (v3.1 - 1)) ∧ (w64 (v3.1 - 1)) < x19.length) <|
      if (decide (4096 < (w64 ((nth E_i x19 (w64 (v3.1 - 1))) + 1)))) then
        some ((⟨([] : List (List T_Siibe)), ([] : List Int)⟩ : T_SLLSiibeLBe), 7)
      else
      Option.bind (F_r07_reader_u n (⟨x16, x17, x18⟩ : T_SLBiie) 2) fun v32 =>
      lj (fun (x43 : (List Int)) (x44 : Int) (x45 : Int) (x46 : (List Int)) =>
        Option.bind (F_r07_reader_flags n (⟨x43, x44, x45⟩ : T_SLBiie) (w64 ((nth E_i x19 (w64 (v3.1 - 1))) + 1))) fun v47 =>
        Option.bind (F_r07_reader_steps n v47.2 v47.1 2 16) fun v48 =>
        Option.bind (F_r07_reader_steps n v48.2 v47.1 4 32) fun v49 =>
        if (!decide (v49.2.f2 = 0)) then
          some ((⟨([] : List (List T_Siibe)), ([] : List Int)⟩ : T_SLLSiibeLBe), v49.2.f2)
        else
        lj (fun (x71 : (List (List T_Siibe))) =>
          some ((⟨x71, x46⟩ : T_SLLSiibeLBe), 0)) fun j51 =>
        L_r07_Read_3 x19 v47 v48 v49 j51 n ([] : List (List T_Siibe)) 0 0) fun j33 =>
      L_r07_Read_2 v32 j33 n v32.2.f0 v32.2.f1 v32.2.f2 ([] : List Int) 0) fun j21 =>
    L_r07_Read_1 x19 j21 n 0) fun j6 =>
  L_r07_Read_0 v3 j6 n v3.2.f0 10 v3.2.f2 ([] : List Int) 0
abbrev q24_0 : Nat × Ob := (32, ⟨1, .live, false, [.nils, .nils]⟩)
abbrev q24_1 (x19 : (List Int)) : Nat × Ob := (111, ⟨26, .live, true, flat E_i x19⟩)
abbrev q24_2 (x16 : (List Int)) (x17 : Int) (x18 : Int) : Nat × Ob := (480, ⟨7, .live, false, [(.ro 1 x16.length (flat E_B x16)), (vI x17), (vI x18)]⟩)
abbrev q24_3 (x19 : (List Int)) : Nat × V := (6, (.sref (111, 26) 0 x19.length 1))
abbrev q24_4 (x46 : (List Int)) : Nat × Ob := (175, ⟨52, .live, true, flat E_B x46⟩)
abbrev q24_5 (v47 : R_r07_reader_flags) : Nat × V := (13, (.sref (1984, 55) 0 v47.1.length 1))
abbrev q24_6 (v47 : R_r07_reader_flags) : Nat × Ob := (1984, ⟨55, .froz, true, flat E_i v47.1⟩)
abbrev q24_7 (v48 : R_r07_reader_steps) : Nat × Ob := (2032, ⟨58, .live, true, flat E_i v48.1⟩)
abbrev q24_8 (v48 : R_r07_reader_steps) : Nat × V := (14, (.sref (2032, 58) 0 v48.1.length 1))
abbrev q24_9 (v49 : R_r07_reader_steps) : Nat × Ob := (2080, ⟨61, .live, true, flat E_i v49.1⟩)
abbrev q24_10 (v49 : R_r07_reader_steps) : Nat × V := (15, (.sref (2080, 61) 0 v49.1.length 1))
abbrev q24_11 (x19 : (List Int)) (v3 : R_r07_reader_s) : Nat × V := (9, (vI (w64 ((nth E_i x19 (w64 (v3.1 - 1))) + 1))))
abbrev q24_12 (x46 : (List Int)) : Nat × Ob := (160, ⟨41, .live, false, [.nils, (.sref (175, 52) 0 x46.length 1)]⟩)
abbrev q24_13 (x19 : (List Int)) : Nat × V := (141, (.sref (111, 26) 0 x19.length 1))
abbrev q24_14 (x19 : (List Int)) : Nat × V := (142, (vI (x19.length : Int)))
abbrev q24_15 (v41 : R_r07_reader_u) : Nat × Ob := (480, ⟨7, .live, false, [(.ro 1 v41.2.f0.length (flat E_B v41.2.f0)), (vI v41.2.f1), (vI v41.2.f2)]⟩)
abbrev q24_16 (x19 : (List Int)) : Nat × V := (70, (vI (x19.length : Int)))
abbrev q24_17 (v14 : R_r07_reader_u) : Nat × Ob := (480, ⟨7, .live, false, [(.ro 1 v14.2.f0.length (flat E_B v14.2.f0)), (vI v14.2.f1), (vI v14.2.f2)]⟩)
abbrev q24_18 (v49 : R_r07_reader_steps) : Nat × Ob := (480, ⟨7, .live, false, [(.ro 1 v49.2.f0.length (flat E_B v49.2.f0)), (vI v49.2.f1), (vI v49.2.f2)]⟩)
abbrev q24_19 (v48 : R_r07_reader_steps) (y60 : Int) (v49 : R_r07_reader_steps) (v47 : R_r07_reader_flags) : Nat × Ob := (2688, ⟨79, .live, true, flat E_Siibe ([(⟨(nth E_i v48.1 y60), (nth E_i v49.1 y60), (decide ((Int.tmod (nth E_i v47.1 y60) 2) = 1))⟩ : T_Siibe)] : List T_Siibe)⟩)
abbrev q24_20 (v3 : R_r07_reader_s) : Nat × Ob := (480, ⟨7, .live, false, [(.ro 1 v3.2.f0.length (flat E_B v3.2.f0)), (vI v3.2.f1), (vI v3.2.f2)]⟩)
abbrev q24_21 (v3 : R_r07_reader_s) : Nat × Ob := (480, ⟨7, .live, false, [(.ro 1 v3.2.f0.length (flat E_B v3.2.f0)), (vI 10), (vI v3.2.f2)]⟩)
abbrev q24_22 (v32 : R_r07_reader_u) : Nat × Ob := (480, ⟨7, .live, false, [(.ro 1 v32.2.f0.length (flat E_B v32.2.f0)), (vI v32.2.f1), (vI v32.2.f2)]⟩)
abbrev q24_23 (v47 : R_r07_reader_flags) : Nat × Ob := (480, ⟨7, .live, false, [(.ro 1 v47.2.f0.length (flat E_B v47.2.f0)), (vI v47.2.f1), (vI v47.2.f2)]⟩)
abbrev q24_24 (v48 : R_r07_reader_steps) : Nat × Ob := (480, ⟨7, .live, false, [(.ro 1 v48.2.f0.length (flat E_B v48.2.f0)), (vI v48.2.f1), (vI v48.2.f2)]⟩)
abbrev q24_25 : Nat × Ob := (160, ⟨41, .live, false, [.nils, .nils]⟩)
abbrev q24_26 (v41 : R_r07_reader_u) : Nat × Ob := (1904, ⟨53, .live, true, flat E_B ([(IntKind.wrap .u8 (v41.1))] : List Int)⟩)
theorem C_r07_Read (n : Nat) (a0 : (List Int)) (r : R_r07_Read) (h : F_r07_Read n a0 = some r) : CallS Try.prog 24 [(.ro 1 a0.length (flat E_B a0))] (.tup [(.agg [(.own 1 r.1.f0.length (flat E_LSiibe r.1.f0)), (.own 1 r.1.f1.length (flat E_B r.1.f1))]), (vI r.2)]) [none] := by
  refine CallS.introK tabOk Try.func24 rfl Try.ntmps24 (Nat.le_of_ble_eq_true rfl) ?_
  rw [F_r07_Read] at h
  refine .seq ?_
  refine .rgI rfl ?_
  refine .seg tabOk 0 2 [0, 2] [32] (t := [(0, (.ro 1 a0.length (flat E_B a0))), (2, (.ptr (32, 1) 0))]) (h := [q24_0]) (ep := 2) (by kernel_rfl) ?_
  refine .fin rfl ?_
  refine sqN ?_
  refine .seq ?_
  refine .seq ?_
  refine .rgI rfl ?_
  refine .seg tabOk 0 3 [0, 2, 22] [32] (t := [(0, (.ro 1 a0.length (flat E_B a0))), (2, (.ptr (32, 1) 0)), (22, (.val (.bool (decide ((a0.length : Int) = 0)))))]) (h := [q24_0]) (ep := 4) (by kernel_rfl) ?_
  refine .fin rfl ?_
  refine sqN ?_
  refine .cond (decide ((a0.length : Int) = 0)) rfl (fun hc1 => ?_) (fun hc1 => ?_)
  · have h := iT h hc1
    refine .seq ?_
    refine .rgI rfl ?_
    refine .seg tabOk 0 3 [2, 3] [32] (t := [(2, (.ptr (32, 1) 0)), (3, (vI 0))]) (h := [q24_0]) (ep := 6) (by kernel_rfl) ?_
    refine .fin rfl ?_
    refine sqN ?_
    refine .pre (.nilRowO (32, 1) _ 0 47 1 rfl rfl rfl rfl (fresh_none rfl) (by decide)) ?_
    refine .pre (.nilRowO (32, 1) _ 1 46 1 rfl rfl rfl rfl (fresh_none rfl) (by decide)) ?_
    refine .ret ?_
    refine sqR ?_
    injection h with h
    subst h
    exact ⟨.inr rfl, _, _, (f_cons (f_mem rfl (o_agg (ol_cons (o1_row E_LSiibe ([] : List (List T_Siibe)) rfl rfl rfl rfl rfl) (ol_cons (o1_row E_B ([] : List Int) rfl rfl rfl rfl rfl) ol_nil)))) (f_cons rfl f_nil)), nd_of rfl, rfl, rfl⟩
  · have h := iF h hc1
    refine .skip ?_
    refine sqN ?_
    refine .seq ?_
    refine .seq ?_
    refine .rgI rfl ?_
    refine .seg tabOk 0 3 [0, 2, 26] [32] (t := [(0, (.ro 1 a0.length (flat E_B a0))), (2, (.ptr (32, 1) 0)), (26, (.val (.bool (decide ((a0.length : Int) < 10)))))]) (h := [q24_0]) (ep := 6) (by kernel_rfl) ?_
    refine .fin rfl ?_
    refine sqN ?_
    refine .cond (decide ((a0.length : Int) < 10)) rfl (fun hc2 => ?_) (fun hc2 => ?_)
    · have h := iT h hc2
      refine .seq ?_
      refine .rgI rfl ?_
      refine .seg tabOk 0 3 [2, 3] [32] (t := [(2, (.ptr (32, 1) 0)), (3, (vI 3))]) (h := [q24_0]) (ep := 8) (by kernel_rfl) ?_
      refine .fin rfl ?_
      refine sqN ?_
      refine .pre (.nilRowO (32, 1) _ 0 47 1 rfl rfl rfl rfl (fresh_none rfl) (by decide)) ?_
      refine .pre (.nilRowO (32, 1) _ 1 46 1 rfl rfl rfl rfl (fresh_none rfl) (by decide)) ?_
      refine .ret ?_
      refine sqR ?_
      injection h with h
      subst h
      exact ⟨.inr rfl, _, _, (f_cons (f_mem rfl (o_agg (ol_cons (o1_row E_LSiibe ([] : List (List T_Siibe)) rfl rfl rfl rfl rfl) (ol_cons (o1_row E_B ([] : List Int) rfl rfl rfl rfl rfl) ol_nil)))) (f_cons rfl f_nil)), nd_of rfl, rfl, rfl⟩
    · have h := iF h hc2
      refine .skip ?_
      refine sqN ?_
      refine .seq ?_
      refine .rgI rfl ?_
      refine .seg tabOk 0 4 [2, 4] [32, 480] (t := [(2, (.ptr (32, 1) 0)), (4, (.ptr (480, 7) 0))]) (h := [q24_0, (480, ⟨7, .live, false, [(.ro 1 a0.length (flat E_B a0)), (vI 0), (vI 0)]⟩)]) (ep := 8) (by kernel_rfl) ?_
      refine .fin rfl ?_
      refine sqN ?_
      refine .seq ?_
      refine .rgI rfl ?_
      refine .seg tabOk 0 1 [2, 4, 31] [32, 480] (t := [(2, (.ptr (32, 1) 0)), (4, (.ptr (480, 7) 0)), (31, (.ptr (480, 7) 0))]) (h := [q24_0, (480, ⟨7, .live, false, [(.ro 1 a0.length (flat E_B a0)), (vI 0), (vI 0)]⟩)]) (ep := 10) (by kernel_rfl) ?_
      obtain ⟨v3, hv3, h⟩ := bS h
      refine .cc true rfl rfl (C_r07_reader_s _ _ _ hv3) ent_r07_reader_s rfl rfl rfl rfl (g_cons (g_pl rfl rfl) g_nil) rfl ?_
      refine .seg tabOk 2 1 [2, 4, 5] [32, 480] (t := [(2, (.ptr (32, 1) 0)), (4, (.ptr (480, 7) 0)), (5, (vI v3.1))]) (h := [q24_0, (q24_20 v3)]) (ep := 11) (by kernel_rfl) ?_
      refine .fin rfl ?_
      refine sqN ?_
      refine .seq ?_
      refine .seq ?_
      refine .rgI rfl ?_
      refine .seg tabOk 0 2 [2, 4, 5, 34] [32, 480] (t := [(2, (.ptr (32, 1) 0)), (4, (.ptr (480, 7) 0)), (5, (vI v3.1)), (34, (.val (.bool (decide (v3.1 < 0)))))]) (h := [q24_0, (q24_20 v3)]) (ep := 13) (by kernel_rfl) ?_
      refine .fin rfl ?_
      refine sqN ?_
      refine .cond (decide (v3.1 < 0)) rfl (fun hc4 => ?_) (fun hc4 => ?_)
      · have h := iT h hc4
        refine .seq ?_
        refine .rgI rfl ?_
        refine .seg tabOk 0 3 [2, 3] [32] (t := [(2, (.ptr (32, 1) 0)), (3, (vI 11))]) (h := [q24_0]) (ep := 15) (by kernel_rfl) ?_
        refine .fin rfl ?_
        refine sqN ?_
        refine .pre (.nilRowO (32, 1) _ 0 47 1 rfl rfl rfl rfl (fresh_none rfl) (by decide)) ?_
        refine .pre (.nilRowO (32, 1) _ 1 46 1 rfl rfl rfl rfl (fresh_none rfl) (by decide)) ?_
        refine .ret ?_
        refine sqR ?_
        injection h with h
        subst h
        exact ⟨.inr rfl, _, _, (f_cons (f_mem rfl (o_agg (ol_cons (o1_row E_LSiibe ([] : List (List T_Siibe)) rfl rfl rfl rfl rfl) (ol_cons (o1_row E_B ([] : List Int) rfl rfl rfl rfl rfl) ol_nil)))) (f_cons rfl f_nil)), nd_of rfl, rfl, rfl⟩
      · have h := iF h hc4
        refine .skip ?_
        refine sqN ?_
        refine .seq ?_
        refine .seq ?_
        refine .rgI rfl ?_
        refine .seg tabOk 0 2 [2, 4, 5, 37] [32, 480] (t := [(2, (.ptr (32, 1) 0)), (4, (.ptr (480, 7) 0)), (5, (vI v3.1)), (37, (.val (.bool (decide (v3.1 = 0)))))]) (h := [q24_0, (q24_20 v3)]) (ep := 15) (by kernel_rfl) ?_
        refine .fin rfl ?_
        refine sqN ?_
        refine .cond (decide (v3.1 = 0)) rfl (fun hc5 => ?_) (fun hc5 => ?_)
        · have h := iT h hc5
          refine .seq ?_
          refine .rgI rfl ?_
          refine .seg tabOk 0 3 [2, 3] [32] (t := [(2, (.ptr (32, 1) 0)), (3, (vI 0))]) (h := [q24_0]) (ep := 17) (by kernel_rfl) ?_
          refine .fin rfl ?_
          refine sqN ?_
          refine .pre (.nilRowO (32, 1) _ 0 47 1 rfl rfl rfl rfl (fresh_none rfl) (by decide)) ?_
          refine .pre (.nilRowO (32, 1) _ 1 46 1 rfl rfl rfl rfl (fresh_none rfl) (by decide)) ?_
          refine .ret ?_
          refine sqR ?_
          injection h with h
          subst h
          exact ⟨.inr rfl, _, _, (f_cons (f_mem rfl (o_agg (ol_cons (o1_row E_LSiibe ([] : List (List T_Siibe)) rfl rfl rfl rfl rfl) (ol_cons (o1_row E_B ([] : List Int) rfl rfl rfl rfl rfl) ol_nil)))) (f_cons rfl f_nil)), nd_of rfl, rfl, rfl⟩
        · have h := iF h hc5
          refine .skip ?_
          refine sqN ?_
          refine .seq ?_
          refine .rgI rfl ?_
          refine .seg tabOk 0 4 [2, 4, 5] [32, 480] (t := [(2, (.ptr (32, 1) 0)), (4, (.ptr (480, 7) 0)), (5, (vI v3.1))]) (h := [q24_0, (q24_21 v3)]) (ep := 17) (by kernel_rfl) ?_
          refine .fin rfl ?_
          refine sqN ?_
          refine .seq ?_
          refine .rgI rfl ?_
          refine .seg tabOk 0 1 [2, 4, 5, 6] [32, 480] (t := [(2, (.ptr (32, 1) 0)), (4, (.ptr (480, 7) 0)), (5, (vI v3.1)), (6, .nils)]) (h := [q24_0, (q24_21 v3)]) (ep := 19) (by kernel_rfl) ?_
          refine .fin rfl ?_
          refine sqN ?_
          refine .seq ?_
          refine .seq ?_
          refine .rgI rfl ?_
          refine .seg tabOk 0 1 [2, 4, 5, 6, 7] [32, 480] (t := [(2, (.ptr (32, 1) 0)), (4, (.ptr (480, 7) 0)), (5, (vI v3.1)), (6, .nils), (7, (vI 0))]) (h := [q24_0, (q24_21 v3)]) (ep := 21) (by kernel_rfl) ?_
          refine .fin rfl ?_
          refine sqN ?_
          obtain ⟨j6, hj6, h⟩ := ljS h
          refine .join (fun s' => ∃ x16 x17 x18 x19, s' = ⟨[(2, (.ptr (32, 1) 0)), (4, (.ptr (480, 7) 0)), (5, (vI v3.1)), (q24_3 x19)], [q24_0, (q24_1 x19), (q24_2 x16 x17 x18)], 27⟩ ∧ j6 x16 x17 x18 x19 = some r) ?_ ?_
          · refine .block ?_
            refine .loopF (β := (List Int) × Int × Int × (List Int) × Int) (fun v => ⟨[(2, (.ptr (32, 1) 0)), (4, (.ptr (480, 7) 0)), (5, (vI v3.1)), (6, (.sref (111, 21) 0 v.2.2.2.1.length 1)), (7, (vI v.2.2.2.2))], [q24_0, (111, ⟨21, .live, true, flat E_i v.2.2.2.1⟩), (480, ⟨7, .live, false, [(.ro 1 v.1.length (flat E_B v.1)), (vI v.2.1), (vI v.2.2.1)]⟩)], 22⟩) (fun m v => L_r07_Read_0 v3 j6 m v.1 v.2.1 v.2.2.1 v.2.2.2.1 v.2.2.2.2 = some r) n (v3.2.f0, 10, v3.2.f2, ([] : List Int), 0) (by exact .trans (.nilRow 6 1 111 rfl (fresh_none rfl)) (.tn [((32, 1), (32, 1)), ((111, 21), (111, 21)), ((480, 7), (480, 7))] ⟨rfl, rfl, rfl, rfl, rfl, trivial⟩ ⟨rfl, ⟨_, rfl, rfl⟩, ⟨rfl, ⟨_, rfl, ah_row E_i⟩, ⟨rfl, ⟨_, rfl, rfl⟩, trivial⟩⟩⟩ rfl)) h ?_
            rintro m ⟨y7, y8, y9, y10, y11⟩ h
            cases m with
            | zero => exact nomatch h
            | succ n =>
              rw [L_r07_Read_0] at h
              refine .seq ?_
              refine .seq ?_
              refine .join (fun s' => s' = ⟨[(2, (.ptr (32, 1) 0)), (4, (.ptr (480, 7) 0)), (5, (vI v3.1)), (6, (.sref (111, 21) 0 y10.length 1)), (7, (vI y11)), (51, (.val (.bool ((decide (y11 < v3.1)) && (decide (y9 = 0))))))], [q24_0, (111, ⟨21, .live, true, flat E_i y10⟩), (480, ⟨7, .live, false, [(.ro 1 y7.length (flat E_B y7)), (vI y8), (vI y9)]⟩)], 26⟩) ?_ ?_
              · refine .rgI rfl ?_
                refine .seg tabOk 0 4 [2, 4, 5, 6, 7, 45] [32, 111, 480] (t := [(2, (.ptr (32, 1) 0)), (4, (.ptr (480, 7) 0)), (5, (vI v3.1)), (6, (.sref (111, 21) 0 y10.length 1)), (7, (vI y11)), (45, (.val (.bool (decide (y11 < v3.1)))))]) (h := [q24_0, (111, ⟨21, .live, true, flat E_i y10⟩), (480, ⟨7, .live, false, [(.ro 1 y7.length (flat E_B y7)), (vI y8), (vI y9)]⟩)]) (ep := 24) (by kernel_rfl) ?_
                cases hB12 : (decide (y11 < v3.1)) with
                | false =>
                  skip
                  refine .seg tabOk 4 6 [2, 4, 5, 6, 7, 51] [32, 111, 480] (t := [(2, (.ptr (32, 1) 0)), (4, (.ptr (480, 7) 0)), (5, (vI v3.1)), (6, (.sref (111, 21) 0 y10.length 1)), (7, (vI y11)), (51, (.val (.bool false)))]) (h := [q24_0, (111, ⟨21, .live, true, flat E_i y10⟩), (480, ⟨7, .live, false, [(.ro 1 y7.length (flat E_B y7)), (vI y8), (vI y9)]⟩)]) (ep := 25) (by kernel_rfl) ?_
                  refine .fin rfl ?_
                  exact jkN (by exact .tn [((32, 1), (32, 1)), ((111, 21), (111, 21)), ((480, 7), (480, 7))] ⟨rfl, rfl, rfl, rfl, rfl, rfl, trivial⟩ ⟨rfl, ⟨_, rfl, rfl⟩, ⟨rfl, ⟨_, rfl, ah_row E_i⟩, ⟨rfl, ⟨_, rfl, rfl⟩, trivial⟩⟩⟩ rfl) rfl
                | true =>
                  skip
                  refine .seg tabOk 4 6 [2, 4, 5, 6, 7, 51] [32, 111, 480] (t := [(2, (.ptr (32, 1) 0)), (4, (.ptr (480, 7) 0)), (5, (vI v3.1)), (6, (.sref (111, 21) 0 y10.length 1)), (7, (vI y11)), (51, (.val (.bool (decide (y9 = 0)))))]) (h := [q24_0, (111, ⟨21, .live, true, flat E_i y10⟩), (480, ⟨7, .live, false, [(.ro 1 y7.length (flat E_B y7)), (vI y8), (vI y9)]⟩)]) (ep := 25) (by kernel_rfl) ?_
                  refine .fin rfl ?_
                  exact jkN (by exact .tn [((32, 1), (32, 1)), ((111, 21), (111, 21)), ((480, 7), (480, 7))] ⟨rfl, rfl, rfl, rfl, rfl, rfl, trivial⟩ ⟨rfl, ⟨_, rfl, rfl⟩, ⟨rfl, ⟨_, rfl, ah_row E_i⟩, ⟨rfl, ⟨_, rfl, rfl⟩, trivial⟩⟩⟩ rfl) rfl
              · rintro _ rfl
                refine sqN ?_
                refine .cond ((decide (y11 < v3.1)) && (decide (y9 = 0))) rfl (fun hc13 => ?_) (fun hc13 => ?_)
                · have h := iT h hc13
                  refine .skip ?_
                  refine sqN ?_
                  refine .seq ?_
                  refine .block ?_
                  refine .rgI rfl ?_
                  refine .seg tabOk 0 2 [2, 4, 5, 7, 54, 55] [32, 111, 480] (t := [(2, (.ptr (32, 1) 0)), (4, (.ptr (480, 7) 0)), (5, (vI v3.1)), (7, (vI y11)), (54, (.sref (111, 21) 0 y10.length 1)), (55, (.ptr (480, 7) 0))]) (h := [q24_0, (111, ⟨21, .live, true, flat E_i y10⟩), (480, ⟨7, .live, false, [(.ro 1 y7.length (flat E_B y7)), (vI y8), (vI y9)]⟩)]) (ep := 28) (by kernel_rfl) ?_
                  obtain ⟨v14, hv14, h⟩ := bS h
                  refine .cc true rfl rfl (C_r07_reader_u _ _ _ _ hv14) ent_r07_reader_u rfl rfl rfl rfl (g_cons (g_pl rfl rfl) (g_cons (g_pl rfl rfl) g_nil)) rfl ?_
                  refine .seg tabOk 3 1 [2, 4, 5, 7, 54, 57] [32, 111, 480, 912] (t := [(2, (.ptr (32, 1) 0)), (4, (.ptr (480, 7) 0)), (5, (vI v3.1)), (7, (vI y11)), (54, (.sref (111, 21) 0 y10.length 1)), (57, (.sref (912, 28) 0 ([v14.1] : List Int).length 1))]) (h := [q24_0, (111, ⟨21, .live, true, flat E_i y10⟩), (q24_17 v14), (912, ⟨28, .live, true, flat E_i ([v14.1] : List Int)⟩)]) (ep := 29) (by kernel_rfl) ?_
                  obtain ⟨hb15, h⟩ := gS h
                  refine .oo tabOk rfl rfl rfl (q_app E_i (l := y10) rfl rfl rfl rfl rfl rfl rfl rfl rfl rfl rfl rfl rfl (.row ([v14.1] : List Int) rfl rfl rfl rfl) hb15) ?_
                  refine .seg tabOk 5 1 [2, 4, 5, 6, 7] [32, 480, 928] (t := [(2, (.ptr (32, 1) 0)), (4, (.ptr (480, 7) 0)), (5, (vI v3.1)), (6, (.sref (928, 29) 0 (y10 ++ ([v14.1] : List Int)).length 1)), (7, (vI y11))]) (h := [q24_0, (q24_17 v14), (928, ⟨29, .live, true, flat E_i (y10 ++ ([v14.1] : List Int))⟩)]) (ep := 30) (by kernel_rfl) ?_
                  refine .fin rfl ?_
                  refine bkN ?_
                  refine sqN ?_
                  refine .rgI rfl ?_
                  refine .seg tabOk 0 3 [2, 4, 5, 6, 7] [32, 480, 928] (t := [(2, (.ptr (32, 1) 0)), (4, (.ptr (480, 7) 0)), (5, (vI v3.1)), (6, (.sref (928, 29) 0 (y10 ++ ([v14.1] : List Int)).length 1)), (7, (vI (w64 (y11 + 1))))]) (h := [q24_0, (q24_17 v14), (928, ⟨29, .live, true, flat E_i (y10 ++ ([v14.1] : List Int))⟩)]) (ep := 32) (by kernel_rfl) ?_
                  refine .fin rfl ?_
                  exact jkN (by exact .tn [((32, 1), (32, 1)), ((928, 29), (111, 21)), ((480, 7), (480, 7))] ⟨rfl, rfl, rfl, rfl, rfl, trivial⟩ ⟨rfl, ⟨_, rfl, rfl⟩, ⟨rfl, ⟨_, rfl, ah_row E_i⟩, ⟨rfl, ⟨_, rfl, rfl⟩, trivial⟩⟩⟩ rfl) ⟨n, (v14.2.f0, v14.2.f1, v14.2.f2, (y10 ++ ([v14.1] : List Int)), (w64 (y11 + 1))), Nat.lt_succ_self n, rfl, h⟩
                · have h := iF h hc13
                  refine .exit ?_
                  refine sqX ?_
                  refine jkX ?_
                  refine bkE ?_
                  exact jkN (by exact .tn [((32, 1), (32, 1)), ((111, 21), (111, 26)), ((480, 7), (480, 7))] ⟨rfl, rfl, rfl, rfl, trivial⟩ ⟨rfl, ⟨_, rfl, rfl⟩, ⟨rfl, ⟨_, rfl, ah_row E_i⟩, ⟨rfl, ⟨_, rfl, rfl⟩, trivial⟩⟩⟩ rfl) ⟨_, _, _, _, rfl, h⟩
          · rintro _ ⟨x16, x17, x18, x19, rfl, h⟩
            subst hj6
            refine sqN ?_
            refine .seq ?_
            refine .seq ?_
            refine .rgI rfl ?_
            refine .seg tabOk 0 5 [2, 4, 5, 6, 63] [32, 111, 480] (t := [(2, (.ptr (32, 1) 0)), (4, (.ptr (480, 7) 0)), (5, (vI v3.1)), (q24_3 x19), (63, (.val (.bool (!decide (x18 = 0)))))]) (h := [q24_0, (q24_1 x19), (q24_2 x16 x17 x18)]) (ep := 29) (by kernel_rfl) ?_
            refine .fin rfl ?_
            refine sqN ?_
            refine .cond (!decide (x18 = 0)) rfl (fun hc20 => ?_) (fun hc20 => ?_)
            · have h := iT h hc20
              refine .seq ?_
              refine .rgD rfl ?_
              refine .seg tabOk 0 7 [2, 3] [32, 111, 480] (t := [(2, (.ptr (32, 1) 0)), (3, (vI x18))]) (h := [q24_0, (q24_1 x19), (q24_2 x16 x17 x18)]) (ep := 30) (by kernel_rfl) ?_
              refine .fin mixed [2, 3] [32] (t := [(2, (.ptr (32, 1) 0)), (3, (vI x18))]) (h := [q24_0]) (ep := 31) rfl (by kernel_rfl) rfl ?_
              refine sqN ?_
              refine .pre (.nilRowO (32, 1) _ 0 47 1 rfl rfl rfl rfl (fresh_none rfl) (by decide)) ?_
              refine .pre (.nilRowO (32, 1) _ 1 46 1 rfl rfl rfl rfl (fresh_none rfl) (by decide)) ?_
              refine .ret ?_
              refine sqR ?_
              injection h with h
              subst h
              exact ⟨.inr rfl, _, _, (f_cons (f_mem rfl (o_agg (ol_cons (o1_row E_LSiibe ([] : List (List T_Siibe)) rfl rfl rfl rfl rfl) (ol_cons (o1_row E_B ([] : List Int) rfl rfl rfl rfl rfl) ol_nil)))) (f_cons rfl f_nil)), nd_of rfl, rfl, rfl⟩
            · have h := iF h hc20
              refine .skip ?_
              refine sqN ?_
              refine .seq ?_
              refine .seq ?_
              refine .rgI rfl ?_
              refine .seg tabOk 0 3 [2, 4, 5, 6, 70, 71] [32, 111, 480] (t := [(2, (.ptr (32, 1) 0)), (4, (.ptr (480, 7) 0)), (5, (vI v3.1)), (q24_3 x19), (q24_16 x19), (71, (vI 0))]) (h := [q24_0, (q24_1 x19), (q24_2 x16 x17 x18)]) (ep := 31) (by kernel_rfl) ?_
              refine .fin rfl ?_
              refine sqN ?_
              obtain ⟨j21, hj21, h⟩ := ljS h
              refine .join (fun s' => s' = ⟨[(2, (.ptr (32, 1) 0)), (4, (.ptr (480, 7) 0)), (5, (vI v3.1)), (q24_3 x19)], [q24_0, (q24_1 x19), (q24_2 x16 x17 x18)], 35⟩ ∧ j21 () = some r) ?_ ?_
              · refine .block ?_
                refine .loopF (β := Int) (fun v => ⟨[(2, (.ptr (32, 1) 0)), (4, (.ptr (480, 7) 0)), (5, (vI v3.1)), (q24_3 x19), (q24_16 x19), (71, (vI v))], [q24_0, (q24_1 x19), (q24_2 x16 x17 x18)], 32⟩) (fun m v => L_r07_Read_1 x19 j21 m v = some r) n 0 (by exact .tn [((32, 1), (32, 1)), ((111, 26), (111, 26)), ((480, 7), (480, 7))] ⟨rfl, rfl, rfl, rfl, rfl, rfl, trivial⟩ ⟨rfl, ⟨_, rfl, rfl⟩, ⟨rfl, ⟨_, rfl, ah_row E_i⟩, ⟨rfl, ⟨_, rfl, rfl⟩, trivial⟩⟩⟩ rfl) h ?_
                rintro m y22 h
                cases m with
                | zero => exact nomatch h
                | succ n =>
                  rw [L_r07_Read_1] at h
                  refine .seq ?_
                  refine .rgI rfl ?_
                  refine .seg tabOk 0 1 [2, 4, 5, 6, 70, 71, 72] [32, 111, 480] (t := [(2, (.ptr (32, 1) 0)), (4, (.ptr (480, 7) 0)), (5, (vI v3.1)), (q24_3 x19), (q24_16 x19), (71, (vI y22)), (72, (.val (.bool (decide (y22 < (x19.length : Int))))))]) (h := [q24_0, (q24_1 x19), (q24_2 x16 x17 x18)]) (ep := 34) (by kernel_rfl) ?_
                  refine .fin rfl ?_
                  refine sqN ?_
                  refine .seq ?_
                  refine .cond (decide (y22 < (x19.length : Int))) rfl (fun hc23 => ?_) (fun hc23 => ?_)
                  · have h := iT h hc23
                    refine .skip ?_
                    refine sqN ?_
                    refine .seq ?_
                    refine .block ?_
                    refine .seq ?_
                    refine .rgI rfl ?_
                    refine .seg tabOk 0 2 [2, 4, 5, 6, 8, 70, 71] [32, 111, 480] (t := [(2, (.ptr (32, 1) 0)), (4, (.ptr (480, 7) 0)), (5, (vI v3.1)), (q24_3 x19), (8, (vI y22)), (q24_16 x19), (71, (vI y22))]) (h := [q24_0, (q24_1 x19), (q24_2 x16 x17 x18)]) (ep := 36) (by kernel_rfl) ?_
                    refine .fin rfl ?_
                    refine sqN ?_
                    refine .seq ?_
                    obtain ⟨j28, hj28, h⟩ := ljS h
                    refine .join (fun s' => ∃ x27, s' = ⟨[(2, (.ptr (32, 1) 0)), (4, (.ptr (480, 7) 0)), (5, (vI v3.1)), (q24_3 x19), (q24_16 x19), (71, (vI y22)), (87, (.val (.bool x27)))], [q24_0, (q24_1 x19), (q24_2 x16 x17 x18)], 39⟩ ∧ j28 x27 = some r) ?_ ?_
                    · refine .rgD rfl ?_
                      refine .seg tabOk 0 3 [2, 4, 5, 6, 8, 70, 71, 76] [32, 111, 480] (t := [(2, (.ptr (32, 1) 0)), (4, (.ptr (480, 7) 0)), (5, (vI v3.1)), (q24_3 x19), (8, (vI y22)), (q24_16 x19), (71, (vI y22)), (76, (.val (.bool (decide (0 < y22)))))]) (h := [q24_0, (q24_1 x19), (q24_2 x16 x17 x18)]) (ep := 37) (by kernel_rfl) ?_
                      cases hB24 : (decide (0 < y22)) with
                      | false =>
                        have h := iF h hB24
                        refine .seg tabOk 3 11 [2, 4, 5, 6, 70, 71, 87] [32, 111, 480] (t := [(2, (.ptr (32, 1) 0)), (4, (.ptr (480, 7) 0)), (5, (vI v3.1)), (q24_3 x19), (q24_16 x19), (71, (vI y22)), (87, (.val (.bool false)))]) (h := [q24_0, (q24_1 x19), (q24_2 x16 x17 x18)]) (ep := 37) (by kernel_rfl) ?_
                        refine .fin mixed [2, 4, 5, 6, 70, 71, 87] [32, 111, 480] (t := [(2, (.ptr (32, 1) 0)), (4, (.ptr (480, 7) 0)), (5, (vI v3.1)), (q24_3 x19), (q24_16 x19), (71, (vI y22)), (87, (.val (.bool false)))]) (h := [q24_0, (q24_1 x19), (q24_2 x16 x17 x18)]) (ep := 38) rfl (by kernel_rfl) rfl ?_
                        exact jkN (by exact .tn [((32, 1), (32, 1)), ((111, 26), (111, 26)), ((480, 7), (480, 7))] ⟨rfl, rfl, rfl, rfl, rfl, rfl, rfl, trivial⟩ ⟨rfl, ⟨_, rfl, rfl⟩, ⟨rfl, ⟨_, rfl, ah_row E_i⟩, ⟨rfl, ⟨_, rfl, rfl⟩, trivial⟩⟩⟩ rfl) ⟨_, rfl, h⟩
                      | true =>
                        have h := iT h hB24
                        refine .seg tabOk 3 2 [2, 4, 5, 6, 8, 70, 71, 76, 77, 78] [32, 111, 480] (t := [(2, (.ptr (32, 1) 0)), (4, (.ptr (480, 7) 0)), (5, (vI v3.1)), (q24_3 x19), (8, (vI y22)), (q24_16 x19), (71, (vI y22)), (76, (.val (.bool true))), (77, (.sref (111, 26) 0 x19.length 1)), (78, (vI y22))]) (h := [q24_0, (q24_1 x19), (q24_2 x16 x17 x18)]) (ep := 37) (by kernel_rfl) ?_
                        obtain ⟨hb25, h⟩ := gS h
                        refine .oo tabOk rfl rfl rfl (q_idxS E_i (l := x19) rfl rfl rfl rfl rfl rfl rfl rfl hb25) rfl ?_
                        refine .oo tabOk rfl rfl rfl (q_ldS E_i (l := x19) rfl rfl rfl rfl rfl hb25 rfl) rfl ?_
                        refine .seg tabOk 7 3 [2, 4, 5, 6, 70, 71, 76, 80, 81, 83] [32, 111, 480] (t := [(2, (.ptr (32, 1) 0)), (4, (.ptr (480, 7) 0)), (5, (vI v3.1)), (q24_3 x19), (q24_16 x19), (71, (vI y22)), (76, (.val (.bool true))), (80, (vI (nth E_i x19 y22))), (81, (.sref (111, 26) 0 x19.length 1)), (83, (vI (w64 (y22 - 1))))]) (h := [q24_0, (q24_1 x19), (q24_2 x16 x17 x18)]) (ep := 37) (by kernel_rfl) ?_
                        obtain ⟨hb26, h⟩ := gS h
                        refine .oo tabOk rfl rfl rfl (q_idxS E_i (l := x19) rfl rfl rfl rfl rfl rfl rfl rfl hb26) rfl ?_
                        refine .oo tabOk rfl rfl rfl (q_ldS E_i (l := x19) rfl rfl rfl rfl rfl hb26 rfl) rfl ?_
                        refine .seg tabOk 12 2 [2, 4, 5, 6, 70, 71, 87] [32, 111, 480] (t := [(2, (.ptr (32, 1) 0)), (4, (.ptr (480, 7) 0)), (5, (vI v3.1)), (q24_3 x19), (q24_16 x19), (71, (vI y22)), (87, (.val (.bool (decide ((nth E_i x19 y22) ≤ (nth E_i x19 (w64 (y22 - 1))))))))]) (h := [q24_0, (q24_1 x19), (q24_2 x16 x17 x18)]) (ep := 37) (by kernel_rfl) ?_
                        refine .fin mixed [2, 4, 5, 6, 70, 71, 87] [32, 111, 480] (t := [(2, (.ptr (32, 1) 0)), (4, (.ptr (480, 7) 0)), (5, (vI v3.1)), (q24_3 x19), (q24_16 x19), (71, (vI y22)), (87, (.val (.bool (decide ((nth E_i x19 y22) ≤ (nth E_i x19 (w64 (y22 - 1))))))))]) (h := [q24_0, (q24_1 x19), (q24_2 x16 x17 x18)]) (ep := 38) rfl (by kernel_rfl) rfl ?_
                        exact jkN (by exact .tn [((32, 1), (32, 1)), ((111, 26), (111, 26)), ((480, 7), (480, 7))] ⟨rfl, rfl, rfl, rfl, rfl, rfl, rfl, trivial⟩ ⟨rfl, ⟨_, rfl, rfl⟩, ⟨rfl, ⟨_, rfl, ah_row E_i⟩, ⟨rfl, ⟨_, rfl, rfl⟩, trivial⟩⟩⟩ rfl) ⟨_, rfl, h⟩
                    · rintro _ ⟨x27, rfl, h⟩
                      subst hj28
                      refine sqN ?_
                      refine .cond x27 rfl (fun hc29 => ?_) (fun hc29 => ?_)
                      · have h := iT h hc29
                        refine .seq ?_
                        refine .rgI rfl ?_
                        refine .seg tabOk 0 3 [2, 3] [32] (t := [(2, (.ptr (32, 1) 0)), (3, (vI 12))]) (h := [q24_0]) (ep := 41) (by kernel_rfl) ?_
                        refine .fin rfl ?_
                        refine sqN ?_
                        refine .pre (.nilRowO (32, 1) _ 0 47 1 rfl rfl rfl rfl (fresh_none rfl) (by decide)) ?_
                        refine .pre (.nilRowO (32, 1) _ 1 46 1 rfl rfl rfl rfl (fresh_none rfl) (by decide)) ?_
                        refine .ret ?_
                        refine bkR ?_
                        refine sqR ?_
                        refine jkR ?_
                        refine bkR ?_
                        refine jkR ?_
                        refine sqR ?_
                        injection h with h
                        subst h
                        exact ⟨.inr rfl, _, _, (f_cons (f_mem rfl (o_agg (ol_cons (o1_row E_LSiibe ([] : List (List T_Siibe)) rfl rfl rfl rfl rfl) (ol_cons (o1_row E_B ([] : List Int) rfl rfl rfl rfl rfl) ol_nil)))) (f_cons rfl f_nil)), nd_of rfl, rfl, rfl⟩
                      · have h := iF h hc29
                        refine .skip ?_
                        refine bkN ?_
                        refine sqN ?_
                        refine .rgI rfl ?_
                        refine .seg tabOk 0 2 [2, 4, 5, 6, 70, 71] [32, 111, 480] (t := [(2, (.ptr (32, 1) 0)), (4, (.ptr (480, 7) 0)), (5, (vI v3.1)), (q24_3 x19), (q24_16 x19), (71, (vI (w64 (y22 + 1))))]) (h := [q24_0, (q24_1 x19), (q24_2 x16 x17 x18)]) (ep := 41) (by kernel_rfl) ?_
                        refine .fin rfl ?_
                        exact jkN (by exact .tn [((32, 1), (32, 1)), ((111, 26), (111, 26)), ((480, 7), (480, 7))] ⟨rfl, rfl, rfl, rfl, rfl, rfl, trivial⟩ ⟨rfl, ⟨_, rfl, rfl⟩, ⟨rfl, ⟨_, rfl, ah_row E_i⟩, ⟨rfl, ⟨_, rfl, rfl⟩, trivial⟩⟩⟩ rfl) ⟨n, (w64 (y22 + 1)), Nat.lt_succ_self n, rfl, h⟩
                  · have h := iF h hc23
                    refine .exit ?_
                    refine sqX ?_
                    refine jkX ?_
                    refine bkE ?_
                    exact jkN (by exact .tn [((32, 1), (32, 1)), ((111, 26), (111, 26)), ((480, 7), (480, 7))] ⟨rfl, rfl, rfl, rfl, trivial⟩ ⟨rfl, ⟨_, rfl, rfl⟩, ⟨rfl, ⟨_, rfl, ah_row E_i⟩, ⟨rfl, ⟨_, rfl, rfl⟩, trivial⟩⟩⟩ rfl) ⟨rfl, h⟩
              · rintro _ ⟨rfl, h⟩
                subst hj21
                refine sqN ?_
                refine .seq ?_
                refine .rgI rfl ?_
                refine .seg tabOk 0 3 [2, 4, 6, 90, 92] [32, 111, 480] (t := [(2, (.ptr (32, 1) 0)), (4, (.ptr (480, 7) 0)), (q24_3 x19), (90, (.sref (111, 26) 0 x19.length 1)), (92, (vI (w64 (v3.1 - 1))))]) (h := [q24_0, (q24_1 x19), (q24_2 x16 x17 x18)]) (ep := 37) (by kernel_rfl) ?_
                obtain ⟨hb30, h⟩ := gS h
                refine .oo tabOk rfl rfl rfl (q_idxS E_i (l := x19) rfl rfl rfl rfl rfl rfl rfl rfl hb30) ?_
                refine .oo tabOk rfl rfl rfl (q_ldS E_i (l := x19) rfl rfl rfl rfl rfl hb30 rfl) ?_
                refine .seg tabOk 5 2 [2, 4, 6, 9] [32, 111, 480] (t := [(2, (.ptr (32, 1) 0)), (4, (.ptr (480, 7) 0)), (q24_3 x19), (q24_11 x19 v3)]) (h := [q24_0, (q24_1 x19), (q24_2 x16 x17 x18)]) (ep := 38) (by kernel_rfl) ?_
                refine .fin rfl ?_
                refine sqN ?_
                refine .seq ?_
                refine .seq ?_
                refine .rgI rfl ?_
                refine .seg tabOk 0 2 [2, 4, 6, 9, 97] [32, 111, 480] (t := [(2, (.ptr (32, 1) 0)), (4, (.ptr (480, 7) 0)), (q24_3 x19), (q24_11 x19 v3), (97, (.val (.bool (decide (4096 < (w64 ((nth E_i x19 (w64 (v3.1 - 1))) + 1)))))))]) (h := [q24_0, (q24_1 x19), (q24_2 x16 x17 x18)]) (ep := 40) (by kernel_rfl) ?_
                refine .fin rfl ?_
                refine sqN ?_
                refine .cond (decide (4096 < (w64 ((nth E_i x19 (w64 (v3.1 - 1))) + 1)))) rfl (fun hc31 => ?_) (fun hc31 => ?_)
                · have h := iT h hc31
                  refine .seq ?_
                  refine .rgI rfl ?_
                  refine .seg tabOk 0 3 [2, 3] [32] (t := [(2, (.ptr (32, 1) 0)), (3, (vI 7))]) (h := [q24_0]) (ep := 42) (by kernel_rfl) ?_
                  refine .fin rfl ?_
                  refine sqN ?_
                  refine .pre (.nilRowO (32, 1) _ 0 47 1 rfl rfl rfl rfl (fresh_none rfl) (by decide)) ?_
                  refine .pre (.nilRowO (32, 1) _ 1 46 1 rfl rfl rfl rfl (fresh_none rfl) (by decide)) ?_
                  refine .ret ?_
                  refine sqR ?_
                  injection h with h
                  subst h
                  exact ⟨.inr rfl, _, _, (f_cons (f_mem rfl (o_agg (ol_cons (o1_row E_LSiibe ([] : List (List T_Siibe)) rfl rfl rfl rfl rfl) (ol_cons (o1_row E_B ([] : List Int) rfl rfl rfl rfl rfl) ol_nil)))) (f_cons rfl f_nil)), nd_of rfl, rfl, rfl⟩
                · have h := iF h hc31
                  refine .skip ?_
                  refine sqN ?_
                  refine .seq ?_
                  refine .rgI rfl ?_
                  refine .seg tabOk 0 3 [2, 4, 6, 9, 10] [32, 111, 160, 480] (t := [(2, (.ptr (32, 1) 0)), (4, (.ptr (480, 7) 0)), (q24_3 x19), (q24_11 x19 v3), (10, (.ptr (160, 41) 0))]) (h := [q24_0, (q24_1 x19), q24_25, (q24_2 x16 x17 x18)]) (ep := 42) (by kernel_rfl) ?_
                  refine .fin rfl ?_
                  refine sqN ?_
                  refine .seq ?_
                  refine .rgI rfl ?_
                  refine .seg tabOk 0 1 [2, 4, 6, 9, 10, 100] [32, 111, 160, 480] (t := [(2, (.ptr (32, 1) 0)), (4, (.ptr (480, 7) 0)), (q24_3 x19), (q24_11 x19 v3), (10, (.ptr (160, 41) 0)), (100, (.ptr (480, 7) 0))]) (h := [q24_0, (q24_1 x19), q24_25, (q24_2 x16 x17 x18)]) (ep := 44) (by kernel_rfl) ?_
                  obtain ⟨v32, hv32, h⟩ := bS h
                  refine .cc true rfl rfl (C_r07_reader_u _ _ _ _ hv32) ent_r07_reader_u rfl rfl rfl rfl (g_cons (g_pl rfl rfl) (g_cons (g_pl rfl rfl) g_nil)) rfl ?_
                  refine .seg tabOk 2 1 [2, 4, 6, 9, 10, 11] [32, 111, 160, 480] (t := [(2, (.ptr (32, 1) 0)), (4, (.ptr (480, 7) 0)), (q24_3 x19), (q24_11 x19 v3), (10, (.ptr (160, 41) 0)), (11, (vI v32.1))]) (h := [q24_0, (q24_1 x19), q24_25, (q24_22 v32)]) (ep := 45) (by kernel_rfl) ?_
                  refine .fin rfl ?_
                  refine sqN ?_
                  refine .seq ?_
                  refine .seq ?_
                  refine .rgI rfl ?_
                  refine .seg tabOk 0 1 [2, 4, 6, 9, 10, 11, 12] [32, 111, 160, 480] (t := [(2, (.ptr (32, 1) 0)), (4, (.ptr (480, 7) 0)), (q24_3 x19), (q24_11 x19 v3), (10, (.ptr (160, 41) 0)), (11, (vI v32.1)), (12, (vI 0))]) (h := [q24_0, (q24_1 x19), q24_25, (q24_22 v32)]) (ep := 47) (by kernel_rfl) ?_
                  refine .fin rfl ?_
                  refine sqN ?_
                  obtain ⟨j33, hj33, h⟩ := ljS h
                  refine .join (fun s' => ∃ x43 x44 x45 x46, s' = ⟨[(2, (.ptr (32, 1) 0)), (4, (.ptr (480, 7) 0)), (q24_3 x19), (q24_11 x19 v3), (10, (.ptr (160, 41) 0))], [q24_0, (q24_1 x19), (q24_12 x46), (q24_4 x46), (480, ⟨7, .live, false, [(.ro 1 x43.length (flat E_B x43)), (vI x44), (vI x45)]⟩)], 53⟩ ∧ j33 x43 x44 x45 x46 = some r) ?_ ?_
                  · refine .block ?_
                    refine .loopF (β := (List Int) × Int × Int × (List Int) × Int) (fun v => ⟨[(2, (.ptr (32, 1) 0)), (4, (.ptr (480, 7) 0)), (q24_3 x19), (q24_11 x19 v3), (10, (.ptr (160, 41) 0)), (11, (vI v32.1)), (12, (vI v.2.2.2.2))], [q24_0, (q24_1 x19), (160, ⟨41, .live, false, [.nils, (.sref (175, 47) 0 v.2.2.2.1.length 1)]⟩), (175, ⟨47, .live, true, flat E_B v.2.2.2.1⟩), (480, ⟨7, .live, false, [(.ro 1 v.1.length (flat E_B v.1)), (vI v.2.1), (vI v.2.2.1)]⟩)], 48⟩) (fun m v => L_r07_Read_2 v32 j33 m v.1 v.2.1 v.2.2.1 v.2.2.2.1 v.2.2.2.2 = some r) n (v32.2.f0, v32.2.f1, v32.2.f2, ([] : List Int), 0) (by exact .trans (.nilRowO (160, 41) _ 1 175 1 rfl rfl rfl rfl (fresh_none rfl) (by decide)) (.tn [((32, 1), (32, 1)), ((111, 26), (111, 26)), ((160, 41), (160, 41)), ((175, 47), (175, 47)), ((480, 7), (480, 7))] ⟨rfl, rfl, rfl, rfl, rfl, rfl, rfl, trivial⟩ ⟨rfl, ⟨_, rfl, rfl⟩, ⟨rfl, ⟨_, rfl, ah_row E_i⟩, ⟨rfl, ⟨_, rfl, rfl⟩, ⟨rfl, ⟨_, rfl, ah_row E_B⟩, ⟨rfl, ⟨_, rfl, rfl⟩, trivial⟩⟩⟩⟩⟩ rfl)) h ?_
                    rintro m ⟨y34, y35, y36, y37, y38⟩ h
                    cases m with
                    | zero => exact nomatch h
                    | succ n =>
                      rw [L_r07_Read_2] at h
                      refine .seq ?_
                      refine .seq ?_
                      refine .join (fun s' => s' = ⟨[(2, (.ptr (32, 1) 0)), (4, (.ptr (480, 7) 0)), (q24_3 x19), (q24_11 x19 v3), (10, (.ptr (160, 41) 0)), (11, (vI v32.1)), (12, (vI y38)), (111, (.val (.bool ((decide (y38 < v32.1)) && (decide (y36 = 0))))))], [q24_0, (q24_1 x19), (160, ⟨41, .live, false, [.nils, (.sref (175, 47) 0 y37.length 1)]⟩), (175, ⟨47, .live, true, flat E_B y37⟩), (480, ⟨7, .live, false, [(.ro 1 y34.length (flat E_B y34)), (vI y35), (vI y36)]⟩)], 52⟩) ?_ ?_
                      · refine .rgI rfl ?_
                        refine .seg tabOk 0 4 [2, 4, 6, 9, 10, 11, 12, 105] [32, 111, 160, 175, 480] (t := [(2, (.ptr (32, 1) 0)), (4, (.ptr (480, 7) 0)), (q24_3 x19), (q24_11 x19 v3), (10, (.ptr (160, 41) 0)), (11, (vI v32.1)), (12, (vI y38)), (105, (.val (.bool (decide (y38 < v32.1)))))]) (h := [q24_0, (q24_1 x19), (160, ⟨41, .live, false, [.nils, (.sref (175, 47) 0 y37.length 1)]⟩), (175, ⟨47, .live, true, flat E_B y37⟩), (480, ⟨7, .live, false, [(.ro 1 y34.length (flat E_B y34)), (vI y35), (vI y36)]⟩)]) (ep := 50) (by kernel_rfl) ?_
                        cases hB39 : (decide (y38 < v32.1)) with
                        | false =>
                          skip
                          refine .seg tabOk 4 6 [2, 4, 6, 9, 10, 11, 12, 111] [32, 111, 160, 175, 480] (t := [(2, (.ptr (32, 1) 0)), (4, (.ptr (480, 7) 0)), (q24_3 x19), (q24_11 x19 v3), (10, (.ptr (160, 41) 0)), (11, (vI v32.1)), (12, (vI y38)), (111, (.val (.bool false)))]) (h := [q24_0, (q24_1 x19), (160, ⟨41, .live, false, [.nils, (.sref (175, 47) 0 y37.length 1)]⟩), (175, ⟨47, .live, true, flat E_B y37⟩), (480, ⟨7, .live, false, [(.ro 1 y34.length (flat E_B y34)), (vI y35), (vI y36)]⟩)]) (ep := 51) (by kernel_rfl) ?_
                          refine .fin rfl ?_
                          exact jkN (by exact .tn [((32, 1), (32, 1)), ((111, 26), (111, 26)), ((160, 41), (160, 41)), ((175, 47), (175, 47)), ((480, 7), (480, 7))] ⟨rfl, rfl, rfl, rfl, rfl, rfl, rfl, rfl, trivial⟩ ⟨rfl, ⟨_, rfl, rfl⟩, ⟨rfl, ⟨_, rfl, ah_row E_i⟩, ⟨rfl, ⟨_, rfl, rfl⟩, ⟨rfl, ⟨_, rfl, ah_row E_B⟩, ⟨rfl, ⟨_, rfl, rfl⟩, trivial⟩⟩⟩⟩⟩ rfl) rfl
                        | true =>
                          skip
                          refine .seg tabOk 4 6 [2, 4, 6, 9, 10, 11, 12, 111] [32, 111, 160, 175, 480] (t := [(2, (.ptr (32, 1) 0)), (4, (.ptr (480, 7) 0)), (q24_3 x19), (q24_11 x19 v3), (10, (.ptr (160, 41) 0)), (11, (vI v32.1)), (12, (vI y38)), (111, (.val (.bool (decide (y36 = 0)))))]) (h := [q24_0, (q24_1 x19), (160, ⟨41, .live, false, [.nils, (.sref (175, 47) 0 y37.length 1)]⟩), (175, ⟨47, .live, true, flat E_B y37⟩), (480, ⟨7, .live, false, [(.ro 1 y34.length (flat E_B y34)), (vI y35), (vI y36)]⟩)]) (ep := 51) (by kernel_rfl) ?_
                          refine .fin rfl ?_
                          exact jkN (by exact .tn [((32, 1), (32, 1)), ((111, 26), (111, 26)), ((160, 41), (160, 41)), ((175, 47), (175, 47)), ((480, 7), (480, 7))] ⟨rfl, rfl, rfl, rfl, rfl, rfl, rfl, rfl, trivial⟩ ⟨rfl, ⟨_, rfl, rfl⟩, ⟨rfl, ⟨_, rfl, ah_row E_i⟩, ⟨rfl, ⟨_, rfl, rfl⟩, ⟨rfl, ⟨_, rfl, ah_row E_B⟩, ⟨rfl, ⟨_, rfl, rfl⟩, trivial⟩⟩⟩⟩⟩ rfl) rfl
                      · rintro _ rfl
                        refine sqN ?_
                        refine .cond ((decide (y38 < v32.1)) && (decide (y36 = 0))) rfl (fun hc40 => ?_) (fun hc40 => ?_)
                        · have h := iT h hc40
                          refine .skip ?_
                          refine sqN ?_
                          refine .seq ?_
                          refine .block ?_
                          refine .rgD rfl ?_
                          refine .seg tabOk 0 3 [2, 4, 6, 9, 10, 11, 12, 115, 116] [32, 111, 160, 175, 480] (t := [(2, (.ptr (32, 1) 0)), (4, (.ptr (480, 7) 0)), (q24_3 x19), (q24_11 x19 v3), (10, (.ptr (160, 41) 0)), (11, (vI v32.1)), (12, (vI y38)), (115, (.sref (175, 47) 0 y37.length 1)), (116, (.ptr (480, 7) 0))]) (h := [q24_0, (q24_1 x19), (160, ⟨41, .live, false, [.nils, (.sref (175, 47) 0 y37.length 1)]⟩), (175, ⟨47, .live, true, flat E_B y37⟩), (480, ⟨7, .live, false, [(.ro 1 y34.length (flat E_B y34)), (vI y35), (vI y36)]⟩)]) (ep := 53) (by kernel_rfl) ?_
                          obtain ⟨v41, hv41, h⟩ := bS h
                          refine .cc true rfl rfl (C_r07_reader_u _ _ _ _ hv41) ent_r07_reader_u rfl rfl rfl rfl (g_cons (g_pl rfl rfl) (g_cons (g_pl rfl rfl) g_nil)) rfl rfl ?_
                          refine .seg tabOk 4 2 [2, 4, 6, 9, 10, 11, 12, 115, 119] [32, 111, 160, 175, 480, 1904] (t := [(2, (.ptr (32, 1) 0)), (4, (.ptr (480, 7) 0)), (q24_3 x19), (q24_11 x19 v3), (10, (.ptr (160, 41) 0)), (11, (vI v32.1)), (12, (vI y38)), (115, (.sref (175, 47) 0 y37.length 1)), (119, (.sref (1904, 53) 0 ([(IntKind.wrap .u8 (v41.1))] : List Int).length 1))]) (h := [q24_0, (q24_1 x19), (160, ⟨41, .live, false, [.nils, (.sref (175, 47) 0 y37.length 1)]⟩), (175, ⟨47, .live, true, flat E_B y37⟩), (q24_15 v41), (q24_26 v41)]) (ep := 53) (by kernel_rfl) ?_
                          obtain ⟨hb42, h⟩ := gS h
                          refine .oo tabOk rfl rfl rfl (q_app E_B (l := y37) rfl rfl rfl rfl rfl rfl rfl rfl rfl rfl rfl rfl rfl (.row ([(IntKind.wrap .u8 (v41.1))] : List Int) rfl rfl rfl rfl) hb42) rfl ?_
                          refine .seg tabOk 7 2 [2, 4, 6, 9, 10, 11, 12] [32, 111, 160, 175, 480, 1904, 1920] (t := [(2, (.ptr (32, 1) 0)), (4, (.ptr (480, 7) 0)), (q24_3 x19), (q24_11 x19 v3), (10, (.ptr (160, 41) 0)), (11, (vI v32.1)), (12, (vI y38))]) (h := [q24_0, (q24_1 x19), (160, ⟨41, .live, false, [.nils, (.sref (1920, 53) 0 (y37 ++ ([(IntKind.wrap .u8 (v41.1))] : List Int)).length 1)]⟩), (175, ⟨47, .gone, true, flat E_B y37⟩), (q24_15 v41), (q24_26 v41), (1920, ⟨53, .live, true, flat E_B (y37 ++ ([(IntKind.wrap .u8 (v41.1))] : List Int))⟩)]) (ep := 53) (by kernel_rfl) ?_
                          refine .fin mixed [2, 4, 6, 9, 10, 11, 12] [32, 111, 160, 480, 1920] (t := [(2, (.ptr (32, 1) 0)), (4, (.ptr (480, 7) 0)), (q24_3 x19), (q24_11 x19 v3), (10, (.ptr (160, 41) 0)), (11, (vI v32.1)), (12, (vI y38))]) (h := [q24_0, (q24_1 x19), (160, ⟨41, .live, false, [.nils, (.sref (1920, 53) 0 (y37 ++ ([(IntKind.wrap .u8 (v41.1))] : List Int)).length 1)]⟩), (q24_15 v41), (1920, ⟨53, .live, true, flat E_B (y37 ++ ([(IntKind.wrap .u8 (v41.1))] : List Int))⟩)]) (ep := 54) rfl (by kernel_rfl) rfl ?_
                          refine bkN ?_
                          refine sqN ?_
                          refine .rgI rfl ?_
                          refine .seg tabOk 0 3 [2, 4, 6, 9, 10, 11, 12] [32, 111, 160, 480, 1920] (t := [(2, (.ptr (32, 1) 0)), (4, (.ptr (480, 7) 0)), (q24_3 x19), (q24_11 x19 v3), (10, (.ptr (160, 41) 0)), (11, (vI v32.1)), (12, (vI (w64 (y38 + 1))))]) (h := [q24_0, (q24_1 x19), (160, ⟨41, .live, false, [.nils, (.sref (1920, 53) 0 (y37 ++ ([(IntKind.wrap .u8 (v41.1))] : List Int)).length 1)]⟩), (q24_15 v41), (1920, ⟨53, .live, true, flat E_B (y37 ++ ([(IntKind.wrap .u8 (v41.1))] : List Int))⟩)]) (ep := 56) (by kernel_rfl) ?_
                          refine .fin rfl ?_
                          exact jkN (by exact .tn [((32, 1), (32, 1)), ((111, 26), (111, 26)), ((160, 41), (160, 41)), ((1920, 53), (175, 47)), ((480, 7), (480, 7))] ⟨rfl, rfl, rfl, rfl, rfl, rfl, rfl, trivial⟩ ⟨rfl, ⟨_, rfl, rfl⟩, ⟨rfl, ⟨_, rfl, ah_row E_i⟩, ⟨rfl, ⟨_, rfl, rfl⟩, ⟨rfl, ⟨_, rfl, ah_row E_B⟩, ⟨rfl, ⟨_, rfl, rfl⟩, trivial⟩⟩⟩⟩⟩ rfl) ⟨n, (v41.2.f0, v41.2.f1, v41.2.f2, (y37 ++ ([(IntKind.wrap .u8 (v41.1))] : List Int)), (w64 (y38 + 1))), Nat.lt_succ_self n, rfl, h⟩
                        · have h := iF h hc40
                          refine .exit ?_
                          refine sqX ?_
                          refine jkX ?_
                          refine bkE ?_
                          exact jkN (by exact .tn [((32, 1), (32, 1)), ((111, 26), (111, 26)), ((160, 41), (160, 41)), ((175, 47), (175, 52)), ((480, 7), (480, 7))] ⟨rfl, rfl, rfl, rfl, rfl, trivial⟩ ⟨rfl, ⟨_, rfl, rfl⟩, ⟨rfl, ⟨_, rfl, ah_row E_i⟩, ⟨rfl, ⟨_, rfl, rfl⟩, ⟨rfl, ⟨_, rfl, ah_row E_B⟩, ⟨rfl, ⟨_, rfl, rfl⟩, trivial⟩⟩⟩⟩⟩ rfl) ⟨_, _, _, _, rfl, h⟩
                  · rintro _ ⟨x43, x44, x45, x46, rfl, h⟩
                    subst hj33
                    refine sqN ?_
                    refine .seq ?_
                    refine .rgI rfl ?_
                    refine .seg tabOk 0 2 [2, 4, 6, 10, 122, 123] [32, 111, 160, 175, 480] (t := [(2, (.ptr (32, 1) 0)), (4, (.ptr (480, 7) 0)), (q24_3 x19), (10, (.ptr (160, 41) 0)), (122, (.ptr (480, 7) 0)), (123, (vI (w64 ((nth E_i x19 (w64 (v3.1 - 1))) + 1))))]) (h := [q24_0, (q24_1 x19), (q24_12 x46), (q24_4 x46), (480, ⟨7, .live, false, [(.ro 1 x43.length (flat E_B x43)), (vI x44), (vI x45)]⟩)]) (ep := 55) (by kernel_rfl) ?_
                    obtain ⟨v47, hv47, h⟩ := bS h
                    refine .cc true rfl rfl (C_r07_reader_flags _ _ _ _ hv47) ent_r07_reader_flags rfl rfl rfl rfl (g_cons (g_pl rfl rfl) (g_cons (g_pl rfl rfl) g_nil)) rfl ?_
                    refine .seg tabOk 3 1 [2, 4, 6, 10, 13] [32, 111, 160, 175, 480, 1984] (t := [(2, (.ptr (32, 1) 0)), (4, (.ptr (480, 7) 0)), (q24_3 x19), (10, (.ptr (160, 41) 0)), (q24_5 v47)]) (h := [q24_0, (q24_1 x19), (q24_12 x46), (q24_4 x46), (q24_23 v47), (1984, ⟨55, .live, true, flat E_i v47.1⟩)]) (ep := 56) (by kernel_rfl) ?_
                    refine .fin rfl ?_
                    refine sqN ?_
                    refine .seq ?_
                    refine .rgI rfl ?_
                    refine .seg tabOk 0 2 [2, 4, 6, 10, 13, 125, 126] [32, 111, 160, 175, 480, 1984] (t := [(2, (.ptr (32, 1) 0)), (4, (.ptr (480, 7) 0)), (q24_3 x19), (10, (.ptr (160, 41) 0)), (q24_5 v47), (125, (.ptr (480, 7) 0)), (126, (.sref (1984, 55) 0 v47.1.length 1))]) (h := [q24_0, (q24_1 x19), (q24_12 x46), (q24_4 x46), (q24_23 v47), (1984, ⟨55, .live, true, flat E_i v47.1⟩)]) (ep := 58) (by kernel_rfl) ?_
                    obtain ⟨v48, hv48, h⟩ := bS h
                    refine .cc true rfl rfl (C_r07_reader_steps _ _ _ _ _ _ hv48) ent_r07_reader_steps rfl rfl rfl rfl (g_cons (g_pl rfl rfl) (g_cons (g_row E_i v47.1 rfl rfl rfl rfl rfl) (g_cons (g_pl rfl rfl) (g_cons (g_pl rfl rfl) g_nil)))) rfl ?_
                    refine .seg tabOk 3 1 [2, 4, 6, 10, 13, 14] [32, 111, 160, 175, 480, 1984, 2032] (t := [(2, (.ptr (32, 1) 0)), (4, (.ptr (480, 7) 0)), (q24_3 x19), (10, (.ptr (160, 41) 0)), (q24_5 v47), (q24_8 v48)]) (h := [q24_0, (q24_1 x19), (q24_12 x46), (q24_4 x46), (q24_24 v48), (q24_6 v47), (q24_7 v48)]) (ep := 59) (by kernel_rfl) ?_
                    refine .fin rfl ?_
                    refine sqN ?_
                    refine .seq ?_
                    refine .rgI rfl ?_
                    refine .seg tabOk 0 2 [2, 4, 6, 10, 13, 14, 128, 129] [32, 111, 160, 175, 480, 1984, 2032] (t := [(2, (.ptr (32, 1) 0)), (4, (.ptr (480, 7) 0)), (q24_3 x19), (10, (.ptr (160, 41) 0)), (q24_5 v47), (q24_8 v48), (128, (.ptr (480, 7) 0)), (129, (.sref (1984, 55) 0 v47.1.length 1))]) (h := [q24_0, (q24_1 x19), (q24_12 x46), (q24_4 x46), (q24_24 v48), (q24_6 v47), (q24_7 v48)]) (ep := 61) (by kernel_rfl) ?_
                    obtain ⟨v49, hv49, h⟩ := bS h
                    refine .cc true rfl rfl (C_r07_reader_steps _ _ _ _ _ _ hv49) ent_r07_reader_steps rfl rfl rfl rfl (g_cons (g_pl rfl rfl) (g_cons (g_rowF E_i v47.1 rfl rfl rfl rfl rfl) (g_cons (g_pl rfl rfl) (g_cons (g_pl rfl rfl) g_nil)))) rfl ?_
                    refine .seg tabOk 3 1 [2, 4, 6, 10, 13, 14, 15] [32, 111, 160, 175, 480, 1984, 2032, 2080] (t := [(2, (.ptr (32, 1) 0)), (4, (.ptr (480, 7) 0)), (q24_3 x19), (10, (.ptr (160, 41) 0)), (q24_5 v47), (q24_8 v48), (q24_10 v49)]) (h := [q24_0, (q24_1 x19), (q24_12 x46), (q24_4 x46), (q24_18 v49), (q24_6 v47), (q24_7 v48), (q24_9 v49)]) (ep := 62) (by kernel_rfl) ?_
                    refine .fin rfl ?_
                    refine sqN ?_
                    refine .seq ?_
                    refine .seq ?_
                    refine .rgI rfl ?_
                    refine .seg tabOk 0 5 [2, 4, 6, 10, 13, 14, 15, 135] [32, 111, 160, 175, 480, 1984, 2032, 2080] (t := [(2, (.ptr (32, 1) 0)), (4, (.ptr (480, 7) 0)), (q24_3 x19), (10, (.ptr (160, 41) 0)), (q24_5 v47), (q24_8 v48), (q24_10 v49), (135, (.val (.bool (!decide (v49.2.f2 = 0)))))]) (h := [q24_0, (q24_1 x19), (q24_12 x46), (q24_4 x46), (q24_18 v49), (q24_6 v47), (q24_7 v48), (q24_9 v49)]) (ep := 64) (by kernel_rfl) ?_
                    refine .fin rfl ?_
                    refine sqN ?_
                    refine .cond (!decide (v49.2.f2 = 0)) rfl (fun hc50 => ?_) (fun hc50 => ?_)
                    · have h := iT h hc50
                      refine .seq ?_
                      refine .rgD rfl ?_
                      refine .seg tabOk 0 7 [2, 3] [32, 111, 160, 175, 480, 1984, 2032, 2080] (t := [(2, (.ptr (32, 1) 0)), (3, (vI v49.2.f2))]) (h := [q24_0, (q24_1 x19), (q24_12 x46), (q24_4 x46), (q24_18 v49), (q24_6 v47), (q24_7 v48), (q24_9 v49)]) (ep := 65) (by kernel_rfl) ?_
                      refine .fin mixed [2, 3] [32] (t := [(2, (.ptr (32, 1) 0)), (3, (vI v49.2.f2))]) (h := [q24_0]) (ep := 66) rfl (by kernel_rfl) rfl ?_
                      refine sqN ?_
                      refine .pre (.nilRowO (32, 1) _ 0 47 1 rfl rfl rfl rfl (fresh_none rfl) (by decide)) ?_
                      refine .pre (.nilRowO (32, 1) _ 1 46 1 rfl rfl rfl rfl (fresh_none rfl) (by decide)) ?_
                      refine .ret ?_
                      refine sqR ?_
                      injection h with h
                      subst h
                      exact ⟨.inr rfl, _, _, (f_cons (f_mem rfl (o_agg (ol_cons (o1_row E_LSiibe ([] : List (List T_Siibe)) rfl rfl rfl rfl rfl) (ol_cons (o1_row E_B ([] : List Int) rfl rfl rfl rfl rfl) ol_nil)))) (f_cons rfl f_nil)), nd_of rfl, rfl, rfl⟩
                    · have h := iF h hc50
                      refine .skip ?_
                      refine sqN ?_
                      refine .seq ?_
                      refine .rgI rfl ?_
                      refine .seg tabOk 0 1 [2, 6, 10, 13, 14, 15, 16] [32, 111, 160, 175, 1984, 2032, 2080] (t := [(2, (.ptr (32, 1) 0)), (q24_3 x19), (10, (.ptr (160, 41) 0)), (q24_5 v47), (q24_8 v48), (q24_10 v49), (16, (vI 0))]) (h := [q24_0, (q24_1 x19), (q24_12 x46), (q24_4 x46), (q24_6 v47), (q24_7 v48), (q24_9 v49)]) (ep := 66) (by kernel_rfl) ?_
                      refine .fin rfl ?_
                      refine sqN ?_
                      refine .seq ?_
                      refine .seq ?_
                      refine .rgI rfl ?_
                      refine .seg tabOk 0 3 [2, 10, 13, 14, 15, 16, 141, 142, 143] [32, 111, 160, 175, 1984, 2032, 2080] (t := [(2, (.ptr (32, 1) 0)), (10, (.ptr (160, 41) 0)), (q24_5 v47), (q24_8 v48), (q24_10 v49), (16, (vI 0)), (q24_13 x19), (q24_14 x19), (143, (vI 0))]) (h := [q24_0, (q24_1 x19), (q24_12 x46), (q24_4 x46), (q24_6 v47), (q24_7 v48), (q24_9 v49)]) (ep := 68) (by kernel_rfl) ?_
                      refine .fin rfl ?_
                      refine sqN ?_
                      obtain ⟨j51, hj51, h⟩ := ljS h
                      refine .join (fun s' => ∃ x71, s' = ⟨[(2, (.ptr (32, 1) 0)), (10, (.ptr (160, 41) 0))], [q24_0, (160, ⟨41, .live, false, [(.sref (174, 71) 0 x71.length 1), (.sref (175, 52) 0 x46.length 1)]⟩), (174, ⟨71, .live, true, flat E_LSiibe x71⟩), (q24_4 x46)], 72⟩ ∧ j51 x71 = some r) ?_ ?_
                      · refine .block ?_
                        refine .loopF (β := (List (List T_Siibe)) × Int × Int) (fun v => ⟨[(2, (.ptr (32, 1) 0)), (10, (.ptr (160, 41) 0)), (q24_5 v47), (q24_8 v48), (q24_10 v49), (16, (vI v.2.2)), (q24_13 x19), (q24_14 x19), (143, (vI v.2.1))], [q24_0, (q24_1 x19), (160, ⟨41, .live, false, [(.sref (174, 68) 0 v.1.length 1), (.sref (175, 52) 0 x46.length 1)]⟩), (174, ⟨68, .live, true, flat E_LSiibe v.1⟩), (q24_4 x46), (q24_6 v47), (q24_7 v48), (q24_9 v49)], 69⟩) (fun m v => L_r07_Read_3 x19 v47 v48 v49 j51 m v.1 v.2.1 v.2.2 = some r) n (([] : List (List T_Siibe)), 0, 0) (by exact .trans (.nilRowO (160, 41) _ 0 174 1 rfl rfl rfl rfl (fresh_none rfl) (by decide)) (.tn [((32, 1), (32, 1)), ((111, 26), (111, 26)), ((160, 41), (160, 41)), ((174, 68), (174, 68)), ((175, 52), (175, 52)), ((1984, 55), (1984, 55)), ((2032, 58), (2032, 58)), ((2080, 61), (2080, 61))] ⟨rfl, rfl, rfl, rfl, rfl, rfl, rfl, rfl, rfl, trivial⟩ ⟨rfl, ⟨_, rfl, rfl⟩, ⟨rfl, ⟨_, rfl, ah_row E_i⟩, ⟨rfl, ⟨_, rfl, rfl⟩, ⟨rfl, ⟨_, rfl, ah_row E_LSiibe⟩, ⟨rfl, ⟨_, rfl, ah_row E_B⟩, ⟨rfl, ⟨_, rfl, ah_row E_i⟩, ⟨rfl, ⟨_, rfl, ah_row E_i⟩, ⟨rfl, ⟨_, rfl, ah_row E_i⟩, trivial⟩⟩⟩⟩⟩⟩⟩⟩ rfl)) h ?_
                        rintro m ⟨y52, y53, y54⟩ h
                        cases m with
                        | zero => exact nomatch h
                        | succ n =>
                          rw [L_r07_Read_3] at h
                          refine .seq ?_
                          refine .rgI rfl ?_
                          refine .seg tabOk 0 1 [2, 10, 13, 14, 15, 16, 141, 142, 143, 144] [32, 111, 160, 174, 175, 1984, 2032, 2080] (t := [(2, (.ptr (32, 1) 0)), (10, (.ptr (160, 41) 0)), (q24_5 v47), (q24_8 v48), (q24_10 v49), (16, (vI y54)), (q24_13 x19), (q24_14 x19), (143, (vI y53)), (144, (.val (.bool (decide (y53 < (x19.length : Int))))))]) (h := [q24_0, (q24_1 x19), (160, ⟨41, .live, false, [(.sref (174, 68) 0 y52.length 1), (.sref (175, 52) 0 x46.length 1)]⟩), (174, ⟨68, .live, true, flat E_LSiibe y52⟩), (q24_4 x46), (q24_6 v47), (q24_7 v48), (q24_9 v49)]) (ep := 71) (by kernel_rfl) ?_
                          refine .fin rfl ?_
                          refine sqN ?_
                          refine .seq ?_
                          refine .cond (decide (y53 < (x19.length : Int))) rfl (fun hc55 => ?_) (fun hc55 => ?_)
                          · have h := iT h hc55
                            refine .skip ?_
                            refine sqN ?_
                            refine .seq ?_
                            obtain ⟨j56, hj56, h⟩ := ljS h
                            refine .join (fun s' => ∃ x69 x70, s' = ⟨[(2, (.ptr (32, 1) 0)), (10, (.ptr (160, 41) 0)), (q24_5 v47), (q24_8 v48), (q24_10 v49), (16, (vI x70)), (q24_13 x19), (q24_14 x19), (143, (vI y53))], [q24_0, (q24_1 x19), (160, ⟨41, .live, false, [(.sref (2784, 81) 0 x69.length 1), (.sref (175, 52) 0 x46.length 1)]⟩), (q24_4 x46), (q24_6 v47), (q24_7 v48), (q24_9 v49), (2784, ⟨81, .live, true, flat E_LSiibe x69⟩)], 83⟩ ∧ j56 x69 x70 = some r) ?_ ?_
                            · refine .block ?_
                              refine .seq ?_
                              refine .rgI rfl ?_
                              obtain ⟨hb57, h⟩ := gS h
                              refine .oo tabOk rfl rfl rfl (q_idxS E_i (l := x19) rfl rfl rfl rfl rfl rfl rfl rfl hb57) ?_
                              refine .oo tabOk rfl rfl rfl (q_ldS E_i (l := x19) rfl rfl rfl rfl rfl hb57 rfl) ?_
                              refine .seg tabOk 2 1 [2, 10, 13, 14, 15, 16, 18, 141, 142, 143] [32, 111, 160, 174, 175, 1984, 2032, 2080] (t := [(2, (.ptr (32, 1) 0)), (10, (.ptr (160, 41) 0)), (q24_5 v47), (q24_8 v48), (q24_10 v49), (16, (vI y54)), (18, (vI (nth E_i x19 y53))), (q24_13 x19), (q24_14 x19), (143, (vI y53))]) (h := [q24_0, (q24_1 x19), (160, ⟨41, .live, false, [(.sref (174, 68) 0 y52.length 1), (.sref (175, 52) 0 x46.length 1)]⟩), (174, ⟨68, .live, true, flat E_LSiibe y52⟩), (q24_4 x46), (q24_6 v47), (q24_7 v48), (q24_9 v49)]) (ep := 73) (by kernel_rfl) ?_
                              refine .fin rfl ?_
                              refine sqN ?_
                              refine .seq ?_
                              refine .rgI rfl ?_
                              refine .seg tabOk 0 1 [2, 10, 13, 14, 15, 16, 18, 19, 141, 142, 143] [32, 111, 160, 174, 175, 1984, 2032, 2080] (t := [(2, (.ptr (32, 1) 0)), (10, (.ptr (160, 41) 0)), (q24_5 v47), (q24_8 v48), (q24_10 v49), (16, (vI y54)), (18, (vI (nth E_i x19 y53))), (19, .nils), (q24_13 x19), (q24_14 x19), (143, (vI y53))]) (h := [q24_0, (q24_1 x19), (160, ⟨41, .live, false, [(.sref (174, 68) 0 y52.length 1), (.sref (175, 52) 0 x46.length 1)]⟩), (174, ⟨68, .live, true, flat E_LSiibe y52⟩), (q24_4 x46), (q24_6 v47), (q24_7 v48), (q24_9 v49)]) (ep := 75) (by kernel_rfl) ?_
                              refine .fin rfl ?_
                              refine sqN ?_
                              refine .seq ?_
                              obtain ⟨j58, hj58, h⟩ := ljS h
                              refine .join (fun s' => ∃ x66 x67, s' = ⟨[(2, (.ptr (32, 1) 0)), (10, (.ptr (160, 41) 0)), (q24_5 v47), (q24_8 v48), (q24_10 v49), (16, (vI x67)), (19, (.sref (319, 78) 0 x66.length 3)), (q24_13 x19), (q24_14 x19), (143, (vI y53))], [q24_0, (q24_1 x19), (160, ⟨41, .live, false, [(.sref (174, 68) 0 y52.length 1), (.sref (175, 52) 0 x46.length 1)]⟩), (174, ⟨68, .live, true, flat E_LSiibe y52⟩), (q24_4 x46), (319, ⟨78, .live, true, flat E_Siibe x66⟩), (q24_6 v47), (q24_7 v48), (q24_9 v49)], 79⟩ ∧ j58 x66 x67 = some r) ?_ ?_
                              · refine .block ?_
                                refine .loopF (β := (List T_Siibe) × Int) (fun v => ⟨[(2, (.ptr (32, 1) 0)), (10, (.ptr (160, 41) 0)), (q24_5 v47), (q24_8 v48), (q24_10 v49), (16, (vI v.2)), (18, (vI (nth E_i x19 y53))), (19, (.sref (319, 75) 0 v.1.length 3)), (q24_13 x19), (q24_14 x19), (143, (vI y53))], [q24_0, (q24_1 x19), (160, ⟨41, .live, false, [(.sref (174, 68) 0 y52.length 1), (.sref (175, 52) 0 x46.length 1)]⟩), (174, ⟨68, .live, true, flat E_LSiibe y52⟩), (q24_4 x46), (319, ⟨75, .live, true, flat E_Siibe v.1⟩), (q24_6 v47), (q24_7 v48), (q24_9 v49)], 76⟩) (fun m v => L_r07_Read_4 x19 v47 v48 v49 y53 j58 m v.1 v.2 = some r) n (([] : List T_Siibe), y54) (by exact .trans (.nilRow 19 3 319 rfl (fresh_none rfl)) (.tn [((32, 1), (32, 1)), ((111, 26), (111, 26)), ((160, 41), (160, 41)), ((174, 68), (174, 68)), ((175, 52), (175, 52)), ((319, 75), (319, 75)), ((1984, 55), (1984, 55)), ((2032, 58), (2032, 58)), ((2080, 61), (2080, 61))] ⟨rfl, rfl, rfl, rfl, rfl, rfl, rfl, rfl, rfl, rfl, rfl, trivial⟩ ⟨rfl, ⟨_, rfl, rfl⟩, ⟨rfl, ⟨_, rfl, ah_row E_i⟩, ⟨rfl, ⟨_, rfl, rfl⟩, ⟨rfl, ⟨_, rfl, ah_row E_LSiibe⟩, ⟨rfl, ⟨_, rfl, ah_row E_B⟩, ⟨rfl, ⟨_, rfl, ah_row E_Siibe⟩, ⟨rfl, ⟨_, rfl, ah_row E_i⟩, ⟨rfl, ⟨_, rfl, ah_row E_i⟩, ⟨rfl, ⟨_, rfl, ah_row E_i⟩, trivial⟩⟩⟩⟩⟩⟩⟩⟩⟩ rfl)) h ?_
                                rintro m ⟨y59, y60⟩ h
                                cases m with
                                | zero => exact nomatch h
                                | succ n =>
                                  rw [L_r07_Read_4] at h
                                  refine .seq ?_
                                  refine .seq ?_
                                  refine .rgI rfl ?_
                                  refine .seg tabOk 0 3 [2, 10, 13, 14, 15, 16, 18, 19, 141, 142, 143, 149] [32, 111, 160, 174, 175, 319, 1984, 2032, 2080] (t := [(2, (.ptr (32, 1) 0)), (10, (.ptr (160, 41) 0)), (q24_5 v47), (q24_8 v48), (q24_10 v49), (16, (vI y60)), (18, (vI (nth E_i x19 y53))), (19, (.sref (319, 75) 0 y59.length 3)), (q24_13 x19), (q24_14 x19), (143, (vI y53)), (149, (.val (.bool (decide (y60 ≤ (nth E_i x19 y53))))))]) (h := [q24_0, (q24_1 x19), (160, ⟨41, .live, false, [(.sref (174, 68) 0 y52.length 1), (.sref (175, 52) 0 x46.length 1)]⟩), (174, ⟨68, .live, true, flat E_LSiibe y52⟩), (q24_4 x46), (319, ⟨75, .live, true, flat E_Siibe y59⟩), (q24_6 v47), (q24_7 v48), (q24_9 v49)]) (ep := 78) (by kernel_rfl) ?_
                                  refine .fin rfl ?_
                                  refine sqN ?_
                                  refine .cond (decide (y60 ≤ (nth E_i x19 y53))) rfl (fun hc61 => ?_) (fun hc61 => ?_)
                                  · have h := iT h hc61
                                    refine .skip ?_
                                    refine sqN ?_
                                    refine .seq ?_
                                    refine .block ?_
                                    refine .rgD rfl ?_
                                    refine .seg tabOk 0 3 [2, 10, 13, 14, 15, 16, 18, 141, 142, 143, 152, 153, 154] [32, 111, 160, 174, 175, 319, 1984, 2032, 2080] (t := [(2, (.ptr (32, 1) 0)), (10, (.ptr (160, 41) 0)), (q24_5 v47), (q24_8 v48), (q24_10 v49), (16, (vI y60)), (18, (vI (nth E_i x19 y53))), (q24_13 x19), (q24_14 x19), (143, (vI y53)), (152, (.sref (319, 75) 0 y59.length 3)), (153, (.sref (2032, 58) 0 v48.1.length 1)), (154, (vI y60))]) (h := [q24_0, (q24_1 x19), (160, ⟨41, .live, false, [(.sref (174, 68) 0 y52.length 1), (.sref (175, 52) 0 x46.length 1)]⟩), (174, ⟨68, .live, true, flat E_LSiibe y52⟩), (q24_4 x46), (319, ⟨75, .live, true, flat E_Siibe y59⟩), (q24_6 v47), (q24_7 v48), (q24_9 v49)]) (ep := 79) (by kernel_rfl) ?_
                                    obtain ⟨hb62, h⟩ := gS h
                                    refine .oo tabOk rfl rfl rfl (q_idxS E_i (l := v48.1) rfl rfl rfl rfl rfl rfl rfl rfl hb62) rfl ?_
                                    refine .oo tabOk rfl rfl rfl (q_ldS E_i (l := v48.1) rfl rfl rfl rfl rfl hb62 rfl) rfl ?_
                                    refine .seg tabOk 5 2 [2, 10, 13, 14, 15, 16, 18, 141, 142, 143, 152, 156, 157, 158] [32, 111, 160, 174, 175, 319, 1984, 2032, 2080] (t := [(2, (.ptr (32, 1) 0)), (10, (.ptr (160, 41) 0)), (q24_5 v47), (q24_8 v48), (q24_10 v49), (16, (vI y60)), (18, (vI (nth E_i x19 y53))), (q24_13 x19), (q24_14 x19), (143, (vI y53)), (152, (.sref (319, 75) 0 y59.length 3)), (156, (vI (nth E_i v48.1 y60))), (157, (.sref (2080, 61) 0 v49.1.length 1)), (158, (vI y60))]) (h := [q24_0, (q24_1 x19), (160, ⟨41, .live, false, [(.sref (174, 68) 0 y52.length 1), (.sref (175, 52) 0 x46.length 1)]⟩), (174, ⟨68, .live, true, flat E_LSiibe y52⟩), (q24_4 x46), (319, ⟨75, .live, true, flat E_Siibe y59⟩), (q24_6 v47), (q24_7 v48), (q24_9 v49)]) (ep := 79) (by kernel_rfl) ?_
                                    obtain ⟨hb63, h⟩ := gS h
                                    refine .oo tabOk rfl rfl rfl (q_idxS E_i (l := v49.1) rfl rfl rfl rfl rfl rfl rfl rfl hb63) rfl ?_
                                    refine .oo tabOk rfl rfl rfl (q_ldS E_i (l := v49.1) rfl rfl rfl rfl rfl hb63 rfl) rfl ?_
                                    refine .seg tabOk 9 2 [2, 10, 13, 14, 15, 16, 18, 141, 142, 143, 152, 156, 160, 161, 162] [32, 111, 160, 174, 175, 319, 1984, 2032, 2080] (t := [(2, (.ptr (32, 1) 0)), (10, (.ptr (160, 41) 0)), (q24_5 v47), (q24_8 v48), (q24_10 v49), (16, (vI y60)), (18, (vI (nth E_i x19 y53))), (q24_13 x19), (q24_14 x19), (143, (vI y53)), (152, (.sref (319, 75) 0 y59.length 3)), (156, (vI (nth E_i v48.1 y60))), (160, (vI (nth E_i v49.1 y60))), (161, (.sref (1984, 55) 0 v47.1.length 1)), (162, (vI y60))]) (h := [q24_0, (q24_1 x19), (160, ⟨41, .live, false, [(.sref (174, 68) 0 y52.length 1), (.sref (175, 52) 0 x46.length 1)]⟩), (174, ⟨68, .live, true, flat E_LSiibe y52⟩), (q24_4 x46), (319, ⟨75, .live, true, flat E_Siibe y59⟩), (q24_6 v47), (q24_7 v48), (q24_9 v49)]) (ep := 79) (by kernel_rfl) ?_
                                    obtain ⟨hb64, h⟩ := gS h
                                    refine .oo tabOk rfl rfl rfl (q_idxS E_i (l := v47.1) rfl rfl rfl rfl rfl rfl rfl rfl hb64) rfl ?_
                                    refine .oo tabOk rfl rfl rfl (q_ldS E_i (l := v47.1) rfl rfl rfl rfl rfl hb64 rfl) rfl ?_
                                    refine .seg tabOk 13 4 [2, 10, 13, 14, 15, 16, 18, 141, 142, 143, 152, 168] [32, 111, 160, 174, 175, 319, 1984, 2032, 2080, 2688] (t := [(2, (.ptr (32, 1) 0)), (10, (.ptr (160, 41) 0)), (q24_5 v47), (q24_8 v48), (q24_10 v49), (16, (vI y60)), (18, (vI (nth E_i x19 y53))), (q24_13 x19), (q24_14 x19), (143, (vI y53)), (152, (.sref (319, 75) 0 y59.length 3)), (168, (.sref (2688, 79) 0 ([(⟨(nth E_i v48.1 y60), (nth E_i v49.1 y60), (decide ((Int.tmod (nth E_i v47.1 y60) 2) = 1))⟩ : T_Siibe)] : List T_Siibe).length 3))]) (h := [q24_0, (q24_1 x19), (160, ⟨41, .live, false, [(.sref (174, 68) 0 y52.length 1), (.sref (175, 52) 0 x46.length 1)]⟩), (174, ⟨68, .live, true, flat E_LSiibe y52⟩), (q24_4 x46), (319, ⟨75, .live, true, flat E_Siibe y59⟩), (q24_6 v47), (q24_7 v48), (q24_9 v49), (q24_19 v48 y60 v49 v47)]) (ep := 79) (by kernel_rfl) ?_
                                    obtain ⟨hb65, h⟩ := gS h
                                    refine .oo tabOk rfl rfl rfl (q_app E_Siibe (l := y59) rfl rfl rfl rfl rfl rfl rfl rfl rfl rfl rfl rfl rfl (.row ([(⟨(nth E_i v48.1 y60), (nth E_i v49.1 y60), (decide ((Int.tmod (nth E_i v47.1 y60) 2) = 1))⟩ : T_Siibe)] : List T_Siibe) rfl rfl rfl rfl) hb65) rfl ?_
                                    refine .seg tabOk 18 1 [2, 10, 13, 14, 15, 16, 18, 19, 141, 142, 143] [32, 111, 160, 174, 175, 319, 1984, 2032, 2080, 2688, 2704] (t := [(2, (.ptr (32, 1) 0)), (10, (.ptr (160, 41) 0)), (q24_5 v47), (q24_8 v48), (q24_10 v49), (16, (vI y60)), (18, (vI (nth E_i x19 y53))), (19, (.sref (2704, 79) 0 (y59 ++ ([(⟨(nth E_i v48.1 y60), (nth E_i v49.1 y60), (decide ((Int.tmod (nth E_i v47.1 y60) 2) = 1))⟩ : T_Siibe)] : List T_Siibe)).length 3)), (q24_13 x19), (q24_14 x19), (143, (vI y53))]) (h := [q24_0, (q24_1 x19), (160, ⟨41, .live, false, [(.sref (174, 68) 0 y52.length 1), (.sref (175, 52) 0 x46.length 1)]⟩), (174, ⟨68, .live, true, flat E_LSiibe y52⟩), (q24_4 x46), (319, ⟨75, .gone, true, flat E_Siibe y59⟩), (q24_6 v47), (q24_7 v48), (q24_9 v49), (q24_19 v48 y60 v49 v47), (2704, ⟨79, .live, true, flat E_Siibe (y59 ++ ([(⟨(nth E_i v48.1 y60), (nth E_i v49.1 y60), (decide ((Int.tmod (nth E_i v47.1 y60) 2) = 1))⟩ : T_Siibe)] : List T_Siibe))⟩)]) (ep := 79) (by kernel_rfl) ?_
                                    refine .fin mixed [2, 10, 13, 14, 15, 16, 18, 19, 141, 142, 143] [32, 111, 160, 174, 175, 1984, 2032, 2080, 2704] (t := [(2, (.ptr (32, 1) 0)), (10, (.ptr (160, 41) 0)), (q24_5 v47), (q24_8 v48), (q24_10 v49), (16, (vI y60)), (18, (vI (nth E_i x19 y53))), (19, (.sref (2704, 79) 0 (y59 ++ ([(⟨(nth E_i v48.1 y60), (nth E_i v49.1 y60), (decide ((Int.tmod (nth E_i v47.1 y60) 2) = 1))⟩ : T_Siibe)] : List T_Siibe)).length 3)), (q24_13 x19), (q24_14 x19), (143, (vI y53))]) (h := [q24_0, (q24_1 x19), (160, ⟨41, .live, false, [(.sref (174, 68) 0 y52.length 1), (.sref (175, 52) 0 x46.length 1)]⟩), (174, ⟨68, .live, true, flat E_LSiibe y52⟩), (q24_4 x46), (q24_6 v47), (q24_7 v48), (q24_9 v49), (2704, ⟨79, .live, true, flat E_Siibe (y59 ++ ([(⟨(nth E_i v48.1 y60), (nth E_i v49.1 y60), (decide ((Int.tmod (nth E_i v47.1 y60) 2) = 1))⟩ : T_Siibe)] : List T_Siibe))⟩)]) (ep := 80) rfl (by kernel_rfl) rfl ?_
                                    refine bkN ?_
                                    refine sqN ?_
                                    refine .rgI rfl ?_
                                    refine .seg tabOk 0 3 [2, 10, 13, 14, 15, 16, 18, 19, 141, 142, 143] [32, 111, 160, 174, 175, 1984, 2032, 2080, 2704] (t := [(2, (.ptr (32, 1) 0)), (10, (.ptr (160, 41) 0)), (q24_5 v47), (q24_8 v48), (q24_10 v49), (16, (vI (w64 (y60 + 1)))), (18, (vI (nth E_i x19 y53))), (19, (.sref (2704, 79) 0 (y59 ++ ([(⟨(nth E_i v48.1 y60), (nth E_i v49.1 y60), (decide ((Int.tmod (nth E_i v47.1 y60) 2) = 1))⟩ : T_Siibe)] : List T_Siibe)).length 3)), (q24_13 x19), (q24_14 x19), (143, (vI y53))]) (h := [q24_0, (q24_1 x19), (160, ⟨41, .live, false, [(.sref (174, 68) 0 y52.length 1), (.sref (175, 52) 0 x46.length 1)]⟩), (174, ⟨68, .live, true, flat E_LSiibe y52⟩), (q24_4 x46), (q24_6 v47), (q24_7 v48), (q24_9 v49), (2704, ⟨79, .live, true, flat E_Siibe (y59 ++ ([(⟨(nth E_i v48.1 y60), (nth E_i v49.1 y60), (decide ((Int.tmod (nth E_i v47.1 y60) 2) = 1))⟩ : T_Siibe)] : List T_Siibe))⟩)]) (ep := 82) (by kernel_rfl) ?_
                                    refine .fin rfl ?_
                                    exact jkN (by exact .tn [((32, 1), (32, 1)), ((111, 26), (111, 26)), ((160, 41), (160, 41)), ((174, 68), (174, 68)), ((175, 52), (175, 52)), ((2704, 79), (319, 75)), ((1984, 55), (1984, 55)), ((2032, 58), (2032, 58)), ((2080, 61), (2080, 61))] ⟨rfl, rfl, rfl, rfl, rfl, rfl, rfl, rfl, rfl, rfl, rfl, trivial⟩ ⟨rfl, ⟨_, rfl, rfl⟩, ⟨rfl, ⟨_, rfl, ah_row E_i⟩, ⟨rfl, ⟨_, rfl, rfl⟩, ⟨rfl, ⟨_, rfl, ah_row E_LSiibe⟩, ⟨rfl, ⟨_, rfl, ah_row E_B⟩, ⟨rfl, ⟨_, rfl, ah_row E_Siibe⟩, ⟨rfl, ⟨_, rfl, ah_row E_i⟩, ⟨rfl, ⟨_, rfl, ah_row E_i⟩, ⟨rfl, ⟨_, rfl, ah_row E_i⟩, trivial⟩⟩⟩⟩⟩⟩⟩⟩⟩ rfl) ⟨n, ((y59 ++ ([(⟨(nth E_i v48.1 y60), (nth E_i v49.1 y60), (decide ((Int.tmod (nth E_i v47.1 y60) 2) = 1))⟩ : T_Siibe)] : List T_Siibe)), (w64 (y60 + 1))), Nat.lt_succ_self n, rfl, h⟩
                                  · have h := iF h hc61
                                    refine .exit ?_
                                    refine sqX ?_
                                    refine jkX ?_
                                    refine bkE ?_
                                    exact jkN (by exact .tn [((32, 1), (32, 1)), ((111, 26), (111, 26)), ((160, 41), (160, 41)), ((174, 68), (174, 68)), ((175, 52), (175, 52)), ((319, 75), (319, 78)), ((1984, 55), (1984, 55)), ((2032, 58), (2032, 58)), ((2080, 61), (2080, 61))] ⟨rfl, rfl, rfl, rfl, rfl, rfl, rfl, rfl, rfl, rfl, trivial⟩ ⟨rfl, ⟨_, rfl, rfl⟩, ⟨rfl, ⟨_, rfl, ah_row E_i⟩, ⟨rfl, ⟨_, rfl, rfl⟩, ⟨rfl, ⟨_, rfl, ah_row E_LSiibe⟩, ⟨rfl, ⟨_, rfl, ah_row E_B⟩, ⟨rfl, ⟨_, rfl, ah_row E_Siibe⟩, ⟨rfl, ⟨_, rfl, ah_row E_i⟩, ⟨rfl, ⟨_, rfl, ah_row E_i⟩, ⟨rfl, ⟨_, rfl, ah_row E_i⟩, trivial⟩⟩⟩⟩⟩⟩⟩⟩⟩ rfl) ⟨_, _, rfl, h⟩
                              · rintro _ ⟨x66, x67, rfl, h⟩
                                subst hj58
                                refine sqN ?_
                                refine .rgI rfl ?_
                                refine .seg tabOk 0 3 [2, 10, 13, 14, 15, 16, 141, 142, 143, 171, 172] [32, 111, 160, 174, 175, 319, 1984, 2032, 2080] (t := [(2, (.ptr (32, 1) 0)), (10, (.ptr (160, 41) 0)), (q24_5 v47), (q24_8 v48), (q24_10 v49), (16, (vI x67)), (q24_13 x19), (q24_14 x19), (143, (vI y53)), (171, (.sref (174, 68) 0 y52.length 1)), (172, (.sref (319, 78) 0 x66.length 3))]) (h := [q24_0, (q24_1 x19), (160, ⟨41, .live, false, [(.sref (174, 68) 0 y52.length 1), (.sref (175, 52) 0 x46.length 1)]⟩), (174, ⟨68, .live, true, flat E_LSiibe y52⟩), (q24_4 x46), (319, ⟨78, .live, true, flat E_Siibe x66⟩), (q24_6 v47), (q24_7 v48), (q24_9 v49)]) (ep := 81) (by kernel_rfl) ?_
                                refine .oo tabOk rfl rfl rfl (q_bs E_LSiibe (cs := [(.sref (319, 78) 0 x66.length 3)]) ([x66] : List (List T_Siibe)) rfl rfl rfl rfl rfl rfl (z_row E_Siibe x66 rfl rfl rfl rfl rfl z_nil) rfl rfl rfl) ?_
                                obtain ⟨hb68, h⟩ := gS h
                                refine .oo tabOk rfl rfl rfl (q_app E_LSiibe (l := y52) rfl rfl rfl rfl rfl rfl rfl rfl rfl rfl rfl rfl rfl (.row ([x66] : List (List T_Siibe)) rfl rfl rfl rfl) hb68) ?_
                                refine .seg tabOk 5 2 [2, 10, 13, 14, 15, 16, 141, 142, 143] [32, 111, 160, 175, 1984, 2032, 2080, 2784] (t := [(2, (.ptr (32, 1) 0)), (10, (.ptr (160, 41) 0)), (q24_5 v47), (q24_8 v48), (q24_10 v49), (16, (vI x67)), (q24_13 x19), (q24_14 x19), (143, (vI y53))]) (h := [q24_0, (q24_1 x19), (160, ⟨41, .live, false, [(.sref (2784, 81) 0 (y52 ++ ([x66] : List (List T_Siibe))).length 1), (.sref (175, 52) 0 x46.length 1)]⟩), (q24_4 x46), (q24_6 v47), (q24_7 v48), (q24_9 v49), (2784, ⟨81, .live, true, flat E_LSiibe (y52 ++ ([x66] : List (List T_Siibe)))⟩)]) (ep := 82) (by kernel_rfl) ?_
                                refine .fin rfl ?_
                                refine bkN ?_
                                exact jkN (by exact .tn [((32, 1), (32, 1)), ((111, 26), (111, 26)), ((160, 41), (160, 41)), ((175, 52), (175, 52)), ((1984, 55), (1984, 55)), ((2032, 58), (2032, 58)), ((2080, 61), (2080, 61)), ((2784, 81), (2784, 81))] ⟨rfl, rfl, rfl, rfl, rfl, rfl, rfl, rfl, rfl, trivial⟩ ⟨rfl, ⟨_, rfl, rfl⟩, ⟨rfl, ⟨_, rfl, ah_row E_i⟩, ⟨rfl, ⟨_, rfl, rfl⟩, ⟨rfl, ⟨_, rfl, ah_row E_B⟩, ⟨rfl, ⟨_, rfl, ah_row E_i⟩, ⟨rfl, ⟨_, rfl, ah_row E_i⟩, ⟨rfl, ⟨_, rfl, ah_row E_i⟩, ⟨rfl, ⟨_, rfl, ah_row E_LSiibe⟩, trivial⟩⟩⟩⟩⟩⟩⟩⟩ rfl) ⟨_, _, rfl, h⟩
                            · rintro _ ⟨x69, x70, rfl, h⟩
                              subst hj56
                              refine sqN ?_
                              refine .rgI rfl ?_
                              refine .seg tabOk 0 2 [2, 10, 13, 14, 15, 16, 141, 142, 143] [32, 111, 160, 175, 1984, 2032, 2080, 2784] (t := [(2, (.ptr (32, 1) 0)), (10, (.ptr (160, 41) 0)), (q24_5 v47), (q24_8 v48), (q24_10 v49), (16, (vI x70)), (q24_13 x19), (q24_14 x19), (143, (vI (w64 (y53 + 1))))]) (h := [q24_0, (q24_1 x19), (160, ⟨41, .live, false, [(.sref (2784, 81) 0 x69.length 1), (.sref (175, 52) 0 x46.length 1)]⟩), (q24_4 x46), (q24_6 v47), (q24_7 v48), (q24_9 v49), (2784, ⟨81, .live, true, flat E_LSiibe x69⟩)]) (ep := 85) (by kernel_rfl) ?_
                              refine .fin rfl ?_
                              exact jkN (by exact .tn [((32, 1), (32, 1)), ((111, 26), (111, 26)), ((160, 41), (160, 41)), ((2784, 81), (174, 68)), ((175, 52), (175, 52)), ((1984, 55), (1984, 55)), ((2032, 58), (2032, 58)), ((2080, 61), (2080, 61))] ⟨rfl, rfl, rfl, rfl, rfl, rfl, rfl, rfl, rfl, trivial⟩ ⟨rfl, ⟨_, rfl, rfl⟩, ⟨rfl, ⟨_, rfl, ah_row E_i⟩, ⟨rfl, ⟨_, rfl, rfl⟩, ⟨rfl, ⟨_, rfl, ah_row E_LSiibe⟩, ⟨rfl, ⟨_, rfl, ah_row E_B⟩, ⟨rfl, ⟨_, rfl, ah_row E_i⟩, ⟨rfl, ⟨_, rfl, ah_row E_i⟩, ⟨rfl, ⟨_, rfl, ah_row E_i⟩, trivial⟩⟩⟩⟩⟩⟩⟩⟩ rfl) ⟨n, (x69, (w64 (y53 + 1)), x70), Nat.lt_succ_self n, rfl, h⟩
                          · have h := iF h hc55
                            refine .exit ?_
                            refine sqX ?_
                            refine jkX ?_
                            refine bkE ?_
                            exact jkN (by exact .tn [((32, 1), (32, 1)), ((160, 41), (160, 41)), ((174, 68), (174, 71)), ((175, 52), (175, 52))] ⟨rfl, rfl, trivial⟩ ⟨rfl, ⟨_, rfl, rfl⟩, ⟨rfl, ⟨_, rfl, rfl⟩, ⟨rfl, ⟨_, rfl, ah_row E_LSiibe⟩, ⟨rfl, ⟨_, rfl, ah_row E_B⟩, trivial⟩⟩⟩⟩ rfl) ⟨_, rfl, h⟩
                      · rintro _ ⟨x71, rfl, h⟩
                        subst hj51
                        refine sqN ?_
                        refine .seq ?_
                        refine .rgI rfl ?_
                        refine .seg tabOk 0 3 [2, 3] [32, 174, 175] (t := [(2, (.ptr (32, 1) 0)), (3, (vI 0))]) (h := [(32, ⟨1, .live, false, [(.sref (174, 71) 0 x71.length 1), (.sref (175, 52) 0 x46.length 1)]⟩), (174, ⟨71, .live, true, flat E_LSiibe x71⟩), (q24_4 x46)]) (ep := 74) (by kernel_rfl) ?_
                        refine .fin rfl ?_
                        refine sqN ?_
                        refine .ret ?_
                        injection h with h
                        subst h
                        exact ⟨.inr rfl, _, _, (f_cons (f_mem rfl (o_agg (ol_cons (o1_row E_LSiibe x71 rfl rfl rfl rfl rfl) (ol_cons (o1_row E_B x46 rfl rfl rfl rfl rfl) ol_nil)))) (f_cons rfl f_nil)), nd_of rfl, rfl, rfl⟩
abbrev R_law07_SimpleReads := Bool
def L_law07_SimpleReads_0 (v4 : R_simple_Read) (j13 : Unit → Option R_law07_SimpleReads) : Nat → (List Int) → Int → Option R_law07_SimpleReads
  | 0, _, _ => none
  | n + 1, y14, y15 =>
    if (decide (y15 < (v4.1.f1.length : Int))) then
      gd (0 ≤ y15 ∧ y15 < y14.length) <|
      gd (0 ≤ y15 ∧ y15 < y14.length) <|
      L_law07_SimpleReads_0 v4 j13 n (y14.set (Int.toNat y15) (IntKind.wrap .u8 ((nth E_B y14 y15) + 1))) (w64 (y15 + 1))
    else
    j13 ()
def F_law07_SimpleReads (n : Nat) (a0 : (List Int)) : Option R_law07_SimpleReads :=
  Option.bind (F_law07_alive n ) fun v1 =>
  if (!v1) then
    some false
  else
  Option.bind (F_r02_Copy n a0) fun v3 =>
  Option.bind (F_simple_Read n v3) fun v4 =>
  Option.bind (F_r07_Read n a0) fun v5 =>
  lj (fun (x10 : Bool) =>
    if x10 then
      some false
    else
    lj (fun (_ : Unit) =>
      Option.bind (F_r02_Same n v3 a0) fun v19 =>
      some v19) fun j13 =>
    L_law07_SimpleReads_0 v4 j13 n v4.1.f1 0) fun j11 =>
  if (!decide (v4.2 = v5.2)) then
    j11 true
  else
  Option.bind (F_r07_Same n v4.1.f0 v5.1.f0) fun v7 =>
  if (!v7) then
    j11 true
  else
  Option.bind (F_r02_Same n v4.1.f1 v5.1.f1) fun v9 =>
  j11 (!v9)
abbrev q8_0 (v4 : R_simple_Read) : Nat × Ob := (64, ⟨9, .live, false, [(.sref (240, 9) 0 v4.1.f0.length 1), (.sref (241, 9) 0 v4.1.f1.length 1)]⟩)
abbrev q8_1 (a0 : (List Int)) : Nat × V := (0, (.ro 1 a0.length (flat E_B a0)))
abbrev q8_2 (v4 : R_simple_Read) : Nat × Ob := (240, ⟨9, .live, true, flat E_LSiibe v4.1.f0⟩)
abbrev q8_3 (v3 : R_r02_Copy) : Nat × V := (3, (.sref (192, 6) 0 v3.length 1))
abbrev q8_4 (v3 : R_r02_Copy) : Nat × Ob := (192, ⟨6, .froz, true, flat E_B v3⟩)
abbrev q8_5 (v4 : R_simple_Read) : Nat × Ob := (241, ⟨9, .live, true, flat E_B v4.1.f1⟩)
abbrev q8_6 (v5 : R_r07_Read) : Nat × Ob := (96, ⟨12, .live, false, [(.sref (320, 12) 0 v5.1.f0.length 1), (.sref (321, 12) 0 v5.1.f1.length 1)]⟩)
abbrev q8_7 (v4 : R_simple_Read) : Nat × V := (44, (vI (v4.1.f1.length : Int)))
abbrev q8_8 (v5 : R_r07_Read) : Nat × Ob := (321, ⟨12, .live, true, flat E_B v5.1.f1⟩)
abbrev q8_9 (v5 : R_r07_Read) : Nat × Ob := (320, ⟨12, .live, true, flat E_LSiibe v5.1.f0⟩)
theorem C_law07_SimpleReads (n : Nat) (a0 : (List Int)) (r : R_law07_SimpleReads) (h : F_law07_SimpleReads n a0 = some r) : CallS Try.prog 8 [(.ro 1 a0.length (flat E_B a0))] (.val (.bool r)) [none] := by
  refine CallS.introK tabOk Try.func8 rfl Try.ntmps8 (Nat.le_of_ble_eq_true rfl) ?_
  rw [F_law07_SimpleReads] at h
  refine .seq ?_
  refine .rgI rfl ?_
  refine .seg tabOk 0 1 [0] [] (t := [(q8_1 a0)]) (h := []) (ep := 2) (by kernel_rfl) ?_
  refine .fin rfl ?_
  refine sqN ?_
  refine .seq ?_
  refine .seq ?_
  refine .rgI rfl ?_
  obtain ⟨v1, hv1, h⟩ := bS h
  refine .cc true rfl rfl (C_law07_alive _ _ hv1) ent_law07_alive rfl rfl rfl rfl g_nil rfl ?_
  refine .seg tabOk 1 1 [0, 10] [] (t := [(q8_1 a0), (10, (.val (.bool (!v1))))]) (h := []) (ep := 4) (by kernel_rfl) ?_
  refine .fin rfl ?_
  refine sqN ?_
  refine .cond (!v1) rfl (fun hc2 => ?_) (fun hc2 => ?_)
  · have h := iT h hc2
    refine .seq ?_
    refine .rgI rfl ?_
    refine .seg tabOk 0 1 [2] [] (t := [(2, (.val (.bool false)))]) (h := []) (ep := 6) (by kernel_rfl) ?_
    refine .fin rfl ?_
    refine sqN ?_
    refine .ret ?_
    refine sqR ?_
    injection h with h
    subst h
    exact ⟨.inr rfl, _, _, rfl, List.nodup_nil, rfl, rfl⟩
  · have h := iF h hc2
    refine .skip ?_
    refine sqN ?_
    refine .seq ?_
    refine .rgI rfl ?_
    refine .seg tabOk 0 1 [0, 11] [] (t := [(q8_1 a0), (11, (.ro 1 a0.length (flat E_B a0)))]) (h := []) (ep := 6) (by kernel_rfl) ?_
    obtain ⟨v3, hv3, h⟩ := bS h
    refine .cc true rfl rfl (C_r02_Copy _ _ _ hv3) ent_r02_Copy rfl rfl rfl rfl (g_cons (g_pl rfl rfl) g_nil) rfl ?_
    refine .seg tabOk 2 1 [0, 3] [192] (t := [(q8_1 a0), (q8_3 v3)]) (h := [(192, ⟨6, .live, true, flat E_B v3⟩)]) (ep := 7) (by kernel_rfl) ?_
    refine .fin rfl ?_
    refine sqN ?_
    refine .seq ?_
    refine .rgI rfl ?_
    refine .seg tabOk 0 1 [0, 3, 14] [192] (t := [(q8_1 a0), (q8_3 v3), (14, (.sref (192, 6) 0 v3.length 1))]) (h := [(192, ⟨6, .live, true, flat E_B v3⟩)]) (ep := 9) (by kernel_rfl) ?_
    obtain ⟨v4, hv4, h⟩ := bS h
    refine .cc true rfl rfl (C_simple_Read _ _ _ hv4) ent_simple_Read rfl rfl rfl rfl (g_cons (g_row E_B v3 rfl rfl rfl rfl rfl) g_nil) rfl ?_
    refine .seg tabOk 2 6 [0, 3, 4, 5] [64, 192, 240, 241] (t := [(q8_1 a0), (q8_3 v3), (4, (.ptr (64, 9) 0)), (5, (vI v4.2))]) (h := [(q8_0 v4), (q8_4 v3), (q8_2 v4), (q8_5 v4)]) (ep := 10) (by kernel_rfl) ?_
    refine .fin rfl ?_
    refine sqN ?_
    refine .seq ?_
    refine .rgI rfl ?_
    refine .seg tabOk 0 1 [0, 3, 4, 5, 19] [64, 192, 240, 241] (t := [(q8_1 a0), (q8_3 v3), (4, (.ptr (64, 9) 0)), (5, (vI v4.2)), (19, (.ro 1 a0.length (flat E_B a0)))]) (h := [(q8_0 v4), (q8_4 v3), (q8_2 v4), (q8_5 v4)]) (ep := 12) (by kernel_rfl) ?_
    obtain ⟨v5, hv5, h⟩ := bS h
    refine .cc true rfl rfl (C_r07_Read _ _ _ hv5) ent_r07_Read rfl rfl rfl rfl (g_cons (g_pl rfl rfl) g_nil) rfl ?_
    refine .seg tabOk 2 6 [0, 3, 4, 5, 6, 7] [64, 96, 192, 240, 241, 320, 321] (t := [(q8_1 a0), (q8_3 v3), (4, (.ptr (64, 9) 0)), (5, (vI v4.2)), (6, (.ptr (96, 12) 0)), (7, (vI v5.2))]) (h := [(q8_0 v4), (q8_6 v5), (q8_4 v3), (q8_2 v4), (q8_5 v4), (q8_9 v5), (q8_8 v5)]) (ep := 13) (by kernel_rfl) ?_
    refine .fin rfl ?_
    refine sqN ?_
    refine .seq ?_
    refine .seq ?_
    obtain ⟨j11, hj11, h⟩ := ljS h
    refine .join (fun s' => ∃ x10, s' = ⟨[(q8_1 a0), (q8_3 v3), (4, (.ptr (64, 9) 0)), (41, (.val (.bool x10)))], [(q8_0 v4), (q8_4 v3), (q8_2 v4), (q8_5 v4)], 20⟩ ∧ j11 x10 = some r) ?_ ?_
    · refine .rgI rfl ?_
      refine .seg tabOk 0 4 [0, 3, 4, 6, 26] [64, 96, 192, 240, 241, 320, 321] (t := [(q8_1 a0), (q8_3 v3), (4, (.ptr (64, 9) 0)), (6, (.ptr (96, 12) 0)), (26, (.val (.bool (!decide (v4.2 = v5.2)))))]) (h := [(q8_0 v4), (q8_6 v5), (q8_4 v3), (q8_2 v4), (q8_5 v4), (q8_9 v5), (q8_8 v5)]) (ep := 15) (by kernel_rfl) ?_
      cases hB6 : (!decide (v4.2 = v5.2)) with
      | false =>
        have h := iF h hB6
        refine .seg tabOk 4 4 [0, 3, 4, 6, 26, 28, 30] [64, 96, 192, 240, 241, 320, 321] (t := [(q8_1 a0), (q8_3 v3), (4, (.ptr (64, 9) 0)), (6, (.ptr (96, 12) 0)), (26, (.val (.bool false))), (28, (.sref (240, 9) 0 v4.1.f0.length 1)), (30, (.sref (320, 12) 0 v5.1.f0.length 1))]) (h := [(q8_0 v4), (q8_6 v5), (q8_4 v3), (q8_2 v4), (q8_5 v4), (q8_9 v5), (q8_8 v5)]) (ep := 16) (by kernel_rfl) ?_
        obtain ⟨v7, hv7, h⟩ := bS h
        refine .cc false rfl rfl (C_r07_Same _ _ _ _ hv7) ent_r07_Same rfl rfl rfl rfl (g_cons (g_row E_LSiibe v4.1.f0 rfl rfl rfl rfl rfl) (g_cons (g_row E_LSiibe v5.1.f0 rfl rfl rfl rfl rfl) g_nil)) rfl ?_
        refine .seg tabOk 9 3 [0, 3, 4, 6, 34] [64, 96, 192, 240, 241, 320, 321] (t := [(q8_1 a0), (q8_3 v3), (4, (.ptr (64, 9) 0)), (6, (.ptr (96, 12) 0)), (34, (.val (.bool (!v7))))]) (h := [(q8_0 v4), (q8_6 v5), (q8_4 v3), (q8_2 v4), (q8_5 v4), (q8_9 v5), (q8_8 v5)]) (ep := 17) (by kernel_rfl) ?_
        cases hB8 : (!v7) with
        | false =>
          have h := iF h hB8
          refine .seg tabOk 12 4 [0, 3, 4, 34, 36, 38] [64, 192, 240, 241, 321] (t := [(q8_1 a0), (q8_3 v3), (4, (.ptr (64, 9) 0)), (34, (.val (.bool false))), (36, (.sref (241, 9) 0 v4.1.f1.length 1)), (38, (.sref (321, 12) 0 v5.1.f1.length 1))]) (h := [(q8_0 v4), (q8_4 v3), (q8_2 v4), (q8_5 v4), (q8_8 v5)]) (ep := 18) (by kernel_rfl) ?_
          obtain ⟨v9, hv9, h⟩ := bS h
          refine .cc false rfl rfl (C_r02_Same _ _ _ _ hv9) ent_r02_Same rfl rfl rfl rfl (g_cons (g_row E_B v4.1.f1 rfl rfl rfl rfl rfl) (g_cons (g_row E_B v5.1.f1 rfl rfl rfl rfl rfl) g_nil)) rfl ?_
          refine .seg tabOk 17 2 [0, 3, 4, 41] [64, 192, 240, 241] (t := [(q8_1 a0), (q8_3 v3), (4, (.ptr (64, 9) 0)), (41, (.val (.bool (!v9))))]) (h := [(q8_0 v4), (q8_4 v3), (q8_2 v4), (q8_5 v4)]) (ep := 19) (by kernel_rfl) ?_
          refine .fin rfl ?_
          exact jkN (by exact .tn [((64, 9), (64, 9)), ((192, 6), (192, 6)), ((240, 9), (240, 9)), ((241, 9), (241, 9))] ⟨rfl, rfl, rfl, rfl, trivial⟩ ⟨rfl, ⟨_, rfl, rfl⟩, ⟨rfl, ⟨_, rfl, ah_row E_B⟩, ⟨rfl, ⟨_, rfl, ah_row E_LSiibe⟩, ⟨rfl, ⟨_, rfl, ah_row E_B⟩, trivial⟩⟩⟩⟩ rfl) ⟨_, rfl, h⟩
        | true =>
          have h := iT h hB8
          refine .seg tabOk 12 7 [0, 3, 4, 41] [64, 192, 240, 241] (t := [(q8_1 a0), (q8_3 v3), (4, (.ptr (64, 9) 0)), (41, (.val (.bool true)))]) (h := [(q8_0 v4), (q8_4 v3), (q8_2 v4), (q8_5 v4)]) (ep := 18) (by kernel_rfl) ?_
          refine .fin rfl ?_
          exact jkN (by exact .tn [((64, 9), (64, 9)), ((192, 6), (192, 6)), ((240, 9), (240, 9)), ((241, 9), (241, 9))] ⟨rfl, rfl, rfl, rfl, trivial⟩ ⟨rfl, ⟨_, rfl, rfl⟩, ⟨rfl, ⟨_, rfl, ah_row E_B⟩, ⟨rfl, ⟨_, rfl, ah_row E_LSiibe⟩, ⟨rfl, ⟨_, rfl, ah_row E_B⟩, trivial⟩⟩⟩⟩ rfl) ⟨_, rfl, h⟩
      | true =>
        have h := iT h hB6
        refine .seg tabOk 4 15 [0, 3, 4, 41] [64, 192, 240, 241] (t := [(q8_1 a0), (q8_3 v3), (4, (.ptr (64, 9) 0)), (41, (.val (.bool true)))]) (h := [(q8_0 v4), (q8_4 v3), (q8_2 v4), (q8_5 v4)]) (ep := 16) (by kernel_rfl) ?_
        refine .fin rfl ?_
        exact jkN (by exact .tn [((64, 9), (64, 9)), ((192, 6), (192, 6)), ((240, 9), (240, 9)), ((241, 9), (241, 9))] ⟨rfl, rfl, rfl, rfl, trivial⟩ ⟨rfl, ⟨_, rfl, rfl⟩, ⟨rfl, ⟨_, rfl, ah_row E_B⟩, ⟨rfl, ⟨_, rfl, ah_row E_LSiibe⟩, ⟨rfl, ⟨_, rfl, ah_row E_B⟩, trivial⟩⟩⟩⟩ rfl) ⟨_, rfl, h⟩
    · rintro _ ⟨x10, rfl, h⟩
      subst hj11
      refine sqN ?_
      refine .cond x10 rfl (fun hc12 => ?_) (fun hc12 => ?_)
      · have h := iT h hc12
        refine .seq ?_
        refine .rgI rfl ?_
        refine .seg tabOk 0 1 [2] [] (t := [(2, (.val (.bool false)))]) (h := []) (ep := 22) (by kernel_rfl) ?_
        refine .fin rfl ?_
        refine sqN ?_
        refine .ret ?_
        refine sqR ?_
        injection h with h
        subst h
        exact ⟨.inr rfl, _, _, rfl, List.nodup_nil, rfl, rfl⟩
      · have h := iF h hc12
        refine .skip ?_
        refine sqN ?_
        refine .seq ?_
        refine .seq ?_
        refine .rgI rfl ?_
        refine .seg tabOk 0 4 [0, 3, 4, 44, 45] [64, 192, 240, 241] (t := [(q8_1 a0), (q8_3 v3), (4, (.ptr (64, 9) 0)), (q8_7 v4), (45, (vI 0))]) (h := [(q8_0 v4), (q8_4 v3), (q8_2 v4), (q8_5 v4)]) (ep := 22) (by kernel_rfl) ?_
        refine .fin rfl ?_
        refine sqN ?_
        obtain ⟨j13, hj13, h⟩ := ljS h
        refine .join (fun s' => s' = ⟨[(q8_1 a0), (q8_3 v3)], [(q8_4 v3)], 26⟩ ∧ j13 () = some r) ?_ ?_
        · refine .block ?_
          refine .loopF (β := (List Int) × Int) (fun v => ⟨[(q8_1 a0), (q8_3 v3), (4, (.ptr (64, 9) 0)), (q8_7 v4), (45, (vI v.2))], [(64, ⟨9, .live, false, [(.sref (240, 9) 0 v4.1.f0.length 1), (.sref (241, 9) 0 v.1.length 1)]⟩), (q8_4 v3), (q8_2 v4), (241, ⟨9, .live, true, flat E_B v.1⟩)], 23⟩) (fun m v => L_law07_SimpleReads_0 v4 j13 m v.1 v.2 = some r) n (v4.1.f1, 0) (by exact .tn [((64, 9), (64, 9)), ((192, 6), (192, 6)), ((240, 9), (240, 9)), ((241, 9), (241, 9))] ⟨rfl, rfl, rfl, rfl, rfl, trivial⟩ ⟨rfl, ⟨_, rfl, rfl⟩, ⟨rfl, ⟨_, rfl, ah_row E_B⟩, ⟨rfl, ⟨_, rfl, ah_row E_LSiibe⟩, ⟨rfl, ⟨_, rfl, ah_row E_B⟩, trivial⟩⟩⟩⟩ rfl) h ?_
          rintro m ⟨y14, y15⟩ h
          cases m with
          | zero => exact nomatch h
          | succ n =>
            rw [L_law07_SimpleReads_0] at h
            refine .seq ?_
            refine .rgI rfl ?_
            refine .seg tabOk 0 1 [0, 3, 4, 44, 45, 46] [64, 192, 240, 241] (t := [(q8_1 a0), (q8_3 v3), (4, (.ptr (64, 9) 0)), (q8_7 v4), (45, (vI y15)), (46, (.val (.bool (decide (y15 < (v4.1.f1.length : Int))))))]) (h := [(64, ⟨9, .live, false, [(.sref (240, 9) 0 v4.1.f0.length 1), (.sref (241, 9) 0 y14.length 1)]⟩), (q8_4 v3), (q8_2 v4), (241, ⟨9, .live, true, flat E_B y14⟩)]) (ep := 25) (by kernel_rfl) ?_
            refine .fin rfl ?_
            refine sqN ?_
            refine .seq ?_
            refine .cond (decide (y15 < (v4.1.f1.length : Int))) rfl (fun hc16 => ?_) (fun hc16 => ?_)
            · have h := iT h hc16
              refine .skip ?_
              refine sqN ?_
              refine .seq ?_
              refine .block ?_
              refine .seq ?_
              refine .rgI rfl ?_
              refine .seg tabOk 0 2 [0, 3, 4, 8, 44, 45] [64, 192, 240, 241] (t := [(q8_1 a0), (q8_3 v3), (4, (.ptr (64, 9) 0)), (8, (vI y15)), (q8_7 v4), (45, (vI y15))]) (h := [(64, ⟨9, .live, false, [(.sref (240, 9) 0 v4.1.f0.length 1), (.sref (241, 9) 0 y14.length 1)]⟩), (q8_4 v3), (q8_2 v4), (241, ⟨9, .live, true, flat E_B y14⟩)]) (ep := 27) (by kernel_rfl) ?_
              refine .fin rfl ?_
              refine sqN ?_
              refine .rgD rfl ?_
              refine .seg tabOk 0 6 [0, 3, 4, 44, 45, 49, 50, 52, 53] [64, 192, 240, 241] (t := [(q8_1 a0), (q8_3 v3), (4, (.ptr (64, 9) 0)), (q8_7 v4), (45, (vI y15)), (49, (.sref (241, 9) 0 y14.length 1)), (50, (vI y15)), (52, (.sref (241, 9) 0 y14.length 1)), (53, (vI y15))]) (h := [(64, ⟨9, .live, false, [(.sref (240, 9) 0 v4.1.f0.length 1), (.sref (241, 9) 0 y14.length 1)]⟩), (q8_4 v3), (q8_2 v4), (241, ⟨9, .live, true, flat E_B y14⟩)]) (ep := 28) (by kernel_rfl) ?_
              obtain ⟨hb17, h⟩ := gS h
              refine .oo tabOk rfl rfl rfl (q_idxS E_B (l := y14) rfl rfl rfl rfl rfl rfl rfl rfl hb17) rfl ?_
              refine .oo tabOk rfl rfl rfl (q_ldS E_B (l := y14) rfl rfl rfl rfl rfl hb17 rfl) rfl ?_
              refine .seg tabOk 8 1 [0, 3, 4, 44, 45, 49, 50, 56] [64, 192, 240, 241] (t := [(q8_1 a0), (q8_3 v3), (4, (.ptr (64, 9) 0)), (q8_7 v4), (45, (vI y15)), (49, (.sref (241, 9) 0 y14.length 1)), (50, (vI y15)), (56, (.val (.int .u8 (IntKind.wrap .u8 ((nth E_B y14 y15) + 1)))))]) (h := [(64, ⟨9, .live, false, [(.sref (240, 9) 0 v4.1.f0.length 1), (.sref (241, 9) 0 y14.length 1)]⟩), (q8_4 v3), (q8_2 v4), (241, ⟨9, .live, true, flat E_B y14⟩)]) (ep := 28) (by kernel_rfl) ?_
              obtain ⟨hb18, h⟩ := gS h
              refine .oo tabOk rfl rfl rfl (q_idxS E_B (l := y14) rfl rfl rfl rfl rfl rfl rfl rfl hb18) rfl ?_
              refine .oo tabOk rfl rfl rfl (q_stS E_B (l := y14) (v := (IntKind.wrap .u8 ((nth E_B y14 y15) + 1))) rfl rfl rfl rfl rfl rfl rfl rfl hb18) rfl ?_
              refine .seg tabOk 11 0 [0, 3, 4, 44, 45] [64, 192, 240, 241] (t := [(q8_1 a0), (q8_3 v3), (4, (.ptr (64, 9) 0)), (q8_7 v4), (45, (vI y15))]) (h := [(64, ⟨9, .live, false, [(.sref (240, 9) 0 v4.1.f0.length 1), (.sref (241, 9) 0 y14.length 1)]⟩), (q8_4 v3), (q8_2 v4), (241, ⟨9, .live, true, flat E_B (y14.set (Int.toNat y15) (IntKind.wrap .u8 ((nth E_B y14 y15) + 1)))⟩)]) (ep := 28) (by kernel_rfl) ?_
              refine .fin mixed [0, 3, 4, 44, 45] [64, 192, 240, 241] (t := [(q8_1 a0), (q8_3 v3), (4, (.ptr (64, 9) 0)), (q8_7 v4), (45, (vI y15))]) (h := [(64, ⟨9, .live, false, [(.sref (240, 9) 0 v4.1.f0.length 1), (.sref (241, 9) 0 y14.length 1)]⟩), (q8_4 v3), (q8_2 v4), (241, ⟨9, .live, true, flat E_B (y14.set (Int.toNat y15) (IntKind.wrap .u8 ((nth E_B y14 y15) + 1)))⟩)]) (ep := 29) rfl (by kernel_rfl) rfl ?_
              refine bkN ?_
              refine sqN ?_
              refine .rgI rfl ?_
              refine .seg tabOk 0 2 [0, 3, 4, 44, 45] [64, 192, 240, 241] (t := [(q8_1 a0), (q8_3 v3), (4, (.ptr (64, 9) 0)), (q8_7 v4), (45, (vI (w64 (y15 + 1))))]) (h := [(64, ⟨9, .live, false, [(.sref (240, 9) 0 v4.1.f0.length 1), (.sref (241, 9) 0 y14.length 1)]⟩), (q8_4 v3), (q8_2 v4), (241, ⟨9, .live, true, flat E_B (y14.set (Int.toNat y15) (IntKind.wrap .u8 ((nth E_B y14 y15) + 1)))⟩)]) (ep := 31) (by kernel_rfl) ?_
              refine .fin rfl ?_
              exact jkN (by exact .tn [((64, 9), (64, 9)), ((192, 6), (192, 6)), ((240, 9), (240, 9)), ((241, 9), (241, 9))] ⟨rfl, rfl, rfl, rfl, rfl, trivial⟩ ⟨rfl, ⟨_, rfl, (by simp only [List.length_set]; rfl)⟩, ⟨rfl, ⟨_, rfl, ah_row E_B⟩, ⟨rfl, ⟨_, rfl, ah_row E_LSiibe⟩, ⟨rfl, ⟨_, rfl, ah_row E_B⟩, trivial⟩⟩⟩⟩ rfl) ⟨n, ((y14.set (Int.toNat y15) (IntKind.wrap .u8 ((nth E_B y14 y15) + 1))), (w64 (y15 + 1))), Nat.lt_succ_self n, rfl, h⟩
            · have h := iF h hc16
              refine .exit ?_
              refine sqX ?_
              refine jkX ?_
              refine bkE ?_
              exact jkN (by exact .tn [((192, 6), (192, 6))] ⟨rfl, rfl, trivial⟩ ⟨rfl, ⟨_, rfl, ah_row E_B⟩, trivial⟩ rfl) ⟨rfl, h⟩
        · rintro _ ⟨rfl, h⟩
          subst hj13
          refine sqN ?_
          refine .seq ?_
          refine .rgI rfl ?_
          refine .seg tabOk 0 2 [59, 60] [192] (t := [(59, (.sref (192, 6) 0 v3.length 1)), (60, (.ro 1 a0.length (flat E_B a0)))]) (h := [(q8_4 v3)]) (ep := 28) (by kernel_rfl) ?_
          obtain ⟨v19, hv19, h⟩ := bS h
          refine .cc true rfl rfl (C_r02_Same _ _ _ _ hv19) ent_r02_Same rfl rfl rfl rfl (g_cons (g_rowF E_B v3 rfl rfl rfl rfl rfl) (g_cons (g_pl rfl rfl) g_nil)) rfl ?_
          refine .seg tabOk 3 1 [2] [] (t := [(2, (.val (.bool v19)))]) (h := []) (ep := 29) (by kernel_rfl) ?_
          refine .fin rfl ?_
          refine sqN ?_
          refine .ret ?_
          injection h with h
          subst h
          exact ⟨.inr rfl, _, _, rfl, List.nodup_nil, rfl, rfl⟩
end Go.Proofs.Ytgkekjfbacncoaa
