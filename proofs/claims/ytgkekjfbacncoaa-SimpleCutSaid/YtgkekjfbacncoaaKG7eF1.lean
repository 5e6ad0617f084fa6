/- Printed by a program: shallow functions of the Go functions, and the proofs that the Go functions come to their answers. -/
import Derived.Test.YtgkekjfbacncoaaKG7eT
set_option linter.unusedVariables false
open Go Go.Ab
namespace Go.Proofs.Ytgkekjfbacncoaa
abbrev R_be_there := Bool
def F_be_there (n : Nat) (a0 : (List Int)) (a1 : Int) (a2 : Int) : Option R_be_there :=
  if (decide (0 ≤ a1)) then
    if (decide (0 ≤ a2)) then
      if (decide (a1 ≤ (a0.length : Int))) then
        some (decide (a2 ≤ (w64 ((a0.length : Int) - a1))))
      else
      some false
    else
    some false
  else
  some false
abbrev q61_0 (a0 : (List Int)) : Nat × V := (0, (.ro 1 a0.length (flat E_B a0)))
theorem C_be_there (n : Nat) (a0 : (List Int)) (a1 : Int) (a2 : Int) (r : R_be_there) (h : F_be_there n a0 a1 a2 = some r) : CallS Try.prog 61 [(.ro 1 a0.length (flat E_B a0)), (vI a1), (vI a2)] (.val (.bool r)) [none, none, none] := by
  refine CallS.introK tabOk Try.func61 rfl Try.ntmps61 (Nat.le_of_ble_eq_true rfl) ?_
  rw [F_be_there] at h
  refine .seq ?_
  refine .rgI rfl ?_
  refine .seg tabOk 0 1 [0, 1, 2] [] (t := [(q61_0 a0), (1, (vI a1)), (2, (vI a2))]) (h := []) (ep := 2) (by kernel_rfl) ?_
  refine .fin rfl ?_
  refine sqN ?_
  refine .seq ?_
  refine .rgI rfl ?_
  refine .seg tabOk 0 3 [0, 1, 2, 9] [] (t := [(q61_0 a0), (1, (vI a1)), (2, (vI a2)), (9, (.val (.bool (decide (0 ≤ a1)))))]) (h := []) (ep := 4) (by kernel_rfl) ?_
  cases hB1 : (decide (0 ≤ a1)) with
  | false =>
    have h := iF h hB1
    refine .seg tabOk 3 18 [6] [] (t := [(6, (.val (.bool false)))]) (h := []) (ep := 5) (by kernel_rfl) ?_
    refine .fin rfl ?_
    refine sqN ?_
    refine .ret ?_
    injection h with h
    subst h
    exact ⟨.inr rfl, _, _, rfl, List.nodup_nil, rfl, rfl⟩
  | true =>
    have h := iT h hB1
    refine .seg tabOk 3 4 [0, 1, 2, 13] [] (t := [(q61_0 a0), (1, (vI a1)), (2, (vI a2)), (13, (.val (.bool (decide (0 ≤ a2)))))]) (h := []) (ep := 5) (by kernel_rfl) ?_
    cases hB2 : (decide (0 ≤ a2)) with
    | false =>
      have h := iF h hB2
      refine .seg tabOk 7 14 [6] [] (t := [(6, (.val (.bool false)))]) (h := []) (ep := 6) (by kernel_rfl) ?_
      refine .fin rfl ?_
      refine sqN ?_
      refine .ret ?_
      injection h with h
      subst h
      exact ⟨.inr rfl, _, _, rfl, List.nodup_nil, rfl, rfl⟩
    | true =>
      have h := iT h hB2
      refine .seg tabOk 7 6 [0, 1, 2, 19] [] (t := [(q61_0 a0), (1, (vI a1)), (2, (vI a2)), (19, (.val (.bool (decide (a1 ≤ (a0.length : Int))))))]) (h := []) (ep := 6) (by kernel_rfl) ?_
      cases hB3 : (decide (a1 ≤ (a0.length : Int))) with
      | false =>
        have h := iF h hB3
        refine .seg tabOk 13 8 [6] [] (t := [(6, (.val (.bool false)))]) (h := []) (ep := 7) (by kernel_rfl) ?_
        refine .fin rfl ?_
        refine sqN ?_
        refine .ret ?_
        injection h with h
        subst h
        exact ⟨.inr rfl, _, _, rfl, List.nodup_nil, rfl, rfl⟩
      | true =>
        have h := iT h hB3
        refine .seg tabOk 13 8 [6] [] (t := [(6, (.val (.bool (decide (a2 ≤ (w64 ((a0.length : Int) - a1)))))))]) (h := []) (ep := 7) (by kernel_rfl) ?_
        refine .fin rfl ?_
        refine sqN ?_
        refine .ret ?_
        injection h with h
        subst h
        exact ⟨.inr rfl, _, _, rfl, List.nodup_nil, rfl, rfl⟩
abbrev R_be_U := Int × Int
def L_be_U_0 (a0 : (List Int)) (a1 : Int) (a2 : Int) (j6 : Int → Option R_be_U) : Nat → Int → Int → Option R_be_U
  | 0, _, _ => none
  | n + 1, y7, y8 =>
    if (decide (y7 < ((slc a0 a1 (w64 (a1 + a2))).length : Int))) then
      gd (0 ≤ y7 ∧ y7 < (slc a0 a1 (w64 (a1 + a2))).length) <|
      L_be_U_0 a0 a1 a2 j6 n (w64 (y7 + 1)) (bits .or .i64 (w64 (y8 * 2 ^ 8)) (w64 ((nth E_B (slc a0 a1 (w64 (a1 + a2))) y7))))
    else
    j6 y8
def F_be_U (n : Nat) (a0 : (List Int)) (a1 : Int) (a2 : Int) : Option R_be_U :=
  if ((decide (a2 < 1)) || (decide (4 < a2))) then
    some (0, 2)
  else
  Option.bind (F_be_there n a0 a1 a2) fun v3 =>
  if (!v3) then
    some (0, 3)
  else
  gd (0 ≤ a1 ∧ a1 ≤ (w64 (a1 + a2)) ∧ (w64 (a1 + a2)) ≤ (a0.length : Int)) <|
  lj (fun (x11 : Int) =>
    some (x11, 0)) fun j6 =>
  L_be_U_0 a0 a1 a2 j6 n 0 0
abbrev q64_0 (a0 : (List Int)) (a1 : Int) (a2 : Int) : Nat × V := (29, (.ro 1 (slc a0 a1 (w64 (a1 + a2))).length (flat E_B (slc a0 a1 (w64 (a1 + a2))))))
abbrev q64_1 (a0 : (List Int)) (a1 : Int) (a2 : Int) : Nat × V := (30, (vI ((slc a0 a1 (w64 (a1 + a2))).length : Int)))
abbrev q64_2 (a0 : (List Int)) : Nat × V := (0, (.ro 1 a0.length (flat E_B a0)))
theorem C_be_U (n : Nat) (a0 : (List Int)) (a1 : Int) (a2 : Int) (r : R_be_U) (h : F_be_U n a0 a1 a2 = some r) : CallS Try.prog 64 [(.ro 1 a0.length (flat E_B a0)), (vI a1), (vI a2)] (.tup [(vI r.1), (vI r.2)]) [none, none, none] := by
  refine CallS.introK tabOk Try.func64 rfl Try.ntmps64 (Nat.le_of_ble_eq_true rfl) ?_
  rw [F_be_U] at h
  refine .seq ?_
  refine .rgI rfl ?_
  refine .seg tabOk 0 2 [0, 1, 2] [] (t := [(q64_2 a0), (1, (vI a1)), (2, (vI a2))]) (h := []) (ep := 2) (by kernel_rfl) ?_
  refine .fin rfl ?_
  refine sqN ?_
  refine .seq ?_
  refine .block ?_
  refine .seq ?_
  refine .join (fun s' => s' = ⟨[(q64_2 a0), (1, (vI a1)), (2, (vI a2)), (11, (.val (.bool ((decide (a2 < 1)) || (decide (4 < a2))))))], [], 6⟩) ?_ ?_
  · refine .rgI rfl ?_
    refine .seg tabOk 0 3 [0, 1, 2, 14] [] (t := [(q64_2 a0), (1, (vI a1)), (2, (vI a2)), (14, (.val (.bool (decide (a2 < 1)))))]) (h := []) (ep := 4) (by kernel_rfl) ?_
    cases hB1 : (decide (a2 < 1)) with
    | false =>
      skip
      refine .seg tabOk 3 4 [0, 1, 2, 11] [] (t := [(q64_2 a0), (1, (vI a1)), (2, (vI a2)), (11, (.val (.bool (decide (4 < a2)))))]) (h := []) (ep := 5) (by kernel_rfl) ?_
      refine .fin rfl ?_
      exact jkN (by exact .tn [] ⟨rfl, rfl, rfl, rfl, trivial⟩ trivial rfl) rfl
    | true =>
      skip
      refine .seg tabOk 3 4 [0, 1, 2, 11] [] (t := [(q64_2 a0), (1, (vI a1)), (2, (vI a2)), (11, (.val (.bool true)))]) (h := []) (ep := 5) (by kernel_rfl) ?_
      refine .fin rfl ?_
      exact jkN (by exact .tn [] ⟨rfl, rfl, rfl, rfl, trivial⟩ trivial rfl) rfl
  · rintro _ rfl
    refine sqN ?_
    refine .cond ((decide (a2 < 1)) || (decide (4 < a2))) rfl (fun hc2 => ?_) (fun hc2 => ?_)
    · have h := iT h hc2
      refine .seq ?_
      refine .rgI rfl ?_
      refine .seg tabOk 0 2 [6, 7] [] (t := [(6, (vI 0)), (7, (vI 2))]) (h := []) (ep := 8) (by kernel_rfl) ?_
      refine .fin rfl ?_
      refine sqN ?_
      refine .ret ?_
      refine bkR ?_
      refine sqR ?_
      injection h with h
      subst h
      exact ⟨.inr rfl, _, _, rfl, List.nodup_nil, rfl, rfl⟩
    · have h := iF h hc2
      refine .seq ?_
      refine .rgI rfl ?_
      refine .seg tabOk 0 3 [0, 1, 2, 19, 20, 21] [] (t := [(q64_2 a0), (1, (vI a1)), (2, (vI a2)), (19, (.ro 1 a0.length (flat E_B a0))), (20, (vI a1)), (21, (vI a2))]) (h := []) (ep := 8) (by kernel_rfl) ?_
      obtain ⟨v3, hv3, h⟩ := bS h
      refine .cc true rfl rfl (C_be_there _ _ _ _ _ hv3) ent_be_there rfl rfl rfl rfl (g_cons (g_pl rfl rfl) (g_cons (g_pl rfl rfl) (g_cons (g_pl rfl rfl) g_nil))) rfl ?_
      refine .seg tabOk 4 2 [0, 1, 2, 18] [] (t := [(q64_2 a0), (1, (vI a1)), (2, (vI a2)), (18, (.val (.bool (!v3))))]) (h := []) (ep := 9) (by kernel_rfl) ?_
      refine .fin rfl ?_
      refine sqN ?_
      refine .cond (!v3) rfl (fun hc4 => ?_) (fun hc4 => ?_)
      · have h := iT h hc4
        refine .seq ?_
        refine .rgI rfl ?_
        refine .seg tabOk 0 2 [6, 7] [] (t := [(6, (vI 0)), (7, (vI 3))]) (h := []) (ep := 11) (by kernel_rfl) ?_
        refine .fin rfl ?_
        refine sqN ?_
        refine .ret ?_
        refine bkR ?_
        refine sqR ?_
        injection h with h
        subst h
        exact ⟨.inr rfl, _, _, rfl, List.nodup_nil, rfl, rfl⟩
      · have h := iF h hc4
        refine .skip ?_
        refine bkN ?_
        refine sqN ?_
        refine .seq ?_
        refine .rgI rfl ?_
        refine .seg tabOk 0 1 [0, 1, 2, 8] [] (t := [(q64_2 a0), (1, (vI a1)), (2, (vI a2)), (8, (vI 0))]) (h := []) (ep := 11) (by kernel_rfl) ?_
        refine .fin rfl ?_
        refine sqN ?_
        refine .seq ?_
        refine .seq ?_
        refine .rgI rfl ?_
        refine .seg tabOk 0 5 [8, 24, 25, 28] [] (t := [(8, (vI 0)), (24, (.ro 1 a0.length (flat E_B a0))), (25, (vI a1)), (28, (vI (w64 (a1 + a2))))]) (h := []) (ep := 13) (by kernel_rfl) ?_
        obtain ⟨hb5, h⟩ := gS h
        refine .o tabOk rfl rfl rfl (q_slLH E_B rfl rfl rfl rfl rfl rfl rfl hb5) ?_
        refine .seg tabOk 6 2 [8, 29, 30, 31] [] (t := [(8, (vI 0)), (q64_0 a0 a1 a2), (q64_1 a0 a1 a2), (31, (vI 0))]) (h := []) (ep := 14) (by kernel_rfl) ?_
        refine .fin rfl ?_
        refine sqN ?_
        obtain ⟨j6, hj6, h⟩ := ljS h
        refine .join (fun s' => ∃ x11, s' = ⟨[(8, (vI x11))], [], 18⟩ ∧ j6 x11 = some r) ?_ ?_
        · refine .block ?_
          refine .loopF (β := Int × Int) (fun v => ⟨[(8, (vI v.2)), (q64_0 a0 a1 a2), (q64_1 a0 a1 a2), (31, (vI v.1))], [], 15⟩) (fun m v => L_be_U_0 a0 a1 a2 j6 m v.1 v.2 = some r) n (0, 0) (by exact .tn [] ⟨rfl, rfl, rfl, rfl, trivial⟩ trivial rfl) h ?_
          rintro m ⟨y7, y8⟩ h
          cases m with
          | zero => exact nomatch h
          | succ n =>
            rw [L_be_U_0] at h
            refine .seq ?_
            refine .rgI rfl ?_
            refine .seg tabOk 0 1 [8, 29, 30, 31, 32] [] (t := [(8, (vI y8)), (q64_0 a0 a1 a2), (q64_1 a0 a1 a2), (31, (vI y7)), (32, (.val (.bool (decide (y7 < ((slc a0 a1 (w64 (a1 + a2))).length : Int))))))]) (h := []) (ep := 17) (by kernel_rfl) ?_
            refine .fin rfl ?_
            refine sqN ?_
            refine .seq ?_
            refine .cond (decide (y7 < ((slc a0 a1 (w64 (a1 + a2))).length : Int))) rfl (fun hc9 => ?_) (fun hc9 => ?_)
            · have h := iT h hc9
              refine .skip ?_
              refine sqN ?_
              refine .seq ?_
              refine .block ?_
              refine .seq ?_
              refine .rgI rfl ?_
              obtain ⟨hb10, h⟩ := gS h
              refine .o tabOk rfl rfl rfl (q_idx E_B rfl rfl rfl rfl rfl rfl hb10) ?_
              refine .o tabOk rfl rfl rfl (q_ld0 E_B rfl rfl rfl hb10 rfl) ?_
              refine .seg tabOk 2 1 [8, 10, 29, 30, 31] [] (t := [(8, (vI y8)), (10, (.val (.int .u8 (nth E_B (slc a0 a1 (w64 (a1 + a2))) y7)))), (q64_0 a0 a1 a2), (q64_1 a0 a1 a2), (31, (vI y7))]) (h := []) (ep := 19) (by kernel_rfl) ?_
              refine .fin rfl ?_
              refine sqN ?_
              refine .rgI rfl ?_
              refine .seg tabOk 0 6 [8, 29, 30, 31] [] (t := [(8, (vI (bits .or .i64 (w64 (y8 * 2 ^ 8)) (w64 ((nth E_B (slc a0 a1 (w64 (a1 + a2))) y7)))))), (q64_0 a0 a1 a2), (q64_1 a0 a1 a2), (31, (vI y7))]) (h := []) (ep := 21) (by kernel_rfl) ?_
              refine .fin rfl ?_
              refine bkN ?_
              refine sqN ?_
              refine .rgI rfl ?_
              refine .seg tabOk 0 2 [8, 29, 30, 31] [] (t := [(8, (vI (bits .or .i64 (w64 (y8 * 2 ^ 8)) (w64 ((nth E_B (slc a0 a1 (w64 (a1 + a2))) y7)))))), (q64_0 a0 a1 a2), (q64_1 a0 a1 a2), (31, (vI (w64 (y7 + 1))))]) (h := []) (ep := 23) (by kernel_rfl) ?_
              refine .fin rfl ?_
              exact jkN (by exact .tn [] ⟨rfl, rfl, rfl, rfl, trivial⟩ trivial rfl) ⟨n, ((w64 (y7 + 1)), (bits .or .i64 (w64 (y8 * 2 ^ 8)) (w64 ((nth E_B (slc a0 a1 (w64 (a1 + a2))) y7))))), Nat.lt_succ_self n, rfl, h⟩
            · have h := iF h hc9
              refine .exit ?_
              refine sqX ?_
              refine jkX ?_
              refine bkE ?_
              exact jkN (by exact .tn [] ⟨rfl, trivial⟩ trivial rfl) ⟨_, rfl, h⟩
        · rintro _ ⟨x11, rfl, h⟩
          subst hj6
          refine sqN ?_
          refine .seq ?_
          refine .rgI rfl ?_
          refine .seg tabOk 0 3 [6, 7] [] (t := [(6, (vI x11)), (7, (vI 0))]) (h := []) (ep := 20) (by kernel_rfl) ?_
          refine .fin rfl ?_
          refine sqN ?_
          refine .ret ?_
          injection h with h
          subst h
          exact ⟨.inr rfl, _, _, rfl, List.nodup_nil, rfl, rfl⟩
abbrev R_be_S := Int × Int
def F_be_S (n : Nat) (a0 : (List Int)) (a1 : Int) (a2 : Int) : Option R_be_S :=
  Option.bind (F_be_U n a0 a1 a2) fun v1 =>
  if (!decide (v1.2 = 0)) then
    some (0, v1.2)
  else
  gd (0 ≤ (w64 (64 - (w64 (8 * a2))))) <|
  gd (0 ≤ (w64 (64 - (w64 (8 * a2))))) <|
  some ((Int.fdiv (w64 (v1.1 * 2 ^ (min (Int.toNat (w64 (64 - (w64 (8 * a2))))) 64))) (2 ^ (min (Int.toNat (w64 (64 - (w64 (8 * a2))))) 64))), 0)
theorem C_be_S (n : Nat) (a0 : (List Int)) (a1 : Int) (a2 : Int) (r : R_be_S) (h : F_be_S n a0 a1 a2 = some r) : CallS Try.prog 47 [(.ro 1 a0.length (flat E_B a0)), (vI a1), (vI a2)] (.tup [(vI r.1), (vI r.2)]) [none, none, none] := by
  refine CallS.introK tabOk Try.func47 rfl Try.ntmps47 (Nat.le_of_ble_eq_true rfl) ?_
  rw [F_be_S] at h
  refine .seq ?_
  refine .rgI rfl ?_
  refine .seg tabOk 0 2 [0, 1, 2] [] (t := [(0, (.ro 1 a0.length (flat E_B a0))), (1, (vI a1)), (2, (vI a2))]) (h := []) (ep := 2) (by kernel_rfl) ?_
  refine .fin rfl ?_
  refine sqN ?_
  refine .seq ?_
  refine .rgI rfl ?_
  refine .seg tabOk 0 3 [2, 12, 13, 14] [] (t := [(2, (vI a2)), (12, (.ro 1 a0.length (flat E_B a0))), (13, (vI a1)), (14, (vI a2))]) (h := []) (ep := 4) (by kernel_rfl) ?_
  obtain ⟨v1, hv1, h⟩ := bS h
  refine .cc true rfl rfl (C_be_U _ _ _ _ _ hv1) ent_be_U rfl rfl rfl rfl (g_cons (g_pl rfl rfl) (g_cons (g_pl rfl rfl) (g_cons (g_pl rfl rfl) g_nil))) rfl ?_
  refine .seg tabOk 4 5 [2, 8, 9] [] (t := [(2, (vI a2)), (8, (vI v1.1)), (9, (vI v1.2))]) (h := []) (ep := 5) (by kernel_rfl) ?_
  refine .fin rfl ?_
  refine sqN ?_
  refine .seq ?_
  refine .seq ?_
  refine .rgI rfl ?_
  refine .seg tabOk 0 2 [2, 8, 9, 19] [] (t := [(2, (vI a2)), (8, (vI v1.1)), (9, (vI v1.2)), (19, (.val (.bool (!decide (v1.2 = 0)))))]) (h := []) (ep := 7) (by kernel_rfl) ?_
  refine .fin rfl ?_
  refine sqN ?_
  refine .cond (!decide (v1.2 = 0)) rfl (fun hc2 => ?_) (fun hc2 => ?_)
  · have h := iT h hc2
    refine .seq ?_
    refine .rgI rfl ?_
    refine .seg tabOk 0 3 [6, 7] [] (t := [(6, (vI 0)), (7, (vI v1.2))]) (h := []) (ep := 9) (by kernel_rfl) ?_
    refine .fin rfl ?_
    refine sqN ?_
    refine .ret ?_
    refine sqR ?_
    injection h with h
    subst h
    exact ⟨.inr rfl, _, _, rfl, List.nodup_nil, rfl, rfl⟩
  · have h := iF h hc2
    refine .skip ?_
    refine sqN ?_
    refine .seq ?_
    refine .rgI rfl ?_
    refine .seg tabOk 0 4 [8, 10] [] (t := [(8, (vI v1.1)), (10, (vI (w64 (64 - (w64 (8 * a2))))))]) (h := []) (ep := 9) (by kernel_rfl) ?_
    refine .fin rfl ?_
    refine sqN ?_
    refine .seq ?_
    refine .rgI rfl ?_
    refine .seg tabOk 0 2 [10, 24, 25] [] (t := [(10, (vI (w64 (64 - (w64 (8 * a2)))))), (24, (vI v1.1)), (25, (vI (w64 (64 - (w64 (8 * a2))))))]) (h := []) (ep := 11) (by kernel_rfl) ?_
    obtain ⟨hb3, h⟩ := gS h
    refine .o tabOk rfl rfl rfl (q_shl rfl rfl hb3) ?_
    refine .seg tabOk 3 1 [26, 27] [] (t := [(26, (vI (w64 (v1.1 * 2 ^ (min (Int.toNat (w64 (64 - (w64 (8 * a2))))) 64))))), (27, (vI (w64 (64 - (w64 (8 * a2))))))]) (h := []) (ep := 12) (by kernel_rfl) ?_
    obtain ⟨hb4, h⟩ := gS h
    refine .o tabOk rfl rfl rfl (q_shr rfl rfl hb4) ?_
    refine .seg tabOk 5 2 [6, 7] [] (t := [(6, (vI (Int.fdiv (w64 (v1.1 * 2 ^ (min (Int.toNat (w64 (64 - (w64 (8 * a2))))) 64))) (2 ^ (min (Int.toNat (w64 (64 - (w64 (8 * a2))))) 64))))), (7, (vI 0))]) (h := []) (ep := 13) (by kernel_rfl) ?_
    refine .fin rfl ?_
    refine sqN ?_
    refine .ret ?_
    injection h with h
    subst h
    exact ⟨.inr rfl, _, _, rfl, List.nodup_nil, rfl, rfl⟩
abbrev R_simple_reader_u := Int × T_SLBiie
def F_simple_reader_u (n : Nat) (a0 : T_SLBiie) (a1 : Int) : Option R_simple_reader_u :=
  if (!decide (a0.f2 = 0)) then
    some (0, a0)
  else
  Option.bind (F_be_U n a0.f0 a0.f1 a1) fun v2 =>
  some (v2.1, (⟨a0.f0, (w64 (a0.f1 + a1)), v2.2⟩ : T_SLBiie))
abbrev q65_0 (a0 : T_SLBiie) : Nat × Ob := (0, ⟨0, .live, false, [(.ro 1 a0.f0.length (flat E_B a0.f0)), (vI a0.f1), (vI a0.f2)]⟩)
theorem C_simple_reader_u (n : Nat) (a0 : T_SLBiie) (a1 : Int) (r : R_simple_reader_u) (h : F_simple_reader_u n a0 a1 = some r) : CallS Try.prog 65 [(.box [(.ro 1 a0.f0.length (flat E_B a0.f0)), (vI a0.f1), (vI a0.f2)]), (vI a1)] (vI r.1) [some [(.ro 1 r.2.f0.length (flat E_B r.2.f0)), (vI r.2.f1), (vI r.2.f2)], none] := by
  refine CallS.introK tabOk Try.func65 rfl Try.ntmps65 (Nat.le_of_ble_eq_true rfl) ?_
  rw [F_simple_reader_u] at h
  refine .seq ?_
  refine .rgI rfl ?_
  refine .seg tabOk 0 1 [0, 1] [0] (t := [(0, (.ptr (0, 0) 0)), (1, (vI a1))]) (h := [(q65_0 a0)]) (ep := 2) (by kernel_rfl) ?_
  refine .fin rfl ?_
  refine sqN ?_
  refine .seq ?_
  refine .seq ?_
  refine .rgI rfl ?_
  refine .seg tabOk 0 5 [0, 1, 11] [0] (t := [(0, (.ptr (0, 0) 0)), (1, (vI a1)), (11, (.val (.bool (!decide (a0.f2 = 0)))))]) (h := [(q65_0 a0)]) (ep := 4) (by kernel_rfl) ?_
  refine .fin rfl ?_
  refine sqN ?_
  refine .cond (!decide (a0.f2 = 0)) rfl (fun hc1 => ?_) (fun hc1 => ?_)
  · have h := iT h hc1
    refine .seq ?_
    refine .rgI rfl ?_
    refine .seg tabOk 0 1 [4] [0] (t := [(4, (vI 0))]) (h := [(q65_0 a0)]) (ep := 6) (by kernel_rfl) ?_
    refine .fin rfl ?_
    refine sqN ?_
    refine .ret ?_
    refine sqR ?_
    injection h with h
    subst h
    exact ⟨.inr rfl, _, _, rfl, List.nodup_nil, rfl, rfl⟩
  · have h := iF h hc1
    refine .skip ?_
    refine sqN ?_
    refine .seq ?_
    refine .rgD rfl ?_
    refine .seg tabOk 0 9 [0, 1, 16, 20, 21] [0] (t := [(0, (.ptr (0, 0) 0)), (1, (vI a1)), (16, (.ro 1 a0.f0.length (flat E_B a0.f0))), (20, (vI a0.f1)), (21, (vI a1))]) (h := [(q65_0 a0)]) (ep := 5) (by kernel_rfl) ?_
    obtain ⟨v2, hv2, h⟩ := bS h
    refine .cc true rfl rfl (C_be_U _ _ _ _ _ hv2) ent_be_U rfl rfl rfl rfl (g_cons (g_pl rfl rfl) (g_cons (g_pl rfl rfl) (g_cons (g_pl rfl rfl) g_nil))) rfl rfl ?_
    refine .seg tabOk 10 5 [0, 1, 5, 6] [0] (t := [(0, (.ptr (0, 0) 0)), (1, (vI a1)), (5, (vI v2.1)), (6, (vI v2.2))]) (h := [(q65_0 a0)]) (ep := 5) (by kernel_rfl) ?_
    refine .fin mixed [0, 1, 5, 6] [0] (t := [(0, (.ptr (0, 0) 0)), (1, (vI a1)), (5, (vI v2.1)), (6, (vI v2.2))]) (h := [(q65_0 a0)]) (ep := 6) rfl (by kernel_rfl) rfl ?_
    refine sqN ?_
    refine .seq ?_
    refine .rgI rfl ?_
    refine .seg tabOk 0 15 [5] [0] (t := [(5, (vI v2.1))]) (h := [(0, ⟨0, .live, false, [(.ro 1 a0.f0.length (flat E_B a0.f0)), (vI (w64 (a0.f1 + a1))), (vI v2.2)]⟩)]) (ep := 8) (by kernel_rfl) ?_
    refine .fin rfl ?_
    refine sqN ?_
    refine .seq ?_
    refine .rgI rfl ?_
    refine .seg tabOk 0 2 [4] [0] (t := [(4, (vI v2.1))]) (h := [(0, ⟨0, .live, false, [(.ro 1 a0.f0.length (flat E_B a0.f0)), (vI (w64 (a0.f1 + a1))), (vI v2.2)]⟩)]) (ep := 10) (by kernel_rfl) ?_
    refine .fin rfl ?_
    refine sqN ?_
    refine .ret ?_
    injection h with h
    subst h
    exact ⟨.inr rfl, _, _, rfl, List.nodup_nil, rfl, rfl⟩
abbrev R_simple_reader_ends := (List Int) × T_SLBiie
def L_simple_reader_ends_0 (a1 : Int) (j1 : (List Int) → Int → Int → (List Int) → Option R_simple_reader_ends) : Nat → (List Int) → Int → Int → (List Int) → Int → Option R_simple_reader_ends
  | 0, _, _, _, _, _ => none
  | n + 1, y2, y3, y4, y5, y6 =>
    if (decide (y6 < a1)) then
      Option.bind (F_simple_reader_u n (⟨y2, y3, y4⟩ : T_SLBiie) 2) fun v8 =>
      gd (fits (y5.length + ([v8.1] : List Int).length) 8 = true) <|
      L_simple_reader_ends_0 a1 j1 n v8.2.f0 v8.2.f1 v8.2.f2 (y5 ++ ([v8.1] : List Int)) (w64 (y6 + 1))
    else
    j1 y2 y3 y4 y5
def L_simple_reader_ends_1 (x13 : (List Int)) (j15 : Int → Option R_simple_reader_ends) : Nat → Int → Int → Option R_simple_reader_ends
  | 0, _, _ => none
  | n + 1, y16, y17 =>
    if (decide (y17 < (x13.length : Int))) then
      gd (0 ≤ y17 ∧ y17 < x13.length) <|
      lj (fun (x22 : Bool) =>
        L_simple_reader_ends_1 x13 j15 n (if x22 then 12 else y16) (w64 (y17 + 1))) fun j23 =>
      if (decide (0 < y17)) then
        gd (0 ≤ (w64 (y17 - 1)) ∧ (w64 (y17 - 1)) < x13.length) <|
        j23 (decide ((nth E_i x13 y17) ≤ (nth E_i x13 (w64 (y17 - 1)))))
      else
      j23 false
    else
    j15 y16
def F_simple_reader_ends (n : Nat) (a0 : T_SLBiie) (a1 : Int) : Option R_simple_reader_ends :=
  lj (fun (x10 : (List Int)) (x11 : Int) (x12 : Int) (x13 : (List Int)) =>
    if (!decide (x12 = 0)) then
      some (([] : List Int), (⟨x10, x11, x12⟩ : T_SLBiie))
    else
    lj (fun (x25 : Int) =>
      lj (fun (x28 : Bool) =>
        some (x13, (⟨x10, x11, (if x28 then 7 else x25)⟩ : T_SLBiie))) fun j29 =>
      if (decide (x25 = 0)) then
        gd (0 ≤ (w64 (a1 - 1)) ∧ (w64 (a1 - 1)) < x13.length) <|
        j29 (decide (4096 ≤ (nth E_i x13 (w64 (a1 - 1)))))
      else
      j29 false) fun j15 =>
    L_simple_reader_ends_1 x13 j15 n x12 0) fun j1 =>
  L_simple_reader_ends_0 a1 j1 n a0.f0 a0.f1 a0.f2 ([] : List Int) 0
abbrev q48_0 (x13 : (List Int)) : Nat × Ob := (95, ⟨9, .live, true, flat E_i x13⟩)
abbrev q48_1 (x13 : (List Int)) : Nat × V := (5, (.sref (95, 9) 0 x13.length 1))
abbrev q48_2 (x10 : (List Int)) (x11 : Int) (y16 : Int) : Nat × Ob := (0, ⟨0, .live, false, [(.ro 1 x10.length (flat E_B x10)), (vI x11), (vI y16)]⟩)
abbrev q48_3 (x13 : (List Int)) : Nat × V := (22, (.sref (95, 9) 0 x13.length 1))
abbrev q48_4 (x10 : (List Int)) (x11 : Int) (x25 : Int) : Nat × Ob := (0, ⟨0, .live, false, [(.ro 1 x10.length (flat E_B x10)), (vI x11), (vI x25)]⟩)
abbrev q48_5 (x13 : (List Int)) : Nat × V := (23, (vI (x13.length : Int)))
abbrev q48_6 (x10 : (List Int)) (x11 : Int) (x12 : Int) : Nat × Ob := (0, ⟨0, .live, false, [(.ro 1 x10.length (flat E_B x10)), (vI x11), (vI x12)]⟩)
abbrev q48_7 (v8 : R_simple_reader_u) : Nat × Ob := (0, ⟨0, .live, false, [(.ro 1 v8.2.f0.length (flat E_B v8.2.f0)), (vI v8.2.f1), (vI v8.2.f2)]⟩)
abbrev q48_8 (a0 : T_SLBiie) : Nat × Ob := (0, ⟨0, .live, false, [(.ro 1 a0.f0.length (flat E_B a0.f0)), (vI a0.f1), (vI a0.f2)]⟩)
theorem C_simple_reader_ends (n : Nat) (a0 : T_SLBiie) (a1 : Int) (r : R_simple_reader_ends) (h : F_simple_reader_ends n a0 a1 = some r) : CallS Try.prog 48 [(.box [(.ro 1 a0.f0.length (flat E_B a0.f0)), (vI a0.f1), (vI a0.f2)]), (vI a1)] (.own 1 r.1.length (flat E_i r.1)) [some [(.ro 1 r.2.f0.length (flat E_B r.2.f0)), (vI r.2.f1), (vI r.2.f2)], none] := by
  refine CallS.introK tabOk Try.func48 rfl Try.ntmps48 (Nat.le_of_ble_eq_true rfl) ?_
  rw [F_simple_reader_ends] at h
  refine .seq ?_
  refine .rgI rfl ?_
  refine .seg tabOk 0 1 [0, 1] [0] (t := [(0, (.ptr (0, 0) 0)), (1, (vI a1))]) (h := [(q48_8 a0)]) (ep := 2) (by kernel_rfl) ?_
  refine .fin rfl ?_
  refine sqN ?_
  refine .seq ?_
  refine .rgI rfl ?_
  refine .seg tabOk 0 1 [0, 1, 5] [0] (t := [(0, (.ptr (0, 0) 0)), (1, (vI a1)), (5, .nils)]) (h := [(q48_8 a0)]) (ep := 4) (by kernel_rfl) ?_
  refine .fin rfl ?_
  refine sqN ?_
  refine .seq ?_
  refine .seq ?_
  refine .rgI rfl ?_
  refine .seg tabOk 0 2 [0, 1, 5, 8, 9] [0] (t := [(0, (.ptr (0, 0) 0)), (1, (vI a1)), (5, .nils), (8, (vI a1)), (9, (vI 0))]) (h := [(q48_8 a0)]) (ep := 6) (by kernel_rfl) ?_
  refine .fin rfl ?_
  refine sqN ?_
  obtain ⟨j1, hj1, h⟩ := ljS h
  refine .join (fun s' => ∃ x10 x11 x12 x13, s' = ⟨[(0, (.ptr (0, 0) 0)), (1, (vI a1)), (q48_1 x13)], [(q48_6 x10 x11 x12), (q48_0 x13)], 10⟩ ∧ j1 x10 x11 x12 x13 = some r) ?_ ?_
  · refine .block ?_
    refine .loopF (β := (List Int) × Int × Int × (List Int) × Int) (fun v => ⟨[(0, (.ptr (0, 0) 0)), (1, (vI a1)), (5, (.sref (95, 6) 0 v.2.2.2.1.length 1)), (8, (vI a1)), (9, (vI v.2.2.2.2))], [(0, ⟨0, .live, false, [(.ro 1 v.1.length (flat E_B v.1)), (vI v.2.1), (vI v.2.2.1)]⟩), (95, ⟨6, .live, true, flat E_i v.2.2.2.1⟩)], 7⟩) (fun m v => L_simple_reader_ends_0 a1 j1 m v.1 v.2.1 v.2.2.1 v.2.2.2.1 v.2.2.2.2 = some r) n (a0.f0, a0.f1, a0.f2, ([] : List Int), 0) (by exact .trans (.nilRow 5 1 95 rfl (fresh_none rfl)) (.tn [((0, 0), (0, 0)), ((95, 6), (95, 6))] ⟨rfl, rfl, rfl, rfl, rfl, trivial⟩ ⟨rfl, ⟨_, rfl, rfl⟩, ⟨rfl, ⟨_, rfl, ah_row E_i⟩, trivial⟩⟩ rfl)) h ?_
    rintro m ⟨y2, y3, y4, y5, y6⟩ h
    cases m with
    | zero => exact nomatch h
    | succ n =>
      rw [L_simple_reader_ends_0] at h
      refine .seq ?_
      refine .rgI rfl ?_
      refine .seg tabOk 0 1 [0, 1, 5, 8, 9, 10] [0, 95] (t := [(0, (.ptr (0, 0) 0)), (1, (vI a1)), (5, (.sref (95, 6) 0 y5.length 1)), (8, (vI a1)), (9, (vI y6)), (10, (.val (.bool (decide (y6 < a1)))))]) (h := [(0, ⟨0, .live, false, [(.ro 1 y2.length (flat E_B y2)), (vI y3), (vI y4)]⟩), (95, ⟨6, .live, true, flat E_i y5⟩)]) (ep := 9) (by kernel_rfl) ?_
      refine .fin rfl ?_
      refine sqN ?_
      refine .seq ?_
      refine .cond (decide (y6 < a1)) rfl (fun hc7 => ?_) (fun hc7 => ?_)
      · have h := iT h hc7
        refine .skip ?_
        refine sqN ?_
        refine .seq ?_
        refine .block ?_
        refine .rgI rfl ?_
        refine .seg tabOk 0 2 [0, 1, 8, 9, 11, 12] [0, 95] (t := [(0, (.ptr (0, 0) 0)), (1, (vI a1)), (8, (vI a1)), (9, (vI y6)), (11, (.sref (95, 6) 0 y5.length 1)), (12, (.ptr (0, 0) 0))]) (h := [(0, ⟨0, .live, false, [(.ro 1 y2.length (flat E_B y2)), (vI y3), (vI y4)]⟩), (95, ⟨6, .live, true, flat E_i y5⟩)]) (ep := 11) (by kernel_rfl) ?_
        obtain ⟨v8, hv8, h⟩ := bS h
        refine .cc true rfl rfl (C_simple_reader_u _ _ _ _ hv8) ent_simple_reader_u rfl rfl rfl rfl (g_cons (g_pl rfl rfl) (g_cons (g_pl rfl rfl) g_nil)) rfl ?_
        refine .seg tabOk 3 1 [0, 1, 8, 9, 11, 14] [0, 95, 224] (t := [(0, (.ptr (0, 0) 0)), (1, (vI a1)), (8, (vI a1)), (9, (vI y6)), (11, (.sref (95, 6) 0 y5.length 1)), (14, (.sref (224, 11) 0 ([v8.1] : List Int).length 1))]) (h := [(q48_7 v8), (95, ⟨6, .live, true, flat E_i y5⟩), (224, ⟨11, .live, true, flat E_i ([v8.1] : List Int)⟩)]) (ep := 12) (by kernel_rfl) ?_
        obtain ⟨hb9, h⟩ := gS h
        refine .oo tabOk rfl rfl rfl (q_app E_i (l := y5) rfl rfl rfl rfl rfl rfl rfl rfl rfl rfl rfl rfl rfl (.row ([v8.1] : List Int) rfl rfl rfl rfl) hb9) ?_
        refine .seg tabOk 5 1 [0, 1, 5, 8, 9] [0, 240] (t := [(0, (.ptr (0, 0) 0)), (1, (vI a1)), (5, (.sref (240, 12) 0 (y5 ++ ([v8.1] : List Int)).length 1)), (8, (vI a1)), (9, (vI y6))]) (h := [(q48_7 v8), (240, ⟨12, .live, true, flat E_i (y5 ++ ([v8.1] : List Int))⟩)]) (ep := 13) (by kernel_rfl) ?_
        refine .fin rfl ?_
        refine bkN ?_
        refine sqN ?_
        refine .rgI rfl ?_
        refine .seg tabOk 0 2 [0, 1, 5, 8, 9] [0, 240] (t := [(0, (.ptr (0, 0) 0)), (1, (vI a1)), (5, (.sref (240, 12) 0 (y5 ++ ([v8.1] : List Int)).length 1)), (8, (vI a1)), (9, (vI (w64 (y6 + 1))))]) (h := [(q48_7 v8), (240, ⟨12, .live, true, flat E_i (y5 ++ ([v8.1] : List Int))⟩)]) (ep := 15) (by kernel_rfl) ?_
        refine .fin rfl ?_
        exact jkN (by exact .tn [((0, 0), (0, 0)), ((240, 12), (95, 6))] ⟨rfl, rfl, rfl, rfl, rfl, trivial⟩ ⟨rfl, ⟨_, rfl, rfl⟩, ⟨rfl, ⟨_, rfl, ah_row E_i⟩, trivial⟩⟩ rfl) ⟨n, (v8.2.f0, v8.2.f1, v8.2.f2, (y5 ++ ([v8.1] : List Int)), (w64 (y6 + 1))), Nat.lt_succ_self n, rfl, h⟩
      · have h := iF h hc7
        refine .exit ?_
        refine sqX ?_
        refine jkX ?_
        refine bkE ?_
        exact jkN (by exact .tn [((0, 0), (0, 0)), ((95, 6), (95, 9))] ⟨rfl, rfl, rfl, trivial⟩ ⟨rfl, ⟨_, rfl, rfl⟩, ⟨rfl, ⟨_, rfl, ah_row E_i⟩, trivial⟩⟩ rfl) ⟨_, _, _, _, rfl, h⟩
  · rintro _ ⟨x10, x11, x12, x13, rfl, h⟩
    subst hj1
    refine sqN ?_
    refine .seq ?_
    refine .seq ?_
    refine .rgI rfl ?_
    refine .seg tabOk 0 5 [0, 1, 5, 21] [0, 95] (t := [(0, (.ptr (0, 0) 0)), (1, (vI a1)), (q48_1 x13), (21, (.val (.bool (!decide (x12 = 0)))))]) (h := [(q48_6 x10 x11 x12), (q48_0 x13)]) (ep := 12) (by kernel_rfl) ?_
    refine .fin rfl ?_
    refine sqN ?_
    refine .cond (!decide (x12 = 0)) rfl (fun hc14 => ?_) (fun hc14 => ?_)
    · have h := iT h hc14
      refine .seq ?_
      refine .rgI rfl ?_
      refine .seg tabOk 0 1 [4] [0] (t := [(4, .nils)]) (h := [(q48_6 x10 x11 x12)]) (ep := 14) (by kernel_rfl) ?_
      refine .fin rfl ?_
      refine sqN ?_
      refine .pre (.nilRow 4 1 79 rfl (fresh_none rfl)) ?_
      refine .ret ?_
      refine sqR ?_
      injection h with h
      subst h
      exact ⟨.inr rfl, _, _, (f_cons (f_tmp rfl (o1_row E_i ([] : List Int) rfl rfl rfl rfl rfl)) f_nil), nd_of rfl, rfl, rfl⟩
    · have h := iF h hc14
      refine .skip ?_
      refine sqN ?_
      refine .seq ?_
      refine .seq ?_
      refine .rgI rfl ?_
      refine .seg tabOk 0 3 [0, 1, 5, 22, 23, 24] [0, 95] (t := [(0, (.ptr (0, 0) 0)), (1, (vI a1)), (q48_1 x13), (q48_3 x13), (q48_5 x13), (24, (vI 0))]) (h := [(q48_6 x10 x11 x12), (q48_0 x13)]) (ep := 14) (by kernel_rfl) ?_
      refine .fin rfl ?_
      refine sqN ?_
      obtain ⟨j15, hj15, h⟩ := ljS h
      refine .join (fun s' => ∃ x25, s' = ⟨[(0, (.ptr (0, 0) 0)), (1, (vI a1)), (q48_1 x13)], [(q48_4 x10 x11 x25), (q48_0 x13)], 18⟩ ∧ j15 x25 = some r) ?_ ?_
      · refine .block ?_
        refine .loopF (β := Int × Int) (fun v => ⟨[(0, (.ptr (0, 0) 0)), (1, (vI a1)), (q48_1 x13), (q48_3 x13), (q48_5 x13), (24, (vI v.2))], [(0, ⟨0, .live, false, [(.ro 1 x10.length (flat E_B x10)), (vI x11), (vI v.1)]⟩), (q48_0 x13)], 15⟩) (fun m v => L_simple_reader_ends_1 x13 j15 m v.1 v.2 = some r) n (x12, 0) (by exact .tn [((0, 0), (0, 0)), ((95, 9), (95, 9))] ⟨rfl, rfl, rfl, rfl, rfl, rfl, trivial⟩ ⟨rfl, ⟨_, rfl, rfl⟩, ⟨rfl, ⟨_, rfl, ah_row E_i⟩, trivial⟩⟩ rfl) h ?_
        rintro m ⟨y16, y17⟩ h
        cases m with
        | zero => exact nomatch h
        | succ n =>
          rw [L_simple_reader_ends_1] at h
          refine .seq ?_
          refine .rgI rfl ?_
          refine .seg tabOk 0 1 [0, 1, 5, 22, 23, 24, 25] [0, 95] (t := [(0, (.ptr (0, 0) 0)), (1, (vI a1)), (q48_1 x13), (q48_3 x13), (q48_5 x13), (24, (vI y17)), (25, (.val (.bool (decide (y17 < (x13.length : Int))))))]) (h := [(q48_2 x10 x11 y16), (q48_0 x13)]) (ep := 17) (by kernel_rfl) ?_
          refine .fin rfl ?_
          refine sqN ?_
          refine .seq ?_
          refine .cond (decide (y17 < (x13.length : Int))) rfl (fun hc18 => ?_) (fun hc18 => ?_)
          · have h := iT h hc18
            refine .skip ?_
            refine sqN ?_
            refine .seq ?_
            refine .block ?_
            refine .seq ?_
            refine .rgI rfl ?_
            refine .seg tabOk 0 1 [0, 1, 5, 22, 23, 24, 26] [0, 95] (t := [(0, (.ptr (0, 0) 0)), (1, (vI a1)), (q48_1 x13), (q48_3 x13), (q48_5 x13), (24, (vI y17)), (26, (vI y17))]) (h := [(q48_2 x10 x11 y16), (q48_0 x13)]) (ep := 19) (by kernel_rfl) ?_
            obtain ⟨hb19, h⟩ := gS h
            refine .oo tabOk rfl rfl rfl (q_idxS E_i (l := x13) rfl rfl rfl rfl rfl rfl rfl rfl hb19) ?_
            refine .oo tabOk rfl rfl rfl (q_ldS E_i (l := x13) rfl rfl rfl rfl rfl hb19 rfl) ?_
            refine .seg tabOk 3 2 [0, 1, 5, 6, 7, 22, 23, 24] [0, 95] (t := [(0, (.ptr (0, 0) 0)), (1, (vI a1)), (q48_1 x13), (6, (vI y17)), (7, (vI (nth E_i x13 y17))), (q48_3 x13), (q48_5 x13), (24, (vI y17))]) (h := [(q48_2 x10 x11 y16), (q48_0 x13)]) (ep := 20) (by kernel_rfl) ?_
            refine .fin rfl ?_
            refine sqN ?_
            refine .seq ?_
            obtain ⟨j23, hj23, h⟩ := ljS h
            refine .join (fun s' => ∃ x22, s' = ⟨[(0, (.ptr (0, 0) 0)), (1, (vI a1)), (q48_1 x13), (q48_3 x13), (q48_5 x13), (24, (vI y17)), (39, (.val (.bool x22)))], [(q48_2 x10 x11 y16), (q48_0 x13)], 25⟩ ∧ j23 x22 = some r) ?_ ?_
            · refine .rgI rfl ?_
              refine .seg tabOk 0 3 [0, 1, 5, 6, 7, 22, 23, 24, 31] [0, 95] (t := [(0, (.ptr (0, 0) 0)), (1, (vI a1)), (q48_1 x13), (6, (vI y17)), (7, (vI (nth E_i x13 y17))), (q48_3 x13), (q48_5 x13), (24, (vI y17)), (31, (.val (.bool (decide (0 < y17)))))]) (h := [(q48_2 x10 x11 y16), (q48_0 x13)]) (ep := 22) (by kernel_rfl) ?_
              cases hB20 : (decide (0 < y17)) with
              | false =>
                have h := iF h hB20
                refine .seg tabOk 3 8 [0, 1, 5, 22, 23, 24, 39] [0, 95] (t := [(0, (.ptr (0, 0) 0)), (1, (vI a1)), (q48_1 x13), (q48_3 x13), (q48_5 x13), (24, (vI y17)), (39, (.val (.bool false)))]) (h := [(q48_2 x10 x11 y16), (q48_0 x13)]) (ep := 23) (by kernel_rfl) ?_
                refine .fin rfl ?_
                exact jkN (by exact .tn [((0, 0), (0, 0)), ((95, 9), (95, 9))] ⟨rfl, rfl, rfl, rfl, rfl, rfl, rfl, trivial⟩ ⟨rfl, ⟨_, rfl, rfl⟩, ⟨rfl, ⟨_, rfl, ah_row E_i⟩, trivial⟩⟩ rfl) ⟨_, rfl, h⟩
              | true =>
                have h := iT h hB20
                refine .seg tabOk 3 4 [0, 1, 5, 22, 23, 24, 31, 32, 33, 35] [0, 95] (t := [(0, (.ptr (0, 0) 0)), (1, (vI a1)), (q48_1 x13), (q48_3 x13), (q48_5 x13), (24, (vI y17)), (31, (.val (.bool true))), (32, (vI (nth E_i x13 y17))), (33, (.sref (95, 9) 0 x13.length 1)), (35, (vI (w64 (y17 - 1))))]) (h := [(q48_2 x10 x11 y16), (q48_0 x13)]) (ep := 23) (by kernel_rfl) ?_
                obtain ⟨hb21, h⟩ := gS h
                refine .oo tabOk rfl rfl rfl (q_idxS E_i (l := x13) rfl rfl rfl rfl rfl rfl rfl rfl hb21) ?_
                refine .oo tabOk rfl rfl rfl (q_ldS E_i (l := x13) rfl rfl rfl rfl rfl hb21 rfl) ?_
                refine .seg tabOk 9 2 [0, 1, 5, 22, 23, 24, 39] [0, 95] (t := [(0, (.ptr (0, 0) 0)), (1, (vI a1)), (q48_1 x13), (q48_3 x13), (q48_5 x13), (24, (vI y17)), (39, (.val (.bool (decide ((nth E_i x13 y17) ≤ (nth E_i x13 (w64 (y17 - 1))))))))]) (h := [(q48_2 x10 x11 y16), (q48_0 x13)]) (ep := 24) (by kernel_rfl) ?_
                refine .fin rfl ?_
                exact jkN (by exact .tn [((0, 0), (0, 0)), ((95, 9), (95, 9))] ⟨rfl, rfl, rfl, rfl, rfl, rfl, rfl, trivial⟩ ⟨rfl, ⟨_, rfl, rfl⟩, ⟨rfl, ⟨_, rfl, ah_row E_i⟩, trivial⟩⟩ rfl) ⟨_, rfl, h⟩
            · rintro _ ⟨x22, rfl, h⟩
              subst hj23
              refine sqN ?_
              refine .join (fun s' => s' = ⟨[(0, (.ptr (0, 0) 0)), (1, (vI a1)), (q48_1 x13), (q48_3 x13), (q48_5 x13), (24, (vI y17))], [(0, ⟨0, .live, false, [(.ro 1 x10.length (flat E_B x10)), (vI x11), (vI (if x22 then 12 else y16))]⟩), (q48_0 x13)], 28⟩) ?_ ?_
              · refine .cond x22 rfl (fun hc24 => ?_) (fun hc24 => ?_)
                · skip
                  refine .rgI rfl ?_
                  refine .seg tabOk 0 4 [0, 1, 5, 22, 23, 24] [0, 95] (t := [(0, (.ptr (0, 0) 0)), (1, (vI a1)), (q48_1 x13), (q48_3 x13), (q48_5 x13), (24, (vI y17))]) (h := [(0, ⟨0, .live, false, [(.ro 1 x10.length (flat E_B x10)), (vI x11), (vI 12)]⟩), (q48_0 x13)]) (ep := 27) (by kernel_rfl) ?_
                  refine .fin rfl ?_
                  exact jkN (by exact .tn [((0, 0), (0, 0)), ((95, 9), (95, 9))] ⟨(by (try rw [hc24]); rfl), (by (try rw [hc24]); rfl), (by (try rw [hc24]); rfl), (by (try rw [hc24]); rfl), (by (try rw [hc24]); rfl), (by (try rw [hc24]); rfl), trivial⟩ ⟨rfl, ⟨_, rfl, (by (try rw [hc24]); exact rfl)⟩, ⟨rfl, ⟨_, rfl, (by (try rw [hc24]); exact ah_row E_i)⟩, trivial⟩⟩ rfl) rfl
                · skip
                  refine .skip ?_
                  exact jkN (by exact .tn [((0, 0), (0, 0)), ((95, 9), (95, 9))] ⟨(by (try rw [hc24]); rfl), (by (try rw [hc24]); rfl), (by (try rw [hc24]); rfl), (by (try rw [hc24]); rfl), (by (try rw [hc24]); rfl), (by (try rw [hc24]); rfl), trivial⟩ ⟨rfl, ⟨_, rfl, (by (try rw [hc24]); exact rfl)⟩, ⟨rfl, ⟨_, rfl, (by (try rw [hc24]); exact ah_row E_i)⟩, trivial⟩⟩ rfl) rfl
              · rintro _ rfl
                refine bkN ?_
                refine sqN ?_
                refine .rgI rfl ?_
                refine .seg tabOk 0 2 [0, 1, 5, 22, 23, 24] [0, 95] (t := [(0, (.ptr (0, 0) 0)), (1, (vI a1)), (q48_1 x13), (q48_3 x13), (q48_5 x13), (24, (vI (w64 (y17 + 1))))]) (h := [(0, ⟨0, .live, false, [(.ro 1 x10.length (flat E_B x10)), (vI x11), (vI (if x22 then 12 else y16))]⟩), (q48_0 x13)]) (ep := 30) (by kernel_rfl) ?_
                refine .fin rfl ?_
                exact jkN (by exact .tn [((0, 0), (0, 0)), ((95, 9), (95, 9))] ⟨rfl, rfl, rfl, rfl, rfl, rfl, trivial⟩ ⟨rfl, ⟨_, rfl, rfl⟩, ⟨rfl, ⟨_, rfl, ah_row E_i⟩, trivial⟩⟩ rfl) ⟨n, ((if x22 then 12 else y16), (w64 (y17 + 1))), Nat.lt_succ_self n, rfl, h⟩
          · have h := iF h hc18
            refine .exit ?_
            refine sqX ?_
            refine jkX ?_
            refine bkE ?_
            exact jkN (by exact .tn [((0, 0), (0, 0)), ((95, 9), (95, 9))] ⟨rfl, rfl, rfl, trivial⟩ ⟨rfl, ⟨_, rfl, rfl⟩, ⟨rfl, ⟨_, rfl, ah_row E_i⟩, trivial⟩⟩ rfl) ⟨_, rfl, h⟩
      · rintro _ ⟨x25, rfl, h⟩
        subst hj15
        refine sqN ?_
        refine .seq ?_
        refine .seq ?_
        obtain ⟨j29, hj29, h⟩ := ljS h
        refine .join (fun s' => ∃ x28, s' = ⟨[(0, (.ptr (0, 0) 0)), (q48_1 x13), (56, (.val (.bool x28)))], [(q48_4 x10 x11 x25), (q48_0 x13)], 23⟩ ∧ j29 x28 = some r) ?_ ?_
        · refine .rgI rfl ?_
          refine .seg tabOk 0 6 [0, 1, 5, 49] [0, 95] (t := [(0, (.ptr (0, 0) 0)), (1, (vI a1)), (q48_1 x13), (49, (.val (.bool (decide (x25 = 0)))))]) (h := [(q48_4 x10 x11 x25), (q48_0 x13)]) (ep := 20) (by kernel_rfl) ?_
          cases hB26 : (decide (x25 = 0)) with
          | false =>
            have h := iF h hB26
            refine .seg tabOk 6 7 [0, 5, 56] [0, 95] (t := [(0, (.ptr (0, 0) 0)), (q48_1 x13), (56, (.val (.bool false)))]) (h := [(q48_4 x10 x11 x25), (q48_0 x13)]) (ep := 21) (by kernel_rfl) ?_
            refine .fin rfl ?_
            exact jkN (by exact .tn [((0, 0), (0, 0)), ((95, 9), (95, 9))] ⟨rfl, rfl, rfl, trivial⟩ ⟨rfl, ⟨_, rfl, rfl⟩, ⟨rfl, ⟨_, rfl, ah_row E_i⟩, trivial⟩⟩ rfl) ⟨_, rfl, h⟩
          | true =>
            have h := iT h hB26
            refine .seg tabOk 6 3 [0, 5, 49, 50, 52] [0, 95] (t := [(0, (.ptr (0, 0) 0)), (q48_1 x13), (49, (.val (.bool true))), (50, (.sref (95, 9) 0 x13.length 1)), (52, (vI (w64 (a1 - 1))))]) (h := [(q48_4 x10 x11 x25), (q48_0 x13)]) (ep := 21) (by kernel_rfl) ?_
            obtain ⟨hb27, h⟩ := gS h
            refine .oo tabOk rfl rfl rfl (q_idxS E_i (l := x13) rfl rfl rfl rfl rfl rfl rfl rfl hb27) ?_
            refine .oo tabOk rfl rfl rfl (q_ldS E_i (l := x13) rfl rfl rfl rfl rfl hb27 rfl) ?_
            refine .seg tabOk 11 2 [0, 5, 56] [0, 95] (t := [(0, (.ptr (0, 0) 0)), (q48_1 x13), (56, (.val (.bool (decide (4096 ≤ (nth E_i x13 (w64 (a1 - 1))))))))]) (h := [(q48_4 x10 x11 x25), (q48_0 x13)]) (ep := 22) (by kernel_rfl) ?_
            refine .fin rfl ?_
            exact jkN (by exact .tn [((0, 0), (0, 0)), ((95, 9), (95, 9))] ⟨rfl, rfl, rfl, trivial⟩ ⟨rfl, ⟨_, rfl, rfl⟩, ⟨rfl, ⟨_, rfl, ah_row E_i⟩, trivial⟩⟩ rfl) ⟨_, rfl, h⟩
        · rintro _ ⟨x28, rfl, h⟩
          subst hj29
          refine sqN ?_
          refine .join (fun s' => s' = ⟨[(q48_1 x13)], [(0, ⟨0, .live, false, [(.ro 1 x10.length (flat E_B x10)), (vI x11), (vI (if x28 then 7 else x25))]⟩), (q48_0 x13)], 26⟩) ?_ ?_
          · refine .cond x28 rfl (fun hc30 => ?_) (fun hc30 => ?_)
            · skip
              refine .rgI rfl ?_
              refine .seg tabOk 0 4 [5] [0, 95] (t := [(q48_1 x13)]) (h := [(0, ⟨0, .live, false, [(.ro 1 x10.length (flat E_B x10)), (vI x11), (vI 7)]⟩), (q48_0 x13)]) (ep := 25) (by kernel_rfl) ?_
              refine .fin rfl ?_
              exact jkN (by exact .tn [((0, 0), (0, 0)), ((95, 9), (95, 9))] ⟨(by (try rw [hc30]); rfl), trivial⟩ ⟨rfl, ⟨_, rfl, (by (try rw [hc30]); exact rfl)⟩, ⟨rfl, ⟨_, rfl, (by (try rw [hc30]); exact ah_row E_i)⟩, trivial⟩⟩ rfl) rfl
            · skip
              refine .skip ?_
              exact jkN (by exact .tn [((0, 0), (0, 0)), ((95, 9), (95, 9))] ⟨(by (try rw [hc30]); rfl), trivial⟩ ⟨rfl, ⟨_, rfl, (by (try rw [hc30]); exact rfl)⟩, ⟨rfl, ⟨_, rfl, (by (try rw [hc30]); exact ah_row E_i)⟩, trivial⟩⟩ rfl) rfl
          · rintro _ rfl
            refine sqN ?_
            refine .seq ?_
            refine .rgI rfl ?_
            refine .seg tabOk 0 2 [4] [0, 95] (t := [(4, (.sref (95, 9) 0 x13.length 1))]) (h := [(0, ⟨0, .live, false, [(.ro 1 x10.length (flat E_B x10)), (vI x11), (vI (if x28 then 7 else x25))]⟩), (q48_0 x13)]) (ep := 28) (by kernel_rfl) ?_
            refine .fin rfl ?_
            refine sqN ?_
            refine .ret ?_
            injection h with h
            subst h
            exact ⟨.inr rfl, _, _, (f_cons (f_tmp rfl (o1_row E_i x13 rfl rfl rfl rfl rfl)) f_nil), nd_of rfl, rfl, rfl⟩
abbrev R_be_Cut := (List Int) × Int
def F_be_Cut (n : Nat) (a0 : (List Int)) (a1 : Int) (a2 : Int) : Option R_be_Cut :=
  Option.bind (F_be_there n a0 a1 a2) fun v1 =>
  if (!v1) then
    some (([] : List Int), 3)
  else
  gd (0 ≤ a1 ∧ a1 ≤ (w64 (a1 + a2)) ∧ (w64 (a1 + a2)) ≤ (a0.length : Int)) <|
  gd (fits (([] : List Int).length + (slc a0 a1 (w64 (a1 + a2))).length) 1 = true) <|
  some ((([] : List Int) ++ (slc a0 a1 (w64 (a1 + a2)))), 0)
theorem C_be_Cut (n : Nat) (a0 : (List Int)) (a1 : Int) (a2 : Int) (r : R_be_Cut) (h : F_be_Cut n a0 a1 a2 = some r) : CallS Try.prog 35 [(.ro 1 a0.length (flat E_B a0)), (vI a1), (vI a2)] (.tup [(.own 1 r.1.length (flat E_B r.1)), (vI r.2)]) [none, none, none] := by
  refine CallS.introK tabOk Try.func35 rfl Try.ntmps35 (Nat.le_of_ble_eq_true rfl) ?_
  rw [F_be_Cut] at h
  refine .seq ?_
  refine .rgI rfl ?_
  refine .seg tabOk 0 2 [0, 1, 2] [] (t := [(0, (.ro 1 a0.length (flat E_B a0))), (1, (vI a1)), (2, (vI a2))]) (h := []) (ep := 2) (by kernel_rfl) ?_
  refine .fin rfl ?_
  refine sqN ?_
  refine .seq ?_
  refine .seq ?_
  refine .rgI rfl ?_
  refine .seg tabOk 0 3 [0, 1, 2, 8, 9, 10] [] (t := [(0, (.ro 1 a0.length (flat E_B a0))), (1, (vI a1)), (2, (vI a2)), (8, (.ro 1 a0.length (flat E_B a0))), (9, (vI a1)), (10, (vI a2))]) (h := []) (ep := 4) (by kernel_rfl) ?_
  obtain ⟨v1, hv1, h⟩ := bS h
  refine .cc true rfl rfl (C_be_there _ _ _ _ _ hv1) ent_be_there rfl rfl rfl rfl (g_cons (g_pl rfl rfl) (g_cons (g_pl rfl rfl) (g_cons (g_pl rfl rfl) g_nil))) rfl ?_
  refine .seg tabOk 4 1 [0, 1, 2, 12] [] (t := [(0, (.ro 1 a0.length (flat E_B a0))), (1, (vI a1)), (2, (vI a2)), (12, (.val (.bool (!v1))))]) (h := []) (ep := 5) (by kernel_rfl) ?_
  refine .fin rfl ?_
  refine sqN ?_
  refine .cond (!v1) rfl (fun hc2 => ?_) (fun hc2 => ?_)
  · have h := iT h hc2
    refine .seq ?_
    refine .rgI rfl ?_
    refine .seg tabOk 0 2 [6, 7] [] (t := [(6, .nils), (7, (vI 3))]) (h := []) (ep := 7) (by kernel_rfl) ?_
    refine .fin rfl ?_
    refine sqN ?_
    refine .pre (.nilRow 6 1 111 rfl (fresh_none rfl)) ?_
    refine .ret ?_
    refine sqR ?_
    injection h with h
    subst h
    exact ⟨.inr rfl, _, _, (f_cons (f_tmp rfl (o1_row E_B ([] : List Int) rfl rfl rfl rfl rfl)) (f_cons rfl f_nil)), nd_of rfl, rfl, rfl⟩
  · have h := iF h hc2
    refine .skip ?_
    refine sqN ?_
    refine .seq ?_
    refine .rgI rfl ?_
    refine .seg tabOk 0 6 [13, 14, 15, 18] [208] (t := [(13, (.sref (208, 6) 0 ([] : List Int).length 1)), (14, (.ro 1 a0.length (flat E_B a0))), (15, (vI a1)), (18, (vI (w64 (a1 + a2))))]) (h := [(208, ⟨6, .live, true, flat E_B ([] : List Int)⟩)]) (ep := 7) (by kernel_rfl) ?_
    obtain ⟨hb3, h⟩ := gS h
    refine .o tabOk rfl rfl rfl (q_slLH E_B rfl rfl rfl rfl rfl rfl rfl hb3) ?_
    obtain ⟨hb4, h⟩ := gS h
    refine .oo tabOk rfl rfl rfl (q_app E_B (l := ([] : List Int)) rfl rfl rfl rfl rfl rfl rfl rfl rfl rfl rfl rfl rfl (.ro (slc a0 a1 (w64 (a1 + a2)))) hb4) ?_
    refine .seg tabOk 8 2 [6, 7] [320] (t := [(6, (.sref (320, 7) 0 (([] : List Int) ++ (slc a0 a1 (w64 (a1 + a2)))).length 1)), (7, (vI 0))]) (h := [(320, ⟨7, .live, true, flat E_B (([] : List Int) ++ (slc a0 a1 (w64 (a1 + a2))))⟩)]) (ep := 8) (by kernel_rfl) ?_
    refine .fin rfl ?_
    refine sqN ?_
    refine .ret ?_
    injection h with h
    subst h
    exact ⟨.inr rfl, _, _, (f_cons (f_tmp rfl (o1_row E_B (([] : List Int) ++ (slc a0 a1 (w64 (a1 + a2)))) rfl rfl rfl rfl rfl)) (f_cons rfl f_nil)), nd_of rfl, rfl, rfl⟩
abbrev R_simple_reader_code := (List Int) × T_SLBiie
def F_simple_reader_code (n : Nat) (a0 : T_SLBiie) : Option R_simple_reader_code :=
  Option.bind (F_simple_reader_u n a0 2) fun v1 =>
  if (!decide (v1.2.f2 = 0)) then
    some (([] : List Int), v1.2)
  else
  Option.bind (F_be_Cut n v1.2.f0 v1.2.f1 v1.1) fun v3 =>
  some (v3.1, (⟨v1.2.f0, (w64 (v1.2.f1 + v1.1)), v3.2⟩ : T_SLBiie))
abbrev q49_0 (v1 : R_simple_reader_u) : Nat × Ob := (0, ⟨0, .live, false, [(.ro 1 v1.2.f0.length (flat E_B v1.2.f0)), (vI v1.2.f1), (vI v1.2.f2)]⟩)
abbrev q49_1 (v1 : R_simple_reader_u) (v3 : R_be_Cut) : Nat × Ob := (0, ⟨0, .live, false, [(.ro 1 v1.2.f0.length (flat E_B v1.2.f0)), (vI (w64 (v1.2.f1 + v1.1))), (vI v3.2)]⟩)
abbrev q49_2 (a0 : T_SLBiie) : Nat × Ob := (0, ⟨0, .live, false, [(.ro 1 a0.f0.length (flat E_B a0.f0)), (vI a0.f1), (vI a0.f2)]⟩)
abbrev q49_3 (v3 : R_be_Cut) : Nat × Ob := (368, ⟨8, .live, true, flat E_B v3.1⟩)
theorem C_simple_reader_code (n : Nat) (a0 : T_SLBiie) (r : R_simple_reader_code) (h : F_simple_reader_code n a0 = some r) : CallS Try.prog 49 [(.box [(.ro 1 a0.f0.length (flat E_B a0.f0)), (vI a0.f1), (vI a0.f2)])] (.own 1 r.1.length (flat E_B r.1)) [some [(.ro 1 r.2.f0.length (flat E_B r.2.f0)), (vI r.2.f1), (vI r.2.f2)]] := by
  refine CallS.introK tabOk Try.func49 rfl Try.ntmps49 (Nat.le_of_ble_eq_true rfl) ?_
  rw [F_simple_reader_code] at h
  refine .seq ?_
  refine .rgI rfl ?_
  refine .seg tabOk 0 1 [0] [0] (t := [(0, (.ptr (0, 0) 0))]) (h := [(q49_2 a0)]) (ep := 2) (by kernel_rfl) ?_
  refine .fin rfl ?_
  refine sqN ?_
  refine .seq ?_
  refine .rgI rfl ?_
  refine .seg tabOk 0 1 [0, 6] [0] (t := [(0, (.ptr (0, 0) 0)), (6, (.ptr (0, 0) 0))]) (h := [(q49_2 a0)]) (ep := 4) (by kernel_rfl) ?_
  obtain ⟨v1, hv1, h⟩ := bS h
  refine .cc true rfl rfl (C_simple_reader_u _ _ _ _ hv1) ent_simple_reader_u rfl rfl rfl rfl (g_cons (g_pl rfl rfl) (g_cons (g_pl rfl rfl) g_nil)) rfl ?_
  refine .seg tabOk 2 1 [0, 3] [0] (t := [(0, (.ptr (0, 0) 0)), (3, (vI v1.1))]) (h := [(q49_0 v1)]) (ep := 5) (by kernel_rfl) ?_
  refine .fin rfl ?_
  refine sqN ?_
  refine .seq ?_
  refine .seq ?_
  refine .rgI rfl ?_
  refine .seg tabOk 0 5 [0, 3, 12] [0] (t := [(0, (.ptr (0, 0) 0)), (3, (vI v1.1)), (12, (.val (.bool (!decide (v1.2.f2 = 0)))))]) (h := [(q49_0 v1)]) (ep := 7) (by kernel_rfl) ?_
  refine .fin rfl ?_
  refine sqN ?_
  refine .cond (!decide (v1.2.f2 = 0)) rfl (fun hc2 => ?_) (fun hc2 => ?_)
  · have h := iT h hc2
    refine .seq ?_
    refine .rgI rfl ?_
    refine .seg tabOk 0 1 [2] [0] (t := [(2, .nils)]) (h := [(q49_0 v1)]) (ep := 9) (by kernel_rfl) ?_
    refine .fin rfl ?_
    refine sqN ?_
    refine .pre (.nilRow 2 1 47 rfl (fresh_none rfl)) ?_
    refine .ret ?_
    refine sqR ?_
    injection h with h
    subst h
    exact ⟨.inr rfl, _, _, (f_cons (f_tmp rfl (o1_row E_B ([] : List Int) rfl rfl rfl rfl rfl)) f_nil), nd_of rfl, rfl, rfl⟩
  · have h := iF h hc2
    refine .skip ?_
    refine sqN ?_
    refine .seq ?_
    refine .rgD rfl ?_
    refine .seg tabOk 0 9 [0, 3, 17, 21, 22] [0] (t := [(0, (.ptr (0, 0) 0)), (3, (vI v1.1)), (17, (.ro 1 v1.2.f0.length (flat E_B v1.2.f0))), (21, (vI v1.2.f1)), (22, (vI v1.1))]) (h := [(q49_0 v1)]) (ep := 8) (by kernel_rfl) ?_
    obtain ⟨v3, hv3, h⟩ := bS h
    refine .cc true rfl rfl (C_be_Cut _ _ _ _ _ hv3) ent_be_Cut rfl rfl rfl rfl (g_cons (g_pl rfl rfl) (g_cons (g_pl rfl rfl) (g_cons (g_pl rfl rfl) g_nil))) rfl rfl ?_
    refine .seg tabOk 10 5 [0, 3, 4, 5] [0, 368] (t := [(0, (.ptr (0, 0) 0)), (3, (vI v1.1)), (4, (.sref (368, 8) 0 v3.1.length 1)), (5, (vI v3.2))]) (h := [(q49_0 v1), (q49_3 v3)]) (ep := 8) (by kernel_rfl) ?_
    refine .fin mixed [0, 3, 4, 5] [0, 368] (t := [(0, (.ptr (0, 0) 0)), (3, (vI v1.1)), (4, (.sref (368, 8) 0 v3.1.length 1)), (5, (vI v3.2))]) (h := [(q49_0 v1), (q49_3 v3)]) (ep := 9) rfl (by kernel_rfl) rfl ?_
    refine sqN ?_
    refine .seq ?_
    refine .rgI rfl ?_
    refine .seg tabOk 0 15 [4] [0, 368] (t := [(4, (.sref (368, 8) 0 v3.1.length 1))]) (h := [(q49_1 v1 v3), (q49_3 v3)]) (ep := 11) (by kernel_rfl) ?_
    refine .fin rfl ?_
    refine sqN ?_
    refine .seq ?_
    refine .rgI rfl ?_
    refine .seg tabOk 0 2 [2] [0, 368] (t := [(2, (.sref (368, 8) 0 v3.1.length 1))]) (h := [(q49_1 v1 v3), (q49_3 v3)]) (ep := 13) (by kernel_rfl) ?_
    refine .fin rfl ?_
    refine sqN ?_
    refine .ret ?_
    injection h with h
    subst h
    exact ⟨.inr rfl, _, _, (f_cons (f_tmp rfl (o1_row E_B v3.1 rfl rfl rfl rfl rfl)) f_nil), nd_of rfl, rfl, rfl⟩
abbrev R_simple_reader_flags := (List Int) × T_SLBiie
def L_simple_reader_flags_0 (a1 : Int) : Nat → (List Int) → Int → Int → (List Int) → Int → Int → Option R_simple_reader_flags
  | 0, _, _, _, _, _, _ => none
  | n + 1, y1, y2, y3, y4, y5, y6 =>
    lj (fun (x18 : (List Int)) (x19 : Int) (x20 : Int) (x21 : Int) (x22 : Int) =>
      if (!decide (x20 = 0)) then
        some (([] : List Int), (⟨x18, x19, x20⟩ : T_SLBiie))
      else
      gd (fits (y4.length + ([x21] : List Int).length) 1 = true) <|
      if (decide (((y4 ++ ([x21] : List Int)).length : Int) < a1)) then
        L_simple_reader_flags_0 a1 n x18 x19 x20 (y4 ++ ([x21] : List Int)) x21 x22
      else
      some ((y4 ++ ([x21] : List Int)), (⟨x18, x19, x20⟩ : T_SLBiie))) fun j23 =>
    if (decide (0 < y6)) then
      j23 y1 y2 y3 y5 (w64 (y6 - 1))
    else
    Option.bind (F_simple_reader_u n (⟨y1, y2, y3⟩ : T_SLBiie) 1) fun v8 =>
    lj (fun (x11 : (List Int)) (x12 : Int) (x13 : Int) (x14 : Int) =>
      if ((decide (x13 = 0)) && (decide ((w64 (a1 - (y4.length : Int))) ≤ x14))) then
        j23 x11 x12 4 (IntKind.wrap .u8 (v8.1)) x14
      else
      j23 x11 x12 x13 (IntKind.wrap .u8 (v8.1)) x14) fun j15 =>
    if (!decide ((bits .and .u8 (IntKind.wrap .u8 (v8.1)) 8) = 0)) then
      Option.bind (F_simple_reader_u n v8.2 1) fun v10 =>
      j15 v10.2.f0 v10.2.f1 v10.2.f2 v10.1
    else
    j15 v8.2.f0 v8.2.f1 v8.2.f2 y6
def F_simple_reader_flags (n : Nat) (a0 : T_SLBiie) (a1 : Int) : Option R_simple_reader_flags :=
  lj (fun (x38 : (List Int)) (x39 : Int) (x40 : Int) (x41 : Int) (x42 : Int) =>
    if (!decide (x40 = 0)) then
      some (([] : List Int), (⟨x38, x39, x40⟩ : T_SLBiie))
    else
    gd (fits ([x41] : List Int).length 1 = true) <|
    if (decide ((([x41] : List Int).length : Int) < a1)) then
      L_simple_reader_flags_0 a1 n x38 x39 x40 ([x41] : List Int) x41 x42
    else
    some (([x41] : List Int), (⟨x38, x39, x40⟩ : T_SLBiie))) fun j43 =>
  if (decide (0 < 0)) then
    j43 a0.f0 a0.f1 a0.f2 0 (w64 (0 - 1))
  else
  Option.bind (F_simple_reader_u n a0 1) fun v28 =>
  lj (fun (x31 : (List Int)) (x32 : Int) (x33 : Int) (x34 : Int) =>
    if ((decide (x33 = 0)) && (decide ((w64 (a1 - 0)) ≤ x34))) then
      j43 x31 x32 4 (IntKind.wrap .u8 (v28.1)) x34
    else
    j43 x31 x32 x33 (IntKind.wrap .u8 (v28.1)) x34) fun j35 =>
  if (!decide ((bits .and .u8 (IntKind.wrap .u8 (v28.1)) 8) = 0)) then
    Option.bind (F_simple_reader_u n v28.2 1) fun v30 =>
    j35 v30.2.f0 v30.2.f1 v30.2.f2 v30.1
  else
  j35 v28.2.f0 v28.2.f1 v28.2.f2 0
abbrev q50_0 (y4 : (List Int)) : Nat × Ob := (704, ⟨28, .live, true, flat E_B y4⟩)
abbrev q50_1 (x38 : (List Int)) (x39 : Int) (x40 : Int) : Nat × Ob := (0, ⟨0, .live, false, [(.ro 1 x38.length (flat E_B x38)), (vI x39), (vI x40)]⟩)
abbrev q50_2 (x18 : (List Int)) (x19 : Int) (x20 : Int) : Nat × Ob := (0, ⟨0, .live, false, [(.ro 1 x18.length (flat E_B x18)), (vI x19), (vI x20)]⟩)
abbrev q50_3 (y4 : (List Int)) : Nat × V := (5, (.sref (704, 28) 0 y4.length 1))
abbrev q50_4 (a0 : T_SLBiie) : Nat × Ob := (0, ⟨0, .live, false, [(.ro 1 a0.f0.length (flat E_B a0.f0)), (vI a0.f1), (vI a0.f2)]⟩)
abbrev q50_5 (v28 : R_simple_reader_u) : Nat × V := (6, (.val (.int .u8 (IntKind.wrap .u8 (v28.1)))))
abbrev q50_6 (v8 : R_simple_reader_u) : Nat × V := (6, (.val (.int .u8 (IntKind.wrap .u8 (v8.1)))))
abbrev q50_7 (x31 : (List Int)) (x32 : Int) (x33 : Int) : Nat × Ob := (0, ⟨0, .live, false, [(.ro 1 x31.length (flat E_B x31)), (vI x32), (vI x33)]⟩)
abbrev q50_8 (v28 : R_simple_reader_u) : Nat × Ob := (0, ⟨0, .live, false, [(.ro 1 v28.2.f0.length (flat E_B v28.2.f0)), (vI v28.2.f1), (vI v28.2.f2)]⟩)
abbrev q50_9 (v8 : R_simple_reader_u) : Nat × Ob := (0, ⟨0, .live, false, [(.ro 1 v8.2.f0.length (flat E_B v8.2.f0)), (vI v8.2.f1), (vI v8.2.f2)]⟩)
abbrev q50_10 (y1 : (List Int)) (y2 : Int) (y3 : Int) : Nat × Ob := (0, ⟨0, .live, false, [(.ro 1 y1.length (flat E_B y1)), (vI y2), (vI y3)]⟩)
abbrev q50_11 (y4 : (List Int)) (x21 : Int) : Nat × Ob := (704, ⟨54, .live, true, flat E_B (y4 ++ ([x21] : List Int))⟩)
abbrev q50_12 (x41 : Int) : Nat × Ob := (704, ⟨28, .live, true, flat E_B ([x41] : List Int)⟩)
theorem C_simple_reader_flags (n : Nat) (a0 : T_SLBiie) (a1 : Int) (r : R_simple_reader_flags) (h : F_simple_reader_flags n a0 a1 = some r) : CallS Try.prog 50 [(.box [(.ro 1 a0.f0.length (flat E_B a0.f0)), (vI a0.f1), (vI a0.f2)]), (vI a1)] (.own 1 r.1.length (flat E_B r.1)) [some [(.ro 1 r.2.f0.length (flat E_B r.2.f0)), (vI r.2.f1), (vI r.2.f2)], none] := by
  refine CallS.introK tabOk Try.func50 rfl Try.ntmps50 (Nat.le_of_ble_eq_true rfl) ?_
  rw [F_simple_reader_flags] at h
  refine .seq ?_
  refine .rgI rfl ?_
  refine .seg tabOk 0 1 [0, 1] [0] (t := [(0, (.ptr (0, 0) 0)), (1, (vI a1))]) (h := [(q50_4 a0)]) (ep := 2) (by kernel_rfl) ?_
  refine .fin rfl ?_
  refine sqN ?_
  refine .scopeF (l := 0) rfl (β := (List Int) × Int × Int × (List Int) × Int × Int) (fun v => ⟨[(0, (.ptr (0, 0) 0)), (1, (vI a1)), (5, (.sref (704, 28) 0 v.2.2.2.1.length 1)), (6, (.val (.int .u8 v.2.2.2.2.1))), (7, (vI v.2.2.2.2.2))], [(0, ⟨0, .live, false, [(.ro 1 v.1.length (flat E_B v.1)), (vI v.2.1), (vI v.2.2.1)]⟩), (704, ⟨28, .live, true, flat E_B v.2.2.2.1⟩)], 32⟩) (fun m v => L_simple_reader_flags_0 a1 m v.1 v.2.1 v.2.2.1 v.2.2.2.1 v.2.2.2.2.1 v.2.2.2.2.2 = some r) n ?_ ?_
  · refine .seq ?_
    refine .rgI rfl ?_
    refine .seg tabOk 0 1 [0, 1, 5] [0] (t := [(0, (.ptr (0, 0) 0)), (1, (vI a1)), (5, .nils)]) (h := [(q50_4 a0)]) (ep := 4) (by kernel_rfl) ?_
    refine .fin rfl ?_
    refine sqN ?_
    refine .seq ?_
    refine .rgI rfl ?_
    refine .seg tabOk 0 2 [0, 1, 5, 6, 7] [0] (t := [(0, (.ptr (0, 0) 0)), (1, (vI a1)), (5, .nils), (6, (.val (.int .u8 0))), (7, (vI 0))]) (h := [(q50_4 a0)]) (ep := 6) (by kernel_rfl) ?_
    refine .fin rfl ?_
    refine sqN ?_
    refine .seq ?_
    refine .label ?_
    refine sqN ?_
    refine .seq ?_
    refine .seq ?_
    refine .rgI rfl ?_
    refine .seg tabOk 0 2 [0, 1, 5, 6, 7, 9] [0] (t := [(0, (.ptr (0, 0) 0)), (1, (vI a1)), (5, .nils), (6, (.val (.int .u8 0))), (7, (vI 0)), (9, (.val (.bool (decide (0 < 0)))))]) (h := [(q50_4 a0)]) (ep := 8) (by kernel_rfl) ?_
    refine .fin rfl ?_
    refine sqN ?_
    obtain ⟨j43, hj43, h⟩ := ljS h
    refine .join (fun s' => ∃ x38 x39 x40 x41 x42, s' = ⟨[(0, (.ptr (0, 0) 0)), (1, (vI a1)), (5, .nils), (6, (.val (.int .u8 x41))), (7, (vI x42))], [(q50_1 x38 x39 x40)], 24⟩ ∧ j43 x38 x39 x40 x41 x42 = some r) ?_ ?_
    · refine .cond (decide (0 < 0)) rfl (fun hc27 => ?_) (fun hc27 => ?_)
      · have h := iT h hc27
        refine .rgI rfl ?_
        refine .seg tabOk 0 3 [0, 1, 5, 6, 7] [0] (t := [(0, (.ptr (0, 0) 0)), (1, (vI a1)), (5, .nils), (6, (.val (.int .u8 0))), (7, (vI (w64 (0 - 1))))]) (h := [(q50_4 a0)]) (ep := 10) (by kernel_rfl) ?_
        refine .fin rfl ?_
        exact jkN (by exact .tn [((0, 0), (0, 0))] ⟨rfl, rfl, rfl, rfl, rfl, trivial⟩ ⟨rfl, ⟨_, rfl, rfl⟩, trivial⟩ rfl) ⟨_, _, _, _, _, rfl, h⟩
      · have h := iF h hc27
        refine .seq ?_
        refine .rgI rfl ?_
        refine .seg tabOk 0 1 [0, 1, 5, 7, 12] [0] (t := [(0, (.ptr (0, 0) 0)), (1, (vI a1)), (5, .nils), (7, (vI 0)), (12, (.ptr (0, 0) 0))]) (h := [(q50_4 a0)]) (ep := 10) (by kernel_rfl) ?_
        obtain ⟨v28, hv28, h⟩ := bS h
        refine .cc true rfl rfl (C_simple_reader_u _ _ _ _ hv28) ent_simple_reader_u rfl rfl rfl rfl (g_cons (g_pl rfl rfl) (g_cons (g_pl rfl rfl) g_nil)) rfl ?_
        refine .seg tabOk 2 2 [0, 1, 5, 6, 7] [0] (t := [(0, (.ptr (0, 0) 0)), (1, (vI a1)), (5, .nils), (q50_5 v28), (7, (vI 0))]) (h := [(q50_8 v28)]) (ep := 11) (by kernel_rfl) ?_
        refine .fin rfl ?_
        refine sqN ?_
        refine .seq ?_
        refine .seq ?_
        refine .rgI rfl ?_
        refine .seg tabOk 0 3 [0, 1, 5, 6, 7, 17] [0] (t := [(0, (.ptr (0, 0) 0)), (1, (vI a1)), (5, .nils), (q50_5 v28), (7, (vI 0)), (17, (.val (.bool (!decide ((bits .and .u8 (IntKind.wrap .u8 (v28.1)) 8) = 0)))))]) (h := [(q50_8 v28)]) (ep := 13) (by kernel_rfl) ?_
        refine .fin rfl ?_
        refine sqN ?_
        obtain ⟨j35, hj35, h⟩ := ljS h
        refine .join (fun s' => ∃ x31 x32 x33 x34, s' = ⟨[(0, (.ptr (0, 0) 0)), (1, (vI a1)), (5, .nils), (q50_5 v28), (7, (vI x34))], [(q50_7 x31 x32 x33)], 17⟩ ∧ j35 x31 x32 x33 x34 = some r) ?_ ?_
        · refine .cond (!decide ((bits .and .u8 (IntKind.wrap .u8 (v28.1)) 8) = 0)) rfl (fun hc29 => ?_) (fun hc29 => ?_)
          · have h := iT h hc29
            refine .rgI rfl ?_
            refine .seg tabOk 0 1 [0, 1, 5, 6, 18] [0] (t := [(0, (.ptr (0, 0) 0)), (1, (vI a1)), (5, .nils), (q50_5 v28), (18, (.ptr (0, 0) 0))]) (h := [(q50_8 v28)]) (ep := 15) (by kernel_rfl) ?_
            obtain ⟨v30, hv30, h⟩ := bS h
            refine .cc true rfl rfl (C_simple_reader_u _ _ _ _ hv30) ent_simple_reader_u rfl rfl rfl rfl (g_cons (g_pl rfl rfl) (g_cons (g_pl rfl rfl) g_nil)) rfl ?_
            refine .seg tabOk 2 1 [0, 1, 5, 6, 7] [0] (t := [(0, (.ptr (0, 0) 0)), (1, (vI a1)), (5, .nils), (q50_5 v28), (7, (vI v30.1))]) (h := [(0, ⟨0, .live, false, [(.ro 1 v30.2.f0.length (flat E_B v30.2.f0)), (vI v30.2.f1), (vI v30.2.f2)]⟩)]) (ep := 16) (by kernel_rfl) ?_
            refine .fin rfl ?_
            exact jkN (by exact .tn [((0, 0), (0, 0))] ⟨rfl, rfl, rfl, rfl, rfl, trivial⟩ ⟨rfl, ⟨_, rfl, rfl⟩, trivial⟩ rfl) ⟨_, _, _, _, rfl, h⟩
          · have h := iF h hc29
            refine .skip ?_
            exact jkN (by exact .tn [((0, 0), (0, 0))] ⟨rfl, rfl, rfl, rfl, rfl, trivial⟩ ⟨rfl, ⟨_, rfl, rfl⟩, trivial⟩ rfl) ⟨_, _, _, _, rfl, h⟩
        · rintro _ ⟨x31, x32, x33, x34, rfl, h⟩
          subst hj35
          refine sqN ?_
          refine .seq ?_
          refine .join (fun s' => s' = ⟨[(0, (.ptr (0, 0) 0)), (1, (vI a1)), (5, .nils), (q50_5 v28), (7, (vI x34)), (32, (.val (.bool ((decide (x33 = 0)) && (decide ((w64 (a1 - 0)) ≤ x34))))))], [(q50_7 x31 x32 x33)], 21⟩) ?_ ?_
          · refine .rgI rfl ?_
            refine .seg tabOk 0 6 [0, 1, 5, 6, 7, 25] [0] (t := [(0, (.ptr (0, 0) 0)), (1, (vI a1)), (5, .nils), (q50_5 v28), (7, (vI x34)), (25, (.val (.bool (decide (x33 = 0)))))]) (h := [(q50_7 x31 x32 x33)]) (ep := 19) (by kernel_rfl) ?_
            cases hB36 : (decide (x33 = 0)) with
            | false =>
              skip
              refine .seg tabOk 6 7 [0, 1, 5, 6, 7, 32] [0] (t := [(0, (.ptr (0, 0) 0)), (1, (vI a1)), (5, .nils), (q50_5 v28), (7, (vI x34)), (32, (.val (.bool false)))]) (h := [(q50_7 x31 x32 x33)]) (ep := 20) (by kernel_rfl) ?_
              refine .fin rfl ?_
              exact jkN (by exact .tn [((0, 0), (0, 0))] ⟨rfl, rfl, rfl, rfl, rfl, rfl, trivial⟩ ⟨rfl, ⟨_, rfl, rfl⟩, trivial⟩ rfl) rfl
            | true =>
              skip
              refine .seg tabOk 6 7 [0, 1, 5, 6, 7, 32] [0] (t := [(0, (.ptr (0, 0) 0)), (1, (vI a1)), (5, .nils), (q50_5 v28), (7, (vI x34)), (32, (.val (.bool (decide ((w64 (a1 - 0)) ≤ x34)))))]) (h := [(q50_7 x31 x32 x33)]) (ep := 20) (by kernel_rfl) ?_
              refine .fin rfl ?_
              exact jkN (by exact .tn [((0, 0), (0, 0))] ⟨rfl, rfl, rfl, rfl, rfl, rfl, trivial⟩ ⟨rfl, ⟨_, rfl, rfl⟩, trivial⟩ rfl) rfl
          · rintro _ rfl
            refine sqN ?_
            refine .cond ((decide (x33 = 0)) && (decide ((w64 (a1 - 0)) ≤ x34))) rfl (fun hc37 => ?_) (fun hc37 => ?_)
            · have h := iT h hc37
              refine .rgI rfl ?_
              refine .seg tabOk 0 4 [0, 1, 5, 6, 7] [0] (t := [(0, (.ptr (0, 0) 0)), (1, (vI a1)), (5, .nils), (q50_5 v28), (7, (vI x34))]) (h := [(0, ⟨0, .live, false, [(.ro 1 x31.length (flat E_B x31)), (vI x32), (vI 4)]⟩)]) (ep := 23) (by kernel_rfl) ?_
              refine .fin rfl ?_
              exact jkN (by exact .tn [((0, 0), (0, 0))] ⟨rfl, rfl, rfl, rfl, rfl, trivial⟩ ⟨rfl, ⟨_, rfl, rfl⟩, trivial⟩ rfl) ⟨_, _, _, _, _, rfl, h⟩
            · have h := iF h hc37
              refine .skip ?_
              exact jkN (by exact .tn [((0, 0), (0, 0))] ⟨rfl, rfl, rfl, rfl, rfl, trivial⟩ ⟨rfl, ⟨_, rfl, rfl⟩, trivial⟩ rfl) ⟨_, _, _, _, _, rfl, h⟩
    · rintro _ ⟨x38, x39, x40, x41, x42, rfl, h⟩
      subst hj43
      refine sqN ?_
      refine .seq ?_
      refine .seq ?_
      refine .rgI rfl ?_
      refine .seg tabOk 0 5 [0, 1, 5, 6, 7, 40] [0] (t := [(0, (.ptr (0, 0) 0)), (1, (vI a1)), (5, .nils), (6, (.val (.int .u8 x41))), (7, (vI x42)), (40, (.val (.bool (!decide (x40 = 0)))))]) (h := [(q50_1 x38 x39 x40)]) (ep := 26) (by kernel_rfl) ?_
      refine .fin rfl ?_
      refine sqN ?_
      refine .cond (!decide (x40 = 0)) rfl (fun hc44 => ?_) (fun hc44 => ?_)
      · have h := iT h hc44
        refine .seq ?_
        refine .rgI rfl ?_
        refine .seg tabOk 0 1 [4] [0] (t := [(4, .nils)]) (h := [(q50_1 x38 x39 x40)]) (ep := 28) (by kernel_rfl) ?_
        refine .fin rfl ?_
        refine sqN ?_
        refine .pre (.nilRow 4 1 79 rfl (fresh_none rfl)) ?_
        refine .ret ?_
        refine sqR ?_
        refine scR ?_
        injection h with h
        subst h
        exact ⟨.inr rfl, _, _, (f_cons (f_tmp rfl (o1_row E_B ([] : List Int) rfl rfl rfl rfl rfl)) f_nil), nd_of rfl, rfl, rfl⟩
      · have h := iF h hc44
        refine .skip ?_
        refine sqN ?_
        refine .seq ?_
        refine .rgI rfl ?_
        refine .seg tabOk 0 3 [0, 1, 6, 7, 41, 43] [0, 688] (t := [(0, (.ptr (0, 0) 0)), (1, (vI a1)), (6, (.val (.int .u8 x41))), (7, (vI x42)), (41, .nils), (43, (.sref (688, 27) 0 ([x41] : List Int).length 1))]) (h := [(q50_1 x38 x39 x40), (688, ⟨27, .live, true, flat E_B ([x41] : List Int)⟩)]) (ep := 28) (by kernel_rfl) ?_
        obtain ⟨hb45, h⟩ := gS h
        refine .oo tabOk rfl rfl rfl (q_appN E_B rfl rfl rfl rfl rfl rfl rfl rfl (.row ([x41] : List Int) rfl rfl rfl rfl) hb45) ?_
        refine .seg tabOk 4 1 [0, 1, 5, 6, 7] [0, 704] (t := [(0, (.ptr (0, 0) 0)), (1, (vI a1)), (5, (.sref (704, 28) 0 ([x41] : List Int).length 1)), (6, (.val (.int .u8 x41))), (7, (vI x42))]) (h := [(q50_1 x38 x39 x40), (q50_12 x41)]) (ep := 29) (by kernel_rfl) ?_
        refine .fin rfl ?_
        refine sqN ?_
        refine .seq ?_
        refine .seq ?_
        refine .rgI rfl ?_
        refine .seg tabOk 0 4 [0, 1, 5, 6, 7, 48] [0, 704] (t := [(0, (.ptr (0, 0) 0)), (1, (vI a1)), (5, (.sref (704, 28) 0 ([x41] : List Int).length 1)), (6, (.val (.int .u8 x41))), (7, (vI x42)), (48, (.val (.bool (decide ((([x41] : List Int).length : Int) < a1)))))]) (h := [(q50_1 x38 x39 x40), (q50_12 x41)]) (ep := 31) (by kernel_rfl) ?_
        refine .fin rfl ?_
        refine sqN ?_
        refine .cond (decide ((([x41] : List Int).length : Int) < a1)) rfl (fun hc46 => ?_) (fun hc46 => ?_)
        · have h := iT h hc46
          refine .goto ?_
          refine sqG ?_
          exact scJ (by exact .tn [((0, 0), (0, 0)), ((704, 28), (704, 28))] ⟨rfl, rfl, rfl, rfl, rfl, trivial⟩ ⟨rfl, ⟨_, rfl, rfl⟩, ⟨rfl, ⟨_, rfl, ah_row E_B⟩, trivial⟩⟩ rfl) ⟨(x38, x39, x40, ([x41] : List Int), x41, x42), rfl, h⟩
        · have h := iF h hc46
          refine .skip ?_
          refine sqN ?_
          refine .seq ?_
          refine .rgI rfl ?_
          refine .seg tabOk 0 2 [4] [0, 704] (t := [(4, (.sref (704, 28) 0 ([x41] : List Int).length 1))]) (h := [(q50_1 x38 x39 x40), (q50_12 x41)]) (ep := 33) (by kernel_rfl) ?_
          refine .fin rfl ?_
          refine sqN ?_
          refine .ret ?_
          refine scR ?_
          injection h with h
          subst h
          exact ⟨.inr rfl, _, _, (f_cons (f_tmp rfl (o1_row E_B ([x41] : List Int) rfl rfl rfl rfl rfl)) f_nil), nd_of rfl, rfl, rfl⟩
  · rintro m ⟨y1, y2, y3, y4, y5, y6⟩ h
    cases m with
    | zero => exact nomatch h
    | succ n =>
      rw [L_simple_reader_flags_0] at h
      refine .seq ?_
      refine .skip ?_
      refine sqN ?_
      refine .seq ?_
      refine .seq ?_
      refine .rgI rfl ?_
      refine .seg tabOk 0 2 [0, 1, 5, 6, 7, 9] [0, 704] (t := [(0, (.ptr (0, 0) 0)), (1, (vI a1)), (q50_3 y4), (6, (.val (.int .u8 y5))), (7, (vI y6)), (9, (.val (.bool (decide (0 < y6)))))]) (h := [(q50_10 y1 y2 y3), (q50_0 y4)]) (ep := 34) (by kernel_rfl) ?_
      refine .fin rfl ?_
      refine sqN ?_
      obtain ⟨j23, hj23, h⟩ := ljS h
      refine .join (fun s' => ∃ x18 x19 x20 x21 x22, s' = ⟨[(0, (.ptr (0, 0) 0)), (1, (vI a1)), (q50_3 y4), (6, (.val (.int .u8 x21))), (7, (vI x22))], [(q50_2 x18 x19 x20), (q50_0 y4)], 50⟩ ∧ j23 x18 x19 x20 x21 x22 = some r) ?_ ?_
      · refine .cond (decide (0 < y6)) rfl (fun hc7 => ?_) (fun hc7 => ?_)
        · have h := iT h hc7
          refine .rgI rfl ?_
          refine .seg tabOk 0 3 [0, 1, 5, 6, 7] [0, 704] (t := [(0, (.ptr (0, 0) 0)), (1, (vI a1)), (q50_3 y4), (6, (.val (.int .u8 y5))), (7, (vI (w64 (y6 - 1))))]) (h := [(q50_10 y1 y2 y3), (q50_0 y4)]) (ep := 36) (by kernel_rfl) ?_
          refine .fin rfl ?_
          exact jkN (by exact .tn [((0, 0), (0, 0)), ((704, 28), (704, 28))] ⟨rfl, rfl, rfl, rfl, rfl, trivial⟩ ⟨rfl, ⟨_, rfl, rfl⟩, ⟨rfl, ⟨_, rfl, ah_row E_B⟩, trivial⟩⟩ rfl) ⟨_, _, _, _, _, rfl, h⟩
        · have h := iF h hc7
          refine .seq ?_
          refine .rgI rfl ?_
          refine .seg tabOk 0 1 [0, 1, 5, 7, 12] [0, 704] (t := [(0, (.ptr (0, 0) 0)), (1, (vI a1)), (q50_3 y4), (7, (vI y6)), (12, (.ptr (0, 0) 0))]) (h := [(q50_10 y1 y2 y3), (q50_0 y4)]) (ep := 36) (by kernel_rfl) ?_
          obtain ⟨v8, hv8, h⟩ := bS h
          refine .cc true rfl rfl (C_simple_reader_u _ _ _ _ hv8) ent_simple_reader_u rfl rfl rfl rfl (g_cons (g_pl rfl rfl) (g_cons (g_pl rfl rfl) g_nil)) rfl ?_
          refine .seg tabOk 2 2 [0, 1, 5, 6, 7] [0, 704] (t := [(0, (.ptr (0, 0) 0)), (1, (vI a1)), (q50_3 y4), (q50_6 v8), (7, (vI y6))]) (h := [(q50_9 v8), (q50_0 y4)]) (ep := 37) (by kernel_rfl) ?_
          refine .fin rfl ?_
          refine sqN ?_
          refine .seq ?_
          refine .seq ?_
          refine .rgI rfl ?_
          refine .seg tabOk 0 3 [0, 1, 5, 6, 7, 17] [0, 704] (t := [(0, (.ptr (0, 0) 0)), (1, (vI a1)), (q50_3 y4), (q50_6 v8), (7, (vI y6)), (17, (.val (.bool (!decide ((bits .and .u8 (IntKind.wrap .u8 (v8.1)) 8) = 0)))))]) (h := [(q50_9 v8), (q50_0 y4)]) (ep := 39) (by kernel_rfl) ?_
          refine .fin rfl ?_
          refine sqN ?_
          obtain ⟨j15, hj15, h⟩ := ljS h
          refine .join (fun s' => ∃ x11 x12 x13 x14, s' = ⟨[(0, (.ptr (0, 0) 0)), (1, (vI a1)), (q50_3 y4), (q50_6 v8), (7, (vI x14))], [(0, ⟨0, .live, false, [(.ro 1 x11.length (flat E_B x11)), (vI x12), (vI x13)]⟩), (q50_0 y4)], 43⟩ ∧ j15 x11 x12 x13 x14 = some r) ?_ ?_
          · refine .cond (!decide ((bits .and .u8 (IntKind.wrap .u8 (v8.1)) 8) = 0)) rfl (fun hc9 => ?_) (fun hc9 => ?_)
            · have h := iT h hc9
              refine .rgI rfl ?_
              refine .seg tabOk 0 1 [0, 1, 5, 6, 18] [0, 704] (t := [(0, (.ptr (0, 0) 0)), (1, (vI a1)), (q50_3 y4), (q50_6 v8), (18, (.ptr (0, 0) 0))]) (h := [(q50_9 v8), (q50_0 y4)]) (ep := 41) (by kernel_rfl) ?_
              obtain ⟨v10, hv10, h⟩ := bS h
              refine .cc true rfl rfl (C_simple_reader_u _ _ _ _ hv10) ent_simple_reader_u rfl rfl rfl rfl (g_cons (g_pl rfl rfl) (g_cons (g_pl rfl rfl) g_nil)) rfl ?_
              refine .seg tabOk 2 1 [0, 1, 5, 6, 7] [0, 704] (t := [(0, (.ptr (0, 0) 0)), (1, (vI a1)), (q50_3 y4), (q50_6 v8), (7, (vI v10.1))]) (h := [(0, ⟨0, .live, false, [(.ro 1 v10.2.f0.length (flat E_B v10.2.f0)), (vI v10.2.f1), (vI v10.2.f2)]⟩), (q50_0 y4)]) (ep := 42) (by kernel_rfl) ?_
              refine .fin rfl ?_
              exact jkN (by exact .tn [((0, 0), (0, 0)), ((704, 28), (704, 28))] ⟨rfl, rfl, rfl, rfl, rfl, trivial⟩ ⟨rfl, ⟨_, rfl, rfl⟩, ⟨rfl, ⟨_, rfl, ah_row E_B⟩, trivial⟩⟩ rfl) ⟨_, _, _, _, rfl, h⟩
            · have h := iF h hc9
              refine .skip ?_
              exact jkN (by exact .tn [((0, 0), (0, 0)), ((704, 28), (704, 28))] ⟨rfl, rfl, rfl, rfl, rfl, trivial⟩ ⟨rfl, ⟨_, rfl, rfl⟩, ⟨rfl, ⟨_, rfl, ah_row E_B⟩, trivial⟩⟩ rfl) ⟨_, _, _, _, rfl, h⟩
          · rintro _ ⟨x11, x12, x13, x14, rfl, h⟩
            subst hj15
            refine sqN ?_
            refine .seq ?_
            refine .join (fun s' => s' = ⟨[(0, (.ptr (0, 0) 0)), (1, (vI a1)), (q50_3 y4), (q50_6 v8), (7, (vI x14)), (32, (.val (.bool ((decide (x13 = 0)) && (decide ((w64 (a1 - (y4.length : Int))) ≤ x14))))))], [(0, ⟨0, .live, false, [(.ro 1 x11.length (flat E_B x11)), (vI x12), (vI x13)]⟩), (q50_0 y4)], 47⟩) ?_ ?_
            · refine .rgI rfl ?_
              refine .seg tabOk 0 6 [0, 1, 5, 6, 7, 25] [0, 704] (t := [(0, (.ptr (0, 0) 0)), (1, (vI a1)), (q50_3 y4), (q50_6 v8), (7, (vI x14)), (25, (.val (.bool (decide (x13 = 0)))))]) (h := [(0, ⟨0, .live, false, [(.ro 1 x11.length (flat E_B x11)), (vI x12), (vI x13)]⟩), (q50_0 y4)]) (ep := 45) (by kernel_rfl) ?_
              cases hB16 : (decide (x13 = 0)) with
              | false =>
                skip
                refine .seg tabOk 6 7 [0, 1, 5, 6, 7, 32] [0, 704] (t := [(0, (.ptr (0, 0) 0)), (1, (vI a1)), (q50_3 y4), (q50_6 v8), (7, (vI x14)), (32, (.val (.bool false)))]) (h := [(0, ⟨0, .live, false, [(.ro 1 x11.length (flat E_B x11)), (vI x12), (vI x13)]⟩), (q50_0 y4)]) (ep := 46) (by kernel_rfl) ?_
                refine .fin rfl ?_
                exact jkN (by exact .tn [((0, 0), (0, 0)), ((704, 28), (704, 28))] ⟨rfl, rfl, rfl, rfl, rfl, rfl, trivial⟩ ⟨rfl, ⟨_, rfl, rfl⟩, ⟨rfl, ⟨_, rfl, ah_row E_B⟩, trivial⟩⟩ rfl) rfl
              | true =>
                skip
                refine .seg tabOk 6 7 [0, 1, 5, 6, 7, 32] [0, 704] (t := [(0, (.ptr (0, 0) 0)), (1, (vI a1)), (q50_3 y4), (q50_6 v8), (7, (vI x14)), (32, (.val (.bool (decide ((w64 (a1 - (y4.length : Int))) ≤ x14)))))]) (h := [(0, ⟨0, .live, false, [(.ro 1 x11.length (flat E_B x11)), (vI x12), (vI x13)]⟩), (q50_0 y4)]) (ep := 46) (by kernel_rfl) ?_
                refine .fin rfl ?_
                exact jkN (by exact .tn [((0, 0), (0, 0)), ((704, 28), (704, 28))] ⟨rfl, rfl, rfl, rfl, rfl, rfl, trivial⟩ ⟨rfl, ⟨_, rfl, rfl⟩, ⟨rfl, ⟨_, rfl, ah_row E_B⟩, trivial⟩⟩ rfl) rfl
            · rintro _ rfl
              refine sqN ?_
              refine .cond ((decide (x13 = 0)) && (decide ((w64 (a1 - (y4.length : Int))) ≤ x14))) rfl (fun hc17 => ?_) (fun hc17 => ?_)
              · have h := iT h hc17
                refine .rgI rfl ?_
                refine .seg tabOk 0 4 [0, 1, 5, 6, 7] [0, 704] (t := [(0, (.ptr (0, 0) 0)), (1, (vI a1)), (q50_3 y4), (q50_6 v8), (7, (vI x14))]) (h := [(0, ⟨0, .live, false, [(.ro 1 x11.length (flat E_B x11)), (vI x12), (vI 4)]⟩), (q50_0 y4)]) (ep := 49) (by kernel_rfl) ?_
                refine .fin rfl ?_
                exact jkN (by exact .tn [((0, 0), (0, 0)), ((704, 28), (704, 28))] ⟨rfl, rfl, rfl, rfl, rfl, trivial⟩ ⟨rfl, ⟨_, rfl, rfl⟩, ⟨rfl, ⟨_, rfl, ah_row E_B⟩, trivial⟩⟩ rfl) ⟨_, _, _, _, _, rfl, h⟩
              · have h := iF h hc17
                refine .skip ?_
                exact jkN (by exact .tn [((0, 0), (0, 0)), ((704, 28), (704, 28))] ⟨rfl, rfl, rfl, rfl, rfl, trivial⟩ ⟨rfl, ⟨_, rfl, rfl⟩, ⟨rfl, ⟨_, rfl, ah_row E_B⟩, trivial⟩⟩ rfl) ⟨_, _, _, _, _, rfl, h⟩
      · rintro _ ⟨x18, x19, x20, x21, x22, rfl, h⟩
        subst hj23
        refine sqN ?_
        refine .seq ?_
        refine .seq ?_
        refine .rgI rfl ?_
        refine .seg tabOk 0 5 [0, 1, 5, 6, 7, 40] [0, 704] (t := [(0, (.ptr (0, 0) 0)), (1, (vI a1)), (q50_3 y4), (6, (.val (.int .u8 x21))), (7, (vI x22)), (40, (.val (.bool (!decide (x20 = 0)))))]) (h := [(q50_2 x18 x19 x20), (q50_0 y4)]) (ep := 52) (by kernel_rfl) ?_
        refine .fin rfl ?_
        refine sqN ?_
        refine .cond (!decide (x20 = 0)) rfl (fun hc24 => ?_) (fun hc24 => ?_)
        · have h := iT h hc24
          refine .seq ?_
          refine .rgI rfl ?_
          refine .seg tabOk 0 1 [4] [0] (t := [(4, .nils)]) (h := [(q50_2 x18 x19 x20)]) (ep := 54) (by kernel_rfl) ?_
          refine .fin rfl ?_
          refine sqN ?_
          refine .pre (.nilRow 4 1 79 rfl (fresh_none rfl)) ?_
          refine .ret ?_
          refine sqR ?_
          refine scR ?_
          injection h with h
          subst h
          exact ⟨.inr rfl, _, _, (f_cons (f_tmp rfl (o1_row E_B ([] : List Int) rfl rfl rfl rfl rfl)) f_nil), nd_of rfl, rfl, rfl⟩
        · have h := iF h hc24
          refine .skip ?_
          refine sqN ?_
          refine .seq ?_
          refine .rgI rfl ?_
          refine .seg tabOk 0 3 [0, 1, 6, 7, 41, 43] [0, 688, 704] (t := [(0, (.ptr (0, 0) 0)), (1, (vI a1)), (6, (.val (.int .u8 x21))), (7, (vI x22)), (41, (.sref (704, 28) 0 y4.length 1)), (43, (.sref (688, 53) 0 ([x21] : List Int).length 1))]) (h := [(q50_2 x18 x19 x20), (688, ⟨53, .live, true, flat E_B ([x21] : List Int)⟩), (q50_0 y4)]) (ep := 54) (by kernel_rfl) ?_
          obtain ⟨hb25, h⟩ := gS h
          refine .oo tabOk rfl rfl rfl (q_app E_B (l := y4) rfl rfl rfl rfl rfl rfl rfl rfl rfl rfl rfl rfl rfl (.row ([x21] : List Int) rfl rfl rfl rfl) hb25) ?_
          refine .seg tabOk 4 1 [0, 1, 5, 6, 7] [0, 704] (t := [(0, (.ptr (0, 0) 0)), (1, (vI a1)), (5, (.sref (704, 54) 0 (y4 ++ ([x21] : List Int)).length 1)), (6, (.val (.int .u8 x21))), (7, (vI x22))]) (h := [(q50_2 x18 x19 x20), (q50_11 y4 x21)]) (ep := 55) (by kernel_rfl) ?_
          refine .fin rfl ?_
          refine sqN ?_
          refine .seq ?_
          refine .seq ?_
          refine .rgI rfl ?_
          refine .seg tabOk 0 4 [0, 1, 5, 6, 7, 48] [0, 704] (t := [(0, (.ptr (0, 0) 0)), (1, (vI a1)), (5, (.sref (704, 54) 0 (y4 ++ ([x21] : List Int)).length 1)), (6, (.val (.int .u8 x21))), (7, (vI x22)), (48, (.val (.bool (decide (((y4 ++ ([x21] : List Int)).length : Int) < a1)))))]) (h := [(q50_2 x18 x19 x20), (q50_11 y4 x21)]) (ep := 57) (by kernel_rfl) ?_
          refine .fin rfl ?_
          refine sqN ?_
          refine .cond (decide (((y4 ++ ([x21] : List Int)).length : Int) < a1)) rfl (fun hc26 => ?_) (fun hc26 => ?_)
          · have h := iT h hc26
            refine .goto ?_
            refine sqG ?_
            exact scJ (by exact .tn [((0, 0), (0, 0)), ((704, 54), (704, 28))] ⟨rfl, rfl, rfl, rfl, rfl, trivial⟩ ⟨rfl, ⟨_, rfl, rfl⟩, ⟨rfl, ⟨_, rfl, ah_row E_B⟩, trivial⟩⟩ rfl) ⟨n, (x18, x19, x20, (y4 ++ ([x21] : List Int)), x21, x22), Nat.lt_succ_self n, rfl, h⟩
          · have h := iF h hc26
            refine .skip ?_
            refine sqN ?_
            refine .seq ?_
            refine .rgI rfl ?_
            refine .seg tabOk 0 2 [4] [0, 704] (t := [(4, (.sref (704, 54) 0 (y4 ++ ([x21] : List Int)).length 1))]) (h := [(q50_2 x18 x19 x20), (q50_11 y4 x21)]) (ep := 59) (by kernel_rfl) ?_
            refine .fin rfl ?_
            refine sqN ?_
            refine .ret ?_
            refine scR ?_
            injection h with h
            subst h
            exact ⟨.inr rfl, _, _, (f_cons (f_tmp rfl (o1_row E_B (y4 ++ ([x21] : List Int)) rfl rfl rfl rfl rfl)) f_nil), nd_of rfl, rfl, rfl⟩
abbrev R_simple_reader_steps := (List Int) × T_SLBiie
def L_simple_reader_steps_0 (a1 : (List Int)) (a2 : Int) (a3 : Int) (j1 : (List Int) → Int → Int → (List Int) → Option R_simple_reader_steps) : Nat → (List Int) → Int → Int → (List Int) → Int → Int → Option R_simple_reader_steps
  | 0, _, _, _, _, _, _ => none
  | n + 1, y2, y3, y4, y5, y6, y7 =>
    if (decide (y7 < (a1.length : Int))) then
      gd (0 ≤ y7 ∧ y7 < a1.length) <|
      lj (fun (x16 : (List Int)) (x17 : Int) (x18 : Int) (x19 : Int) =>
        if (!decide ((if ((decide (x18 = 0)) && (!decide (x19 = (w64 ((IntKind.wrap .i16 (x19))))))) then 6 else x18) = 0)) then
          some (([] : List Int), (⟨x16, x17, (if ((decide (x18 = 0)) && (!decide (x19 = (w64 ((IntKind.wrap .i16 (x19))))))) then 6 else x18)⟩ : T_SLBiie))
        else
        gd (fits (y5.length + ([x19] : List Int).length) 8 = true) <|
        L_simple_reader_steps_0 a1 a2 a3 j1 n x16 x17 (if ((decide (x18 = 0)) && (!decide (x19 = (w64 ((IntKind.wrap .i16 (x19))))))) then 6 else x18) (y5 ++ ([x19] : List Int)) x19 (w64 (y7 + 1))) fun j20 =>
      if (decide ((bits .and .u8 (nth E_B a1 y7) (bits .or .u8 a2 a3)) = (bits .or .u8 a2 a3))) then
        Option.bind (F_simple_reader_u n (⟨y2, y3, y4⟩ : T_SLBiie) 1) fun v11 =>
        j20 v11.2.f0 v11.2.f1 v11.2.f2 (w64 (y6 + v11.1))
      else
      if (decide ((bits .and .u8 (nth E_B a1 y7) (bits .or .u8 a2 a3)) = a2)) then
        Option.bind (F_simple_reader_u n (⟨y2, y3, y4⟩ : T_SLBiie) 1) fun v13 =>
        j20 v13.2.f0 v13.2.f1 v13.2.f2 (w64 (y6 - v13.1))
      else
      if (decide ((bits .and .u8 (nth E_B a1 y7) (bits .or .u8 a2 a3)) = 0)) then
        Option.bind (F_simple_reader_u n (⟨y2, y3, y4⟩ : T_SLBiie) 2) fun v15 =>
        j20 v15.2.f0 v15.2.f1 v15.2.f2 (w64 (y6 + (w64 ((IntKind.wrap .i16 (v15.1))))))
      else
      j20 y2 y3 y4 y6
    else
    j1 y2 y3 y4 y5
def F_simple_reader_steps (n : Nat) (a0 : T_SLBiie) (a1 : (List Int)) (a2 : Int) (a3 : Int) : Option R_simple_reader_steps :=
  lj (fun (x25 : (List Int)) (x26 : Int) (x27 : Int) (x28 : (List Int)) =>
    some (x28, (⟨x25, x26, x27⟩ : T_SLBiie))) fun j1 =>
  L_simple_reader_steps_0 a1 a2 a3 j1 n a0.f0 a0.f1 a0.f2 ([] : List Int) 0 0
abbrev q51_0 (a1 : (List Int)) : Nat × V := (13, (.ro 1 a1.length (flat E_B a1)))
abbrev q51_1 (a1 : (List Int)) : Nat × V := (14, (vI (a1.length : Int)))
abbrev q51_2 (a0 : T_SLBiie) : Nat × Ob := (0, ⟨0, .live, false, [(.ro 1 a0.f0.length (flat E_B a0.f0)), (vI a0.f1), (vI a0.f2)]⟩)
abbrev q51_3 (a1 : (List Int)) (y7 : Int) (a2 : Int) (a3 : Int) : Nat × V := (23, (.val (.int .u8 (bits .and .u8 (nth E_B a1 y7) (bits .or .u8 a2 a3)))))
theorem C_simple_reader_steps (n : Nat) (a0 : T_SLBiie) (a1 : (List Int)) (a2 : Int) (a3 : Int) (r : R_simple_reader_steps) (h : F_simple_reader_steps n a0 a1 a2 a3 = some r) : CallS Try.prog 51 [(.box [(.ro 1 a0.f0.length (flat E_B a0.f0)), (vI a0.f1), (vI a0.f2)]), (.ro 1 a1.length (flat E_B a1)), (.val (.int .u8 a2)), (.val (.int .u8 a3))] (.own 1 r.1.length (flat E_i r.1)) [some [(.ro 1 r.2.f0.length (flat E_B r.2.f0)), (vI r.2.f1), (vI r.2.f2)], none, none, none] := by
  refine CallS.introK tabOk Try.func51 rfl Try.ntmps51 (Nat.le_of_ble_eq_true rfl) ?_
  rw [F_simple_reader_steps] at h
  refine .seq ?_
  refine .rgI rfl ?_
  refine .seg tabOk 0 1 [0, 1, 2, 3] [0] (t := [(0, (.ptr (0, 0) 0)), (1, (.ro 1 a1.length (flat E_B a1))), (2, (.val (.int .u8 a2))), (3, (.val (.int .u8 a3)))]) (h := [(q51_2 a0)]) (ep := 2) (by kernel_rfl) ?_
  refine .fin rfl ?_
  refine sqN ?_
  refine .seq ?_
  refine .rgI rfl ?_
  refine .seg tabOk 0 1 [0, 1, 2, 3, 9] [0] (t := [(0, (.ptr (0, 0) 0)), (1, (.ro 1 a1.length (flat E_B a1))), (2, (.val (.int .u8 a2))), (3, (.val (.int .u8 a3))), (9, .nils)]) (h := [(q51_2 a0)]) (ep := 4) (by kernel_rfl) ?_
  refine .fin rfl ?_
  refine sqN ?_
  refine .seq ?_
  refine .rgI rfl ?_
  refine .seg tabOk 0 1 [0, 1, 2, 3, 9, 10] [0] (t := [(0, (.ptr (0, 0) 0)), (1, (.ro 1 a1.length (flat E_B a1))), (2, (.val (.int .u8 a2))), (3, (.val (.int .u8 a3))), (9, .nils), (10, (vI 0))]) (h := [(q51_2 a0)]) (ep := 6) (by kernel_rfl) ?_
  refine .fin rfl ?_
  refine sqN ?_
  refine .seq ?_
  refine .seq ?_
  refine .rgI rfl ?_
  refine .seg tabOk 0 3 [0, 2, 3, 9, 10, 13, 14, 15] [0] (t := [(0, (.ptr (0, 0) 0)), (2, (.val (.int .u8 a2))), (3, (.val (.int .u8 a3))), (9, .nils), (10, (vI 0)), (q51_0 a1), (q51_1 a1), (15, (vI 0))]) (h := [(q51_2 a0)]) (ep := 8) (by kernel_rfl) ?_
  refine .fin rfl ?_
  refine sqN ?_
  obtain ⟨j1, hj1, h⟩ := ljS h
  refine .join (fun s' => ∃ x25 x26 x27 x28, s' = ⟨[(9, (.sref (159, 11) 0 x28.length 1))], [(0, ⟨0, .live, false, [(.ro 1 x25.length (flat E_B x25)), (vI x26), (vI x27)]⟩), (159, ⟨11, .live, true, flat E_i x28⟩)], 12⟩ ∧ j1 x25 x26 x27 x28 = some r) ?_ ?_
  · refine .block ?_
    refine .loopF (β := (List Int) × Int × Int × (List Int) × Int × Int) (fun v => ⟨[(0, (.ptr (0, 0) 0)), (2, (.val (.int .u8 a2))), (3, (.val (.int .u8 a3))), (9, (.sref (159, 8) 0 v.2.2.2.1.length 1)), (10, (vI v.2.2.2.2.1)), (q51_0 a1), (q51_1 a1), (15, (vI v.2.2.2.2.2))], [(0, ⟨0, .live, false, [(.ro 1 v.1.length (flat E_B v.1)), (vI v.2.1), (vI v.2.2.1)]⟩), (159, ⟨8, .live, true, flat E_i v.2.2.2.1⟩)], 9⟩) (fun m v => L_simple_reader_steps_0 a1 a2 a3 j1 m v.1 v.2.1 v.2.2.1 v.2.2.2.1 v.2.2.2.2.1 v.2.2.2.2.2 = some r) n (a0.f0, a0.f1, a0.f2, ([] : List Int), 0, 0) (by exact .trans (.nilRow 9 1 159 rfl (fresh_none rfl)) (.tn [((0, 0), (0, 0)), ((159, 8), (159, 8))] ⟨rfl, rfl, rfl, rfl, rfl, rfl, rfl, rfl, trivial⟩ ⟨rfl, ⟨_, rfl, rfl⟩, ⟨rfl, ⟨_, rfl, ah_row E_i⟩, trivial⟩⟩ rfl)) h ?_
    rintro m ⟨y2, y3, y4, y5, y6, y7⟩ h
    cases m with
    | zero => exact nomatch h
    | succ n =>
      rw [L_simple_reader_steps_0] at h
      refine .seq ?_
      refine .rgI rfl ?_
      refine .seg tabOk 0 1 [0, 2, 3, 9, 10, 13, 14, 15, 16] [0, 159] (t := [(0, (.ptr (0, 0) 0)), (2, (.val (.int .u8 a2))), (3, (.val (.int .u8 a3))), (9, (.sref (159, 8) 0 y5.length 1)), (10, (vI y6)), (q51_0 a1), (q51_1 a1), (15, (vI y7)), (16, (.val (.bool (decide (y7 < (a1.length : Int))))))]) (h := [(0, ⟨0, .live, false, [(.ro 1 y2.length (flat E_B y2)), (vI y3), (vI y4)]⟩), (159, ⟨8, .live, true, flat E_i y5⟩)]) (ep := 11) (by kernel_rfl) ?_
      refine .fin rfl ?_
      refine sqN ?_
      refine .seq ?_
      refine .cond (decide (y7 < (a1.length : Int))) rfl (fun hc8 => ?_) (fun hc8 => ?_)
      · have h := iT h hc8
        refine .skip ?_
        refine sqN ?_
        refine .seq ?_
        refine .block ?_
        refine .seq ?_
        refine .rgI rfl ?_
        obtain ⟨hb9, h⟩ := gS h
        refine .o tabOk rfl rfl rfl (q_idx E_B rfl rfl rfl rfl rfl rfl hb9) ?_
        refine .o tabOk rfl rfl rfl (q_ld0 E_B rfl rfl rfl hb9 rfl) ?_
        refine .seg tabOk 2 1 [0, 2, 3, 9, 10, 12, 13, 14, 15] [0, 159] (t := [(0, (.ptr (0, 0) 0)), (2, (.val (.int .u8 a2))), (3, (.val (.int .u8 a3))), (9, (.sref (159, 8) 0 y5.length 1)), (10, (vI y6)), (12, (.val (.int .u8 (nth E_B a1 y7)))), (q51_0 a1), (q51_1 a1), (15, (vI y7))]) (h := [(0, ⟨0, .live, false, [(.ro 1 y2.length (flat E_B y2)), (vI y3), (vI y4)]⟩), (159, ⟨8, .live, true, flat E_i y5⟩)]) (ep := 13) (by kernel_rfl) ?_
        refine .fin rfl ?_
        refine sqN ?_
        refine .seq ?_
        refine .seq ?_
        refine .rgI rfl ?_
        refine .seg tabOk 0 5 [0, 2, 3, 9, 10, 13, 14, 15, 23] [0, 159] (t := [(0, (.ptr (0, 0) 0)), (2, (.val (.int .u8 a2))), (3, (.val (.int .u8 a3))), (9, (.sref (159, 8) 0 y5.length 1)), (10, (vI y6)), (q51_0 a1), (q51_1 a1), (15, (vI y7)), (q51_3 a1 y7 a2 a3)]) (h := [(0, ⟨0, .live, false, [(.ro 1 y2.length (flat E_B y2)), (vI y3), (vI y4)]⟩), (159, ⟨8, .live, true, flat E_i y5⟩)]) (ep := 15) (by kernel_rfl) ?_
        refine .fin rfl ?_
        refine sqN ?_
        refine .block ?_
        refine .seq ?_
        refine .rgI rfl ?_
        refine .seg tabOk 0 5 [0, 2, 3, 9, 10, 13, 14, 15, 23, 24] [0, 159] (t := [(0, (.ptr (0, 0) 0)), (2, (.val (.int .u8 a2))), (3, (.val (.int .u8 a3))), (9, (.sref (159, 8) 0 y5.length 1)), (10, (vI y6)), (q51_0 a1), (q51_1 a1), (15, (vI y7)), (q51_3 a1 y7 a2 a3), (24, (.val (.bool (decide ((bits .and .u8 (nth E_B a1 y7) (bits .or .u8 a2 a3)) = (bits .or .u8 a2 a3))))))]) (h := [(0, ⟨0, .live, false, [(.ro 1 y2.length (flat E_B y2)), (vI y3), (vI y4)]⟩), (159, ⟨8, .live, true, flat E_i y5⟩)]) (ep := 17) (by kernel_rfl) ?_
        refine .fin rfl ?_
        refine sqN ?_
        obtain ⟨j20, hj20, h⟩ := ljS h
        refine .join (fun s' => ∃ x16 x17 x18 x19, s' = ⟨[(0, (.ptr (0, 0) 0)), (2, (.val (.int .u8 a2))), (3, (.val (.int .u8 a3))), (9, (.sref (159, 8) 0 y5.length 1)), (10, (vI x19)), (q51_0 a1), (q51_1 a1), (15, (vI y7))], [(0, ⟨0, .live, false, [(.ro 1 x16.length (flat E_B x16)), (vI x17), (vI x18)]⟩), (159, ⟨8, .live, true, flat E_i y5⟩)], 25⟩ ∧ j20 x16 x17 x18 x19 = some r) ?_ ?_
        · refine .cond (decide ((bits .and .u8 (nth E_B a1 y7) (bits .or .u8 a2 a3)) = (bits .or .u8 a2 a3))) rfl (fun hc10 => ?_) (fun hc10 => ?_)
          · have h := iT h hc10
            refine .rgI rfl ?_
            refine .seg tabOk 0 2 [0, 2, 3, 9, 13, 14, 15, 29, 30] [0, 159] (t := [(0, (.ptr (0, 0) 0)), (2, (.val (.int .u8 a2))), (3, (.val (.int .u8 a3))), (9, (.sref (159, 8) 0 y5.length 1)), (q51_0 a1), (q51_1 a1), (15, (vI y7)), (29, (vI y6)), (30, (.ptr (0, 0) 0))]) (h := [(0, ⟨0, .live, false, [(.ro 1 y2.length (flat E_B y2)), (vI y3), (vI y4)]⟩), (159, ⟨8, .live, true, flat E_i y5⟩)]) (ep := 19) (by kernel_rfl) ?_
            obtain ⟨v11, hv11, h⟩ := bS h
            refine .cc true rfl rfl (C_simple_reader_u _ _ _ _ hv11) ent_simple_reader_u rfl rfl rfl rfl (g_cons (g_pl rfl rfl) (g_cons (g_pl rfl rfl) g_nil)) rfl ?_
            refine .seg tabOk 3 2 [0, 2, 3, 9, 10, 13, 14, 15] [0, 159] (t := [(0, (.ptr (0, 0) 0)), (2, (.val (.int .u8 a2))), (3, (.val (.int .u8 a3))), (9, (.sref (159, 8) 0 y5.length 1)), (10, (vI (w64 (y6 + v11.1)))), (q51_0 a1), (q51_1 a1), (15, (vI y7))]) (h := [(0, ⟨0, .live, false, [(.ro 1 v11.2.f0.length (flat E_B v11.2.f0)), (vI v11.2.f1), (vI v11.2.f2)]⟩), (159, ⟨8, .live, true, flat E_i y5⟩)]) (ep := 20) (by kernel_rfl) ?_
            refine .fin rfl ?_
            exact jkN (by exact .tn [((0, 0), (0, 0)), ((159, 8), (159, 8))] ⟨rfl, rfl, rfl, rfl, rfl, rfl, rfl, rfl, trivial⟩ ⟨rfl, ⟨_, rfl, rfl⟩, ⟨rfl, ⟨_, rfl, ah_row E_i⟩, trivial⟩⟩ rfl) ⟨_, _, _, _, rfl, h⟩
          · have h := iF h hc10
            refine .seq ?_
            refine .rgI rfl ?_
            refine .seg tabOk 0 3 [0, 2, 3, 9, 10, 13, 14, 15, 23, 33] [0, 159] (t := [(0, (.ptr (0, 0) 0)), (2, (.val (.int .u8 a2))), (3, (.val (.int .u8 a3))), (9, (.sref (159, 8) 0 y5.length 1)), (10, (vI y6)), (q51_0 a1), (q51_1 a1), (15, (vI y7)), (q51_3 a1 y7 a2 a3), (33, (.val (.bool (decide ((bits .and .u8 (nth E_B a1 y7) (bits .or .u8 a2 a3)) = a2)))))]) (h := [(0, ⟨0, .live, false, [(.ro 1 y2.length (flat E_B y2)), (vI y3), (vI y4)]⟩), (159, ⟨8, .live, true, flat E_i y5⟩)]) (ep := 19) (by kernel_rfl) ?_
            refine .fin rfl ?_
            refine sqN ?_
            refine .cond (decide ((bits .and .u8 (nth E_B a1 y7) (bits .or .u8 a2 a3)) = a2)) rfl (fun hc12 => ?_) (fun hc12 => ?_)
            · have h := iT h hc12
              refine .rgI rfl ?_
              refine .seg tabOk 0 2 [0, 2, 3, 9, 13, 14, 15, 36, 37] [0, 159] (t := [(0, (.ptr (0, 0) 0)), (2, (.val (.int .u8 a2))), (3, (.val (.int .u8 a3))), (9, (.sref (159, 8) 0 y5.length 1)), (q51_0 a1), (q51_1 a1), (15, (vI y7)), (36, (vI y6)), (37, (.ptr (0, 0) 0))]) (h := [(0, ⟨0, .live, false, [(.ro 1 y2.length (flat E_B y2)), (vI y3), (vI y4)]⟩), (159, ⟨8, .live, true, flat E_i y5⟩)]) (ep := 21) (by kernel_rfl) ?_
              obtain ⟨v13, hv13, h⟩ := bS h
              refine .cc true rfl rfl (C_simple_reader_u _ _ _ _ hv13) ent_simple_reader_u rfl rfl rfl rfl (g_cons (g_pl rfl rfl) (g_cons (g_pl rfl rfl) g_nil)) rfl ?_
              refine .seg tabOk 3 2 [0, 2, 3, 9, 10, 13, 14, 15] [0, 159] (t := [(0, (.ptr (0, 0) 0)), (2, (.val (.int .u8 a2))), (3, (.val (.int .u8 a3))), (9, (.sref (159, 8) 0 y5.length 1)), (10, (vI (w64 (y6 - v13.1)))), (q51_0 a1), (q51_1 a1), (15, (vI y7))]) (h := [(0, ⟨0, .live, false, [(.ro 1 v13.2.f0.length (flat E_B v13.2.f0)), (vI v13.2.f1), (vI v13.2.f2)]⟩), (159, ⟨8, .live, true, flat E_i y5⟩)]) (ep := 22) (by kernel_rfl) ?_
              refine .fin rfl ?_
              exact jkN (by exact .tn [((0, 0), (0, 0)), ((159, 8), (159, 8))] ⟨rfl, rfl, rfl, rfl, rfl, rfl, rfl, rfl, trivial⟩ ⟨rfl, ⟨_, rfl, rfl⟩, ⟨rfl, ⟨_, rfl, ah_row E_i⟩, trivial⟩⟩ rfl) ⟨_, _, _, _, rfl, h⟩
            · have h := iF h hc12
              refine .seq ?_
              refine .rgI rfl ?_
              refine .seg tabOk 0 2 [0, 2, 3, 9, 10, 13, 14, 15, 40] [0, 159] (t := [(0, (.ptr (0, 0) 0)), (2, (.val (.int .u8 a2))), (3, (.val (.int .u8 a3))), (9, (.sref (159, 8) 0 y5.length 1)), (10, (vI y6)), (q51_0 a1), (q51_1 a1), (15, (vI y7)), (40, (.val (.bool (decide ((bits .and .u8 (nth E_B a1 y7) (bits .or .u8 a2 a3)) = 0)))))]) (h := [(0, ⟨0, .live, false, [(.ro 1 y2.length (flat E_B y2)), (vI y3), (vI y4)]⟩), (159, ⟨8, .live, true, flat E_i y5⟩)]) (ep := 21) (by kernel_rfl) ?_
              refine .fin rfl ?_
              refine sqN ?_
              refine .cond (decide ((bits .and .u8 (nth E_B a1 y7) (bits .or .u8 a2 a3)) = 0)) rfl (fun hc14 => ?_) (fun hc14 => ?_)
              · have h := iT h hc14
                refine .rgI rfl ?_
                refine .seg tabOk 0 2 [0, 2, 3, 9, 13, 14, 15, 42, 43] [0, 159] (t := [(0, (.ptr (0, 0) 0)), (2, (.val (.int .u8 a2))), (3, (.val (.int .u8 a3))), (9, (.sref (159, 8) 0 y5.length 1)), (q51_0 a1), (q51_1 a1), (15, (vI y7)), (42, (vI y6)), (43, (.ptr (0, 0) 0))]) (h := [(0, ⟨0, .live, false, [(.ro 1 y2.length (flat E_B y2)), (vI y3), (vI y4)]⟩), (159, ⟨8, .live, true, flat E_i y5⟩)]) (ep := 23) (by kernel_rfl) ?_
                obtain ⟨v15, hv15, h⟩ := bS h
                refine .cc true rfl rfl (C_simple_reader_u _ _ _ _ hv15) ent_simple_reader_u rfl rfl rfl rfl (g_cons (g_pl rfl rfl) (g_cons (g_pl rfl rfl) g_nil)) rfl ?_
                refine .seg tabOk 3 4 [0, 2, 3, 9, 10, 13, 14, 15] [0, 159] (t := [(0, (.ptr (0, 0) 0)), (2, (.val (.int .u8 a2))), (3, (.val (.int .u8 a3))), (9, (.sref (159, 8) 0 y5.length 1)), (10, (vI (w64 (y6 + (w64 ((IntKind.wrap .i16 (v15.1)))))))), (q51_0 a1), (q51_1 a1), (15, (vI y7))]) (h := [(0, ⟨0, .live, false, [(.ro 1 v15.2.f0.length (flat E_B v15.2.f0)), (vI v15.2.f1), (vI v15.2.f2)]⟩), (159, ⟨8, .live, true, flat E_i y5⟩)]) (ep := 24) (by kernel_rfl) ?_
                refine .fin rfl ?_
                exact jkN (by exact .tn [((0, 0), (0, 0)), ((159, 8), (159, 8))] ⟨rfl, rfl, rfl, rfl, rfl, rfl, rfl, rfl, trivial⟩ ⟨rfl, ⟨_, rfl, rfl⟩, ⟨rfl, ⟨_, rfl, ah_row E_i⟩, trivial⟩⟩ rfl) ⟨_, _, _, _, rfl, h⟩
              · have h := iF h hc14
                refine .skip ?_
                exact jkN (by exact .tn [((0, 0), (0, 0)), ((159, 8), (159, 8))] ⟨rfl, rfl, rfl, rfl, rfl, rfl, rfl, rfl, trivial⟩ ⟨rfl, ⟨_, rfl, rfl⟩, ⟨rfl, ⟨_, rfl, ah_row E_i⟩, trivial⟩⟩ rfl) ⟨_, _, _, _, rfl, h⟩
        · rintro _ ⟨x16, x17, x18, x19, rfl, h⟩
          subst hj20
          refine bkN ?_
          refine sqN ?_
          refine .seq ?_
          refine .seq ?_
          refine .join (fun s' => s' = ⟨[(0, (.ptr (0, 0) 0)), (2, (.val (.int .u8 a2))), (3, (.val (.int .u8 a3))), (9, (.sref (159, 8) 0 y5.length 1)), (10, (vI x19)), (q51_0 a1), (q51_1 a1), (15, (vI y7)), (59, (.val (.bool ((decide (x18 = 0)) && (!decide (x19 = (w64 ((IntKind.wrap .i16 (x19))))))))))], [(0, ⟨0, .live, false, [(.ro 1 x16.length (flat E_B x16)), (vI x17), (vI x18)]⟩), (159, ⟨8, .live, true, flat E_i y5⟩)], 29⟩) ?_ ?_
          · refine .rgI rfl ?_
            refine .seg tabOk 0 6 [0, 2, 3, 9, 10, 13, 14, 15, 53] [0, 159] (t := [(0, (.ptr (0, 0) 0)), (2, (.val (.int .u8 a2))), (3, (.val (.int .u8 a3))), (9, (.sref (159, 8) 0 y5.length 1)), (10, (vI x19)), (q51_0 a1), (q51_1 a1), (15, (vI y7)), (53, (.val (.bool (decide (x18 = 0)))))]) (h := [(0, ⟨0, .live, false, [(.ro 1 x16.length (flat E_B x16)), (vI x17), (vI x18)]⟩), (159, ⟨8, .live, true, flat E_i y5⟩)]) (ep := 27) (by kernel_rfl) ?_
            cases hB21 : (decide (x18 = 0)) with
            | false =>
              skip
              refine .seg tabOk 6 6 [0, 2, 3, 9, 10, 13, 14, 15, 59] [0, 159] (t := [(0, (.ptr (0, 0) 0)), (2, (.val (.int .u8 a2))), (3, (.val (.int .u8 a3))), (9, (.sref (159, 8) 0 y5.length 1)), (10, (vI x19)), (q51_0 a1), (q51_1 a1), (15, (vI y7)), (59, (.val (.bool false)))]) (h := [(0, ⟨0, .live, false, [(.ro 1 x16.length (flat E_B x16)), (vI x17), (vI x18)]⟩), (159, ⟨8, .live, true, flat E_i y5⟩)]) (ep := 28) (by kernel_rfl) ?_
              refine .fin rfl ?_
              exact jkN (by exact .tn [((0, 0), (0, 0)), ((159, 8), (159, 8))] ⟨rfl, rfl, rfl, rfl, rfl, rfl, rfl, rfl, rfl, trivial⟩ ⟨rfl, ⟨_, rfl, rfl⟩, ⟨rfl, ⟨_, rfl, ah_row E_i⟩, trivial⟩⟩ rfl) rfl
            | true =>
              skip
              refine .seg tabOk 6 6 [0, 2, 3, 9, 10, 13, 14, 15, 59] [0, 159] (t := [(0, (.ptr (0, 0) 0)), (2, (.val (.int .u8 a2))), (3, (.val (.int .u8 a3))), (9, (.sref (159, 8) 0 y5.length 1)), (10, (vI x19)), (q51_0 a1), (q51_1 a1), (15, (vI y7)), (59, (.val (.bool (!decide (x19 = (w64 ((IntKind.wrap .i16 (x19)))))))))]) (h := [(0, ⟨0, .live, false, [(.ro 1 x16.length (flat E_B x16)), (vI x17), (vI x18)]⟩), (159, ⟨8, .live, true, flat E_i y5⟩)]) (ep := 28) (by kernel_rfl) ?_
              refine .fin rfl ?_
              exact jkN (by exact .tn [((0, 0), (0, 0)), ((159, 8), (159, 8))] ⟨rfl, rfl, rfl, rfl, rfl, rfl, rfl, rfl, rfl, trivial⟩ ⟨rfl, ⟨_, rfl, rfl⟩, ⟨rfl, ⟨_, rfl, ah_row E_i⟩, trivial⟩⟩ rfl) rfl
          · rintro _ rfl
            refine sqN ?_
            refine .join (fun s' => s' = ⟨[(0, (.ptr (0, 0) 0)), (2, (.val (.int .u8 a2))), (3, (.val (.int .u8 a3))), (9, (.sref (159, 8) 0 y5.length 1)), (10, (vI x19)), (q51_0 a1), (q51_1 a1), (15, (vI y7))], [(0, ⟨0, .live, false, [(.ro 1 x16.length (flat E_B x16)), (vI x17), (vI (if ((decide (x18 = 0)) && (!decide (x19 = (w64 ((IntKind.wrap .i16 (x19))))))) then 6 else x18))]⟩), (159, ⟨8, .live, true, flat E_i y5⟩)], 32⟩) ?_ ?_
            · refine .cond ((decide (x18 = 0)) && (!decide (x19 = (w64 ((IntKind.wrap .i16 (x19))))))) rfl (fun hc22 => ?_) (fun hc22 => ?_)
              · skip
                refine .rgI rfl ?_
                refine .seg tabOk 0 4 [0, 2, 3, 9, 10, 13, 14, 15] [0, 159] (t := [(0, (.ptr (0, 0) 0)), (2, (.val (.int .u8 a2))), (3, (.val (.int .u8 a3))), (9, (.sref (159, 8) 0 y5.length 1)), (10, (vI x19)), (q51_0 a1), (q51_1 a1), (15, (vI y7))]) (h := [(0, ⟨0, .live, false, [(.ro 1 x16.length (flat E_B x16)), (vI x17), (vI 6)]⟩), (159, ⟨8, .live, true, flat E_i y5⟩)]) (ep := 31) (by kernel_rfl) ?_
                refine .fin rfl ?_
                exact jkN (by exact .tn [((0, 0), (0, 0)), ((159, 8), (159, 8))] ⟨(by (try rw [hc22]); rfl), (by (try rw [hc22]); rfl), (by (try rw [hc22]); rfl), (by (try rw [hc22]); rfl), (by (try rw [hc22]); rfl), (by (try rw [hc22]); rfl), (by (try rw [hc22]); rfl), (by (try rw [hc22]); rfl), trivial⟩ ⟨rfl, ⟨_, rfl, (by (try rw [hc22]); exact rfl)⟩, ⟨rfl, ⟨_, rfl, (by (try rw [hc22]); exact ah_row E_i)⟩, trivial⟩⟩ rfl) rfl
              · skip
                refine .skip ?_
                exact jkN (by exact .tn [((0, 0), (0, 0)), ((159, 8), (159, 8))] ⟨(by (try rw [hc22]); rfl), (by (try rw [hc22]); rfl), (by (try rw [hc22]); rfl), (by (try rw [hc22]); rfl), (by (try rw [hc22]); rfl), (by (try rw [hc22]); rfl), (by (try rw [hc22]); rfl), (by (try rw [hc22]); rfl), trivial⟩ ⟨rfl, ⟨_, rfl, (by (try rw [hc22]); exact rfl)⟩, ⟨rfl, ⟨_, rfl, (by (try rw [hc22]); exact ah_row E_i)⟩, trivial⟩⟩ rfl) rfl
            · rintro _ rfl
              refine sqN ?_
              refine .seq ?_
              refine .seq ?_
              refine .rgI rfl ?_
              refine .seg tabOk 0 5 [0, 2, 3, 9, 10, 13, 14, 15, 67] [0, 159] (t := [(0, (.ptr (0, 0) 0)), (2, (.val (.int .u8 a2))), (3, (.val (.int .u8 a3))), (9, (.sref (159, 8) 0 y5.length 1)), (10, (vI x19)), (q51_0 a1), (q51_1 a1), (15, (vI y7)), (67, (.val (.bool (!decide ((if ((decide (x18 = 0)) && (!decide (x19 = (w64 ((IntKind.wrap .i16 (x19))))))) then 6 else x18) = 0)))))]) (h := [(0, ⟨0, .live, false, [(.ro 1 x16.length (flat E_B x16)), (vI x17), (vI (if ((decide (x18 = 0)) && (!decide (x19 = (w64 ((IntKind.wrap .i16 (x19))))))) then 6 else x18))]⟩), (159, ⟨8, .live, true, flat E_i y5⟩)]) (ep := 34) (by kernel_rfl) ?_
              refine .fin rfl ?_
              refine sqN ?_
              refine .cond (!decide ((if ((decide (x18 = 0)) && (!decide (x19 = (w64 ((IntKind.wrap .i16 (x19))))))) then 6 else x18) = 0)) rfl (fun hc23 => ?_) (fun hc23 => ?_)
              · have h := iT h hc23
                refine .seq ?_
                refine .rgI rfl ?_
                refine .seg tabOk 0 1 [8] [0] (t := [(8, .nils)]) (h := [(0, ⟨0, .live, false, [(.ro 1 x16.length (flat E_B x16)), (vI x17), (vI (if ((decide (x18 = 0)) && (!decide (x19 = (w64 ((IntKind.wrap .i16 (x19))))))) then 6 else x18))]⟩)]) (ep := 36) (by kernel_rfl) ?_
                refine .fin rfl ?_
                refine sqN ?_
                refine .pre (.nilRow 8 1 143 rfl (fresh_none rfl)) ?_
                refine .ret ?_
                refine sqR ?_
                refine bkR ?_
                refine sqR ?_
                refine jkR ?_
                refine bkR ?_
                refine jkR ?_
                refine sqR ?_
                injection h with h
                subst h
                exact ⟨.inr rfl, _, _, (f_cons (f_tmp rfl (o1_row E_i ([] : List Int) rfl rfl rfl rfl rfl)) f_nil), nd_of rfl, rfl, rfl⟩
              · have h := iF h hc23
                refine .skip ?_
                refine sqN ?_
                refine .rgI rfl ?_
                refine .seg tabOk 0 3 [0, 2, 3, 10, 13, 14, 15, 68, 70] [0, 159, 1120] (t := [(0, (.ptr (0, 0) 0)), (2, (.val (.int .u8 a2))), (3, (.val (.int .u8 a3))), (10, (vI x19)), (q51_0 a1), (q51_1 a1), (15, (vI y7)), (68, (.sref (159, 8) 0 y5.length 1)), (70, (.sref (1120, 35) 0 ([x19] : List Int).length 1))]) (h := [(0, ⟨0, .live, false, [(.ro 1 x16.length (flat E_B x16)), (vI x17), (vI (if ((decide (x18 = 0)) && (!decide (x19 = (w64 ((IntKind.wrap .i16 (x19))))))) then 6 else x18))]⟩), (159, ⟨8, .live, true, flat E_i y5⟩), (1120, ⟨35, .live, true, flat E_i ([x19] : List Int)⟩)]) (ep := 36) (by kernel_rfl) ?_
                obtain ⟨hb24, h⟩ := gS h
                refine .oo tabOk rfl rfl rfl (q_app E_i (l := y5) rfl rfl rfl rfl rfl rfl rfl rfl rfl rfl rfl rfl rfl (.row ([x19] : List Int) rfl rfl rfl rfl) hb24) ?_
                refine .seg tabOk 4 1 [0, 2, 3, 9, 10, 13, 14, 15] [0, 1136] (t := [(0, (.ptr (0, 0) 0)), (2, (.val (.int .u8 a2))), (3, (.val (.int .u8 a3))), (9, (.sref (1136, 36) 0 (y5 ++ ([x19] : List Int)).length 1)), (10, (vI x19)), (q51_0 a1), (q51_1 a1), (15, (vI y7))]) (h := [(0, ⟨0, .live, false, [(.ro 1 x16.length (flat E_B x16)), (vI x17), (vI (if ((decide (x18 = 0)) && (!decide (x19 = (w64 ((IntKind.wrap .i16 (x19))))))) then 6 else x18))]⟩), (1136, ⟨36, .live, true, flat E_i (y5 ++ ([x19] : List Int))⟩)]) (ep := 37) (by kernel_rfl) ?_
                refine .fin rfl ?_
                refine bkN ?_
                refine sqN ?_
                refine .rgI rfl ?_
                refine .seg tabOk 0 2 [0, 2, 3, 9, 10, 13, 14, 15] [0, 1136] (t := [(0, (.ptr (0, 0) 0)), (2, (.val (.int .u8 a2))), (3, (.val (.int .u8 a3))), (9, (.sref (1136, 36) 0 (y5 ++ ([x19] : List Int)).length 1)), (10, (vI x19)), (q51_0 a1), (q51_1 a1), (15, (vI (w64 (y7 + 1))))]) (h := [(0, ⟨0, .live, false, [(.ro 1 x16.length (flat E_B x16)), (vI x17), (vI (if ((decide (x18 = 0)) && (!decide (x19 = (w64 ((IntKind.wrap .i16 (x19))))))) then 6 else x18))]⟩), (1136, ⟨36, .live, true, flat E_i (y5 ++ ([x19] : List Int))⟩)]) (ep := 39) (by kernel_rfl) ?_
                refine .fin rfl ?_
                exact jkN (by exact .tn [((0, 0), (0, 0)), ((1136, 36), (159, 8))] ⟨rfl, rfl, rfl, rfl, rfl, rfl, rfl, rfl, trivial⟩ ⟨rfl, ⟨_, rfl, rfl⟩, ⟨rfl, ⟨_, rfl, ah_row E_i⟩, trivial⟩⟩ rfl) ⟨n, (x16, x17, (if ((decide (x18 = 0)) && (!decide (x19 = (w64 ((IntKind.wrap .i16 (x19))))))) then 6 else x18), (y5 ++ ([x19] : List Int)), x19, (w64 (y7 + 1))), Nat.lt_succ_self n, rfl, h⟩
      · have h := iF h hc8
        refine .exit ?_
        refine sqX ?_
        refine jkX ?_
        refine bkE ?_
        exact jkN (by exact .tn [((0, 0), (0, 0)), ((159, 8), (159, 11))] ⟨rfl, trivial⟩ ⟨rfl, ⟨_, rfl, rfl⟩, ⟨rfl, ⟨_, rfl, ah_row E_i⟩, trivial⟩⟩ rfl) ⟨_, _, _, _, rfl, h⟩
  · rintro _ ⟨x25, x26, x27, x28, rfl, h⟩
    subst hj1
    refine sqN ?_
    refine .seq ?_
    refine .rgI rfl ?_
    refine .seg tabOk 0 2 [8] [0, 159] (t := [(8, (.sref (159, 11) 0 x28.length 1))]) (h := [(0, ⟨0, .live, false, [(.ro 1 x25.length (flat E_B x25)), (vI x26), (vI x27)]⟩), (159, ⟨11, .live, true, flat E_i x28⟩)]) (ep := 14) (by kernel_rfl) ?_
    refine .fin rfl ?_
    refine sqN ?_
    refine .ret ?_
    injection h with h
    subst h
    exact ⟨.inr rfl, _, _, (f_cons (f_tmp rfl (o1_row E_i x28 rfl rfl rfl rfl rfl)) f_nil), nd_of rfl, rfl, rfl⟩
abbrev R_simple_Read := T_SLLSiibeLBe × Int
def L_simple_Read_1 (v7 : R_simple_reader_ends) (v11 : R_simple_reader_flags) (v12 : R_simple_reader_steps) (v13 : R_simple_reader_steps) (y18 : Int) (j22 : (List T_Siibe) → Option R_simple_Read) : Nat → (List T_Siibe) → Int → Option R_simple_Read
  | 0, _, _ => none
  | n + 1, y23, y24 =>
    if (decide (y24 ≤ (nth E_i v7.1 y18))) then
      gd (0 ≤ y24 ∧ y24 < v12.1.length) <|
      gd (0 ≤ y24 ∧ y24 < v13.1.length) <|
      gd (0 ≤ y24 ∧ y24 < v11.1.length) <|
      gd (fits (y23.length + ([(⟨(nth E_i v12.1 y24), (nth E_i v13.1 y24), (!decide ((bits .and .u8 (nth E_B v11.1 y24) 1) = 0))⟩ : T_Siibe)] : List T_Siibe).length) 24 = true) <|
      L_simple_Read_1 v7 v11 v12 v13 y18 j22 n (y23 ++ ([(⟨(nth E_i v12.1 y24), (nth E_i v13.1 y24), (!decide ((bits .and .u8 (nth E_B v11.1 y24) 1) = 0))⟩ : T_Siibe)] : List T_Siibe)) (w64 (y24 + 1))
    else
    j22 y23
def L_simple_Read_0 (v7 : R_simple_reader_ends) (v11 : R_simple_reader_flags) (v12 : R_simple_reader_steps) (v13 : R_simple_reader_steps) (j15 : (List (List T_Siibe)) → Option R_simple_Read) : Nat → (List (List T_Siibe)) → Int → Int → Option R_simple_Read
  | 0, _, _, _ => none
  | n + 1, y16, y17, y18 =>
    if (decide (y18 < (v7.1.length : Int))) then
      lj (fun (x32 : (List (List T_Siibe))) =>
        L_simple_Read_0 v7 v11 v12 v13 j15 n x32 (w64 ((nth E_i v7.1 y18) + 1)) (w64 (y18 + 1))) fun j20 =>
      gd (0 ≤ y18 ∧ y18 < v7.1.length) <|
      lj (fun (x30 : (List T_Siibe)) =>
        gd (fits (y16.length + ([x30] : List (List T_Siibe)).length) 24 = true) <|
        j20 (y16 ++ ([x30] : List (List T_Siibe)))) fun j22 =>
      L_simple_Read_1 v7 v11 v12 v13 y18 j22 n ([] : List T_Siibe) y17
    else
    j15 y16
def F_simple_Read (n : Nat) (a0 : (List Int)) : Option R_simple_Read :=
  if (decide ((a0.length : Int) = 0)) then
    some ((⟨([] : List (List T_Siibe)), ([] : List Int)⟩ : T_SLLSiibeLBe), 0)
  else
  Option.bind (F_be_S n a0 0 2) fun v2 =>
  if ((!decide (v2.2 = 0)) || (decide ((a0.length : Int) < 10))) then
    some ((⟨([] : List (List T_Siibe)), ([] : List Int)⟩ : T_SLLSiibeLBe), 3)
  else
  if (decide (v2.1 < 0)) then
    some ((⟨([] : List (List T_Siibe)), ([] : List Int)⟩ : T_SLLSiibeLBe), 11)
  else
  if (decide (v2.1 = 0)) then
    some ((⟨([] : List (List T_Siibe)), ([] : List Int)⟩ : T_SLLSiibeLBe), 0)
  else
  Option.bind (F_simple_reader_ends n (⟨a0, 10, 0⟩ : T_SLBiie) v2.1) fun v7 =>
  if (!decide (v7.2.f2 = 0)) then
    some ((⟨([] : List (List T_Siibe)), ([] : List Int)⟩ : T_SLLSiibeLBe), v7.2.f2)
  else
  Option.bind (F_simple_reader_code n v7.2) fun v9 =>
  gd (0 ≤ (w64 (v2.1 - 1)) ∧ (w64 (v2.1 - 1)) < v7.1.length) <|
  Option.bind (F_simple_reader_flags n v9.2 (w64 ((nth E_i v7.1 (w64 (v2.1 - 1))) + 1))) fun v11 =>
  Option.bind (F_simple_reader_steps n v11.2 v11.1 2 16) fun v12 =>
  Option.bind (F_simple_reader_steps n v12.2 v11.1 4 32) fun v13 =>
  if (!decide (v13.2.f2 = 0)) then
    some ((⟨([] : List (List T_Siibe)), ([] : List Int)⟩ : T_SLLSiibeLBe), v13.2.f2)
  else
  lj (fun (x33 : (List (List T_Siibe))) =>
    some ((⟨x33, v9.1⟩ : T_SLLSiibeLBe), 0)) fun j15 =>
  L_simple_Read_0 v7 v11 v12 v13 j15 n ([] : List (List T_Siibe)) 0 0
abbrev q23_0 : Nat × Ob := (32, ⟨1, .live, false, [.nils, .nils]⟩)
abbrev q23_1 (v7 : R_simple_reader_ends) : Nat × Ob := (768, ⟨19, .live, true, flat E_i v7.1⟩)
abbrev q23_2 (v9 : R_simple_reader_code) : Nat × Ob := (960, ⟨24, .live, true, flat E_B v9.1⟩)
abbrev q23_3 (v11 : R_simple_reader_flags) : Nat × V := (9, (.sref (1104, 28) 0 v11.1.length 1))
abbrev q23_4 (v11 : R_simple_reader_flags) : Nat × Ob := (1104, ⟨28, .froz, true, flat E_B v11.1⟩)
abbrev q23_5 (v12 : R_simple_reader_steps) : Nat × Ob := (1152, ⟨31, .live, true, flat E_i v12.1⟩)
abbrev q23_6 (v12 : R_simple_reader_steps) : Nat × V := (10, (.sref (1152, 31) 0 v12.1.length 1))
abbrev q23_7 (v13 : R_simple_reader_steps) : Nat × Ob := (1200, ⟨34, .live, true, flat E_i v13.1⟩)
abbrev q23_8 (v13 : R_simple_reader_steps) : Nat × V := (11, (.sref (1200, 34) 0 v13.1.length 1))
abbrev q23_9 (v9 : R_simple_reader_code) : Nat × Ob := (128, ⟨24, .live, false, [.nils, (.sref (960, 24) 0 v9.1.length 1)]⟩)
abbrev q23_10 (v7 : R_simple_reader_ends) : Nat × V := (86, (.sref (768, 19) 0 v7.1.length 1))
abbrev q23_11 (v7 : R_simple_reader_ends) : Nat × V := (87, (vI (v7.1.length : Int)))
abbrev q23_12 (v7 : R_simple_reader_ends) : Nat × V := (7, (.sref (768, 19) 0 v7.1.length 1))
abbrev q23_13 (v7 : R_simple_reader_ends) : Nat × Ob := (720, ⟨16, .live, false, [(.ro 1 v7.2.f0.length (flat E_B v7.2.f0)), (vI v7.2.f1), (vI v7.2.f2)]⟩)
abbrev q23_14 (a0 : (List Int)) : Nat × V := (0, (.ro 1 a0.length (flat E_B a0)))
abbrev q23_15 (v12 : R_simple_reader_steps) (y24 : Int) (v13 : R_simple_reader_steps) (v11 : R_simple_reader_flags) : Nat × Ob := (1824, ⟨54, .live, true, flat E_Siibe ([(⟨(nth E_i v12.1 y24), (nth E_i v13.1 y24), (!decide ((bits .and .u8 (nth E_B v11.1 y24) 1) = 0))⟩ : T_Siibe)] : List T_Siibe)⟩)
abbrev q23_16 (v13 : R_simple_reader_steps) : Nat × Ob := (720, ⟨16, .live, false, [(.ro 1 v13.2.f0.length (flat E_B v13.2.f0)), (vI v13.2.f1), (vI v13.2.f2)]⟩)
abbrev q23_17 (v9 : R_simple_reader_code) : Nat × Ob := (720, ⟨16, .live, false, [(.ro 1 v9.2.f0.length (flat E_B v9.2.f0)), (vI v9.2.f1), (vI v9.2.f2)]⟩)
abbrev q23_18 (v11 : R_simple_reader_flags) : Nat × Ob := (720, ⟨16, .live, false, [(.ro 1 v11.2.f0.length (flat E_B v11.2.f0)), (vI v11.2.f1), (vI v11.2.f2)]⟩)
abbrev q23_19 (v12 : R_simple_reader_steps) : Nat × Ob := (720, ⟨16, .live, false, [(.ro 1 v12.2.f0.length (flat E_B v12.2.f0)), (vI v12.2.f1), (vI v12.2.f2)]⟩)
abbrev q23_20 (a0 : (List Int)) : Nat × Ob := (720, ⟨16, .live, false, [(.ro 1 a0.length (flat E_B a0)), (vI 10), (vI 0)]⟩)
theorem C_simple_Read (n : Nat) (a0 : (List Int)) (r : R_simple_Read) (h : F_simple_Read n a0 = some r) : CallS Try.prog 23 [(.ro 1 a0.length (flat E_B a0))] (.tup [(.agg [(.own 1 r.1.f0.length (flat E_LSiibe r.1.f0)), (.own 1 r.1.f1.length (flat E_B r.1.f1))]), (vI r.2)]) [none] := by
  refine CallS.introK tabOk Try.func23 rfl Try.ntmps23 (Nat.le_of_ble_eq_true rfl) ?_
  rw [F_simple_Read] at h
  refine .seq ?_
  refine .rgI rfl ?_
  refine .seg tabOk 0 2 [0, 2] [32] (t := [(q23_14 a0), (2, (.ptr (32, 1) 0))]) (h := [q23_0]) (ep := 2) (by kernel_rfl) ?_
  refine .fin rfl ?_
  refine sqN ?_
  refine .seq ?_
  refine .seq ?_
  refine .rgI rfl ?_
  refine .seg tabOk 0 3 [0, 2, 19] [32] (t := [(q23_14 a0), (2, (.ptr (32, 1) 0)), (19, (.val (.bool (decide ((a0.length : Int) = 0)))))]) (h := [q23_0]) (ep := 4) (by kernel_rfl) ?_
  refine .fin rfl ?_
  refine sqN ?_
  refine .cond (decide ((a0.length : Int) = 0)) rfl (fun hc1 => ?_) (fun hc1 => ?_)
  · have h := iT h hc1
    refine .seq ?_
    refine .rgI rfl ?_
    refine .seg tabOk 0 3 [2, 3] [32] (t := [(2, (.ptr (32, 1) 0)), (3, (vI 0))]) (h := [q23_0]) (ep := 6) (by kernel_rfl) ?_
    refine .fin rfl ?_
    refine sqN ?_
    refine .pre (.nilRowO (32, 1) _ 0 47 1 rfl rfl rfl rfl (fresh_none rfl) (by decide)) ?_
    refine .pre (.nilRowO (32, 1) _ 1 46 1 rfl rfl rfl rfl (fresh_none rfl) (by decide)) ?_
    refine .ret ?_
    refine sqR ?_
    injection h with h
    subst h
    exact ⟨.inr rfl, _, _, (f_cons (f_mem rfl (o_agg (ol_cons (o1_row E_LSiibe ([] : List (List T_Siibe)) rfl rfl rfl rfl rfl) (ol_cons (o1_row E_B ([] : List Int) rfl rfl rfl rfl rfl) ol_nil)))) (f_cons rfl f_nil)), nd_of rfl, rfl, rfl⟩
  · have h := iF h hc1
    refine .skip ?_
    refine sqN ?_
    refine .seq ?_
    refine .rgI rfl ?_
    refine .seg tabOk 0 1 [0, 2, 22] [32] (t := [(q23_14 a0), (2, (.ptr (32, 1) 0)), (22, (.ro 1 a0.length (flat E_B a0)))]) (h := [q23_0]) (ep := 6) (by kernel_rfl) ?_
    obtain ⟨v2, hv2, h⟩ := bS h
    refine .cc true rfl rfl (C_be_S _ _ _ _ _ hv2) ent_be_S rfl rfl rfl rfl (g_cons (g_pl rfl rfl) (g_cons (g_pl rfl rfl) (g_cons (g_pl rfl rfl) g_nil))) rfl ?_
    refine .seg tabOk 2 5 [0, 2, 4, 5] [32] (t := [(q23_14 a0), (2, (.ptr (32, 1) 0)), (4, (vI v2.1)), (5, (vI v2.2))]) (h := [q23_0]) (ep := 7) (by kernel_rfl) ?_
    refine .fin rfl ?_
    refine sqN ?_
    refine .seq ?_
    refine .block ?_
    refine .seq ?_
    refine .join (fun s' => s' = ⟨[(q23_14 a0), (2, (.ptr (32, 1) 0)), (4, (vI v2.1)), (26, (.val (.bool ((!decide (v2.2 = 0)) || (decide ((a0.length : Int) < 10))))))], [q23_0], 11⟩) ?_ ?_
    · refine .rgI rfl ?_
      refine .seg tabOk 0 3 [0, 2, 4, 29] [32] (t := [(q23_14 a0), (2, (.ptr (32, 1) 0)), (4, (vI v2.1)), (29, (.val (.bool (!decide (v2.2 = 0)))))]) (h := [q23_0]) (ep := 9) (by kernel_rfl) ?_
      cases hB3 : (!decide (v2.2 = 0)) with
      | false =>
        skip
        refine .seg tabOk 3 5 [0, 2, 4, 26] [32] (t := [(q23_14 a0), (2, (.ptr (32, 1) 0)), (4, (vI v2.1)), (26, (.val (.bool (decide ((a0.length : Int) < 10)))))]) (h := [q23_0]) (ep := 10) (by kernel_rfl) ?_
        refine .fin rfl ?_
        exact jkN (by exact .tn [((32, 1), (32, 1))] ⟨rfl, rfl, rfl, rfl, trivial⟩ ⟨rfl, ⟨_, rfl, rfl⟩, trivial⟩ rfl) rfl
      | true =>
        skip
        refine .seg tabOk 3 5 [0, 2, 4, 26] [32] (t := [(q23_14 a0), (2, (.ptr (32, 1) 0)), (4, (vI v2.1)), (26, (.val (.bool true)))]) (h := [q23_0]) (ep := 10) (by kernel_rfl) ?_
        refine .fin rfl ?_
        exact jkN (by exact .tn [((32, 1), (32, 1))] ⟨rfl, rfl, rfl, rfl, trivial⟩ ⟨rfl, ⟨_, rfl, rfl⟩, trivial⟩ rfl) rfl
    · rintro _ rfl
      refine sqN ?_
      refine .cond ((!decide (v2.2 = 0)) || (decide ((a0.length : Int) < 10))) rfl (fun hc4 => ?_) (fun hc4 => ?_)
      · have h := iT h hc4
        refine .seq ?_
        refine .rgI rfl ?_
        refine .seg tabOk 0 3 [2, 3] [32] (t := [(2, (.ptr (32, 1) 0)), (3, (vI 3))]) (h := [q23_0]) (ep := 13) (by kernel_rfl) ?_
        refine .fin rfl ?_
        refine sqN ?_
        refine .pre (.nilRowO (32, 1) _ 0 47 1 rfl rfl rfl rfl (fresh_none rfl) (by decide)) ?_
        refine .pre (.nilRowO (32, 1) _ 1 46 1 rfl rfl rfl rfl (fresh_none rfl) (by decide)) ?_
        refine .ret ?_
        refine bkR ?_
        refine sqR ?_
        injection h with h
        subst h
        exact ⟨.inr rfl, _, _, (f_cons (f_mem rfl (o_agg (ol_cons (o1_row E_LSiibe ([] : List (List T_Siibe)) rfl rfl rfl rfl rfl) (ol_cons (o1_row E_B ([] : List Int) rfl rfl rfl rfl rfl) ol_nil)))) (f_cons rfl f_nil)), nd_of rfl, rfl, rfl⟩
      · have h := iF h hc4
        refine .seq ?_
        refine .rgI rfl ?_
        refine .seg tabOk 0 3 [0, 2, 4, 35] [32] (t := [(q23_14 a0), (2, (.ptr (32, 1) 0)), (4, (vI v2.1)), (35, (.val (.bool (decide (v2.1 < 0)))))]) (h := [q23_0]) (ep := 13) (by kernel_rfl) ?_
        refine .fin rfl ?_
        refine sqN ?_
        refine .cond (decide (v2.1 < 0)) rfl (fun hc5 => ?_) (fun hc5 => ?_)
        · have h := iT h hc5
          refine .seq ?_
          refine .rgI rfl ?_
          refine .seg tabOk 0 3 [2, 3] [32] (t := [(2, (.ptr (32, 1) 0)), (3, (vI 11))]) (h := [q23_0]) (ep := 15) (by kernel_rfl) ?_
          refine .fin rfl ?_
          refine sqN ?_
          refine .pre (.nilRowO (32, 1) _ 0 47 1 rfl rfl rfl rfl (fresh_none rfl) (by decide)) ?_
          refine .pre (.nilRowO (32, 1) _ 1 46 1 rfl rfl rfl rfl (fresh_none rfl) (by decide)) ?_
          refine .ret ?_
          refine bkR ?_
          refine sqR ?_
          injection h with h
          subst h
          exact ⟨.inr rfl, _, _, (f_cons (f_mem rfl (o_agg (ol_cons (o1_row E_LSiibe ([] : List (List T_Siibe)) rfl rfl rfl rfl rfl) (ol_cons (o1_row E_B ([] : List Int) rfl rfl rfl rfl rfl) ol_nil)))) (f_cons rfl f_nil)), nd_of rfl, rfl, rfl⟩
        · have h := iF h hc5
          refine .seq ?_
          refine .rgI rfl ?_
          refine .seg tabOk 0 3 [0, 2, 4, 39] [32] (t := [(q23_14 a0), (2, (.ptr (32, 1) 0)), (4, (vI v2.1)), (39, (.val (.bool (decide (v2.1 = 0)))))]) (h := [q23_0]) (ep := 15) (by kernel_rfl) ?_
          refine .fin rfl ?_
          refine sqN ?_
          refine .cond (decide (v2.1 = 0)) rfl (fun hc6 => ?_) (fun hc6 => ?_)
          · have h := iT h hc6
            refine .seq ?_
            refine .rgI rfl ?_
            refine .seg tabOk 0 3 [2, 3] [32] (t := [(2, (.ptr (32, 1) 0)), (3, (vI 0))]) (h := [q23_0]) (ep := 17) (by kernel_rfl) ?_
            refine .fin rfl ?_
            refine sqN ?_
            refine .pre (.nilRowO (32, 1) _ 0 47 1 rfl rfl rfl rfl (fresh_none rfl) (by decide)) ?_
            refine .pre (.nilRowO (32, 1) _ 1 46 1 rfl rfl rfl rfl (fresh_none rfl) (by decide)) ?_
            refine .ret ?_
            refine bkR ?_
            refine sqR ?_
            injection h with h
            subst h
            exact ⟨.inr rfl, _, _, (f_cons (f_mem rfl (o_agg (ol_cons (o1_row E_LSiibe ([] : List (List T_Siibe)) rfl rfl rfl rfl rfl) (ol_cons (o1_row E_B ([] : List Int) rfl rfl rfl rfl rfl) ol_nil)))) (f_cons rfl f_nil)), nd_of rfl, rfl, rfl⟩
          · have h := iF h hc6
            refine .skip ?_
            refine bkN ?_
            refine sqN ?_
            refine .seq ?_
            refine .rgI rfl ?_
            refine .seg tabOk 0 4 [2, 4, 6] [32, 720] (t := [(2, (.ptr (32, 1) 0)), (4, (vI v2.1)), (6, (.ptr (720, 16) 0))]) (h := [q23_0, (q23_20 a0)]) (ep := 17) (by kernel_rfl) ?_
            refine .fin rfl ?_
            refine sqN ?_
            refine .seq ?_
            refine .rgI rfl ?_
            refine .seg tabOk 0 2 [2, 4, 6, 46, 47] [32, 720] (t := [(2, (.ptr (32, 1) 0)), (4, (vI v2.1)), (6, (.ptr (720, 16) 0)), (46, (.ptr (720, 16) 0)), (47, (vI v2.1))]) (h := [q23_0, (q23_20 a0)]) (ep := 19) (by kernel_rfl) ?_
            obtain ⟨v7, hv7, h⟩ := bS h
            refine .cc true rfl rfl (C_simple_reader_ends _ _ _ _ hv7) ent_simple_reader_ends rfl rfl rfl rfl (g_cons (g_pl rfl rfl) (g_cons (g_pl rfl rfl) g_nil)) rfl ?_
            refine .seg tabOk 3 1 [2, 4, 6, 7] [32, 720, 768] (t := [(2, (.ptr (32, 1) 0)), (4, (vI v2.1)), (6, (.ptr (720, 16) 0)), (q23_12 v7)]) (h := [q23_0, (q23_13 v7), (q23_1 v7)]) (ep := 20) (by kernel_rfl) ?_
            refine .fin rfl ?_
            refine sqN ?_
            refine .seq ?_
            refine .seq ?_
            refine .rgI rfl ?_
            refine .seg tabOk 0 5 [2, 4, 6, 7, 53] [32, 720, 768] (t := [(2, (.ptr (32, 1) 0)), (4, (vI v2.1)), (6, (.ptr (720, 16) 0)), (q23_12 v7), (53, (.val (.bool (!decide (v7.2.f2 = 0)))))]) (h := [q23_0, (q23_13 v7), (q23_1 v7)]) (ep := 22) (by kernel_rfl) ?_
            refine .fin rfl ?_
            refine sqN ?_
            refine .cond (!decide (v7.2.f2 = 0)) rfl (fun hc8 => ?_) (fun hc8 => ?_)
            · have h := iT h hc8
              refine .seq ?_
              refine .rgD rfl ?_
              refine .seg tabOk 0 7 [2, 3] [32, 720, 768] (t := [(2, (.ptr (32, 1) 0)), (3, (vI v7.2.f2))]) (h := [q23_0, (q23_13 v7), (q23_1 v7)]) (ep := 23) (by kernel_rfl) ?_
              refine .fin mixed [2, 3] [32] (t := [(2, (.ptr (32, 1) 0)), (3, (vI v7.2.f2))]) (h := [q23_0]) (ep := 24) rfl (by kernel_rfl) rfl ?_
              refine sqN ?_
              refine .pre (.nilRowO (32, 1) _ 0 47 1 rfl rfl rfl rfl (fresh_none rfl) (by decide)) ?_
              refine .pre (.nilRowO (32, 1) _ 1 46 1 rfl rfl rfl rfl (fresh_none rfl) (by decide)) ?_
              refine .ret ?_
              refine sqR ?_
              injection h with h
              subst h
              exact ⟨.inr rfl, _, _, (f_cons (f_mem rfl (o_agg (ol_cons (o1_row E_LSiibe ([] : List (List T_Siibe)) rfl rfl rfl rfl rfl) (ol_cons (o1_row E_B ([] : List Int) rfl rfl rfl rfl rfl) ol_nil)))) (f_cons rfl f_nil)), nd_of rfl, rfl, rfl⟩
            · have h := iF h hc8
              refine .skip ?_
              refine sqN ?_
              refine .seq ?_
              refine .rgI rfl ?_
              refine .seg tabOk 0 1 [2, 4, 6, 7, 59] [32, 720, 768] (t := [(2, (.ptr (32, 1) 0)), (4, (vI v2.1)), (6, (.ptr (720, 16) 0)), (q23_12 v7), (59, (.ptr (720, 16) 0))]) (h := [q23_0, (q23_13 v7), (q23_1 v7)]) (ep := 24) (by kernel_rfl) ?_
              obtain ⟨v9, hv9, h⟩ := bS h
              refine .cc true rfl rfl (C_simple_reader_code _ _ _ hv9) ent_simple_reader_code rfl rfl rfl rfl (g_cons (g_pl rfl rfl) g_nil) rfl ?_
              refine .seg tabOk 2 3 [2, 4, 6, 7, 8] [32, 128, 720, 768, 960] (t := [(2, (.ptr (32, 1) 0)), (4, (vI v2.1)), (6, (.ptr (720, 16) 0)), (q23_12 v7), (8, (.ptr (128, 24) 0))]) (h := [q23_0, (q23_9 v9), (q23_17 v9), (q23_1 v7), (q23_2 v9)]) (ep := 25) (by kernel_rfl) ?_
              refine .fin rfl ?_
              refine sqN ?_
              refine .seq ?_
              refine .rgI rfl ?_
              refine .seg tabOk 0 4 [2, 6, 7, 8, 62, 63, 65] [32, 128, 720, 768, 960] (t := [(2, (.ptr (32, 1) 0)), (6, (.ptr (720, 16) 0)), (q23_12 v7), (8, (.ptr (128, 24) 0)), (62, (.ptr (720, 16) 0)), (63, (.sref (768, 19) 0 v7.1.length 1)), (65, (vI (w64 (v2.1 - 1))))]) (h := [q23_0, (q23_9 v9), (q23_17 v9), (q23_1 v7), (q23_2 v9)]) (ep := 27) (by kernel_rfl) ?_
              obtain ⟨hb10, h⟩ := gS h
              refine .oo tabOk rfl rfl rfl (q_idxS E_i (l := v7.1) rfl rfl rfl rfl rfl rfl rfl rfl hb10) ?_
              refine .oo tabOk rfl rfl rfl (q_ldS E_i (l := v7.1) rfl rfl rfl rfl rfl hb10 rfl) ?_
              refine .seg tabOk 6 1 [2, 6, 7, 8, 62, 68] [32, 128, 720, 768, 960] (t := [(2, (.ptr (32, 1) 0)), (6, (.ptr (720, 16) 0)), (q23_12 v7), (8, (.ptr (128, 24) 0)), (62, (.ptr (720, 16) 0)), (68, (vI (w64 ((nth E_i v7.1 (w64 (v2.1 - 1))) + 1))))]) (h := [q23_0, (q23_9 v9), (q23_17 v9), (q23_1 v7), (q23_2 v9)]) (ep := 28) (by kernel_rfl) ?_
              obtain ⟨v11, hv11, h⟩ := bS h
              refine .cc true rfl rfl (C_simple_reader_flags _ _ _ _ hv11) ent_simple_reader_flags rfl rfl rfl rfl (g_cons (g_pl rfl rfl) (g_cons (g_pl rfl rfl) g_nil)) rfl ?_
              refine .seg tabOk 8 1 [2, 6, 7, 8, 9] [32, 128, 720, 768, 960, 1104] (t := [(2, (.ptr (32, 1) 0)), (6, (.ptr (720, 16) 0)), (q23_12 v7), (8, (.ptr (128, 24) 0)), (q23_3 v11)]) (h := [q23_0, (q23_9 v9), (q23_18 v11), (q23_1 v7), (q23_2 v9), (1104, ⟨28, .live, true, flat E_B v11.1⟩)]) (ep := 29) (by kernel_rfl) ?_
              refine .fin rfl ?_
              refine sqN ?_
              refine .seq ?_
              refine .rgI rfl ?_
              refine .seg tabOk 0 2 [2, 6, 7, 8, 9, 70, 71] [32, 128, 720, 768, 960, 1104] (t := [(2, (.ptr (32, 1) 0)), (6, (.ptr (720, 16) 0)), (q23_12 v7), (8, (.ptr (128, 24) 0)), (q23_3 v11), (70, (.ptr (720, 16) 0)), (71, (.sref (1104, 28) 0 v11.1.length 1))]) (h := [q23_0, (q23_9 v9), (q23_18 v11), (q23_1 v7), (q23_2 v9), (1104, ⟨28, .live, true, flat E_B v11.1⟩)]) (ep := 31) (by kernel_rfl) ?_
              obtain ⟨v12, hv12, h⟩ := bS h
              refine .cc true rfl rfl (C_simple_reader_steps _ _ _ _ _ _ hv12) ent_simple_reader_steps rfl rfl rfl rfl (g_cons (g_pl rfl rfl) (g_cons (g_row E_B v11.1 rfl rfl rfl rfl rfl) (g_cons (g_pl rfl rfl) (g_cons (g_pl rfl rfl) g_nil)))) rfl ?_
              refine .seg tabOk 3 1 [2, 6, 7, 8, 9, 10] [32, 128, 720, 768, 960, 1104, 1152] (t := [(2, (.ptr (32, 1) 0)), (6, (.ptr (720, 16) 0)), (q23_12 v7), (8, (.ptr (128, 24) 0)), (q23_3 v11), (q23_6 v12)]) (h := [q23_0, (q23_9 v9), (q23_19 v12), (q23_1 v7), (q23_2 v9), (q23_4 v11), (q23_5 v12)]) (ep := 32) (by kernel_rfl) ?_
              refine .fin rfl ?_
              refine sqN ?_
              refine .seq ?_
              refine .rgI rfl ?_
              refine .seg tabOk 0 2 [2, 6, 7, 8, 9, 10, 73, 74] [32, 128, 720, 768, 960, 1104, 1152] (t := [(2, (.ptr (32, 1) 0)), (6, (.ptr (720, 16) 0)), (q23_12 v7), (8, (.ptr (128, 24) 0)), (q23_3 v11), (q23_6 v12), (73, (.ptr (720, 16) 0)), (74, (.sref (1104, 28) 0 v11.1.length 1))]) (h := [q23_0, (q23_9 v9), (q23_19 v12), (q23_1 v7), (q23_2 v9), (q23_4 v11), (q23_5 v12)]) (ep := 34) (by kernel_rfl) ?_
              obtain ⟨v13, hv13, h⟩ := bS h
              refine .cc true rfl rfl (C_simple_reader_steps _ _ _ _ _ _ hv13) ent_simple_reader_steps rfl rfl rfl rfl (g_cons (g_pl rfl rfl) (g_cons (g_rowF E_B v11.1 rfl rfl rfl rfl rfl) (g_cons (g_pl rfl rfl) (g_cons (g_pl rfl rfl) g_nil)))) rfl ?_
              refine .seg tabOk 3 1 [2, 6, 7, 8, 9, 10, 11] [32, 128, 720, 768, 960, 1104, 1152, 1200] (t := [(2, (.ptr (32, 1) 0)), (6, (.ptr (720, 16) 0)), (q23_12 v7), (8, (.ptr (128, 24) 0)), (q23_3 v11), (q23_6 v12), (q23_8 v13)]) (h := [q23_0, (q23_9 v9), (q23_16 v13), (q23_1 v7), (q23_2 v9), (q23_4 v11), (q23_5 v12), (q23_7 v13)]) (ep := 35) (by kernel_rfl) ?_
              refine .fin rfl ?_
              refine sqN ?_
              refine .seq ?_
              refine .seq ?_
              refine .rgI rfl ?_
              refine .seg tabOk 0 5 [2, 6, 7, 8, 9, 10, 11, 80] [32, 128, 720, 768, 960, 1104, 1152, 1200] (t := [(2, (.ptr (32, 1) 0)), (6, (.ptr (720, 16) 0)), (q23_12 v7), (8, (.ptr (128, 24) 0)), (q23_3 v11), (q23_6 v12), (q23_8 v13), (80, (.val (.bool (!decide (v13.2.f2 = 0)))))]) (h := [q23_0, (q23_9 v9), (q23_16 v13), (q23_1 v7), (q23_2 v9), (q23_4 v11), (q23_5 v12), (q23_7 v13)]) (ep := 37) (by kernel_rfl) ?_
              refine .fin rfl ?_
              refine sqN ?_
              refine .cond (!decide (v13.2.f2 = 0)) rfl (fun hc14 => ?_) (fun hc14 => ?_)
              · have h := iT h hc14
                refine .seq ?_
                refine .rgD rfl ?_
                refine .seg tabOk 0 7 [2, 3] [32, 128, 720, 768, 960, 1104, 1152, 1200] (t := [(2, (.ptr (32, 1) 0)), (3, (vI v13.2.f2))]) (h := [q23_0, (q23_9 v9), (q23_16 v13), (q23_1 v7), (q23_2 v9), (q23_4 v11), (q23_5 v12), (q23_7 v13)]) (ep := 38) (by kernel_rfl) ?_
                refine .fin mixed [2, 3] [32] (t := [(2, (.ptr (32, 1) 0)), (3, (vI v13.2.f2))]) (h := [q23_0]) (ep := 39) rfl (by kernel_rfl) rfl ?_
                refine sqN ?_
                refine .pre (.nilRowO (32, 1) _ 0 47 1 rfl rfl rfl rfl (fresh_none rfl) (by decide)) ?_
                refine .pre (.nilRowO (32, 1) _ 1 46 1 rfl rfl rfl rfl (fresh_none rfl) (by decide)) ?_
                refine .ret ?_
                refine sqR ?_
                injection h with h
                subst h
                exact ⟨.inr rfl, _, _, (f_cons (f_mem rfl (o_agg (ol_cons (o1_row E_LSiibe ([] : List (List T_Siibe)) rfl rfl rfl rfl rfl) (ol_cons (o1_row E_B ([] : List Int) rfl rfl rfl rfl rfl) ol_nil)))) (f_cons rfl f_nil)), nd_of rfl, rfl, rfl⟩
              · have h := iF h hc14
                refine .skip ?_
                refine sqN ?_
                refine .seq ?_
                refine .rgI rfl ?_
                refine .seg tabOk 0 1 [2, 7, 8, 9, 10, 11, 12] [32, 128, 768, 960, 1104, 1152, 1200] (t := [(2, (.ptr (32, 1) 0)), (q23_12 v7), (8, (.ptr (128, 24) 0)), (q23_3 v11), (q23_6 v12), (q23_8 v13), (12, (vI 0))]) (h := [q23_0, (q23_9 v9), (q23_1 v7), (q23_2 v9), (q23_4 v11), (q23_5 v12), (q23_7 v13)]) (ep := 39) (by kernel_rfl) ?_
                refine .fin rfl ?_
                refine sqN ?_
                refine .seq ?_
                refine .seq ?_
                refine .rgI rfl ?_
                refine .seg tabOk 0 3 [2, 8, 9, 10, 11, 12, 86, 87, 88] [32, 128, 768, 960, 1104, 1152, 1200] (t := [(2, (.ptr (32, 1) 0)), (8, (.ptr (128, 24) 0)), (q23_3 v11), (q23_6 v12), (q23_8 v13), (12, (vI 0)), (q23_10 v7), (q23_11 v7), (88, (vI 0))]) (h := [q23_0, (q23_9 v9), (q23_1 v7), (q23_2 v9), (q23_4 v11), (q23_5 v12), (q23_7 v13)]) (ep := 41) (by kernel_rfl) ?_
                refine .fin rfl ?_
                refine sqN ?_
                obtain ⟨j15, hj15, h⟩ := ljS h
                refine .join (fun s' => ∃ x33, s' = ⟨[(2, (.ptr (32, 1) 0)), (8, (.ptr (128, 24) 0))], [q23_0, (128, ⟨24, .live, false, [(.sref (143, 44) 0 x33.length 1), (.sref (960, 24) 0 v9.1.length 1)]⟩), (143, ⟨44, .live, true, flat E_LSiibe x33⟩), (q23_2 v9)], 45⟩ ∧ j15 x33 = some r) ?_ ?_
                · refine .block ?_
                  refine .loopF (β := (List (List T_Siibe)) × Int × Int) (fun v => ⟨[(2, (.ptr (32, 1) 0)), (8, (.ptr (128, 24) 0)), (q23_3 v11), (q23_6 v12), (q23_8 v13), (12, (vI v.2.1)), (q23_10 v7), (q23_11 v7), (88, (vI v.2.2))], [q23_0, (128, ⟨24, .live, false, [(.sref (143, 41) 0 v.1.length 1), (.sref (960, 24) 0 v9.1.length 1)]⟩), (143, ⟨41, .live, true, flat E_LSiibe v.1⟩), (q23_1 v7), (q23_2 v9), (q23_4 v11), (q23_5 v12), (q23_7 v13)], 42⟩) (fun m v => L_simple_Read_0 v7 v11 v12 v13 j15 m v.1 v.2.1 v.2.2 = some r) n (([] : List (List T_Siibe)), 0, 0) (by exact .trans (.nilRowO (128, 24) _ 0 143 1 rfl rfl rfl rfl (fresh_none rfl) (by decide)) (.tn [((32, 1), (32, 1)), ((128, 24), (128, 24)), ((143, 41), (143, 41)), ((768, 19), (768, 19)), ((960, 24), (960, 24)), ((1104, 28), (1104, 28)), ((1152, 31), (1152, 31)), ((1200, 34), (1200, 34))] ⟨rfl, rfl, rfl, rfl, rfl, rfl, rfl, rfl, rfl, trivial⟩ ⟨rfl, ⟨_, rfl, rfl⟩, ⟨rfl, ⟨_, rfl, rfl⟩, ⟨rfl, ⟨_, rfl, ah_row E_LSiibe⟩, ⟨rfl, ⟨_, rfl, ah_row E_i⟩, ⟨rfl, ⟨_, rfl, ah_row E_B⟩, ⟨rfl, ⟨_, rfl, ah_row E_B⟩, ⟨rfl, ⟨_, rfl, ah_row E_i⟩, ⟨rfl, ⟨_, rfl, ah_row E_i⟩, trivial⟩⟩⟩⟩⟩⟩⟩⟩ rfl)) h ?_
                  rintro m ⟨y16, y17, y18⟩ h
                  cases m with
                  | zero => exact nomatch h
                  | succ n =>
                    rw [L_simple_Read_0] at h
                    refine .seq ?_
                    refine .rgI rfl ?_
                    refine .seg tabOk 0 1 [2, 8, 9, 10, 11, 12, 86, 87, 88, 89] [32, 128, 143, 768, 960, 1104, 1152, 1200] (t := [(2, (.ptr (32, 1) 0)), (8, (.ptr (128, 24) 0)), (q23_3 v11), (q23_6 v12), (q23_8 v13), (12, (vI y17)), (q23_10 v7), (q23_11 v7), (88, (vI y18)), (89, (.val (.bool (decide (y18 < (v7.1.length : Int))))))]) (h := [q23_0, (128, ⟨24, .live, false, [(.sref (143, 41) 0 y16.length 1), (.sref (960, 24) 0 v9.1.length 1)]⟩), (143, ⟨41, .live, true, flat E_LSiibe y16⟩), (q23_1 v7), (q23_2 v9), (q23_4 v11), (q23_5 v12), (q23_7 v13)]) (ep := 44) (by kernel_rfl) ?_
                    refine .fin rfl ?_
                    refine sqN ?_
                    refine .seq ?_
                    refine .cond (decide (y18 < (v7.1.length : Int))) rfl (fun hc19 => ?_) (fun hc19 => ?_)
                    · have h := iT h hc19
                      refine .skip ?_
                      refine sqN ?_
                      refine .seq ?_
                      obtain ⟨j20, hj20, h⟩ := ljS h
                      refine .join (fun s' => ∃ x32, s' = ⟨[(2, (.ptr (32, 1) 0)), (8, (.ptr (128, 24) 0)), (q23_3 v11), (q23_6 v12), (q23_8 v13), (12, (vI (w64 ((nth E_i v7.1 y18) + 1)))), (q23_10 v7), (q23_11 v7), (88, (vI y18))], [q23_0, (128, ⟨24, .live, false, [(.sref (1920, 56) 0 x32.length 1), (.sref (960, 24) 0 v9.1.length 1)]⟩), (q23_1 v7), (q23_2 v9), (q23_4 v11), (q23_5 v12), (q23_7 v13), (1920, ⟨56, .live, true, flat E_LSiibe x32⟩)], 60⟩ ∧ j20 x32 = some r) ?_ ?_
                      · refine .block ?_
                        refine .seq ?_
                        refine .rgI rfl ?_
                        obtain ⟨hb21, h⟩ := gS h
                        refine .oo tabOk rfl rfl rfl (q_idxS E_i (l := v7.1) rfl rfl rfl rfl rfl rfl rfl rfl hb21) ?_
                        refine .oo tabOk rfl rfl rfl (q_ldS E_i (l := v7.1) rfl rfl rfl rfl rfl hb21 rfl) ?_
                        refine .seg tabOk 2 1 [2, 8, 9, 10, 11, 12, 14, 86, 87, 88] [32, 128, 143, 768, 960, 1104, 1152, 1200] (t := [(2, (.ptr (32, 1) 0)), (8, (.ptr (128, 24) 0)), (q23_3 v11), (q23_6 v12), (q23_8 v13), (12, (vI y17)), (14, (vI (nth E_i v7.1 y18))), (q23_10 v7), (q23_11 v7), (88, (vI y18))]) (h := [q23_0, (128, ⟨24, .live, false, [(.sref (143, 41) 0 y16.length 1), (.sref (960, 24) 0 v9.1.length 1)]⟩), (143, ⟨41, .live, true, flat E_LSiibe y16⟩), (q23_1 v7), (q23_2 v9), (q23_4 v11), (q23_5 v12), (q23_7 v13)]) (ep := 46) (by kernel_rfl) ?_
                        refine .fin rfl ?_
                        refine sqN ?_
                        refine .seq ?_
                        refine .rgI rfl ?_
                        refine .seg tabOk 0 1 [2, 8, 9, 10, 11, 12, 14, 15, 86, 87, 88] [32, 128, 143, 768, 960, 1104, 1152, 1200] (t := [(2, (.ptr (32, 1) 0)), (8, (.ptr (128, 24) 0)), (q23_3 v11), (q23_6 v12), (q23_8 v13), (12, (vI y17)), (14, (vI (nth E_i v7.1 y18))), (15, .nils), (q23_10 v7), (q23_11 v7), (88, (vI y18))]) (h := [q23_0, (128, ⟨24, .live, false, [(.sref (143, 41) 0 y16.length 1), (.sref (960, 24) 0 v9.1.length 1)]⟩), (143, ⟨41, .live, true, flat E_LSiibe y16⟩), (q23_1 v7), (q23_2 v9), (q23_4 v11), (q23_5 v12), (q23_7 v13)]) (ep := 48) (by kernel_rfl) ?_
                        refine .fin rfl ?_
                        refine sqN ?_
                        refine .seq ?_
                        refine .seq ?_
                        refine .rgI rfl ?_
                        refine .seg tabOk 0 2 [2, 8, 9, 10, 11, 14, 15, 16, 86, 87, 88] [32, 128, 143, 768, 960, 1104, 1152, 1200] (t := [(2, (.ptr (32, 1) 0)), (8, (.ptr (128, 24) 0)), (q23_3 v11), (q23_6 v12), (q23_8 v13), (14, (vI (nth E_i v7.1 y18))), (15, .nils), (16, (vI y17)), (q23_10 v7), (q23_11 v7), (88, (vI y18))]) (h := [q23_0, (128, ⟨24, .live, false, [(.sref (143, 41) 0 y16.length 1), (.sref (960, 24) 0 v9.1.length 1)]⟩), (143, ⟨41, .live, true, flat E_LSiibe y16⟩), (q23_1 v7), (q23_2 v9), (q23_4 v11), (q23_5 v12), (q23_7 v13)]) (ep := 50) (by kernel_rfl) ?_
                        refine .fin rfl ?_
                        refine sqN ?_
                        obtain ⟨j22, hj22, h⟩ := ljS h
                        refine .join (fun s' => ∃ x30, s' = ⟨[(2, (.ptr (32, 1) 0)), (8, (.ptr (128, 24) 0)), (q23_3 v11), (q23_6 v12), (q23_8 v13), (14, (vI (nth E_i v7.1 y18))), (15, (.sref (255, 53) 0 x30.length 3)), (q23_10 v7), (q23_11 v7), (88, (vI y18))], [q23_0, (128, ⟨24, .live, false, [(.sref (143, 41) 0 y16.length 1), (.sref (960, 24) 0 v9.1.length 1)]⟩), (143, ⟨41, .live, true, flat E_LSiibe y16⟩), (255, ⟨53, .live, true, flat E_Siibe x30⟩), (q23_1 v7), (q23_2 v9), (q23_4 v11), (q23_5 v12), (q23_7 v13)], 54⟩ ∧ j22 x30 = some r) ?_ ?_
                        · refine .block ?_
                          refine .loopF (β := (List T_Siibe) × Int) (fun v => ⟨[(2, (.ptr (32, 1) 0)), (8, (.ptr (128, 24) 0)), (q23_3 v11), (q23_6 v12), (q23_8 v13), (14, (vI (nth E_i v7.1 y18))), (15, (.sref (255, 50) 0 v.1.length 3)), (16, (vI v.2)), (q23_10 v7), (q23_11 v7), (88, (vI y18))], [q23_0, (128, ⟨24, .live, false, [(.sref (143, 41) 0 y16.length 1), (.sref (960, 24) 0 v9.1.length 1)]⟩), (143, ⟨41, .live, true, flat E_LSiibe y16⟩), (255, ⟨50, .live, true, flat E_Siibe v.1⟩), (q23_1 v7), (q23_2 v9), (q23_4 v11), (q23_5 v12), (q23_7 v13)], 51⟩) (fun m v => L_simple_Read_1 v7 v11 v12 v13 y18 j22 m v.1 v.2 = some r) n (([] : List T_Siibe), y17) (by exact .trans (.nilRow 15 3 255 rfl (fresh_none rfl)) (.tn [((32, 1), (32, 1)), ((128, 24), (128, 24)), ((143, 41), (143, 41)), ((255, 50), (255, 50)), ((768, 19), (768, 19)), ((960, 24), (960, 24)), ((1104, 28), (1104, 28)), ((1152, 31), (1152, 31)), ((1200, 34), (1200, 34))] ⟨rfl, rfl, rfl, rfl, rfl, rfl, rfl, rfl, rfl, rfl, rfl, trivial⟩ ⟨rfl, ⟨_, rfl, rfl⟩, ⟨rfl, ⟨_, rfl, rfl⟩, ⟨rfl, ⟨_, rfl, ah_row E_LSiibe⟩, ⟨rfl, ⟨_, rfl, ah_row E_Siibe⟩, ⟨rfl, ⟨_, rfl, ah_row E_i⟩, ⟨rfl, ⟨_, rfl, ah_row E_B⟩, ⟨rfl, ⟨_, rfl, ah_row E_B⟩, ⟨rfl, ⟨_, rfl, ah_row E_i⟩, ⟨rfl, ⟨_, rfl, ah_row E_i⟩, trivial⟩⟩⟩⟩⟩⟩⟩⟩⟩ rfl)) h ?_
                          rintro m ⟨y23, y24⟩ h
                          cases m with
                          | zero => exact nomatch h
                          | succ n =>
                            rw [L_simple_Read_1] at h
                            refine .seq ?_
                            refine .seq ?_
                            refine .rgI rfl ?_
                            refine .seg tabOk 0 3 [2, 8, 9, 10, 11, 14, 15, 16, 86, 87, 88, 95] [32, 128, 143, 255, 768, 960, 1104, 1152, 1200] (t := [(2, (.ptr (32, 1) 0)), (8, (.ptr (128, 24) 0)), (q23_3 v11), (q23_6 v12), (q23_8 v13), (14, (vI (nth E_i v7.1 y18))), (15, (.sref (255, 50) 0 y23.length 3)), (16, (vI y24)), (q23_10 v7), (q23_11 v7), (88, (vI y18)), (95, (.val (.bool (decide (y24 ≤ (nth E_i v7.1 y18))))))]) (h := [q23_0, (128, ⟨24, .live, false, [(.sref (143, 41) 0 y16.length 1), (.sref (960, 24) 0 v9.1.length 1)]⟩), (143, ⟨41, .live, true, flat E_LSiibe y16⟩), (255, ⟨50, .live, true, flat E_Siibe y23⟩), (q23_1 v7), (q23_2 v9), (q23_4 v11), (q23_5 v12), (q23_7 v13)]) (ep := 53) (by kernel_rfl) ?_
                            refine .fin rfl ?_
                            refine sqN ?_
                            refine .cond (decide (y24 ≤ (nth E_i v7.1 y18))) rfl (fun hc25 => ?_) (fun hc25 => ?_)
                            · have h := iT h hc25
                              refine .skip ?_
                              refine sqN ?_
                              refine .seq ?_
                              refine .block ?_
                              refine .rgD rfl ?_
                              refine .seg tabOk 0 3 [2, 8, 9, 10, 11, 14, 16, 86, 87, 88, 98, 99, 100] [32, 128, 143, 255, 768, 960, 1104, 1152, 1200] (t := [(2, (.ptr (32, 1) 0)), (8, (.ptr (128, 24) 0)), (q23_3 v11), (q23_6 v12), (q23_8 v13), (14, (vI (nth E_i v7.1 y18))), (16, (vI y24)), (q23_10 v7), (q23_11 v7), (88, (vI y18)), (98, (.sref (255, 50) 0 y23.length 3)), (99, (.sref (1152, 31) 0 v12.1.length 1)), (100, (vI y24))]) (h := [q23_0, (128, ⟨24, .live, false, [(.sref (143, 41) 0 y16.length 1), (.sref (960, 24) 0 v9.1.length 1)]⟩), (143, ⟨41, .live, true, flat E_LSiibe y16⟩), (255, ⟨50, .live, true, flat E_Siibe y23⟩), (q23_1 v7), (q23_2 v9), (q23_4 v11), (q23_5 v12), (q23_7 v13)]) (ep := 54) (by kernel_rfl) ?_
                              obtain ⟨hb26, h⟩ := gS h
                              refine .oo tabOk rfl rfl rfl (q_idxS E_i (l := v12.1) rfl rfl rfl rfl rfl rfl rfl rfl hb26) rfl ?_
                              refine .oo tabOk rfl rfl rfl (q_ldS E_i (l := v12.1) rfl rfl rfl rfl rfl hb26 rfl) rfl ?_
                              refine .seg tabOk 5 2 [2, 8, 9, 10, 11, 14, 16, 86, 87, 88, 98, 102, 103, 104] [32, 128, 143, 255, 768, 960, 1104, 1152, 1200] (t := [(2, (.ptr (32, 1) 0)), (8, (.ptr (128, 24) 0)), (q23_3 v11), (q23_6 v12), (q23_8 v13), (14, (vI (nth E_i v7.1 y18))), (16, (vI y24)), (q23_10 v7), (q23_11 v7), (88, (vI y18)), (98, (.sref (255, 50) 0 y23.length 3)), (102, (vI (nth E_i v12.1 y24))), (103, (.sref (1200, 34) 0 v13.1.length 1)), (104, (vI y24))]) (h := [q23_0, (128, ⟨24, .live, false, [(.sref (143, 41) 0 y16.length 1), (.sref (960, 24) 0 v9.1.length 1)]⟩), (143, ⟨41, .live, true, flat E_LSiibe y16⟩), (255, ⟨50, .live, true, flat E_Siibe y23⟩), (q23_1 v7), (q23_2 v9), (q23_4 v11), (q23_5 v12), (q23_7 v13)]) (ep := 54) (by kernel_rfl) ?_
                              obtain ⟨hb27, h⟩ := gS h
                              refine .oo tabOk rfl rfl rfl (q_idxS E_i (l := v13.1) rfl rfl rfl rfl rfl rfl rfl rfl hb27) rfl ?_
                              refine .oo tabOk rfl rfl rfl (q_ldS E_i (l := v13.1) rfl rfl rfl rfl rfl hb27 rfl) rfl ?_
                              refine .seg tabOk 9 2 [2, 8, 9, 10, 11, 14, 16, 86, 87, 88, 98, 102, 106, 107, 108] [32, 128, 143, 255, 768, 960, 1104, 1152, 1200] (t := [(2, (.ptr (32, 1) 0)), (8, (.ptr (128, 24) 0)), (q23_3 v11), (q23_6 v12), (q23_8 v13), (14, (vI (nth E_i v7.1 y18))), (16, (vI y24)), (q23_10 v7), (q23_11 v7), (88, (vI y18)), (98, (.sref (255, 50) 0 y23.length 3)), (102, (vI (nth E_i v12.1 y24))), (106, (vI (nth E_i v13.1 y24))), (107, (.sref (1104, 28) 0 v11.1.length 1)), (108, (vI y24))]) (h := [q23_0, (128, ⟨24, .live, false, [(.sref (143, 41) 0 y16.length 1), (.sref (960, 24) 0 v9.1.length 1)]⟩), (143, ⟨41, .live, true, flat E_LSiibe y16⟩), (255, ⟨50, .live, true, flat E_Siibe y23⟩), (q23_1 v7), (q23_2 v9), (q23_4 v11), (q23_5 v12), (q23_7 v13)]) (ep := 54) (by kernel_rfl) ?_
                              obtain ⟨hb28, h⟩ := gS h
                              refine .oo tabOk rfl rfl rfl (q_idxS E_B (l := v11.1) rfl rfl rfl rfl rfl rfl rfl rfl hb28) rfl ?_
                              refine .oo tabOk rfl rfl rfl (q_ldS E_B (l := v11.1) rfl rfl rfl rfl rfl hb28 rfl) rfl ?_
                              refine .seg tabOk 13 4 [2, 8, 9, 10, 11, 14, 16, 86, 87, 88, 98, 114] [32, 128, 143, 255, 768, 960, 1104, 1152, 1200, 1824] (t := [(2, (.ptr (32, 1) 0)), (8, (.ptr (128, 24) 0)), (q23_3 v11), (q23_6 v12), (q23_8 v13), (14, (vI (nth E_i v7.1 y18))), (16, (vI y24)), (q23_10 v7), (q23_11 v7), (88, (vI y18)), (98, (.sref (255, 50) 0 y23.length 3)), (114, (.sref (1824, 54) 0 ([(⟨(nth E_i v12.1 y24), (nth E_i v13.1 y24), (!decide ((bits .and .u8 (nth E_B v11.1 y24) 1) = 0))⟩ : T_Siibe)] : List T_Siibe).length 3))]) (h := [q23_0, (128, ⟨24, .live, false, [(.sref (143, 41) 0 y16.length 1), (.sref (960, 24) 0 v9.1.length 1)]⟩), (143, ⟨41, .live, true, flat E_LSiibe y16⟩), (255, ⟨50, .live, true, flat E_Siibe y23⟩), (q23_1 v7), (q23_2 v9), (q23_4 v11), (q23_5 v12), (q23_7 v13), (q23_15 v12 y24 v13 v11)]) (ep := 54) (by kernel_rfl) ?_
                              obtain ⟨hb29, h⟩ := gS h
                              refine .oo tabOk rfl rfl rfl (q_app E_Siibe (l := y23) rfl rfl rfl rfl rfl rfl rfl rfl rfl rfl rfl rfl rfl (.row ([(⟨(nth E_i v12.1 y24), (nth E_i v13.1 y24), (!decide ((bits .and .u8 (nth E_B v11.1 y24) 1) = 0))⟩ : T_Siibe)] : List T_Siibe) rfl rfl rfl rfl) hb29) rfl ?_
                              refine .seg tabOk 18 1 [2, 8, 9, 10, 11, 14, 15, 16, 86, 87, 88] [32, 128, 143, 255, 768, 960, 1104, 1152, 1200, 1824, 1840] (t := [(2, (.ptr (32, 1) 0)), (8, (.ptr (128, 24) 0)), (q23_3 v11), (q23_6 v12), (q23_8 v13), (14, (vI (nth E_i v7.1 y18))), (15, (.sref (1840, 54) 0 (y23 ++ ([(⟨(nth E_i v12.1 y24), (nth E_i v13.1 y24), (!decide ((bits .and .u8 (nth E_B v11.1 y24) 1) = 0))⟩ : T_Siibe)] : List T_Siibe)).length 3)), (16, (vI y24)), (q23_10 v7), (q23_11 v7), (88, (vI y18))]) (h := [q23_0, (128, ⟨24, .live, false, [(.sref (143, 41) 0 y16.length 1), (.sref (960, 24) 0 v9.1.length 1)]⟩), (143, ⟨41, .live, true, flat E_LSiibe y16⟩), (255, ⟨50, .gone, true, flat E_Siibe y23⟩), (q23_1 v7), (q23_2 v9), (q23_4 v11), (q23_5 v12), (q23_7 v13), (q23_15 v12 y24 v13 v11), (1840, ⟨54, .live, true, flat E_Siibe (y23 ++ ([(⟨(nth E_i v12.1 y24), (nth E_i v13.1 y24), (!decide ((bits .and .u8 (nth E_B v11.1 y24) 1) = 0))⟩ : T_Siibe)] : List T_Siibe))⟩)]) (ep := 54) (by kernel_rfl) ?_
                              refine .fin mixed [2, 8, 9, 10, 11, 14, 15, 16, 86, 87, 88] [32, 128, 143, 768, 960, 1104, 1152, 1200, 1840] (t := [(2, (.ptr (32, 1) 0)), (8, (.ptr (128, 24) 0)), (q23_3 v11), (q23_6 v12), (q23_8 v13), (14, (vI (nth E_i v7.1 y18))), (15, (.sref (1840, 54) 0 (y23 ++ ([(⟨(nth E_i v12.1 y24), (nth E_i v13.1 y24), (!decide ((bits .and .u8 (nth E_B v11.1 y24) 1) = 0))⟩ : T_Siibe)] : List T_Siibe)).length 3)), (16, (vI y24)), (q23_10 v7), (q23_11 v7), (88, (vI y18))]) (h := [q23_0, (128, ⟨24, .live, false, [(.sref (143, 41) 0 y16.length 1), (.sref (960, 24) 0 v9.1.length 1)]⟩), (143, ⟨41, .live, true, flat E_LSiibe y16⟩), (q23_1 v7), (q23_2 v9), (q23_4 v11), (q23_5 v12), (q23_7 v13), (1840, ⟨54, .live, true, flat E_Siibe (y23 ++ ([(⟨(nth E_i v12.1 y24), (nth E_i v13.1 y24), (!decide ((bits .and .u8 (nth E_B v11.1 y24) 1) = 0))⟩ : T_Siibe)] : List T_Siibe))⟩)]) (ep := 55) rfl (by kernel_rfl) rfl ?_
                              refine bkN ?_
                              refine sqN ?_
                              refine .rgI rfl ?_
                              refine .seg tabOk 0 3 [2, 8, 9, 10, 11, 14, 15, 16, 86, 87, 88] [32, 128, 143, 768, 960, 1104, 1152, 1200, 1840] (t := [(2, (.ptr (32, 1) 0)), (8, (.ptr (128, 24) 0)), (q23_3 v11), (q23_6 v12), (q23_8 v13), (14, (vI (nth E_i v7.1 y18))), (15, (.sref (1840, 54) 0 (y23 ++ ([(⟨(nth E_i v12.1 y24), (nth E_i v13.1 y24), (!decide ((bits .and .u8 (nth E_B v11.1 y24) 1) = 0))⟩ : T_Siibe)] : List T_Siibe)).length 3)), (16, (vI (w64 (y24 + 1)))), (q23_10 v7), (q23_11 v7), (88, (vI y18))]) (h := [q23_0, (128, ⟨24, .live, false, [(.sref (143, 41) 0 y16.length 1), (.sref (960, 24) 0 v9.1.length 1)]⟩), (143, ⟨41, .live, true, flat E_LSiibe y16⟩), (q23_1 v7), (q23_2 v9), (q23_4 v11), (q23_5 v12), (q23_7 v13), (1840, ⟨54, .live, true, flat E_Siibe (y23 ++ ([(⟨(nth E_i v12.1 y24), (nth E_i v13.1 y24), (!decide ((bits .and .u8 (nth E_B v11.1 y24) 1) = 0))⟩ : T_Siibe)] : List T_Siibe))⟩)]) (ep := 57) (by kernel_rfl) ?_
                              refine .fin rfl ?_
                              exact jkN (by exact .tn [((32, 1), (32, 1)), ((128, 24), (128, 24)), ((143, 41), (143, 41)), ((1840, 54), (255, 50)), ((768, 19), (768, 19)), ((960, 24), (960, 24)), ((1104, 28), (1104, 28)), ((1152, 31), (1152, 31)), ((1200, 34), (1200, 34))] ⟨rfl, rfl, rfl, rfl, rfl, rfl, rfl, rfl, rfl, rfl, rfl, trivial⟩ ⟨rfl, ⟨_, rfl, rfl⟩, ⟨rfl, ⟨_, rfl, rfl⟩, ⟨rfl, ⟨_, rfl, ah_row E_LSiibe⟩, ⟨rfl, ⟨_, rfl, ah_row E_Siibe⟩, ⟨rfl, ⟨_, rfl, ah_row E_i⟩, ⟨rfl, ⟨_, rfl, ah_row E_B⟩, ⟨rfl, ⟨_, rfl, ah_row E_B⟩, ⟨rfl, ⟨_, rfl, ah_row E_i⟩, ⟨rfl, ⟨_, rfl, ah_row E_i⟩, trivial⟩⟩⟩⟩⟩⟩⟩⟩⟩ rfl) ⟨n, ((y23 ++ ([(⟨(nth E_i v12.1 y24), (nth E_i v13.1 y24), (!decide ((bits .and .u8 (nth E_B v11.1 y24) 1) = 0))⟩ : T_Siibe)] : List T_Siibe)), (w64 (y24 + 1))), Nat.lt_succ_self n, rfl, h⟩
                            · have h := iF h hc25
                              refine .exit ?_
                              refine sqX ?_
                              refine jkX ?_
                              refine bkE ?_
                              exact jkN (by exact .tn [((32, 1), (32, 1)), ((128, 24), (128, 24)), ((143, 41), (143, 41)), ((255, 50), (255, 53)), ((768, 19), (768, 19)), ((960, 24), (960, 24)), ((1104, 28), (1104, 28)), ((1152, 31), (1152, 31)), ((1200, 34), (1200, 34))] ⟨rfl, rfl, rfl, rfl, rfl, rfl, rfl, rfl, rfl, rfl, trivial⟩ ⟨rfl, ⟨_, rfl, rfl⟩, ⟨rfl, ⟨_, rfl, rfl⟩, ⟨rfl, ⟨_, rfl, ah_row E_LSiibe⟩, ⟨rfl, ⟨_, rfl, ah_row E_Siibe⟩, ⟨rfl, ⟨_, rfl, ah_row E_i⟩, ⟨rfl, ⟨_, rfl, ah_row E_B⟩, ⟨rfl, ⟨_, rfl, ah_row E_B⟩, ⟨rfl, ⟨_, rfl, ah_row E_i⟩, ⟨rfl, ⟨_, rfl, ah_row E_i⟩, trivial⟩⟩⟩⟩⟩⟩⟩⟩⟩ rfl) ⟨_, rfl, h⟩
                        · rintro _ ⟨x30, rfl, h⟩
                          subst hj22
                          refine sqN ?_
                          refine .seq ?_
                          refine .rgI rfl ?_
                          refine .seg tabOk 0 3 [2, 8, 9, 10, 11, 14, 86, 87, 88, 117, 118] [32, 128, 143, 255, 768, 960, 1104, 1152, 1200] (t := [(2, (.ptr (32, 1) 0)), (8, (.ptr (128, 24) 0)), (q23_3 v11), (q23_6 v12), (q23_8 v13), (14, (vI (nth E_i v7.1 y18))), (q23_10 v7), (q23_11 v7), (88, (vI y18)), (117, (.sref (143, 41) 0 y16.length 1)), (118, (.sref (255, 53) 0 x30.length 3))]) (h := [q23_0, (128, ⟨24, .live, false, [(.sref (143, 41) 0 y16.length 1), (.sref (960, 24) 0 v9.1.length 1)]⟩), (143, ⟨41, .live, true, flat E_LSiibe y16⟩), (255, ⟨53, .live, true, flat E_Siibe x30⟩), (q23_1 v7), (q23_2 v9), (q23_4 v11), (q23_5 v12), (q23_7 v13)]) (ep := 56) (by kernel_rfl) ?_
                          refine .oo tabOk rfl rfl rfl (q_bs E_LSiibe (cs := [(.sref (255, 53) 0 x30.length 3)]) ([x30] : List (List T_Siibe)) rfl rfl rfl rfl rfl rfl (z_row E_Siibe x30 rfl rfl rfl rfl rfl z_nil) rfl rfl rfl) ?_
                          obtain ⟨hb31, h⟩ := gS h
                          refine .oo tabOk rfl rfl rfl (q_app E_LSiibe (l := y16) rfl rfl rfl rfl rfl rfl rfl rfl rfl rfl rfl rfl rfl (.row ([x30] : List (List T_Siibe)) rfl rfl rfl rfl) hb31) ?_
                          refine .seg tabOk 5 2 [2, 8, 9, 10, 11, 14, 86, 87, 88] [32, 128, 768, 960, 1104, 1152, 1200, 1920] (t := [(2, (.ptr (32, 1) 0)), (8, (.ptr (128, 24) 0)), (q23_3 v11), (q23_6 v12), (q23_8 v13), (14, (vI (nth E_i v7.1 y18))), (q23_10 v7), (q23_11 v7), (88, (vI y18))]) (h := [q23_0, (128, ⟨24, .live, false, [(.sref (1920, 56) 0 (y16 ++ ([x30] : List (List T_Siibe))).length 1), (.sref (960, 24) 0 v9.1.length 1)]⟩), (q23_1 v7), (q23_2 v9), (q23_4 v11), (q23_5 v12), (q23_7 v13), (1920, ⟨56, .live, true, flat E_LSiibe (y16 ++ ([x30] : List (List T_Siibe)))⟩)]) (ep := 57) (by kernel_rfl) ?_
                          refine .fin rfl ?_
                          refine sqN ?_
                          refine .rgI rfl ?_
                          refine .seg tabOk 0 3 [2, 8, 9, 10, 11, 12, 86, 87, 88] [32, 128, 768, 960, 1104, 1152, 1200, 1920] (t := [(2, (.ptr (32, 1) 0)), (8, (.ptr (128, 24) 0)), (q23_3 v11), (q23_6 v12), (q23_8 v13), (12, (vI (w64 ((nth E_i v7.1 y18) + 1)))), (q23_10 v7), (q23_11 v7), (88, (vI y18))]) (h := [q23_0, (128, ⟨24, .live, false, [(.sref (1920, 56) 0 (y16 ++ ([x30] : List (List T_Siibe))).length 1), (.sref (960, 24) 0 v9.1.length 1)]⟩), (q23_1 v7), (q23_2 v9), (q23_4 v11), (q23_5 v12), (q23_7 v13), (1920, ⟨56, .live, true, flat E_LSiibe (y16 ++ ([x30] : List (List T_Siibe)))⟩)]) (ep := 59) (by kernel_rfl) ?_
                          refine .fin rfl ?_
                          refine bkN ?_
                          exact jkN (by exact .tn [((32, 1), (32, 1)), ((128, 24), (128, 24)), ((768, 19), (768, 19)), ((960, 24), (960, 24)), ((1104, 28), (1104, 28)), ((1152, 31), (1152, 31)), ((1200, 34), (1200, 34)), ((1920, 56), (1920, 56))] ⟨rfl, rfl, rfl, rfl, rfl, rfl, rfl, rfl, rfl, trivial⟩ ⟨rfl, ⟨_, rfl, rfl⟩, ⟨rfl, ⟨_, rfl, rfl⟩, ⟨rfl, ⟨_, rfl, ah_row E_i⟩, ⟨rfl, ⟨_, rfl, ah_row E_B⟩, ⟨rfl, ⟨_, rfl, ah_row E_B⟩, ⟨rfl, ⟨_, rfl, ah_row E_i⟩, ⟨rfl, ⟨_, rfl, ah_row E_i⟩, ⟨rfl, ⟨_, rfl, ah_row E_LSiibe⟩, trivial⟩⟩⟩⟩⟩⟩⟩⟩ rfl) ⟨_, rfl, h⟩
                      · rintro _ ⟨x32, rfl, h⟩
                        subst hj20
                        refine sqN ?_
                        refine .rgI rfl ?_
                        refine .seg tabOk 0 2 [2, 8, 9, 10, 11, 12, 86, 87, 88] [32, 128, 768, 960, 1104, 1152, 1200, 1920] (t := [(2, (.ptr (32, 1) 0)), (8, (.ptr (128, 24) 0)), (q23_3 v11), (q23_6 v12), (q23_8 v13), (12, (vI (w64 ((nth E_i v7.1 y18) + 1)))), (q23_10 v7), (q23_11 v7), (88, (vI (w64 (y18 + 1))))]) (h := [q23_0, (128, ⟨24, .live, false, [(.sref (1920, 56) 0 x32.length 1), (.sref (960, 24) 0 v9.1.length 1)]⟩), (q23_1 v7), (q23_2 v9), (q23_4 v11), (q23_5 v12), (q23_7 v13), (1920, ⟨56, .live, true, flat E_LSiibe x32⟩)]) (ep := 62) (by kernel_rfl) ?_
                        refine .fin rfl ?_
                        exact jkN (by exact .tn [((32, 1), (32, 1)), ((128, 24), (128, 24)), ((1920, 56), (143, 41)), ((768, 19), (768, 19)), ((960, 24), (960, 24)), ((1104, 28), (1104, 28)), ((1152, 31), (1152, 31)), ((1200, 34), (1200, 34))] ⟨rfl, rfl, rfl, rfl, rfl, rfl, rfl, rfl, rfl, trivial⟩ ⟨rfl, ⟨_, rfl, rfl⟩, ⟨rfl, ⟨_, rfl, rfl⟩, ⟨rfl, ⟨_, rfl, ah_row E_LSiibe⟩, ⟨rfl, ⟨_, rfl, ah_row E_i⟩, ⟨rfl, ⟨_, rfl, ah_row E_B⟩, ⟨rfl, ⟨_, rfl, ah_row E_B⟩, ⟨rfl, ⟨_, rfl, ah_row E_i⟩, ⟨rfl, ⟨_, rfl, ah_row E_i⟩, trivial⟩⟩⟩⟩⟩⟩⟩⟩ rfl) ⟨n, (x32, (w64 ((nth E_i v7.1 y18) + 1)), (w64 (y18 + 1))), Nat.lt_succ_self n, rfl, h⟩
                    · have h := iF h hc19
                      refine .exit ?_
                      refine sqX ?_
                      refine jkX ?_
                      refine bkE ?_
                      exact jkN (by exact .tn [((32, 1), (32, 1)), ((128, 24), (128, 24)), ((143, 41), (143, 44)), ((960, 24), (960, 24))] ⟨rfl, rfl, trivial⟩ ⟨rfl, ⟨_, rfl, rfl⟩, ⟨rfl, ⟨_, rfl, rfl⟩, ⟨rfl, ⟨_, rfl, ah_row E_LSiibe⟩, ⟨rfl, ⟨_, rfl, ah_row E_B⟩, trivial⟩⟩⟩⟩ rfl) ⟨_, rfl, h⟩
                · rintro _ ⟨x33, rfl, h⟩
                  subst hj15
                  refine sqN ?_
                  refine .seq ?_
                  refine .rgI rfl ?_
                  refine .seg tabOk 0 3 [2, 3] [32, 143, 960] (t := [(2, (.ptr (32, 1) 0)), (3, (vI 0))]) (h := [(32, ⟨1, .live, false, [(.sref (143, 44) 0 x33.length 1), (.sref (960, 24) 0 v9.1.length 1)]⟩), (143, ⟨44, .live, true, flat E_LSiibe x33⟩), (q23_2 v9)]) (ep := 47) (by kernel_rfl) ?_
                  refine .fin rfl ?_
                  refine sqN ?_
                  refine .ret ?_
                  injection h with h
                  subst h
                  exact ⟨.inr rfl, _, _, (f_cons (f_mem rfl (o_agg (ol_cons (o1_row E_LSiibe x33 rfl rfl rfl rfl rfl) (ol_cons (o1_row E_B v9.1 rfl rfl rfl rfl rfl) ol_nil)))) (f_cons rfl f_nil)), nd_of rfl, rfl, rfl⟩
abbrev R_r07_Same := Bool
def L_r07_Same_1 (a0 : (List (List T_Siibe))) (a1 : (List (List T_Siibe))) (y3 : Int) (j10 : Unit → Option R_r07_Same) : Nat → Int → Option R_r07_Same
  | 0, _ => none
  | n + 1, y11 =>
    if (decide (y11 < ((nth E_LSiibe a0 y3).length : Int))) then
      gd (0 ≤ y3 ∧ y3 < a0.length) <|
      gd (0 ≤ y11 ∧ y11 < (nth E_LSiibe a0 y3).length) <|
      gd (0 ≤ y3 ∧ y3 < a1.length) <|
      gd (0 ≤ y11 ∧ y11 < (nth E_LSiibe a1 y3).length) <|
      if (!((decide ((nth E_Siibe (nth E_LSiibe a0 y3) y11).f0 = (nth E_Siibe (nth E_LSiibe a1 y3) y11).f0)) && ((decide ((nth E_Siibe (nth E_LSiibe a0 y3) y11).f1 = (nth E_Siibe (nth E_LSiibe a1 y3) y11).f1)) && (((nth E_Siibe (nth E_LSiibe a0 y3) y11).f2 == (nth E_Siibe (nth E_LSiibe a1 y3) y11).f2) && true)))) then
        some false
      else
      L_r07_Same_1 a0 a1 y3 j10 n (w64 (y11 + 1))
    else
    j10 ()
def L_r07_Same_0 (a0 : (List (List T_Siibe))) (a1 : (List (List T_Siibe))) (j2 : Unit → Option R_r07_Same) : Nat → Int → Option R_r07_Same
  | 0, _ => none
  | n + 1, y3 =>
    if (decide (y3 < (a0.length : Int))) then
      lj (fun (_ : Unit) =>
        L_r07_Same_0 a0 a1 j2 n (w64 (y3 + 1))) fun j5 =>
      gd (0 ≤ y3 ∧ y3 < a0.length) <|
      gd (0 ≤ y3 ∧ y3 < a1.length) <|
      if (!decide (((nth E_LSiibe a0 y3).length : Int) = ((nth E_LSiibe a1 y3).length : Int))) then
        some false
      else
      gd (0 ≤ y3 ∧ y3 < a0.length) <|
      lj (fun (_ : Unit) =>
        j5 ()) fun j10 =>
      L_r07_Same_1 a0 a1 y3 j10 n 0
    else
    j2 ()
def F_r07_Same (n : Nat) (a0 : (List (List T_Siibe))) (a1 : (List (List T_Siibe))) : Option R_r07_Same :=
  if (!decide ((a0.length : Int) = (a1.length : Int))) then
    some false
  else
  lj (fun (_ : Unit) =>
    some true) fun j2 =>
  L_r07_Same_0 a0 a1 j2 n 0
abbrev q25_0 (a0 : (List (List T_Siibe))) : Nat × V := (0, (.ro 1 a0.length (flat E_LSiibe a0)))
abbrev q25_1 (a1 : (List (List T_Siibe))) : Nat × V := (1, (.ro 1 a1.length (flat E_LSiibe a1)))
abbrev q25_2 (a0 : (List (List T_Siibe))) : Nat × V := (13, (vI (a0.length : Int)))
abbrev q25_3 (a0 : (List (List T_Siibe))) (y3 : Int) : Nat × V := (32, (vI ((nth E_LSiibe a0 y3).length : Int)))
abbrev q25_4 (a0 : (List (List T_Siibe))) (y3 : Int) (y11 : Int) : Nat × V := (42, (.agg [(vI (nth E_Siibe (nth E_LSiibe a0 y3) y11).f0), (vI (nth E_Siibe (nth E_LSiibe a0 y3) y11).f1), (.val (.bool (nth E_Siibe (nth E_LSiibe a0 y3) y11).f2))]))
theorem C_r07_Same (n : Nat) (a0 : (List (List T_Siibe))) (a1 : (List (List T_Siibe))) (r : R_r07_Same) (h : F_r07_Same n a0 a1 = some r) : CallS Try.prog 25 [(.ro 1 a0.length (flat E_LSiibe a0)), (.ro 1 a1.length (flat E_LSiibe a1))] (.val (.bool r)) [none, none] := by
  refine CallS.introK tabOk Try.func25 rfl Try.ntmps25 (Nat.le_of_ble_eq_true rfl) ?_
  rw [F_r07_Same] at h
  refine .seq ?_
  refine .rgI rfl ?_
  refine .seg tabOk 0 1 [0, 1] [] (t := [(q25_0 a0), (q25_1 a1)]) (h := []) (ep := 2) (by kernel_rfl) ?_
  refine .fin rfl ?_
  refine sqN ?_
  refine .seq ?_
  refine .seq ?_
  refine .rgI rfl ?_
  refine .seg tabOk 0 5 [0, 1, 11] [] (t := [(q25_0 a0), (q25_1 a1), (11, (.val (.bool (!decide ((a0.length : Int) = (a1.length : Int))))))]) (h := []) (ep := 4) (by kernel_rfl) ?_
  refine .fin rfl ?_
  refine sqN ?_
  refine .cond (!decide ((a0.length : Int) = (a1.length : Int))) rfl (fun hc1 => ?_) (fun hc1 => ?_)
  · have h := iT h hc1
    refine .seq ?_
    refine .rgI rfl ?_
    refine .seg tabOk 0 1 [4] [] (t := [(4, (.val (.bool false)))]) (h := []) (ep := 6) (by kernel_rfl) ?_
    refine .fin rfl ?_
    refine sqN ?_
    refine .ret ?_
    refine sqR ?_
    injection h with h
    subst h
    exact ⟨.inr rfl, _, _, rfl, List.nodup_nil, rfl, rfl⟩
  · have h := iF h hc1
    refine .skip ?_
    refine sqN ?_
    refine .seq ?_
    refine .seq ?_
    refine .rgI rfl ?_
    refine .seg tabOk 0 3 [0, 1, 13, 14] [] (t := [(q25_0 a0), (q25_1 a1), (q25_2 a0), (14, (vI 0))]) (h := []) (ep := 6) (by kernel_rfl) ?_
    refine .fin rfl ?_
    refine sqN ?_
    obtain ⟨j2, hj2, h⟩ := ljS h
    refine .join (fun s' => s' = ⟨[], [], 10⟩ ∧ j2 () = some r) ?_ ?_
    · refine .block ?_
      refine .loopF (β := Int) (fun v => ⟨[(q25_0 a0), (q25_1 a1), (q25_2 a0), (14, (vI v))], [], 7⟩) (fun m v => L_r07_Same_0 a0 a1 j2 m v = some r) n 0 (by exact .tn [] ⟨rfl, rfl, rfl, rfl, trivial⟩ trivial rfl) h ?_
      rintro m y3 h
      cases m with
      | zero => exact nomatch h
      | succ n =>
        rw [L_r07_Same_0] at h
        refine .seq ?_
        refine .rgI rfl ?_
        refine .seg tabOk 0 1 [0, 1, 13, 14, 15] [] (t := [(q25_0 a0), (q25_1 a1), (q25_2 a0), (14, (vI y3)), (15, (.val (.bool (decide (y3 < (a0.length : Int))))))]) (h := []) (ep := 9) (by kernel_rfl) ?_
        refine .fin rfl ?_
        refine sqN ?_
        refine .seq ?_
        refine .cond (decide (y3 < (a0.length : Int))) rfl (fun hc4 => ?_) (fun hc4 => ?_)
        · have h := iT h hc4
          refine .skip ?_
          refine sqN ?_
          refine .seq ?_
          obtain ⟨j5, hj5, h⟩ := ljS h
          refine .join (fun s' => s' = ⟨[(q25_0 a0), (q25_1 a1), (q25_2 a0), (14, (vI y3))], [], 21⟩ ∧ j5 () = some r) ?_ ?_
          · refine .block ?_
            refine .seq ?_
            refine .rgI rfl ?_
            refine .seg tabOk 0 2 [0, 1, 5, 13, 14] [] (t := [(q25_0 a0), (q25_1 a1), (5, (vI y3)), (q25_2 a0), (14, (vI y3))]) (h := []) (ep := 11) (by kernel_rfl) ?_
            refine .fin rfl ?_
            refine sqN ?_
            refine .seq ?_
            refine .seq ?_
            refine .rgD rfl ?_
            refine .seg tabOk 0 2 [0, 1, 5, 13, 14, 17, 18] [] (t := [(q25_0 a0), (q25_1 a1), (5, (vI y3)), (q25_2 a0), (14, (vI y3)), (17, (.ro 1 a0.length (flat E_LSiibe a0))), (18, (vI y3))]) (h := []) (ep := 12) (by kernel_rfl) ?_
            obtain ⟨hb6, h⟩ := gS h
            refine .o tabOk rfl rfl rfl (q_idx E_LSiibe rfl rfl rfl rfl rfl rfl hb6) (a_idx E_LSiibe rfl rfl rfl rfl rfl rfl hb6) rfl ?_
            refine .o tabOk rfl rfl rfl (q_ld0 E_LSiibe rfl rfl rfl hb6 rfl) (a_ld0 E_LSiibe rfl rfl rfl hb6 rfl) rfl ?_
            refine .seg tabOk 4 3 [0, 1, 5, 13, 14, 21, 22, 23] [] (t := [(q25_0 a0), (q25_1 a1), (5, (vI y3)), (q25_2 a0), (14, (vI y3)), (21, (vI ((nth E_LSiibe a0 y3).length : Int))), (22, (.ro 1 a1.length (flat E_LSiibe a1))), (23, (vI y3))]) (h := []) (ep := 12) (by kernel_rfl) ?_
            obtain ⟨hb7, h⟩ := gS h
            refine .o tabOk rfl rfl rfl (q_idx E_LSiibe rfl rfl rfl rfl rfl rfl hb7) (a_idx E_LSiibe rfl rfl rfl rfl rfl rfl hb7) rfl ?_
            refine .o tabOk rfl rfl rfl (q_ld0 E_LSiibe rfl rfl rfl hb7 rfl) (a_ld0 E_LSiibe rfl rfl rfl hb7 rfl) rfl ?_
            refine .seg tabOk 9 2 [0, 1, 5, 13, 14, 27] [] (t := [(q25_0 a0), (q25_1 a1), (5, (vI y3)), (q25_2 a0), (14, (vI y3)), (27, (.val (.bool (!decide (((nth E_LSiibe a0 y3).length : Int) = ((nth E_LSiibe a1 y3).length : Int))))))]) (h := []) (ep := 12) (by kernel_rfl) ?_
            refine .fin mixed [0, 1, 5, 13, 14, 27] [] (t := [(q25_0 a0), (q25_1 a1), (5, (vI y3)), (q25_2 a0), (14, (vI y3)), (27, (.val (.bool (!decide (((nth E_LSiibe a0 y3).length : Int) = ((nth E_LSiibe a1 y3).length : Int))))))]) (h := []) (ep := 13) rfl (by kernel_rfl) rfl ?_
            refine sqN ?_
            refine .cond (!decide (((nth E_LSiibe a0 y3).length : Int) = ((nth E_LSiibe a1 y3).length : Int))) rfl (fun hc8 => ?_) (fun hc8 => ?_)
            · have h := iT h hc8
              refine .seq ?_
              refine .rgI rfl ?_
              refine .seg tabOk 0 1 [4] [] (t := [(4, (.val (.bool false)))]) (h := []) (ep := 15) (by kernel_rfl) ?_
              refine .fin rfl ?_
              refine sqN ?_
              refine .ret ?_
              refine sqR ?_
              refine bkR ?_
              refine jkR ?_
              refine sqR ?_
              refine jkR ?_
              refine bkR ?_
              refine jkR ?_
              refine sqR ?_
              injection h with h
              subst h
              exact ⟨.inr rfl, _, _, rfl, List.nodup_nil, rfl, rfl⟩
            · have h := iF h hc8
              refine .skip ?_
              refine sqN ?_
              refine .seq ?_
              refine .rgI rfl ?_
              refine .seg tabOk 0 2 [0, 1, 5, 13, 14, 28, 29] [] (t := [(q25_0 a0), (q25_1 a1), (5, (vI y3)), (q25_2 a0), (14, (vI y3)), (28, (.ro 1 a0.length (flat E_LSiibe a0))), (29, (vI y3))]) (h := []) (ep := 15) (by kernel_rfl) ?_
              obtain ⟨hb9, h⟩ := gS h
              refine .o tabOk rfl rfl rfl (q_idx E_LSiibe rfl rfl rfl rfl rfl rfl hb9) ?_
              refine .o tabOk rfl rfl rfl (q_ld0 E_LSiibe rfl rfl rfl hb9 rfl) ?_
              refine .seg tabOk 4 2 [0, 1, 5, 13, 14, 32, 33] [] (t := [(q25_0 a0), (q25_1 a1), (5, (vI y3)), (q25_2 a0), (14, (vI y3)), (q25_3 a0 y3), (33, (vI 0))]) (h := []) (ep := 16) (by kernel_rfl) ?_
              refine .fin rfl ?_
              refine sqN ?_
              obtain ⟨j10, hj10, h⟩ := ljS h
              refine .join (fun s' => s' = ⟨[(q25_0 a0), (q25_1 a1), (q25_2 a0), (14, (vI y3))], [], 20⟩ ∧ j10 () = some r) ?_ ?_
              · refine .block ?_
                refine .loopF (β := Int) (fun v => ⟨[(q25_0 a0), (q25_1 a1), (5, (vI y3)), (q25_2 a0), (14, (vI y3)), (q25_3 a0 y3), (33, (vI v))], [], 17⟩) (fun m v => L_r07_Same_1 a0 a1 y3 j10 m v = some r) n 0 (by exact .tn [] ⟨rfl, rfl, rfl, rfl, rfl, rfl, rfl, trivial⟩ trivial rfl) h ?_
                rintro m y11 h
                cases m with
                | zero => exact nomatch h
                | succ n =>
                  rw [L_r07_Same_1] at h
                  refine .seq ?_
                  refine .rgI rfl ?_
                  refine .seg tabOk 0 1 [0, 1, 5, 13, 14, 32, 33, 34] [] (t := [(q25_0 a0), (q25_1 a1), (5, (vI y3)), (q25_2 a0), (14, (vI y3)), (q25_3 a0 y3), (33, (vI y11)), (34, (.val (.bool (decide (y11 < ((nth E_LSiibe a0 y3).length : Int))))))]) (h := []) (ep := 19) (by kernel_rfl) ?_
                  refine .fin rfl ?_
                  refine sqN ?_
                  refine .seq ?_
                  refine .cond (decide (y11 < ((nth E_LSiibe a0 y3).length : Int))) rfl (fun hc12 => ?_) (fun hc12 => ?_)
                  · have h := iT h hc12
                    refine .skip ?_
                    refine sqN ?_
                    refine .seq ?_
                    refine .block ?_
                    refine .seq ?_
                    refine .rgI rfl ?_
                    refine .seg tabOk 0 2 [0, 1, 5, 6, 13, 14, 32, 33] [] (t := [(q25_0 a0), (q25_1 a1), (5, (vI y3)), (6, (vI y11)), (q25_2 a0), (14, (vI y3)), (q25_3 a0 y3), (33, (vI y11))]) (h := []) (ep := 21) (by kernel_rfl) ?_
                    refine .fin rfl ?_
                    refine sqN ?_
                    refine .seq ?_
                    refine .rgD rfl ?_
                    refine .seg tabOk 0 2 [0, 1, 5, 6, 13, 14, 32, 33, 36, 37] [] (t := [(q25_0 a0), (q25_1 a1), (5, (vI y3)), (6, (vI y11)), (q25_2 a0), (14, (vI y3)), (q25_3 a0 y3), (33, (vI y11)), (36, (.ro 1 a0.length (flat E_LSiibe a0))), (37, (vI y3))]) (h := []) (ep := 22) (by kernel_rfl) ?_
                    obtain ⟨hb13, h⟩ := gS h
                    refine .o tabOk rfl rfl rfl (q_idx E_LSiibe rfl rfl rfl rfl rfl rfl hb13) (a_idx E_LSiibe rfl rfl rfl rfl rfl rfl hb13) rfl ?_
                    refine .o tabOk rfl rfl rfl (q_ld0 E_LSiibe rfl rfl rfl hb13 rfl) (a_ld0 E_LSiibe rfl rfl rfl hb13 rfl) rfl ?_
                    refine .seg tabOk 4 1 [0, 1, 5, 6, 13, 14, 32, 33, 39, 40] [] (t := [(q25_0 a0), (q25_1 a1), (5, (vI y3)), (6, (vI y11)), (q25_2 a0), (14, (vI y3)), (q25_3 a0 y3), (33, (vI y11)), (39, (.ro 3 (nth E_LSiibe a0 y3).length (flat E_Siibe (nth E_LSiibe a0 y3)))), (40, (vI y11))]) (h := []) (ep := 22) (by kernel_rfl) ?_
                    obtain ⟨hb14, h⟩ := gS h
                    refine .o tabOk rfl rfl rfl (q_idx E_Siibe rfl rfl rfl rfl rfl rfl hb14) (a_idx E_Siibe rfl rfl rfl rfl rfl rfl hb14) rfl ?_
                    refine .o tabOk rfl rfl rfl (q_ld0 E_Siibe rfl rfl rfl hb14 rfl) (a_ld0 E_Siibe rfl rfl rfl hb14 rfl) rfl ?_
                    refine .seg tabOk 7 2 [0, 1, 5, 6, 13, 14, 32, 33, 42, 43, 44] [] (t := [(q25_0 a0), (q25_1 a1), (5, (vI y3)), (6, (vI y11)), (q25_2 a0), (14, (vI y3)), (q25_3 a0 y3), (33, (vI y11)), (q25_4 a0 y3 y11), (43, (.ro 1 a1.length (flat E_LSiibe a1))), (44, (vI y3))]) (h := []) (ep := 22) (by kernel_rfl) ?_
                    obtain ⟨hb15, h⟩ := gS h
                    refine .o tabOk rfl rfl rfl (q_idx E_LSiibe rfl rfl rfl rfl rfl rfl hb15) (a_idx E_LSiibe rfl rfl rfl rfl rfl rfl hb15) rfl ?_
                    refine .o tabOk rfl rfl rfl (q_ld0 E_LSiibe rfl rfl rfl hb15 rfl) (a_ld0 E_LSiibe rfl rfl rfl hb15 rfl) rfl ?_
                    refine .seg tabOk 11 1 [0, 1, 5, 13, 14, 32, 33, 42, 46, 47] [] (t := [(q25_0 a0), (q25_1 a1), (5, (vI y3)), (q25_2 a0), (14, (vI y3)), (q25_3 a0 y3), (33, (vI y11)), (q25_4 a0 y3 y11), (46, (.ro 3 (nth E_LSiibe a1 y3).length (flat E_Siibe (nth E_LSiibe a1 y3)))), (47, (vI y11))]) (h := []) (ep := 22) (by kernel_rfl) ?_
                    obtain ⟨hb16, h⟩ := gS h
                    refine .o tabOk rfl rfl rfl (q_idx E_Siibe rfl rfl rfl rfl rfl rfl hb16) (a_idx E_Siibe rfl rfl rfl rfl rfl rfl hb16) rfl ?_
                    refine .o tabOk rfl rfl rfl (q_ld0 E_Siibe rfl rfl rfl hb16 rfl) (a_ld0 E_Siibe rfl rfl rfl hb16 rfl) rfl ?_
                    refine .seg tabOk 14 1 [0, 1, 5, 13, 14, 32, 33, 50] [] (t := [(q25_0 a0), (q25_1 a1), (5, (vI y3)), (q25_2 a0), (14, (vI y3)), (q25_3 a0 y3), (33, (vI y11)), (50, (.val (.bool (!((decide ((nth E_Siibe (nth E_LSiibe a0 y3) y11).f0 = (nth E_Siibe (nth E_LSiibe a1 y3) y11).f0)) && ((decide ((nth E_Siibe (nth E_LSiibe a0 y3) y11).f1 = (nth E_Siibe (nth E_LSiibe a1 y3) y11).f1)) && (((nth E_Siibe (nth E_LSiibe a0 y3) y11).f2 == (nth E_Siibe (nth E_LSiibe a1 y3) y11).f2) && true)))))))]) (h := []) (ep := 22) (by kernel_rfl) ?_
                    refine .fin mixed [0, 1, 5, 13, 14, 32, 33, 50] [] (t := [(q25_0 a0), (q25_1 a1), (5, (vI y3)), (q25_2 a0), (14, (vI y3)), (q25_3 a0 y3), (33, (vI y11)), (50, (.val (.bool (!((decide ((nth E_Siibe (nth E_LSiibe a0 y3) y11).f0 = (nth E_Siibe (nth E_LSiibe a1 y3) y11).f0)) && ((decide ((nth E_Siibe (nth E_LSiibe a0 y3) y11).f1 = (nth E_Siibe (nth E_LSiibe a1 y3) y11).f1)) && (((nth E_Siibe (nth E_LSiibe a0 y3) y11).f2 == (nth E_Siibe (nth E_LSiibe a1 y3) y11).f2) && true)))))))]) (h := []) (ep := 23) rfl (by kernel_rfl) rfl ?_
                    refine sqN ?_
                    refine .cond (!((decide ((nth E_Siibe (nth E_LSiibe a0 y3) y11).f0 = (nth E_Siibe (nth E_LSiibe a1 y3) y11).f0)) && ((decide ((nth E_Siibe (nth E_LSiibe a0 y3) y11).f1 = (nth E_Siibe (nth E_LSiibe a1 y3) y11).f1)) && (((nth E_Siibe (nth E_LSiibe a0 y3) y11).f2 == (nth E_Siibe (nth E_LSiibe a1 y3) y11).f2) && true)))) rfl (fun hc17 => ?_) (fun hc17 => ?_)
                    · have h := iT h hc17
                      refine .seq ?_
                      refine .rgI rfl ?_
                      refine .seg tabOk 0 1 [4] [] (t := [(4, (.val (.bool false)))]) (h := []) (ep := 25) (by kernel_rfl) ?_
                      refine .fin rfl ?_
                      refine sqN ?_
                      refine .ret ?_
                      refine bkR ?_
                      refine sqR ?_
                      refine jkR ?_
                      refine bkR ?_
                      refine jkR ?_
                      refine bkR ?_
                      refine jkR ?_
                      refine sqR ?_
                      refine jkR ?_
                      refine bkR ?_
                      refine jkR ?_
                      refine sqR ?_
                      injection h with h
                      subst h
                      exact ⟨.inr rfl, _, _, rfl, List.nodup_nil, rfl, rfl⟩
                    · have h := iF h hc17
                      refine .skip ?_
                      refine bkN ?_
                      refine sqN ?_
                      refine .rgI rfl ?_
                      refine .seg tabOk 0 2 [0, 1, 5, 13, 14, 32, 33] [] (t := [(q25_0 a0), (q25_1 a1), (5, (vI y3)), (q25_2 a0), (14, (vI y3)), (q25_3 a0 y3), (33, (vI (w64 (y11 + 1))))]) (h := []) (ep := 25) (by kernel_rfl) ?_
                      refine .fin rfl ?_
                      exact jkN (by exact .tn [] ⟨rfl, rfl, rfl, rfl, rfl, rfl, rfl, trivial⟩ trivial rfl) ⟨n, (w64 (y11 + 1)), Nat.lt_succ_self n, rfl, h⟩
                  · have h := iF h hc12
                    refine .exit ?_
                    refine sqX ?_
                    refine jkX ?_
                    refine bkE ?_
                    exact jkN (by exact .tn [] ⟨rfl, rfl, rfl, rfl, trivial⟩ trivial rfl) ⟨rfl, h⟩
              · rintro _ ⟨rfl, h⟩
                subst hj10
                refine bkN ?_
                exact jkN (by exact .tn [] ⟨rfl, rfl, rfl, rfl, trivial⟩ trivial rfl) ⟨rfl, h⟩
          · rintro _ ⟨rfl, h⟩
            subst hj5
            refine sqN ?_
            refine .rgI rfl ?_
            refine .seg tabOk 0 2 [0, 1, 13, 14] [] (t := [(q25_0 a0), (q25_1 a1), (q25_2 a0), (14, (vI (w64 (y3 + 1))))]) (h := []) (ep := 23) (by kernel_rfl) ?_
            refine .fin rfl ?_
            exact jkN (by exact .tn [] ⟨rfl, rfl, rfl, rfl, trivial⟩ trivial rfl) ⟨n, (w64 (y3 + 1)), Nat.lt_succ_self n, rfl, h⟩
        · have h := iF h hc4
          refine .exit ?_
          refine sqX ?_
          refine jkX ?_
          refine bkE ?_
          exact jkN (by exact .tn [] trivial trivial rfl) ⟨rfl, h⟩
    · rintro _ ⟨rfl, h⟩
      subst hj2
      refine sqN ?_
      refine .seq ?_
      refine .rgI rfl ?_
      refine .seg tabOk 0 1 [4] [] (t := [(4, (.val (.bool true)))]) (h := []) (ep := 12) (by kernel_rfl) ?_
      refine .fin rfl ?_
      refine sqN ?_
      refine .ret ?_
      injection h with h
      subst h
      exact ⟨.inr rfl, _, _, rfl, List.nodup_nil, rfl, rfl⟩
abbrev R_simple_Box := T_Siie × T_Siie
def L_simple_Box_1 (a0 : (List (List T_Siibe))) (y6 : Int) (j11 : Int → Int → Int → Int → Bool → Option R_simple_Box) : Nat → Int → Int → Int → Int → Int → Bool → Option R_simple_Box
  | 0, _, _, _, _, _, _ => none
  | n + 1, y12, y13, y14, y15, y16, y17 =>
    if (decide (y16 < ((nth E_LSiibe a0 y6).length : Int))) then
      gd (0 ≤ y16 ∧ y16 < (nth E_LSiibe a0 y6).length) <|
      L_simple_Box_1 a0 y6 j11 n (if (nth E_Siibe (nth E_LSiibe a0 y6) y16).f0 < (if (!y17) then (nth E_Siibe (nth E_LSiibe a0 y6) y16).f0 else y12) then (nth E_Siibe (nth E_LSiibe a0 y6) y16).f0 else (if (!y17) then (nth E_Siibe (nth E_LSiibe a0 y6) y16).f0 else y12)) (if (nth E_Siibe (nth E_LSiibe a0 y6) y16).f1 < (if (!y17) then (nth E_Siibe (nth E_LSiibe a0 y6) y16).f1 else y13) then (nth E_Siibe (nth E_LSiibe a0 y6) y16).f1 else (if (!y17) then (nth E_Siibe (nth E_LSiibe a0 y6) y16).f1 else y13)) (if (nth E_Siibe (nth E_LSiibe a0 y6) y16).f0 > (if (!y17) then (nth E_Siibe (nth E_LSiibe a0 y6) y16).f0 else y14) then (nth E_Siibe (nth E_LSiibe a0 y6) y16).f0 else (if (!y17) then (nth E_Siibe (nth E_LSiibe a0 y6) y16).f0 else y14)) (if (nth E_Siibe (nth E_LSiibe a0 y6) y16).f1 > (if (!y17) then (nth E_Siibe (nth E_LSiibe a0 y6) y16).f1 else y15) then (nth E_Siibe (nth E_LSiibe a0 y6) y16).f1 else (if (!y17) then (nth E_Siibe (nth E_LSiibe a0 y6) y16).f1 else y15)) (w64 (y16 + 1)) ((!y17) || y17)
    else
    j11 y12 y13 y14 y15 y17
def L_simple_Box_0 (a0 : (List (List T_Siibe))) (j1 : Int → Int → Int → Int → Option R_simple_Box) : Nat → Int → Int → Int → Int → Int → Bool → Option R_simple_Box
  | 0, _, _, _, _, _, _ => none
  | n + 1, y2, y3, y4, y5, y6, y7 =>
    if (decide (y6 < (a0.length : Int))) then
      lj (fun (x26 : Int) (x27 : Int) (x28 : Int) (x29 : Int) (x30 : Bool) =>
        L_simple_Box_0 a0 j1 n x26 x27 x28 x29 (w64 (y6 + 1)) x30) fun j9 =>
      gd (0 ≤ y6 ∧ y6 < a0.length) <|
      lj (fun (x21 : Int) (x22 : Int) (x23 : Int) (x24 : Int) (x25 : Bool) =>
        j9 x21 x22 x23 x24 x25) fun j11 =>
      L_simple_Box_1 a0 y6 j11 n y2 y3 y4 y5 0 y7
    else
    j1 y2 y3 y4 y5
def F_simple_Box (n : Nat) (a0 : (List (List T_Siibe))) : Option R_simple_Box :=
  lj (fun (x31 : Int) (x32 : Int) (x33 : Int) (x34 : Int) =>
    some ((⟨x31, x32⟩ : T_Siie), (⟨x33, x34⟩ : T_Siie))) fun j1 =>
  L_simple_Box_0 a0 j1 n 0 0 0 0 0 false
abbrev q30_0 (a0 : (List (List T_Siibe))) : Nat × V := (10, (.ro 1 a0.length (flat E_LSiibe a0)))
abbrev q30_1 (a0 : (List (List T_Siibe))) : Nat × V := (11, (vI (a0.length : Int)))
abbrev q30_2 (y12 : Int) (y13 : Int) : Nat × Ob := (32, ⟨1, .live, false, [(vI y12), (vI y13)]⟩)
abbrev q30_3 : Nat × Ob := (32, ⟨1, .live, false, [(vI 0), (vI 0)]⟩)
abbrev q30_4 : Nat × Ob := (48, ⟨1, .live, false, [(vI 0), (vI 0)]⟩)
theorem C_simple_Box (n : Nat) (a0 : (List (List T_Siibe))) (r : R_simple_Box) (h : F_simple_Box n a0 = some r) : CallS Try.prog 30 [(.ro 1 a0.length (flat E_LSiibe a0))] (.tup [(.agg [(vI r.1.f0), (vI r.1.f1)]), (.agg [(vI r.2.f0), (vI r.2.f1)])]) [none] := by
  refine CallS.introK tabOk Try.func30 rfl Try.ntmps30 (Nat.le_of_ble_eq_true rfl) ?_
  rw [F_simple_Box] at h
  refine .seq ?_
  refine .rgI rfl ?_
  refine .seg tabOk 0 2 [0, 2, 3] [32, 48] (t := [(0, (.ro 1 a0.length (flat E_LSiibe a0))), (2, (.ptr (32, 1) 0)), (3, (.ptr (48, 1) 0))]) (h := [q30_3, q30_4]) (ep := 2) (by kernel_rfl) ?_
  refine .fin rfl ?_
  refine sqN ?_
  refine .seq ?_
  refine .rgI rfl ?_
  refine .seg tabOk 0 1 [0, 2, 3, 4] [32, 48] (t := [(0, (.ro 1 a0.length (flat E_LSiibe a0))), (2, (.ptr (32, 1) 0)), (3, (.ptr (48, 1) 0)), (4, (.val (.bool false)))]) (h := [q30_3, q30_4]) (ep := 4) (by kernel_rfl) ?_
  refine .fin rfl ?_
  refine sqN ?_
  refine .seq ?_
  refine .seq ?_
  refine .rgI rfl ?_
  refine .seg tabOk 0 3 [2, 3, 4, 10, 11, 12] [32, 48] (t := [(2, (.ptr (32, 1) 0)), (3, (.ptr (48, 1) 0)), (4, (.val (.bool false))), (q30_0 a0), (q30_1 a0), (12, (vI 0))]) (h := [q30_3, q30_4]) (ep := 6) (by kernel_rfl) ?_
  refine .fin rfl ?_
  refine sqN ?_
  obtain ⟨j1, hj1, h⟩ := ljS h
  refine .join (fun s' => ∃ x31 x32 x33 x34, s' = ⟨[(2, (.ptr (32, 1) 0)), (3, (.ptr (48, 1) 0))], [(32, ⟨1, .live, false, [(vI x31), (vI x32)]⟩), (48, ⟨1, .live, false, [(vI x33), (vI x34)]⟩)], 10⟩ ∧ j1 x31 x32 x33 x34 = some r) ?_ ?_
  · refine .block ?_
    refine .loopF (β := Int × Int × Int × Int × Int × Bool) (fun v => ⟨[(2, (.ptr (32, 1) 0)), (3, (.ptr (48, 1) 0)), (4, (.val (.bool v.2.2.2.2.2))), (q30_0 a0), (q30_1 a0), (12, (vI v.2.2.2.2.1))], [(32, ⟨1, .live, false, [(vI v.1), (vI v.2.1)]⟩), (48, ⟨1, .live, false, [(vI v.2.2.1), (vI v.2.2.2.1)]⟩)], 7⟩) (fun m v => L_simple_Box_0 a0 j1 m v.1 v.2.1 v.2.2.1 v.2.2.2.1 v.2.2.2.2.1 v.2.2.2.2.2 = some r) n (0, 0, 0, 0, 0, false) (by exact .tn [((32, 1), (32, 1)), ((48, 1), (48, 1))] ⟨rfl, rfl, rfl, rfl, rfl, rfl, trivial⟩ ⟨rfl, ⟨_, rfl, rfl⟩, ⟨rfl, ⟨_, rfl, rfl⟩, trivial⟩⟩ rfl) h ?_
    rintro m ⟨y2, y3, y4, y5, y6, y7⟩ h
    cases m with
    | zero => exact nomatch h
    | succ n =>
      rw [L_simple_Box_0] at h
      refine .seq ?_
      refine .rgI rfl ?_
      refine .seg tabOk 0 1 [2, 3, 4, 10, 11, 12, 13] [32, 48] (t := [(2, (.ptr (32, 1) 0)), (3, (.ptr (48, 1) 0)), (4, (.val (.bool y7))), (q30_0 a0), (q30_1 a0), (12, (vI y6)), (13, (.val (.bool (decide (y6 < (a0.length : Int))))))]) (h := [(32, ⟨1, .live, false, [(vI y2), (vI y3)]⟩), (48, ⟨1, .live, false, [(vI y4), (vI y5)]⟩)]) (ep := 9) (by kernel_rfl) ?_
      refine .fin rfl ?_
      refine sqN ?_
      refine .seq ?_
      refine .cond (decide (y6 < (a0.length : Int))) rfl (fun hc8 => ?_) (fun hc8 => ?_)
      · have h := iT h hc8
        refine .skip ?_
        refine sqN ?_
        refine .seq ?_
        obtain ⟨j9, hj9, h⟩ := ljS h
        refine .join (fun s' => ∃ x26 x27 x28 x29 x30, s' = ⟨[(2, (.ptr (32, 1) 0)), (3, (.ptr (48, 1) 0)), (4, (.val (.bool x30))), (q30_0 a0), (q30_1 a0), (12, (vI y6))], [(32, ⟨1, .live, false, [(vI x26), (vI x27)]⟩), (48, ⟨1, .live, false, [(vI x28), (vI x29)]⟩)], 18⟩ ∧ j9 x26 x27 x28 x29 x30 = some r) ?_ ?_
        · refine .block ?_
          refine .seq ?_
          refine .rgI rfl ?_
          obtain ⟨hb10, h⟩ := gS h
          refine .o tabOk rfl rfl rfl (q_idx E_LSiibe rfl rfl rfl rfl rfl rfl hb10) ?_
          refine .o tabOk rfl rfl rfl (q_ld0 E_LSiibe rfl rfl rfl hb10 rfl) ?_
          refine .seg tabOk 2 1 [2, 3, 4, 6, 10, 11, 12] [32, 48] (t := [(2, (.ptr (32, 1) 0)), (3, (.ptr (48, 1) 0)), (4, (.val (.bool y7))), (6, (.ro 3 (nth E_LSiibe a0 y6).length (flat E_Siibe (nth E_LSiibe a0 y6)))), (q30_0 a0), (q30_1 a0), (12, (vI y6))]) (h := [(32, ⟨1, .live, false, [(vI y2), (vI y3)]⟩), (48, ⟨1, .live, false, [(vI y4), (vI y5)]⟩)]) (ep := 11) (by kernel_rfl) ?_
          refine .fin rfl ?_
          refine sqN ?_
          refine .seq ?_
          refine .rgI rfl ?_
          refine .seg tabOk 0 3 [2, 3, 4, 10, 11, 12, 16, 17, 18] [32, 48] (t := [(2, (.ptr (32, 1) 0)), (3, (.ptr (48, 1) 0)), (4, (.val (.bool y7))), (q30_0 a0), (q30_1 a0), (12, (vI y6)), (16, (.ro 3 (nth E_LSiibe a0 y6).length (flat E_Siibe (nth E_LSiibe a0 y6)))), (17, (vI ((nth E_LSiibe a0 y6).length : Int))), (18, (vI 0))]) (h := [(32, ⟨1, .live, false, [(vI y2), (vI y3)]⟩), (48, ⟨1, .live, false, [(vI y4), (vI y5)]⟩)]) (ep := 13) (by kernel_rfl) ?_
          refine .fin rfl ?_
          refine sqN ?_
          obtain ⟨j11, hj11, h⟩ := ljS h
          refine .join (fun s' => ∃ x21 x22 x23 x24 x25, s' = ⟨[(2, (.ptr (32, 1) 0)), (3, (.ptr (48, 1) 0)), (4, (.val (.bool x25))), (q30_0 a0), (q30_1 a0), (12, (vI y6))], [(32, ⟨1, .live, false, [(vI x21), (vI x22)]⟩), (48, ⟨1, .live, false, [(vI x23), (vI x24)]⟩)], 17⟩ ∧ j11 x21 x22 x23 x24 x25 = some r) ?_ ?_
          · refine .block ?_
            refine .loopF (β := Int × Int × Int × Int × Int × Bool) (fun v => ⟨[(2, (.ptr (32, 1) 0)), (3, (.ptr (48, 1) 0)), (4, (.val (.bool v.2.2.2.2.2))), (q30_0 a0), (q30_1 a0), (12, (vI y6)), (16, (.ro 3 (nth E_LSiibe a0 y6).length (flat E_Siibe (nth E_LSiibe a0 y6)))), (17, (vI ((nth E_LSiibe a0 y6).length : Int))), (18, (vI v.2.2.2.2.1))], [(32, ⟨1, .live, false, [(vI v.1), (vI v.2.1)]⟩), (48, ⟨1, .live, false, [(vI v.2.2.1), (vI v.2.2.2.1)]⟩)], 14⟩) (fun m v => L_simple_Box_1 a0 y6 j11 m v.1 v.2.1 v.2.2.1 v.2.2.2.1 v.2.2.2.2.1 v.2.2.2.2.2 = some r) n (y2, y3, y4, y5, 0, y7) (by exact .tn [((32, 1), (32, 1)), ((48, 1), (48, 1))] ⟨rfl, rfl, rfl, rfl, rfl, rfl, rfl, rfl, rfl, trivial⟩ ⟨rfl, ⟨_, rfl, rfl⟩, ⟨rfl, ⟨_, rfl, rfl⟩, trivial⟩⟩ rfl) h ?_
            rintro m ⟨y12, y13, y14, y15, y16, y17⟩ h
            cases m with
            | zero => exact nomatch h
            | succ n =>
              rw [L_simple_Box_1] at h
              refine .seq ?_
              refine .rgI rfl ?_
              refine .seg tabOk 0 1 [2, 3, 4, 10, 11, 12, 16, 17, 18, 19] [32, 48] (t := [(2, (.ptr (32, 1) 0)), (3, (.ptr (48, 1) 0)), (4, (.val (.bool y17))), (q30_0 a0), (q30_1 a0), (12, (vI y6)), (16, (.ro 3 (nth E_LSiibe a0 y6).length (flat E_Siibe (nth E_LSiibe a0 y6)))), (17, (vI ((nth E_LSiibe a0 y6).length : Int))), (18, (vI y16)), (19, (.val (.bool (decide (y16 < ((nth E_LSiibe a0 y6).length : Int))))))]) (h := [(q30_2 y12 y13), (48, ⟨1, .live, false, [(vI y14), (vI y15)]⟩)]) (ep := 16) (by kernel_rfl) ?_
              refine .fin rfl ?_
              refine sqN ?_
              refine .seq ?_
              refine .cond (decide (y16 < ((nth E_LSiibe a0 y6).length : Int))) rfl (fun hc18 => ?_) (fun hc18 => ?_)
              · have h := iT h hc18
                refine .skip ?_
                refine sqN ?_
                refine .seq ?_
                refine .block ?_
                refine .seq ?_
                refine .rgI rfl ?_
                obtain ⟨hb19, h⟩ := gS h
                refine .o tabOk rfl rfl rfl (q_idx E_Siibe rfl rfl rfl rfl rfl rfl hb19) ?_
                refine .o tabOk rfl rfl rfl (q_ld0 E_Siibe rfl rfl rfl hb19 rfl) ?_
                refine .seg tabOk 2 2 [2, 3, 4, 8, 10, 11, 12, 16, 17, 18] [32, 48, 128] (t := [(2, (.ptr (32, 1) 0)), (3, (.ptr (48, 1) 0)), (4, (.val (.bool y17))), (8, (.ptr (128, 17) 0)), (q30_0 a0), (q30_1 a0), (12, (vI y6)), (16, (.ro 3 (nth E_LSiibe a0 y6).length (flat E_Siibe (nth E_LSiibe a0 y6)))), (17, (vI ((nth E_LSiibe a0 y6).length : Int))), (18, (vI y16))]) (h := [(q30_2 y12 y13), (48, ⟨1, .live, false, [(vI y14), (vI y15)]⟩), (128, ⟨17, .live, false, [(vI (nth E_Siibe (nth E_LSiibe a0 y6) y16).f0), (vI (nth E_Siibe (nth E_LSiibe a0 y6) y16).f1), (.val (.bool (nth E_Siibe (nth E_LSiibe a0 y6) y16).f2))]⟩)]) (ep := 18) (by kernel_rfl) ?_
                refine .fin rfl ?_
                refine sqN ?_
                refine .seq ?_
                refine .rgI rfl ?_
                refine .seg tabOk 0 7 [2, 3, 4, 9, 10, 11, 12, 16, 17, 18] [32, 48, 144] (t := [(2, (.ptr (32, 1) 0)), (3, (.ptr (48, 1) 0)), (4, (.val (.bool y17))), (9, (.ptr (144, 19) 0)), (q30_0 a0), (q30_1 a0), (12, (vI y6)), (16, (.ro 3 (nth E_LSiibe a0 y6).length (flat E_Siibe (nth E_LSiibe a0 y6)))), (17, (vI ((nth E_LSiibe a0 y6).length : Int))), (18, (vI y16))]) (h := [(q30_2 y12 y13), (48, ⟨1, .live, false, [(vI y14), (vI y15)]⟩), (144, ⟨19, .live, false, [(vI (nth E_Siibe (nth E_LSiibe a0 y6) y16).f0), (vI (nth E_Siibe (nth E_LSiibe a0 y6) y16).f1)]⟩)]) (ep := 20) (by kernel_rfl) ?_
                refine .fin rfl ?_
                refine sqN ?_
                refine .seq ?_
                refine .seq ?_
                refine .rgI rfl ?_
                refine .seg tabOk 0 2 [2, 3, 4, 9, 10, 11, 12, 16, 17, 18, 28] [32, 48, 144] (t := [(2, (.ptr (32, 1) 0)), (3, (.ptr (48, 1) 0)), (4, (.val (.bool y17))), (9, (.ptr (144, 19) 0)), (q30_0 a0), (q30_1 a0), (12, (vI y6)), (16, (.ro 3 (nth E_LSiibe a0 y6).length (flat E_Siibe (nth E_LSiibe a0 y6)))), (17, (vI ((nth E_LSiibe a0 y6).length : Int))), (18, (vI y16)), (28, (.val (.bool (!y17))))]) (h := [(q30_2 y12 y13), (48, ⟨1, .live, false, [(vI y14), (vI y15)]⟩), (144, ⟨19, .live, false, [(vI (nth E_Siibe (nth E_LSiibe a0 y6) y16).f0), (vI (nth E_Siibe (nth E_LSiibe a0 y6) y16).f1)]⟩)]) (ep := 22) (by kernel_rfl) ?_
                refine .fin rfl ?_
                refine sqN ?_
                refine .join (fun s' => s' = ⟨[(2, (.ptr (32, 1) 0)), (3, (.ptr (48, 1) 0)), (4, (.val (.bool ((!y17) || y17)))), (9, (.ptr (144, 19) 0)), (q30_0 a0), (q30_1 a0), (12, (vI y6)), (16, (.ro 3 (nth E_LSiibe a0 y6).length (flat E_Siibe (nth E_LSiibe a0 y6)))), (17, (vI ((nth E_LSiibe a0 y6).length : Int))), (18, (vI y16))], [(32, ⟨1, .live, false, [(vI (if (!y17) then (nth E_Siibe (nth E_LSiibe a0 y6) y16).f0 else y12)), (vI (if (!y17) then (nth E_Siibe (nth E_LSiibe a0 y6) y16).f1 else y13))]⟩), (48, ⟨1, .live, false, [(vI (if (!y17) then (nth E_Siibe (nth E_LSiibe a0 y6) y16).f0 else y14)), (vI (if (!y17) then (nth E_Siibe (nth E_LSiibe a0 y6) y16).f1 else y15))]⟩), (144, ⟨19, .live, false, [(vI (nth E_Siibe (nth E_LSiibe a0 y6) y16).f0), (vI (nth E_Siibe (nth E_LSiibe a0 y6) y16).f1)]⟩)], 25⟩) ?_ ?_
                · refine .cond (!y17) rfl (fun hc20 => ?_) (fun hc20 => ?_)
                  · skip
                    refine .rgD rfl ?_
                    refine .seg tabOk 0 5 [2, 3, 4, 9, 10, 11, 12, 16, 17, 18] [32, 48, 144] (t := [(2, (.ptr (32, 1) 0)), (3, (.ptr (48, 1) 0)), (4, (.val (.bool true))), (9, (.ptr (144, 19) 0)), (q30_0 a0), (q30_1 a0), (12, (vI y6)), (16, (.ro 3 (nth E_LSiibe a0 y6).length (flat E_Siibe (nth E_LSiibe a0 y6)))), (17, (vI ((nth E_LSiibe a0 y6).length : Int))), (18, (vI y16))]) (h := [(32, ⟨1, .live, false, [(vI (nth E_Siibe (nth E_LSiibe a0 y6) y16).f0), (vI (nth E_Siibe (nth E_LSiibe a0 y6) y16).f1)]⟩), (48, ⟨1, .live, false, [(vI (nth E_Siibe (nth E_LSiibe a0 y6) y16).f0), (vI (nth E_Siibe (nth E_LSiibe a0 y6) y16).f1)]⟩), (144, ⟨19, .live, false, [(vI (nth E_Siibe (nth E_LSiibe a0 y6) y16).f0), (vI (nth E_Siibe (nth E_LSiibe a0 y6) y16).f1)]⟩)]) (ep := 23) (by kernel_rfl) ?_
                    refine .fin mixed [2, 3, 4, 9, 10, 11, 12, 16, 17, 18] [32, 48, 144] (t := [(2, (.ptr (32, 1) 0)), (3, (.ptr (48, 1) 0)), (4, (.val (.bool true))), (9, (.ptr (144, 19) 0)), (q30_0 a0), (q30_1 a0), (12, (vI y6)), (16, (.ro 3 (nth E_LSiibe a0 y6).length (flat E_Siibe (nth E_LSiibe a0 y6)))), (17, (vI ((nth E_LSiibe a0 y6).length : Int))), (18, (vI y16))]) (h := [(32, ⟨1, .live, false, [(vI (nth E_Siibe (nth E_LSiibe a0 y6) y16).f0), (vI (nth E_Siibe (nth E_LSiibe a0 y6) y16).f1)]⟩), (48, ⟨1, .live, false, [(vI (nth E_Siibe (nth E_LSiibe a0 y6) y16).f0), (vI (nth E_Siibe (nth E_LSiibe a0 y6) y16).f1)]⟩), (144, ⟨19, .live, false, [(vI (nth E_Siibe (nth E_LSiibe a0 y6) y16).f0), (vI (nth E_Siibe (nth E_LSiibe a0 y6) y16).f1)]⟩)]) (ep := 24) rfl (by kernel_rfl) rfl ?_
                    exact jkN (by exact .tn [((32, 1), (32, 1)), ((48, 1), (48, 1)), ((144, 19), (144, 19))] ⟨(by (try rw [hc20]); rfl), (by (try rw [hc20]); rfl), (by (try rw [hc20]); rfl), (by (try rw [hc20]); rfl), (by (try rw [hc20]); rfl), (by (try rw [hc20]); rfl), (by (try rw [hc20]); rfl), (by (try rw [hc20]); rfl), (by (try rw [hc20]); rfl), (by (try rw [hc20]); rfl), trivial⟩ ⟨rfl, ⟨_, rfl, (by (try rw [hc20]); exact rfl)⟩, ⟨rfl, ⟨_, rfl, (by (try rw [hc20]); exact rfl)⟩, ⟨rfl, ⟨_, rfl, (by (try rw [hc20]); exact rfl)⟩, trivial⟩⟩⟩ rfl) rfl
                  · skip
                    refine .skip ?_
                    exact jkN (by exact .tn [((32, 1), (32, 1)), ((48, 1), (48, 1)), ((144, 19), (144, 19))] ⟨(by (try rw [hc20]); rfl), (by (try rw [hc20]); rfl), (by (try rw [hc20]); rfl), (by (try rw [hc20]); rfl), (by (try rw [hc20]); rfl), (by (try rw [hc20]); rfl), (by (try rw [hc20]); rfl), (by (try rw [hc20]); rfl), (by (try rw [hc20]); rfl), (by (try rw [hc20]); rfl), trivial⟩ ⟨rfl, ⟨_, rfl, (by (try rw [hc20]); exact rfl)⟩, ⟨rfl, ⟨_, rfl, (by (try rw [hc20]); exact rfl)⟩, ⟨rfl, ⟨_, rfl, (by (try rw [hc20]); exact rfl)⟩, trivial⟩⟩⟩ rfl) rfl
                · rintro _ rfl
                  refine sqN ?_
                  refine .seq ?_
                  refine .rgI rfl ?_
                  refine .seg tabOk 0 12 [2, 3, 4, 9, 10, 11, 12, 16, 17, 18] [32, 48, 144] (t := [(2, (.ptr (32, 1) 0)), (3, (.ptr (48, 1) 0)), (4, (.val (.bool ((!y17) || y17)))), (9, (.ptr (144, 19) 0)), (q30_0 a0), (q30_1 a0), (12, (vI y6)), (16, (.ro 3 (nth E_LSiibe a0 y6).length (flat E_Siibe (nth E_LSiibe a0 y6)))), (17, (vI ((nth E_LSiibe a0 y6).length : Int))), (18, (vI y16))]) (h := [(32, ⟨1, .live, false, [(vI (if (nth E_Siibe (nth E_LSiibe a0 y6) y16).f0 < (if (!y17) then (nth E_Siibe (nth E_LSiibe a0 y6) y16).f0 else y12) then (nth E_Siibe (nth E_LSiibe a0 y6) y16).f0 else (if (!y17) then (nth E_Siibe (nth E_LSiibe a0 y6) y16).f0 else y12))), (vI (if (nth E_Siibe (nth E_LSiibe a0 y6) y16).f1 < (if (!y17) then (nth E_Siibe (nth E_LSiibe a0 y6) y16).f1 else y13) then (nth E_Siibe (nth E_LSiibe a0 y6) y16).f1 else (if (!y17) then (nth E_Siibe (nth E_LSiibe a0 y6) y16).f1 else y13)))]⟩), (48, ⟨1, .live, false, [(vI (if (!y17) then (nth E_Siibe (nth E_LSiibe a0 y6) y16).f0 else y14)), (vI (if (!y17) then (nth E_Siibe (nth E_LSiibe a0 y6) y16).f1 else y15))]⟩), (144, ⟨19, .live, false, [(vI (nth E_Siibe (nth E_LSiibe a0 y6) y16).f0), (vI (nth E_Siibe (nth E_LSiibe a0 y6) y16).f1)]⟩)]) (ep := 27) (by kernel_rfl) ?_
                  refine .fin rfl ?_
                  refine sqN ?_
                  refine .rgI rfl ?_
                  refine .seg tabOk 0 12 [2, 3, 4, 10, 11, 12, 16, 17, 18] [32, 48] (t := [(2, (.ptr (32, 1) 0)), (3, (.ptr (48, 1) 0)), (4, (.val (.bool ((!y17) || y17)))), (q30_0 a0), (q30_1 a0), (12, (vI y6)), (16, (.ro 3 (nth E_LSiibe a0 y6).length (flat E_Siibe (nth E_LSiibe a0 y6)))), (17, (vI ((nth E_LSiibe a0 y6).length : Int))), (18, (vI y16))]) (h := [(32, ⟨1, .live, false, [(vI (if (nth E_Siibe (nth E_LSiibe a0 y6) y16).f0 < (if (!y17) then (nth E_Siibe (nth E_LSiibe a0 y6) y16).f0 else y12) then (nth E_Siibe (nth E_LSiibe a0 y6) y16).f0 else (if (!y17) then (nth E_Siibe (nth E_LSiibe a0 y6) y16).f0 else y12))), (vI (if (nth E_Siibe (nth E_LSiibe a0 y6) y16).f1 < (if (!y17) then (nth E_Siibe (nth E_LSiibe a0 y6) y16).f1 else y13) then (nth E_Siibe (nth E_LSiibe a0 y6) y16).f1 else (if (!y17) then (nth E_Siibe (nth E_LSiibe a0 y6) y16).f1 else y13)))]⟩), (48, ⟨1, .live, false, [(vI (if (nth E_Siibe (nth E_LSiibe a0 y6) y16).f0 > (if (!y17) then (nth E_Siibe (nth E_LSiibe a0 y6) y16).f0 else y14) then (nth E_Siibe (nth E_LSiibe a0 y6) y16).f0 else (if (!y17) then (nth E_Siibe (nth E_LSiibe a0 y6) y16).f0 else y14))), (vI (if (nth E_Siibe (nth E_LSiibe a0 y6) y16).f1 > (if (!y17) then (nth E_Siibe (nth E_LSiibe a0 y6) y16).f1 else y15) then (nth E_Siibe (nth E_LSiibe a0 y6) y16).f1 else (if (!y17) then (nth E_Siibe (nth E_LSiibe a0 y6) y16).f1 else y15)))]⟩)]) (ep := 29) (by kernel_rfl) ?_
                  refine .fin rfl ?_
                  refine bkN ?_
                  refine sqN ?_
                  refine .rgI rfl ?_
                  refine .seg tabOk 0 2 [2, 3, 4, 10, 11, 12, 16, 17, 18] [32, 48] (t := [(2, (.ptr (32, 1) 0)), (3, (.ptr (48, 1) 0)), (4, (.val (.bool ((!y17) || y17)))), (q30_0 a0), (q30_1 a0), (12, (vI y6)), (16, (.ro 3 (nth E_LSiibe a0 y6).length (flat E_Siibe (nth E_LSiibe a0 y6)))), (17, (vI ((nth E_LSiibe a0 y6).length : Int))), (18, (vI (w64 (y16 + 1))))]) (h := [(32, ⟨1, .live, false, [(vI (if (nth E_Siibe (nth E_LSiibe a0 y6) y16).f0 < (if (!y17) then (nth E_Siibe (nth E_LSiibe a0 y6) y16).f0 else y12) then (nth E_Siibe (nth E_LSiibe a0 y6) y16).f0 else (if (!y17) then (nth E_Siibe (nth E_LSiibe a0 y6) y16).f0 else y12))), (vI (if (nth E_Siibe (nth E_LSiibe a0 y6) y16).f1 < (if (!y17) then (nth E_Siibe (nth E_LSiibe a0 y6) y16).f1 else y13) then (nth E_Siibe (nth E_LSiibe a0 y6) y16).f1 else (if (!y17) then (nth E_Siibe (nth E_LSiibe a0 y6) y16).f1 else y13)))]⟩), (48, ⟨1, .live, false, [(vI (if (nth E_Siibe (nth E_LSiibe a0 y6) y16).f0 > (if (!y17) then (nth E_Siibe (nth E_LSiibe a0 y6) y16).f0 else y14) then (nth E_Siibe (nth E_LSiibe a0 y6) y16).f0 else (if (!y17) then (nth E_Siibe (nth E_LSiibe a0 y6) y16).f0 else y14))), (vI (if (nth E_Siibe (nth E_LSiibe a0 y6) y16).f1 > (if (!y17) then (nth E_Siibe (nth E_LSiibe a0 y6) y16).f1 else y15) then (nth E_Siibe (nth E_LSiibe a0 y6) y16).f1 else (if (!y17) then (nth E_Siibe (nth E_LSiibe a0 y6) y16).f1 else y15)))]⟩)]) (ep := 31) (by kernel_rfl) ?_
                  refine .fin rfl ?_
                  exact jkN (by exact .tn [((32, 1), (32, 1)), ((48, 1), (48, 1))] ⟨rfl, rfl, rfl, rfl, rfl, rfl, rfl, rfl, rfl, trivial⟩ ⟨rfl, ⟨_, rfl, rfl⟩, ⟨rfl, ⟨_, rfl, rfl⟩, trivial⟩⟩ rfl) ⟨n, ((if (nth E_Siibe (nth E_LSiibe a0 y6) y16).f0 < (if (!y17) then (nth E_Siibe (nth E_LSiibe a0 y6) y16).f0 else y12) then (nth E_Siibe (nth E_LSiibe a0 y6) y16).f0 else (if (!y17) then (nth E_Siibe (nth E_LSiibe a0 y6) y16).f0 else y12)), (if (nth E_Siibe (nth E_LSiibe a0 y6) y16).f1 < (if (!y17) then (nth E_Siibe (nth E_LSiibe a0 y6) y16).f1 else y13) then (nth E_Siibe (nth E_LSiibe a0 y6) y16).f1 else (if (!y17) then (nth E_Siibe (nth E_LSiibe a0 y6) y16).f1 else y13)), (if (nth E_Siibe (nth E_LSiibe a0 y6) y16).f0 > (if (!y17) then (nth E_Siibe (nth E_LSiibe a0 y6) y16).f0 else y14) then (nth E_Siibe (nth E_LSiibe a0 y6) y16).f0 else (if (!y17) then (nth E_Siibe (nth E_LSiibe a0 y6) y16).f0 else y14)), (if (nth E_Siibe (nth E_LSiibe a0 y6) y16).f1 > (if (!y17) then (nth E_Siibe (nth E_LSiibe a0 y6) y16).f1 else y15) then (nth E_Siibe (nth E_LSiibe a0 y6) y16).f1 else (if (!y17) then (nth E_Siibe (nth E_LSiibe a0 y6) y16).f1 else y15)), (w64 (y16 + 1)), ((!y17) || y17)), Nat.lt_succ_self n, rfl, h⟩
              · have h := iF h hc18
                refine .exit ?_
                refine sqX ?_
                refine jkX ?_
                refine bkE ?_
                exact jkN (by exact .tn [((32, 1), (32, 1)), ((48, 1), (48, 1))] ⟨rfl, rfl, rfl, rfl, rfl, rfl, trivial⟩ ⟨rfl, ⟨_, rfl, rfl⟩, ⟨rfl, ⟨_, rfl, rfl⟩, trivial⟩⟩ rfl) ⟨_, _, _, _, _, rfl, h⟩
          · rintro _ ⟨x21, x22, x23, x24, x25, rfl, h⟩
            subst hj11
            refine bkN ?_
            exact jkN (by exact .tn [((32, 1), (32, 1)), ((48, 1), (48, 1))] ⟨rfl, rfl, rfl, rfl, rfl, rfl, trivial⟩ ⟨rfl, ⟨_, rfl, rfl⟩, ⟨rfl, ⟨_, rfl, rfl⟩, trivial⟩⟩ rfl) ⟨_, _, _, _, _, rfl, h⟩
        · rintro _ ⟨x26, x27, x28, x29, x30, rfl, h⟩
          subst hj9
          refine sqN ?_
          refine .rgI rfl ?_
          refine .seg tabOk 0 2 [2, 3, 4, 10, 11, 12] [32, 48] (t := [(2, (.ptr (32, 1) 0)), (3, (.ptr (48, 1) 0)), (4, (.val (.bool x30))), (q30_0 a0), (q30_1 a0), (12, (vI (w64 (y6 + 1))))]) (h := [(32, ⟨1, .live, false, [(vI x26), (vI x27)]⟩), (48, ⟨1, .live, false, [(vI x28), (vI x29)]⟩)]) (ep := 20) (by kernel_rfl) ?_
          refine .fin rfl ?_
          exact jkN (by exact .tn [((32, 1), (32, 1)), ((48, 1), (48, 1))] ⟨rfl, rfl, rfl, rfl, rfl, rfl, trivial⟩ ⟨rfl, ⟨_, rfl, rfl⟩, ⟨rfl, ⟨_, rfl, rfl⟩, trivial⟩⟩ rfl) ⟨n, (x26, x27, x28, x29, (w64 (y6 + 1)), x30), Nat.lt_succ_self n, rfl, h⟩
      · have h := iF h hc8
        refine .exit ?_
        refine sqX ?_
        refine jkX ?_
        refine bkE ?_
        exact jkN (by exact .tn [((32, 1), (32, 1)), ((48, 1), (48, 1))] ⟨rfl, rfl, trivial⟩ ⟨rfl, ⟨_, rfl, rfl⟩, ⟨rfl, ⟨_, rfl, rfl⟩, trivial⟩⟩ rfl) ⟨_, _, _, _, rfl, h⟩
  · rintro _ ⟨x31, x32, x33, x34, rfl, h⟩
    subst hj1
    refine sqN ?_
    refine .seq ?_
    refine .rgD rfl ?_
    refine .seg tabOk 0 4 [2, 3] [32, 48] (t := [(2, (.ptr (32, 1) 0)), (3, (.ptr (48, 1) 0))]) (h := [(32, ⟨1, .live, false, [(vI x31), (vI x32)]⟩), (48, ⟨1, .live, false, [(vI x33), (vI x34)]⟩)]) (ep := 11) (by kernel_rfl) ?_
    refine .fin mixed [2, 3] [32, 48] (t := [(2, (.ptr (32, 1) 0)), (3, (.ptr (48, 1) 0))]) (h := [(32, ⟨1, .live, false, [(vI x31), (vI x32)]⟩), (48, ⟨1, .live, false, [(vI x33), (vI x34)]⟩)]) (ep := 12) rfl (by kernel_rfl) rfl ?_
    refine sqN ?_
    refine .ret ?_
    injection h with h
    subst h
    exact ⟨.inr rfl, _, _, rfl, List.nodup_nil, rfl, rfl⟩
abbrev R_be_Put := (List Int)
def L_be_Put_0 (a0 : Int) (a1 : Int) (j2 : (List Int) → Option R_be_Put) : Nat → (List Int) → Int → Option R_be_Put
  | 0, _, _ => none
  | n + 1, y3, y4 =>
    if (decide (y4 < (if (if 8 < a1 then 8 else a1) > 0 then (if 8 < a1 then 8 else a1) else 0))) then
      gd (0 ≤ (w64 (8 * y4))) <|
      gd (0 ≤ (w64 ((w64 ((if (if 8 < a1 then 8 else a1) > 0 then (if 8 < a1 then 8 else a1) else 0) - 1)) - y4)) ∧ (w64 ((w64 ((if (if 8 < a1 then 8 else a1) > 0 then (if 8 < a1 then 8 else a1) else 0) - 1)) - y4)) < y3.length) <|
      L_be_Put_0 a0 a1 j2 n (y3.set (Int.toNat (w64 ((w64 ((if (if 8 < a1 then 8 else a1) > 0 then (if 8 < a1 then 8 else a1) else 0) - 1)) - y4))) (IntKind.wrap .u8 ((Int.fdiv a0 (2 ^ (min (Int.toNat (w64 (8 * y4))) 64)))))) (w64 (y4 + 1))
    else
    j2 y3
def F_be_Put (n : Nat) (a0 : Int) (a1 : Int) : Option R_be_Put :=
  gd (0 ≤ (if (if 8 < a1 then 8 else a1) > 0 then (if 8 < a1 then 8 else a1) else 0) ∧ fits (Int.toNat (if (if 8 < a1 then 8 else a1) > 0 then (if 8 < a1 then 8 else a1) else 0)) 1 = true) <|
  lj (fun (x8 : (List Int)) =>
    some x8) fun j2 =>
  L_be_Put_0 a0 a1 j2 n (List.replicate (Int.toNat (if (if 8 < a1 then 8 else a1) > 0 then (if 8 < a1 then 8 else a1) else 0)) E_B.d) 0
theorem C_be_Put (n : Nat) (a0 : Int) (a1 : Int) (r : R_be_Put) (h : F_be_Put n a0 a1 = some r) : CallS Try.prog 41 [(vI a0), (vI a1)] (.own 1 r.length (flat E_B r)) [none, none] := by
  refine CallS.introK tabOk Try.func41 rfl Try.ntmps41 (Nat.le_of_ble_eq_true rfl) ?_
  rw [F_be_Put] at h
  refine .seq ?_
  refine .rgI rfl ?_
  refine .seg tabOk 0 1 [0, 1] [] (t := [(0, (vI a0)), (1, (vI a1))]) (h := []) (ep := 2) (by kernel_rfl) ?_
  refine .fin rfl ?_
  refine sqN ?_
  refine .seq ?_
  refine .rgI rfl ?_
  refine .seg tabOk 0 4 [0, 1] [] (t := [(0, (vI a0)), (1, (vI (if (if 8 < a1 then 8 else a1) > 0 then (if 8 < a1 then 8 else a1) else 0)))]) (h := []) (ep := 4) (by kernel_rfl) ?_
  refine .fin rfl ?_
  refine sqN ?_
  refine .seq ?_
  refine .rgI rfl ?_
  refine .seg tabOk 0 1 [0, 1, 10] [] (t := [(0, (vI a0)), (1, (vI (if (if 8 < a1 then 8 else a1) > 0 then (if 8 < a1 then 8 else a1) else 0))), (10, (vI (if (if 8 < a1 then 8 else a1) > 0 then (if 8 < a1 then 8 else a1) else 0)))]) (h := []) (ep := 6) (by kernel_rfl) ?_
  obtain ⟨hb1, h⟩ := gS h
  refine .oo tabOk rfl rfl rfl (q_mk E_B rfl rfl rfl rfl rfl rfl rfl hb1) ?_
  refine .seg tabOk 2 1 [0, 1, 5] [176] (t := [(0, (vI a0)), (1, (vI (if (if 8 < a1 then 8 else a1) > 0 then (if 8 < a1 then 8 else a1) else 0))), (5, (.sref (176, 6) 0 (List.replicate (Int.toNat (if (if 8 < a1 then 8 else a1) > 0 then (if 8 < a1 then 8 else a1) else 0)) E_B.d).length 1))]) (h := [(176, ⟨6, .live, true, flat E_B (List.replicate (Int.toNat (if (if 8 < a1 then 8 else a1) > 0 then (if 8 < a1 then 8 else a1) else 0)) E_B.d)⟩)]) (ep := 7) (by kernel_rfl) ?_
  refine .fin rfl ?_
  refine sqN ?_
  refine .seq ?_
  refine .seq ?_
  refine .rgI rfl ?_
  refine .seg tabOk 0 2 [0, 1, 5, 12, 13] [176] (t := [(0, (vI a0)), (1, (vI (if (if 8 < a1 then 8 else a1) > 0 then (if 8 < a1 then 8 else a1) else 0))), (5, (.sref (176, 6) 0 (List.replicate (Int.toNat (if (if 8 < a1 then 8 else a1) > 0 then (if 8 < a1 then 8 else a1) else 0)) E_B.d).length 1)), (12, (vI (if (if 8 < a1 then 8 else a1) > 0 then (if 8 < a1 then 8 else a1) else 0))), (13, (vI 0))]) (h := [(176, ⟨6, .live, true, flat E_B (List.replicate (Int.toNat (if (if 8 < a1 then 8 else a1) > 0 then (if 8 < a1 then 8 else a1) else 0)) E_B.d)⟩)]) (ep := 9) (by kernel_rfl) ?_
  refine .fin rfl ?_
  refine sqN ?_
  obtain ⟨j2, hj2, h⟩ := ljS h
  refine .join (fun s' => ∃ x8, s' = ⟨[(5, (.sref (176, 6) 0 x8.length 1))], [(176, ⟨6, .live, true, flat E_B x8⟩)], 13⟩ ∧ j2 x8 = some r) ?_ ?_
  · refine .block ?_
    refine .loopF (β := (List Int) × Int) (fun v => ⟨[(0, (vI a0)), (1, (vI (if (if 8 < a1 then 8 else a1) > 0 then (if 8 < a1 then 8 else a1) else 0))), (5, (.sref (176, 6) 0 v.1.length 1)), (12, (vI (if (if 8 < a1 then 8 else a1) > 0 then (if 8 < a1 then 8 else a1) else 0))), (13, (vI v.2))], [(176, ⟨6, .live, true, flat E_B v.1⟩)], 10⟩) (fun m v => L_be_Put_0 a0 a1 j2 m v.1 v.2 = some r) n ((List.replicate (Int.toNat (if (if 8 < a1 then 8 else a1) > 0 then (if 8 < a1 then 8 else a1) else 0)) E_B.d), 0) (by exact .tn [((176, 6), (176, 6))] ⟨rfl, rfl, rfl, rfl, rfl, trivial⟩ ⟨rfl, ⟨_, rfl, ah_row E_B⟩, trivial⟩ rfl) h ?_
    rintro m ⟨y3, y4⟩ h
    cases m with
    | zero => exact nomatch h
    | succ n =>
      rw [L_be_Put_0] at h
      refine .seq ?_
      refine .rgI rfl ?_
      refine .seg tabOk 0 1 [0, 1, 5, 12, 13, 14] [176] (t := [(0, (vI a0)), (1, (vI (if (if 8 < a1 then 8 else a1) > 0 then (if 8 < a1 then 8 else a1) else 0))), (5, (.sref (176, 6) 0 y3.length 1)), (12, (vI (if (if 8 < a1 then 8 else a1) > 0 then (if 8 < a1 then 8 else a1) else 0))), (13, (vI y4)), (14, (.val (.bool (decide (y4 < (if (if 8 < a1 then 8 else a1) > 0 then (if 8 < a1 then 8 else a1) else 0))))))]) (h := [(176, ⟨6, .live, true, flat E_B y3⟩)]) (ep := 12) (by kernel_rfl) ?_
      refine .fin rfl ?_
      refine sqN ?_
      refine .seq ?_
      refine .cond (decide (y4 < (if (if 8 < a1 then 8 else a1) > 0 then (if 8 < a1 then 8 else a1) else 0))) rfl (fun hc5 => ?_) (fun hc5 => ?_)
      · have h := iT h hc5
        refine .skip ?_
        refine sqN ?_
        refine .seq ?_
        refine .block ?_
        refine .seq ?_
        refine .rgI rfl ?_
        refine .seg tabOk 0 2 [0, 1, 5, 6, 12, 13] [176] (t := [(0, (vI a0)), (1, (vI (if (if 8 < a1 then 8 else a1) > 0 then (if 8 < a1 then 8 else a1) else 0))), (5, (.sref (176, 6) 0 y3.length 1)), (6, (vI y4)), (12, (vI (if (if 8 < a1 then 8 else a1) > 0 then (if 8 < a1 then 8 else a1) else 0))), (13, (vI y4))]) (h := [(176, ⟨6, .live, true, flat E_B y3⟩)]) (ep := 14) (by kernel_rfl) ?_
        refine .fin rfl ?_
        refine sqN ?_
        refine .rgI rfl ?_
        refine .seg tabOk 0 8 [0, 1, 5, 12, 13, 16, 20, 21, 23] [176] (t := [(0, (vI a0)), (1, (vI (if (if 8 < a1 then 8 else a1) > 0 then (if 8 < a1 then 8 else a1) else 0))), (5, (.sref (176, 6) 0 y3.length 1)), (12, (vI (if (if 8 < a1 then 8 else a1) > 0 then (if 8 < a1 then 8 else a1) else 0))), (13, (vI y4)), (16, (.sref (176, 6) 0 y3.length 1)), (20, (vI (w64 ((w64 ((if (if 8 < a1 then 8 else a1) > 0 then (if 8 < a1 then 8 else a1) else 0) - 1)) - y4)))), (21, (vI a0)), (23, (vI (w64 (8 * y4))))]) (h := [(176, ⟨6, .live, true, flat E_B y3⟩)]) (ep := 16) (by kernel_rfl) ?_
        obtain ⟨hb6, h⟩ := gS h
        refine .o tabOk rfl rfl rfl (q_shr rfl rfl hb6) ?_
        refine .seg tabOk 9 1 [0, 1, 5, 12, 13, 16, 20, 25] [176] (t := [(0, (vI a0)), (1, (vI (if (if 8 < a1 then 8 else a1) > 0 then (if 8 < a1 then 8 else a1) else 0))), (5, (.sref (176, 6) 0 y3.length 1)), (12, (vI (if (if 8 < a1 then 8 else a1) > 0 then (if 8 < a1 then 8 else a1) else 0))), (13, (vI y4)), (16, (.sref (176, 6) 0 y3.length 1)), (20, (vI (w64 ((w64 ((if (if 8 < a1 then 8 else a1) > 0 then (if 8 < a1 then 8 else a1) else 0) - 1)) - y4)))), (25, (.val (.int .u8 (IntKind.wrap .u8 ((Int.fdiv a0 (2 ^ (min (Int.toNat (w64 (8 * y4))) 64))))))))]) (h := [(176, ⟨6, .live, true, flat E_B y3⟩)]) (ep := 17) (by kernel_rfl) ?_
        obtain ⟨hb7, h⟩ := gS h
        refine .oo tabOk rfl rfl rfl (q_idxS E_B (l := y3) rfl rfl rfl rfl rfl rfl rfl rfl hb7) ?_
        refine .oo tabOk rfl rfl rfl (q_stS E_B (l := y3) (v := (IntKind.wrap .u8 ((Int.fdiv a0 (2 ^ (min (Int.toNat (w64 (8 * y4))) 64)))))) rfl rfl rfl rfl rfl rfl rfl rfl hb7) ?_
        refine .seg tabOk 12 0 [0, 1, 5, 12, 13] [176] (t := [(0, (vI a0)), (1, (vI (if (if 8 < a1 then 8 else a1) > 0 then (if 8 < a1 then 8 else a1) else 0))), (5, (.sref (176, 6) 0 y3.length 1)), (12, (vI (if (if 8 < a1 then 8 else a1) > 0 then (if 8 < a1 then 8 else a1) else 0))), (13, (vI y4))]) (h := [(176, ⟨6, .live, true, flat E_B (y3.set (Int.toNat (w64 ((w64 ((if (if 8 < a1 then 8 else a1) > 0 then (if 8 < a1 then 8 else a1) else 0) - 1)) - y4))) (IntKind.wrap .u8 ((Int.fdiv a0 (2 ^ (min (Int.toNat (w64 (8 * y4))) 64))))))⟩)]) (ep := 18) (by kernel_rfl) ?_
        refine .fin rfl ?_
        refine bkN ?_
        refine sqN ?_
        refine .rgI rfl ?_
        refine .seg tabOk 0 2 [0, 1, 5, 12, 13] [176] (t := [(0, (vI a0)), (1, (vI (if (if 8 < a1 then 8 else a1) > 0 then (if 8 < a1 then 8 else a1) else 0))), (5, (.sref (176, 6) 0 y3.length 1)), (12, (vI (if (if 8 < a1 then 8 else a1) > 0 then (if 8 < a1 then 8 else a1) else 0))), (13, (vI (w64 (y4 + 1))))]) (h := [(176, ⟨6, .live, true, flat E_B (y3.set (Int.toNat (w64 ((w64 ((if (if 8 < a1 then 8 else a1) > 0 then (if 8 < a1 then 8 else a1) else 0) - 1)) - y4))) (IntKind.wrap .u8 ((Int.fdiv a0 (2 ^ (min (Int.toNat (w64 (8 * y4))) 64))))))⟩)]) (ep := 20) (by kernel_rfl) ?_
        refine .fin rfl ?_
        exact jkN (by exact .tn [((176, 6), (176, 6))] ⟨rfl, rfl, (sref_len (by simp) rfl), rfl, rfl, trivial⟩ ⟨rfl, ⟨_, rfl, ah_row E_B⟩, trivial⟩ rfl) ⟨n, ((y3.set (Int.toNat (w64 ((w64 ((if (if 8 < a1 then 8 else a1) > 0 then (if 8 < a1 then 8 else a1) else 0) - 1)) - y4))) (IntKind.wrap .u8 ((Int.fdiv a0 (2 ^ (min (Int.toNat (w64 (8 * y4))) 64)))))), (w64 (y4 + 1))), Nat.lt_succ_self n, rfl, h⟩
      · have h := iF h hc5
        refine .exit ?_
        refine sqX ?_
        refine jkX ?_
        refine bkE ?_
        exact jkN (by exact .tn [((176, 6), (176, 6))] ⟨rfl, trivial⟩ ⟨rfl, ⟨_, rfl, ah_row E_B⟩, trivial⟩ rfl) ⟨_, rfl, h⟩
  · rintro _ ⟨x8, rfl, h⟩
    subst hj2
    refine sqN ?_
    refine .seq ?_
    refine .rgI rfl ?_
    refine .seg tabOk 0 2 [4] [176] (t := [(4, (.sref (176, 6) 0 x8.length 1))]) (h := [(176, ⟨6, .live, true, flat E_B x8⟩)]) (ep := 15) (by kernel_rfl) ?_
    refine .fin rfl ?_
    refine sqN ?_
    refine .ret ?_
    injection h with h
    subst h
    exact ⟨.inr rfl, _, _, (f_cons (f_tmp rfl (o1_row E_B x8 rfl rfl rfl rfl rfl)) f_nil), nd_of rfl, rfl, rfl⟩
abbrev R_simple_ask := Int
def L_simple_ask_0 (a0 : T_SLLSiibeLBe) (j1 : Int → Option R_simple_ask) : Nat → Int → Int → Option R_simple_ask
  | 0, _, _ => none
  | n + 1, y2, y3 =>
    if (decide (y3 < (a0.f0.length : Int))) then
      gd (0 ≤ y3 ∧ y3 < a0.f0.length) <|
      if (decide (((nth E_LSiibe a0.f0 y3).length : Int) = 0)) then
        some 4
      else
      L_simple_ask_0 a0 j1 n (if 4097 < (w64 (y2 + ((nth E_LSiibe a0.f0 y3).length : Int))) then 4097 else (w64 (y2 + ((nth E_LSiibe a0.f0 y3).length : Int)))) (w64 (y3 + 1))
    else
    j1 y2
def F_simple_ask (n : Nat) (a0 : T_SLLSiibeLBe) : Option R_simple_ask :=
  lj (fun (x7 : Int) =>
    if ((decide (4096 < x7)) || (decide (65535 < (a0.f1.length : Int)))) then
      some 7
    else
    some 0) fun j1 =>
  L_simple_ask_0 a0 j1 n 0 0
abbrev q56_0 (a0 : T_SLLSiibeLBe) : Nat × Ob := (16, ⟨1, .live, false, [(.ro 1 a0.f0.length (flat E_LSiibe a0.f0)), (.ro 1 a0.f1.length (flat E_B a0.f1))]⟩)
abbrev q56_1 (a0 : T_SLLSiibeLBe) : Nat × V := (7, (.ro 1 a0.f0.length (flat E_LSiibe a0.f0)))
abbrev q56_2 (a0 : T_SLLSiibeLBe) : Nat × V := (8, (vI (a0.f0.length : Int)))
theorem C_simple_ask (n : Nat) (a0 : T_SLLSiibeLBe) (r : R_simple_ask) (h : F_simple_ask n a0 = some r) : CallS Try.prog 56 [(.agg [(.ro 1 a0.f0.length (flat E_LSiibe a0.f0)), (.ro 1 a0.f1.length (flat E_B a0.f1))])] (vI r) [none] := by
  refine CallS.introK tabOk Try.func56 rfl Try.ntmps56 (Nat.le_of_ble_eq_true rfl) ?_
  rw [F_simple_ask] at h
  refine .seq ?_
  refine .rgI rfl ?_
  refine .seg tabOk 0 2 [1] [16] (t := [(1, (.ptr (16, 1) 0))]) (h := [(q56_0 a0)]) (ep := 2) (by kernel_rfl) ?_
  refine .fin rfl ?_
  refine sqN ?_
  refine .seq ?_
  refine .rgI rfl ?_
  refine .seg tabOk 0 1 [1, 3] [16] (t := [(1, (.ptr (16, 1) 0)), (3, (vI 0))]) (h := [(q56_0 a0)]) (ep := 4) (by kernel_rfl) ?_
  refine .fin rfl ?_
  refine sqN ?_
  refine .seq ?_
  refine .seq ?_
  refine .rgI rfl ?_
  refine .seg tabOk 0 4 [1, 3, 7, 8, 9] [16] (t := [(1, (.ptr (16, 1) 0)), (3, (vI 0)), (q56_1 a0), (q56_2 a0), (9, (vI 0))]) (h := [(q56_0 a0)]) (ep := 6) (by kernel_rfl) ?_
  refine .fin rfl ?_
  refine sqN ?_
  obtain ⟨j1, hj1, h⟩ := ljS h
  refine .join (fun s' => ∃ x7, s' = ⟨[(1, (.ptr (16, 1) 0)), (3, (vI x7))], [(q56_0 a0)], 10⟩ ∧ j1 x7 = some r) ?_ ?_
  · refine .block ?_
    refine .loopF (β := Int × Int) (fun v => ⟨[(1, (.ptr (16, 1) 0)), (3, (vI v.1)), (q56_1 a0), (q56_2 a0), (9, (vI v.2))], [(q56_0 a0)], 7⟩) (fun m v => L_simple_ask_0 a0 j1 m v.1 v.2 = some r) n (0, 0) (by exact .tn [((16, 1), (16, 1))] ⟨rfl, rfl, rfl, rfl, rfl, trivial⟩ ⟨rfl, ⟨_, rfl, rfl⟩, trivial⟩ rfl) h ?_
    rintro m ⟨y2, y3⟩ h
    cases m with
    | zero => exact nomatch h
    | succ n =>
      rw [L_simple_ask_0] at h
      refine .seq ?_
      refine .rgI rfl ?_
      refine .seg tabOk 0 1 [1, 3, 7, 8, 9, 10] [16] (t := [(1, (.ptr (16, 1) 0)), (3, (vI y2)), (q56_1 a0), (q56_2 a0), (9, (vI y3)), (10, (.val (.bool (decide (y3 < (a0.f0.length : Int))))))]) (h := [(q56_0 a0)]) (ep := 9) (by kernel_rfl) ?_
      refine .fin rfl ?_
      refine sqN ?_
      refine .seq ?_
      refine .cond (decide (y3 < (a0.f0.length : Int))) rfl (fun hc4 => ?_) (fun hc4 => ?_)
      · have h := iT h hc4
        refine .skip ?_
        refine sqN ?_
        refine .seq ?_
        refine .block ?_
        refine .seq ?_
        refine .rgI rfl ?_
        obtain ⟨hb5, h⟩ := gS h
        refine .o tabOk rfl rfl rfl (q_idx E_LSiibe rfl rfl rfl rfl rfl rfl hb5) ?_
        refine .o tabOk rfl rfl rfl (q_ld0 E_LSiibe rfl rfl rfl hb5 rfl) ?_
        refine .seg tabOk 2 1 [1, 3, 5, 7, 8, 9] [16] (t := [(1, (.ptr (16, 1) 0)), (3, (vI y2)), (5, (.ro 3 (nth E_LSiibe a0.f0 y3).length (flat E_Siibe (nth E_LSiibe a0.f0 y3)))), (q56_1 a0), (q56_2 a0), (9, (vI y3))]) (h := [(q56_0 a0)]) (ep := 11) (by kernel_rfl) ?_
        refine .fin rfl ?_
        refine sqN ?_
        refine .seq ?_
        refine .seq ?_
        refine .rgI rfl ?_
        refine .seg tabOk 0 3 [1, 3, 5, 7, 8, 9, 15] [16] (t := [(1, (.ptr (16, 1) 0)), (3, (vI y2)), (5, (.ro 3 (nth E_LSiibe a0.f0 y3).length (flat E_Siibe (nth E_LSiibe a0.f0 y3)))), (q56_1 a0), (q56_2 a0), (9, (vI y3)), (15, (.val (.bool (decide (((nth E_LSiibe a0.f0 y3).length : Int) = 0)))))]) (h := [(q56_0 a0)]) (ep := 13) (by kernel_rfl) ?_
        refine .fin rfl ?_
        refine sqN ?_
        refine .cond (decide (((nth E_LSiibe a0.f0 y3).length : Int) = 0)) rfl (fun hc6 => ?_) (fun hc6 => ?_)
        · have h := iT h hc6
          refine .seq ?_
          refine .rgI rfl ?_
          refine .seg tabOk 0 1 [2] [] (t := [(2, (vI 4))]) (h := []) (ep := 15) (by kernel_rfl) ?_
          refine .fin rfl ?_
          refine sqN ?_
          refine .ret ?_
          refine sqR ?_
          refine bkR ?_
          refine sqR ?_
          refine jkR ?_
          refine bkR ?_
          refine jkR ?_
          refine sqR ?_
          injection h with h
          subst h
          exact ⟨.inr rfl, _, _, rfl, List.nodup_nil, rfl, rfl⟩
        · have h := iF h hc6
          refine .skip ?_
          refine sqN ?_
          refine .rgI rfl ?_
          refine .seg tabOk 0 6 [1, 3, 7, 8, 9] [16] (t := [(1, (.ptr (16, 1) 0)), (3, (vI (if 4097 < (w64 (y2 + ((nth E_LSiibe a0.f0 y3).length : Int))) then 4097 else (w64 (y2 + ((nth E_LSiibe a0.f0 y3).length : Int)))))), (q56_1 a0), (q56_2 a0), (9, (vI y3))]) (h := [(q56_0 a0)]) (ep := 15) (by kernel_rfl) ?_
          refine .fin rfl ?_
          refine bkN ?_
          refine sqN ?_
          refine .rgI rfl ?_
          refine .seg tabOk 0 2 [1, 3, 7, 8, 9] [16] (t := [(1, (.ptr (16, 1) 0)), (3, (vI (if 4097 < (w64 (y2 + ((nth E_LSiibe a0.f0 y3).length : Int))) then 4097 else (w64 (y2 + ((nth E_LSiibe a0.f0 y3).length : Int)))))), (q56_1 a0), (q56_2 a0), (9, (vI (w64 (y3 + 1))))]) (h := [(q56_0 a0)]) (ep := 17) (by kernel_rfl) ?_
          refine .fin rfl ?_
          exact jkN (by exact .tn [((16, 1), (16, 1))] ⟨rfl, rfl, rfl, rfl, rfl, trivial⟩ ⟨rfl, ⟨_, rfl, rfl⟩, trivial⟩ rfl) ⟨n, ((if 4097 < (w64 (y2 + ((nth E_LSiibe a0.f0 y3).length : Int))) then 4097 else (w64 (y2 + ((nth E_LSiibe a0.f0 y3).length : Int)))), (w64 (y3 + 1))), Nat.lt_succ_self n, rfl, h⟩
      · have h := iF h hc4
        refine .exit ?_
        refine sqX ?_
        refine jkX ?_
        refine bkE ?_
        exact jkN (by exact .tn [((16, 1), (16, 1))] ⟨rfl, rfl, trivial⟩ ⟨rfl, ⟨_, rfl, rfl⟩, trivial⟩ rfl) ⟨_, rfl, h⟩
  · rintro _ ⟨x7, rfl, h⟩
    subst hj1
    refine sqN ?_
    refine .seq ?_
    refine .seq ?_
    refine .join (fun s' => s' = ⟨[(29, (.val (.bool ((decide (4096 < x7)) || (decide (65535 < (a0.f1.length : Int)))))))], [], 14⟩) ?_ ?_
    · refine .rgI rfl ?_
      refine .seg tabOk 0 3 [1, 24] [16] (t := [(1, (.ptr (16, 1) 0)), (24, (.val (.bool (decide (4096 < x7)))))]) (h := [(q56_0 a0)]) (ep := 12) (by kernel_rfl) ?_
      cases hB8 : (decide (4096 < x7)) with
      | false =>
        skip
        refine .seg tabOk 3 5 [29] [] (t := [(29, (.val (.bool (decide (65535 < (a0.f1.length : Int))))))]) (h := []) (ep := 13) (by kernel_rfl) ?_
        refine .fin rfl ?_
        exact jkN (by exact .tn [] ⟨rfl, trivial⟩ trivial rfl) rfl
      | true =>
        skip
        refine .seg tabOk 3 5 [29] [] (t := [(29, (.val (.bool true)))]) (h := []) (ep := 13) (by kernel_rfl) ?_
        refine .fin rfl ?_
        exact jkN (by exact .tn [] ⟨rfl, trivial⟩ trivial rfl) rfl
    · rintro _ rfl
      refine sqN ?_
      refine .cond ((decide (4096 < x7)) || (decide (65535 < (a0.f1.length : Int)))) rfl (fun hc9 => ?_) (fun hc9 => ?_)
      · have h := iT h hc9
        refine .seq ?_
        refine .rgI rfl ?_
        refine .seg tabOk 0 1 [2] [] (t := [(2, (vI 7))]) (h := []) (ep := 16) (by kernel_rfl) ?_
        refine .fin rfl ?_
        refine sqN ?_
        refine .ret ?_
        refine sqR ?_
        injection h with h
        subst h
        exact ⟨.inr rfl, _, _, rfl, List.nodup_nil, rfl, rfl⟩
      · have h := iF h hc9
        refine .skip ?_
        refine sqN ?_
        refine .seq ?_
        refine .rgI rfl ?_
        refine .seg tabOk 0 1 [2] [] (t := [(2, (vI 0))]) (h := []) (ep := 16) (by kernel_rfl) ?_
        refine .fin rfl ?_
        refine sqN ?_
        refine .ret ?_
        injection h with h
        subst h
        exact ⟨.inr rfl, _, _, rfl, List.nodup_nil, rfl, rfl⟩
abbrev R_simple_pack := Int × (List Int)
def F_simple_pack (n : Nat) (a0 : Int) (a1 : Int) (a2 : Int) : Option R_simple_pack :=
  if (decide (a0 = 0)) then
    some (a2, ([] : List Int))
  else
  if ((decide ((-256) < a0)) && (decide (a0 < 0))) then
    Option.bind (F_be_Put n (w64 (0 - a0)) 1) fun v4 =>
    some (a1, v4)
  else
  if ((decide (0 < a0)) && (decide (a0 < 256))) then
    Option.bind (F_be_Put n a0 1) fun v7 =>
    some ((bits .or .u8 a1 a2), v7)
  else
  Option.bind (F_be_Put n a0 2) fun v8 =>
  some (0, v8)
theorem C_simple_pack (n : Nat) (a0 : Int) (a1 : Int) (a2 : Int) (r : R_simple_pack) (h : F_simple_pack n a0 a1 a2 = some r) : CallS Try.prog 57 [(vI a0), (.val (.int .u8 a1)), (.val (.int .u8 a2))] (.tup [(.val (.int .u8 r.1)), (.own 1 r.2.length (flat E_B r.2))]) [none, none, none] := by
  refine CallS.introK tabOk Try.func57 rfl Try.ntmps57 (Nat.le_of_ble_eq_true rfl) ?_
  rw [F_simple_pack] at h
  refine .seq ?_
  refine .rgI rfl ?_
  refine .seg tabOk 0 2 [0, 1, 2] [] (t := [(0, (vI a0)), (1, (.val (.int .u8 a1))), (2, (.val (.int .u8 a2)))]) (h := []) (ep := 2) (by kernel_rfl) ?_
  refine .fin rfl ?_
  refine sqN ?_
  refine .seq ?_
  refine .block ?_
  refine .seq ?_
  refine .rgI rfl ?_
  refine .seg tabOk 0 3 [0, 1, 2, 8] [] (t := [(0, (vI a0)), (1, (.val (.int .u8 a1))), (2, (.val (.int .u8 a2))), (8, (.val (.bool (decide (a0 = 0)))))]) (h := []) (ep := 4) (by kernel_rfl) ?_
  refine .fin rfl ?_
  refine sqN ?_
  refine .cond (decide (a0 = 0)) rfl (fun hc1 => ?_) (fun hc1 => ?_)
  · have h := iT h hc1
    refine .seq ?_
    refine .rgI rfl ?_
    refine .seg tabOk 0 3 [6, 7] [] (t := [(6, (.val (.int .u8 a2))), (7, .nils)]) (h := []) (ep := 6) (by kernel_rfl) ?_
    refine .fin rfl ?_
    refine sqN ?_
    refine .pre (.nilRow 7 1 127 rfl (fresh_none rfl)) ?_
    refine .ret ?_
    refine bkR ?_
    refine sqR ?_
    injection h with h
    subst h
    exact ⟨.inr rfl, _, _, (f_cons rfl (f_cons (f_tmp rfl (o1_row E_B ([] : List Int) rfl rfl rfl rfl rfl)) f_nil)), nd_of rfl, rfl, rfl⟩
  · have h := iF h hc1
    refine .seq ?_
    refine .join (fun s' => s' = ⟨[(0, (vI a0)), (1, (.val (.int .u8 a1))), (2, (.val (.int .u8 a2))), (12, (.val (.bool ((decide ((-256) < a0)) && (decide (a0 < 0))))))], [], 8⟩) ?_ ?_
    · refine .rgI rfl ?_
      refine .seg tabOk 0 3 [0, 1, 2, 15] [] (t := [(0, (vI a0)), (1, (.val (.int .u8 a1))), (2, (.val (.int .u8 a2))), (15, (.val (.bool (decide ((-256) < a0)))))]) (h := []) (ep := 6) (by kernel_rfl) ?_
      cases hB2 : (decide ((-256) < a0)) with
      | false =>
        skip
        refine .seg tabOk 3 4 [0, 1, 2, 12] [] (t := [(0, (vI a0)), (1, (.val (.int .u8 a1))), (2, (.val (.int .u8 a2))), (12, (.val (.bool false)))]) (h := []) (ep := 7) (by kernel_rfl) ?_
        refine .fin rfl ?_
        exact jkN (by exact .tn [] ⟨rfl, rfl, rfl, rfl, trivial⟩ trivial rfl) rfl
      | true =>
        skip
        refine .seg tabOk 3 4 [0, 1, 2, 12] [] (t := [(0, (vI a0)), (1, (.val (.int .u8 a1))), (2, (.val (.int .u8 a2))), (12, (.val (.bool (decide (a0 < 0)))))]) (h := []) (ep := 7) (by kernel_rfl) ?_
        refine .fin rfl ?_
        exact jkN (by exact .tn [] ⟨rfl, rfl, rfl, rfl, trivial⟩ trivial rfl) rfl
    · rintro _ rfl
      refine sqN ?_
      refine .cond ((decide ((-256) < a0)) && (decide (a0 < 0))) rfl (fun hc3 => ?_) (fun hc3 => ?_)
      · have h := iT h hc3
        refine .seq ?_
        refine .rgI rfl ?_
        refine .seg tabOk 0 3 [19, 21] [] (t := [(19, (.val (.int .u8 a1))), (21, (vI (w64 (0 - a0))))]) (h := []) (ep := 10) (by kernel_rfl) ?_
        obtain ⟨v4, hv4, h⟩ := bS h
        refine .cc true rfl rfl (C_be_Put _ _ _ _ hv4) ent_be_Put rfl rfl rfl rfl (g_cons (g_pl rfl rfl) (g_cons (g_pl rfl rfl) g_nil)) rfl ?_
        refine .seg tabOk 4 2 [6, 7] [352] (t := [(6, (.val (.int .u8 a1))), (7, (.sref (352, 10) 0 v4.length 1))]) (h := [(352, ⟨10, .live, true, flat E_B v4⟩)]) (ep := 11) (by kernel_rfl) ?_
        refine .fin rfl ?_
        refine sqN ?_
        refine .ret ?_
        refine bkR ?_
        refine sqR ?_
        injection h with h
        subst h
        exact ⟨.inr rfl, _, _, (f_cons rfl (f_cons (f_tmp rfl (o1_row E_B v4 rfl rfl rfl rfl rfl)) f_nil)), nd_of rfl, rfl, rfl⟩
      · have h := iF h hc3
        refine .seq ?_
        refine .join (fun s' => s' = ⟨[(0, (vI a0)), (1, (.val (.int .u8 a1))), (2, (.val (.int .u8 a2))), (23, (.val (.bool ((decide (0 < a0)) && (decide (a0 < 256))))))], [], 12⟩) ?_ ?_
        · refine .rgI rfl ?_
          refine .seg tabOk 0 3 [0, 1, 2, 26] [] (t := [(0, (vI a0)), (1, (.val (.int .u8 a1))), (2, (.val (.int .u8 a2))), (26, (.val (.bool (decide (0 < a0)))))]) (h := []) (ep := 10) (by kernel_rfl) ?_
          cases hB5 : (decide (0 < a0)) with
          | false =>
            skip
            refine .seg tabOk 3 4 [0, 1, 2, 23] [] (t := [(0, (vI a0)), (1, (.val (.int .u8 a1))), (2, (.val (.int .u8 a2))), (23, (.val (.bool false)))]) (h := []) (ep := 11) (by kernel_rfl) ?_
            refine .fin rfl ?_
            exact jkN (by exact .tn [] ⟨rfl, rfl, rfl, rfl, trivial⟩ trivial rfl) rfl
          | true =>
            skip
            refine .seg tabOk 3 4 [0, 1, 2, 23] [] (t := [(0, (vI a0)), (1, (.val (.int .u8 a1))), (2, (.val (.int .u8 a2))), (23, (.val (.bool (decide (a0 < 256)))))]) (h := []) (ep := 11) (by kernel_rfl) ?_
            refine .fin rfl ?_
            exact jkN (by exact .tn [] ⟨rfl, rfl, rfl, rfl, trivial⟩ trivial rfl) rfl
        · rintro _ rfl
          refine sqN ?_
          refine .cond ((decide (0 < a0)) && (decide (a0 < 256))) rfl (fun hc6 => ?_) (fun hc6 => ?_)
          · have h := iT h hc6
            refine .seq ?_
            refine .rgI rfl ?_
            refine .seg tabOk 0 4 [32, 33] [] (t := [(32, (.val (.int .u8 (bits .or .u8 a1 a2)))), (33, (vI a0))]) (h := []) (ep := 14) (by kernel_rfl) ?_
            obtain ⟨v7, hv7, h⟩ := bS h
            refine .cc true rfl rfl (C_be_Put _ _ _ _ hv7) ent_be_Put rfl rfl rfl rfl (g_cons (g_pl rfl rfl) (g_cons (g_pl rfl rfl) g_nil)) rfl ?_
            refine .seg tabOk 5 2 [6, 7] [544] (t := [(6, (.val (.int .u8 (bits .or .u8 a1 a2)))), (7, (.sref (544, 14) 0 v7.length 1))]) (h := [(544, ⟨14, .live, true, flat E_B v7⟩)]) (ep := 15) (by kernel_rfl) ?_
            refine .fin rfl ?_
            refine sqN ?_
            refine .ret ?_
            refine bkR ?_
            refine sqR ?_
            injection h with h
            subst h
            exact ⟨.inr rfl, _, _, (f_cons rfl (f_cons (f_tmp rfl (o1_row E_B v7 rfl rfl rfl rfl rfl)) f_nil)), nd_of rfl, rfl, rfl⟩
          · have h := iF h hc6
            refine .skip ?_
            refine bkN ?_
            refine sqN ?_
            refine .seq ?_
            refine .rgI rfl ?_
            refine .seg tabOk 0 1 [35] [] (t := [(35, (vI a0))]) (h := []) (ep := 14) (by kernel_rfl) ?_
            obtain ⟨v8, hv8, h⟩ := bS h
            refine .cc true rfl rfl (C_be_Put _ _ _ _ hv8) ent_be_Put rfl rfl rfl rfl (g_cons (g_pl rfl rfl) (g_cons (g_pl rfl rfl) g_nil)) rfl ?_
            refine .seg tabOk 2 2 [6, 7] [576] (t := [(6, (.val (.int .u8 0))), (7, (.sref (576, 14) 0 v8.length 1))]) (h := [(576, ⟨14, .live, true, flat E_B v8⟩)]) (ep := 15) (by kernel_rfl) ?_
            refine .fin rfl ?_
            refine sqN ?_
            refine .ret ?_
            injection h with h
            subst h
            exact ⟨.inr rfl, _, _, (f_cons rfl (f_cons (f_tmp rfl (o1_row E_B v8 rfl rfl rfl rfl rfl)) f_nil)), nd_of rfl, rfl, rfl⟩
abbrev R_simple_packed := (List Int)
def L_simple_packed_1 (a0 : (List Int)) (y3 : Int) (j6 : Int → Option R_simple_packed) : Nat → Int → Option R_simple_packed
  | 0, _ => none
  | n + 1, y7 =>
    lj (fun (x12 : Bool) =>
      if x12 then
        L_simple_packed_1 a0 y3 j6 n (w64 (y7 + 1))
      else
      j6 y7) fun j13 =>
    if (decide (y7 < (a0.length : Int))) then
      gd (0 ≤ y7 ∧ y7 < a0.length) <|
      gd (0 ≤ y3 ∧ y3 < a0.length) <|
      if (decide ((nth E_B a0 y7) = (nth E_B a0 y3))) then
        j13 (decide ((w64 (y7 - y3)) < 256))
      else
      j13 false
    else
    j13 false
def L_simple_packed_0 (a0 : (List Int)) (j1 : (List Int) → Option R_simple_packed) : Nat → (List Int) → Int → Option R_simple_packed
  | 0, _, _ => none
  | n + 1, y2, y3 =>
    if (decide (y3 < (a0.length : Int))) then
      lj (fun (x23 : (List Int)) (x24 : Int) =>
        L_simple_packed_0 a0 j1 n x23 x24) fun j5 =>
      lj (fun (x15 : Int) =>
        lj (fun (x21 : (List Int)) =>
          j5 x21 x15) fun j22 =>
        if (decide (1 < (w64 (x15 - y3)))) then
          gd (0 ≤ y3 ∧ y3 < a0.length) <|
          gd (fits (y2.length + ([(bits .or .u8 (nth E_B a0 y3) 8), (IntKind.wrap .u8 ((w64 ((w64 (x15 - y3)) - 1))))] : List Int).length) 1 = true) <|
          j22 (y2 ++ ([(bits .or .u8 (nth E_B a0 y3) 8), (IntKind.wrap .u8 ((w64 ((w64 (x15 - y3)) - 1))))] : List Int))
        else
        gd (0 ≤ y3 ∧ y3 < a0.length) <|
        gd (fits (y2.length + ([(nth E_B a0 y3)] : List Int).length) 1 = true) <|
        j22 (y2 ++ ([(nth E_B a0 y3)] : List Int))) fun j6 =>
      L_simple_packed_1 a0 y3 j6 n y3
    else
    j1 y2
def F_simple_packed (n : Nat) (a0 : (List Int)) : Option R_simple_packed :=
  lj (fun (x25 : (List Int)) =>
    some x25) fun j1 =>
  L_simple_packed_0 a0 j1 n ([] : List Int) 0
abbrev q58_0 (a0 : (List Int)) : Nat × V := (0, (.ro 1 a0.length (flat E_B a0)))
abbrev q58_1 : Nat × V := (31, (.val (.bool false)))
theorem C_simple_packed (n : Nat) (a0 : (List Int)) (r : R_simple_packed) (h : F_simple_packed n a0 = some r) : CallS Try.prog 58 [(.ro 1 a0.length (flat E_B a0))] (.own 1 r.length (flat E_B r)) [none] := by
  refine CallS.introK tabOk Try.func58 rfl Try.ntmps58 (Nat.le_of_ble_eq_true rfl) ?_
  rw [F_simple_packed] at h
  refine .seq ?_
  refine .rgI rfl ?_
  refine .seg tabOk 0 1 [0] [] (t := [(q58_0 a0)]) (h := []) (ep := 2) (by kernel_rfl) ?_
  refine .fin rfl ?_
  refine sqN ?_
  refine .seq ?_
  refine .rgI rfl ?_
  refine .seg tabOk 0 1 [0, 3] [] (t := [(q58_0 a0), (3, .nils)]) (h := []) (ep := 4) (by kernel_rfl) ?_
  refine .fin rfl ?_
  refine sqN ?_
  refine .seq ?_
  refine .seq ?_
  refine .rgI rfl ?_
  refine .seg tabOk 0 1 [0, 3, 4] [] (t := [(q58_0 a0), (3, .nils), (4, (vI 0))]) (h := []) (ep := 6) (by kernel_rfl) ?_
  refine .fin rfl ?_
  refine sqN ?_
  obtain ⟨j1, hj1, h⟩ := ljS h
  refine .join (fun s' => ∃ x25, s' = ⟨[(3, (.sref (63, 9) 0 x25.length 1))], [(63, ⟨9, .live, true, flat E_B x25⟩)], 10⟩ ∧ j1 x25 = some r) ?_ ?_
  · refine .block ?_
    refine .loopF (β := (List Int) × Int) (fun v => ⟨[(q58_0 a0), (3, (.sref (63, 6) 0 v.1.length 1)), (4, (vI v.2))], [(63, ⟨6, .live, true, flat E_B v.1⟩)], 7⟩) (fun m v => L_simple_packed_0 a0 j1 m v.1 v.2 = some r) n (([] : List Int), 0) (by exact .trans (.nilRow 3 1 63 rfl (fresh_none rfl)) (.tn [((63, 6), (63, 6))] ⟨rfl, rfl, rfl, trivial⟩ ⟨rfl, ⟨_, rfl, ah_row E_B⟩, trivial⟩ rfl)) h ?_
    rintro m ⟨y2, y3⟩ h
    cases m with
    | zero => exact nomatch h
    | succ n =>
      rw [L_simple_packed_0] at h
      refine .seq ?_
      refine .seq ?_
      refine .rgI rfl ?_
      refine .seg tabOk 0 4 [0, 3, 4, 9] [63] (t := [(q58_0 a0), (3, (.sref (63, 6) 0 y2.length 1)), (4, (vI y3)), (9, (.val (.bool (decide (y3 < (a0.length : Int))))))]) (h := [(63, ⟨6, .live, true, flat E_B y2⟩)]) (ep := 9) (by kernel_rfl) ?_
      refine .fin rfl ?_
      refine sqN ?_
      refine .cond (decide (y3 < (a0.length : Int))) rfl (fun hc4 => ?_) (fun hc4 => ?_)
      · have h := iT h hc4
        refine .skip ?_
        refine sqN ?_
        obtain ⟨j5, hj5, h⟩ := ljS h
        refine .join (fun s' => ∃ x23 x24, s' = ⟨[(q58_0 a0), (3, (.sref (800, 21) 0 x23.length 1)), (4, (vI x24))], [(800, ⟨21, .live, true, flat E_B x23⟩)], 26⟩ ∧ j5 x23 x24 = some r) ?_ ?_
        · refine .block ?_
          refine .seq ?_
          refine .rgI rfl ?_
          refine .seg tabOk 0 2 [0, 3, 4, 5] [63] (t := [(q58_0 a0), (3, (.sref (63, 6) 0 y2.length 1)), (4, (vI y3)), (5, (vI y3))]) (h := [(63, ⟨6, .live, true, flat E_B y2⟩)]) (ep := 11) (by kernel_rfl) ?_
          refine .fin rfl ?_
          refine sqN ?_
          refine .seq ?_
          obtain ⟨j6, hj6, h⟩ := ljS h
          refine .join (fun s' => ∃ x15, s' = ⟨[(q58_0 a0), (3, (.sref (63, 6) 0 y2.length 1)), (4, (vI y3)), (5, (vI x15))], [(63, ⟨6, .live, true, flat E_B y2⟩)], 16⟩ ∧ j6 x15 = some r) ?_ ?_
          · refine .block ?_
            refine .loopF (β := Int) (fun v => ⟨[(q58_0 a0), (3, (.sref (63, 6) 0 y2.length 1)), (4, (vI y3)), (5, (vI v))], [(63, ⟨6, .live, true, flat E_B y2⟩)], 12⟩) (fun m v => L_simple_packed_1 a0 y3 j6 m v = some r) n y3 (by exact .tn [((63, 6), (63, 6))] ⟨rfl, rfl, rfl, rfl, trivial⟩ ⟨rfl, ⟨_, rfl, ah_row E_B⟩, trivial⟩ rfl) h ?_
            rintro m y7 h
            cases m with
            | zero => exact nomatch h
            | succ n =>
              rw [L_simple_packed_1] at h
              refine .seq ?_
              refine .seq ?_
              obtain ⟨j13, hj13, h⟩ := ljS h
              refine .join (fun s' => ∃ x12, s' = ⟨[(q58_0 a0), (3, (.sref (63, 6) 0 y2.length 1)), (4, (vI y3)), (5, (vI y7)), (31, (.val (.bool x12)))], [(63, ⟨6, .live, true, flat E_B y2⟩)], 15⟩ ∧ j13 x12 = some r) ?_ ?_
              · refine .rgD rfl ?_
                refine .seg tabOk 0 5 [0, 3, 4, 5, 15] [63] (t := [(q58_0 a0), (3, (.sref (63, 6) 0 y2.length 1)), (4, (vI y3)), (5, (vI y7)), (15, (.val (.bool (decide (y7 < (a0.length : Int))))))]) (h := [(63, ⟨6, .live, true, flat E_B y2⟩)]) (ep := 13) (by kernel_rfl) ?_
                cases hB8 : (decide (y7 < (a0.length : Int))) with
                | false =>
                  have h := iF h hB8
                  refine .seg tabOk 5 16 [0, 3, 4, 5, 31] [63] (t := [(q58_0 a0), (3, (.sref (63, 6) 0 y2.length 1)), (4, (vI y3)), (5, (vI y7)), q58_1]) (h := [(63, ⟨6, .live, true, flat E_B y2⟩)]) (ep := 13) (by kernel_rfl) ?_
                  refine .fin mixed [0, 3, 4, 5, 31] [63] (t := [(q58_0 a0), (3, (.sref (63, 6) 0 y2.length 1)), (4, (vI y3)), (5, (vI y7)), q58_1]) (h := [(63, ⟨6, .live, true, flat E_B y2⟩)]) (ep := 14) rfl (by kernel_rfl) rfl ?_
                  exact jkN (by exact .tn [((63, 6), (63, 6))] ⟨rfl, rfl, rfl, rfl, rfl, trivial⟩ ⟨rfl, ⟨_, rfl, ah_row E_B⟩, trivial⟩ rfl) ⟨_, rfl, h⟩
                | true =>
                  have h := iT h hB8
                  refine .seg tabOk 5 2 [0, 3, 4, 5, 15, 16, 17] [63] (t := [(q58_0 a0), (3, (.sref (63, 6) 0 y2.length 1)), (4, (vI y3)), (5, (vI y7)), (15, (.val (.bool true))), (16, (.ro 1 a0.length (flat E_B a0))), (17, (vI y7))]) (h := [(63, ⟨6, .live, true, flat E_B y2⟩)]) (ep := 13) (by kernel_rfl) ?_
                  obtain ⟨hb9, h⟩ := gS h
                  refine .o tabOk rfl rfl rfl (q_idx E_B rfl rfl rfl rfl rfl rfl hb9) (a_idx E_B rfl rfl rfl rfl rfl rfl hb9) rfl ?_
                  refine .o tabOk rfl rfl rfl (q_ld0 E_B rfl rfl rfl hb9 rfl) (a_ld0 E_B rfl rfl rfl hb9 rfl) rfl ?_
                  refine .seg tabOk 9 2 [0, 3, 4, 5, 15, 19, 20, 21] [63] (t := [(q58_0 a0), (3, (.sref (63, 6) 0 y2.length 1)), (4, (vI y3)), (5, (vI y7)), (15, (.val (.bool true))), (19, (.val (.int .u8 (nth E_B a0 y7)))), (20, (.ro 1 a0.length (flat E_B a0))), (21, (vI y3))]) (h := [(63, ⟨6, .live, true, flat E_B y2⟩)]) (ep := 13) (by kernel_rfl) ?_
                  obtain ⟨hb10, h⟩ := gS h
                  refine .o tabOk rfl rfl rfl (q_idx E_B rfl rfl rfl rfl rfl rfl hb10) (a_idx E_B rfl rfl rfl rfl rfl rfl hb10) rfl ?_
                  refine .o tabOk rfl rfl rfl (q_ld0 E_B rfl rfl rfl hb10 rfl) (a_ld0 E_B rfl rfl rfl hb10 rfl) rfl ?_
                  refine .seg tabOk 13 3 [0, 3, 4, 5, 26] [63] (t := [(q58_0 a0), (3, (.sref (63, 6) 0 y2.length 1)), (4, (vI y3)), (5, (vI y7)), (26, (.val (.bool (decide ((nth E_B a0 y7) = (nth E_B a0 y3))))))]) (h := [(63, ⟨6, .live, true, flat E_B y2⟩)]) (ep := 13) (by kernel_rfl) ?_
                  cases hB11 : (decide ((nth E_B a0 y7) = (nth E_B a0 y3))) with
                  | false =>
                    have h := iF h hB11
                    refine .seg tabOk 16 5 [0, 3, 4, 5, 31] [63] (t := [(q58_0 a0), (3, (.sref (63, 6) 0 y2.length 1)), (4, (vI y3)), (5, (vI y7)), q58_1]) (h := [(63, ⟨6, .live, true, flat E_B y2⟩)]) (ep := 13) (by kernel_rfl) ?_
                    refine .fin mixed [0, 3, 4, 5, 31] [63] (t := [(q58_0 a0), (3, (.sref (63, 6) 0 y2.length 1)), (4, (vI y3)), (5, (vI y7)), q58_1]) (h := [(63, ⟨6, .live, true, flat E_B y2⟩)]) (ep := 14) rfl (by kernel_rfl) rfl ?_
                    exact jkN (by exact .tn [((63, 6), (63, 6))] ⟨rfl, rfl, rfl, rfl, rfl, trivial⟩ ⟨rfl, ⟨_, rfl, ah_row E_B⟩, trivial⟩ rfl) ⟨_, rfl, h⟩
                  | true =>
                    have h := iT h hB11
                    refine .seg tabOk 16 5 [0, 3, 4, 5, 31] [63] (t := [(q58_0 a0), (3, (.sref (63, 6) 0 y2.length 1)), (4, (vI y3)), (5, (vI y7)), (31, (.val (.bool (decide ((w64 (y7 - y3)) < 256)))))]) (h := [(63, ⟨6, .live, true, flat E_B y2⟩)]) (ep := 13) (by kernel_rfl) ?_
                    refine .fin mixed [0, 3, 4, 5, 31] [63] (t := [(q58_0 a0), (3, (.sref (63, 6) 0 y2.length 1)), (4, (vI y3)), (5, (vI y7)), (31, (.val (.bool (decide ((w64 (y7 - y3)) < 256)))))]) (h := [(63, ⟨6, .live, true, flat E_B y2⟩)]) (ep := 14) rfl (by kernel_rfl) rfl ?_
                    exact jkN (by exact .tn [((63, 6), (63, 6))] ⟨rfl, rfl, rfl, rfl, rfl, trivial⟩ ⟨rfl, ⟨_, rfl, ah_row E_B⟩, trivial⟩ rfl) ⟨_, rfl, h⟩
              · rintro _ ⟨x12, rfl, h⟩
                subst hj13
                refine sqN ?_
                refine .cond x12 rfl (fun hc14 => ?_) (fun hc14 => ?_)
                · have h := iT h hc14
                  refine .skip ?_
                  refine sqN ?_
                  refine .block ?_
                  refine .rgI rfl ?_
                  refine .seg tabOk 0 3 [0, 3, 4, 5] [63] (t := [(q58_0 a0), (3, (.sref (63, 6) 0 y2.length 1)), (4, (vI y3)), (5, (vI (w64 (y7 + 1))))]) (h := [(63, ⟨6, .live, true, flat E_B y2⟩)]) (ep := 17) (by kernel_rfl) ?_
                  refine .fin rfl ?_
                  refine bkN ?_
                  exact jkN (by exact .tn [((63, 6), (63, 6))] ⟨rfl, rfl, rfl, rfl, trivial⟩ ⟨rfl, ⟨_, rfl, ah_row E_B⟩, trivial⟩ rfl) ⟨n, (w64 (y7 + 1)), Nat.lt_succ_self n, rfl, h⟩
                · have h := iF h hc14
                  refine .exit ?_
                  refine sqX ?_
                  refine jkX ?_
                  refine bkE ?_
                  exact jkN (by exact .tn [((63, 6), (63, 6))] ⟨rfl, rfl, rfl, rfl, trivial⟩ ⟨rfl, ⟨_, rfl, ah_row E_B⟩, trivial⟩ rfl) ⟨_, rfl, h⟩
          · rintro _ ⟨x15, rfl, h⟩
            subst hj6
            refine sqN ?_
            refine .seq ?_
            refine .seq ?_
            refine .rgI rfl ?_
            refine .seg tabOk 0 4 [0, 3, 4, 5, 37] [63] (t := [(q58_0 a0), (3, (.sref (63, 6) 0 y2.length 1)), (4, (vI y3)), (5, (vI x15)), (37, (.val (.bool (decide (1 < (w64 (x15 - y3)))))))]) (h := [(63, ⟨6, .live, true, flat E_B y2⟩)]) (ep := 18) (by kernel_rfl) ?_
            refine .fin rfl ?_
            refine sqN ?_
            obtain ⟨j22, hj22, h⟩ := ljS h
            refine .join (fun s' => ∃ x21, s' = ⟨[(q58_0 a0), (3, (.sref (800, 21) 0 x21.length 1)), (5, (vI x15))], [(800, ⟨21, .live, true, flat E_B x21⟩)], 23⟩ ∧ j22 x21 = some r) ?_ ?_
            · refine .cond (decide (1 < (w64 (x15 - y3)))) rfl (fun hc16 => ?_) (fun hc16 => ?_)
              · have h := iT h hc16
                refine .rgI rfl ?_
                refine .seg tabOk 0 3 [0, 4, 5, 38, 39, 40] [63] (t := [(q58_0 a0), (4, (vI y3)), (5, (vI x15)), (38, (.sref (63, 6) 0 y2.length 1)), (39, (.ro 1 a0.length (flat E_B a0))), (40, (vI y3))]) (h := [(63, ⟨6, .live, true, flat E_B y2⟩)]) (ep := 20) (by kernel_rfl) ?_
                obtain ⟨hb17, h⟩ := gS h
                refine .o tabOk rfl rfl rfl (q_idx E_B rfl rfl rfl rfl rfl rfl hb17) ?_
                refine .o tabOk rfl rfl rfl (q_ld0 E_B rfl rfl rfl hb17 rfl) ?_
                refine .seg tabOk 5 7 [0, 5, 38, 49] [63, 784] (t := [(q58_0 a0), (5, (vI x15)), (38, (.sref (63, 6) 0 y2.length 1)), (49, (.sref (784, 20) 0 ([(bits .or .u8 (nth E_B a0 y3) 8), (IntKind.wrap .u8 ((w64 ((w64 (x15 - y3)) - 1))))] : List Int).length 1))]) (h := [(63, ⟨6, .live, true, flat E_B y2⟩), (784, ⟨20, .live, true, flat E_B ([(bits .or .u8 (nth E_B a0 y3) 8), (IntKind.wrap .u8 ((w64 ((w64 (x15 - y3)) - 1))))] : List Int)⟩)]) (ep := 21) (by kernel_rfl) ?_
                obtain ⟨hb18, h⟩ := gS h
                refine .oo tabOk rfl rfl rfl (q_app E_B (l := y2) rfl rfl rfl rfl rfl rfl rfl rfl rfl rfl rfl rfl rfl (.row ([(bits .or .u8 (nth E_B a0 y3) 8), (IntKind.wrap .u8 ((w64 ((w64 (x15 - y3)) - 1))))] : List Int) rfl rfl rfl rfl) hb18) ?_
                refine .seg tabOk 13 1 [0, 3, 5] [800] (t := [(q58_0 a0), (3, (.sref (800, 21) 0 (y2 ++ ([(bits .or .u8 (nth E_B a0 y3) 8), (IntKind.wrap .u8 ((w64 ((w64 (x15 - y3)) - 1))))] : List Int)).length 1)), (5, (vI x15))]) (h := [(800, ⟨21, .live, true, flat E_B (y2 ++ ([(bits .or .u8 (nth E_B a0 y3) 8), (IntKind.wrap .u8 ((w64 ((w64 (x15 - y3)) - 1))))] : List Int))⟩)]) (ep := 22) (by kernel_rfl) ?_
                refine .fin rfl ?_
                exact jkN (by exact .tn [((800, 21), (800, 21))] ⟨rfl, rfl, rfl, trivial⟩ ⟨rfl, ⟨_, rfl, ah_row E_B⟩, trivial⟩ rfl) ⟨_, rfl, h⟩
              · have h := iF h hc16
                refine .rgI rfl ?_
                refine .seg tabOk 0 3 [0, 5, 51, 52, 53] [63] (t := [(q58_0 a0), (5, (vI x15)), (51, (.sref (63, 6) 0 y2.length 1)), (52, (.ro 1 a0.length (flat E_B a0))), (53, (vI y3))]) (h := [(63, ⟨6, .live, true, flat E_B y2⟩)]) (ep := 20) (by kernel_rfl) ?_
                obtain ⟨hb19, h⟩ := gS h
                refine .o tabOk rfl rfl rfl (q_idx E_B rfl rfl rfl rfl rfl rfl hb19) ?_
                refine .o tabOk rfl rfl rfl (q_ld0 E_B rfl rfl rfl hb19 rfl) ?_
                refine .seg tabOk 5 1 [0, 5, 51, 56] [63, 896] (t := [(q58_0 a0), (5, (vI x15)), (51, (.sref (63, 6) 0 y2.length 1)), (56, (.sref (896, 20) 0 ([(nth E_B a0 y3)] : List Int).length 1))]) (h := [(63, ⟨6, .live, true, flat E_B y2⟩), (896, ⟨20, .live, true, flat E_B ([(nth E_B a0 y3)] : List Int)⟩)]) (ep := 21) (by kernel_rfl) ?_
                obtain ⟨hb20, h⟩ := gS h
                refine .oo tabOk rfl rfl rfl (q_app E_B (l := y2) rfl rfl rfl rfl rfl rfl rfl rfl rfl rfl rfl rfl rfl (.row ([(nth E_B a0 y3)] : List Int) rfl rfl rfl rfl) hb20) ?_
                refine .seg tabOk 7 1 [0, 3, 5] [912] (t := [(q58_0 a0), (3, (.sref (912, 21) 0 (y2 ++ ([(nth E_B a0 y3)] : List Int)).length 1)), (5, (vI x15))]) (h := [(912, ⟨21, .live, true, flat E_B (y2 ++ ([(nth E_B a0 y3)] : List Int))⟩)]) (ep := 22) (by kernel_rfl) ?_
                refine .fin rfl ?_
                exact jkN (by exact .tn [((912, 21), (800, 21))] ⟨rfl, rfl, rfl, trivial⟩ ⟨rfl, ⟨_, rfl, ah_row E_B⟩, trivial⟩ rfl) ⟨_, rfl, h⟩
            · rintro _ ⟨x21, rfl, h⟩
              subst hj22
              refine sqN ?_
              refine .rgI rfl ?_
              refine .seg tabOk 0 2 [0, 3, 4] [800] (t := [(q58_0 a0), (3, (.sref (800, 21) 0 x21.length 1)), (4, (vI x15))]) (h := [(800, ⟨21, .live, true, flat E_B x21⟩)]) (ep := 25) (by kernel_rfl) ?_
              refine .fin rfl ?_
              refine bkN ?_
              exact jkN (by exact .tn [((800, 21), (800, 21))] ⟨rfl, rfl, rfl, trivial⟩ ⟨rfl, ⟨_, rfl, ah_row E_B⟩, trivial⟩ rfl) ⟨_, _, rfl, h⟩
        · rintro _ ⟨x23, x24, rfl, h⟩
          subst hj5
          exact jkN (by exact .tn [((800, 21), (63, 6))] ⟨rfl, rfl, rfl, trivial⟩ ⟨rfl, ⟨_, rfl, ah_row E_B⟩, trivial⟩ rfl) ⟨n, (x23, x24), Nat.lt_succ_self n, rfl, h⟩
      · have h := iF h hc4
        refine .exit ?_
        refine sqX ?_
        refine jkX ?_
        refine bkE ?_
        exact jkN (by exact .tn [((63, 6), (63, 9))] ⟨rfl, trivial⟩ ⟨rfl, ⟨_, rfl, ah_row E_B⟩, trivial⟩ rfl) ⟨_, rfl, h⟩
  · rintro _ ⟨x25, rfl, h⟩
    subst hj1
    refine sqN ?_
    refine .seq ?_
    refine .rgI rfl ?_
    refine .seg tabOk 0 2 [2] [63] (t := [(2, (.sref (63, 9) 0 x25.length 1))]) (h := [(63, ⟨9, .live, true, flat E_B x25⟩)]) (ep := 12) (by kernel_rfl) ?_
    refine .fin rfl ?_
    refine sqN ?_
    refine .ret ?_
    injection h with h
    subst h
    exact ⟨.inr rfl, _, _, (f_cons (f_tmp rfl (o1_row E_B x25 rfl rfl rfl rfl rfl)) f_nil), nd_of rfl, rfl, rfl⟩
end Go.Proofs.Ytgkekjfbacncoaa
