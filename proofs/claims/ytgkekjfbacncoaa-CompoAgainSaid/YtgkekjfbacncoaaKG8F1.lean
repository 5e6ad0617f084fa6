/- Printed by a program: shallow functions of the Go functions, and the proofs that the Go functions come to their answers. -/
import Derived.Test.YtgkekjfbacncoaaKG8T
set_option linter.unusedVariables false
open Go Go.Ab
namespace Go.Proofs.Ytgkekjfbacncoaa
abbrev R_be_there := Bool
def F_be_there (n : Nat) (a0 : (List Int)) (a1 : Int) (a2 : Int) : Option R_be_there :=
  if (decide (0 ≤ a1)) then
    if (decide (0 ≤ a2)) then
      if (decide (a1 ≤ (a0.length : Int))) then
        some (decide (a2 ≤ (w64 ((a0.length : Int) - a1))))
      else
      some false
    else
    some false
  else
  some false
theorem C_be_there (n : Nat) (a0 : (List Int)) (a1 : Int) (a2 : Int) (r : R_be_there) (h : F_be_there n a0 a1 a2 = some r) : CallS Try.prog 61 [(.ro 1 a0.length (flat E_B a0)), (vI a1), (vI a2)] (.val (.bool r)) [none, none, none] := by
  refine CallS.introK tabOk Try.func61 rfl Try.ntmps61 (Nat.le_of_ble_eq_true rfl) ?_
  rw [F_be_there] at h
  refine .seq ?_
  refine .rgI rfl ?_
  refine .seg tabOk 0 1 [0, 1, 2] [] (t := [(0, (.ro 1 a0.length (flat E_B a0))), (1, (vI a1)), (2, (vI a2))]) (h := []) (ep := 2) (by kernel_rfl) ?_
  refine .fin rfl ?_
  refine sqN ?_
  refine .seq ?_
  refine .rgI rfl ?_
  refine .seg tabOk 0 3 [0, 1, 2, 9] [] (t := [(0, (.ro 1 a0.length (flat E_B a0))), (1, (vI a1)), (2, (vI a2)), (9, (.val (.bool (decide (0 ≤ a1)))))]) (h := []) (ep := 4) (by kernel_rfl) ?_
  cases hB1 : (decide (0 ≤ a1)) with
  | false =>
    have h := iF h hB1
    refine .seg tabOk 3 18 [6] [] (t := [(6, (.val (.bool false)))]) (h := []) (ep := 5) (by kernel_rfl) ?_
    refine .fin rfl ?_
    refine sqN ?_
    refine .ret ?_
    injection h with h
    subst h
    exact ⟨.inr rfl, _, _, rfl, List.nodup_nil, rfl, rfl⟩
  | true =>
    have h := iT h hB1
    refine .seg tabOk 3 4 [0, 1, 2, 13] [] (t := [(0, (.ro 1 a0.length (flat E_B a0))), (1, (vI a1)), (2, (vI a2)), (13, (.val (.bool (decide (0 ≤ a2)))))]) (h := []) (ep := 5) (by kernel_rfl) ?_
    cases hB2 : (decide (0 ≤ a2)) with
    | false =>
      have h := iF h hB2
      refine .seg tabOk 7 14 [6] [] (t := [(6, (.val (.bool false)))]) (h := []) (ep := 6) (by kernel_rfl) ?_
      refine .fin rfl ?_
      refine sqN ?_
      refine .ret ?_
      injection h with h
      subst h
      exact ⟨.inr rfl, _, _, rfl, List.nodup_nil, rfl, rfl⟩
    | true =>
      have h := iT h hB2
      refine .seg tabOk 7 6 [0, 1, 2, 19] [] (t := [(0, (.ro 1 a0.length (flat E_B a0))), (1, (vI a1)), (2, (vI a2)), (19, (.val (.bool (decide (a1 ≤ (a0.length : Int))))))]) (h := []) (ep := 6) (by kernel_rfl) ?_
      cases hB3 : (decide (a1 ≤ (a0.length : Int))) with
      | false =>
        have h := iF h hB3
        refine .seg tabOk 13 8 [6] [] (t := [(6, (.val (.bool false)))]) (h := []) (ep := 7) (by kernel_rfl) ?_
        refine .fin rfl ?_
        refine sqN ?_
        refine .ret ?_
        injection h with h
        subst h
        exact ⟨.inr rfl, _, _, rfl, List.nodup_nil, rfl, rfl⟩
      | true =>
        have h := iT h hB3
        refine .seg tabOk 13 8 [6] [] (t := [(6, (.val (.bool (decide (a2 ≤ (w64 ((a0.length : Int) - a1)))))))]) (h := []) (ep := 7) (by kernel_rfl) ?_
        refine .fin rfl ?_
        refine sqN ?_
        refine .ret ?_
        injection h with h
        subst h
        exact ⟨.inr rfl, _, _, rfl, List.nodup_nil, rfl, rfl⟩
abbrev R_be_U := Int × Int
def L_be_U_0 (a0 : (List Int)) (a1 : Int) (a2 : Int) (j6 : Int → Option R_be_U) : Nat → Int → Int → Option R_be_U
  | 0, _, _ => none
  | n + 1, y7, y8 =>
    if (decide (y7 < ((slc a0 a1 (w64 (a1 + a2))).length : Int))) then
      gd (0 ≤ y7 ∧ y7 < (slc a0 a1 (w64 (a1 + a2))).length) <|
      L_be_U_0 a0 a1 a2 j6 n (w64 (y7 + 1)) (bits .or .i64 (w64 (y8 * 2 ^ 8)) (w64 ((nth E_B (slc a0 a1 (w64 (a1 + a2))) y7))))
    else
    j6 y8
def F_be_U (n : Nat) (a0 : (List Int)) (a1 : Int) (a2 : Int) : Option R_be_U :=
  if ((decide (a2 < 1)) || (decide (4 < a2))) then
    some (0, 2)
  else
  Option.bind (F_be_there n a0 a1 a2) fun v3 =>
  if (!v3) then
    some (0, 3)
  else
  gd (0 ≤ a1 ∧ a1 ≤ (w64 (a1 + a2)) ∧ (w64 (a1 + a2)) ≤ (a0.length : Int)) <|
  lj (fun (x11 : Int) =>
    some (x11, 0)) fun j6 =>
  L_be_U_0 a0 a1 a2 j6 n 0 0
theorem C_be_U (n : Nat) (a0 : (List Int)) (a1 : Int) (a2 : Int) (r : R_be_U) (h : F_be_U n a0 a1 a2 = some r) : CallS Try.prog 64 [(.ro 1 a0.length (flat E_B a0)), (vI a1), (vI a2)] (.tup [(vI r.1), (vI r.2)]) [none, none, none] := by
  refine CallS.introK tabOk Try.func64 rfl Try.ntmps64 (Nat.le_of_ble_eq_true rfl) ?_
  rw [F_be_U] at h
  refine .seq ?_
  refine .rgI rfl ?_
  refine .seg tabOk 0 2 [0, 1, 2] [] (t := [(0, (.ro 1 a0.length (flat E_B a0))), (1, (vI a1)), (2, (vI a2))]) (h := []) (ep := 2) (by kernel_rfl) ?_
  refine .fin rfl ?_
  refine sqN ?_
  refine .seq ?_
  refine .block ?_
  refine .seq ?_
  refine .join (fun s' => s' = ⟨[(0, (.ro 1 a0.length (flat E_B a0))), (1, (vI a1)), (2, (vI a2)), (11, (.val (.bool ((decide (a2 < 1)) || (decide (4 < a2))))))], [], 6⟩) ?_ ?_
  · refine .rgI rfl ?_
    refine .seg tabOk 0 3 [0, 1, 2, 14] [] (t := [(0, (.ro 1 a0.length (flat E_B a0))), (1, (vI a1)), (2, (vI a2)), (14, (.val (.bool (decide (a2 < 1)))))]) (h := []) (ep := 4) (by kernel_rfl) ?_
    cases hB1 : (decide (a2 < 1)) with
    | false =>
      skip
      refine .seg tabOk 3 4 [0, 1, 2, 11] [] (t := [(0, (.ro 1 a0.length (flat E_B a0))), (1, (vI a1)), (2, (vI a2)), (11, (.val (.bool (decide (4 < a2)))))]) (h := []) (ep := 5) (by kernel_rfl) ?_
      refine .fin rfl ?_
      exact jkN (by exact .tn [] ⟨rfl, rfl, rfl, rfl, trivial⟩ trivial rfl) rfl
    | true =>
      skip
      refine .seg tabOk 3 4 [0, 1, 2, 11] [] (t := [(0, (.ro 1 a0.length (flat E_B a0))), (1, (vI a1)), (2, (vI a2)), (11, (.val (.bool true)))]) (h := []) (ep := 5) (by kernel_rfl) ?_
      refine .fin rfl ?_
      exact jkN (by exact .tn [] ⟨rfl, rfl, rfl, rfl, trivial⟩ trivial rfl) rfl
  · rintro _ rfl
    refine sqN ?_
    refine .cond ((decide (a2 < 1)) || (decide (4 < a2))) rfl (fun hc2 => ?_) (fun hc2 => ?_)
    · have h := iT h hc2
      refine .seq ?_
      refine .rgI rfl ?_
      refine .seg tabOk 0 2 [6, 7] [] (t := [(6, (vI 0)), (7, (vI 2))]) (h := []) (ep := 8) (by kernel_rfl) ?_
      refine .fin rfl ?_
      refine sqN ?_
      refine .ret ?_
      refine bkR ?_
      refine sqR ?_
      injection h with h
      subst h
      exact ⟨.inr rfl, _, _, rfl, List.nodup_nil, rfl, rfl⟩
    · have h := iF h hc2
      refine .seq ?_
      refine .rgI rfl ?_
      refine .seg tabOk 0 3 [0, 1, 2, 19, 20, 21] [] (t := [(0, (.ro 1 a0.length (flat E_B a0))), (1, (vI a1)), (2, (vI a2)), (19, (.ro 1 a0.length (flat E_B a0))), (20, (vI a1)), (21, (vI a2))]) (h := []) (ep := 8) (by kernel_rfl) ?_
      obtain ⟨v3, hv3, h⟩ := bS h
      refine .cc true rfl rfl (C_be_there _ _ _ _ _ hv3) ent_be_there rfl rfl rfl rfl (g_cons (g_pl rfl rfl) (g_cons (g_pl rfl rfl) (g_cons (g_pl rfl rfl) g_nil))) rfl ?_
      refine .seg tabOk 4 2 [0, 1, 2, 18] [] (t := [(0, (.ro 1 a0.length (flat E_B a0))), (1, (vI a1)), (2, (vI a2)), (18, (.val (.bool (!v3))))]) (h := []) (ep := 9) (by kernel_rfl) ?_
      refine .fin rfl ?_
      refine sqN ?_
      refine .cond (!v3) rfl (fun hc4 => ?_) (fun hc4 => ?_)
      · have h := iT h hc4
        refine .seq ?_
        refine .rgI rfl ?_
        refine .seg tabOk 0 2 [6, 7] [] (t := [(6, (vI 0)), (7, (vI 3))]) (h := []) (ep := 11) (by kernel_rfl) ?_
        refine .fin rfl ?_
        refine sqN ?_
        refine .ret ?_
        refine bkR ?_
        refine sqR ?_
        injection h with h
        subst h
        exact ⟨.inr rfl, _, _, rfl, List.nodup_nil, rfl, rfl⟩
      · have h := iF h hc4
        refine .skip ?_
        refine bkN ?_
        refine sqN ?_
        refine .seq ?_
        refine .rgI rfl ?_
        refine .seg tabOk 0 1 [0, 1, 2, 8] [] (t := [(0, (.ro 1 a0.length (flat E_B a0))), (1, (vI a1)), (2, (vI a2)), (8, (vI 0))]) (h := []) (ep := 11) (by kernel_rfl) ?_
        refine .fin rfl ?_
        refine sqN ?_
        refine .seq ?_
        refine .seq ?_
        refine .rgI rfl ?_
        refine .seg tabOk 0 5 [8, 24, 25, 28] [] (t := [(8, (vI 0)), (24, (.ro 1 a0.length (flat E_B a0))), (25, (vI a1)), (28, (vI (w64 (a1 + a2))))]) (h := []) (ep := 13) (by kernel_rfl) ?_
        obtain ⟨hb5, h⟩ := gS h
        refine .o tabOk rfl rfl rfl (q_slLH E_B rfl rfl rfl rfl rfl rfl rfl hb5) ?_
        refine .seg tabOk 6 2 [8, 29, 30, 31] [] (t := [(8, (vI 0)), (29, (.ro 1 (slc a0 a1 (w64 (a1 + a2))).length (flat E_B (slc a0 a1 (w64 (a1 + a2)))))), (30, (vI ((slc a0 a1 (w64 (a1 + a2))).length : Int))), (31, (vI 0))]) (h := []) (ep := 14) (by kernel_rfl) ?_
        refine .fin rfl ?_
        refine sqN ?_
        obtain ⟨j6, hj6, h⟩ := ljS h
        refine .join (fun s' => ∃ x11, s' = ⟨[(8, (vI x11))], [], 18⟩ ∧ j6 x11 = some r) ?_ ?_
        · refine .block ?_
          refine .loopF (β := Int × Int) (fun v => ⟨[(8, (vI v.2)), (29, (.ro 1 (slc a0 a1 (w64 (a1 + a2))).length (flat E_B (slc a0 a1 (w64 (a1 + a2)))))), (30, (vI ((slc a0 a1 (w64 (a1 + a2))).length : Int))), (31, (vI v.1))], [], 15⟩) (fun m v => L_be_U_0 a0 a1 a2 j6 m v.1 v.2 = some r) n (0, 0) (by exact .tn [] ⟨rfl, rfl, rfl, rfl, trivial⟩ trivial rfl) h ?_
          rintro m ⟨y7, y8⟩ h
          cases m with
          | zero => exact nomatch h
          | succ n =>
            rw [L_be_U_0] at h
            refine .seq ?_
            refine .rgI rfl ?_
            refine .seg tabOk 0 1 [8, 29, 30, 31, 32] [] (t := [(8, (vI y8)), (29, (.ro 1 (slc a0 a1 (w64 (a1 + a2))).length (flat E_B (slc a0 a1 (w64 (a1 + a2)))))), (30, (vI ((slc a0 a1 (w64 (a1 + a2))).length : Int))), (31, (vI y7)), (32, (.val (.bool (decide (y7 < ((slc a0 a1 (w64 (a1 + a2))).length : Int))))))]) (h := []) (ep := 17) (by kernel_rfl) ?_
            refine .fin rfl ?_
            refine sqN ?_
            refine .seq ?_
            refine .cond (decide (y7 < ((slc a0 a1 (w64 (a1 + a2))).length : Int))) rfl (fun hc9 => ?_) (fun hc9 => ?_)
            · have h := iT h hc9
              refine .skip ?_
              refine sqN ?_
              refine .seq ?_
              refine .block ?_
              refine .seq ?_
              refine .rgI rfl ?_
              obtain ⟨hb10, h⟩ := gS h
              refine .o tabOk rfl rfl rfl (q_idx E_B rfl rfl rfl rfl rfl rfl hb10) ?_
              refine .o tabOk rfl rfl rfl (q_ld0 E_B rfl rfl rfl hb10 rfl) ?_
              refine .seg tabOk 2 1 [8, 10, 29, 30, 31] [] (t := [(8, (vI y8)), (10, (.val (.int .u8 (nth E_B (slc a0 a1 (w64 (a1 + a2))) y7)))), (29, (.ro 1 (slc a0 a1 (w64 (a1 + a2))).length (flat E_B (slc a0 a1 (w64 (a1 + a2)))))), (30, (vI ((slc a0 a1 (w64 (a1 + a2))).length : Int))), (31, (vI y7))]) (h := []) (ep := 19) (by kernel_rfl) ?_
              refine .fin rfl ?_
              refine sqN ?_
              refine .rgI rfl ?_
              refine .seg tabOk 0 6 [8, 29, 30, 31] [] (t := [(8, (vI (bits .or .i64 (w64 (y8 * 2 ^ 8)) (w64 ((nth E_B (slc a0 a1 (w64 (a1 + a2))) y7)))))), (29, (.ro 1 (slc a0 a1 (w64 (a1 + a2))).length (flat E_B (slc a0 a1 (w64 (a1 + a2)))))), (30, (vI ((slc a0 a1 (w64 (a1 + a2))).length : Int))), (31, (vI y7))]) (h := []) (ep := 21) (by kernel_rfl) ?_
              refine .fin rfl ?_
              refine bkN ?_
              refine sqN ?_
              refine .rgI rfl ?_
              refine .seg tabOk 0 2 [8, 29, 30, 31] [] (t := [(8, (vI (bits .or .i64 (w64 (y8 * 2 ^ 8)) (w64 ((nth E_B (slc a0 a1 (w64 (a1 + a2))) y7)))))), (29, (.ro 1 (slc a0 a1 (w64 (a1 + a2))).length (flat E_B (slc a0 a1 (w64 (a1 + a2)))))), (30, (vI ((slc a0 a1 (w64 (a1 + a2))).length : Int))), (31, (vI (w64 (y7 + 1))))]) (h := []) (ep := 23) (by kernel_rfl) ?_
              refine .fin rfl ?_
              exact jkN (by exact .tn [] ⟨rfl, rfl, rfl, rfl, trivial⟩ trivial rfl) ⟨n, ((w64 (y7 + 1)), (bits .or .i64 (w64 (y8 * 2 ^ 8)) (w64 ((nth E_B (slc a0 a1 (w64 (a1 + a2))) y7))))), Nat.lt_succ_self n, rfl, h⟩
            · have h := iF h hc9
              refine .exit ?_
              refine sqX ?_
              refine jkX ?_
              refine bkE ?_
              exact jkN (by exact .tn [] ⟨rfl, trivial⟩ trivial rfl) ⟨_, rfl, h⟩
        · rintro _ ⟨x11, rfl, h⟩
          subst hj6
          refine sqN ?_
          refine .seq ?_
          refine .rgI rfl ?_
          refine .seg tabOk 0 3 [6, 7] [] (t := [(6, (vI x11)), (7, (vI 0))]) (h := []) (ep := 20) (by kernel_rfl) ?_
          refine .fin rfl ?_
          refine sqN ?_
          refine .ret ?_
          injection h with h
          subst h
          exact ⟨.inr rfl, _, _, rfl, List.nodup_nil, rfl, rfl⟩
abbrev R_be_S := Int × Int
def F_be_S (n : Nat) (a0 : (List Int)) (a1 : Int) (a2 : Int) : Option R_be_S :=
  Option.bind (F_be_U n a0 a1 a2) fun v1 =>
  if (!decide (v1.2 = 0)) then
    some (0, v1.2)
  else
  gd (0 ≤ (w64 (64 - (w64 (8 * a2))))) <|
  gd (0 ≤ (w64 (64 - (w64 (8 * a2))))) <|
  some ((Int.fdiv (w64 (v1.1 * 2 ^ (min (Int.toNat (w64 (64 - (w64 (8 * a2))))) 64))) (2 ^ (min (Int.toNat (w64 (64 - (w64 (8 * a2))))) 64))), 0)
theorem C_be_S (n : Nat) (a0 : (List Int)) (a1 : Int) (a2 : Int) (r : R_be_S) (h : F_be_S n a0 a1 a2 = some r) : CallS Try.prog 47 [(.ro 1 a0.length (flat E_B a0)), (vI a1), (vI a2)] (.tup [(vI r.1), (vI r.2)]) [none, none, none] := by
  refine CallS.introK tabOk Try.func47 rfl Try.ntmps47 (Nat.le_of_ble_eq_true rfl) ?_
  rw [F_be_S] at h
  refine .seq ?_
  refine .rgI rfl ?_
  refine .seg tabOk 0 2 [0, 1, 2] [] (t := [(0, (.ro 1 a0.length (flat E_B a0))), (1, (vI a1)), (2, (vI a2))]) (h := []) (ep := 2) (by kernel_rfl) ?_
  refine .fin rfl ?_
  refine sqN ?_
  refine .seq ?_
  refine .rgI rfl ?_
  refine .seg tabOk 0 3 [2, 12, 13, 14] [] (t := [(2, (vI a2)), (12, (.ro 1 a0.length (flat E_B a0))), (13, (vI a1)), (14, (vI a2))]) (h := []) (ep := 4) (by kernel_rfl) ?_
  obtain ⟨v1, hv1, h⟩ := bS h
  refine .cc true rfl rfl (C_be_U _ _ _ _ _ hv1) ent_be_U rfl rfl rfl rfl (g_cons (g_pl rfl rfl) (g_cons (g_pl rfl rfl) (g_cons (g_pl rfl rfl) g_nil))) rfl ?_
  refine .seg tabOk 4 5 [2, 8, 9] [] (t := [(2, (vI a2)), (8, (vI v1.1)), (9, (vI v1.2))]) (h := []) (ep := 5) (by kernel_rfl) ?_
  refine .fin rfl ?_
  refine sqN ?_
  refine .seq ?_
  refine .seq ?_
  refine .rgI rfl ?_
  refine .seg tabOk 0 2 [2, 8, 9, 19] [] (t := [(2, (vI a2)), (8, (vI v1.1)), (9, (vI v1.2)), (19, (.val (.bool (!decide (v1.2 = 0)))))]) (h := []) (ep := 7) (by kernel_rfl) ?_
  refine .fin rfl ?_
  refine sqN ?_
  refine .cond (!decide (v1.2 = 0)) rfl (fun hc2 => ?_) (fun hc2 => ?_)
  · have h := iT h hc2
    refine .seq ?_
    refine .rgI rfl ?_
    refine .seg tabOk 0 3 [6, 7] [] (t := [(6, (vI 0)), (7, (vI v1.2))]) (h := []) (ep := 9) (by kernel_rfl) ?_
    refine .fin rfl ?_
    refine sqN ?_
    refine .ret ?_
    refine sqR ?_
    injection h with h
    subst h
    exact ⟨.inr rfl, _, _, rfl, List.nodup_nil, rfl, rfl⟩
  · have h := iF h hc2
    refine .skip ?_
    refine sqN ?_
    refine .seq ?_
    refine .rgI rfl ?_
    refine .seg tabOk 0 4 [8, 10] [] (t := [(8, (vI v1.1)), (10, (vI (w64 (64 - (w64 (8 * a2))))))]) (h := []) (ep := 9) (by kernel_rfl) ?_
    refine .fin rfl ?_
    refine sqN ?_
    refine .seq ?_
    refine .rgI rfl ?_
    refine .seg tabOk 0 2 [10, 24, 25] [] (t := [(10, (vI (w64 (64 - (w64 (8 * a2)))))), (24, (vI v1.1)), (25, (vI (w64 (64 - (w64 (8 * a2))))))]) (h := []) (ep := 11) (by kernel_rfl) ?_
    obtain ⟨hb3, h⟩ := gS h
    refine .o tabOk rfl rfl rfl (q_shl rfl rfl hb3) ?_
    refine .seg tabOk 3 1 [26, 27] [] (t := [(26, (vI (w64 (v1.1 * 2 ^ (min (Int.toNat (w64 (64 - (w64 (8 * a2))))) 64))))), (27, (vI (w64 (64 - (w64 (8 * a2))))))]) (h := []) (ep := 12) (by kernel_rfl) ?_
    obtain ⟨hb4, h⟩ := gS h
    refine .o tabOk rfl rfl rfl (q_shr rfl rfl hb4) ?_
    refine .seg tabOk 5 2 [6, 7] [] (t := [(6, (vI (Int.fdiv (w64 (v1.1 * 2 ^ (min (Int.toNat (w64 (64 - (w64 (8 * a2))))) 64))) (2 ^ (min (Int.toNat (w64 (64 - (w64 (8 * a2))))) 64))))), (7, (vI 0))]) (h := []) (ep := 13) (by kernel_rfl) ?_
    refine .fin rfl ?_
    refine sqN ?_
    refine .ret ?_
    injection h with h
    subst h
    exact ⟨.inr rfl, _, _, rfl, List.nodup_nil, rfl, rfl⟩
abbrev R_compo_reader_s := Int × T_SLBiie
def F_compo_reader_s (n : Nat) (a0 : T_SLBiie) (a1 : Int) : Option R_compo_reader_s :=
  if (!decide (a0.f2 = 0)) then
    some (0, a0)
  else
  Option.bind (F_be_S n a0.f0 a0.f1 a1) fun v2 =>
  some (v2.1, (⟨a0.f0, (w64 (a0.f1 + a1)), v2.2⟩ : T_SLBiie))
theorem C_compo_reader_s (n : Nat) (a0 : T_SLBiie) (a1 : Int) (r : R_compo_reader_s) (h : F_compo_reader_s n a0 a1 = some r) : CallS Try.prog 32 [(.box [(.ro 1 a0.f0.length (flat E_B a0.f0)), (vI a0.f1), (vI a0.f2)]), (vI a1)] (vI r.1) [some [(.ro 1 r.2.f0.length (flat E_B r.2.f0)), (vI r.2.f1), (vI r.2.f2)], none] := by
  refine CallS.introK tabOk Try.func32 rfl Try.ntmps32 (Nat.le_of_ble_eq_true rfl) ?_
  rw [F_compo_reader_s] at h
  refine .seq ?_
  refine .rgI rfl ?_
  refine .seg tabOk 0 1 [0, 1] [0] (t := [(0, (.ptr (0, 0) 0)), (1, (vI a1))]) (h := [(0, ⟨0, .live, false, [(.ro 1 a0.f0.length (flat E_B a0.f0)), (vI a0.f1), (vI a0.f2)]⟩)]) (ep := 2) (by kernel_rfl) ?_
  refine .fin rfl ?_
  refine sqN ?_
  refine .seq ?_
  refine .seq ?_
  refine .rgI rfl ?_
  refine .seg tabOk 0 5 [0, 1, 11] [0] (t := [(0, (.ptr (0, 0) 0)), (1, (vI a1)), (11, (.val (.bool (!decide (a0.f2 = 0)))))]) (h := [(0, ⟨0, .live, false, [(.ro 1 a0.f0.length (flat E_B a0.f0)), (vI a0.f1), (vI a0.f2)]⟩)]) (ep := 4) (by kernel_rfl) ?_
  refine .fin rfl ?_
  refine sqN ?_
  refine .cond (!decide (a0.f2 = 0)) rfl (fun hc1 => ?_) (fun hc1 => ?_)
  · have h := iT h hc1
    refine .seq ?_
    refine .rgI rfl ?_
    refine .seg tabOk 0 1 [4] [0] (t := [(4, (vI 0))]) (h := [(0, ⟨0, .live, false, [(.ro 1 a0.f0.length (flat E_B a0.f0)), (vI a0.f1), (vI a0.f2)]⟩)]) (ep := 6) (by kernel_rfl) ?_
    refine .fin rfl ?_
    refine sqN ?_
    refine .ret ?_
    refine sqR ?_
    injection h with h
    subst h
    exact ⟨.inr rfl, _, _, rfl, List.nodup_nil, rfl, rfl⟩
  · have h := iF h hc1
    refine .skip ?_
    refine sqN ?_
    refine .seq ?_
    refine .rgD rfl ?_
    refine .seg tabOk 0 9 [0, 1, 16, 20, 21] [0] (t := [(0, (.ptr (0, 0) 0)), (1, (vI a1)), (16, (.ro 1 a0.f0.length (flat E_B a0.f0))), (20, (vI a0.f1)), (21, (vI a1))]) (h := [(0, ⟨0, .live, false, [(.ro 1 a0.f0.length (flat E_B a0.f0)), (vI a0.f1), (vI a0.f2)]⟩)]) (ep := 5) (by kernel_rfl) ?_
    obtain ⟨v2, hv2, h⟩ := bS h
    refine .cc true rfl rfl (C_be_S _ _ _ _ _ hv2) ent_be_S rfl rfl rfl rfl (g_cons (g_pl rfl rfl) (g_cons (g_pl rfl rfl) (g_cons (g_pl rfl rfl) g_nil))) rfl rfl ?_
    refine .seg tabOk 10 5 [0, 1, 5, 6] [0] (t := [(0, (.ptr (0, 0) 0)), (1, (vI a1)), (5, (vI v2.1)), (6, (vI v2.2))]) (h := [(0, ⟨0, .live, false, [(.ro 1 a0.f0.length (flat E_B a0.f0)), (vI a0.f1), (vI a0.f2)]⟩)]) (ep := 5) (by kernel_rfl) ?_
    refine .fin mixed [0, 1, 5, 6] [0] (t := [(0, (.ptr (0, 0) 0)), (1, (vI a1)), (5, (vI v2.1)), (6, (vI v2.2))]) (h := [(0, ⟨0, .live, false, [(.ro 1 a0.f0.length (flat E_B a0.f0)), (vI a0.f1), (vI a0.f2)]⟩)]) (ep := 6) rfl (by kernel_rfl) rfl ?_
    refine sqN ?_
    refine .seq ?_
    refine .rgI rfl ?_
    refine .seg tabOk 0 15 [5] [0] (t := [(5, (vI v2.1))]) (h := [(0, ⟨0, .live, false, [(.ro 1 a0.f0.length (flat E_B a0.f0)), (vI (w64 (a0.f1 + a1))), (vI v2.2)]⟩)]) (ep := 8) (by kernel_rfl) ?_
    refine .fin rfl ?_
    refine sqN ?_
    refine .seq ?_
    refine .rgI rfl ?_
    refine .seg tabOk 0 2 [4] [0] (t := [(4, (vI v2.1))]) (h := [(0, ⟨0, .live, false, [(.ro 1 a0.f0.length (flat E_B a0.f0)), (vI (w64 (a0.f1 + a1))), (vI v2.2)]⟩)]) (ep := 10) (by kernel_rfl) ?_
    refine .fin rfl ?_
    refine sqN ?_
    refine .ret ?_
    injection h with h
    subst h
    exact ⟨.inr rfl, _, _, rfl, List.nodup_nil, rfl, rfl⟩
abbrev R_compo_reader_u := Int × T_SLBiie
def F_compo_reader_u (n : Nat) (a0 : T_SLBiie) : Option R_compo_reader_u :=
  Option.bind (F_compo_reader_s n a0 2) fun v1 =>
  some ((bits .and .i64 v1.1 65535), v1.2)
theorem C_compo_reader_u (n : Nat) (a0 : T_SLBiie) (r : R_compo_reader_u) (h : F_compo_reader_u n a0 = some r) : CallS Try.prog 34 [(.box [(.ro 1 a0.f0.length (flat E_B a0.f0)), (vI a0.f1), (vI a0.f2)])] (vI r.1) [some [(.ro 1 r.2.f0.length (flat E_B r.2.f0)), (vI r.2.f1), (vI r.2.f2)]] := by
  refine CallS.introK tabOk Try.func34 rfl Try.ntmps34 (Nat.le_of_ble_eq_true rfl) ?_
  rw [F_compo_reader_u] at h
  refine .seq ?_
  refine .rgI rfl ?_
  refine .seg tabOk 0 1 [0] [0] (t := [(0, (.ptr (0, 0) 0))]) (h := [(0, ⟨0, .live, false, [(.ro 1 a0.f0.length (flat E_B a0.f0)), (vI a0.f1), (vI a0.f2)]⟩)]) (ep := 2) (by kernel_rfl) ?_
  refine .fin rfl ?_
  refine sqN ?_
  refine .seq ?_
  refine .rgI rfl ?_
  refine .seg tabOk 0 1 [3] [0] (t := [(3, (.ptr (0, 0) 0))]) (h := [(0, ⟨0, .live, false, [(.ro 1 a0.f0.length (flat E_B a0.f0)), (vI a0.f1), (vI a0.f2)]⟩)]) (ep := 4) (by kernel_rfl) ?_
  obtain ⟨v1, hv1, h⟩ := bS h
  refine .cc true rfl rfl (C_compo_reader_s _ _ _ _ hv1) ent_compo_reader_s rfl rfl rfl rfl (g_cons (g_pl rfl rfl) (g_cons (g_pl rfl rfl) g_nil)) rfl ?_
  refine .seg tabOk 2 2 [2] [0] (t := [(2, (vI (bits .and .i64 v1.1 65535)))]) (h := [(0, ⟨0, .live, false, [(.ro 1 v1.2.f0.length (flat E_B v1.2.f0)), (vI v1.2.f1), (vI v1.2.f2)]⟩)]) (ep := 5) (by kernel_rfl) ?_
  refine .fin rfl ?_
  refine sqN ?_
  refine .ret ?_
  injection h with h
  subst h
  exact ⟨.inr rfl, _, _, rfl, List.nodup_nil, rfl, rfl⟩
abbrev R_compo_reader_part := T_SiiiA4ie × Int × T_SLBiie
def L_compo_reader_part_0 (j14 : (List Int) → Int → Int → Int → Int → Int → Int → Option R_compo_reader_part) : Nat → (List Int) → Int → Int → Int → Int → Int → Int → Int → Option R_compo_reader_part
  | 0, _, _, _, _, _, _, _, _ => none
  | n + 1, y15, y16, y17, y18, y19, y20, y21, y22 =>
    if (decide (y22 < 4)) then
      Option.bind (F_compo_reader_s n (⟨y15, y16, y17⟩ : T_SLBiie) 2) fun v24 =>
      gd (0 ≤ y22 ∧ y22 < 4) <|
      L_compo_reader_part_0 j14 n v24.2.f0 v24.2.f1 v24.2.f2 (if y22 = 0 then v24.1 else y18) (if y22 = 1 then v24.1 else y19) (if y22 = 2 then v24.1 else y20) (if y22 = 3 then v24.1 else y21) (w64 (y22 + 1))
    else
    j14 y15 y16 y17 y18 y19 y20 y21
def F_compo_reader_part (n : Nat) (a0 : T_SLBiie) : Option R_compo_reader_part :=
  Option.bind (F_compo_reader_u n a0) fun v1 =>
  Option.bind (F_compo_reader_u n v1.2) fun v2 =>
  Option.bind (F_compo_reader_s n (⟨v2.2.f0, v2.2.f1, (if ((decide (v2.2.f2 = 0)) && (decide ((bits .and .i64 v1.1 2) = 0))) then 9 else v2.2.f2)⟩ : T_SLBiie) (w64 (1 + (bits .and .i64 v1.1 1)))) fun v5 =>
  Option.bind (F_compo_reader_s n v5.2 (w64 (1 + (bits .and .i64 v1.1 1)))) fun v6 =>
  lj (fun (x33 : (List Int)) (x34 : Int) (x35 : Int) (x36 : Int) (x37 : Int) (x38 : Int) (x39 : Int) =>
    some ((⟨v2.1, v5.1, v6.1, (⟨x36, x37, x38, x39⟩ : T_A4i)⟩ : T_SiiiA4ie), v1.1, (⟨x33, x34, x35⟩ : T_SLBiie))) fun j7 =>
  if (!decide ((bits .and .i64 v1.1 8) = 0)) then
    Option.bind (F_compo_reader_s n v6.2 2) fun v9 =>
    j7 v9.2.f0 v9.2.f1 v9.2.f2 v9.1 0 0 v9.1
  else
  if (!decide ((bits .and .i64 v1.1 64) = 0)) then
    Option.bind (F_compo_reader_s n v6.2 2) fun v11 =>
    Option.bind (F_compo_reader_s n v11.2 2) fun v12 =>
    j7 v12.2.f0 v12.2.f1 v12.2.f2 v11.1 0 0 v12.1
  else
  if (!decide ((bits .and .i64 v1.1 128) = 0)) then
    lj (fun (x26 : (List Int)) (x27 : Int) (x28 : Int) (x29 : Int) (x30 : Int) (x31 : Int) (x32 : Int) =>
      j7 x26 x27 x28 x29 x30 x31 x32) fun j14 =>
    L_compo_reader_part_0 j14 n v6.2.f0 v6.2.f1 v6.2.f2 16384 0 0 16384 0
  else
  j7 v6.2.f0 v6.2.f1 v6.2.f2 16384 0 0 16384
theorem C_compo_reader_part (n : Nat) (a0 : T_SLBiie) (r : R_compo_reader_part) (h : F_compo_reader_part n a0 = some r) : CallS Try.prog 33 [(.box [(.ro 1 a0.f0.length (flat E_B a0.f0)), (vI a0.f1), (vI a0.f2)])] (.tup [(.agg [(vI r.1.f0), (vI r.1.f1), (vI r.1.f2), (vI r.1.f3.a0), (vI r.1.f3.a1), (vI r.1.f3.a2), (vI r.1.f3.a3)]), (vI r.2.1)]) [some [(.ro 1 r.2.2.f0.length (flat E_B r.2.2.f0)), (vI r.2.2.f1), (vI r.2.2.f2)]] := by
  refine CallS.introK tabOk Try.func33 rfl Try.ntmps33 (Nat.le_of_ble_eq_true rfl) ?_
  rw [F_compo_reader_part] at h
  refine .seq ?_
  refine .rgI rfl ?_
  refine .seg tabOk 0 2 [0, 2] [0, 32] (t := [(0, (.ptr (0, 0) 0)), (2, (.ptr (32, 1) 0))]) (h := [(0, ⟨0, .live, false, [(.ro 1 a0.f0.length (flat E_B a0.f0)), (vI a0.f1), (vI a0.f2)]⟩), (32, ⟨1, .live, true, [(vI 0), (vI 0), (vI 0), (vI 0), (vI 0), (vI 0), (vI 0)]⟩)]) (ep := 2) (by kernel_rfl) ?_
  refine .fin rfl ?_
  refine sqN ?_
  refine .seq ?_
  refine .rgI rfl ?_
  refine .seg tabOk 0 1 [0, 2, 8] [0, 32] (t := [(0, (.ptr (0, 0) 0)), (2, (.ptr (32, 1) 0)), (8, (.ptr (0, 0) 0))]) (h := [(0, ⟨0, .live, false, [(.ro 1 a0.f0.length (flat E_B a0.f0)), (vI a0.f1), (vI a0.f2)]⟩), (32, ⟨1, .live, true, [(vI 0), (vI 0), (vI 0), (vI 0), (vI 0), (vI 0), (vI 0)]⟩)]) (ep := 4) (by kernel_rfl) ?_
  obtain ⟨v1, hv1, h⟩ := bS h
  refine .cc true rfl rfl (C_compo_reader_u _ _ _ hv1) ent_compo_reader_u rfl rfl rfl rfl (g_cons (g_pl rfl rfl) g_nil) rfl ?_
  refine .seg tabOk 2 1 [0, 2, 4] [0, 32] (t := [(0, (.ptr (0, 0) 0)), (2, (.ptr (32, 1) 0)), (4, (vI v1.1))]) (h := [(0, ⟨0, .live, false, [(.ro 1 v1.2.f0.length (flat E_B v1.2.f0)), (vI v1.2.f1), (vI v1.2.f2)]⟩), (32, ⟨1, .live, true, [(vI 0), (vI 0), (vI 0), (vI 0), (vI 0), (vI 0), (vI 0)]⟩)]) (ep := 5) (by kernel_rfl) ?_
  refine .fin rfl ?_
  refine sqN ?_
  refine .seq ?_
  refine .rgI rfl ?_
  refine .seg tabOk 0 1 [0, 2, 4, 10] [0, 32] (t := [(0, (.ptr (0, 0) 0)), (2, (.ptr (32, 1) 0)), (4, (vI v1.1)), (10, (.ptr (0, 0) 0))]) (h := [(0, ⟨0, .live, false, [(.ro 1 v1.2.f0.length (flat E_B v1.2.f0)), (vI v1.2.f1), (vI v1.2.f2)]⟩), (32, ⟨1, .live, true, [(vI 0), (vI 0), (vI 0), (vI 0), (vI 0), (vI 0), (vI 0)]⟩)]) (ep := 7) (by kernel_rfl) ?_
  obtain ⟨v2, hv2, h⟩ := bS h
  refine .cc true rfl rfl (C_compo_reader_u _ _ _ hv2) ent_compo_reader_u rfl rfl rfl rfl (g_cons (g_pl rfl rfl) g_nil) rfl ?_
  refine .seg tabOk 2 4 [0, 2, 4, 5] [0, 32, 80] (t := [(0, (.ptr (0, 0) 0)), (2, (.ptr (32, 1) 0)), (4, (vI v1.1)), (5, (.ptr (80, 7) 0))]) (h := [(0, ⟨0, .live, false, [(.ro 1 v2.2.f0.length (flat E_B v2.2.f0)), (vI v2.2.f1), (vI v2.2.f2)]⟩), (32, ⟨1, .live, true, [(vI 0), (vI 0), (vI 0), (vI 0), (vI 0), (vI 0), (vI 0)]⟩), (80, ⟨7, .live, true, [(vI v2.1), (vI 0), (vI 0), (vI 16384), (vI 0), (vI 0), (vI 16384)]⟩)]) (ep := 8) (by kernel_rfl) ?_
  refine .fin rfl ?_
  refine sqN ?_
  refine .seq ?_
  refine .seq ?_
  refine .join (fun s' => s' = ⟨[(0, (.ptr (0, 0) 0)), (2, (.ptr (32, 1) 0)), (4, (vI v1.1)), (5, (.ptr (80, 7) 0)), (23, (.val (.bool ((decide (v2.2.f2 = 0)) && (decide ((bits .and .i64 v1.1 2) = 0))))))], [(0, ⟨0, .live, false, [(.ro 1 v2.2.f0.length (flat E_B v2.2.f0)), (vI v2.2.f1), (vI v2.2.f2)]⟩), (32, ⟨1, .live, true, [(vI 0), (vI 0), (vI 0), (vI 0), (vI 0), (vI 0), (vI 0)]⟩), (80, ⟨7, .live, true, [(vI v2.1), (vI 0), (vI 0), (vI 16384), (vI 0), (vI 0), (vI 16384)]⟩)], 12⟩) ?_ ?_
  · refine .rgI rfl ?_
    refine .seg tabOk 0 6 [0, 2, 4, 5, 19] [0, 32, 80] (t := [(0, (.ptr (0, 0) 0)), (2, (.ptr (32, 1) 0)), (4, (vI v1.1)), (5, (.ptr (80, 7) 0)), (19, (.val (.bool (decide (v2.2.f2 = 0)))))]) (h := [(0, ⟨0, .live, false, [(.ro 1 v2.2.f0.length (flat E_B v2.2.f0)), (vI v2.2.f1), (vI v2.2.f2)]⟩), (32, ⟨1, .live, true, [(vI 0), (vI 0), (vI 0), (vI 0), (vI 0), (vI 0), (vI 0)]⟩), (80, ⟨7, .live, true, [(vI v2.1), (vI 0), (vI 0), (vI 16384), (vI 0), (vI 0), (vI 16384)]⟩)]) (ep := 10) (by kernel_rfl) ?_
    cases hB3 : (decide (v2.2.f2 = 0)) with
    | false =>
      skip
      refine .seg tabOk 6 4 [0, 2, 4, 5, 23] [0, 32, 80] (t := [(0, (.ptr (0, 0) 0)), (2, (.ptr (32, 1) 0)), (4, (vI v1.1)), (5, (.ptr (80, 7) 0)), (23, (.val (.bool false)))]) (h := [(0, ⟨0, .live, false, [(.ro 1 v2.2.f0.length (flat E_B v2.2.f0)), (vI v2.2.f1), (vI v2.2.f2)]⟩), (32, ⟨1, .live, true, [(vI 0), (vI 0), (vI 0), (vI 0), (vI 0), (vI 0), (vI 0)]⟩), (80, ⟨7, .live, true, [(vI v2.1), (vI 0), (vI 0), (vI 16384), (vI 0), (vI 0), (vI 16384)]⟩)]) (ep := 11) (by kernel_rfl) ?_
      refine .fin rfl ?_
      exact jkN (by exact .tn [((0, 0), (0, 0)), ((32, 1), (32, 1)), ((80, 7), (80, 7))] ⟨rfl, rfl, rfl, rfl, rfl, trivial⟩ ⟨rfl, ⟨_, rfl, rfl⟩, ⟨rfl, ⟨_, rfl, rfl⟩, ⟨rfl, ⟨_, rfl, rfl⟩, trivial⟩⟩⟩ rfl) rfl
    | true =>
      skip
      refine .seg tabOk 6 4 [0, 2, 4, 5, 23] [0, 32, 80] (t := [(0, (.ptr (0, 0) 0)), (2, (.ptr (32, 1) 0)), (4, (vI v1.1)), (5, (.ptr (80, 7) 0)), (23, (.val (.bool (decide ((bits .and .i64 v1.1 2) = 0)))))]) (h := [(0, ⟨0, .live, false, [(.ro 1 v2.2.f0.length (flat E_B v2.2.f0)), (vI v2.2.f1), (vI v2.2.f2)]⟩), (32, ⟨1, .live, true, [(vI 0), (vI 0), (vI 0), (vI 0), (vI 0), (vI 0), (vI 0)]⟩), (80, ⟨7, .live, true, [(vI v2.1), (vI 0), (vI 0), (vI 16384), (vI 0), (vI 0), (vI 16384)]⟩)]) (ep := 11) (by kernel_rfl) ?_
      refine .fin rfl ?_
      exact jkN (by exact .tn [((0, 0), (0, 0)), ((32, 1), (32, 1)), ((80, 7), (80, 7))] ⟨rfl, rfl, rfl, rfl, rfl, trivial⟩ ⟨rfl, ⟨_, rfl, rfl⟩, ⟨rfl, ⟨_, rfl, rfl⟩, ⟨rfl, ⟨_, rfl, rfl⟩, trivial⟩⟩⟩ rfl) rfl
  · rintro _ rfl
    refine sqN ?_
    refine .join (fun s' => s' = ⟨[(0, (.ptr (0, 0) 0)), (2, (.ptr (32, 1) 0)), (4, (vI v1.1)), (5, (.ptr (80, 7) 0))], [(0, ⟨0, .live, false, [(.ro 1 v2.2.f0.length (flat E_B v2.2.f0)), (vI v2.2.f1), (vI (if ((decide (v2.2.f2 = 0)) && (decide ((bits .and .i64 v1.1 2) = 0))) then 9 else v2.2.f2))]⟩), (32, ⟨1, .live, true, [(vI 0), (vI 0), (vI 0), (vI 0), (vI 0), (vI 0), (vI 0)]⟩), (80, ⟨7, .live, true, [(vI v2.1), (vI 0), (vI 0), (vI 16384), (vI 0), (vI 0), (vI 16384)]⟩)], 15⟩) ?_ ?_
    · refine .cond ((decide (v2.2.f2 = 0)) && (decide ((bits .and .i64 v1.1 2) = 0))) rfl (fun hc4 => ?_) (fun hc4 => ?_)
      · skip
        refine .rgI rfl ?_
        refine .seg tabOk 0 4 [0, 2, 4, 5] [0, 32, 80] (t := [(0, (.ptr (0, 0) 0)), (2, (.ptr (32, 1) 0)), (4, (vI v1.1)), (5, (.ptr (80, 7) 0))]) (h := [(0, ⟨0, .live, false, [(.ro 1 v2.2.f0.length (flat E_B v2.2.f0)), (vI v2.2.f1), (vI 9)]⟩), (32, ⟨1, .live, true, [(vI 0), (vI 0), (vI 0), (vI 0), (vI 0), (vI 0), (vI 0)]⟩), (80, ⟨7, .live, true, [(vI v2.1), (vI 0), (vI 0), (vI 16384), (vI 0), (vI 0), (vI 16384)]⟩)]) (ep := 14) (by kernel_rfl) ?_
        refine .fin rfl ?_
        exact jkN (by exact .tn [((0, 0), (0, 0)), ((32, 1), (32, 1)), ((80, 7), (80, 7))] ⟨(by (try rw [hc4]); rfl), (by (try rw [hc4]); rfl), (by (try rw [hc4]); rfl), (by (try rw [hc4]); rfl), trivial⟩ ⟨rfl, ⟨_, rfl, (by (try rw [hc4]); exact rfl)⟩, ⟨rfl, ⟨_, rfl, (by (try rw [hc4]); exact rfl)⟩, ⟨rfl, ⟨_, rfl, (by (try rw [hc4]); exact rfl)⟩, trivial⟩⟩⟩ rfl) rfl
      · skip
        refine .skip ?_
        exact jkN (by exact .tn [((0, 0), (0, 0)), ((32, 1), (32, 1)), ((80, 7), (80, 7))] ⟨(by (try rw [hc4]); rfl), (by (try rw [hc4]); rfl), (by (try rw [hc4]); rfl), (by (try rw [hc4]); rfl), trivial⟩ ⟨rfl, ⟨_, rfl, (by (try rw [hc4]); exact rfl)⟩, ⟨rfl, ⟨_, rfl, (by (try rw [hc4]); exact rfl)⟩, ⟨rfl, ⟨_, rfl, (by (try rw [hc4]); exact rfl)⟩, trivial⟩⟩⟩ rfl) rfl
    · rintro _ rfl
      refine sqN ?_
      refine .seq ?_
      refine .rgI rfl ?_
      refine .seg tabOk 0 4 [0, 2, 4, 5, 6] [0, 32, 80] (t := [(0, (.ptr (0, 0) 0)), (2, (.ptr (32, 1) 0)), (4, (vI v1.1)), (5, (.ptr (80, 7) 0)), (6, (vI (w64 (1 + (bits .and .i64 v1.1 1)))))]) (h := [(0, ⟨0, .live, false, [(.ro 1 v2.2.f0.length (flat E_B v2.2.f0)), (vI v2.2.f1), (vI (if ((decide (v2.2.f2 = 0)) && (decide ((bits .and .i64 v1.1 2) = 0))) then 9 else v2.2.f2))]⟩), (32, ⟨1, .live, true, [(vI 0), (vI 0), (vI 0), (vI 0), (vI 0), (vI 0), (vI 0)]⟩), (80, ⟨7, .live, true, [(vI v2.1), (vI 0), (vI 0), (vI 16384), (vI 0), (vI 0), (vI 16384)]⟩)]) (ep := 17) (by kernel_rfl) ?_
      refine .fin rfl ?_
      refine sqN ?_
      refine .seq ?_
      refine .rgI rfl ?_
      refine .seg tabOk 0 2 [0, 2, 4, 5, 6, 30, 31] [0, 32, 80] (t := [(0, (.ptr (0, 0) 0)), (2, (.ptr (32, 1) 0)), (4, (vI v1.1)), (5, (.ptr (80, 7) 0)), (6, (vI (w64 (1 + (bits .and .i64 v1.1 1))))), (30, (.ptr (0, 0) 0)), (31, (vI (w64 (1 + (bits .and .i64 v1.1 1)))))]) (h := [(0, ⟨0, .live, false, [(.ro 1 v2.2.f0.length (flat E_B v2.2.f0)), (vI v2.2.f1), (vI (if ((decide (v2.2.f2 = 0)) && (decide ((bits .and .i64 v1.1 2) = 0))) then 9 else v2.2.f2))]⟩), (32, ⟨1, .live, true, [(vI 0), (vI 0), (vI 0), (vI 0), (vI 0), (vI 0), (vI 0)]⟩), (80, ⟨7, .live, true, [(vI v2.1), (vI 0), (vI 0), (vI 16384), (vI 0), (vI 0), (vI 16384)]⟩)]) (ep := 19) (by kernel_rfl) ?_
      obtain ⟨v5, hv5, h⟩ := bS h
      refine .cc true rfl rfl (C_compo_reader_s _ _ _ _ hv5) ent_compo_reader_s rfl rfl rfl rfl (g_cons (g_pl rfl rfl) (g_cons (g_pl rfl rfl) g_nil)) rfl ?_
      refine .seg tabOk 3 2 [0, 2, 4, 5, 6] [0, 32, 80] (t := [(0, (.ptr (0, 0) 0)), (2, (.ptr (32, 1) 0)), (4, (vI v1.1)), (5, (.ptr (80, 7) 0)), (6, (vI (w64 (1 + (bits .and .i64 v1.1 1)))))]) (h := [(0, ⟨0, .live, false, [(.ro 1 v5.2.f0.length (flat E_B v5.2.f0)), (vI v5.2.f1), (vI v5.2.f2)]⟩), (32, ⟨1, .live, true, [(vI 0), (vI 0), (vI 0), (vI 0), (vI 0), (vI 0), (vI 0)]⟩), (80, ⟨7, .live, true, [(vI v2.1), (vI v5.1), (vI 0), (vI 16384), (vI 0), (vI 0), (vI 16384)]⟩)]) (ep := 20) (by kernel_rfl) ?_
      refine .fin rfl ?_
      refine sqN ?_
      refine .seq ?_
      refine .rgI rfl ?_
      refine .seg tabOk 0 2 [0, 2, 4, 5, 34, 35] [0, 32, 80] (t := [(0, (.ptr (0, 0) 0)), (2, (.ptr (32, 1) 0)), (4, (vI v1.1)), (5, (.ptr (80, 7) 0)), (34, (.ptr (0, 0) 0)), (35, (vI (w64 (1 + (bits .and .i64 v1.1 1)))))]) (h := [(0, ⟨0, .live, false, [(.ro 1 v5.2.f0.length (flat E_B v5.2.f0)), (vI v5.2.f1), (vI v5.2.f2)]⟩), (32, ⟨1, .live, true, [(vI 0), (vI 0), (vI 0), (vI 0), (vI 0), (vI 0), (vI 0)]⟩), (80, ⟨7, .live, true, [(vI v2.1), (vI v5.1), (vI 0), (vI 16384), (vI 0), (vI 0), (vI 16384)]⟩)]) (ep := 22) (by kernel_rfl) ?_
      obtain ⟨v6, hv6, h⟩ := bS h
      refine .cc true rfl rfl (C_compo_reader_s _ _ _ _ hv6) ent_compo_reader_s rfl rfl rfl rfl (g_cons (g_pl rfl rfl) (g_cons (g_pl rfl rfl) g_nil)) rfl ?_
      refine .seg tabOk 3 2 [0, 2, 4, 5] [0, 32, 80] (t := [(0, (.ptr (0, 0) 0)), (2, (.ptr (32, 1) 0)), (4, (vI v1.1)), (5, (.ptr (80, 7) 0))]) (h := [(0, ⟨0, .live, false, [(.ro 1 v6.2.f0.length (flat E_B v6.2.f0)), (vI v6.2.f1), (vI v6.2.f2)]⟩), (32, ⟨1, .live, true, [(vI 0), (vI 0), (vI 0), (vI 0), (vI 0), (vI 0), (vI 0)]⟩), (80, ⟨7, .live, true, [(vI v2.1), (vI v5.1), (vI v6.1), (vI 16384), (vI 0), (vI 0), (vI 16384)]⟩)]) (ep := 23) (by kernel_rfl) ?_
      refine .fin rfl ?_
      refine sqN ?_
      refine .seq ?_
      obtain ⟨j7, hj7, h⟩ := ljS h
      refine .join (fun s' => ∃ x33 x34 x35 x36 x37 x38 x39, s' = ⟨[(2, (.ptr (32, 1) 0)), (4, (vI v1.1)), (5, (.ptr (80, 7) 0))], [(0, ⟨0, .live, false, [(.ro 1 x33.length (flat E_B x33)), (vI x34), (vI x35)]⟩), (32, ⟨1, .live, true, [(vI 0), (vI 0), (vI 0), (vI 0), (vI 0), (vI 0), (vI 0)]⟩), (80, ⟨7, .live, true, [(vI v2.1), (vI v5.1), (vI v6.1), (vI x36), (vI x37), (vI x38), (vI x39)]⟩)], 36⟩ ∧ j7 x33 x34 x35 x36 x37 x38 x39 = some r) ?_ ?_
      · refine .block ?_
        refine .seq ?_
        refine .rgI rfl ?_
        refine .seg tabOk 0 4 [0, 2, 4, 5, 38] [0, 32, 80] (t := [(0, (.ptr (0, 0) 0)), (2, (.ptr (32, 1) 0)), (4, (vI v1.1)), (5, (.ptr (80, 7) 0)), (38, (.val (.bool (!decide ((bits .and .i64 v1.1 8) = 0)))))]) (h := [(0, ⟨0, .live, false, [(.ro 1 v6.2.f0.length (flat E_B v6.2.f0)), (vI v6.2.f1), (vI v6.2.f2)]⟩), (32, ⟨1, .live, true, [(vI 0), (vI 0), (vI 0), (vI 0), (vI 0), (vI 0), (vI 0)]⟩), (80, ⟨7, .live, true, [(vI v2.1), (vI v5.1), (vI v6.1), (vI 16384), (vI 0), (vI 0), (vI 16384)]⟩)]) (ep := 25) (by kernel_rfl) ?_
        refine .fin rfl ?_
        refine sqN ?_
        refine .cond (!decide ((bits .and .i64 v1.1 8) = 0)) rfl (fun hc8 => ?_) (fun hc8 => ?_)
        · have h := iT h hc8
          refine .seq ?_
          refine .rgI rfl ?_
          refine .seg tabOk 0 1 [2, 4, 5, 42] [0, 32, 80] (t := [(2, (.ptr (32, 1) 0)), (4, (vI v1.1)), (5, (.ptr (80, 7) 0)), (42, (.ptr (0, 0) 0))]) (h := [(0, ⟨0, .live, false, [(.ro 1 v6.2.f0.length (flat E_B v6.2.f0)), (vI v6.2.f1), (vI v6.2.f2)]⟩), (32, ⟨1, .live, true, [(vI 0), (vI 0), (vI 0), (vI 0), (vI 0), (vI 0), (vI 0)]⟩), (80, ⟨7, .live, true, [(vI v2.1), (vI v5.1), (vI v6.1), (vI 16384), (vI 0), (vI 0), (vI 16384)]⟩)]) (ep := 27) (by kernel_rfl) ?_
          obtain ⟨v9, hv9, h⟩ := bS h
          refine .cc true rfl rfl (C_compo_reader_s _ _ _ _ hv9) ent_compo_reader_s rfl rfl rfl rfl (g_cons (g_pl rfl rfl) (g_cons (g_pl rfl rfl) g_nil)) rfl ?_
          refine .seg tabOk 2 3 [2, 4, 5] [0, 32, 80] (t := [(2, (.ptr (32, 1) 0)), (4, (vI v1.1)), (5, (.ptr (80, 7) 0))]) (h := [(0, ⟨0, .live, false, [(.ro 1 v9.2.f0.length (flat E_B v9.2.f0)), (vI v9.2.f1), (vI v9.2.f2)]⟩), (32, ⟨1, .live, true, [(vI 0), (vI 0), (vI 0), (vI 0), (vI 0), (vI 0), (vI 0)]⟩), (80, ⟨7, .live, true, [(vI v2.1), (vI v5.1), (vI v6.1), (vI v9.1), (vI 0), (vI 0), (vI 16384)]⟩)]) (ep := 28) (by kernel_rfl) ?_
          refine .fin rfl ?_
          refine sqN ?_
          refine .rgI rfl ?_
          refine .seg tabOk 0 6 [2, 4, 5] [0, 32, 80] (t := [(2, (.ptr (32, 1) 0)), (4, (vI v1.1)), (5, (.ptr (80, 7) 0))]) (h := [(0, ⟨0, .live, false, [(.ro 1 v9.2.f0.length (flat E_B v9.2.f0)), (vI v9.2.f1), (vI v9.2.f2)]⟩), (32, ⟨1, .live, true, [(vI 0), (vI 0), (vI 0), (vI 0), (vI 0), (vI 0), (vI 0)]⟩), (80, ⟨7, .live, true, [(vI v2.1), (vI v5.1), (vI v6.1), (vI v9.1), (vI 0), (vI 0), (vI v9.1)]⟩)]) (ep := 30) (by kernel_rfl) ?_
          refine .fin rfl ?_
          refine bkN ?_
          exact jkN (by exact .tn [((0, 0), (0, 0)), ((32, 1), (32, 1)), ((80, 7), (80, 7))] ⟨rfl, rfl, rfl, trivial⟩ ⟨rfl, ⟨_, rfl, rfl⟩, ⟨rfl, ⟨_, rfl, rfl⟩, ⟨rfl, ⟨_, rfl, rfl⟩, trivial⟩⟩⟩ rfl) ⟨_, _, _, _, _, _, _, rfl, h⟩
        · have h := iF h hc8
          refine .seq ?_
          refine .rgI rfl ?_
          refine .seg tabOk 0 4 [0, 2, 4, 5, 51] [0, 32, 80] (t := [(0, (.ptr (0, 0) 0)), (2, (.ptr (32, 1) 0)), (4, (vI v1.1)), (5, (.ptr (80, 7) 0)), (51, (.val (.bool (!decide ((bits .and .i64 v1.1 64) = 0)))))]) (h := [(0, ⟨0, .live, false, [(.ro 1 v6.2.f0.length (flat E_B v6.2.f0)), (vI v6.2.f1), (vI v6.2.f2)]⟩), (32, ⟨1, .live, true, [(vI 0), (vI 0), (vI 0), (vI 0), (vI 0), (vI 0), (vI 0)]⟩), (80, ⟨7, .live, true, [(vI v2.1), (vI v5.1), (vI v6.1), (vI 16384), (vI 0), (vI 0), (vI 16384)]⟩)]) (ep := 27) (by kernel_rfl) ?_
          refine .fin rfl ?_
          refine sqN ?_
          refine .cond (!decide ((bits .and .i64 v1.1 64) = 0)) rfl (fun hc10 => ?_) (fun hc10 => ?_)
          · have h := iT h hc10
            refine .seq ?_
            refine .rgI rfl ?_
            refine .seg tabOk 0 1 [0, 2, 4, 5, 55] [0, 32, 80] (t := [(0, (.ptr (0, 0) 0)), (2, (.ptr (32, 1) 0)), (4, (vI v1.1)), (5, (.ptr (80, 7) 0)), (55, (.ptr (0, 0) 0))]) (h := [(0, ⟨0, .live, false, [(.ro 1 v6.2.f0.length (flat E_B v6.2.f0)), (vI v6.2.f1), (vI v6.2.f2)]⟩), (32, ⟨1, .live, true, [(vI 0), (vI 0), (vI 0), (vI 0), (vI 0), (vI 0), (vI 0)]⟩), (80, ⟨7, .live, true, [(vI v2.1), (vI v5.1), (vI v6.1), (vI 16384), (vI 0), (vI 0), (vI 16384)]⟩)]) (ep := 29) (by kernel_rfl) ?_
            obtain ⟨v11, hv11, h⟩ := bS h
            refine .cc true rfl rfl (C_compo_reader_s _ _ _ _ hv11) ent_compo_reader_s rfl rfl rfl rfl (g_cons (g_pl rfl rfl) (g_cons (g_pl rfl rfl) g_nil)) rfl ?_
            refine .seg tabOk 2 3 [0, 2, 4, 5] [0, 32, 80] (t := [(0, (.ptr (0, 0) 0)), (2, (.ptr (32, 1) 0)), (4, (vI v1.1)), (5, (.ptr (80, 7) 0))]) (h := [(0, ⟨0, .live, false, [(.ro 1 v11.2.f0.length (flat E_B v11.2.f0)), (vI v11.2.f1), (vI v11.2.f2)]⟩), (32, ⟨1, .live, true, [(vI 0), (vI 0), (vI 0), (vI 0), (vI 0), (vI 0), (vI 0)]⟩), (80, ⟨7, .live, true, [(vI v2.1), (vI v5.1), (vI v6.1), (vI v11.1), (vI 0), (vI 0), (vI 16384)]⟩)]) (ep := 30) (by kernel_rfl) ?_
            refine .fin rfl ?_
            refine sqN ?_
            refine .rgI rfl ?_
            refine .seg tabOk 0 1 [2, 4, 5, 59] [0, 32, 80] (t := [(2, (.ptr (32, 1) 0)), (4, (vI v1.1)), (5, (.ptr (80, 7) 0)), (59, (.ptr (0, 0) 0))]) (h := [(0, ⟨0, .live, false, [(.ro 1 v11.2.f0.length (flat E_B v11.2.f0)), (vI v11.2.f1), (vI v11.2.f2)]⟩), (32, ⟨1, .live, true, [(vI 0), (vI 0), (vI 0), (vI 0), (vI 0), (vI 0), (vI 0)]⟩), (80, ⟨7, .live, true, [(vI v2.1), (vI v5.1), (vI v6.1), (vI v11.1), (vI 0), (vI 0), (vI 16384)]⟩)]) (ep := 32) (by kernel_rfl) ?_
            obtain ⟨v12, hv12, h⟩ := bS h
            refine .cc true rfl rfl (C_compo_reader_s _ _ _ _ hv12) ent_compo_reader_s rfl rfl rfl rfl (g_cons (g_pl rfl rfl) (g_cons (g_pl rfl rfl) g_nil)) rfl ?_
            refine .seg tabOk 2 3 [2, 4, 5] [0, 32, 80] (t := [(2, (.ptr (32, 1) 0)), (4, (vI v1.1)), (5, (.ptr (80, 7) 0))]) (h := [(0, ⟨0, .live, false, [(.ro 1 v12.2.f0.length (flat E_B v12.2.f0)), (vI v12.2.f1), (vI v12.2.f2)]⟩), (32, ⟨1, .live, true, [(vI 0), (vI 0), (vI 0), (vI 0), (vI 0), (vI 0), (vI 0)]⟩), (80, ⟨7, .live, true, [(vI v2.1), (vI v5.1), (vI v6.1), (vI v11.1), (vI 0), (vI 0), (vI v12.1)]⟩)]) (ep := 33) (by kernel_rfl) ?_
            refine .fin rfl ?_
            refine bkN ?_
            exact jkN (by exact .tn [((0, 0), (0, 0)), ((32, 1), (32, 1)), ((80, 7), (80, 7))] ⟨rfl, rfl, rfl, trivial⟩ ⟨rfl, ⟨_, rfl, rfl⟩, ⟨rfl, ⟨_, rfl, rfl⟩, ⟨rfl, ⟨_, rfl, rfl⟩, trivial⟩⟩⟩ rfl) ⟨_, _, _, _, _, _, _, rfl, h⟩
          · have h := iF h hc10
            refine .seq ?_
            refine .rgI rfl ?_
            refine .seg tabOk 0 4 [0, 2, 4, 5, 63] [0, 32, 80] (t := [(0, (.ptr (0, 0) 0)), (2, (.ptr (32, 1) 0)), (4, (vI v1.1)), (5, (.ptr (80, 7) 0)), (63, (.val (.bool (!decide ((bits .and .i64 v1.1 128) = 0)))))]) (h := [(0, ⟨0, .live, false, [(.ro 1 v6.2.f0.length (flat E_B v6.2.f0)), (vI v6.2.f1), (vI v6.2.f2)]⟩), (32, ⟨1, .live, true, [(vI 0), (vI 0), (vI 0), (vI 0), (vI 0), (vI 0), (vI 0)]⟩), (80, ⟨7, .live, true, [(vI v2.1), (vI v5.1), (vI v6.1), (vI 16384), (vI 0), (vI 0), (vI 16384)]⟩)]) (ep := 29) (by kernel_rfl) ?_
            refine .fin rfl ?_
            refine sqN ?_
            refine .cond (!decide ((bits .and .i64 v1.1 128) = 0)) rfl (fun hc13 => ?_) (fun hc13 => ?_)
            · have h := iT h hc13
              refine .seq ?_
              refine .rgI rfl ?_
              refine .seg tabOk 0 1 [0, 2, 4, 5, 67] [0, 32, 80] (t := [(0, (.ptr (0, 0) 0)), (2, (.ptr (32, 1) 0)), (4, (vI v1.1)), (5, (.ptr (80, 7) 0)), (67, (vI 0))]) (h := [(0, ⟨0, .live, false, [(.ro 1 v6.2.f0.length (flat E_B v6.2.f0)), (vI v6.2.f1), (vI v6.2.f2)]⟩), (32, ⟨1, .live, true, [(vI 0), (vI 0), (vI 0), (vI 0), (vI 0), (vI 0), (vI 0)]⟩), (80, ⟨7, .live, true, [(vI v2.1), (vI v5.1), (vI v6.1), (vI 16384), (vI 0), (vI 0), (vI 16384)]⟩)]) (ep := 31) (by kernel_rfl) ?_
              refine .fin rfl ?_
              refine sqN ?_
              obtain ⟨j14, hj14, h⟩ := ljS h
              refine .join (fun s' => ∃ x26 x27 x28 x29 x30 x31 x32, s' = ⟨[(2, (.ptr (32, 1) 0)), (4, (vI v1.1)), (5, (.ptr (80, 7) 0))], [(0, ⟨0, .live, false, [(.ro 1 x26.length (flat E_B x26)), (vI x27), (vI x28)]⟩), (32, ⟨1, .live, true, [(vI 0), (vI 0), (vI 0), (vI 0), (vI 0), (vI 0), (vI 0)]⟩), (80, ⟨7, .live, true, [(vI v2.1), (vI v5.1), (vI v6.1), (vI x29), (vI x30), (vI x31), (vI x32)]⟩)], 35⟩ ∧ j14 x26 x27 x28 x29 x30 x31 x32 = some r) ?_ ?_
              · refine .block ?_
                refine .loopF (β := (List Int) × Int × Int × Int × Int × Int × Int × Int) (fun v => ⟨[(0, (.ptr (0, 0) 0)), (2, (.ptr (32, 1) 0)), (4, (vI v1.1)), (5, (.ptr (80, 7) 0)), (67, (vI v.2.2.2.2.2.2.2))], [(0, ⟨0, .live, false, [(.ro 1 v.1.length (flat E_B v.1)), (vI v.2.1), (vI v.2.2.1)]⟩), (32, ⟨1, .live, true, [(vI 0), (vI 0), (vI 0), (vI 0), (vI 0), (vI 0), (vI 0)]⟩), (80, ⟨7, .live, true, [(vI v2.1), (vI v5.1), (vI v6.1), (vI v.2.2.2.1), (vI v.2.2.2.2.1), (vI v.2.2.2.2.2.1), (vI v.2.2.2.2.2.2.1)]⟩)], 32⟩) (fun m v => L_compo_reader_part_0 j14 m v.1 v.2.1 v.2.2.1 v.2.2.2.1 v.2.2.2.2.1 v.2.2.2.2.2.1 v.2.2.2.2.2.2.1 v.2.2.2.2.2.2.2 = some r) n (v6.2.f0, v6.2.f1, v6.2.f2, 16384, 0, 0, 16384, 0) (by exact .tn [((0, 0), (0, 0)), ((32, 1), (32, 1)), ((80, 7), (80, 7))] ⟨rfl, rfl, rfl, rfl, rfl, trivial⟩ ⟨rfl, ⟨_, rfl, rfl⟩, ⟨rfl, ⟨_, rfl, rfl⟩, ⟨rfl, ⟨_, rfl, rfl⟩, trivial⟩⟩⟩ rfl) h ?_
                rintro m ⟨y15, y16, y17, y18, y19, y20, y21, y22⟩ h
                cases m with
                | zero => exact nomatch h
                | succ n =>
                  rw [L_compo_reader_part_0] at h
                  refine .seq ?_
                  refine .rgI rfl ?_
                  refine .seg tabOk 0 1 [0, 2, 4, 5, 67, 68] [0, 32, 80] (t := [(0, (.ptr (0, 0) 0)), (2, (.ptr (32, 1) 0)), (4, (vI v1.1)), (5, (.ptr (80, 7) 0)), (67, (vI y22)), (68, (.val (.bool (decide (y22 < 4)))))]) (h := [(0, ⟨0, .live, false, [(.ro 1 y15.length (flat E_B y15)), (vI y16), (vI y17)]⟩), (32, ⟨1, .live, true, [(vI 0), (vI 0), (vI 0), (vI 0), (vI 0), (vI 0), (vI 0)]⟩), (80, ⟨7, .live, true, [(vI v2.1), (vI v5.1), (vI v6.1), (vI y18), (vI y19), (vI y20), (vI y21)]⟩)]) (ep := 34) (by kernel_rfl) ?_
                  refine .fin rfl ?_
                  refine sqN ?_
                  refine .seq ?_
                  refine .cond (decide (y22 < 4)) rfl (fun hc23 => ?_) (fun hc23 => ?_)
                  · have h := iT h hc23
                    refine .skip ?_
                    refine sqN ?_
                    refine .seq ?_
                    refine .block ?_
                    refine .seq ?_
                    refine .rgI rfl ?_
                    refine .seg tabOk 0 2 [0, 2, 4, 5, 7, 67] [0, 32, 80] (t := [(0, (.ptr (0, 0) 0)), (2, (.ptr (32, 1) 0)), (4, (vI v1.1)), (5, (.ptr (80, 7) 0)), (7, (vI y22)), (67, (vI y22))]) (h := [(0, ⟨0, .live, false, [(.ro 1 y15.length (flat E_B y15)), (vI y16), (vI y17)]⟩), (32, ⟨1, .live, true, [(vI 0), (vI 0), (vI 0), (vI 0), (vI 0), (vI 0), (vI 0)]⟩), (80, ⟨7, .live, true, [(vI v2.1), (vI v5.1), (vI v6.1), (vI y18), (vI y19), (vI y20), (vI y21)]⟩)]) (ep := 36) (by kernel_rfl) ?_
                    refine .fin rfl ?_
                    refine sqN ?_
                    refine .rgI rfl ?_
                    refine .seg tabOk 0 2 [0, 2, 4, 5, 67, 70, 71] [0, 32, 80] (t := [(0, (.ptr (0, 0) 0)), (2, (.ptr (32, 1) 0)), (4, (vI v1.1)), (5, (.ptr (80, 7) 0)), (67, (vI y22)), (70, (vI y22)), (71, (.ptr (0, 0) 0))]) (h := [(0, ⟨0, .live, false, [(.ro 1 y15.length (flat E_B y15)), (vI y16), (vI y17)]⟩), (32, ⟨1, .live, true, [(vI 0), (vI 0), (vI 0), (vI 0), (vI 0), (vI 0), (vI 0)]⟩), (80, ⟨7, .live, true, [(vI v2.1), (vI v5.1), (vI v6.1), (vI y18), (vI y19), (vI y20), (vI y21)]⟩)]) (ep := 38) (by kernel_rfl) ?_
                    obtain ⟨v24, hv24, h⟩ := bS h
                    refine .cc true rfl rfl (C_compo_reader_s _ _ _ _ hv24) ent_compo_reader_s rfl rfl rfl rfl (g_cons (g_pl rfl rfl) (g_cons (g_pl rfl rfl) g_nil)) rfl ?_
                    refine .seg tabOk 3 1 [0, 2, 4, 5, 67, 70, 72, 73] [0, 32, 80] (t := [(0, (.ptr (0, 0) 0)), (2, (.ptr (32, 1) 0)), (4, (vI v1.1)), (5, (.ptr (80, 7) 0)), (67, (vI y22)), (70, (vI y22)), (72, (vI v24.1)), (73, (.ptr (80, 7) 3))]) (h := [(0, ⟨0, .live, false, [(.ro 1 v24.2.f0.length (flat E_B v24.2.f0)), (vI v24.2.f1), (vI v24.2.f2)]⟩), (32, ⟨1, .live, true, [(vI 0), (vI 0), (vI 0), (vI 0), (vI 0), (vI 0), (vI 0)]⟩), (80, ⟨7, .live, true, [(vI v2.1), (vI v5.1), (vI v6.1), (vI y18), (vI y19), (vI y20), (vI y21)]⟩)]) (ep := 39) (by kernel_rfl) ?_
                    obtain ⟨hb25, h⟩ := gS h
                    refine .oo tabOk rfl rfl rfl (q_iaA rfl rfl rfl rfl rfl rfl hb25) ?_
                    refine .oo tabOk rfl rfl rfl (q_stA E_i (l := ([y18, y19, y20, y21] : List Int)) (v := v24.1) rfl rfl rfl rfl rfl rfl rfl rfl hb25) ?_
                    refine .seg tabOk 6 0 [0, 2, 4, 5, 67] [0, 32, 80] (t := [(0, (.ptr (0, 0) 0)), (2, (.ptr (32, 1) 0)), (4, (vI v1.1)), (5, (.ptr (80, 7) 0)), (67, (vI y22))]) (h := [(0, ⟨0, .live, false, [(.ro 1 v24.2.f0.length (flat E_B v24.2.f0)), (vI v24.2.f1), (vI v24.2.f2)]⟩), (32, ⟨1, .live, true, [(vI 0), (vI 0), (vI 0), (vI 0), (vI 0), (vI 0), (vI 0)]⟩), (80, ⟨7, .live, true, [(vI v2.1), (vI v5.1), (vI v6.1), (vI (if y22 = 0 then v24.1 else y18)), (vI (if y22 = 1 then v24.1 else y19)), (vI (if y22 = 2 then v24.1 else y20)), (vI (if y22 = 3 then v24.1 else y21))]⟩)]) (ep := 40) (by kernel_rfl) ?_
                    refine .fin rfl ?_
                    refine bkN ?_
                    refine sqN ?_
                    refine .rgI rfl ?_
                    refine .seg tabOk 0 2 [0, 2, 4, 5, 67] [0, 32, 80] (t := [(0, (.ptr (0, 0) 0)), (2, (.ptr (32, 1) 0)), (4, (vI v1.1)), (5, (.ptr (80, 7) 0)), (67, (vI (w64 (y22 + 1))))]) (h := [(0, ⟨0, .live, false, [(.ro 1 v24.2.f0.length (flat E_B v24.2.f0)), (vI v24.2.f1), (vI v24.2.f2)]⟩), (32, ⟨1, .live, true, [(vI 0), (vI 0), (vI 0), (vI 0), (vI 0), (vI 0), (vI 0)]⟩), (80, ⟨7, .live, true, [(vI v2.1), (vI v5.1), (vI v6.1), (vI (if y22 = 0 then v24.1 else y18)), (vI (if y22 = 1 then v24.1 else y19)), (vI (if y22 = 2 then v24.1 else y20)), (vI (if y22 = 3 then v24.1 else y21))]⟩)]) (ep := 42) (by kernel_rfl) ?_
                    refine .fin rfl ?_
                    exact jkN (by exact .tn [((0, 0), (0, 0)), ((32, 1), (32, 1)), ((80, 7), (80, 7))] ⟨rfl, rfl, rfl, rfl, rfl, trivial⟩ ⟨rfl, ⟨_, rfl, rfl⟩, ⟨rfl, ⟨_, rfl, rfl⟩, ⟨rfl, ⟨_, rfl, rfl⟩, trivial⟩⟩⟩ rfl) ⟨n, (v24.2.f0, v24.2.f1, v24.2.f2, (if y22 = 0 then v24.1 else y18), (if y22 = 1 then v24.1 else y19), (if y22 = 2 then v24.1 else y20), (if y22 = 3 then v24.1 else y21), (w64 (y22 + 1))), Nat.lt_succ_self n, rfl, h⟩
                  · have h := iF h hc23
                    refine .exit ?_
                    refine sqX ?_
                    refine jkX ?_
                    refine bkE ?_
                    exact jkN (by exact .tn [((0, 0), (0, 0)), ((32, 1), (32, 1)), ((80, 7), (80, 7))] ⟨rfl, rfl, rfl, trivial⟩ ⟨rfl, ⟨_, rfl, rfl⟩, ⟨rfl, ⟨_, rfl, rfl⟩, ⟨rfl, ⟨_, rfl, rfl⟩, trivial⟩⟩⟩ rfl) ⟨_, _, _, _, _, _, _, rfl, h⟩
              · rintro _ ⟨x26, x27, x28, x29, x30, x31, x32, rfl, h⟩
                subst hj14
                refine bkN ?_
                exact jkN (by exact .tn [((0, 0), (0, 0)), ((32, 1), (32, 1)), ((80, 7), (80, 7))] ⟨rfl, rfl, rfl, trivial⟩ ⟨rfl, ⟨_, rfl, rfl⟩, ⟨rfl, ⟨_, rfl, rfl⟩, ⟨rfl, ⟨_, rfl, rfl⟩, trivial⟩⟩⟩ rfl) ⟨_, _, _, _, _, _, _, rfl, h⟩
            · have h := iF h hc13
              refine .skip ?_
              refine bkN ?_
              exact jkN (by exact .tn [((0, 0), (0, 0)), ((32, 1), (32, 1)), ((80, 7), (80, 7))] ⟨rfl, rfl, rfl, trivial⟩ ⟨rfl, ⟨_, rfl, rfl⟩, ⟨rfl, ⟨_, rfl, rfl⟩, ⟨rfl, ⟨_, rfl, rfl⟩, trivial⟩⟩⟩ rfl) ⟨_, _, _, _, _, _, _, rfl, h⟩
      · rintro _ ⟨x33, x34, x35, x36, x37, x38, x39, rfl, h⟩
        subst hj7
        refine sqN ?_
        refine .seq ?_
        refine .rgI rfl ?_
        refine .seg tabOk 0 4 [2, 3] [0, 32] (t := [(2, (.ptr (32, 1) 0)), (3, (vI v1.1))]) (h := [(0, ⟨0, .live, false, [(.ro 1 x33.length (flat E_B x33)), (vI x34), (vI x35)]⟩), (32, ⟨1, .live, true, [(vI v2.1), (vI v5.1), (vI v6.1), (vI x36), (vI x37), (vI x38), (vI x39)]⟩)]) (ep := 38) (by kernel_rfl) ?_
        refine .fin rfl ?_
        refine sqN ?_
        refine .ret ?_
        injection h with h
        subst h
        exact ⟨.inr rfl, _, _, rfl, List.nodup_nil, rfl, rfl⟩
abbrev R_be_Cut := (List Int) × Int
def F_be_Cut (n : Nat) (a0 : (List Int)) (a1 : Int) (a2 : Int) : Option R_be_Cut :=
  Option.bind (F_be_there n a0 a1 a2) fun v1 =>
  if (!v1) then
    some (([] : List Int), 3)
  else
  gd (0 ≤ a1 ∧ a1 ≤ (w64 (a1 + a2)) ∧ (w64 (a1 + a2)) ≤ (a0.length : Int)) <|
  gd (fits (([] : List Int).length + (slc a0 a1 (w64 (a1 + a2))).length) 1 = true) <|
  some ((([] : List Int) ++ (slc a0 a1 (w64 (a1 + a2)))), 0)
theorem C_be_Cut (n : Nat) (a0 : (List Int)) (a1 : Int) (a2 : Int) (r : R_be_Cut) (h : F_be_Cut n a0 a1 a2 = some r) : CallS Try.prog 35 [(.ro 1 a0.length (flat E_B a0)), (vI a1), (vI a2)] (.tup [(.own 1 r.1.length (flat E_B r.1)), (vI r.2)]) [none, none, none] := by
  refine CallS.introK tabOk Try.func35 rfl Try.ntmps35 (Nat.le_of_ble_eq_true rfl) ?_
  rw [F_be_Cut] at h
  refine .seq ?_
  refine .rgI rfl ?_
  refine .seg tabOk 0 2 [0, 1, 2] [] (t := [(0, (.ro 1 a0.length (flat E_B a0))), (1, (vI a1)), (2, (vI a2))]) (h := []) (ep := 2) (by kernel_rfl) ?_
  refine .fin rfl ?_
  refine sqN ?_
  refine .seq ?_
  refine .seq ?_
  refine .rgI rfl ?_
  refine .seg tabOk 0 3 [0, 1, 2, 8, 9, 10] [] (t := [(0, (.ro 1 a0.length (flat E_B a0))), (1, (vI a1)), (2, (vI a2)), (8, (.ro 1 a0.length (flat E_B a0))), (9, (vI a1)), (10, (vI a2))]) (h := []) (ep := 4) (by kernel_rfl) ?_
  obtain ⟨v1, hv1, h⟩ := bS h
  refine .cc true rfl rfl (C_be_there _ _ _ _ _ hv1) ent_be_there rfl rfl rfl rfl (g_cons (g_pl rfl rfl) (g_cons (g_pl rfl rfl) (g_cons (g_pl rfl rfl) g_nil))) rfl ?_
  refine .seg tabOk 4 1 [0, 1, 2, 12] [] (t := [(0, (.ro 1 a0.length (flat E_B a0))), (1, (vI a1)), (2, (vI a2)), (12, (.val (.bool (!v1))))]) (h := []) (ep := 5) (by kernel_rfl) ?_
  refine .fin rfl ?_
  refine sqN ?_
  refine .cond (!v1) rfl (fun hc2 => ?_) (fun hc2 => ?_)
  · have h := iT h hc2
    refine .seq ?_
    refine .rgI rfl ?_
    refine .seg tabOk 0 2 [6, 7] [] (t := [(6, .nils), (7, (vI 3))]) (h := []) (ep := 7) (by kernel_rfl) ?_
    refine .fin rfl ?_
    refine sqN ?_
    refine .pre (.nilRow 6 1 111 rfl (fresh_none rfl)) ?_
    refine .ret ?_
    refine sqR ?_
    injection h with h
    subst h
    exact ⟨.inr rfl, _, _, (f_cons (f_tmp rfl (o1_row E_B ([] : List Int) rfl rfl rfl rfl rfl)) (f_cons rfl f_nil)), nd_of rfl, rfl, rfl⟩
  · have h := iF h hc2
    refine .skip ?_
    refine sqN ?_
    refine .seq ?_
    refine .rgI rfl ?_
    refine .seg tabOk 0 6 [13, 14, 15, 18] [208] (t := [(13, (.sref (208, 6) 0 ([] : List Int).length 1)), (14, (.ro 1 a0.length (flat E_B a0))), (15, (vI a1)), (18, (vI (w64 (a1 + a2))))]) (h := [(208, ⟨6, .live, true, flat E_B ([] : List Int)⟩)]) (ep := 7) (by kernel_rfl) ?_
    obtain ⟨hb3, h⟩ := gS h
    refine .o tabOk rfl rfl rfl (q_slLH E_B rfl rfl rfl rfl rfl rfl rfl hb3) ?_
    obtain ⟨hb4, h⟩ := gS h
    refine .oo tabOk rfl rfl rfl (q_app E_B (l := ([] : List Int)) rfl rfl rfl rfl rfl rfl rfl rfl rfl rfl rfl rfl rfl (.ro (slc a0 a1 (w64 (a1 + a2)))) hb4) ?_
    refine .seg tabOk 8 2 [6, 7] [320] (t := [(6, (.sref (320, 7) 0 (([] : List Int) ++ (slc a0 a1 (w64 (a1 + a2)))).length 1)), (7, (vI 0))]) (h := [(320, ⟨7, .live, true, flat E_B (([] : List Int) ++ (slc a0 a1 (w64 (a1 + a2))))⟩)]) (ep := 8) (by kernel_rfl) ?_
    refine .fin rfl ?_
    refine sqN ?_
    refine .ret ?_
    injection h with h
    subst h
    exact ⟨.inr rfl, _, _, (f_cons (f_tmp rfl (o1_row E_B (([] : List Int) ++ (slc a0 a1 (w64 (a1 + a2)))) rfl rfl rfl rfl rfl)) (f_cons rfl f_nil)), nd_of rfl, rfl, rfl⟩
abbrev R_compo_Read := (List T_SiiiA4ie) × (List Int) × Int
def L_compo_Read_0 (a0 : (List Int)) : Nat → (List Int) → Int → Int → (List T_SiiiA4ie) → Option R_compo_Read
  | 0, _, _, _, _ => none
  | n + 1, y1, y2, y3, y4 =>
    Option.bind (F_compo_reader_part n (⟨y1, y2, y3⟩ : T_SLBiie)) fun v5 =>
    if (!decide (v5.2.2.f2 = 0)) then
      some (([] : List T_SiiiA4ie), ([] : List Int), v5.2.2.f2)
    else
    gd (fits (y4.length + ([v5.1] : List T_SiiiA4ie).length) 56 = true) <|
    if (!decide ((bits .and .i64 v5.2.1 32) = 0)) then
      if (decide (64 ≤ ((y4 ++ ([v5.1] : List T_SiiiA4ie)).length : Int))) then
        some (([] : List T_SiiiA4ie), ([] : List Int), 7)
      else
      L_compo_Read_0 a0 n v5.2.2.f0 v5.2.2.f1 v5.2.2.f2 (y4 ++ ([v5.1] : List T_SiiiA4ie))
    else
    if (decide ((bits .and .i64 v5.2.1 256) = 0)) then
      some ((y4 ++ ([v5.1] : List T_SiiiA4ie)), ([] : List Int), 0)
    else
    Option.bind (F_compo_reader_u n v5.2.2) fun v11 =>
    if (!decide (v11.2.f2 = 0)) then
      some (([] : List T_SiiiA4ie), ([] : List Int), v11.2.f2)
    else
    Option.bind (F_be_Cut n a0 v11.2.f1 v11.1) fun v13 =>
    if (!decide (v13.2 = 0)) then
      some (([] : List T_SiiiA4ie), ([] : List Int), v13.2)
    else
    some ((y4 ++ ([v5.1] : List T_SiiiA4ie)), v13.1, 0)
def F_compo_Read (n : Nat) (a0 : (List Int)) : Option R_compo_Read :=
  if (decide ((a0.length : Int) < 10)) then
    some (([] : List T_SiiiA4ie), ([] : List Int), 3)
  else
  Option.bind (F_compo_reader_s n (⟨a0, 0, 0⟩ : T_SLBiie) 2) fun v16 =>
  if (decide (0 ≤ v16.1)) then
    some (([] : List T_SiiiA4ie), ([] : List Int), 11)
  else
  Option.bind (F_compo_reader_part n (⟨v16.2.f0, 10, v16.2.f2⟩ : T_SLBiie)) fun v18 =>
  if (!decide (v18.2.2.f2 = 0)) then
    some (([] : List T_SiiiA4ie), ([] : List Int), v18.2.2.f2)
  else
  gd (fits ([v18.1] : List T_SiiiA4ie).length 56 = true) <|
  if (!decide ((bits .and .i64 v18.2.1 32) = 0)) then
    if (decide (64 ≤ (([v18.1] : List T_SiiiA4ie).length : Int))) then
      some (([] : List T_SiiiA4ie), ([] : List Int), 7)
    else
    L_compo_Read_0 a0 n v18.2.2.f0 v18.2.2.f1 v18.2.2.f2 ([v18.1] : List T_SiiiA4ie)
  else
  if (decide ((bits .and .i64 v18.2.1 256) = 0)) then
    some (([v18.1] : List T_SiiiA4ie), ([] : List Int), 0)
  else
  Option.bind (F_compo_reader_u n v18.2.2) fun v24 =>
  if (!decide (v24.2.f2 = 0)) then
    some (([] : List T_SiiiA4ie), ([] : List Int), v24.2.f2)
  else
  Option.bind (F_be_Cut n a0 v24.2.f1 v24.1) fun v26 =>
  if (!decide (v26.2 = 0)) then
    some (([] : List T_SiiiA4ie), ([] : List Int), v26.2)
  else
  some (([v18.1] : List T_SiiiA4ie), v26.1, 0)
theorem C_compo_Read (n : Nat) (a0 : (List Int)) (r : R_compo_Read) (h : F_compo_Read n a0 = some r) : CallS Try.prog 16 [(.ro 1 a0.length (flat E_B a0))] (.tup [(.own 7 r.1.length (flat E_SiiiA4ie r.1)), (.own 1 r.2.1.length (flat E_B r.2.1)), (vI r.2.2)]) [none] := by
  refine CallS.introK tabOk Try.func16 rfl Try.ntmps16 (Nat.le_of_ble_eq_true rfl) ?_
  rw [F_compo_Read] at h
  refine .seq ?_
  refine .rgI rfl ?_
  refine .seg tabOk 0 3 [0] [] (t := [(0, (.ro 1 a0.length (flat E_B a0)))]) (h := []) (ep := 2) (by kernel_rfl) ?_
  refine .fin rfl ?_
  refine sqN ?_
  refine .scopeF (l := 0) rfl (β := (List Int) × Int × Int × (List T_SiiiA4ie)) (fun v => ⟨[(0, (.ro 1 a0.length (flat E_B a0))), (5, (.ptr (272, 5) 0)), (6, (.sref (656, 20) 0 v.2.2.2.length 7))], [(272, ⟨5, .live, false, [(.ro 1 v.1.length (flat E_B v.1)), (vI v.2.1), (vI v.2.2.1)]⟩), (656, ⟨20, .live, true, flat E_SiiiA4ie v.2.2.2⟩)], 26⟩) (fun m v => L_compo_Read_0 a0 m v.1 v.2.1 v.2.2.1 v.2.2.2 = some r) n ?_ ?_
  · refine .seq ?_
    refine .seq ?_
    refine .rgI rfl ?_
    refine .seg tabOk 0 3 [0, 14] [] (t := [(0, (.ro 1 a0.length (flat E_B a0))), (14, (.val (.bool (decide ((a0.length : Int) < 10)))))]) (h := []) (ep := 4) (by kernel_rfl) ?_
    refine .fin rfl ?_
    refine sqN ?_
    refine .cond (decide ((a0.length : Int) < 10)) rfl (fun hc15 => ?_) (fun hc15 => ?_)
    · have h := iT h hc15
      refine .seq ?_
      refine .rgI rfl ?_
      refine .seg tabOk 0 3 [2, 3, 4] [] (t := [(2, .nils), (3, .nils), (4, (vI 3))]) (h := []) (ep := 6) (by kernel_rfl) ?_
      refine .fin rfl ?_
      refine sqN ?_
      refine .pre (.nilRow 2 7 47 rfl (fresh_none rfl)) ?_
      refine .pre (.nilRow 3 1 63 rfl (fresh_none rfl)) ?_
      refine .ret ?_
      refine sqR ?_
      refine scR ?_
      injection h with h
      subst h
      exact ⟨.inr rfl, _, _, (f_cons (f_tmp rfl (o1_row E_SiiiA4ie ([] : List T_SiiiA4ie) rfl rfl rfl rfl rfl)) (f_cons (f_tmp rfl (o1_row E_B ([] : List Int) rfl rfl rfl rfl rfl)) (f_cons rfl f_nil))), nd_of rfl, rfl, rfl⟩
    · have h := iF h hc15
      refine .skip ?_
      refine sqN ?_
      refine .seq ?_
      refine .rgI rfl ?_
      refine .seg tabOk 0 4 [0, 5] [272] (t := [(0, (.ro 1 a0.length (flat E_B a0))), (5, (.ptr (272, 5) 0))]) (h := [(272, ⟨5, .live, false, [(.ro 1 a0.length (flat E_B a0)), (vI 0), (vI 0)]⟩)]) (ep := 6) (by kernel_rfl) ?_
      refine .fin rfl ?_
      refine sqN ?_
      refine .seq ?_
      refine .seq ?_
      refine .rgI rfl ?_
      refine .seg tabOk 0 1 [0, 5, 18] [272] (t := [(0, (.ro 1 a0.length (flat E_B a0))), (5, (.ptr (272, 5) 0)), (18, (.ptr (272, 5) 0))]) (h := [(272, ⟨5, .live, false, [(.ro 1 a0.length (flat E_B a0)), (vI 0), (vI 0)]⟩)]) (ep := 8) (by kernel_rfl) ?_
      obtain ⟨v16, hv16, h⟩ := bS h
      refine .cc true rfl rfl (C_compo_reader_s _ _ _ _ hv16) ent_compo_reader_s rfl rfl rfl rfl (g_cons (g_pl rfl rfl) (g_cons (g_pl rfl rfl) g_nil)) rfl ?_
      refine .seg tabOk 2 1 [0, 5, 20] [272] (t := [(0, (.ro 1 a0.length (flat E_B a0))), (5, (.ptr (272, 5) 0)), (20, (.val (.bool (decide (0 ≤ v16.1)))))]) (h := [(272, ⟨5, .live, false, [(.ro 1 v16.2.f0.length (flat E_B v16.2.f0)), (vI v16.2.f1), (vI v16.2.f2)]⟩)]) (ep := 9) (by kernel_rfl) ?_
      refine .fin rfl ?_
      refine sqN ?_
      refine .cond (decide (0 ≤ v16.1)) rfl (fun hc17 => ?_) (fun hc17 => ?_)
      · have h := iT h hc17
        refine .seq ?_
        refine .rgI rfl ?_
        refine .seg tabOk 0 3 [2, 3, 4] [] (t := [(2, .nils), (3, .nils), (4, (vI 11))]) (h := []) (ep := 11) (by kernel_rfl) ?_
        refine .fin rfl ?_
        refine sqN ?_
        refine .pre (.nilRow 2 7 47 rfl (fresh_none rfl)) ?_
        refine .pre (.nilRow 3 1 63 rfl (fresh_none rfl)) ?_
        refine .ret ?_
        refine sqR ?_
        refine scR ?_
        injection h with h
        subst h
        exact ⟨.inr rfl, _, _, (f_cons (f_tmp rfl (o1_row E_SiiiA4ie ([] : List T_SiiiA4ie) rfl rfl rfl rfl rfl)) (f_cons (f_tmp rfl (o1_row E_B ([] : List Int) rfl rfl rfl rfl rfl)) (f_cons rfl f_nil))), nd_of rfl, rfl, rfl⟩
      · have h := iF h hc17
        refine .skip ?_
        refine sqN ?_
        refine .seq ?_
        refine .rgI rfl ?_
        refine .seg tabOk 0 4 [0, 5] [272] (t := [(0, (.ro 1 a0.length (flat E_B a0))), (5, (.ptr (272, 5) 0))]) (h := [(272, ⟨5, .live, false, [(.ro 1 v16.2.f0.length (flat E_B v16.2.f0)), (vI 10), (vI v16.2.f2)]⟩)]) (ep := 11) (by kernel_rfl) ?_
        refine .fin rfl ?_
        refine sqN ?_
        refine .seq ?_
        refine .rgI rfl ?_
        refine .seg tabOk 0 1 [0, 5, 6] [272] (t := [(0, (.ro 1 a0.length (flat E_B a0))), (5, (.ptr (272, 5) 0)), (6, .nils)]) (h := [(272, ⟨5, .live, false, [(.ro 1 v16.2.f0.length (flat E_B v16.2.f0)), (vI 10), (vI v16.2.f2)]⟩)]) (ep := 13) (by kernel_rfl) ?_
        refine .fin rfl ?_
        refine sqN ?_
        refine .seq ?_
        refine .label ?_
        refine sqN ?_
        refine .seq ?_
        refine .rgI rfl ?_
        refine .seg tabOk 0 1 [0, 5, 6, 25] [272] (t := [(0, (.ro 1 a0.length (flat E_B a0))), (5, (.ptr (272, 5) 0)), (6, .nils), (25, (.ptr (272, 5) 0))]) (h := [(272, ⟨5, .live, false, [(.ro 1 v16.2.f0.length (flat E_B v16.2.f0)), (vI 10), (vI v16.2.f2)]⟩)]) (ep := 15) (by kernel_rfl) ?_
        obtain ⟨v18, hv18, h⟩ := bS h
        refine .cc true rfl rfl (C_compo_reader_part _ _ _ hv18) ent_compo_reader_part rfl rfl rfl rfl (g_cons (g_pl rfl rfl) g_nil) rfl ?_
        refine .seg tabOk 2 6 [0, 5, 6, 7, 8] [112, 272] (t := [(0, (.ro 1 a0.length (flat E_B a0))), (5, (.ptr (272, 5) 0)), (6, .nils), (7, (.ptr (112, 15) 0)), (8, (vI v18.2.1))]) (h := [(112, ⟨15, .live, true, [(vI v18.1.f0), (vI v18.1.f1), (vI v18.1.f2), (vI v18.1.f3.a0), (vI v18.1.f3.a1), (vI v18.1.f3.a2), (vI v18.1.f3.a3)]⟩), (272, ⟨5, .live, false, [(.ro 1 v18.2.2.f0.length (flat E_B v18.2.2.f0)), (vI v18.2.2.f1), (vI v18.2.2.f2)]⟩)]) (ep := 16) (by kernel_rfl) ?_
        refine .fin rfl ?_
        refine sqN ?_
        refine .seq ?_
        refine .seq ?_
        refine .rgI rfl ?_
        refine .seg tabOk 0 5 [0, 5, 6, 7, 8, 33] [112, 272] (t := [(0, (.ro 1 a0.length (flat E_B a0))), (5, (.ptr (272, 5) 0)), (6, .nils), (7, (.ptr (112, 15) 0)), (8, (vI v18.2.1)), (33, (.val (.bool (!decide (v18.2.2.f2 = 0)))))]) (h := [(112, ⟨15, .live, true, [(vI v18.1.f0), (vI v18.1.f1), (vI v18.1.f2), (vI v18.1.f3.a0), (vI v18.1.f3.a1), (vI v18.1.f3.a2), (vI v18.1.f3.a3)]⟩), (272, ⟨5, .live, false, [(.ro 1 v18.2.2.f0.length (flat E_B v18.2.2.f0)), (vI v18.2.2.f1), (vI v18.2.2.f2)]⟩)]) (ep := 18) (by kernel_rfl) ?_
        refine .fin rfl ?_
        refine sqN ?_
        refine .cond (!decide (v18.2.2.f2 = 0)) rfl (fun hc19 => ?_) (fun hc19 => ?_)
        · have h := iT h hc19
          refine .seq ?_
          refine .rgD rfl ?_
          refine .seg tabOk 0 7 [2, 3, 4] [112, 272] (t := [(2, .nils), (3, .nils), (4, (vI v18.2.2.f2))]) (h := [(112, ⟨15, .live, true, [(vI v18.1.f0), (vI v18.1.f1), (vI v18.1.f2), (vI v18.1.f3.a0), (vI v18.1.f3.a1), (vI v18.1.f3.a2), (vI v18.1.f3.a3)]⟩), (272, ⟨5, .live, false, [(.ro 1 v18.2.2.f0.length (flat E_B v18.2.2.f0)), (vI v18.2.2.f1), (vI v18.2.2.f2)]⟩)]) (ep := 19) (by kernel_rfl) ?_
          refine .fin mixed [2, 3, 4] [] (t := [(2, .nils), (3, .nils), (4, (vI v18.2.2.f2))]) (h := []) (ep := 20) rfl (by kernel_rfl) rfl ?_
          refine sqN ?_
          refine .pre (.nilRow 2 7 47 rfl (fresh_none rfl)) ?_
          refine .pre (.nilRow 3 1 63 rfl (fresh_none rfl)) ?_
          refine .ret ?_
          refine sqR ?_
          refine scR ?_
          injection h with h
          subst h
          exact ⟨.inr rfl, _, _, (f_cons (f_tmp rfl (o1_row E_SiiiA4ie ([] : List T_SiiiA4ie) rfl rfl rfl rfl rfl)) (f_cons (f_tmp rfl (o1_row E_B ([] : List Int) rfl rfl rfl rfl rfl)) (f_cons rfl f_nil))), nd_of rfl, rfl, rfl⟩
        · have h := iF h hc19
          refine .skip ?_
          refine sqN ?_
          refine .seq ?_
          refine .rgI rfl ?_
          refine .seg tabOk 0 3 [0, 5, 8, 38, 40] [272, 640] (t := [(0, (.ro 1 a0.length (flat E_B a0))), (5, (.ptr (272, 5) 0)), (8, (vI v18.2.1)), (38, .nils), (40, (.sref (640, 19) 0 ([v18.1] : List T_SiiiA4ie).length 7))]) (h := [(272, ⟨5, .live, false, [(.ro 1 v18.2.2.f0.length (flat E_B v18.2.2.f0)), (vI v18.2.2.f1), (vI v18.2.2.f2)]⟩), (640, ⟨19, .live, true, flat E_SiiiA4ie ([v18.1] : List T_SiiiA4ie)⟩)]) (ep := 20) (by kernel_rfl) ?_
          obtain ⟨hb20, h⟩ := gS h
          refine .oo tabOk rfl rfl rfl (q_appN E_SiiiA4ie rfl rfl rfl rfl rfl rfl rfl rfl (.row ([v18.1] : List T_SiiiA4ie) rfl rfl rfl rfl) hb20) ?_
          refine .seg tabOk 4 1 [0, 5, 6, 8] [272, 656] (t := [(0, (.ro 1 a0.length (flat E_B a0))), (5, (.ptr (272, 5) 0)), (6, (.sref (656, 20) 0 ([v18.1] : List T_SiiiA4ie).length 7)), (8, (vI v18.2.1))]) (h := [(272, ⟨5, .live, false, [(.ro 1 v18.2.2.f0.length (flat E_B v18.2.2.f0)), (vI v18.2.2.f1), (vI v18.2.2.f2)]⟩), (656, ⟨20, .live, true, flat E_SiiiA4ie ([v18.1] : List T_SiiiA4ie)⟩)]) (ep := 21) (by kernel_rfl) ?_
          refine .fin rfl ?_
          refine sqN ?_
          refine .seq ?_
          refine .seq ?_
          refine .rgI rfl ?_
          refine .seg tabOk 0 3 [0, 5, 6, 8, 44] [272, 656] (t := [(0, (.ro 1 a0.length (flat E_B a0))), (5, (.ptr (272, 5) 0)), (6, (.sref (656, 20) 0 ([v18.1] : List T_SiiiA4ie).length 7)), (8, (vI v18.2.1)), (44, (.val (.bool (!decide ((bits .and .i64 v18.2.1 32) = 0)))))]) (h := [(272, ⟨5, .live, false, [(.ro 1 v18.2.2.f0.length (flat E_B v18.2.2.f0)), (vI v18.2.2.f1), (vI v18.2.2.f2)]⟩), (656, ⟨20, .live, true, flat E_SiiiA4ie ([v18.1] : List T_SiiiA4ie)⟩)]) (ep := 23) (by kernel_rfl) ?_
          refine .fin rfl ?_
          refine sqN ?_
          refine .cond (!decide ((bits .and .i64 v18.2.1 32) = 0)) rfl (fun hc21 => ?_) (fun hc21 => ?_)
          · have h := iT h hc21
            refine .seq ?_
            refine .seq ?_
            refine .rgI rfl ?_
            refine .seg tabOk 0 3 [0, 5, 6, 47] [272, 656] (t := [(0, (.ro 1 a0.length (flat E_B a0))), (5, (.ptr (272, 5) 0)), (6, (.sref (656, 20) 0 ([v18.1] : List T_SiiiA4ie).length 7)), (47, (.val (.bool (decide (64 ≤ (([v18.1] : List T_SiiiA4ie).length : Int))))))]) (h := [(272, ⟨5, .live, false, [(.ro 1 v18.2.2.f0.length (flat E_B v18.2.2.f0)), (vI v18.2.2.f1), (vI v18.2.2.f2)]⟩), (656, ⟨20, .live, true, flat E_SiiiA4ie ([v18.1] : List T_SiiiA4ie)⟩)]) (ep := 25) (by kernel_rfl) ?_
            refine .fin rfl ?_
            refine sqN ?_
            refine .cond (decide (64 ≤ (([v18.1] : List T_SiiiA4ie).length : Int))) rfl (fun hc22 => ?_) (fun hc22 => ?_)
            · have h := iT h hc22
              refine .seq ?_
              refine .rgI rfl ?_
              refine .seg tabOk 0 3 [2, 3, 4] [] (t := [(2, .nils), (3, .nils), (4, (vI 7))]) (h := []) (ep := 27) (by kernel_rfl) ?_
              refine .fin rfl ?_
              refine sqN ?_
              refine .pre (.nilRow 2 7 47 rfl (fresh_none rfl)) ?_
              refine .pre (.nilRow 3 1 63 rfl (fresh_none rfl)) ?_
              refine .ret ?_
              refine sqR ?_
              refine sqR ?_
              refine scR ?_
              injection h with h
              subst h
              exact ⟨.inr rfl, _, _, (f_cons (f_tmp rfl (o1_row E_SiiiA4ie ([] : List T_SiiiA4ie) rfl rfl rfl rfl rfl)) (f_cons (f_tmp rfl (o1_row E_B ([] : List Int) rfl rfl rfl rfl rfl)) (f_cons rfl f_nil))), nd_of rfl, rfl, rfl⟩
            · have h := iF h hc22
              refine .skip ?_
              refine sqN ?_
              refine .goto ?_
              refine sqG ?_
              exact scJ (by exact .tn [((272, 5), (272, 5)), ((656, 20), (656, 20))] ⟨rfl, rfl, rfl, trivial⟩ ⟨rfl, ⟨_, rfl, rfl⟩, ⟨rfl, ⟨_, rfl, ah_row E_SiiiA4ie⟩, trivial⟩⟩ rfl) ⟨(v18.2.2.f0, v18.2.2.f1, v18.2.2.f2, ([v18.1] : List T_SiiiA4ie)), rfl, h⟩
          · have h := iF h hc21
            refine .skip ?_
            refine sqN ?_
            refine .seq ?_
            refine .seq ?_
            refine .rgI rfl ?_
            refine .seg tabOk 0 3 [0, 5, 6, 50] [272, 656] (t := [(0, (.ro 1 a0.length (flat E_B a0))), (5, (.ptr (272, 5) 0)), (6, (.sref (656, 20) 0 ([v18.1] : List T_SiiiA4ie).length 7)), (50, (.val (.bool (decide ((bits .and .i64 v18.2.1 256) = 0)))))]) (h := [(272, ⟨5, .live, false, [(.ro 1 v18.2.2.f0.length (flat E_B v18.2.2.f0)), (vI v18.2.2.f1), (vI v18.2.2.f2)]⟩), (656, ⟨20, .live, true, flat E_SiiiA4ie ([v18.1] : List T_SiiiA4ie)⟩)]) (ep := 25) (by kernel_rfl) ?_
            refine .fin rfl ?_
            refine sqN ?_
            refine .cond (decide ((bits .and .i64 v18.2.1 256) = 0)) rfl (fun hc23 => ?_) (fun hc23 => ?_)
            · have h := iT h hc23
              refine .seq ?_
              refine .rgI rfl ?_
              refine .seg tabOk 0 4 [2, 3, 4] [656] (t := [(2, (.sref (656, 20) 0 ([v18.1] : List T_SiiiA4ie).length 7)), (3, .nils), (4, (vI 0))]) (h := [(656, ⟨20, .live, true, flat E_SiiiA4ie ([v18.1] : List T_SiiiA4ie)⟩)]) (ep := 27) (by kernel_rfl) ?_
              refine .fin rfl ?_
              refine sqN ?_
              refine .pre (.nilRow 3 1 63 rfl (fresh_none rfl)) ?_
              refine .ret ?_
              refine sqR ?_
              refine scR ?_
              injection h with h
              subst h
              exact ⟨.inr rfl, _, _, (f_cons (f_tmp rfl (o1_row E_SiiiA4ie ([v18.1] : List T_SiiiA4ie) rfl rfl rfl rfl rfl)) (f_cons (f_tmp rfl (o1_row E_B ([] : List Int) rfl rfl rfl rfl rfl)) (f_cons rfl f_nil))), nd_of rfl, rfl, rfl⟩
            · have h := iF h hc23
              refine .skip ?_
              refine sqN ?_
              refine .seq ?_
              refine .rgI rfl ?_
              refine .seg tabOk 0 1 [0, 5, 6, 52] [272, 656] (t := [(0, (.ro 1 a0.length (flat E_B a0))), (5, (.ptr (272, 5) 0)), (6, (.sref (656, 20) 0 ([v18.1] : List T_SiiiA4ie).length 7)), (52, (.ptr (272, 5) 0))]) (h := [(272, ⟨5, .live, false, [(.ro 1 v18.2.2.f0.length (flat E_B v18.2.2.f0)), (vI v18.2.2.f1), (vI v18.2.2.f2)]⟩), (656, ⟨20, .live, true, flat E_SiiiA4ie ([v18.1] : List T_SiiiA4ie)⟩)]) (ep := 27) (by kernel_rfl) ?_
              obtain ⟨v24, hv24, h⟩ := bS h
              refine .cc true rfl rfl (C_compo_reader_u _ _ _ hv24) ent_compo_reader_u rfl rfl rfl rfl (g_cons (g_pl rfl rfl) g_nil) rfl ?_
              refine .seg tabOk 2 1 [0, 5, 6, 9] [272, 656] (t := [(0, (.ro 1 a0.length (flat E_B a0))), (5, (.ptr (272, 5) 0)), (6, (.sref (656, 20) 0 ([v18.1] : List T_SiiiA4ie).length 7)), (9, (vI v24.1))]) (h := [(272, ⟨5, .live, false, [(.ro 1 v24.2.f0.length (flat E_B v24.2.f0)), (vI v24.2.f1), (vI v24.2.f2)]⟩), (656, ⟨20, .live, true, flat E_SiiiA4ie ([v18.1] : List T_SiiiA4ie)⟩)]) (ep := 28) (by kernel_rfl) ?_
              refine .fin rfl ?_
              refine sqN ?_
              refine .seq ?_
              refine .seq ?_
              refine .rgI rfl ?_
              refine .seg tabOk 0 5 [0, 5, 6, 9, 58] [272, 656] (t := [(0, (.ro 1 a0.length (flat E_B a0))), (5, (.ptr (272, 5) 0)), (6, (.sref (656, 20) 0 ([v18.1] : List T_SiiiA4ie).length 7)), (9, (vI v24.1)), (58, (.val (.bool (!decide (v24.2.f2 = 0)))))]) (h := [(272, ⟨5, .live, false, [(.ro 1 v24.2.f0.length (flat E_B v24.2.f0)), (vI v24.2.f1), (vI v24.2.f2)]⟩), (656, ⟨20, .live, true, flat E_SiiiA4ie ([v18.1] : List T_SiiiA4ie)⟩)]) (ep := 30) (by kernel_rfl) ?_
              refine .fin rfl ?_
              refine sqN ?_
              refine .cond (!decide (v24.2.f2 = 0)) rfl (fun hc25 => ?_) (fun hc25 => ?_)
              · have h := iT h hc25
                refine .seq ?_
                refine .rgD rfl ?_
                refine .seg tabOk 0 7 [2, 3, 4] [272, 656] (t := [(2, .nils), (3, .nils), (4, (vI v24.2.f2))]) (h := [(272, ⟨5, .live, false, [(.ro 1 v24.2.f0.length (flat E_B v24.2.f0)), (vI v24.2.f1), (vI v24.2.f2)]⟩), (656, ⟨20, .live, true, flat E_SiiiA4ie ([v18.1] : List T_SiiiA4ie)⟩)]) (ep := 31) (by kernel_rfl) ?_
                refine .fin mixed [2, 3, 4] [] (t := [(2, .nils), (3, .nils), (4, (vI v24.2.f2))]) (h := []) (ep := 32) rfl (by kernel_rfl) rfl ?_
                refine sqN ?_
                refine .pre (.nilRow 2 7 47 rfl (fresh_none rfl)) ?_
                refine .pre (.nilRow 3 1 63 rfl (fresh_none rfl)) ?_
                refine .ret ?_
                refine sqR ?_
                refine scR ?_
                injection h with h
                subst h
                exact ⟨.inr rfl, _, _, (f_cons (f_tmp rfl (o1_row E_SiiiA4ie ([] : List T_SiiiA4ie) rfl rfl rfl rfl rfl)) (f_cons (f_tmp rfl (o1_row E_B ([] : List Int) rfl rfl rfl rfl rfl)) (f_cons rfl f_nil))), nd_of rfl, rfl, rfl⟩
              · have h := iF h hc25
                refine .skip ?_
                refine sqN ?_
                refine .seq ?_
                refine .rgI rfl ?_
                refine .seg tabOk 0 6 [6, 64, 68, 69] [656] (t := [(6, (.sref (656, 20) 0 ([v18.1] : List T_SiiiA4ie).length 7)), (64, (.ro 1 a0.length (flat E_B a0))), (68, (vI v24.2.f1)), (69, (vI v24.1))]) (h := [(656, ⟨20, .live, true, flat E_SiiiA4ie ([v18.1] : List T_SiiiA4ie)⟩)]) (ep := 32) (by kernel_rfl) ?_
                obtain ⟨v26, hv26, h⟩ := bS h
                refine .cc true rfl rfl (C_be_Cut _ _ _ _ _ hv26) ent_be_Cut rfl rfl rfl rfl (g_cons (g_pl rfl rfl) (g_cons (g_pl rfl rfl) (g_cons (g_pl rfl rfl) g_nil))) rfl ?_
                refine .seg tabOk 7 5 [6, 10, 11] [656, 1120] (t := [(6, (.sref (656, 20) 0 ([v18.1] : List T_SiiiA4ie).length 7)), (10, (.sref (1120, 32) 0 v26.1.length 1)), (11, (vI v26.2))]) (h := [(656, ⟨20, .live, true, flat E_SiiiA4ie ([v18.1] : List T_SiiiA4ie)⟩), (1120, ⟨32, .live, true, flat E_B v26.1⟩)]) (ep := 33) (by kernel_rfl) ?_
                refine .fin rfl ?_
                refine sqN ?_
                refine .seq ?_
                refine .seq ?_
                refine .rgI rfl ?_
                refine .seg tabOk 0 2 [6, 10, 11, 74] [656, 1120] (t := [(6, (.sref (656, 20) 0 ([v18.1] : List T_SiiiA4ie).length 7)), (10, (.sref (1120, 32) 0 v26.1.length 1)), (11, (vI v26.2)), (74, (.val (.bool (!decide (v26.2 = 0)))))]) (h := [(656, ⟨20, .live, true, flat E_SiiiA4ie ([v18.1] : List T_SiiiA4ie)⟩), (1120, ⟨32, .live, true, flat E_B v26.1⟩)]) (ep := 35) (by kernel_rfl) ?_
                refine .fin rfl ?_
                refine sqN ?_
                refine .cond (!decide (v26.2 = 0)) rfl (fun hc27 => ?_) (fun hc27 => ?_)
                · have h := iT h hc27
                  refine .seq ?_
                  refine .rgI rfl ?_
                  refine .seg tabOk 0 4 [2, 3, 4] [] (t := [(2, .nils), (3, .nils), (4, (vI v26.2))]) (h := []) (ep := 37) (by kernel_rfl) ?_
                  refine .fin rfl ?_
                  refine sqN ?_
                  refine .pre (.nilRow 2 7 47 rfl (fresh_none rfl)) ?_
                  refine .pre (.nilRow 3 1 63 rfl (fresh_none rfl)) ?_
                  refine .ret ?_
                  refine sqR ?_
                  refine scR ?_
                  injection h with h
                  subst h
                  exact ⟨.inr rfl, _, _, (f_cons (f_tmp rfl (o1_row E_SiiiA4ie ([] : List T_SiiiA4ie) rfl rfl rfl rfl rfl)) (f_cons (f_tmp rfl (o1_row E_B ([] : List Int) rfl rfl rfl rfl rfl)) (f_cons rfl f_nil))), nd_of rfl, rfl, rfl⟩
                · have h := iF h hc27
                  refine .skip ?_
                  refine sqN ?_
                  refine .seq ?_
                  refine .rgI rfl ?_
                  refine .seg tabOk 0 5 [2, 3, 4] [656, 1120] (t := [(2, (.sref (656, 20) 0 ([v18.1] : List T_SiiiA4ie).length 7)), (3, (.sref (1120, 32) 0 v26.1.length 1)), (4, (vI 0))]) (h := [(656, ⟨20, .live, true, flat E_SiiiA4ie ([v18.1] : List T_SiiiA4ie)⟩), (1120, ⟨32, .live, true, flat E_B v26.1⟩)]) (ep := 37) (by kernel_rfl) ?_
                  refine .fin rfl ?_
                  refine sqN ?_
                  refine .ret ?_
                  refine scR ?_
                  injection h with h
                  subst h
                  exact ⟨.inr rfl, _, _, (f_cons (f_tmp rfl (o1_row E_SiiiA4ie ([v18.1] : List T_SiiiA4ie) rfl rfl rfl rfl rfl)) (f_cons (f_tmp rfl (o1_row E_B v26.1 rfl rfl rfl rfl rfl)) (f_cons rfl f_nil))), nd_of rfl, rfl, rfl⟩
  · rintro m ⟨y1, y2, y3, y4⟩ h
    cases m with
    | zero => exact nomatch h
    | succ n =>
      rw [L_compo_Read_0] at h
      refine .seq ?_
      refine .skip ?_
      refine sqN ?_
      refine .seq ?_
      refine .rgI rfl ?_
      refine .seg tabOk 0 1 [0, 5, 6, 25] [272, 656] (t := [(0, (.ro 1 a0.length (flat E_B a0))), (5, (.ptr (272, 5) 0)), (6, (.sref (656, 20) 0 y4.length 7)), (25, (.ptr (272, 5) 0))]) (h := [(272, ⟨5, .live, false, [(.ro 1 y1.length (flat E_B y1)), (vI y2), (vI y3)]⟩), (656, ⟨20, .live, true, flat E_SiiiA4ie y4⟩)]) (ep := 28) (by kernel_rfl) ?_
      obtain ⟨v5, hv5, h⟩ := bS h
      refine .cc true rfl rfl (C_compo_reader_part _ _ _ hv5) ent_compo_reader_part rfl rfl rfl rfl (g_cons (g_pl rfl rfl) g_nil) rfl ?_
      refine .seg tabOk 2 6 [0, 5, 6, 7, 8] [112, 272, 656] (t := [(0, (.ro 1 a0.length (flat E_B a0))), (5, (.ptr (272, 5) 0)), (6, (.sref (656, 20) 0 y4.length 7)), (7, (.ptr (112, 28) 0)), (8, (vI v5.2.1))]) (h := [(112, ⟨28, .live, true, [(vI v5.1.f0), (vI v5.1.f1), (vI v5.1.f2), (vI v5.1.f3.a0), (vI v5.1.f3.a1), (vI v5.1.f3.a2), (vI v5.1.f3.a3)]⟩), (272, ⟨5, .live, false, [(.ro 1 v5.2.2.f0.length (flat E_B v5.2.2.f0)), (vI v5.2.2.f1), (vI v5.2.2.f2)]⟩), (656, ⟨20, .live, true, flat E_SiiiA4ie y4⟩)]) (ep := 29) (by kernel_rfl) ?_
      refine .fin rfl ?_
      refine sqN ?_
      refine .seq ?_
      refine .seq ?_
      refine .rgI rfl ?_
      refine .seg tabOk 0 5 [0, 5, 6, 7, 8, 33] [112, 272, 656] (t := [(0, (.ro 1 a0.length (flat E_B a0))), (5, (.ptr (272, 5) 0)), (6, (.sref (656, 20) 0 y4.length 7)), (7, (.ptr (112, 28) 0)), (8, (vI v5.2.1)), (33, (.val (.bool (!decide (v5.2.2.f2 = 0)))))]) (h := [(112, ⟨28, .live, true, [(vI v5.1.f0), (vI v5.1.f1), (vI v5.1.f2), (vI v5.1.f3.a0), (vI v5.1.f3.a1), (vI v5.1.f3.a2), (vI v5.1.f3.a3)]⟩), (272, ⟨5, .live, false, [(.ro 1 v5.2.2.f0.length (flat E_B v5.2.2.f0)), (vI v5.2.2.f1), (vI v5.2.2.f2)]⟩), (656, ⟨20, .live, true, flat E_SiiiA4ie y4⟩)]) (ep := 31) (by kernel_rfl) ?_
      refine .fin rfl ?_
      refine sqN ?_
      refine .cond (!decide (v5.2.2.f2 = 0)) rfl (fun hc6 => ?_) (fun hc6 => ?_)
      · have h := iT h hc6
        refine .seq ?_
        refine .rgD rfl ?_
        refine .seg tabOk 0 7 [2, 3, 4] [112, 272, 656] (t := [(2, .nils), (3, .nils), (4, (vI v5.2.2.f2))]) (h := [(112, ⟨28, .live, true, [(vI v5.1.f0), (vI v5.1.f1), (vI v5.1.f2), (vI v5.1.f3.a0), (vI v5.1.f3.a1), (vI v5.1.f3.a2), (vI v5.1.f3.a3)]⟩), (272, ⟨5, .live, false, [(.ro 1 v5.2.2.f0.length (flat E_B v5.2.2.f0)), (vI v5.2.2.f1), (vI v5.2.2.f2)]⟩), (656, ⟨20, .live, true, flat E_SiiiA4ie y4⟩)]) (ep := 32) (by kernel_rfl) ?_
        refine .fin mixed [2, 3, 4] [] (t := [(2, .nils), (3, .nils), (4, (vI v5.2.2.f2))]) (h := []) (ep := 33) rfl (by kernel_rfl) rfl ?_
        refine sqN ?_
        refine .pre (.nilRow 2 7 47 rfl (fresh_none rfl)) ?_
        refine .pre (.nilRow 3 1 63 rfl (fresh_none rfl)) ?_
        refine .ret ?_
        refine sqR ?_
        refine scR ?_
        injection h with h
        subst h
        exact ⟨.inr rfl, _, _, (f_cons (f_tmp rfl (o1_row E_SiiiA4ie ([] : List T_SiiiA4ie) rfl rfl rfl rfl rfl)) (f_cons (f_tmp rfl (o1_row E_B ([] : List Int) rfl rfl rfl rfl rfl)) (f_cons rfl f_nil))), nd_of rfl, rfl, rfl⟩
      · have h := iF h hc6
        refine .skip ?_
        refine sqN ?_
        refine .seq ?_
        refine .rgI rfl ?_
        refine .seg tabOk 0 3 [0, 5, 8, 38, 40] [272, 640, 656] (t := [(0, (.ro 1 a0.length (flat E_B a0))), (5, (.ptr (272, 5) 0)), (8, (vI v5.2.1)), (38, (.sref (656, 20) 0 y4.length 7)), (40, (.sref (640, 32) 0 ([v5.1] : List T_SiiiA4ie).length 7))]) (h := [(272, ⟨5, .live, false, [(.ro 1 v5.2.2.f0.length (flat E_B v5.2.2.f0)), (vI v5.2.2.f1), (vI v5.2.2.f2)]⟩), (640, ⟨32, .live, true, flat E_SiiiA4ie ([v5.1] : List T_SiiiA4ie)⟩), (656, ⟨20, .live, true, flat E_SiiiA4ie y4⟩)]) (ep := 33) (by kernel_rfl) ?_
        obtain ⟨hb7, h⟩ := gS h
        refine .oo tabOk rfl rfl rfl (q_app E_SiiiA4ie (l := y4) rfl rfl rfl rfl rfl rfl rfl rfl rfl rfl rfl rfl rfl (.row ([v5.1] : List T_SiiiA4ie) rfl rfl rfl rfl) hb7) ?_
        refine .seg tabOk 4 1 [0, 5, 6, 8] [272, 656] (t := [(0, (.ro 1 a0.length (flat E_B a0))), (5, (.ptr (272, 5) 0)), (6, (.sref (656, 33) 0 (y4 ++ ([v5.1] : List T_SiiiA4ie)).length 7)), (8, (vI v5.2.1))]) (h := [(272, ⟨5, .live, false, [(.ro 1 v5.2.2.f0.length (flat E_B v5.2.2.f0)), (vI v5.2.2.f1), (vI v5.2.2.f2)]⟩), (656, ⟨33, .live, true, flat E_SiiiA4ie (y4 ++ ([v5.1] : List T_SiiiA4ie))⟩)]) (ep := 34) (by kernel_rfl) ?_
        refine .fin rfl ?_
        refine sqN ?_
        refine .seq ?_
        refine .seq ?_
        refine .rgI rfl ?_
        refine .seg tabOk 0 3 [0, 5, 6, 8, 44] [272, 656] (t := [(0, (.ro 1 a0.length (flat E_B a0))), (5, (.ptr (272, 5) 0)), (6, (.sref (656, 33) 0 (y4 ++ ([v5.1] : List T_SiiiA4ie)).length 7)), (8, (vI v5.2.1)), (44, (.val (.bool (!decide ((bits .and .i64 v5.2.1 32) = 0)))))]) (h := [(272, ⟨5, .live, false, [(.ro 1 v5.2.2.f0.length (flat E_B v5.2.2.f0)), (vI v5.2.2.f1), (vI v5.2.2.f2)]⟩), (656, ⟨33, .live, true, flat E_SiiiA4ie (y4 ++ ([v5.1] : List T_SiiiA4ie))⟩)]) (ep := 36) (by kernel_rfl) ?_
        refine .fin rfl ?_
        refine sqN ?_
        refine .cond (!decide ((bits .and .i64 v5.2.1 32) = 0)) rfl (fun hc8 => ?_) (fun hc8 => ?_)
        · have h := iT h hc8
          refine .seq ?_
          refine .seq ?_
          refine .rgI rfl ?_
          refine .seg tabOk 0 3 [0, 5, 6, 47] [272, 656] (t := [(0, (.ro 1 a0.length (flat E_B a0))), (5, (.ptr (272, 5) 0)), (6, (.sref (656, 33) 0 (y4 ++ ([v5.1] : List T_SiiiA4ie)).length 7)), (47, (.val (.bool (decide (64 ≤ ((y4 ++ ([v5.1] : List T_SiiiA4ie)).length : Int))))))]) (h := [(272, ⟨5, .live, false, [(.ro 1 v5.2.2.f0.length (flat E_B v5.2.2.f0)), (vI v5.2.2.f1), (vI v5.2.2.f2)]⟩), (656, ⟨33, .live, true, flat E_SiiiA4ie (y4 ++ ([v5.1] : List T_SiiiA4ie))⟩)]) (ep := 38) (by kernel_rfl) ?_
          refine .fin rfl ?_
          refine sqN ?_
          refine .cond (decide (64 ≤ ((y4 ++ ([v5.1] : List T_SiiiA4ie)).length : Int))) rfl (fun hc9 => ?_) (fun hc9 => ?_)
          · have h := iT h hc9
            refine .seq ?_
            refine .rgI rfl ?_
            refine .seg tabOk 0 3 [2, 3, 4] [] (t := [(2, .nils), (3, .nils), (4, (vI 7))]) (h := []) (ep := 40) (by kernel_rfl) ?_
            refine .fin rfl ?_
            refine sqN ?_
            refine .pre (.nilRow 2 7 47 rfl (fresh_none rfl)) ?_
            refine .pre (.nilRow 3 1 63 rfl (fresh_none rfl)) ?_
            refine .ret ?_
            refine sqR ?_
            refine sqR ?_
            refine scR ?_
            injection h with h
            subst h
            exact ⟨.inr rfl, _, _, (f_cons (f_tmp rfl (o1_row E_SiiiA4ie ([] : List T_SiiiA4ie) rfl rfl rfl rfl rfl)) (f_cons (f_tmp rfl (o1_row E_B ([] : List Int) rfl rfl rfl rfl rfl)) (f_cons rfl f_nil))), nd_of rfl, rfl, rfl⟩
          · have h := iF h hc9
            refine .skip ?_
            refine sqN ?_
            refine .goto ?_
            refine sqG ?_
            exact scJ (by exact .tn [((272, 5), (272, 5)), ((656, 33), (656, 20))] ⟨rfl, rfl, rfl, trivial⟩ ⟨rfl, ⟨_, rfl, rfl⟩, ⟨rfl, ⟨_, rfl, ah_row E_SiiiA4ie⟩, trivial⟩⟩ rfl) ⟨n, (v5.2.2.f0, v5.2.2.f1, v5.2.2.f2, (y4 ++ ([v5.1] : List T_SiiiA4ie))), Nat.lt_succ_self n, rfl, h⟩
        · have h := iF h hc8
          refine .skip ?_
          refine sqN ?_
          refine .seq ?_
          refine .seq ?_
          refine .rgI rfl ?_
          refine .seg tabOk 0 3 [0, 5, 6, 50] [272, 656] (t := [(0, (.ro 1 a0.length (flat E_B a0))), (5, (.ptr (272, 5) 0)), (6, (.sref (656, 33) 0 (y4 ++ ([v5.1] : List T_SiiiA4ie)).length 7)), (50, (.val (.bool (decide ((bits .and .i64 v5.2.1 256) = 0)))))]) (h := [(272, ⟨5, .live, false, [(.ro 1 v5.2.2.f0.length (flat E_B v5.2.2.f0)), (vI v5.2.2.f1), (vI v5.2.2.f2)]⟩), (656, ⟨33, .live, true, flat E_SiiiA4ie (y4 ++ ([v5.1] : List T_SiiiA4ie))⟩)]) (ep := 38) (by kernel_rfl) ?_
          refine .fin rfl ?_
          refine sqN ?_
          refine .cond (decide ((bits .and .i64 v5.2.1 256) = 0)) rfl (fun hc10 => ?_) (fun hc10 => ?_)
          · have h := iT h hc10
            refine .seq ?_
            refine .rgI rfl ?_
            refine .seg tabOk 0 4 [2, 3, 4] [656] (t := [(2, (.sref (656, 33) 0 (y4 ++ ([v5.1] : List T_SiiiA4ie)).length 7)), (3, .nils), (4, (vI 0))]) (h := [(656, ⟨33, .live, true, flat E_SiiiA4ie (y4 ++ ([v5.1] : List T_SiiiA4ie))⟩)]) (ep := 40) (by kernel_rfl) ?_
            refine .fin rfl ?_
            refine sqN ?_
            refine .pre (.nilRow 3 1 63 rfl (fresh_none rfl)) ?_
            refine .ret ?_
            refine sqR ?_
            refine scR ?_
            injection h with h
            subst h
            exact ⟨.inr rfl, _, _, (f_cons (f_tmp rfl (o1_row E_SiiiA4ie (y4 ++ ([v5.1] : List T_SiiiA4ie)) rfl rfl rfl rfl rfl)) (f_cons (f_tmp rfl (o1_row E_B ([] : List Int) rfl rfl rfl rfl rfl)) (f_cons rfl f_nil))), nd_of rfl, rfl, rfl⟩
          · have h := iF h hc10
            refine .skip ?_
            refine sqN ?_
            refine .seq ?_
            refine .rgI rfl ?_
            refine .seg tabOk 0 1 [0, 5, 6, 52] [272, 656] (t := [(0, (.ro 1 a0.length (flat E_B a0))), (5, (.ptr (272, 5) 0)), (6, (.sref (656, 33) 0 (y4 ++ ([v5.1] : List T_SiiiA4ie)).length 7)), (52, (.ptr (272, 5) 0))]) (h := [(272, ⟨5, .live, false, [(.ro 1 v5.2.2.f0.length (flat E_B v5.2.2.f0)), (vI v5.2.2.f1), (vI v5.2.2.f2)]⟩), (656, ⟨33, .live, true, flat E_SiiiA4ie (y4 ++ ([v5.1] : List T_SiiiA4ie))⟩)]) (ep := 40) (by kernel_rfl) ?_
            obtain ⟨v11, hv11, h⟩ := bS h
            refine .cc true rfl rfl (C_compo_reader_u _ _ _ hv11) ent_compo_reader_u rfl rfl rfl rfl (g_cons (g_pl rfl rfl) g_nil) rfl ?_
            refine .seg tabOk 2 1 [0, 5, 6, 9] [272, 656] (t := [(0, (.ro 1 a0.length (flat E_B a0))), (5, (.ptr (272, 5) 0)), (6, (.sref (656, 33) 0 (y4 ++ ([v5.1] : List T_SiiiA4ie)).length 7)), (9, (vI v11.1))]) (h := [(272, ⟨5, .live, false, [(.ro 1 v11.2.f0.length (flat E_B v11.2.f0)), (vI v11.2.f1), (vI v11.2.f2)]⟩), (656, ⟨33, .live, true, flat E_SiiiA4ie (y4 ++ ([v5.1] : List T_SiiiA4ie))⟩)]) (ep := 41) (by kernel_rfl) ?_
            refine .fin rfl ?_
            refine sqN ?_
            refine .seq ?_
            refine .seq ?_
            refine .rgI rfl ?_
            refine .seg tabOk 0 5 [0, 5, 6, 9, 58] [272, 656] (t := [(0, (.ro 1 a0.length (flat E_B a0))), (5, (.ptr (272, 5) 0)), (6, (.sref (656, 33) 0 (y4 ++ ([v5.1] : List T_SiiiA4ie)).length 7)), (9, (vI v11.1)), (58, (.val (.bool (!decide (v11.2.f2 = 0)))))]) (h := [(272, ⟨5, .live, false, [(.ro 1 v11.2.f0.length (flat E_B v11.2.f0)), (vI v11.2.f1), (vI v11.2.f2)]⟩), (656, ⟨33, .live, true, flat E_SiiiA4ie (y4 ++ ([v5.1] : List T_SiiiA4ie))⟩)]) (ep := 43) (by kernel_rfl) ?_
            refine .fin rfl ?_
            refine sqN ?_
            refine .cond (!decide (v11.2.f2 = 0)) rfl (fun hc12 => ?_) (fun hc12 => ?_)
            · have h := iT h hc12
              refine .seq ?_
              refine .rgD rfl ?_
              refine .seg tabOk 0 7 [2, 3, 4] [272, 656] (t := [(2, .nils), (3, .nils), (4, (vI v11.2.f2))]) (h := [(272, ⟨5, .live, false, [(.ro 1 v11.2.f0.length (flat E_B v11.2.f0)), (vI v11.2.f1), (vI v11.2.f2)]⟩), (656, ⟨33, .live, true, flat E_SiiiA4ie (y4 ++ ([v5.1] : List T_SiiiA4ie))⟩)]) (ep := 44) (by kernel_rfl) ?_
              refine .fin mixed [2, 3, 4] [] (t := [(2, .nils), (3, .nils), (4, (vI v11.2.f2))]) (h := []) (ep := 45) rfl (by kernel_rfl) rfl ?_
              refine sqN ?_
              refine .pre (.nilRow 2 7 47 rfl (fresh_none rfl)) ?_
              refine .pre (.nilRow 3 1 63 rfl (fresh_none rfl)) ?_
              refine .ret ?_
              refine sqR ?_
              refine scR ?_
              injection h with h
              subst h
              exact ⟨.inr rfl, _, _, (f_cons (f_tmp rfl (o1_row E_SiiiA4ie ([] : List T_SiiiA4ie) rfl rfl rfl rfl rfl)) (f_cons (f_tmp rfl (o1_row E_B ([] : List Int) rfl rfl rfl rfl rfl)) (f_cons rfl f_nil))), nd_of rfl, rfl, rfl⟩
            · have h := iF h hc12
              refine .skip ?_
              refine sqN ?_
              refine .seq ?_
              refine .rgI rfl ?_
              refine .seg tabOk 0 6 [6, 64, 68, 69] [656] (t := [(6, (.sref (656, 33) 0 (y4 ++ ([v5.1] : List T_SiiiA4ie)).length 7)), (64, (.ro 1 a0.length (flat E_B a0))), (68, (vI v11.2.f1)), (69, (vI v11.1))]) (h := [(656, ⟨33, .live, true, flat E_SiiiA4ie (y4 ++ ([v5.1] : List T_SiiiA4ie))⟩)]) (ep := 45) (by kernel_rfl) ?_
              obtain ⟨v13, hv13, h⟩ := bS h
              refine .cc true rfl rfl (C_be_Cut _ _ _ _ _ hv13) ent_be_Cut rfl rfl rfl rfl (g_cons (g_pl rfl rfl) (g_cons (g_pl rfl rfl) (g_cons (g_pl rfl rfl) g_nil))) rfl ?_
              refine .seg tabOk 7 5 [6, 10, 11] [656, 1120] (t := [(6, (.sref (656, 33) 0 (y4 ++ ([v5.1] : List T_SiiiA4ie)).length 7)), (10, (.sref (1120, 45) 0 v13.1.length 1)), (11, (vI v13.2))]) (h := [(656, ⟨33, .live, true, flat E_SiiiA4ie (y4 ++ ([v5.1] : List T_SiiiA4ie))⟩), (1120, ⟨45, .live, true, flat E_B v13.1⟩)]) (ep := 46) (by kernel_rfl) ?_
              refine .fin rfl ?_
              refine sqN ?_
              refine .seq ?_
              refine .seq ?_
              refine .rgI rfl ?_
              refine .seg tabOk 0 2 [6, 10, 11, 74] [656, 1120] (t := [(6, (.sref (656, 33) 0 (y4 ++ ([v5.1] : List T_SiiiA4ie)).length 7)), (10, (.sref (1120, 45) 0 v13.1.length 1)), (11, (vI v13.2)), (74, (.val (.bool (!decide (v13.2 = 0)))))]) (h := [(656, ⟨33, .live, true, flat E_SiiiA4ie (y4 ++ ([v5.1] : List T_SiiiA4ie))⟩), (1120, ⟨45, .live, true, flat E_B v13.1⟩)]) (ep := 48) (by kernel_rfl) ?_
              refine .fin rfl ?_
              refine sqN ?_
              refine .cond (!decide (v13.2 = 0)) rfl (fun hc14 => ?_) (fun hc14 => ?_)
              · have h := iT h hc14
                refine .seq ?_
                refine .rgI rfl ?_
                refine .seg tabOk 0 4 [2, 3, 4] [] (t := [(2, .nils), (3, .nils), (4, (vI v13.2))]) (h := []) (ep := 50) (by kernel_rfl) ?_
                refine .fin rfl ?_
                refine sqN ?_
                refine .pre (.nilRow 2 7 47 rfl (fresh_none rfl)) ?_
                refine .pre (.nilRow 3 1 63 rfl (fresh_none rfl)) ?_
                refine .ret ?_
                refine sqR ?_
                refine scR ?_
                injection h with h
                subst h
                exact ⟨.inr rfl, _, _, (f_cons (f_tmp rfl (o1_row E_SiiiA4ie ([] : List T_SiiiA4ie) rfl rfl rfl rfl rfl)) (f_cons (f_tmp rfl (o1_row E_B ([] : List Int) rfl rfl rfl rfl rfl)) (f_cons rfl f_nil))), nd_of rfl, rfl, rfl⟩
              · have h := iF h hc14
                refine .skip ?_
                refine sqN ?_
                refine .seq ?_
                refine .rgI rfl ?_
                refine .seg tabOk 0 5 [2, 3, 4] [656, 1120] (t := [(2, (.sref (656, 33) 0 (y4 ++ ([v5.1] : List T_SiiiA4ie)).length 7)), (3, (.sref (1120, 45) 0 v13.1.length 1)), (4, (vI 0))]) (h := [(656, ⟨33, .live, true, flat E_SiiiA4ie (y4 ++ ([v5.1] : List T_SiiiA4ie))⟩), (1120, ⟨45, .live, true, flat E_B v13.1⟩)]) (ep := 50) (by kernel_rfl) ?_
                refine .fin rfl ?_
                refine sqN ?_
                refine .ret ?_
                refine scR ?_
                injection h with h
                subst h
                exact ⟨.inr rfl, _, _, (f_cons (f_tmp rfl (o1_row E_SiiiA4ie (y4 ++ ([v5.1] : List T_SiiiA4ie)) rfl rfl rfl rfl rfl)) (f_cons (f_tmp rfl (o1_row E_B v13.1 rfl rfl rfl rfl rfl)) (f_cons rfl f_nil))), nd_of rfl, rfl, rfl⟩
abbrev R_r08_Same := Bool
def L_r08_Same_0 (a0 : (List T_SiiiA4ie)) (a1 : (List T_SiiiA4ie)) (j2 : Unit → Option R_r08_Same) : Nat → Int → Option R_r08_Same
  | 0, _ => none
  | n + 1, y3 =>
    if (decide (y3 < (a0.length : Int))) then
      gd (0 ≤ y3 ∧ y3 < a0.length) <|
      gd (0 ≤ y3 ∧ y3 < a1.length) <|
      if (!((decide ((nth E_SiiiA4ie a0 y3).f0 = (nth E_SiiiA4ie a1 y3).f0)) && ((decide ((nth E_SiiiA4ie a0 y3).f1 = (nth E_SiiiA4ie a1 y3).f1)) && ((decide ((nth E_SiiiA4ie a0 y3).f2 = (nth E_SiiiA4ie a1 y3).f2)) && (((decide ((nth E_SiiiA4ie a0 y3).f3.a0 = (nth E_SiiiA4ie a1 y3).f3.a0)) && ((decide ((nth E_SiiiA4ie a0 y3).f3.a1 = (nth E_SiiiA4ie a1 y3).f3.a1)) && ((decide ((nth E_SiiiA4ie a0 y3).f3.a2 = (nth E_SiiiA4ie a1 y3).f3.a2)) && ((decide ((nth E_SiiiA4ie a0 y3).f3.a3 = (nth E_SiiiA4ie a1 y3).f3.a3)) && true)))) && true))))) then
        some false
      else
      L_r08_Same_0 a0 a1 j2 n (w64 (y3 + 1))
    else
    j2 ()
def F_r08_Same (n : Nat) (a0 : (List T_SiiiA4ie)) (a1 : (List T_SiiiA4ie)) : Option R_r08_Same :=
  if (!decide ((a0.length : Int) = (a1.length : Int))) then
    some false
  else
  lj (fun (_ : Unit) =>
    some true) fun j2 =>
  L_r08_Same_0 a0 a1 j2 n 0
theorem C_r08_Same (n : Nat) (a0 : (List T_SiiiA4ie)) (a1 : (List T_SiiiA4ie)) (r : R_r08_Same) (h : F_r08_Same n a0 a1 = some r) : CallS Try.prog 18 [(.ro 7 a0.length (flat E_SiiiA4ie a0)), (.ro 7 a1.length (flat E_SiiiA4ie a1))] (.val (.bool r)) [none, none] := by
  refine CallS.introK tabOk Try.func18 rfl Try.ntmps18 (Nat.le_of_ble_eq_true rfl) ?_
  rw [F_r08_Same] at h
  refine .seq ?_
  refine .rgI rfl ?_
  refine .seg tabOk 0 1 [0, 1] [] (t := [(0, (.ro 7 a0.length (flat E_SiiiA4ie a0))), (1, (.ro 7 a1.length (flat E_SiiiA4ie a1)))]) (h := []) (ep := 2) (by kernel_rfl) ?_
  refine .fin rfl ?_
  refine sqN ?_
  refine .seq ?_
  refine .seq ?_
  refine .rgI rfl ?_
  refine .seg tabOk 0 5 [0, 1, 10] [] (t := [(0, (.ro 7 a0.length (flat E_SiiiA4ie a0))), (1, (.ro 7 a1.length (flat E_SiiiA4ie a1))), (10, (.val (.bool (!decide ((a0.length : Int) = (a1.length : Int))))))]) (h := []) (ep := 4) (by kernel_rfl) ?_
  refine .fin rfl ?_
  refine sqN ?_
  refine .cond (!decide ((a0.length : Int) = (a1.length : Int))) rfl (fun hc1 => ?_) (fun hc1 => ?_)
  · have h := iT h hc1
    refine .seq ?_
    refine .rgI rfl ?_
    refine .seg tabOk 0 1 [4] [] (t := [(4, (.val (.bool false)))]) (h := []) (ep := 6) (by kernel_rfl) ?_
    refine .fin rfl ?_
    refine sqN ?_
    refine .ret ?_
    refine sqR ?_
    injection h with h
    subst h
    exact ⟨.inr rfl, _, _, rfl, List.nodup_nil, rfl, rfl⟩
  · have h := iF h hc1
    refine .skip ?_
    refine sqN ?_
    refine .seq ?_
    refine .seq ?_
    refine .rgI rfl ?_
    refine .seg tabOk 0 3 [0, 1, 12, 13] [] (t := [(0, (.ro 7 a0.length (flat E_SiiiA4ie a0))), (1, (.ro 7 a1.length (flat E_SiiiA4ie a1))), (12, (vI (a0.length : Int))), (13, (vI 0))]) (h := []) (ep := 6) (by kernel_rfl) ?_
    refine .fin rfl ?_
    refine sqN ?_
    obtain ⟨j2, hj2, h⟩ := ljS h
    refine .join (fun s' => s' = ⟨[], [], 10⟩ ∧ j2 () = some r) ?_ ?_
    · refine .block ?_
      refine .loopF (β := Int) (fun v => ⟨[(0, (.ro 7 a0.length (flat E_SiiiA4ie a0))), (1, (.ro 7 a1.length (flat E_SiiiA4ie a1))), (12, (vI (a0.length : Int))), (13, (vI v))], [], 7⟩) (fun m v => L_r08_Same_0 a0 a1 j2 m v = some r) n 0 (by exact .tn [] ⟨rfl, rfl, rfl, rfl, trivial⟩ trivial rfl) h ?_
      rintro m y3 h
      cases m with
      | zero => exact nomatch h
      | succ n =>
        rw [L_r08_Same_0] at h
        refine .seq ?_
        refine .rgI rfl ?_
        refine .seg tabOk 0 1 [0, 1, 12, 13, 14] [] (t := [(0, (.ro 7 a0.length (flat E_SiiiA4ie a0))), (1, (.ro 7 a1.length (flat E_SiiiA4ie a1))), (12, (vI (a0.length : Int))), (13, (vI y3)), (14, (.val (.bool (decide (y3 < (a0.length : Int))))))]) (h := []) (ep := 9) (by kernel_rfl) ?_
        refine .fin rfl ?_
        refine sqN ?_
        refine .seq ?_
        refine .cond (decide (y3 < (a0.length : Int))) rfl (fun hc4 => ?_) (fun hc4 => ?_)
        · have h := iT h hc4
          refine .skip ?_
          refine sqN ?_
          refine .seq ?_
          refine .block ?_
          refine .seq ?_
          refine .rgI rfl ?_
          refine .seg tabOk 0 2 [0, 1, 5, 12, 13] [] (t := [(0, (.ro 7 a0.length (flat E_SiiiA4ie a0))), (1, (.ro 7 a1.length (flat E_SiiiA4ie a1))), (5, (vI y3)), (12, (vI (a0.length : Int))), (13, (vI y3))]) (h := []) (ep := 11) (by kernel_rfl) ?_
          refine .fin rfl ?_
          refine sqN ?_
          refine .seq ?_
          refine .rgD rfl ?_
          refine .seg tabOk 0 2 [0, 1, 5, 12, 13, 16, 17] [] (t := [(0, (.ro 7 a0.length (flat E_SiiiA4ie a0))), (1, (.ro 7 a1.length (flat E_SiiiA4ie a1))), (5, (vI y3)), (12, (vI (a0.length : Int))), (13, (vI y3)), (16, (.ro 7 a0.length (flat E_SiiiA4ie a0))), (17, (vI y3))]) (h := []) (ep := 12) (by kernel_rfl) ?_
          obtain ⟨hb5, h⟩ := gS h
          refine .o tabOk rfl rfl rfl (q_idx E_SiiiA4ie rfl rfl rfl rfl rfl rfl hb5) (a_idx E_SiiiA4ie rfl rfl rfl rfl rfl rfl hb5) rfl ?_
          refine .o tabOk rfl rfl rfl (q_ld0 E_SiiiA4ie rfl rfl rfl hb5 rfl) (a_ld0 E_SiiiA4ie rfl rfl rfl hb5 rfl) rfl ?_
          refine .seg tabOk 4 2 [0, 1, 12, 13, 19, 20, 21] [] (t := [(0, (.ro 7 a0.length (flat E_SiiiA4ie a0))), (1, (.ro 7 a1.length (flat E_SiiiA4ie a1))), (12, (vI (a0.length : Int))), (13, (vI y3)), (19, (.agg [(vI (nth E_SiiiA4ie a0 y3).f0), (vI (nth E_SiiiA4ie a0 y3).f1), (vI (nth E_SiiiA4ie a0 y3).f2), (vI (nth E_SiiiA4ie a0 y3).f3.a0), (vI (nth E_SiiiA4ie a0 y3).f3.a1), (vI (nth E_SiiiA4ie a0 y3).f3.a2), (vI (nth E_SiiiA4ie a0 y3).f3.a3)])), (20, (.ro 7 a1.length (flat E_SiiiA4ie a1))), (21, (vI y3))]) (h := []) (ep := 12) (by kernel_rfl) ?_
          obtain ⟨hb6, h⟩ := gS h
          refine .o tabOk rfl rfl rfl (q_idx E_SiiiA4ie rfl rfl rfl rfl rfl rfl hb6) (a_idx E_SiiiA4ie rfl rfl rfl rfl rfl rfl hb6) rfl ?_
          refine .o tabOk rfl rfl rfl (q_ld0 E_SiiiA4ie rfl rfl rfl hb6 rfl) (a_ld0 E_SiiiA4ie rfl rfl rfl hb6 rfl) rfl ?_
          refine .seg tabOk 8 1 [0, 1, 12, 13, 24] [] (t := [(0, (.ro 7 a0.length (flat E_SiiiA4ie a0))), (1, (.ro 7 a1.length (flat E_SiiiA4ie a1))), (12, (vI (a0.length : Int))), (13, (vI y3)), (24, (.val (.bool (!((decide ((nth E_SiiiA4ie a0 y3).f0 = (nth E_SiiiA4ie a1 y3).f0)) && ((decide ((nth E_SiiiA4ie a0 y3).f1 = (nth E_SiiiA4ie a1 y3).f1)) && ((decide ((nth E_SiiiA4ie a0 y3).f2 = (nth E_SiiiA4ie a1 y3).f2)) && (((decide ((nth E_SiiiA4ie a0 y3).f3.a0 = (nth E_SiiiA4ie a1 y3).f3.a0)) && ((decide ((nth E_SiiiA4ie a0 y3).f3.a1 = (nth E_SiiiA4ie a1 y3).f3.a1)) && ((decide ((nth E_SiiiA4ie a0 y3).f3.a2 = (nth E_SiiiA4ie a1 y3).f3.a2)) && ((decide ((nth E_SiiiA4ie a0 y3).f3.a3 = (nth E_SiiiA4ie a1 y3).f3.a3)) && true)))) && true))))))))]) (h := []) (ep := 12) (by kernel_rfl) ?_
          refine .fin mixed [0, 1, 12, 13, 24] [] (t := [(0, (.ro 7 a0.length (flat E_SiiiA4ie a0))), (1, (.ro 7 a1.length (flat E_SiiiA4ie a1))), (12, (vI (a0.length : Int))), (13, (vI y3)), (24, (.val (.bool (!((decide ((nth E_SiiiA4ie a0 y3).f0 = (nth E_SiiiA4ie a1 y3).f0)) && ((decide ((nth E_SiiiA4ie a0 y3).f1 = (nth E_SiiiA4ie a1 y3).f1)) && ((decide ((nth E_SiiiA4ie a0 y3).f2 = (nth E_SiiiA4ie a1 y3).f2)) && (((decide ((nth E_SiiiA4ie a0 y3).f3.a0 = (nth E_SiiiA4ie a1 y3).f3.a0)) && ((decide ((nth E_SiiiA4ie a0 y3).f3.a1 = (nth E_SiiiA4ie a1 y3).f3.a1)) && ((decide ((nth E_SiiiA4ie a0 y3).f3.a2 = (nth E_SiiiA4ie a1 y3).f3.a2)) && ((decide ((nth E_SiiiA4ie a0 y3).f3.a3 = (nth E_SiiiA4ie a1 y3).f3.a3)) && true)))) && true))))))))]) (h := []) (ep := 13) rfl (by kernel_rfl) rfl ?_
          refine sqN ?_
          refine .cond (!((decide ((nth E_SiiiA4ie a0 y3).f0 = (nth E_SiiiA4ie a1 y3).f0)) && ((decide ((nth E_SiiiA4ie a0 y3).f1 = (nth E_SiiiA4ie a1 y3).f1)) && ((decide ((nth E_SiiiA4ie a0 y3).f2 = (nth E_SiiiA4ie a1 y3).f2)) && (((decide ((nth E_SiiiA4ie a0 y3).f3.a0 = (nth E_SiiiA4ie a1 y3).f3.a0)) && ((decide ((nth E_SiiiA4ie a0 y3).f3.a1 = (nth E_SiiiA4ie a1 y3).f3.a1)) && ((decide ((nth E_SiiiA4ie a0 y3).f3.a2 = (nth E_SiiiA4ie a1 y3).f3.a2)) && ((decide ((nth E_SiiiA4ie a0 y3).f3.a3 = (nth E_SiiiA4ie a1 y3).f3.a3)) && true)))) && true))))) rfl (fun hc7 => ?_) (fun hc7 => ?_)
          · have h := iT h hc7
            refine .seq ?_
            refine .rgI rfl ?_
            refine .seg tabOk 0 1 [4] [] (t := [(4, (.val (.bool false)))]) (h := []) (ep := 15) (by kernel_rfl) ?_
            refine .fin rfl ?_
            refine sqN ?_
            refine .ret ?_
            refine bkR ?_
            refine sqR ?_
            refine jkR ?_
            refine bkR ?_
            refine jkR ?_
            refine sqR ?_
            injection h with h
            subst h
            exact ⟨.inr rfl, _, _, rfl, List.nodup_nil, rfl, rfl⟩
          · have h := iF h hc7
            refine .skip ?_
            refine bkN ?_
            refine sqN ?_
            refine .rgI rfl ?_
            refine .seg tabOk 0 2 [0, 1, 12, 13] [] (t := [(0, (.ro 7 a0.length (flat E_SiiiA4ie a0))), (1, (.ro 7 a1.length (flat E_SiiiA4ie a1))), (12, (vI (a0.length : Int))), (13, (vI (w64 (y3 + 1))))]) (h := []) (ep := 15) (by kernel_rfl) ?_
            refine .fin rfl ?_
            exact jkN (by exact .tn [] ⟨rfl, rfl, rfl, rfl, trivial⟩ trivial rfl) ⟨n, (w64 (y3 + 1)), Nat.lt_succ_self n, rfl, h⟩
        · have h := iF h hc4
          refine .exit ?_
          refine sqX ?_
          refine jkX ?_
          refine bkE ?_
          exact jkN (by exact .tn [] trivial trivial rfl) ⟨rfl, h⟩
    · rintro _ ⟨rfl, h⟩
      subst hj2
      refine sqN ?_
      refine .seq ?_
      refine .rgI rfl ?_
      refine .seg tabOk 0 1 [4] [] (t := [(4, (.val (.bool true)))]) (h := []) (ep := 12) (by kernel_rfl) ?_
      refine .fin rfl ?_
      refine sqN ?_
      refine .ret ?_
      injection h with h
      subst h
      exact ⟨.inr rfl, _, _, rfl, List.nodup_nil, rfl, rfl⟩
abbrev R_compo_short := Bool
def L_compo_short_0 (a0 : (List Int)) (j1 : Unit → Option R_compo_short) : Nat → Int → Option R_compo_short
  | 0, _ => none
  | n + 1, y2 =>
    if (decide (y2 < (a0.length : Int))) then
      gd (0 ≤ y2 ∧ y2 < a0.length) <|
      if (!decide ((nth E_i a0 y2) = (w64 ((IntKind.wrap .i16 ((nth E_i a0 y2))))))) then
        some false
      else
      L_compo_short_0 a0 j1 n (w64 (y2 + 1))
    else
    j1 ()
def F_compo_short (n : Nat) (a0 : (List Int)) : Option R_compo_short :=
  lj (fun (_ : Unit) =>
    some true) fun j1 =>
  L_compo_short_0 a0 j1 n 0
theorem C_compo_short (n : Nat) (a0 : (List Int)) (r : R_compo_short) (h : F_compo_short n a0 = some r) : CallS Try.prog 40 [(.ro 1 a0.length (flat E_i a0))] (.val (.bool r)) [none] := by
  refine CallS.introK tabOk Try.func40 rfl Try.ntmps40 (Nat.le_of_ble_eq_true rfl) ?_
  rw [F_compo_short] at h
  refine .seq ?_
  refine .rgI rfl ?_
  refine .seg tabOk 0 1 [0] [] (t := [(0, (.ro 1 a0.length (flat E_i a0)))]) (h := []) (ep := 2) (by kernel_rfl) ?_
  refine .fin rfl ?_
  refine sqN ?_
  refine .seq ?_
  refine .seq ?_
  refine .rgI rfl ?_
  refine .seg tabOk 0 3 [5, 6, 7] [] (t := [(5, (.ro 1 a0.length (flat E_i a0))), (6, (vI (a0.length : Int))), (7, (vI 0))]) (h := []) (ep := 4) (by kernel_rfl) ?_
  refine .fin rfl ?_
  refine sqN ?_
  obtain ⟨j1, hj1, h⟩ := ljS h
  refine .join (fun s' => s' = ⟨[], [], 8⟩ ∧ j1 () = some r) ?_ ?_
  · refine .block ?_
    refine .loopF (β := Int) (fun v => ⟨[(5, (.ro 1 a0.length (flat E_i a0))), (6, (vI (a0.length : Int))), (7, (vI v))], [], 5⟩) (fun m v => L_compo_short_0 a0 j1 m v = some r) n 0 (by exact .tn [] ⟨rfl, rfl, rfl, trivial⟩ trivial rfl) h ?_
    rintro m y2 h
    cases m with
    | zero => exact nomatch h
    | succ n =>
      rw [L_compo_short_0] at h
      refine .seq ?_
      refine .rgI rfl ?_
      refine .seg tabOk 0 1 [5, 6, 7, 8] [] (t := [(5, (.ro 1 a0.length (flat E_i a0))), (6, (vI (a0.length : Int))), (7, (vI y2)), (8, (.val (.bool (decide (y2 < (a0.length : Int))))))]) (h := []) (ep := 7) (by kernel_rfl) ?_
      refine .fin rfl ?_
      refine sqN ?_
      refine .seq ?_
      refine .cond (decide (y2 < (a0.length : Int))) rfl (fun hc3 => ?_) (fun hc3 => ?_)
      · have h := iT h hc3
        refine .skip ?_
        refine sqN ?_
        refine .seq ?_
        refine .block ?_
        refine .seq ?_
        refine .rgI rfl ?_
        obtain ⟨hb4, h⟩ := gS h
        refine .o tabOk rfl rfl rfl (q_idx E_i rfl rfl rfl rfl rfl rfl hb4) ?_
        refine .o tabOk rfl rfl rfl (q_ld0 E_i rfl rfl rfl hb4 rfl) ?_
        refine .seg tabOk 2 1 [4, 5, 6, 7] [] (t := [(4, (vI (nth E_i a0 y2))), (5, (.ro 1 a0.length (flat E_i a0))), (6, (vI (a0.length : Int))), (7, (vI y2))]) (h := []) (ep := 9) (by kernel_rfl) ?_
        refine .fin rfl ?_
        refine sqN ?_
        refine .seq ?_
        refine .rgI rfl ?_
        refine .seg tabOk 0 5 [5, 6, 7, 15] [] (t := [(5, (.ro 1 a0.length (flat E_i a0))), (6, (vI (a0.length : Int))), (7, (vI y2)), (15, (.val (.bool (!decide ((nth E_i a0 y2) = (w64 ((IntKind.wrap .i16 ((nth E_i a0 y2))))))))))]) (h := []) (ep := 11) (by kernel_rfl) ?_
        refine .fin rfl ?_
        refine sqN ?_
        refine .cond (!decide ((nth E_i a0 y2) = (w64 ((IntKind.wrap .i16 ((nth E_i a0 y2))))))) rfl (fun hc5 => ?_) (fun hc5 => ?_)
        · have h := iT h hc5
          refine .seq ?_
          refine .rgI rfl ?_
          refine .seg tabOk 0 1 [2] [] (t := [(2, (.val (.bool false)))]) (h := []) (ep := 13) (by kernel_rfl) ?_
          refine .fin rfl ?_
          refine sqN ?_
          refine .ret ?_
          refine bkR ?_
          refine sqR ?_
          refine jkR ?_
          refine bkR ?_
          refine jkR ?_
          refine sqR ?_
          injection h with h
          subst h
          exact ⟨.inr rfl, _, _, rfl, List.nodup_nil, rfl, rfl⟩
        · have h := iF h hc5
          refine .skip ?_
          refine bkN ?_
          refine sqN ?_
          refine .rgI rfl ?_
          refine .seg tabOk 0 2 [5, 6, 7] [] (t := [(5, (.ro 1 a0.length (flat E_i a0))), (6, (vI (a0.length : Int))), (7, (vI (w64 (y2 + 1))))]) (h := []) (ep := 13) (by kernel_rfl) ?_
          refine .fin rfl ?_
          exact jkN (by exact .tn [] ⟨rfl, rfl, rfl, trivial⟩ trivial rfl) ⟨n, (w64 (y2 + 1)), Nat.lt_succ_self n, rfl, h⟩
      · have h := iF h hc3
        refine .exit ?_
        refine sqX ?_
        refine jkX ?_
        refine bkE ?_
        exact jkN (by exact .tn [] trivial trivial rfl) ⟨rfl, h⟩
  · rintro _ ⟨rfl, h⟩
    subst hj1
    refine sqN ?_
    refine .seq ?_
    refine .rgI rfl ?_
    refine .seg tabOk 0 1 [2] [] (t := [(2, (.val (.bool true)))]) (h := []) (ep := 10) (by kernel_rfl) ?_
    refine .fin rfl ?_
    refine sqN ?_
    refine .ret ?_
    injection h with h
    subst h
    exact ⟨.inr rfl, _, _, rfl, List.nodup_nil, rfl, rfl⟩
abbrev R_be_Put := (List Int)
def L_be_Put_0 (a0 : Int) (a1 : Int) (j2 : (List Int) → Option R_be_Put) : Nat → (List Int) → Int → Option R_be_Put
  | 0, _, _ => none
  | n + 1, y3, y4 =>
    if (decide (y4 < (if (if 8 < a1 then 8 else a1) > 0 then (if 8 < a1 then 8 else a1) else 0))) then
      gd (0 ≤ (w64 (8 * y4))) <|
      gd (0 ≤ (w64 ((w64 ((if (if 8 < a1 then 8 else a1) > 0 then (if 8 < a1 then 8 else a1) else 0) - 1)) - y4)) ∧ (w64 ((w64 ((if (if 8 < a1 then 8 else a1) > 0 then (if 8 < a1 then 8 else a1) else 0) - 1)) - y4)) < y3.length) <|
      L_be_Put_0 a0 a1 j2 n (y3.set (Int.toNat (w64 ((w64 ((if (if 8 < a1 then 8 else a1) > 0 then (if 8 < a1 then 8 else a1) else 0) - 1)) - y4))) (IntKind.wrap .u8 ((Int.fdiv a0 (2 ^ (min (Int.toNat (w64 (8 * y4))) 64)))))) (w64 (y4 + 1))
    else
    j2 y3
def F_be_Put (n : Nat) (a0 : Int) (a1 : Int) : Option R_be_Put :=
  gd (0 ≤ (if (if 8 < a1 then 8 else a1) > 0 then (if 8 < a1 then 8 else a1) else 0) ∧ fits (Int.toNat (if (if 8 < a1 then 8 else a1) > 0 then (if 8 < a1 then 8 else a1) else 0)) 1 = true) <|
  lj (fun (x8 : (List Int)) =>
    some x8) fun j2 =>
  L_be_Put_0 a0 a1 j2 n (List.replicate (Int.toNat (if (if 8 < a1 then 8 else a1) > 0 then (if 8 < a1 then 8 else a1) else 0)) E_B.d) 0
theorem C_be_Put (n : Nat) (a0 : Int) (a1 : Int) (r : R_be_Put) (h : F_be_Put n a0 a1 = some r) : CallS Try.prog 41 [(vI a0), (vI a1)] (.own 1 r.length (flat E_B r)) [none, none] := by
  refine CallS.introK tabOk Try.func41 rfl Try.ntmps41 (Nat.le_of_ble_eq_true rfl) ?_
  rw [F_be_Put] at h
  refine .seq ?_
  refine .rgI rfl ?_
  refine .seg tabOk 0 1 [0, 1] [] (t := [(0, (vI a0)), (1, (vI a1))]) (h := []) (ep := 2) (by kernel_rfl) ?_
  refine .fin rfl ?_
  refine sqN ?_
  refine .seq ?_
  refine .rgI rfl ?_
  refine .seg tabOk 0 4 [0, 1] [] (t := [(0, (vI a0)), (1, (vI (if (if 8 < a1 then 8 else a1) > 0 then (if 8 < a1 then 8 else a1) else 0)))]) (h := []) (ep := 4) (by kernel_rfl) ?_
  refine .fin rfl ?_
  refine sqN ?_
  refine .seq ?_
  refine .rgI rfl ?_
  refine .seg tabOk 0 1 [0, 1, 10] [] (t := [(0, (vI a0)), (1, (vI (if (if 8 < a1 then 8 else a1) > 0 then (if 8 < a1 then 8 else a1) else 0))), (10, (vI (if (if 8 < a1 then 8 else a1) > 0 then (if 8 < a1 then 8 else a1) else 0)))]) (h := []) (ep := 6) (by kernel_rfl) ?_
  obtain ⟨hb1, h⟩ := gS h
  refine .oo tabOk rfl rfl rfl (q_mk E_B rfl rfl rfl rfl rfl rfl rfl hb1) ?_
  refine .seg tabOk 2 1 [0, 1, 5] [176] (t := [(0, (vI a0)), (1, (vI (if (if 8 < a1 then 8 else a1) > 0 then (if 8 < a1 then 8 else a1) else 0))), (5, (.sref (176, 6) 0 (List.replicate (Int.toNat (if (if 8 < a1 then 8 else a1) > 0 then (if 8 < a1 then 8 else a1) else 0)) E_B.d).length 1))]) (h := [(176, ⟨6, .live, true, flat E_B (List.replicate (Int.toNat (if (if 8 < a1 then 8 else a1) > 0 then (if 8 < a1 then 8 else a1) else 0)) E_B.d)⟩)]) (ep := 7) (by kernel_rfl) ?_
  refine .fin rfl ?_
  refine sqN ?_
  refine .seq ?_
  refine .seq ?_
  refine .rgI rfl ?_
  refine .seg tabOk 0 2 [0, 1, 5, 12, 13] [176] (t := [(0, (vI a0)), (1, (vI (if (if 8 < a1 then 8 else a1) > 0 then (if 8 < a1 then 8 else a1) else 0))), (5, (.sref (176, 6) 0 (List.replicate (Int.toNat (if (if 8 < a1 then 8 else a1) > 0 then (if 8 < a1 then 8 else a1) else 0)) E_B.d).length 1)), (12, (vI (if (if 8 < a1 then 8 else a1) > 0 then (if 8 < a1 then 8 else a1) else 0))), (13, (vI 0))]) (h := [(176, ⟨6, .live, true, flat E_B (List.replicate (Int.toNat (if (if 8 < a1 then 8 else a1) > 0 then (if 8 < a1 then 8 else a1) else 0)) E_B.d)⟩)]) (ep := 9) (by kernel_rfl) ?_
  refine .fin rfl ?_
  refine sqN ?_
  obtain ⟨j2, hj2, h⟩ := ljS h
  refine .join (fun s' => ∃ x8, s' = ⟨[(5, (.sref (176, 6) 0 x8.length 1))], [(176, ⟨6, .live, true, flat E_B x8⟩)], 13⟩ ∧ j2 x8 = some r) ?_ ?_
  · refine .block ?_
    refine .loopF (β := (List Int) × Int) (fun v => ⟨[(0, (vI a0)), (1, (vI (if (if 8 < a1 then 8 else a1) > 0 then (if 8 < a1 then 8 else a1) else 0))), (5, (.sref (176, 6) 0 v.1.length 1)), (12, (vI (if (if 8 < a1 then 8 else a1) > 0 then (if 8 < a1 then 8 else a1) else 0))), (13, (vI v.2))], [(176, ⟨6, .live, true, flat E_B v.1⟩)], 10⟩) (fun m v => L_be_Put_0 a0 a1 j2 m v.1 v.2 = some r) n ((List.replicate (Int.toNat (if (if 8 < a1 then 8 else a1) > 0 then (if 8 < a1 then 8 else a1) else 0)) E_B.d), 0) (by exact .tn [((176, 6), (176, 6))] ⟨rfl, rfl, rfl, rfl, rfl, trivial⟩ ⟨rfl, ⟨_, rfl, ah_row E_B⟩, trivial⟩ rfl) h ?_
    rintro m ⟨y3, y4⟩ h
    cases m with
    | zero => exact nomatch h
    | succ n =>
      rw [L_be_Put_0] at h
      refine .seq ?_
      refine .rgI rfl ?_
      refine .seg tabOk 0 1 [0, 1, 5, 12, 13, 14] [176] (t := [(0, (vI a0)), (1, (vI (if (if 8 < a1 then 8 else a1) > 0 then (if 8 < a1 then 8 else a1) else 0))), (5, (.sref (176, 6) 0 y3.length 1)), (12, (vI (if (if 8 < a1 then 8 else a1) > 0 then (if 8 < a1 then 8 else a1) else 0))), (13, (vI y4)), (14, (.val (.bool (decide (y4 < (if (if 8 < a1 then 8 else a1) > 0 then (if 8 < a1 then 8 else a1) else 0))))))]) (h := [(176, ⟨6, .live, true, flat E_B y3⟩)]) (ep := 12) (by kernel_rfl) ?_
      refine .fin rfl ?_
      refine sqN ?_
      refine .seq ?_
      refine .cond (decide (y4 < (if (if 8 < a1 then 8 else a1) > 0 then (if 8 < a1 then 8 else a1) else 0))) rfl (fun hc5 => ?_) (fun hc5 => ?_)
      · have h := iT h hc5
        refine .skip ?_
        refine sqN ?_
        refine .seq ?_
        refine .block ?_
        refine .seq ?_
        refine .rgI rfl ?_
        refine .seg tabOk 0 2 [0, 1, 5, 6, 12, 13] [176] (t := [(0, (vI a0)), (1, (vI (if (if 8 < a1 then 8 else a1) > 0 then (if 8 < a1 then 8 else a1) else 0))), (5, (.sref (176, 6) 0 y3.length 1)), (6, (vI y4)), (12, (vI (if (if 8 < a1 then 8 else a1) > 0 then (if 8 < a1 then 8 else a1) else 0))), (13, (vI y4))]) (h := [(176, ⟨6, .live, true, flat E_B y3⟩)]) (ep := 14) (by kernel_rfl) ?_
        refine .fin rfl ?_
        refine sqN ?_
        refine .rgI rfl ?_
        refine .seg tabOk 0 8 [0, 1, 5, 12, 13, 16, 20, 21, 23] [176] (t := [(0, (vI a0)), (1, (vI (if (if 8 < a1 then 8 else a1) > 0 then (if 8 < a1 then 8 else a1) else 0))), (5, (.sref (176, 6) 0 y3.length 1)), (12, (vI (if (if 8 < a1 then 8 else a1) > 0 then (if 8 < a1 then 8 else a1) else 0))), (13, (vI y4)), (16, (.sref (176, 6) 0 y3.length 1)), (20, (vI (w64 ((w64 ((if (if 8 < a1 then 8 else a1) > 0 then (if 8 < a1 then 8 else a1) else 0) - 1)) - y4)))), (21, (vI a0)), (23, (vI (w64 (8 * y4))))]) (h := [(176, ⟨6, .live, true, flat E_B y3⟩)]) (ep := 16) (by kernel_rfl) ?_
        obtain ⟨hb6, h⟩ := gS h
        refine .o tabOk rfl rfl rfl (q_shr rfl rfl hb6) ?_
        refine .seg tabOk 9 1 [0, 1, 5, 12, 13, 16, 20, 25] [176] (t := [(0, (vI a0)), (1, (vI (if (if 8 < a1 then 8 else a1) > 0 then (if 8 < a1 then 8 else a1) else 0))), (5, (.sref (176, 6) 0 y3.length 1)), (12, (vI (if (if 8 < a1 then 8 else a1) > 0 then (if 8 < a1 then 8 else a1) else 0))), (13, (vI y4)), (16, (.sref (176, 6) 0 y3.length 1)), (20, (vI (w64 ((w64 ((if (if 8 < a1 then 8 else a1) > 0 then (if 8 < a1 then 8 else a1) else 0) - 1)) - y4)))), (25, (.val (.int .u8 (IntKind.wrap .u8 ((Int.fdiv a0 (2 ^ (min (Int.toNat (w64 (8 * y4))) 64))))))))]) (h := [(176, ⟨6, .live, true, flat E_B y3⟩)]) (ep := 17) (by kernel_rfl) ?_
        obtain ⟨hb7, h⟩ := gS h
        refine .oo tabOk rfl rfl rfl (q_idxS E_B (l := y3) rfl rfl rfl rfl rfl rfl rfl rfl hb7) ?_
        refine .oo tabOk rfl rfl rfl (q_stS E_B (l := y3) (v := (IntKind.wrap .u8 ((Int.fdiv a0 (2 ^ (min (Int.toNat (w64 (8 * y4))) 64)))))) rfl rfl rfl rfl rfl rfl rfl rfl hb7) ?_
        refine .seg tabOk 12 0 [0, 1, 5, 12, 13] [176] (t := [(0, (vI a0)), (1, (vI (if (if 8 < a1 then 8 else a1) > 0 then (if 8 < a1 then 8 else a1) else 0))), (5, (.sref (176, 6) 0 y3.length 1)), (12, (vI (if (if 8 < a1 then 8 else a1) > 0 then (if 8 < a1 then 8 else a1) else 0))), (13, (vI y4))]) (h := [(176, ⟨6, .live, true, flat E_B (y3.set (Int.toNat (w64 ((w64 ((if (if 8 < a1 then 8 else a1) > 0 then (if 8 < a1 then 8 else a1) else 0) - 1)) - y4))) (IntKind.wrap .u8 ((Int.fdiv a0 (2 ^ (min (Int.toNat (w64 (8 * y4))) 64))))))⟩)]) (ep := 18) (by kernel_rfl) ?_
        refine .fin rfl ?_
        refine bkN ?_
        refine sqN ?_
        refine .rgI rfl ?_
        refine .seg tabOk 0 2 [0, 1, 5, 12, 13] [176] (t := [(0, (vI a0)), (1, (vI (if (if 8 < a1 then 8 else a1) > 0 then (if 8 < a1 then 8 else a1) else 0))), (5, (.sref (176, 6) 0 y3.length 1)), (12, (vI (if (if 8 < a1 then 8 else a1) > 0 then (if 8 < a1 then 8 else a1) else 0))), (13, (vI (w64 (y4 + 1))))]) (h := [(176, ⟨6, .live, true, flat E_B (y3.set (Int.toNat (w64 ((w64 ((if (if 8 < a1 then 8 else a1) > 0 then (if 8 < a1 then 8 else a1) else 0) - 1)) - y4))) (IntKind.wrap .u8 ((Int.fdiv a0 (2 ^ (min (Int.toNat (w64 (8 * y4))) 64))))))⟩)]) (ep := 20) (by kernel_rfl) ?_
        refine .fin rfl ?_
        exact jkN (by exact .tn [((176, 6), (176, 6))] ⟨rfl, rfl, (sref_len (by simp) rfl), rfl, rfl, trivial⟩ ⟨rfl, ⟨_, rfl, ah_row E_B⟩, trivial⟩ rfl) ⟨n, ((y3.set (Int.toNat (w64 ((w64 ((if (if 8 < a1 then 8 else a1) > 0 then (if 8 < a1 then 8 else a1) else 0) - 1)) - y4))) (IntKind.wrap .u8 ((Int.fdiv a0 (2 ^ (min (Int.toNat (w64 (8 * y4))) 64)))))), (w64 (y4 + 1))), Nat.lt_succ_self n, rfl, h⟩
      · have h := iF h hc5
        refine .exit ?_
        refine sqX ?_
        refine jkX ?_
        refine bkE ?_
        exact jkN (by exact .tn [((176, 6), (176, 6))] ⟨rfl, trivial⟩ ⟨rfl, ⟨_, rfl, ah_row E_B⟩, trivial⟩ rfl) ⟨_, rfl, h⟩
  · rintro _ ⟨x8, rfl, h⟩
    subst hj2
    refine sqN ?_
    refine .seq ?_
    refine .rgI rfl ?_
    refine .seg tabOk 0 2 [4] [176] (t := [(4, (.sref (176, 6) 0 x8.length 1))]) (h := [(176, ⟨6, .live, true, flat E_B x8⟩)]) (ep := 15) (by kernel_rfl) ?_
    refine .fin rfl ?_
    refine sqN ?_
    refine .ret ?_
    injection h with h
    subst h
    exact ⟨.inr rfl, _, _, (f_cons (f_tmp rfl (o1_row E_B x8 rfl rfl rfl rfl rfl)) f_nil), nd_of rfl, rfl, rfl⟩
abbrev R_compo_pack := (List Int)
def L_compo_pack_0 (a0 : T_SiiiA4ie) (a1 : Int) (j14 : (List Int) → Option R_compo_pack) : Nat → (List Int) → Int → Option R_compo_pack
  | 0, _, _ => none
  | n + 1, y15, y16 =>
    if (decide (y16 < ((if ((!decide (a0.f3.a1 = 0)) || (!decide (a0.f3.a2 = 0))) then ([a0.f3.a0, a0.f3.a1, a0.f3.a2, a0.f3.a3] : List Int) else (if (!decide (a0.f3.a0 = a0.f3.a3)) then ([a0.f3.a0, a0.f3.a3] : List Int) else (if (!decide (a0.f3.a0 = 16384)) then ([a0.f3.a0] : List Int) else ([] : List Int)))).length : Int))) then
      gd (0 ≤ y16 ∧ y16 < (if ((!decide (a0.f3.a1 = 0)) || (!decide (a0.f3.a2 = 0))) then ([a0.f3.a0, a0.f3.a1, a0.f3.a2, a0.f3.a3] : List Int) else (if (!decide (a0.f3.a0 = a0.f3.a3)) then ([a0.f3.a0, a0.f3.a3] : List Int) else (if (!decide (a0.f3.a0 = 16384)) then ([a0.f3.a0] : List Int) else ([] : List Int)))).length) <|
      Option.bind (F_be_Put n (nth E_i (if ((!decide (a0.f3.a1 = 0)) || (!decide (a0.f3.a2 = 0))) then ([a0.f3.a0, a0.f3.a1, a0.f3.a2, a0.f3.a3] : List Int) else (if (!decide (a0.f3.a0 = a0.f3.a3)) then ([a0.f3.a0, a0.f3.a3] : List Int) else (if (!decide (a0.f3.a0 = 16384)) then ([a0.f3.a0] : List Int) else ([] : List Int)))) y16) 2) fun v19 =>
      gd (fits (y15.length + v19.length) 1 = true) <|
      L_compo_pack_0 a0 a1 j14 n (y15 ++ v19) (w64 (y16 + 1))
    else
    j14 y15
def F_compo_pack (n : Nat) (a0 : T_SiiiA4ie) (a1 : Int) : Option R_compo_pack :=
  Option.bind (F_be_Put n (if ((!decide (a0.f3.a1 = 0)) || (!decide (a0.f3.a2 = 0))) then (bits .or .i64 (if ((!decide (a0.f1 = (w64 ((IntKind.wrap .i8 (a0.f1)))))) || (!decide (a0.f2 = (w64 ((IntKind.wrap .i8 (a0.f2))))))) then (bits .or .i64 (bits .or .i64 2 a1) 1) else (bits .or .i64 2 a1)) 128) else (if (!decide (a0.f3.a0 = a0.f3.a3)) then (bits .or .i64 (if ((!decide (a0.f1 = (w64 ((IntKind.wrap .i8 (a0.f1)))))) || (!decide (a0.f2 = (w64 ((IntKind.wrap .i8 (a0.f2))))))) then (bits .or .i64 (bits .or .i64 2 a1) 1) else (bits .or .i64 2 a1)) 64) else (if (!decide (a0.f3.a0 = 16384)) then (bits .or .i64 (if ((!decide (a0.f1 = (w64 ((IntKind.wrap .i8 (a0.f1)))))) || (!decide (a0.f2 = (w64 ((IntKind.wrap .i8 (a0.f2))))))) then (bits .or .i64 (bits .or .i64 2 a1) 1) else (bits .or .i64 2 a1)) 8) else (if ((!decide (a0.f1 = (w64 ((IntKind.wrap .i8 (a0.f1)))))) || (!decide (a0.f2 = (w64 ((IntKind.wrap .i8 (a0.f2))))))) then (bits .or .i64 (bits .or .i64 2 a1) 1) else (bits .or .i64 2 a1))))) 2) fun v7 =>
  Option.bind (F_be_Put n a0.f0 2) fun v8 =>
  gd (fits (v7.length + v8.length) 1 = true) <|
  Option.bind (F_be_Put n a0.f1 (if ((!decide (a0.f1 = (w64 ((IntKind.wrap .i8 (a0.f1)))))) || (!decide (a0.f2 = (w64 ((IntKind.wrap .i8 (a0.f2))))))) then 2 else 1)) fun v10 =>
  gd (fits ((v7 ++ v8).length + v10.length) 1 = true) <|
  Option.bind (F_be_Put n a0.f2 (if ((!decide (a0.f1 = (w64 ((IntKind.wrap .i8 (a0.f1)))))) || (!decide (a0.f2 = (w64 ((IntKind.wrap .i8 (a0.f2))))))) then 2 else 1)) fun v12 =>
  gd (fits (((v7 ++ v8) ++ v10).length + v12.length) 1 = true) <|
  lj (fun (x21 : (List Int)) =>
    some x21) fun j14 =>
  L_compo_pack_0 a0 a1 j14 n (((v7 ++ v8) ++ v10) ++ v12) 0
theorem C_compo_pack (n : Nat) (a0 : T_SiiiA4ie) (a1 : Int) (r : R_compo_pack) (h : F_compo_pack n a0 a1 = some r) : CallS Try.prog 42 [(.agg [(vI a0.f0), (vI a0.f1), (vI a0.f2), (vI a0.f3.a0), (vI a0.f3.a1), (vI a0.f3.a2), (vI a0.f3.a3)]), (vI a1)] (.own 1 r.length (flat E_B r)) [none, none] := by
  refine CallS.introK tabOk Try.func42 rfl Try.ntmps42 (Nat.le_of_ble_eq_true rfl) ?_
  rw [F_compo_pack] at h
  refine .seq ?_
  refine .rgI rfl ?_
  refine .seg tabOk 0 2 [1, 2] [32] (t := [(1, (vI a1)), (2, (.ptr (32, 1) 0))]) (h := [(32, ⟨1, .live, true, [(vI a0.f0), (vI a0.f1), (vI a0.f2), (vI a0.f3.a0), (vI a0.f3.a1), (vI a0.f3.a2), (vI a0.f3.a3)]⟩)]) (ep := 2) (by kernel_rfl) ?_
  refine .fin rfl ?_
  refine sqN ?_
  refine .seq ?_
  refine .rgI rfl ?_
  refine .seg tabOk 0 4 [2, 5, 6] [32] (t := [(2, (.ptr (32, 1) 0)), (5, (vI (bits .or .i64 2 a1))), (6, (vI 1))]) (h := [(32, ⟨1, .live, true, [(vI a0.f0), (vI a0.f1), (vI a0.f2), (vI a0.f3.a0), (vI a0.f3.a1), (vI a0.f3.a2), (vI a0.f3.a3)]⟩)]) (ep := 4) (by kernel_rfl) ?_
  refine .fin rfl ?_
  refine sqN ?_
  refine .seq ?_
  refine .seq ?_
  refine .join (fun s' => s' = ⟨[(2, (.ptr (32, 1) 0)), (5, (vI (bits .or .i64 2 a1))), (6, (vI 1)), (28, (.val (.bool ((!decide (a0.f1 = (w64 ((IntKind.wrap .i8 (a0.f1)))))) || (!decide (a0.f2 = (w64 ((IntKind.wrap .i8 (a0.f2))))))))))], [(32, ⟨1, .live, true, [(vI a0.f0), (vI a0.f1), (vI a0.f2), (vI a0.f3.a0), (vI a0.f3.a1), (vI a0.f3.a2), (vI a0.f3.a3)]⟩)], 8⟩) ?_ ?_
  · refine .rgI rfl ?_
    refine .seg tabOk 0 8 [2, 5, 6, 20] [32] (t := [(2, (.ptr (32, 1) 0)), (5, (vI (bits .or .i64 2 a1))), (6, (vI 1)), (20, (.val (.bool (!decide (a0.f1 = (w64 ((IntKind.wrap .i8 (a0.f1)))))))))]) (h := [(32, ⟨1, .live, true, [(vI a0.f0), (vI a0.f1), (vI a0.f2), (vI a0.f3.a0), (vI a0.f3.a1), (vI a0.f3.a2), (vI a0.f3.a3)]⟩)]) (ep := 6) (by kernel_rfl) ?_
    cases hB1 : (!decide (a0.f1 = (w64 ((IntKind.wrap .i8 (a0.f1)))))) with
    | false =>
      skip
      refine .seg tabOk 8 8 [2, 5, 6, 28] [32] (t := [(2, (.ptr (32, 1) 0)), (5, (vI (bits .or .i64 2 a1))), (6, (vI 1)), (28, (.val (.bool (!decide (a0.f2 = (w64 ((IntKind.wrap .i8 (a0.f2)))))))))]) (h := [(32, ⟨1, .live, true, [(vI a0.f0), (vI a0.f1), (vI a0.f2), (vI a0.f3.a0), (vI a0.f3.a1), (vI a0.f3.a2), (vI a0.f3.a3)]⟩)]) (ep := 7) (by kernel_rfl) ?_
      refine .fin rfl ?_
      exact jkN (by exact .tn [((32, 1), (32, 1))] ⟨rfl, rfl, rfl, rfl, trivial⟩ ⟨rfl, ⟨_, rfl, rfl⟩, trivial⟩ rfl) rfl
    | true =>
      skip
      refine .seg tabOk 8 8 [2, 5, 6, 28] [32] (t := [(2, (.ptr (32, 1) 0)), (5, (vI (bits .or .i64 2 a1))), (6, (vI 1)), (28, (.val (.bool true)))]) (h := [(32, ⟨1, .live, true, [(vI a0.f0), (vI a0.f1), (vI a0.f2), (vI a0.f3.a0), (vI a0.f3.a1), (vI a0.f3.a2), (vI a0.f3.a3)]⟩)]) (ep := 7) (by kernel_rfl) ?_
      refine .fin rfl ?_
      exact jkN (by exact .tn [((32, 1), (32, 1))] ⟨rfl, rfl, rfl, rfl, trivial⟩ ⟨rfl, ⟨_, rfl, rfl⟩, trivial⟩ rfl) rfl
  · rintro _ rfl
    refine sqN ?_
    refine .join (fun s' => s' = ⟨[(2, (.ptr (32, 1) 0)), (5, (vI (if ((!decide (a0.f1 = (w64 ((IntKind.wrap .i8 (a0.f1)))))) || (!decide (a0.f2 = (w64 ((IntKind.wrap .i8 (a0.f2))))))) then (bits .or .i64 (bits .or .i64 2 a1) 1) else (bits .or .i64 2 a1)))), (6, (vI (if ((!decide (a0.f1 = (w64 ((IntKind.wrap .i8 (a0.f1)))))) || (!decide (a0.f2 = (w64 ((IntKind.wrap .i8 (a0.f2))))))) then 2 else 1)))], [(32, ⟨1, .live, true, [(vI a0.f0), (vI a0.f1), (vI a0.f2), (vI a0.f3.a0), (vI a0.f3.a1), (vI a0.f3.a2), (vI a0.f3.a3)]⟩)], 11⟩) ?_ ?_
    · refine .cond ((!decide (a0.f1 = (w64 ((IntKind.wrap .i8 (a0.f1)))))) || (!decide (a0.f2 = (w64 ((IntKind.wrap .i8 (a0.f2))))))) rfl (fun hc2 => ?_) (fun hc2 => ?_)
      · skip
        refine .rgI rfl ?_
        refine .seg tabOk 0 4 [2, 5, 6] [32] (t := [(2, (.ptr (32, 1) 0)), (5, (vI (bits .or .i64 (bits .or .i64 2 a1) 1))), (6, (vI 2))]) (h := [(32, ⟨1, .live, true, [(vI a0.f0), (vI a0.f1), (vI a0.f2), (vI a0.f3.a0), (vI a0.f3.a1), (vI a0.f3.a2), (vI a0.f3.a3)]⟩)]) (ep := 10) (by kernel_rfl) ?_
        refine .fin rfl ?_
        exact jkN (by exact .tn [((32, 1), (32, 1))] ⟨(by (try rw [hc2]); rfl), (by (try rw [hc2]); rfl), (by (try rw [hc2]); rfl), trivial⟩ ⟨rfl, ⟨_, rfl, (by (try rw [hc2]); exact rfl)⟩, trivial⟩ rfl) rfl
      · skip
        refine .skip ?_
        exact jkN (by exact .tn [((32, 1), (32, 1))] ⟨(by (try rw [hc2]); rfl), (by (try rw [hc2]); rfl), (by (try rw [hc2]); rfl), trivial⟩ ⟨rfl, ⟨_, rfl, (by (try rw [hc2]); exact rfl)⟩, trivial⟩ rfl) rfl
    · rintro _ rfl
      refine sqN ?_
      refine .seq ?_
      refine .rgI rfl ?_
      refine .seg tabOk 0 1 [2, 5, 6, 7] [32] (t := [(2, (.ptr (32, 1) 0)), (5, (vI (if ((!decide (a0.f1 = (w64 ((IntKind.wrap .i8 (a0.f1)))))) || (!decide (a0.f2 = (w64 ((IntKind.wrap .i8 (a0.f2))))))) then (bits .or .i64 (bits .or .i64 2 a1) 1) else (bits .or .i64 2 a1)))), (6, (vI (if ((!decide (a0.f1 = (w64 ((IntKind.wrap .i8 (a0.f1)))))) || (!decide (a0.f2 = (w64 ((IntKind.wrap .i8 (a0.f2))))))) then 2 else 1))), (7, .nils)]) (h := [(32, ⟨1, .live, true, [(vI a0.f0), (vI a0.f1), (vI a0.f2), (vI a0.f3.a0), (vI a0.f3.a1), (vI a0.f3.a2), (vI a0.f3.a3)]⟩)]) (ep := 13) (by kernel_rfl) ?_
      refine .fin rfl ?_
      refine sqN ?_
      refine .seq ?_
      refine .block ?_
      refine .seq ?_
      refine .join (fun s' => s' = ⟨[(2, (.ptr (32, 1) 0)), (5, (vI (if ((!decide (a0.f1 = (w64 ((IntKind.wrap .i8 (a0.f1)))))) || (!decide (a0.f2 = (w64 ((IntKind.wrap .i8 (a0.f2))))))) then (bits .or .i64 (bits .or .i64 2 a1) 1) else (bits .or .i64 2 a1)))), (6, (vI (if ((!decide (a0.f1 = (w64 ((IntKind.wrap .i8 (a0.f1)))))) || (!decide (a0.f2 = (w64 ((IntKind.wrap .i8 (a0.f2))))))) then 2 else 1))), (7, .nils), (31, (.val (.bool ((!decide (a0.f3.a1 = 0)) || (!decide (a0.f3.a2 = 0))))))], [(32, ⟨1, .live, true, [(vI a0.f0), (vI a0.f1), (vI a0.f2), (vI a0.f3.a0), (vI a0.f3.a1), (vI a0.f3.a2), (vI a0.f3.a3)]⟩)], 17⟩) ?_ ?_
      · refine .rgI rfl ?_
        refine .seg tabOk 0 5 [2, 5, 6, 7, 36] [32] (t := [(2, (.ptr (32, 1) 0)), (5, (vI (if ((!decide (a0.f1 = (w64 ((IntKind.wrap .i8 (a0.f1)))))) || (!decide (a0.f2 = (w64 ((IntKind.wrap .i8 (a0.f2))))))) then (bits .or .i64 (bits .or .i64 2 a1) 1) else (bits .or .i64 2 a1)))), (6, (vI (if ((!decide (a0.f1 = (w64 ((IntKind.wrap .i8 (a0.f1)))))) || (!decide (a0.f2 = (w64 ((IntKind.wrap .i8 (a0.f2))))))) then 2 else 1))), (7, .nils), (36, (.val (.bool (!decide (a0.f3.a1 = 0)))))]) (h := [(32, ⟨1, .live, true, [(vI a0.f0), (vI a0.f1), (vI a0.f2), (vI a0.f3.a0), (vI a0.f3.a1), (vI a0.f3.a2), (vI a0.f3.a3)]⟩)]) (ep := 15) (by kernel_rfl) ?_
        cases hB3 : (!decide (a0.f3.a1 = 0)) with
        | false =>
          skip
          refine .seg tabOk 5 6 [2, 5, 6, 7, 31] [32] (t := [(2, (.ptr (32, 1) 0)), (5, (vI (if ((!decide (a0.f1 = (w64 ((IntKind.wrap .i8 (a0.f1)))))) || (!decide (a0.f2 = (w64 ((IntKind.wrap .i8 (a0.f2))))))) then (bits .or .i64 (bits .or .i64 2 a1) 1) else (bits .or .i64 2 a1)))), (6, (vI (if ((!decide (a0.f1 = (w64 ((IntKind.wrap .i8 (a0.f1)))))) || (!decide (a0.f2 = (w64 ((IntKind.wrap .i8 (a0.f2))))))) then 2 else 1))), (7, .nils), (31, (.val (.bool (!decide (a0.f3.a2 = 0)))))]) (h := [(32, ⟨1, .live, true, [(vI a0.f0), (vI a0.f1), (vI a0.f2), (vI a0.f3.a0), (vI a0.f3.a1), (vI a0.f3.a2), (vI a0.f3.a3)]⟩)]) (ep := 16) (by kernel_rfl) ?_
          refine .fin rfl ?_
          exact jkN (by exact .tn [((32, 1), (32, 1))] ⟨rfl, rfl, rfl, rfl, rfl, trivial⟩ ⟨rfl, ⟨_, rfl, rfl⟩, trivial⟩ rfl) rfl
        | true =>
          skip
          refine .seg tabOk 5 6 [2, 5, 6, 7, 31] [32] (t := [(2, (.ptr (32, 1) 0)), (5, (vI (if ((!decide (a0.f1 = (w64 ((IntKind.wrap .i8 (a0.f1)))))) || (!decide (a0.f2 = (w64 ((IntKind.wrap .i8 (a0.f2))))))) then (bits .or .i64 (bits .or .i64 2 a1) 1) else (bits .or .i64 2 a1)))), (6, (vI (if ((!decide (a0.f1 = (w64 ((IntKind.wrap .i8 (a0.f1)))))) || (!decide (a0.f2 = (w64 ((IntKind.wrap .i8 (a0.f2))))))) then 2 else 1))), (7, .nils), (31, (.val (.bool true)))]) (h := [(32, ⟨1, .live, true, [(vI a0.f0), (vI a0.f1), (vI a0.f2), (vI a0.f3.a0), (vI a0.f3.a1), (vI a0.f3.a2), (vI a0.f3.a3)]⟩)]) (ep := 16) (by kernel_rfl) ?_
          refine .fin rfl ?_
          exact jkN (by exact .tn [((32, 1), (32, 1))] ⟨rfl, rfl, rfl, rfl, rfl, trivial⟩ ⟨rfl, ⟨_, rfl, rfl⟩, trivial⟩ rfl) rfl
      · rintro _ rfl
        refine sqN ?_
        refine .join (fun s' => s' = ⟨[(2, (.ptr (32, 1) 0)), (5, (vI (if ((!decide (a0.f3.a1 = 0)) || (!decide (a0.f3.a2 = 0))) then (bits .or .i64 (if ((!decide (a0.f1 = (w64 ((IntKind.wrap .i8 (a0.f1)))))) || (!decide (a0.f2 = (w64 ((IntKind.wrap .i8 (a0.f2))))))) then (bits .or .i64 (bits .or .i64 2 a1) 1) else (bits .or .i64 2 a1)) 128) else (if (!decide (a0.f3.a0 = a0.f3.a3)) then (bits .or .i64 (if ((!decide (a0.f1 = (w64 ((IntKind.wrap .i8 (a0.f1)))))) || (!decide (a0.f2 = (w64 ((IntKind.wrap .i8 (a0.f2))))))) then (bits .or .i64 (bits .or .i64 2 a1) 1) else (bits .or .i64 2 a1)) 64) else (if (!decide (a0.f3.a0 = 16384)) then (bits .or .i64 (if ((!decide (a0.f1 = (w64 ((IntKind.wrap .i8 (a0.f1)))))) || (!decide (a0.f2 = (w64 ((IntKind.wrap .i8 (a0.f2))))))) then (bits .or .i64 (bits .or .i64 2 a1) 1) else (bits .or .i64 2 a1)) 8) else (if ((!decide (a0.f1 = (w64 ((IntKind.wrap .i8 (a0.f1)))))) || (!decide (a0.f2 = (w64 ((IntKind.wrap .i8 (a0.f2))))))) then (bits .or .i64 (bits .or .i64 2 a1) 1) else (bits .or .i64 2 a1))))))), (6, (vI (if ((!decide (a0.f1 = (w64 ((IntKind.wrap .i8 (a0.f1)))))) || (!decide (a0.f2 = (w64 ((IntKind.wrap .i8 (a0.f2))))))) then 2 else 1))), (7, (.ro 1 (if ((!decide (a0.f3.a1 = 0)) || (!decide (a0.f3.a2 = 0))) then ([a0.f3.a0, a0.f3.a1, a0.f3.a2, a0.f3.a3] : List Int) else (if (!decide (a0.f3.a0 = a0.f3.a3)) then ([a0.f3.a0, a0.f3.a3] : List Int) else (if (!decide (a0.f3.a0 = 16384)) then ([a0.f3.a0] : List Int) else ([] : List Int)))).length (flat E_i (if ((!decide (a0.f3.a1 = 0)) || (!decide (a0.f3.a2 = 0))) then ([a0.f3.a0, a0.f3.a1, a0.f3.a2, a0.f3.a3] : List Int) else (if (!decide (a0.f3.a0 = a0.f3.a3)) then ([a0.f3.a0, a0.f3.a3] : List Int) else (if (!decide (a0.f3.a0 = 16384)) then ([a0.f3.a0] : List Int) else ([] : List Int)))))))], [(32, ⟨1, .froz, true, [(vI a0.f0), (vI a0.f1), (vI a0.f2), (vI a0.f3.a0), (vI a0.f3.a1), (vI a0.f3.a2), (vI a0.f3.a3)]⟩)], 24⟩) ?_ ?_
        · refine .cond ((!decide (a0.f3.a1 = 0)) || (!decide (a0.f3.a2 = 0))) rfl (fun hc4 => ?_) (fun hc4 => ?_)
          · skip
            refine .rgD rfl ?_
            refine .seg tabOk 0 6 [2, 5, 6, 7] [32] (t := [(2, (.ptr (32, 1) 0)), (5, (vI (bits .or .i64 (if ((!decide (a0.f1 = (w64 ((IntKind.wrap .i8 (a0.f1)))))) || (!decide (a0.f2 = (w64 ((IntKind.wrap .i8 (a0.f2))))))) then (bits .or .i64 (bits .or .i64 2 a1) 1) else (bits .or .i64 2 a1)) 128))), (6, (vI (if ((!decide (a0.f1 = (w64 ((IntKind.wrap .i8 (a0.f1)))))) || (!decide (a0.f2 = (w64 ((IntKind.wrap .i8 (a0.f2))))))) then 2 else 1))), (7, (.sref (32, 1) 3 4 1))]) (h := [(32, ⟨1, .live, true, [(vI a0.f0), (vI a0.f1), (vI a0.f2), (vI a0.f3.a0), (vI a0.f3.a1), (vI a0.f3.a2), (vI a0.f3.a3)]⟩)]) (ep := 18) (by kernel_rfl) ?_
            refine .fin mixed [2, 5, 6, 7] [32] (t := [(2, (.ptr (32, 1) 0)), (5, (vI (bits .or .i64 (if ((!decide (a0.f1 = (w64 ((IntKind.wrap .i8 (a0.f1)))))) || (!decide (a0.f2 = (w64 ((IntKind.wrap .i8 (a0.f2))))))) then (bits .or .i64 (bits .or .i64 2 a1) 1) else (bits .or .i64 2 a1)) 128))), (6, (vI (if ((!decide (a0.f1 = (w64 ((IntKind.wrap .i8 (a0.f1)))))) || (!decide (a0.f2 = (w64 ((IntKind.wrap .i8 (a0.f2))))))) then 2 else 1))), (7, (.sref (32, 1) 3 4 1))]) (h := [(32, ⟨1, .live, true, [(vI a0.f0), (vI a0.f1), (vI a0.f2), (vI a0.f3.a0), (vI a0.f3.a1), (vI a0.f3.a2), (vI a0.f3.a3)]⟩)]) (ep := 19) rfl (by kernel_rfl) rfl ?_
            exact jkN (by exact .trans (.frz (i := (32, 1)) rfl rfl rfl) (.trans (.srefRo (d := 7) (cs := flat E_i ([a0.f3.a0, a0.f3.a1, a0.f3.a2, a0.f3.a3] : List Int)) rfl rfl rfl rfl rfl) (.tn [((32, 1), (32, 1))] ⟨(by (try rw [hc4]); rfl), (by (try rw [hc4]); rfl), (by (try rw [hc4]); rfl), (by (try rw [hc4]); rfl), trivial⟩ ⟨rfl, ⟨_, rfl, (by (try rw [hc4]); exact rfl)⟩, trivial⟩ rfl))) rfl
          · skip
            refine .seq ?_
            refine .rgI rfl ?_
            refine .seg tabOk 0 8 [2, 5, 6, 7, 46] [32] (t := [(2, (.ptr (32, 1) 0)), (5, (vI (if ((!decide (a0.f1 = (w64 ((IntKind.wrap .i8 (a0.f1)))))) || (!decide (a0.f2 = (w64 ((IntKind.wrap .i8 (a0.f2))))))) then (bits .or .i64 (bits .or .i64 2 a1) 1) else (bits .or .i64 2 a1)))), (6, (vI (if ((!decide (a0.f1 = (w64 ((IntKind.wrap .i8 (a0.f1)))))) || (!decide (a0.f2 = (w64 ((IntKind.wrap .i8 (a0.f2))))))) then 2 else 1))), (7, .nils), (46, (.val (.bool (!decide (a0.f3.a0 = a0.f3.a3)))))]) (h := [(32, ⟨1, .live, true, [(vI a0.f0), (vI a0.f1), (vI a0.f2), (vI a0.f3.a0), (vI a0.f3.a1), (vI a0.f3.a2), (vI a0.f3.a3)]⟩)]) (ep := 19) (by kernel_rfl) ?_
            refine .fin rfl ?_
            refine sqN ?_
            refine .cond (!decide (a0.f3.a0 = a0.f3.a3)) rfl (fun hc5 => ?_) (fun hc5 => ?_)
            · skip
              refine .rgD rfl ?_
              refine .seg tabOk 0 11 [2, 5, 6, 7] [32, 992] (t := [(2, (.ptr (32, 1) 0)), (5, (vI (bits .or .i64 (if ((!decide (a0.f1 = (w64 ((IntKind.wrap .i8 (a0.f1)))))) || (!decide (a0.f2 = (w64 ((IntKind.wrap .i8 (a0.f2))))))) then (bits .or .i64 (bits .or .i64 2 a1) 1) else (bits .or .i64 2 a1)) 64))), (6, (vI (if ((!decide (a0.f1 = (w64 ((IntKind.wrap .i8 (a0.f1)))))) || (!decide (a0.f2 = (w64 ((IntKind.wrap .i8 (a0.f2))))))) then 2 else 1))), (7, (.sref (992, 20) 0 ([a0.f3.a0, a0.f3.a3] : List Int).length 1))]) (h := [(32, ⟨1, .live, true, [(vI a0.f0), (vI a0.f1), (vI a0.f2), (vI a0.f3.a0), (vI a0.f3.a1), (vI a0.f3.a2), (vI a0.f3.a3)]⟩), (992, ⟨20, .live, true, flat E_i ([a0.f3.a0, a0.f3.a3] : List Int)⟩)]) (ep := 20) (by kernel_rfl) ?_
              refine .fin mixed [2, 5, 6, 7] [32, 992] (t := [(2, (.ptr (32, 1) 0)), (5, (vI (bits .or .i64 (if ((!decide (a0.f1 = (w64 ((IntKind.wrap .i8 (a0.f1)))))) || (!decide (a0.f2 = (w64 ((IntKind.wrap .i8 (a0.f2))))))) then (bits .or .i64 (bits .or .i64 2 a1) 1) else (bits .or .i64 2 a1)) 64))), (6, (vI (if ((!decide (a0.f1 = (w64 ((IntKind.wrap .i8 (a0.f1)))))) || (!decide (a0.f2 = (w64 ((IntKind.wrap .i8 (a0.f2))))))) then 2 else 1))), (7, (.sref (992, 20) 0 ([a0.f3.a0, a0.f3.a3] : List Int).length 1))]) (h := [(32, ⟨1, .live, true, [(vI a0.f0), (vI a0.f1), (vI a0.f2), (vI a0.f3.a0), (vI a0.f3.a1), (vI a0.f3.a2), (vI a0.f3.a3)]⟩), (992, ⟨20, .live, true, flat E_i ([a0.f3.a0, a0.f3.a3] : List Int)⟩)]) (ep := 21) rfl (by kernel_rfl) rfl ?_
              exact jkN (by exact .trans (.rowRo E_i 7 ([a0.f3.a0, a0.f3.a3] : List Int) rfl rfl rfl rfl rfl rfl) (.trans (.frz (i := (32, 1)) rfl rfl rfl) (.tn [((32, 1), (32, 1))] ⟨(by (try rw [hc4]); (try rw [hc5]); rfl), (by (try rw [hc4]); (try rw [hc5]); rfl), (by (try rw [hc4]); (try rw [hc5]); rfl), (by (try rw [hc4]); (try rw [hc5]); rfl), trivial⟩ ⟨rfl, ⟨_, rfl, (by (try rw [hc4]); (try rw [hc5]); exact rfl)⟩, trivial⟩ rfl))) rfl
            · skip
              refine .seq ?_
              refine .rgI rfl ?_
              refine .seg tabOk 0 5 [2, 5, 6, 7, 63] [32] (t := [(2, (.ptr (32, 1) 0)), (5, (vI (if ((!decide (a0.f1 = (w64 ((IntKind.wrap .i8 (a0.f1)))))) || (!decide (a0.f2 = (w64 ((IntKind.wrap .i8 (a0.f2))))))) then (bits .or .i64 (bits .or .i64 2 a1) 1) else (bits .or .i64 2 a1)))), (6, (vI (if ((!decide (a0.f1 = (w64 ((IntKind.wrap .i8 (a0.f1)))))) || (!decide (a0.f2 = (w64 ((IntKind.wrap .i8 (a0.f2))))))) then 2 else 1))), (7, .nils), (63, (.val (.bool (!decide (a0.f3.a0 = 16384)))))]) (h := [(32, ⟨1, .live, true, [(vI a0.f0), (vI a0.f1), (vI a0.f2), (vI a0.f3.a0), (vI a0.f3.a1), (vI a0.f3.a2), (vI a0.f3.a3)]⟩)]) (ep := 21) (by kernel_rfl) ?_
              refine .fin rfl ?_
              refine sqN ?_
              refine .cond (!decide (a0.f3.a0 = 16384)) rfl (fun hc6 => ?_) (fun hc6 => ?_)
              · skip
                refine .rgD rfl ?_
                refine .seg tabOk 0 6 [2, 5, 6, 7] [32] (t := [(2, (.ptr (32, 1) 0)), (5, (vI (bits .or .i64 (if ((!decide (a0.f1 = (w64 ((IntKind.wrap .i8 (a0.f1)))))) || (!decide (a0.f2 = (w64 ((IntKind.wrap .i8 (a0.f2))))))) then (bits .or .i64 (bits .or .i64 2 a1) 1) else (bits .or .i64 2 a1)) 8))), (6, (vI (if ((!decide (a0.f1 = (w64 ((IntKind.wrap .i8 (a0.f1)))))) || (!decide (a0.f2 = (w64 ((IntKind.wrap .i8 (a0.f2))))))) then 2 else 1))), (7, (.sref (32, 1) 3 1 1))]) (h := [(32, ⟨1, .live, true, [(vI a0.f0), (vI a0.f1), (vI a0.f2), (vI a0.f3.a0), (vI a0.f3.a1), (vI a0.f3.a2), (vI a0.f3.a3)]⟩)]) (ep := 22) (by kernel_rfl) ?_
                refine .fin mixed [2, 5, 6, 7] [32] (t := [(2, (.ptr (32, 1) 0)), (5, (vI (bits .or .i64 (if ((!decide (a0.f1 = (w64 ((IntKind.wrap .i8 (a0.f1)))))) || (!decide (a0.f2 = (w64 ((IntKind.wrap .i8 (a0.f2))))))) then (bits .or .i64 (bits .or .i64 2 a1) 1) else (bits .or .i64 2 a1)) 8))), (6, (vI (if ((!decide (a0.f1 = (w64 ((IntKind.wrap .i8 (a0.f1)))))) || (!decide (a0.f2 = (w64 ((IntKind.wrap .i8 (a0.f2))))))) then 2 else 1))), (7, (.sref (32, 1) 3 1 1))]) (h := [(32, ⟨1, .live, true, [(vI a0.f0), (vI a0.f1), (vI a0.f2), (vI a0.f3.a0), (vI a0.f3.a1), (vI a0.f3.a2), (vI a0.f3.a3)]⟩)]) (ep := 23) rfl (by kernel_rfl) rfl ?_
                exact jkN (by exact .trans (.frz (i := (32, 1)) rfl rfl rfl) (.trans (.srefRo (d := 7) (cs := flat E_i ([a0.f3.a0] : List Int)) rfl rfl rfl rfl rfl) (.tn [((32, 1), (32, 1))] ⟨(by (try rw [hc4]); (try rw [hc5]); (try rw [hc6]); rfl), (by (try rw [hc4]); (try rw [hc5]); (try rw [hc6]); rfl), (by (try rw [hc4]); (try rw [hc5]); (try rw [hc6]); rfl), (by (try rw [hc4]); (try rw [hc5]); (try rw [hc6]); rfl), trivial⟩ ⟨rfl, ⟨_, rfl, (by (try rw [hc4]); (try rw [hc5]); (try rw [hc6]); exact rfl)⟩, trivial⟩ rfl))) rfl
              · skip
                refine .skip ?_
                exact jkN (by exact .trans (.nilRo 7 1 rfl) (.trans (.frz (i := (32, 1)) rfl rfl rfl) (.tn [((32, 1), (32, 1))] ⟨(by (try rw [hc4]); (try rw [hc5]); (try rw [hc6]); rfl), (by (try rw [hc4]); (try rw [hc5]); (try rw [hc6]); rfl), (by (try rw [hc4]); (try rw [hc5]); (try rw [hc6]); rfl), (by (try rw [hc4]); (try rw [hc5]); (try rw [hc6]); rfl), trivial⟩ ⟨rfl, ⟨_, rfl, (by (try rw [hc4]); (try rw [hc5]); (try rw [hc6]); exact rfl)⟩, trivial⟩ rfl))) rfl
        · rintro _ rfl
          refine bkN ?_
          refine sqN ?_
          refine .seq ?_
          refine .rgD rfl ?_
          refine .seg tabOk 0 1 [2, 6, 7, 72] [32] (t := [(2, (.ptr (32, 1) 0)), (6, (vI (if ((!decide (a0.f1 = (w64 ((IntKind.wrap .i8 (a0.f1)))))) || (!decide (a0.f2 = (w64 ((IntKind.wrap .i8 (a0.f2))))))) then 2 else 1))), (7, (.ro 1 (if ((!decide (a0.f3.a1 = 0)) || (!decide (a0.f3.a2 = 0))) then ([a0.f3.a0, a0.f3.a1, a0.f3.a2, a0.f3.a3] : List Int) else (if (!decide (a0.f3.a0 = a0.f3.a3)) then ([a0.f3.a0, a0.f3.a3] : List Int) else (if (!decide (a0.f3.a0 = 16384)) then ([a0.f3.a0] : List Int) else ([] : List Int)))).length (flat E_i (if ((!decide (a0.f3.a1 = 0)) || (!decide (a0.f3.a2 = 0))) then ([a0.f3.a0, a0.f3.a1, a0.f3.a2, a0.f3.a3] : List Int) else (if (!decide (a0.f3.a0 = a0.f3.a3)) then ([a0.f3.a0, a0.f3.a3] : List Int) else (if (!decide (a0.f3.a0 = 16384)) then ([a0.f3.a0] : List Int) else ([] : List Int))))))), (72, (vI (if ((!decide (a0.f3.a1 = 0)) || (!decide (a0.f3.a2 = 0))) then (bits .or .i64 (if ((!decide (a0.f1 = (w64 ((IntKind.wrap .i8 (a0.f1)))))) || (!decide (a0.f2 = (w64 ((IntKind.wrap .i8 (a0.f2))))))) then (bits .or .i64 (bits .or .i64 2 a1) 1) else (bits .or .i64 2 a1)) 128) else (if (!decide (a0.f3.a0 = a0.f3.a3)) then (bits .or .i64 (if ((!decide (a0.f1 = (w64 ((IntKind.wrap .i8 (a0.f1)))))) || (!decide (a0.f2 = (w64 ((IntKind.wrap .i8 (a0.f2))))))) then (bits .or .i64 (bits .or .i64 2 a1) 1) else (bits .or .i64 2 a1)) 64) else (if (!decide (a0.f3.a0 = 16384)) then (bits .or .i64 (if ((!decide (a0.f1 = (w64 ((IntKind.wrap .i8 (a0.f1)))))) || (!decide (a0.f2 = (w64 ((IntKind.wrap .i8 (a0.f2))))))) then (bits .or .i64 (bits .or .i64 2 a1) 1) else (bits .or .i64 2 a1)) 8) else (if ((!decide (a0.f1 = (w64 ((IntKind.wrap .i8 (a0.f1)))))) || (!decide (a0.f2 = (w64 ((IntKind.wrap .i8 (a0.f2))))))) then (bits .or .i64 (bits .or .i64 2 a1) 1) else (bits .or .i64 2 a1)))))))]) (h := [(32, ⟨1, .froz, true, [(vI a0.f0), (vI a0.f1), (vI a0.f2), (vI a0.f3.a0), (vI a0.f3.a1), (vI a0.f3.a2), (vI a0.f3.a3)]⟩)]) (ep := 25) (by kernel_rfl) ?_
          obtain ⟨v7, hv7, h⟩ := bS h
          refine .cc true rfl rfl (C_be_Put _ _ _ _ hv7) ent_be_Put rfl rfl rfl rfl (g_cons (g_pl rfl rfl) (g_cons (g_pl rfl rfl) g_nil)) rfl rfl ?_
          refine .seg tabOk 2 2 [2, 6, 7, 73, 75] [32, 1168] (t := [(2, (.ptr (32, 1) 0)), (6, (vI (if ((!decide (a0.f1 = (w64 ((IntKind.wrap .i8 (a0.f1)))))) || (!decide (a0.f2 = (w64 ((IntKind.wrap .i8 (a0.f2))))))) then 2 else 1))), (7, (.ro 1 (if ((!decide (a0.f3.a1 = 0)) || (!decide (a0.f3.a2 = 0))) then ([a0.f3.a0, a0.f3.a1, a0.f3.a2, a0.f3.a3] : List Int) else (if (!decide (a0.f3.a0 = a0.f3.a3)) then ([a0.f3.a0, a0.f3.a3] : List Int) else (if (!decide (a0.f3.a0 = 16384)) then ([a0.f3.a0] : List Int) else ([] : List Int)))).length (flat E_i (if ((!decide (a0.f3.a1 = 0)) || (!decide (a0.f3.a2 = 0))) then ([a0.f3.a0, a0.f3.a1, a0.f3.a2, a0.f3.a3] : List Int) else (if (!decide (a0.f3.a0 = a0.f3.a3)) then ([a0.f3.a0, a0.f3.a3] : List Int) else (if (!decide (a0.f3.a0 = 16384)) then ([a0.f3.a0] : List Int) else ([] : List Int))))))), (73, (.sref (1168, 25) 0 v7.length 1)), (75, (vI a0.f0))]) (h := [(32, ⟨1, .froz, true, [(vI a0.f0), (vI a0.f1), (vI a0.f2), (vI a0.f3.a0), (vI a0.f3.a1), (vI a0.f3.a2), (vI a0.f3.a3)]⟩), (1168, ⟨25, .live, true, flat E_B v7⟩)]) (ep := 25) (by kernel_rfl) ?_
          obtain ⟨v8, hv8, h⟩ := bS h
          refine .cc true rfl rfl (C_be_Put _ _ _ _ hv8) ent_be_Put rfl rfl rfl rfl (g_cons (g_pl rfl rfl) (g_cons (g_pl rfl rfl) g_nil)) rfl rfl ?_
          obtain ⟨hb9, h⟩ := gS h
          refine .oo tabOk rfl rfl rfl (q_app E_B (l := v7) rfl rfl rfl rfl rfl rfl rfl rfl rfl rfl rfl rfl rfl (.row v8 rfl rfl rfl rfl) hb9) rfl ?_
          refine .seg tabOk 6 1 [2, 6, 7, 8] [32, 1168, 1216, 1232] (t := [(2, (.ptr (32, 1) 0)), (6, (vI (if ((!decide (a0.f1 = (w64 ((IntKind.wrap .i8 (a0.f1)))))) || (!decide (a0.f2 = (w64 ((IntKind.wrap .i8 (a0.f2))))))) then 2 else 1))), (7, (.ro 1 (if ((!decide (a0.f3.a1 = 0)) || (!decide (a0.f3.a2 = 0))) then ([a0.f3.a0, a0.f3.a1, a0.f3.a2, a0.f3.a3] : List Int) else (if (!decide (a0.f3.a0 = a0.f3.a3)) then ([a0.f3.a0, a0.f3.a3] : List Int) else (if (!decide (a0.f3.a0 = 16384)) then ([a0.f3.a0] : List Int) else ([] : List Int)))).length (flat E_i (if ((!decide (a0.f3.a1 = 0)) || (!decide (a0.f3.a2 = 0))) then ([a0.f3.a0, a0.f3.a1, a0.f3.a2, a0.f3.a3] : List Int) else (if (!decide (a0.f3.a0 = a0.f3.a3)) then ([a0.f3.a0, a0.f3.a3] : List Int) else (if (!decide (a0.f3.a0 = 16384)) then ([a0.f3.a0] : List Int) else ([] : List Int))))))), (8, (.sref (1232, 25) 0 (v7 ++ v8).length 1))]) (h := [(32, ⟨1, .froz, true, [(vI a0.f0), (vI a0.f1), (vI a0.f2), (vI a0.f3.a0), (vI a0.f3.a1), (vI a0.f3.a2), (vI a0.f3.a3)]⟩), (1168, ⟨25, .gone, true, flat E_B v7⟩), (1216, ⟨25, .live, true, flat E_B v8⟩), (1232, ⟨25, .live, true, flat E_B (v7 ++ v8)⟩)]) (ep := 25) (by kernel_rfl) ?_
          refine .fin mixed [2, 6, 7, 8] [32, 1232] (t := [(2, (.ptr (32, 1) 0)), (6, (vI (if ((!decide (a0.f1 = (w64 ((IntKind.wrap .i8 (a0.f1)))))) || (!decide (a0.f2 = (w64 ((IntKind.wrap .i8 (a0.f2))))))) then 2 else 1))), (7, (.ro 1 (if ((!decide (a0.f3.a1 = 0)) || (!decide (a0.f3.a2 = 0))) then ([a0.f3.a0, a0.f3.a1, a0.f3.a2, a0.f3.a3] : List Int) else (if (!decide (a0.f3.a0 = a0.f3.a3)) then ([a0.f3.a0, a0.f3.a3] : List Int) else (if (!decide (a0.f3.a0 = 16384)) then ([a0.f3.a0] : List Int) else ([] : List Int)))).length (flat E_i (if ((!decide (a0.f3.a1 = 0)) || (!decide (a0.f3.a2 = 0))) then ([a0.f3.a0, a0.f3.a1, a0.f3.a2, a0.f3.a3] : List Int) else (if (!decide (a0.f3.a0 = a0.f3.a3)) then ([a0.f3.a0, a0.f3.a3] : List Int) else (if (!decide (a0.f3.a0 = 16384)) then ([a0.f3.a0] : List Int) else ([] : List Int))))))), (8, (.sref (1232, 25) 0 (v7 ++ v8).length 1))]) (h := [(32, ⟨1, .froz, true, [(vI a0.f0), (vI a0.f1), (vI a0.f2), (vI a0.f3.a0), (vI a0.f3.a1), (vI a0.f3.a2), (vI a0.f3.a3)]⟩), (1232, ⟨25, .live, true, flat E_B (v7 ++ v8)⟩)]) (ep := 26) rfl (by kernel_rfl) rfl ?_
          refine sqN ?_
          refine .seq ?_
          refine .rgD rfl ?_
          refine .seg tabOk 0 4 [2, 6, 7, 78, 80, 81] [32, 1232] (t := [(2, (.ptr (32, 1) 0)), (6, (vI (if ((!decide (a0.f1 = (w64 ((IntKind.wrap .i8 (a0.f1)))))) || (!decide (a0.f2 = (w64 ((IntKind.wrap .i8 (a0.f2))))))) then 2 else 1))), (7, (.ro 1 (if ((!decide (a0.f3.a1 = 0)) || (!decide (a0.f3.a2 = 0))) then ([a0.f3.a0, a0.f3.a1, a0.f3.a2, a0.f3.a3] : List Int) else (if (!decide (a0.f3.a0 = a0.f3.a3)) then ([a0.f3.a0, a0.f3.a3] : List Int) else (if (!decide (a0.f3.a0 = 16384)) then ([a0.f3.a0] : List Int) else ([] : List Int)))).length (flat E_i (if ((!decide (a0.f3.a1 = 0)) || (!decide (a0.f3.a2 = 0))) then ([a0.f3.a0, a0.f3.a1, a0.f3.a2, a0.f3.a3] : List Int) else (if (!decide (a0.f3.a0 = a0.f3.a3)) then ([a0.f3.a0, a0.f3.a3] : List Int) else (if (!decide (a0.f3.a0 = 16384)) then ([a0.f3.a0] : List Int) else ([] : List Int))))))), (78, (.sref (1232, 25) 0 (v7 ++ v8).length 1)), (80, (vI a0.f1)), (81, (vI (if ((!decide (a0.f1 = (w64 ((IntKind.wrap .i8 (a0.f1)))))) || (!decide (a0.f2 = (w64 ((IntKind.wrap .i8 (a0.f2))))))) then 2 else 1)))]) (h := [(32, ⟨1, .froz, true, [(vI a0.f0), (vI a0.f1), (vI a0.f2), (vI a0.f3.a0), (vI a0.f3.a1), (vI a0.f3.a2), (vI a0.f3.a3)]⟩), (1232, ⟨25, .live, true, flat E_B (v7 ++ v8)⟩)]) (ep := 27) (by kernel_rfl) ?_
          obtain ⟨v10, hv10, h⟩ := bS h
          refine .cc true rfl rfl (C_be_Put _ _ _ _ hv10) ent_be_Put rfl rfl rfl rfl (g_cons (g_pl rfl rfl) (g_cons (g_pl rfl rfl) g_nil)) rfl rfl ?_
          obtain ⟨hb11, h⟩ := gS h
          refine .oo tabOk rfl rfl rfl (q_app E_B (l := (v7 ++ v8)) rfl rfl rfl rfl rfl rfl rfl rfl rfl rfl rfl rfl rfl (.row v10 rfl rfl rfl rfl) hb11) rfl ?_
          refine .seg tabOk 6 3 [7, 83, 85, 86] [32, 1232, 1312, 1328] (t := [(7, (.ro 1 (if ((!decide (a0.f3.a1 = 0)) || (!decide (a0.f3.a2 = 0))) then ([a0.f3.a0, a0.f3.a1, a0.f3.a2, a0.f3.a3] : List Int) else (if (!decide (a0.f3.a0 = a0.f3.a3)) then ([a0.f3.a0, a0.f3.a3] : List Int) else (if (!decide (a0.f3.a0 = 16384)) then ([a0.f3.a0] : List Int) else ([] : List Int)))).length (flat E_i (if ((!decide (a0.f3.a1 = 0)) || (!decide (a0.f3.a2 = 0))) then ([a0.f3.a0, a0.f3.a1, a0.f3.a2, a0.f3.a3] : List Int) else (if (!decide (a0.f3.a0 = a0.f3.a3)) then ([a0.f3.a0, a0.f3.a3] : List Int) else (if (!decide (a0.f3.a0 = 16384)) then ([a0.f3.a0] : List Int) else ([] : List Int))))))), (83, (.sref (1328, 27) 0 ((v7 ++ v8) ++ v10).length 1)), (85, (vI a0.f2)), (86, (vI (if ((!decide (a0.f1 = (w64 ((IntKind.wrap .i8 (a0.f1)))))) || (!decide (a0.f2 = (w64 ((IntKind.wrap .i8 (a0.f2))))))) then 2 else 1)))]) (h := [(32, ⟨1, .froz, true, [(vI a0.f0), (vI a0.f1), (vI a0.f2), (vI a0.f3.a0), (vI a0.f3.a1), (vI a0.f3.a2), (vI a0.f3.a3)]⟩), (1232, ⟨25, .gone, true, flat E_B (v7 ++ v8)⟩), (1312, ⟨27, .live, true, flat E_B v10⟩), (1328, ⟨27, .live, true, flat E_B ((v7 ++ v8) ++ v10)⟩)]) (ep := 27) (by kernel_rfl) ?_
          obtain ⟨v12, hv12, h⟩ := bS h
          refine .cc true rfl rfl (C_be_Put _ _ _ _ hv12) ent_be_Put rfl rfl rfl rfl (g_cons (g_pl rfl rfl) (g_cons (g_pl rfl rfl) g_nil)) rfl rfl ?_
          obtain ⟨hb13, h⟩ := gS h
          refine .oo tabOk rfl rfl rfl (q_app E_B (l := ((v7 ++ v8) ++ v10)) rfl rfl rfl rfl rfl rfl rfl rfl rfl rfl rfl rfl rfl (.row v12 rfl rfl rfl rfl) hb13) rfl ?_
          refine .seg tabOk 11 1 [7, 8] [32, 1232, 1312, 1328, 1392, 1408] (t := [(7, (.ro 1 (if ((!decide (a0.f3.a1 = 0)) || (!decide (a0.f3.a2 = 0))) then ([a0.f3.a0, a0.f3.a1, a0.f3.a2, a0.f3.a3] : List Int) else (if (!decide (a0.f3.a0 = a0.f3.a3)) then ([a0.f3.a0, a0.f3.a3] : List Int) else (if (!decide (a0.f3.a0 = 16384)) then ([a0.f3.a0] : List Int) else ([] : List Int)))).length (flat E_i (if ((!decide (a0.f3.a1 = 0)) || (!decide (a0.f3.a2 = 0))) then ([a0.f3.a0, a0.f3.a1, a0.f3.a2, a0.f3.a3] : List Int) else (if (!decide (a0.f3.a0 = a0.f3.a3)) then ([a0.f3.a0, a0.f3.a3] : List Int) else (if (!decide (a0.f3.a0 = 16384)) then ([a0.f3.a0] : List Int) else ([] : List Int))))))), (8, (.sref (1408, 27) 0 (((v7 ++ v8) ++ v10) ++ v12).length 1))]) (h := [(32, ⟨1, .froz, true, [(vI a0.f0), (vI a0.f1), (vI a0.f2), (vI a0.f3.a0), (vI a0.f3.a1), (vI a0.f3.a2), (vI a0.f3.a3)]⟩), (1232, ⟨25, .gone, true, flat E_B (v7 ++ v8)⟩), (1312, ⟨27, .live, true, flat E_B v10⟩), (1328, ⟨27, .gone, true, flat E_B ((v7 ++ v8) ++ v10)⟩), (1392, ⟨27, .live, true, flat E_B v12⟩), (1408, ⟨27, .live, true, flat E_B (((v7 ++ v8) ++ v10) ++ v12)⟩)]) (ep := 27) (by kernel_rfl) ?_
          refine .fin mixed [7, 8] [1408] (t := [(7, (.ro 1 (if ((!decide (a0.f3.a1 = 0)) || (!decide (a0.f3.a2 = 0))) then ([a0.f3.a0, a0.f3.a1, a0.f3.a2, a0.f3.a3] : List Int) else (if (!decide (a0.f3.a0 = a0.f3.a3)) then ([a0.f3.a0, a0.f3.a3] : List Int) else (if (!decide (a0.f3.a0 = 16384)) then ([a0.f3.a0] : List Int) else ([] : List Int)))).length (flat E_i (if ((!decide (a0.f3.a1 = 0)) || (!decide (a0.f3.a2 = 0))) then ([a0.f3.a0, a0.f3.a1, a0.f3.a2, a0.f3.a3] : List Int) else (if (!decide (a0.f3.a0 = a0.f3.a3)) then ([a0.f3.a0, a0.f3.a3] : List Int) else (if (!decide (a0.f3.a0 = 16384)) then ([a0.f3.a0] : List Int) else ([] : List Int))))))), (8, (.sref (1408, 27) 0 (((v7 ++ v8) ++ v10) ++ v12).length 1))]) (h := [(1408, ⟨27, .live, true, flat E_B (((v7 ++ v8) ++ v10) ++ v12)⟩)]) (ep := 28) rfl (by kernel_rfl) rfl ?_
          refine sqN ?_
          refine .seq ?_
          refine .seq ?_
          refine .rgI rfl ?_
          refine .seg tabOk 0 3 [8, 89, 90, 91] [1408] (t := [(8, (.sref (1408, 27) 0 (((v7 ++ v8) ++ v10) ++ v12).length 1)), (89, (.ro 1 (if ((!decide (a0.f3.a1 = 0)) || (!decide (a0.f3.a2 = 0))) then ([a0.f3.a0, a0.f3.a1, a0.f3.a2, a0.f3.a3] : List Int) else (if (!decide (a0.f3.a0 = a0.f3.a3)) then ([a0.f3.a0, a0.f3.a3] : List Int) else (if (!decide (a0.f3.a0 = 16384)) then ([a0.f3.a0] : List Int) else ([] : List Int)))).length (flat E_i (if ((!decide (a0.f3.a1 = 0)) || (!decide (a0.f3.a2 = 0))) then ([a0.f3.a0, a0.f3.a1, a0.f3.a2, a0.f3.a3] : List Int) else (if (!decide (a0.f3.a0 = a0.f3.a3)) then ([a0.f3.a0, a0.f3.a3] : List Int) else (if (!decide (a0.f3.a0 = 16384)) then ([a0.f3.a0] : List Int) else ([] : List Int))))))), (90, (vI ((if ((!decide (a0.f3.a1 = 0)) || (!decide (a0.f3.a2 = 0))) then ([a0.f3.a0, a0.f3.a1, a0.f3.a2, a0.f3.a3] : List Int) else (if (!decide (a0.f3.a0 = a0.f3.a3)) then ([a0.f3.a0, a0.f3.a3] : List Int) else (if (!decide (a0.f3.a0 = 16384)) then ([a0.f3.a0] : List Int) else ([] : List Int)))).length : Int))), (91, (vI 0))]) (h := [(1408, ⟨27, .live, true, flat E_B (((v7 ++ v8) ++ v10) ++ v12)⟩)]) (ep := 30) (by kernel_rfl) ?_
          refine .fin rfl ?_
          refine sqN ?_
          obtain ⟨j14, hj14, h⟩ := ljS h
          refine .join (fun s' => ∃ x21, s' = ⟨[(8, (.sref (1408, 27) 0 x21.length 1))], [(1408, ⟨27, .live, true, flat E_B x21⟩)], 34⟩ ∧ j14 x21 = some r) ?_ ?_
          · refine .block ?_
            refine .loopF (β := (List Int) × Int) (fun v => ⟨[(8, (.sref (1408, 27) 0 v.1.length 1)), (89, (.ro 1 (if ((!decide (a0.f3.a1 = 0)) || (!decide (a0.f3.a2 = 0))) then ([a0.f3.a0, a0.f3.a1, a0.f3.a2, a0.f3.a3] : List Int) else (if (!decide (a0.f3.a0 = a0.f3.a3)) then ([a0.f3.a0, a0.f3.a3] : List Int) else (if (!decide (a0.f3.a0 = 16384)) then ([a0.f3.a0] : List Int) else ([] : List Int)))).length (flat E_i (if ((!decide (a0.f3.a1 = 0)) || (!decide (a0.f3.a2 = 0))) then ([a0.f3.a0, a0.f3.a1, a0.f3.a2, a0.f3.a3] : List Int) else (if (!decide (a0.f3.a0 = a0.f3.a3)) then ([a0.f3.a0, a0.f3.a3] : List Int) else (if (!decide (a0.f3.a0 = 16384)) then ([a0.f3.a0] : List Int) else ([] : List Int))))))), (90, (vI ((if ((!decide (a0.f3.a1 = 0)) || (!decide (a0.f3.a2 = 0))) then ([a0.f3.a0, a0.f3.a1, a0.f3.a2, a0.f3.a3] : List Int) else (if (!decide (a0.f3.a0 = a0.f3.a3)) then ([a0.f3.a0, a0.f3.a3] : List Int) else (if (!decide (a0.f3.a0 = 16384)) then ([a0.f3.a0] : List Int) else ([] : List Int)))).length : Int))), (91, (vI v.2))], [(1408, ⟨27, .live, true, flat E_B v.1⟩)], 31⟩) (fun m v => L_compo_pack_0 a0 a1 j14 m v.1 v.2 = some r) n ((((v7 ++ v8) ++ v10) ++ v12), 0) (by exact .tn [((1408, 27), (1408, 27))] ⟨rfl, rfl, rfl, rfl, trivial⟩ ⟨rfl, ⟨_, rfl, ah_row E_B⟩, trivial⟩ rfl) h ?_
            rintro m ⟨y15, y16⟩ h
            cases m with
            | zero => exact nomatch h
            | succ n =>
              rw [L_compo_pack_0] at h
              refine .seq ?_
              refine .rgI rfl ?_
              refine .seg tabOk 0 1 [8, 89, 90, 91, 92] [1408] (t := [(8, (.sref (1408, 27) 0 y15.length 1)), (89, (.ro 1 (if ((!decide (a0.f3.a1 = 0)) || (!decide (a0.f3.a2 = 0))) then ([a0.f3.a0, a0.f3.a1, a0.f3.a2, a0.f3.a3] : List Int) else (if (!decide (a0.f3.a0 = a0.f3.a3)) then ([a0.f3.a0, a0.f3.a3] : List Int) else (if (!decide (a0.f3.a0 = 16384)) then ([a0.f3.a0] : List Int) else ([] : List Int)))).length (flat E_i (if ((!decide (a0.f3.a1 = 0)) || (!decide (a0.f3.a2 = 0))) then ([a0.f3.a0, a0.f3.a1, a0.f3.a2, a0.f3.a3] : List Int) else (if (!decide (a0.f3.a0 = a0.f3.a3)) then ([a0.f3.a0, a0.f3.a3] : List Int) else (if (!decide (a0.f3.a0 = 16384)) then ([a0.f3.a0] : List Int) else ([] : List Int))))))), (90, (vI ((if ((!decide (a0.f3.a1 = 0)) || (!decide (a0.f3.a2 = 0))) then ([a0.f3.a0, a0.f3.a1, a0.f3.a2, a0.f3.a3] : List Int) else (if (!decide (a0.f3.a0 = a0.f3.a3)) then ([a0.f3.a0, a0.f3.a3] : List Int) else (if (!decide (a0.f3.a0 = 16384)) then ([a0.f3.a0] : List Int) else ([] : List Int)))).length : Int))), (91, (vI y16)), (92, (.val (.bool (decide (y16 < ((if ((!decide (a0.f3.a1 = 0)) || (!decide (a0.f3.a2 = 0))) then ([a0.f3.a0, a0.f3.a1, a0.f3.a2, a0.f3.a3] : List Int) else (if (!decide (a0.f3.a0 = a0.f3.a3)) then ([a0.f3.a0, a0.f3.a3] : List Int) else (if (!decide (a0.f3.a0 = 16384)) then ([a0.f3.a0] : List Int) else ([] : List Int)))).length : Int))))))]) (h := [(1408, ⟨27, .live, true, flat E_B y15⟩)]) (ep := 33) (by kernel_rfl) ?_
              refine .fin rfl ?_
              refine sqN ?_
              refine .seq ?_
              refine .cond (decide (y16 < ((if ((!decide (a0.f3.a1 = 0)) || (!decide (a0.f3.a2 = 0))) then ([a0.f3.a0, a0.f3.a1, a0.f3.a2, a0.f3.a3] : List Int) else (if (!decide (a0.f3.a0 = a0.f3.a3)) then ([a0.f3.a0, a0.f3.a3] : List Int) else (if (!decide (a0.f3.a0 = 16384)) then ([a0.f3.a0] : List Int) else ([] : List Int)))).length : Int))) rfl (fun hc17 => ?_) (fun hc17 => ?_)
              · have h := iT h hc17
                refine .skip ?_
                refine sqN ?_
                refine .seq ?_
                refine .block ?_
                refine .seq ?_
                refine .rgI rfl ?_
                obtain ⟨hb18, h⟩ := gS h
                refine .o tabOk rfl rfl rfl (q_idx E_i rfl rfl rfl rfl rfl rfl hb18) ?_
                refine .o tabOk rfl rfl rfl (q_ld0 E_i rfl rfl rfl hb18 rfl) ?_
                refine .seg tabOk 2 1 [8, 10, 89, 90, 91] [1408] (t := [(8, (.sref (1408, 27) 0 y15.length 1)), (10, (vI (nth E_i (if ((!decide (a0.f3.a1 = 0)) || (!decide (a0.f3.a2 = 0))) then ([a0.f3.a0, a0.f3.a1, a0.f3.a2, a0.f3.a3] : List Int) else (if (!decide (a0.f3.a0 = a0.f3.a3)) then ([a0.f3.a0, a0.f3.a3] : List Int) else (if (!decide (a0.f3.a0 = 16384)) then ([a0.f3.a0] : List Int) else ([] : List Int)))) y16))), (89, (.ro 1 (if ((!decide (a0.f3.a1 = 0)) || (!decide (a0.f3.a2 = 0))) then ([a0.f3.a0, a0.f3.a1, a0.f3.a2, a0.f3.a3] : List Int) else (if (!decide (a0.f3.a0 = a0.f3.a3)) then ([a0.f3.a0, a0.f3.a3] : List Int) else (if (!decide (a0.f3.a0 = 16384)) then ([a0.f3.a0] : List Int) else ([] : List Int)))).length (flat E_i (if ((!decide (a0.f3.a1 = 0)) || (!decide (a0.f3.a2 = 0))) then ([a0.f3.a0, a0.f3.a1, a0.f3.a2, a0.f3.a3] : List Int) else (if (!decide (a0.f3.a0 = a0.f3.a3)) then ([a0.f3.a0, a0.f3.a3] : List Int) else (if (!decide (a0.f3.a0 = 16384)) then ([a0.f3.a0] : List Int) else ([] : List Int))))))), (90, (vI ((if ((!decide (a0.f3.a1 = 0)) || (!decide (a0.f3.a2 = 0))) then ([a0.f3.a0, a0.f3.a1, a0.f3.a2, a0.f3.a3] : List Int) else (if (!decide (a0.f3.a0 = a0.f3.a3)) then ([a0.f3.a0, a0.f3.a3] : List Int) else (if (!decide (a0.f3.a0 = 16384)) then ([a0.f3.a0] : List Int) else ([] : List Int)))).length : Int))), (91, (vI y16))]) (h := [(1408, ⟨27, .live, true, flat E_B y15⟩)]) (ep := 35) (by kernel_rfl) ?_
                refine .fin rfl ?_
                refine sqN ?_
                refine .rgI rfl ?_
                refine .seg tabOk 0 2 [89, 90, 91, 95, 96] [1408] (t := [(89, (.ro 1 (if ((!decide (a0.f3.a1 = 0)) || (!decide (a0.f3.a2 = 0))) then ([a0.f3.a0, a0.f3.a1, a0.f3.a2, a0.f3.a3] : List Int) else (if (!decide (a0.f3.a0 = a0.f3.a3)) then ([a0.f3.a0, a0.f3.a3] : List Int) else (if (!decide (a0.f3.a0 = 16384)) then ([a0.f3.a0] : List Int) else ([] : List Int)))).length (flat E_i (if ((!decide (a0.f3.a1 = 0)) || (!decide (a0.f3.a2 = 0))) then ([a0.f3.a0, a0.f3.a1, a0.f3.a2, a0.f3.a3] : List Int) else (if (!decide (a0.f3.a0 = a0.f3.a3)) then ([a0.f3.a0, a0.f3.a3] : List Int) else (if (!decide (a0.f3.a0 = 16384)) then ([a0.f3.a0] : List Int) else ([] : List Int))))))), (90, (vI ((if ((!decide (a0.f3.a1 = 0)) || (!decide (a0.f3.a2 = 0))) then ([a0.f3.a0, a0.f3.a1, a0.f3.a2, a0.f3.a3] : List Int) else (if (!decide (a0.f3.a0 = a0.f3.a3)) then ([a0.f3.a0, a0.f3.a3] : List Int) else (if (!decide (a0.f3.a0 = 16384)) then ([a0.f3.a0] : List Int) else ([] : List Int)))).length : Int))), (91, (vI y16)), (95, (.sref (1408, 27) 0 y15.length 1)), (96, (vI (nth E_i (if ((!decide (a0.f3.a1 = 0)) || (!decide (a0.f3.a2 = 0))) then ([a0.f3.a0, a0.f3.a1, a0.f3.a2, a0.f3.a3] : List Int) else (if (!decide (a0.f3.a0 = a0.f3.a3)) then ([a0.f3.a0, a0.f3.a3] : List Int) else (if (!decide (a0.f3.a0 = 16384)) then ([a0.f3.a0] : List Int) else ([] : List Int)))) y16)))]) (h := [(1408, ⟨27, .live, true, flat E_B y15⟩)]) (ep := 37) (by kernel_rfl) ?_
                obtain ⟨v19, hv19, h⟩ := bS h
                refine .cc true rfl rfl (C_be_Put _ _ _ _ hv19) ent_be_Put rfl rfl rfl rfl (g_cons (g_pl rfl rfl) (g_cons (g_pl rfl rfl) g_nil)) rfl ?_
                obtain ⟨hb20, h⟩ := gS h
                refine .oo tabOk rfl rfl rfl (q_app E_B (l := y15) rfl rfl rfl rfl rfl rfl rfl rfl rfl rfl rfl rfl rfl (.row v19 rfl rfl rfl rfl) hb20) ?_
                refine .seg tabOk 4 1 [8, 89, 90, 91] [1568] (t := [(8, (.sref (1568, 37) 0 (y15 ++ v19).length 1)), (89, (.ro 1 (if ((!decide (a0.f3.a1 = 0)) || (!decide (a0.f3.a2 = 0))) then ([a0.f3.a0, a0.f3.a1, a0.f3.a2, a0.f3.a3] : List Int) else (if (!decide (a0.f3.a0 = a0.f3.a3)) then ([a0.f3.a0, a0.f3.a3] : List Int) else (if (!decide (a0.f3.a0 = 16384)) then ([a0.f3.a0] : List Int) else ([] : List Int)))).length (flat E_i (if ((!decide (a0.f3.a1 = 0)) || (!decide (a0.f3.a2 = 0))) then ([a0.f3.a0, a0.f3.a1, a0.f3.a2, a0.f3.a3] : List Int) else (if (!decide (a0.f3.a0 = a0.f3.a3)) then ([a0.f3.a0, a0.f3.a3] : List Int) else (if (!decide (a0.f3.a0 = 16384)) then ([a0.f3.a0] : List Int) else ([] : List Int))))))), (90, (vI ((if ((!decide (a0.f3.a1 = 0)) || (!decide (a0.f3.a2 = 0))) then ([a0.f3.a0, a0.f3.a1, a0.f3.a2, a0.f3.a3] : List Int) else (if (!decide (a0.f3.a0 = a0.f3.a3)) then ([a0.f3.a0, a0.f3.a3] : List Int) else (if (!decide (a0.f3.a0 = 16384)) then ([a0.f3.a0] : List Int) else ([] : List Int)))).length : Int))), (91, (vI y16))]) (h := [(1568, ⟨37, .live, true, flat E_B (y15 ++ v19)⟩)]) (ep := 38) (by kernel_rfl) ?_
                refine .fin rfl ?_
                refine bkN ?_
                refine sqN ?_
                refine .rgI rfl ?_
                refine .seg tabOk 0 2 [8, 89, 90, 91] [1568] (t := [(8, (.sref (1568, 37) 0 (y15 ++ v19).length 1)), (89, (.ro 1 (if ((!decide (a0.f3.a1 = 0)) || (!decide (a0.f3.a2 = 0))) then ([a0.f3.a0, a0.f3.a1, a0.f3.a2, a0.f3.a3] : List Int) else (if (!decide (a0.f3.a0 = a0.f3.a3)) then ([a0.f3.a0, a0.f3.a3] : List Int) else (if (!decide (a0.f3.a0 = 16384)) then ([a0.f3.a0] : List Int) else ([] : List Int)))).length (flat E_i (if ((!decide (a0.f3.a1 = 0)) || (!decide (a0.f3.a2 = 0))) then ([a0.f3.a0, a0.f3.a1, a0.f3.a2, a0.f3.a3] : List Int) else (if (!decide (a0.f3.a0 = a0.f3.a3)) then ([a0.f3.a0, a0.f3.a3] : List Int) else (if (!decide (a0.f3.a0 = 16384)) then ([a0.f3.a0] : List Int) else ([] : List Int))))))), (90, (vI ((if ((!decide (a0.f3.a1 = 0)) || (!decide (a0.f3.a2 = 0))) then ([a0.f3.a0, a0.f3.a1, a0.f3.a2, a0.f3.a3] : List Int) else (if (!decide (a0.f3.a0 = a0.f3.a3)) then ([a0.f3.a0, a0.f3.a3] : List Int) else (if (!decide (a0.f3.a0 = 16384)) then ([a0.f3.a0] : List Int) else ([] : List Int)))).length : Int))), (91, (vI (w64 (y16 + 1))))]) (h := [(1568, ⟨37, .live, true, flat E_B (y15 ++ v19)⟩)]) (ep := 40) (by kernel_rfl) ?_
                refine .fin rfl ?_
                exact jkN (by exact .tn [((1568, 37), (1408, 27))] ⟨rfl, rfl, rfl, rfl, trivial⟩ ⟨rfl, ⟨_, rfl, ah_row E_B⟩, trivial⟩ rfl) ⟨n, ((y15 ++ v19), (w64 (y16 + 1))), Nat.lt_succ_self n, rfl, h⟩
              · have h := iF h hc17
                refine .exit ?_
                refine sqX ?_
                refine jkX ?_
                refine bkE ?_
                exact jkN (by exact .tn [((1408, 27), (1408, 27))] ⟨rfl, trivial⟩ ⟨rfl, ⟨_, rfl, ah_row E_B⟩, trivial⟩ rfl) ⟨_, rfl, h⟩
          · rintro _ ⟨x21, rfl, h⟩
            subst hj14
            refine sqN ?_
            refine .seq ?_
            refine .rgI rfl ?_
            refine .seg tabOk 0 2 [4] [1408] (t := [(4, (.sref (1408, 27) 0 x21.length 1))]) (h := [(1408, ⟨27, .live, true, flat E_B x21⟩)]) (ep := 36) (by kernel_rfl) ?_
            refine .fin rfl ?_
            refine sqN ?_
            refine .ret ?_
            injection h with h
            subst h
            exact ⟨.inr rfl, _, _, (f_cons (f_tmp rfl (o1_row E_B x21 rfl rfl rfl rfl rfl)) f_nil), nd_of rfl, rfl, rfl⟩
abbrev R_compo_Write := (List Int) × Int
def L_compo_Write_0 (a2 : T_Siie) (a3 : T_Siie) (j6 : (List Int) → Option R_compo_Write) : Nat → (List Int) → Int → Option R_compo_Write
  | 0, _, _ => none
  | n + 1, y7, y8 =>
    if (decide (y8 < (([(-1), a2.f0, a2.f1, a3.f0, a3.f1] : List Int).length : Int))) then
      gd (0 ≤ y8 ∧ y8 < ([(-1), a2.f0, a2.f1, a3.f0, a3.f1] : List Int).length) <|
      Option.bind (F_be_Put n (nth E_i ([(-1), a2.f0, a2.f1, a3.f0, a3.f1] : List Int) y8) 2) fun v11 =>
      gd (fits (y7.length + v11.length) 1 = true) <|
      L_compo_Write_0 a2 a3 j6 n (y7 ++ v11) (w64 (y8 + 1))
    else
    j6 y7
def L_compo_Write_1 (a0 : (List T_SiiiA4ie)) (a1 : (List Int)) (a2 : T_Siie) (a3 : T_Siie) (j14 : (List Int) → Option R_compo_Write) : Nat → (List Int) → Int → Option R_compo_Write
  | 0, _, _ => none
  | n + 1, y15, y16 =>
    if (decide (y16 < (a0.length : Int))) then
      gd (0 ≤ y16 ∧ y16 < a0.length) <|
      lj (fun (x23 : Bool) =>
        if x23 then
          some (([] : List Int), 6)
        else
        Option.bind (F_compo_pack n (nth E_SiiiA4ie a0 y16) (if (decide (y16 < (w64 ((a0.length : Int) - 1)))) then 32 else (if (decide (0 < (a1.length : Int))) then 256 else 0))) fun v28 =>
        gd (fits (y15.length + v28.length) 1 = true) <|
        L_compo_Write_1 a0 a1 a2 a3 j14 n (y15 ++ v28) (w64 (y16 + 1))) fun j24 =>
      if (!decide ((nth E_SiiiA4ie a0 y16).f0 = (w64 ((IntKind.wrap .u16 ((nth E_SiiiA4ie a0 y16).f0)))))) then
        j24 true
      else
      Option.bind (F_compo_short n ([(nth E_SiiiA4ie a0 y16).f1, (nth E_SiiiA4ie a0 y16).f2] : List Int)) fun v20 =>
      if (!v20) then
        j24 true
      else
      Option.bind (F_compo_short n ([(nth E_SiiiA4ie a0 y16).f3.a0, (nth E_SiiiA4ie a0 y16).f3.a1, (nth E_SiiiA4ie a0 y16).f3.a2, (nth E_SiiiA4ie a0 y16).f3.a3] : List Int)) fun v22 =>
      j24 (!v22)
    else
    j14 y15
def F_compo_Write (n : Nat) (a0 : (List T_SiiiA4ie)) (a1 : (List Int)) (a2 : T_Siie) (a3 : T_Siie) : Option R_compo_Write :=
  if (decide ((a0.length : Int) = 0)) then
    some (([] : List Int), 4)
  else
  if ((decide (64 < (a0.length : Int))) || (decide (65535 < (a1.length : Int)))) then
    some (([] : List Int), 7)
  else
  Option.bind (F_compo_short n ([a2.f0, a2.f1, a3.f0, a3.f1] : List Int)) fun v4 =>
  if (!v4) then
    some (([] : List Int), 6)
  else
  lj (fun (x13 : (List Int)) =>
    lj (fun (x30 : (List Int)) =>
      lj (fun (x35 : (List Int)) =>
        some (x35, 0)) fun j36 =>
      if (decide (0 < (a1.length : Int))) then
        Option.bind (F_be_Put n (a1.length : Int) 2) fun v32 =>
        gd (fits (x30.length + v32.length) 1 = true) <|
        gd (fits ((x30 ++ v32).length + a1.length) 1 = true) <|
        j36 ((x30 ++ v32) ++ a1)
      else
      j36 x30) fun j14 =>
    L_compo_Write_1 a0 a1 a2 a3 j14 n x13 0) fun j6 =>
  L_compo_Write_0 a2 a3 j6 n ([] : List Int) 0
theorem C_compo_Write (n : Nat) (a0 : (List T_SiiiA4ie)) (a1 : (List Int)) (a2 : T_Siie) (a3 : T_Siie) (r : R_compo_Write) (h : F_compo_Write n a0 a1 a2 a3 = some r) : CallS Try.prog 20 [(.ro 7 a0.length (flat E_SiiiA4ie a0)), (.ro 1 a1.length (flat E_B a1)), (.agg [(vI a2.f0), (vI a2.f1)]), (.agg [(vI a3.f0), (vI a3.f1)])] (.tup [(.own 1 r.1.length (flat E_B r.1)), (vI r.2)]) [none, none, none, none] := by
  refine CallS.introK tabOk Try.func20 rfl Try.ntmps20 (Nat.le_of_ble_eq_true rfl) ?_
  rw [F_compo_Write] at h
  refine .seq ?_
  refine .rgI rfl ?_
  refine .seg tabOk 0 4 [0, 1, 6, 7] [96, 112] (t := [(0, (.ro 7 a0.length (flat E_SiiiA4ie a0))), (1, (.ro 1 a1.length (flat E_B a1))), (6, (.ptr (96, 1) 0)), (7, (.ptr (112, 1) 0))]) (h := [(96, ⟨1, .live, false, [(vI a2.f0), (vI a2.f1)]⟩), (112, ⟨1, .live, false, [(vI a3.f0), (vI a3.f1)]⟩)]) (ep := 2) (by kernel_rfl) ?_
  refine .fin rfl ?_
  refine sqN ?_
  refine .seq ?_
  refine .block ?_
  refine .seq ?_
  refine .rgI rfl ?_
  refine .seg tabOk 0 4 [0, 1, 6, 7, 16] [96, 112] (t := [(0, (.ro 7 a0.length (flat E_SiiiA4ie a0))), (1, (.ro 1 a1.length (flat E_B a1))), (6, (.ptr (96, 1) 0)), (7, (.ptr (112, 1) 0)), (16, (.val (.bool (decide ((a0.length : Int) = 0)))))]) (h := [(96, ⟨1, .live, false, [(vI a2.f0), (vI a2.f1)]⟩), (112, ⟨1, .live, false, [(vI a3.f0), (vI a3.f1)]⟩)]) (ep := 4) (by kernel_rfl) ?_
  refine .fin rfl ?_
  refine sqN ?_
  refine .cond (decide ((a0.length : Int) = 0)) rfl (fun hc1 => ?_) (fun hc1 => ?_)
  · have h := iT h hc1
    refine .seq ?_
    refine .rgI rfl ?_
    refine .seg tabOk 0 2 [8, 9] [] (t := [(8, .nils), (9, (vI 4))]) (h := []) (ep := 6) (by kernel_rfl) ?_
    refine .fin rfl ?_
    refine sqN ?_
    refine .pre (.nilRow 8 1 143 rfl (fresh_none rfl)) ?_
    refine .ret ?_
    refine bkR ?_
    refine sqR ?_
    injection h with h
    subst h
    exact ⟨.inr rfl, _, _, (f_cons (f_tmp rfl (o1_row E_B ([] : List Int) rfl rfl rfl rfl rfl)) (f_cons rfl f_nil)), nd_of rfl, rfl, rfl⟩
  · have h := iF h hc1
    refine .seq ?_
    refine .join (fun s' => s' = ⟨[(0, (.ro 7 a0.length (flat E_SiiiA4ie a0))), (1, (.ro 1 a1.length (flat E_B a1))), (6, (.ptr (96, 1) 0)), (7, (.ptr (112, 1) 0)), (20, (.val (.bool ((decide (64 < (a0.length : Int))) || (decide (65535 < (a1.length : Int)))))))], [(96, ⟨1, .live, false, [(vI a2.f0), (vI a2.f1)]⟩), (112, ⟨1, .live, false, [(vI a3.f0), (vI a3.f1)]⟩)], 8⟩) ?_ ?_
    · refine .rgI rfl ?_
      refine .seg tabOk 0 4 [0, 1, 6, 7, 24] [96, 112] (t := [(0, (.ro 7 a0.length (flat E_SiiiA4ie a0))), (1, (.ro 1 a1.length (flat E_B a1))), (6, (.ptr (96, 1) 0)), (7, (.ptr (112, 1) 0)), (24, (.val (.bool (decide (64 < (a0.length : Int))))))]) (h := [(96, ⟨1, .live, false, [(vI a2.f0), (vI a2.f1)]⟩), (112, ⟨1, .live, false, [(vI a3.f0), (vI a3.f1)]⟩)]) (ep := 6) (by kernel_rfl) ?_
      cases hB2 : (decide (64 < (a0.length : Int))) with
      | false =>
        skip
        refine .seg tabOk 4 5 [0, 1, 6, 7, 20] [96, 112] (t := [(0, (.ro 7 a0.length (flat E_SiiiA4ie a0))), (1, (.ro 1 a1.length (flat E_B a1))), (6, (.ptr (96, 1) 0)), (7, (.ptr (112, 1) 0)), (20, (.val (.bool (decide (65535 < (a1.length : Int))))))]) (h := [(96, ⟨1, .live, false, [(vI a2.f0), (vI a2.f1)]⟩), (112, ⟨1, .live, false, [(vI a3.f0), (vI a3.f1)]⟩)]) (ep := 7) (by kernel_rfl) ?_
        refine .fin rfl ?_
        exact jkN (by exact .tn [((96, 1), (96, 1)), ((112, 1), (112, 1))] ⟨rfl, rfl, rfl, rfl, rfl, trivial⟩ ⟨rfl, ⟨_, rfl, rfl⟩, ⟨rfl, ⟨_, rfl, rfl⟩, trivial⟩⟩ rfl) rfl
      | true =>
        skip
        refine .seg tabOk 4 5 [0, 1, 6, 7, 20] [96, 112] (t := [(0, (.ro 7 a0.length (flat E_SiiiA4ie a0))), (1, (.ro 1 a1.length (flat E_B a1))), (6, (.ptr (96, 1) 0)), (7, (.ptr (112, 1) 0)), (20, (.val (.bool true)))]) (h := [(96, ⟨1, .live, false, [(vI a2.f0), (vI a2.f1)]⟩), (112, ⟨1, .live, false, [(vI a3.f0), (vI a3.f1)]⟩)]) (ep := 7) (by kernel_rfl) ?_
        refine .fin rfl ?_
        exact jkN (by exact .tn [((96, 1), (96, 1)), ((112, 1), (112, 1))] ⟨rfl, rfl, rfl, rfl, rfl, trivial⟩ ⟨rfl, ⟨_, rfl, rfl⟩, ⟨rfl, ⟨_, rfl, rfl⟩, trivial⟩⟩ rfl) rfl
    · rintro _ rfl
      refine sqN ?_
      refine .cond ((decide (64 < (a0.length : Int))) || (decide (65535 < (a1.length : Int)))) rfl (fun hc3 => ?_) (fun hc3 => ?_)
      · have h := iT h hc3
        refine .seq ?_
        refine .rgI rfl ?_
        refine .seg tabOk 0 2 [8, 9] [] (t := [(8, .nils), (9, (vI 7))]) (h := []) (ep := 10) (by kernel_rfl) ?_
        refine .fin rfl ?_
        refine sqN ?_
        refine .pre (.nilRow 8 1 143 rfl (fresh_none rfl)) ?_
        refine .ret ?_
        refine bkR ?_
        refine sqR ?_
        injection h with h
        subst h
        exact ⟨.inr rfl, _, _, (f_cons (f_tmp rfl (o1_row E_B ([] : List Int) rfl rfl rfl rfl rfl)) (f_cons rfl f_nil)), nd_of rfl, rfl, rfl⟩
      · have h := iF h hc3
        refine .seq ?_
        refine .rgI rfl ?_
        refine .seg tabOk 0 9 [0, 1, 6, 7, 38] [96, 112, 608] (t := [(0, (.ro 7 a0.length (flat E_SiiiA4ie a0))), (1, (.ro 1 a1.length (flat E_B a1))), (6, (.ptr (96, 1) 0)), (7, (.ptr (112, 1) 0)), (38, (.sref (608, 9) 0 ([a2.f0, a2.f1, a3.f0, a3.f1] : List Int).length 1))]) (h := [(96, ⟨1, .live, false, [(vI a2.f0), (vI a2.f1)]⟩), (112, ⟨1, .live, false, [(vI a3.f0), (vI a3.f1)]⟩), (608, ⟨9, .live, true, flat E_i ([a2.f0, a2.f1, a3.f0, a3.f1] : List Int)⟩)]) (ep := 10) (by kernel_rfl) ?_
        obtain ⟨v4, hv4, h⟩ := bS h
        refine .cc false rfl rfl (C_compo_short _ _ _ hv4) ent_compo_short rfl rfl rfl rfl (g_cons (g_row E_i ([a2.f0, a2.f1, a3.f0, a3.f1] : List Int) rfl rfl rfl rfl rfl) g_nil) rfl ?_
        refine .seg tabOk 10 2 [0, 1, 6, 7, 29] [96, 112] (t := [(0, (.ro 7 a0.length (flat E_SiiiA4ie a0))), (1, (.ro 1 a1.length (flat E_B a1))), (6, (.ptr (96, 1) 0)), (7, (.ptr (112, 1) 0)), (29, (.val (.bool (!v4))))]) (h := [(96, ⟨1, .live, false, [(vI a2.f0), (vI a2.f1)]⟩), (112, ⟨1, .live, false, [(vI a3.f0), (vI a3.f1)]⟩)]) (ep := 11) (by kernel_rfl) ?_
        refine .fin rfl ?_
        refine sqN ?_
        refine .cond (!v4) rfl (fun hc5 => ?_) (fun hc5 => ?_)
        · have h := iT h hc5
          refine .seq ?_
          refine .rgI rfl ?_
          refine .seg tabOk 0 2 [8, 9] [] (t := [(8, .nils), (9, (vI 6))]) (h := []) (ep := 13) (by kernel_rfl) ?_
          refine .fin rfl ?_
          refine sqN ?_
          refine .pre (.nilRow 8 1 143 rfl (fresh_none rfl)) ?_
          refine .ret ?_
          refine bkR ?_
          refine sqR ?_
          injection h with h
          subst h
          exact ⟨.inr rfl, _, _, (f_cons (f_tmp rfl (o1_row E_B ([] : List Int) rfl rfl rfl rfl rfl)) (f_cons rfl f_nil)), nd_of rfl, rfl, rfl⟩
        · have h := iF h hc5
          refine .skip ?_
          refine bkN ?_
          refine sqN ?_
          refine .seq ?_
          refine .rgI rfl ?_
          refine .seg tabOk 0 1 [0, 1, 6, 7, 10] [96, 112] (t := [(0, (.ro 7 a0.length (flat E_SiiiA4ie a0))), (1, (.ro 1 a1.length (flat E_B a1))), (6, (.ptr (96, 1) 0)), (7, (.ptr (112, 1) 0)), (10, .nils)]) (h := [(96, ⟨1, .live, false, [(vI a2.f0), (vI a2.f1)]⟩), (112, ⟨1, .live, false, [(vI a3.f0), (vI a3.f1)]⟩)]) (ep := 13) (by kernel_rfl) ?_
          refine .fin rfl ?_
          refine sqN ?_
          refine .seq ?_
          refine .seq ?_
          refine .rgI rfl ?_
          refine .seg tabOk 0 11 [0, 1, 10, 49, 50, 51] [784] (t := [(0, (.ro 7 a0.length (flat E_SiiiA4ie a0))), (1, (.ro 1 a1.length (flat E_B a1))), (10, .nils), (49, (.sref (784, 14) 0 ([(-1), a2.f0, a2.f1, a3.f0, a3.f1] : List Int).length 1)), (50, (vI (([(-1), a2.f0, a2.f1, a3.f0, a3.f1] : List Int).length : Int))), (51, (vI 0))]) (h := [(784, ⟨14, .live, true, flat E_i ([(-1), a2.f0, a2.f1, a3.f0, a3.f1] : List Int)⟩)]) (ep := 15) (by kernel_rfl) ?_
          refine .fin rfl ?_
          refine sqN ?_
          obtain ⟨j6, hj6, h⟩ := ljS h
          refine .join (fun s' => ∃ x13, s' = ⟨[(0, (.ro 7 a0.length (flat E_SiiiA4ie a0))), (1, (.ro 1 a1.length (flat E_B a1))), (10, (.sref (175, 18) 0 x13.length 1))], [(175, ⟨18, .live, true, flat E_B x13⟩)], 19⟩ ∧ j6 x13 = some r) ?_ ?_
          · refine .block ?_
            refine .loopF (β := (List Int) × Int) (fun v => ⟨[(0, (.ro 7 a0.length (flat E_SiiiA4ie a0))), (1, (.ro 1 a1.length (flat E_B a1))), (10, (.sref (175, 15) 0 v.1.length 1)), (49, (.sref (784, 14) 0 ([(-1), a2.f0, a2.f1, a3.f0, a3.f1] : List Int).length 1)), (50, (vI (([(-1), a2.f0, a2.f1, a3.f0, a3.f1] : List Int).length : Int))), (51, (vI v.2))], [(175, ⟨15, .live, true, flat E_B v.1⟩), (784, ⟨14, .live, true, flat E_i ([(-1), a2.f0, a2.f1, a3.f0, a3.f1] : List Int)⟩)], 16⟩) (fun m v => L_compo_Write_0 a2 a3 j6 m v.1 v.2 = some r) n (([] : List Int), 0) (by exact .trans (.nilRow 10 1 175 rfl (fresh_none rfl)) (.tn [((175, 15), (175, 15)), ((784, 14), (784, 14))] ⟨rfl, rfl, rfl, rfl, rfl, rfl, trivial⟩ ⟨rfl, ⟨_, rfl, ah_row E_B⟩, ⟨rfl, ⟨_, rfl, ah_row E_i⟩, trivial⟩⟩ rfl)) h ?_
            rintro m ⟨y7, y8⟩ h
            cases m with
            | zero => exact nomatch h
            | succ n =>
              rw [L_compo_Write_0] at h
              refine .seq ?_
              refine .rgI rfl ?_
              refine .seg tabOk 0 1 [0, 1, 10, 49, 50, 51, 52] [175, 784] (t := [(0, (.ro 7 a0.length (flat E_SiiiA4ie a0))), (1, (.ro 1 a1.length (flat E_B a1))), (10, (.sref (175, 15) 0 y7.length 1)), (49, (.sref (784, 14) 0 ([(-1), a2.f0, a2.f1, a3.f0, a3.f1] : List Int).length 1)), (50, (vI (([(-1), a2.f0, a2.f1, a3.f0, a3.f1] : List Int).length : Int))), (51, (vI y8)), (52, (.val (.bool (decide (y8 < (([(-1), a2.f0, a2.f1, a3.f0, a3.f1] : List Int).length : Int))))))]) (h := [(175, ⟨15, .live, true, flat E_B y7⟩), (784, ⟨14, .live, true, flat E_i ([(-1), a2.f0, a2.f1, a3.f0, a3.f1] : List Int)⟩)]) (ep := 18) (by kernel_rfl) ?_
              refine .fin rfl ?_
              refine sqN ?_
              refine .seq ?_
              refine .cond (decide (y8 < (([(-1), a2.f0, a2.f1, a3.f0, a3.f1] : List Int).length : Int))) rfl (fun hc9 => ?_) (fun hc9 => ?_)
              · have h := iT h hc9
                refine .skip ?_
                refine sqN ?_
                refine .seq ?_
                refine .block ?_
                refine .seq ?_
                refine .rgI rfl ?_
                obtain ⟨hb10, h⟩ := gS h
                refine .oo tabOk rfl rfl rfl (q_idxS E_i (l := ([(-1), a2.f0, a2.f1, a3.f0, a3.f1] : List Int)) rfl rfl rfl rfl rfl rfl rfl rfl hb10) ?_
                refine .oo tabOk rfl rfl rfl (q_ldS E_i (l := ([(-1), a2.f0, a2.f1, a3.f0, a3.f1] : List Int)) rfl rfl rfl rfl rfl hb10 rfl) ?_
                refine .seg tabOk 2 1 [0, 1, 10, 12, 49, 50, 51] [175, 784] (t := [(0, (.ro 7 a0.length (flat E_SiiiA4ie a0))), (1, (.ro 1 a1.length (flat E_B a1))), (10, (.sref (175, 15) 0 y7.length 1)), (12, (vI (nth E_i ([(-1), a2.f0, a2.f1, a3.f0, a3.f1] : List Int) y8))), (49, (.sref (784, 14) 0 ([(-1), a2.f0, a2.f1, a3.f0, a3.f1] : List Int).length 1)), (50, (vI (([(-1), a2.f0, a2.f1, a3.f0, a3.f1] : List Int).length : Int))), (51, (vI y8))]) (h := [(175, ⟨15, .live, true, flat E_B y7⟩), (784, ⟨14, .live, true, flat E_i ([(-1), a2.f0, a2.f1, a3.f0, a3.f1] : List Int)⟩)]) (ep := 20) (by kernel_rfl) ?_
                refine .fin rfl ?_
                refine sqN ?_
                refine .rgI rfl ?_
                refine .seg tabOk 0 2 [0, 1, 49, 50, 51, 55, 56] [175, 784] (t := [(0, (.ro 7 a0.length (flat E_SiiiA4ie a0))), (1, (.ro 1 a1.length (flat E_B a1))), (49, (.sref (784, 14) 0 ([(-1), a2.f0, a2.f1, a3.f0, a3.f1] : List Int).length 1)), (50, (vI (([(-1), a2.f0, a2.f1, a3.f0, a3.f1] : List Int).length : Int))), (51, (vI y8)), (55, (.sref (175, 15) 0 y7.length 1)), (56, (vI (nth E_i ([(-1), a2.f0, a2.f1, a3.f0, a3.f1] : List Int) y8)))]) (h := [(175, ⟨15, .live, true, flat E_B y7⟩), (784, ⟨14, .live, true, flat E_i ([(-1), a2.f0, a2.f1, a3.f0, a3.f1] : List Int)⟩)]) (ep := 22) (by kernel_rfl) ?_
                obtain ⟨v11, hv11, h⟩ := bS h
                refine .cc true rfl rfl (C_be_Put _ _ _ _ hv11) ent_be_Put rfl rfl rfl rfl (g_cons (g_pl rfl rfl) (g_cons (g_pl rfl rfl) g_nil)) rfl ?_
                obtain ⟨hb12, h⟩ := gS h
                refine .oo tabOk rfl rfl rfl (q_app E_B (l := y7) rfl rfl rfl rfl rfl rfl rfl rfl rfl rfl rfl rfl rfl (.row v11 rfl rfl rfl rfl) hb12) ?_
                refine .seg tabOk 4 1 [0, 1, 10, 49, 50, 51] [784, 928] (t := [(0, (.ro 7 a0.length (flat E_SiiiA4ie a0))), (1, (.ro 1 a1.length (flat E_B a1))), (10, (.sref (928, 22) 0 (y7 ++ v11).length 1)), (49, (.sref (784, 14) 0 ([(-1), a2.f0, a2.f1, a3.f0, a3.f1] : List Int).length 1)), (50, (vI (([(-1), a2.f0, a2.f1, a3.f0, a3.f1] : List Int).length : Int))), (51, (vI y8))]) (h := [(784, ⟨14, .live, true, flat E_i ([(-1), a2.f0, a2.f1, a3.f0, a3.f1] : List Int)⟩), (928, ⟨22, .live, true, flat E_B (y7 ++ v11)⟩)]) (ep := 23) (by kernel_rfl) ?_
                refine .fin rfl ?_
                refine bkN ?_
                refine sqN ?_
                refine .rgI rfl ?_
                refine .seg tabOk 0 2 [0, 1, 10, 49, 50, 51] [784, 928] (t := [(0, (.ro 7 a0.length (flat E_SiiiA4ie a0))), (1, (.ro 1 a1.length (flat E_B a1))), (10, (.sref (928, 22) 0 (y7 ++ v11).length 1)), (49, (.sref (784, 14) 0 ([(-1), a2.f0, a2.f1, a3.f0, a3.f1] : List Int).length 1)), (50, (vI (([(-1), a2.f0, a2.f1, a3.f0, a3.f1] : List Int).length : Int))), (51, (vI (w64 (y8 + 1))))]) (h := [(784, ⟨14, .live, true, flat E_i ([(-1), a2.f0, a2.f1, a3.f0, a3.f1] : List Int)⟩), (928, ⟨22, .live, true, flat E_B (y7 ++ v11)⟩)]) (ep := 25) (by kernel_rfl) ?_
                refine .fin rfl ?_
                exact jkN (by exact .tn [((928, 22), (175, 15)), ((784, 14), (784, 14))] ⟨rfl, rfl, rfl, rfl, rfl, rfl, trivial⟩ ⟨rfl, ⟨_, rfl, ah_row E_B⟩, ⟨rfl, ⟨_, rfl, ah_row E_i⟩, trivial⟩⟩ rfl) ⟨n, ((y7 ++ v11), (w64 (y8 + 1))), Nat.lt_succ_self n, rfl, h⟩
              · have h := iF h hc9
                refine .exit ?_
                refine sqX ?_
                refine jkX ?_
                refine bkE ?_
                exact jkN (by exact .tn [((175, 15), (175, 18))] ⟨rfl, rfl, rfl, trivial⟩ ⟨rfl, ⟨_, rfl, ah_row E_B⟩, trivial⟩ rfl) ⟨_, rfl, h⟩
          · rintro _ ⟨x13, rfl, h⟩
            subst hj6
            refine sqN ?_
            refine .seq ?_
            refine .seq ?_
            refine .rgI rfl ?_
            refine .seg tabOk 0 3 [0, 1, 10, 60, 61, 62] [175] (t := [(0, (.ro 7 a0.length (flat E_SiiiA4ie a0))), (1, (.ro 1 a1.length (flat E_B a1))), (10, (.sref (175, 18) 0 x13.length 1)), (60, (.ro 7 a0.length (flat E_SiiiA4ie a0))), (61, (vI (a0.length : Int))), (62, (vI 0))]) (h := [(175, ⟨18, .live, true, flat E_B x13⟩)]) (ep := 21) (by kernel_rfl) ?_
            refine .fin rfl ?_
            refine sqN ?_
            obtain ⟨j14, hj14, h⟩ := ljS h
            refine .join (fun s' => ∃ x30, s' = ⟨[(1, (.ro 1 a1.length (flat E_B a1))), (10, (.sref (175, 18) 0 x30.length 1))], [(175, ⟨18, .live, true, flat E_B x30⟩)], 25⟩ ∧ j14 x30 = some r) ?_ ?_
            · refine .block ?_
              refine .loopF (β := (List Int) × Int) (fun v => ⟨[(0, (.ro 7 a0.length (flat E_SiiiA4ie a0))), (1, (.ro 1 a1.length (flat E_B a1))), (10, (.sref (175, 18) 0 v.1.length 1)), (60, (.ro 7 a0.length (flat E_SiiiA4ie a0))), (61, (vI (a0.length : Int))), (62, (vI v.2))], [(175, ⟨18, .live, true, flat E_B v.1⟩)], 22⟩) (fun m v => L_compo_Write_1 a0 a1 a2 a3 j14 m v.1 v.2 = some r) n (x13, 0) (by exact .tn [((175, 18), (175, 18))] ⟨rfl, rfl, rfl, rfl, rfl, rfl, trivial⟩ ⟨rfl, ⟨_, rfl, ah_row E_B⟩, trivial⟩ rfl) h ?_
              rintro m ⟨y15, y16⟩ h
              cases m with
              | zero => exact nomatch h
              | succ n =>
                rw [L_compo_Write_1] at h
                refine .seq ?_
                refine .rgI rfl ?_
                refine .seg tabOk 0 1 [0, 1, 10, 60, 61, 62, 63] [175] (t := [(0, (.ro 7 a0.length (flat E_SiiiA4ie a0))), (1, (.ro 1 a1.length (flat E_B a1))), (10, (.sref (175, 18) 0 y15.length 1)), (60, (.ro 7 a0.length (flat E_SiiiA4ie a0))), (61, (vI (a0.length : Int))), (62, (vI y16)), (63, (.val (.bool (decide (y16 < (a0.length : Int))))))]) (h := [(175, ⟨18, .live, true, flat E_B y15⟩)]) (ep := 24) (by kernel_rfl) ?_
                refine .fin rfl ?_
                refine sqN ?_
                refine .seq ?_
                refine .cond (decide (y16 < (a0.length : Int))) rfl (fun hc17 => ?_) (fun hc17 => ?_)
                · have h := iT h hc17
                  refine .skip ?_
                  refine sqN ?_
                  refine .seq ?_
                  refine .block ?_
                  refine .seq ?_
                  refine .rgI rfl ?_
                  refine .seg tabOk 0 1 [0, 1, 10, 60, 61, 62, 64] [175] (t := [(0, (.ro 7 a0.length (flat E_SiiiA4ie a0))), (1, (.ro 1 a1.length (flat E_B a1))), (10, (.sref (175, 18) 0 y15.length 1)), (60, (.ro 7 a0.length (flat E_SiiiA4ie a0))), (61, (vI (a0.length : Int))), (62, (vI y16)), (64, (vI y16))]) (h := [(175, ⟨18, .live, true, flat E_B y15⟩)]) (ep := 26) (by kernel_rfl) ?_
                  obtain ⟨hb18, h⟩ := gS h
                  refine .o tabOk rfl rfl rfl (q_idx E_SiiiA4ie rfl rfl rfl rfl rfl rfl hb18) ?_
                  refine .o tabOk rfl rfl rfl (q_ld0 E_SiiiA4ie rfl rfl rfl hb18 rfl) ?_
                  refine .seg tabOk 3 3 [0, 1, 10, 13, 14, 60, 61, 62] [175, 224] (t := [(0, (.ro 7 a0.length (flat E_SiiiA4ie a0))), (1, (.ro 1 a1.length (flat E_B a1))), (10, (.sref (175, 18) 0 y15.length 1)), (13, (vI y16)), (14, (.ptr (224, 26) 0)), (60, (.ro 7 a0.length (flat E_SiiiA4ie a0))), (61, (vI (a0.length : Int))), (62, (vI y16))]) (h := [(175, ⟨18, .live, true, flat E_B y15⟩), (224, ⟨26, .live, true, [(vI (nth E_SiiiA4ie a0 y16).f0), (vI (nth E_SiiiA4ie a0 y16).f1), (vI (nth E_SiiiA4ie a0 y16).f2), (vI (nth E_SiiiA4ie a0 y16).f3.a0), (vI (nth E_SiiiA4ie a0 y16).f3.a1), (vI (nth E_SiiiA4ie a0 y16).f3.a2), (vI (nth E_SiiiA4ie a0 y16).f3.a3)]⟩)]) (ep := 27) (by kernel_rfl) ?_
                  refine .fin rfl ?_
                  refine sqN ?_
                  refine .seq ?_
                  refine .seq ?_
                  obtain ⟨j24, hj24, h⟩ := ljS h
                  refine .join (fun s' => ∃ x23, s' = ⟨[(0, (.ro 7 a0.length (flat E_SiiiA4ie a0))), (1, (.ro 1 a1.length (flat E_B a1))), (10, (.sref (175, 18) 0 y15.length 1)), (13, (vI y16)), (14, (.ptr (224, 26) 0)), (60, (.ro 7 a0.length (flat E_SiiiA4ie a0))), (61, (vI (a0.length : Int))), (62, (vI y16)), (88, (.val (.bool x23)))], [(175, ⟨18, .live, true, flat E_B y15⟩), (224, ⟨26, .live, true, [(vI (nth E_SiiiA4ie a0 y16).f0), (vI (nth E_SiiiA4ie a0 y16).f1), (vI (nth E_SiiiA4ie a0 y16).f2), (vI (nth E_SiiiA4ie a0 y16).f3.a0), (vI (nth E_SiiiA4ie a0 y16).f3.a1), (vI (nth E_SiiiA4ie a0 y16).f3.a2), (vI (nth E_SiiiA4ie a0 y16).f3.a3)]⟩)], 34⟩ ∧ j24 x23 = some r) ?_ ?_
                  · refine .rgI rfl ?_
                    refine .seg tabOk 0 8 [0, 1, 10, 13, 14, 60, 61, 62, 74] [175, 224] (t := [(0, (.ro 7 a0.length (flat E_SiiiA4ie a0))), (1, (.ro 1 a1.length (flat E_B a1))), (10, (.sref (175, 18) 0 y15.length 1)), (13, (vI y16)), (14, (.ptr (224, 26) 0)), (60, (.ro 7 a0.length (flat E_SiiiA4ie a0))), (61, (vI (a0.length : Int))), (62, (vI y16)), (74, (.val (.bool (!decide ((nth E_SiiiA4ie a0 y16).f0 = (w64 ((IntKind.wrap .u16 ((nth E_SiiiA4ie a0 y16).f0)))))))))]) (h := [(175, ⟨18, .live, true, flat E_B y15⟩), (224, ⟨26, .live, true, [(vI (nth E_SiiiA4ie a0 y16).f0), (vI (nth E_SiiiA4ie a0 y16).f1), (vI (nth E_SiiiA4ie a0 y16).f2), (vI (nth E_SiiiA4ie a0 y16).f3.a0), (vI (nth E_SiiiA4ie a0 y16).f3.a1), (vI (nth E_SiiiA4ie a0 y16).f3.a2), (vI (nth E_SiiiA4ie a0 y16).f3.a3)]⟩)]) (ep := 29) (by kernel_rfl) ?_
                    cases hB19 : (!decide ((nth E_SiiiA4ie a0 y16).f0 = (w64 ((IntKind.wrap .u16 ((nth E_SiiiA4ie a0 y16).f0)))))) with
                    | false =>
                      have h := iF h hB19
                      refine .seg tabOk 8 5 [0, 1, 10, 13, 14, 60, 61, 62, 74, 79] [175, 224, 1264] (t := [(0, (.ro 7 a0.length (flat E_SiiiA4ie a0))), (1, (.ro 1 a1.length (flat E_B a1))), (10, (.sref (175, 18) 0 y15.length 1)), (13, (vI y16)), (14, (.ptr (224, 26) 0)), (60, (.ro 7 a0.length (flat E_SiiiA4ie a0))), (61, (vI (a0.length : Int))), (62, (vI y16)), (74, (.val (.bool false))), (79, (.sref (1264, 29) 0 ([(nth E_SiiiA4ie a0 y16).f1, (nth E_SiiiA4ie a0 y16).f2] : List Int).length 1))]) (h := [(175, ⟨18, .live, true, flat E_B y15⟩), (224, ⟨26, .live, true, [(vI (nth E_SiiiA4ie a0 y16).f0), (vI (nth E_SiiiA4ie a0 y16).f1), (vI (nth E_SiiiA4ie a0 y16).f2), (vI (nth E_SiiiA4ie a0 y16).f3.a0), (vI (nth E_SiiiA4ie a0 y16).f3.a1), (vI (nth E_SiiiA4ie a0 y16).f3.a2), (vI (nth E_SiiiA4ie a0 y16).f3.a3)]⟩), (1264, ⟨29, .live, true, flat E_i ([(nth E_SiiiA4ie a0 y16).f1, (nth E_SiiiA4ie a0 y16).f2] : List Int)⟩)]) (ep := 30) (by kernel_rfl) ?_
                      obtain ⟨v20, hv20, h⟩ := bS h
                      refine .cc false rfl rfl (C_compo_short _ _ _ hv20) ent_compo_short rfl rfl rfl rfl (g_cons (g_row E_i ([(nth E_SiiiA4ie a0 y16).f1, (nth E_SiiiA4ie a0 y16).f2] : List Int) rfl rfl rfl rfl rfl) g_nil) rfl ?_
                      refine .seg tabOk 14 3 [0, 1, 10, 13, 14, 60, 61, 62, 83] [175, 224] (t := [(0, (.ro 7 a0.length (flat E_SiiiA4ie a0))), (1, (.ro 1 a1.length (flat E_B a1))), (10, (.sref (175, 18) 0 y15.length 1)), (13, (vI y16)), (14, (.ptr (224, 26) 0)), (60, (.ro 7 a0.length (flat E_SiiiA4ie a0))), (61, (vI (a0.length : Int))), (62, (vI y16)), (83, (.val (.bool (!v20))))]) (h := [(175, ⟨18, .live, true, flat E_B y15⟩), (224, ⟨26, .live, true, [(vI (nth E_SiiiA4ie a0 y16).f0), (vI (nth E_SiiiA4ie a0 y16).f1), (vI (nth E_SiiiA4ie a0 y16).f2), (vI (nth E_SiiiA4ie a0 y16).f3.a0), (vI (nth E_SiiiA4ie a0 y16).f3.a1), (vI (nth E_SiiiA4ie a0 y16).f3.a2), (vI (nth E_SiiiA4ie a0 y16).f3.a3)]⟩)]) (ep := 31) (by kernel_rfl) ?_
                      cases hB21 : (!v20) with
                      | false =>
                        have h := iF h hB21
                        refine .seg tabOk 17 2 [0, 1, 10, 13, 14, 60, 61, 62, 83, 85] [175, 224] (t := [(0, (.ro 7 a0.length (flat E_SiiiA4ie a0))), (1, (.ro 1 a1.length (flat E_B a1))), (10, (.sref (175, 18) 0 y15.length 1)), (13, (vI y16)), (14, (.ptr (224, 26) 0)), (60, (.ro 7 a0.length (flat E_SiiiA4ie a0))), (61, (vI (a0.length : Int))), (62, (vI y16)), (83, (.val (.bool false))), (85, (.sref (224, 26) 3 4 1))]) (h := [(175, ⟨18, .live, true, flat E_B y15⟩), (224, ⟨26, .live, true, [(vI (nth E_SiiiA4ie a0 y16).f0), (vI (nth E_SiiiA4ie a0 y16).f1), (vI (nth E_SiiiA4ie a0 y16).f2), (vI (nth E_SiiiA4ie a0 y16).f3.a0), (vI (nth E_SiiiA4ie a0 y16).f3.a1), (vI (nth E_SiiiA4ie a0 y16).f3.a2), (vI (nth E_SiiiA4ie a0 y16).f3.a3)]⟩)]) (ep := 32) (by kernel_rfl) ?_
                        obtain ⟨v22, hv22, h⟩ := bS h
                        refine .cc false rfl rfl (C_compo_short _ _ _ hv22) ent_compo_short rfl rfl rfl rfl (g_cons (g_pl rfl rfl) g_nil) rfl ?_
                        refine .seg tabOk 20 2 [0, 1, 10, 13, 14, 60, 61, 62, 88] [175, 224] (t := [(0, (.ro 7 a0.length (flat E_SiiiA4ie a0))), (1, (.ro 1 a1.length (flat E_B a1))), (10, (.sref (175, 18) 0 y15.length 1)), (13, (vI y16)), (14, (.ptr (224, 26) 0)), (60, (.ro 7 a0.length (flat E_SiiiA4ie a0))), (61, (vI (a0.length : Int))), (62, (vI y16)), (88, (.val (.bool (!v22))))]) (h := [(175, ⟨18, .live, true, flat E_B y15⟩), (224, ⟨26, .live, true, [(vI (nth E_SiiiA4ie a0 y16).f0), (vI (nth E_SiiiA4ie a0 y16).f1), (vI (nth E_SiiiA4ie a0 y16).f2), (vI (nth E_SiiiA4ie a0 y16).f3.a0), (vI (nth E_SiiiA4ie a0 y16).f3.a1), (vI (nth E_SiiiA4ie a0 y16).f3.a2), (vI (nth E_SiiiA4ie a0 y16).f3.a3)]⟩)]) (ep := 33) (by kernel_rfl) ?_
                        refine .fin rfl ?_
                        exact jkN (by exact .tn [((175, 18), (175, 18)), ((224, 26), (224, 26))] ⟨rfl, rfl, rfl, rfl, rfl, rfl, rfl, rfl, rfl, trivial⟩ ⟨rfl, ⟨_, rfl, ah_row E_B⟩, ⟨rfl, ⟨_, rfl, rfl⟩, trivial⟩⟩ rfl) ⟨_, rfl, h⟩
                      | true =>
                        have h := iT h hB21
                        refine .seg tabOk 17 5 [0, 1, 10, 13, 14, 60, 61, 62, 88] [175, 224] (t := [(0, (.ro 7 a0.length (flat E_SiiiA4ie a0))), (1, (.ro 1 a1.length (flat E_B a1))), (10, (.sref (175, 18) 0 y15.length 1)), (13, (vI y16)), (14, (.ptr (224, 26) 0)), (60, (.ro 7 a0.length (flat E_SiiiA4ie a0))), (61, (vI (a0.length : Int))), (62, (vI y16)), (88, (.val (.bool true)))]) (h := [(175, ⟨18, .live, true, flat E_B y15⟩), (224, ⟨26, .live, true, [(vI (nth E_SiiiA4ie a0 y16).f0), (vI (nth E_SiiiA4ie a0 y16).f1), (vI (nth E_SiiiA4ie a0 y16).f2), (vI (nth E_SiiiA4ie a0 y16).f3.a0), (vI (nth E_SiiiA4ie a0 y16).f3.a1), (vI (nth E_SiiiA4ie a0 y16).f3.a2), (vI (nth E_SiiiA4ie a0 y16).f3.a3)]⟩)]) (ep := 32) (by kernel_rfl) ?_
                        refine .fin rfl ?_
                        exact jkN (by exact .tn [((175, 18), (175, 18)), ((224, 26), (224, 26))] ⟨rfl, rfl, rfl, rfl, rfl, rfl, rfl, rfl, rfl, trivial⟩ ⟨rfl, ⟨_, rfl, ah_row E_B⟩, ⟨rfl, ⟨_, rfl, rfl⟩, trivial⟩⟩ rfl) ⟨_, rfl, h⟩
                    | true =>
                      have h := iT h hB19
                      refine .seg tabOk 8 14 [0, 1, 10, 13, 14, 60, 61, 62, 88] [175, 224] (t := [(0, (.ro 7 a0.length (flat E_SiiiA4ie a0))), (1, (.ro 1 a1.length (flat E_B a1))), (10, (.sref (175, 18) 0 y15.length 1)), (13, (vI y16)), (14, (.ptr (224, 26) 0)), (60, (.ro 7 a0.length (flat E_SiiiA4ie a0))), (61, (vI (a0.length : Int))), (62, (vI y16)), (88, (.val (.bool true)))]) (h := [(175, ⟨18, .live, true, flat E_B y15⟩), (224, ⟨26, .live, true, [(vI (nth E_SiiiA4ie a0 y16).f0), (vI (nth E_SiiiA4ie a0 y16).f1), (vI (nth E_SiiiA4ie a0 y16).f2), (vI (nth E_SiiiA4ie a0 y16).f3.a0), (vI (nth E_SiiiA4ie a0 y16).f3.a1), (vI (nth E_SiiiA4ie a0 y16).f3.a2), (vI (nth E_SiiiA4ie a0 y16).f3.a3)]⟩)]) (ep := 30) (by kernel_rfl) ?_
                      refine .fin rfl ?_
                      exact jkN (by exact .tn [((175, 18), (175, 18)), ((224, 26), (224, 26))] ⟨rfl, rfl, rfl, rfl, rfl, rfl, rfl, rfl, rfl, trivial⟩ ⟨rfl, ⟨_, rfl, ah_row E_B⟩, ⟨rfl, ⟨_, rfl, rfl⟩, trivial⟩⟩ rfl) ⟨_, rfl, h⟩
                  · rintro _ ⟨x23, rfl, h⟩
                    subst hj24
                    refine sqN ?_
                    refine .cond x23 rfl (fun hc25 => ?_) (fun hc25 => ?_)
                    · have h := iT h hc25
                      refine .seq ?_
                      refine .rgI rfl ?_
                      refine .seg tabOk 0 2 [8, 9] [] (t := [(8, .nils), (9, (vI 6))]) (h := []) (ep := 36) (by kernel_rfl) ?_
                      refine .fin rfl ?_
                      refine sqN ?_
                      refine .pre (.nilRow 8 1 143 rfl (fresh_none rfl)) ?_
                      refine .ret ?_
                      refine sqR ?_
                      refine bkR ?_
                      refine sqR ?_
                      refine jkR ?_
                      refine bkR ?_
                      refine jkR ?_
                      refine sqR ?_
                      injection h with h
                      subst h
                      exact ⟨.inr rfl, _, _, (f_cons (f_tmp rfl (o1_row E_B ([] : List Int) rfl rfl rfl rfl rfl)) (f_cons rfl f_nil)), nd_of rfl, rfl, rfl⟩
                    · have h := iF h hc25
                      refine .skip ?_
                      refine sqN ?_
                      refine .seq ?_
                      refine .rgI rfl ?_
                      refine .seg tabOk 0 1 [0, 1, 10, 13, 14, 15, 60, 61, 62] [175, 224] (t := [(0, (.ro 7 a0.length (flat E_SiiiA4ie a0))), (1, (.ro 1 a1.length (flat E_B a1))), (10, (.sref (175, 18) 0 y15.length 1)), (13, (vI y16)), (14, (.ptr (224, 26) 0)), (15, (vI 0)), (60, (.ro 7 a0.length (flat E_SiiiA4ie a0))), (61, (vI (a0.length : Int))), (62, (vI y16))]) (h := [(175, ⟨18, .live, true, flat E_B y15⟩), (224, ⟨26, .live, true, [(vI (nth E_SiiiA4ie a0 y16).f0), (vI (nth E_SiiiA4ie a0 y16).f1), (vI (nth E_SiiiA4ie a0 y16).f2), (vI (nth E_SiiiA4ie a0 y16).f3.a0), (vI (nth E_SiiiA4ie a0 y16).f3.a1), (vI (nth E_SiiiA4ie a0 y16).f3.a2), (vI (nth E_SiiiA4ie a0 y16).f3.a3)]⟩)]) (ep := 36) (by kernel_rfl) ?_
                      refine .fin rfl ?_
                      refine sqN ?_
                      refine .seq ?_
                      refine .block ?_
                      refine .seq ?_
                      refine .rgI rfl ?_
                      refine .seg tabOk 0 6 [0, 1, 10, 14, 15, 60, 61, 62, 89] [175, 224] (t := [(0, (.ro 7 a0.length (flat E_SiiiA4ie a0))), (1, (.ro 1 a1.length (flat E_B a1))), (10, (.sref (175, 18) 0 y15.length 1)), (14, (.ptr (224, 26) 0)), (15, (vI 0)), (60, (.ro 7 a0.length (flat E_SiiiA4ie a0))), (61, (vI (a0.length : Int))), (62, (vI y16)), (89, (.val (.bool (decide (y16 < (w64 ((a0.length : Int) - 1)))))))]) (h := [(175, ⟨18, .live, true, flat E_B y15⟩), (224, ⟨26, .live, true, [(vI (nth E_SiiiA4ie a0 y16).f0), (vI (nth E_SiiiA4ie a0 y16).f1), (vI (nth E_SiiiA4ie a0 y16).f2), (vI (nth E_SiiiA4ie a0 y16).f3.a0), (vI (nth E_SiiiA4ie a0 y16).f3.a1), (vI (nth E_SiiiA4ie a0 y16).f3.a2), (vI (nth E_SiiiA4ie a0 y16).f3.a3)]⟩)]) (ep := 38) (by kernel_rfl) ?_
                      refine .fin rfl ?_
                      refine sqN ?_
                      refine .join (fun s' => s' = ⟨[(0, (.ro 7 a0.length (flat E_SiiiA4ie a0))), (1, (.ro 1 a1.length (flat E_B a1))), (10, (.sref (175, 18) 0 y15.length 1)), (14, (.ptr (224, 26) 0)), (15, (vI (if (decide (y16 < (w64 ((a0.length : Int) - 1)))) then 32 else (if (decide (0 < (a1.length : Int))) then 256 else 0)))), (60, (.ro 7 a0.length (flat E_SiiiA4ie a0))), (61, (vI (a0.length : Int))), (62, (vI y16))], [(175, ⟨18, .live, true, flat E_B y15⟩), (224, ⟨26, .live, true, [(vI (nth E_SiiiA4ie a0 y16).f0), (vI (nth E_SiiiA4ie a0 y16).f1), (vI (nth E_SiiiA4ie a0 y16).f2), (vI (nth E_SiiiA4ie a0 y16).f3.a0), (vI (nth E_SiiiA4ie a0 y16).f3.a1), (vI (nth E_SiiiA4ie a0 y16).f3.a2), (vI (nth E_SiiiA4ie a0 y16).f3.a3)]⟩)], 43⟩) ?_ ?_
                      · refine .cond (decide (y16 < (w64 ((a0.length : Int) - 1)))) rfl (fun hc26 => ?_) (fun hc26 => ?_)
                        · skip
                          refine .rgI rfl ?_
                          refine .seg tabOk 0 1 [0, 1, 10, 14, 15, 60, 61, 62] [175, 224] (t := [(0, (.ro 7 a0.length (flat E_SiiiA4ie a0))), (1, (.ro 1 a1.length (flat E_B a1))), (10, (.sref (175, 18) 0 y15.length 1)), (14, (.ptr (224, 26) 0)), (15, (vI 32)), (60, (.ro 7 a0.length (flat E_SiiiA4ie a0))), (61, (vI (a0.length : Int))), (62, (vI y16))]) (h := [(175, ⟨18, .live, true, flat E_B y15⟩), (224, ⟨26, .live, true, [(vI (nth E_SiiiA4ie a0 y16).f0), (vI (nth E_SiiiA4ie a0 y16).f1), (vI (nth E_SiiiA4ie a0 y16).f2), (vI (nth E_SiiiA4ie a0 y16).f3.a0), (vI (nth E_SiiiA4ie a0 y16).f3.a1), (vI (nth E_SiiiA4ie a0 y16).f3.a2), (vI (nth E_SiiiA4ie a0 y16).f3.a3)]⟩)]) (ep := 40) (by kernel_rfl) ?_
                          refine .fin rfl ?_
                          exact jkN (by exact .tn [((175, 18), (175, 18)), ((224, 26), (224, 26))] ⟨(by (try rw [hc26]); rfl), (by (try rw [hc26]); rfl), (by (try rw [hc26]); rfl), (by (try rw [hc26]); rfl), (by (try rw [hc26]); rfl), (by (try rw [hc26]); rfl), (by (try rw [hc26]); rfl), (by (try rw [hc26]); rfl), trivial⟩ ⟨rfl, ⟨_, rfl, (by (try rw [hc26]); exact ah_row E_B)⟩, ⟨rfl, ⟨_, rfl, (by (try rw [hc26]); exact rfl)⟩, trivial⟩⟩ rfl) rfl
                        · skip
                          refine .seq ?_
                          refine .rgI rfl ?_
                          refine .seg tabOk 0 4 [0, 1, 10, 14, 15, 60, 61, 62, 95] [175, 224] (t := [(0, (.ro 7 a0.length (flat E_SiiiA4ie a0))), (1, (.ro 1 a1.length (flat E_B a1))), (10, (.sref (175, 18) 0 y15.length 1)), (14, (.ptr (224, 26) 0)), (15, (vI 0)), (60, (.ro 7 a0.length (flat E_SiiiA4ie a0))), (61, (vI (a0.length : Int))), (62, (vI y16)), (95, (.val (.bool (decide (0 < (a1.length : Int))))))]) (h := [(175, ⟨18, .live, true, flat E_B y15⟩), (224, ⟨26, .live, true, [(vI (nth E_SiiiA4ie a0 y16).f0), (vI (nth E_SiiiA4ie a0 y16).f1), (vI (nth E_SiiiA4ie a0 y16).f2), (vI (nth E_SiiiA4ie a0 y16).f3.a0), (vI (nth E_SiiiA4ie a0 y16).f3.a1), (vI (nth E_SiiiA4ie a0 y16).f3.a2), (vI (nth E_SiiiA4ie a0 y16).f3.a3)]⟩)]) (ep := 40) (by kernel_rfl) ?_
                          refine .fin rfl ?_
                          refine sqN ?_
                          refine .cond (decide (0 < (a1.length : Int))) rfl (fun hc27 => ?_) (fun hc27 => ?_)
                          · skip
                            refine .rgI rfl ?_
                            refine .seg tabOk 0 1 [0, 1, 10, 14, 15, 60, 61, 62] [175, 224] (t := [(0, (.ro 7 a0.length (flat E_SiiiA4ie a0))), (1, (.ro 1 a1.length (flat E_B a1))), (10, (.sref (175, 18) 0 y15.length 1)), (14, (.ptr (224, 26) 0)), (15, (vI 256)), (60, (.ro 7 a0.length (flat E_SiiiA4ie a0))), (61, (vI (a0.length : Int))), (62, (vI y16))]) (h := [(175, ⟨18, .live, true, flat E_B y15⟩), (224, ⟨26, .live, true, [(vI (nth E_SiiiA4ie a0 y16).f0), (vI (nth E_SiiiA4ie a0 y16).f1), (vI (nth E_SiiiA4ie a0 y16).f2), (vI (nth E_SiiiA4ie a0 y16).f3.a0), (vI (nth E_SiiiA4ie a0 y16).f3.a1), (vI (nth E_SiiiA4ie a0 y16).f3.a2), (vI (nth E_SiiiA4ie a0 y16).f3.a3)]⟩)]) (ep := 42) (by kernel_rfl) ?_
                            refine .fin rfl ?_
                            exact jkN (by exact .tn [((175, 18), (175, 18)), ((224, 26), (224, 26))] ⟨(by (try rw [hc26]); (try rw [hc27]); rfl), (by (try rw [hc26]); (try rw [hc27]); rfl), (by (try rw [hc26]); (try rw [hc27]); rfl), (by (try rw [hc26]); (try rw [hc27]); rfl), (by (try rw [hc26]); (try rw [hc27]); rfl), (by (try rw [hc26]); (try rw [hc27]); rfl), (by (try rw [hc26]); (try rw [hc27]); rfl), (by (try rw [hc26]); (try rw [hc27]); rfl), trivial⟩ ⟨rfl, ⟨_, rfl, (by (try rw [hc26]); (try rw [hc27]); exact ah_row E_B)⟩, ⟨rfl, ⟨_, rfl, (by (try rw [hc26]); (try rw [hc27]); exact rfl)⟩, trivial⟩⟩ rfl) rfl
                          · skip
                            refine .skip ?_
                            exact jkN (by exact .tn [((175, 18), (175, 18)), ((224, 26), (224, 26))] ⟨(by (try rw [hc26]); (try rw [hc27]); rfl), (by (try rw [hc26]); (try rw [hc27]); rfl), (by (try rw [hc26]); (try rw [hc27]); rfl), (by (try rw [hc26]); (try rw [hc27]); rfl), (by (try rw [hc26]); (try rw [hc27]); rfl), (by (try rw [hc26]); (try rw [hc27]); rfl), (by (try rw [hc26]); (try rw [hc27]); rfl), (by (try rw [hc26]); (try rw [hc27]); rfl), trivial⟩ ⟨rfl, ⟨_, rfl, (by (try rw [hc26]); (try rw [hc27]); exact ah_row E_B)⟩, ⟨rfl, ⟨_, rfl, (by (try rw [hc26]); (try rw [hc27]); exact rfl)⟩, trivial⟩⟩ rfl) rfl
                      · rintro _ rfl
                        refine bkN ?_
                        refine sqN ?_
                        refine .rgI rfl ?_
                        refine .seg tabOk 0 3 [0, 1, 60, 61, 62, 99, 100, 101] [175] (t := [(0, (.ro 7 a0.length (flat E_SiiiA4ie a0))), (1, (.ro 1 a1.length (flat E_B a1))), (60, (.ro 7 a0.length (flat E_SiiiA4ie a0))), (61, (vI (a0.length : Int))), (62, (vI y16)), (99, (.sref (175, 18) 0 y15.length 1)), (100, (.agg [(vI (nth E_SiiiA4ie a0 y16).f0), (vI (nth E_SiiiA4ie a0 y16).f1), (vI (nth E_SiiiA4ie a0 y16).f2), (vI (nth E_SiiiA4ie a0 y16).f3.a0), (vI (nth E_SiiiA4ie a0 y16).f3.a1), (vI (nth E_SiiiA4ie a0 y16).f3.a2), (vI (nth E_SiiiA4ie a0 y16).f3.a3)])), (101, (vI (if (decide (y16 < (w64 ((a0.length : Int) - 1)))) then 32 else (if (decide (0 < (a1.length : Int))) then 256 else 0))))]) (h := [(175, ⟨18, .live, true, flat E_B y15⟩)]) (ep := 45) (by kernel_rfl) ?_
                        obtain ⟨v28, hv28, h⟩ := bS h
                        refine .cc true rfl rfl (C_compo_pack _ _ _ _ hv28) ent_compo_pack rfl rfl rfl rfl (g_cons (g_pl rfl rfl) (g_cons (g_pl rfl rfl) g_nil)) rfl ?_
                        obtain ⟨hb29, h⟩ := gS h
                        refine .oo tabOk rfl rfl rfl (q_app E_B (l := y15) rfl rfl rfl rfl rfl rfl rfl rfl rfl rfl rfl rfl rfl (.row v28 rfl rfl rfl rfl) hb29) ?_
                        refine .seg tabOk 5 1 [0, 1, 10, 60, 61, 62] [1648] (t := [(0, (.ro 7 a0.length (flat E_SiiiA4ie a0))), (1, (.ro 1 a1.length (flat E_B a1))), (10, (.sref (1648, 45) 0 (y15 ++ v28).length 1)), (60, (.ro 7 a0.length (flat E_SiiiA4ie a0))), (61, (vI (a0.length : Int))), (62, (vI y16))]) (h := [(1648, ⟨45, .live, true, flat E_B (y15 ++ v28)⟩)]) (ep := 46) (by kernel_rfl) ?_
                        refine .fin rfl ?_
                        refine bkN ?_
                        refine sqN ?_
                        refine .rgI rfl ?_
                        refine .seg tabOk 0 2 [0, 1, 10, 60, 61, 62] [1648] (t := [(0, (.ro 7 a0.length (flat E_SiiiA4ie a0))), (1, (.ro 1 a1.length (flat E_B a1))), (10, (.sref (1648, 45) 0 (y15 ++ v28).length 1)), (60, (.ro 7 a0.length (flat E_SiiiA4ie a0))), (61, (vI (a0.length : Int))), (62, (vI (w64 (y16 + 1))))]) (h := [(1648, ⟨45, .live, true, flat E_B (y15 ++ v28)⟩)]) (ep := 48) (by kernel_rfl) ?_
                        refine .fin rfl ?_
                        exact jkN (by exact .tn [((1648, 45), (175, 18))] ⟨rfl, rfl, rfl, rfl, rfl, rfl, trivial⟩ ⟨rfl, ⟨_, rfl, ah_row E_B⟩, trivial⟩ rfl) ⟨n, ((y15 ++ v28), (w64 (y16 + 1))), Nat.lt_succ_self n, rfl, h⟩
                · have h := iF h hc17
                  refine .exit ?_
                  refine sqX ?_
                  refine jkX ?_
                  refine bkE ?_
                  exact jkN (by exact .tn [((175, 18), (175, 18))] ⟨rfl, rfl, trivial⟩ ⟨rfl, ⟨_, rfl, ah_row E_B⟩, trivial⟩ rfl) ⟨_, rfl, h⟩
            · rintro _ ⟨x30, rfl, h⟩
              subst hj14
              refine sqN ?_
              refine .seq ?_
              refine .seq ?_
              refine .rgI rfl ?_
              refine .seg tabOk 0 3 [1, 10, 107] [175] (t := [(1, (.ro 1 a1.length (flat E_B a1))), (10, (.sref (175, 18) 0 x30.length 1)), (107, (.val (.bool (decide (0 < (a1.length : Int))))))]) (h := [(175, ⟨18, .live, true, flat E_B x30⟩)]) (ep := 27) (by kernel_rfl) ?_
              refine .fin rfl ?_
              refine sqN ?_
              obtain ⟨j36, hj36, h⟩ := ljS h
              refine .join (fun s' => ∃ x35, s' = ⟨[(10, (.sref (1824, 30) 0 x35.length 1))], [(1824, ⟨30, .live, true, flat E_B x35⟩)], 32⟩ ∧ j36 x35 = some r) ?_ ?_
              · refine .cond (decide (0 < (a1.length : Int))) rfl (fun hc31 => ?_) (fun hc31 => ?_)
                · have h := iT h hc31
                  refine .rgI rfl ?_
                  refine .seg tabOk 0 3 [1, 108, 110] [175] (t := [(1, (.ro 1 a1.length (flat E_B a1))), (108, (.sref (175, 18) 0 x30.length 1)), (110, (vI (a1.length : Int)))]) (h := [(175, ⟨18, .live, true, flat E_B x30⟩)]) (ep := 29) (by kernel_rfl) ?_
                  obtain ⟨v32, hv32, h⟩ := bS h
                  refine .cc true rfl rfl (C_be_Put _ _ _ _ hv32) ent_be_Put rfl rfl rfl rfl (g_cons (g_pl rfl rfl) (g_cons (g_pl rfl rfl) g_nil)) rfl ?_
                  obtain ⟨hb33, h⟩ := gS h
                  refine .oo tabOk rfl rfl rfl (q_app E_B (l := x30) rfl rfl rfl rfl rfl rfl rfl rfl rfl rfl rfl rfl rfl (.row v32 rfl rfl rfl rfl) hb33) ?_
                  refine .seg tabOk 5 1 [112, 113] [1792] (t := [(112, (.sref (1792, 29) 0 (x30 ++ v32).length 1)), (113, (.ro 1 a1.length (flat E_B a1)))]) (h := [(1792, ⟨29, .live, true, flat E_B (x30 ++ v32)⟩)]) (ep := 30) (by kernel_rfl) ?_
                  obtain ⟨hb34, h⟩ := gS h
                  refine .oo tabOk rfl rfl rfl (q_app E_B (l := (x30 ++ v32)) rfl rfl rfl rfl rfl rfl rfl rfl rfl rfl rfl rfl rfl (.ro a1) hb34) ?_
                  refine .seg tabOk 7 1 [10] [1824] (t := [(10, (.sref (1824, 30) 0 ((x30 ++ v32) ++ a1).length 1))]) (h := [(1824, ⟨30, .live, true, flat E_B ((x30 ++ v32) ++ a1)⟩)]) (ep := 31) (by kernel_rfl) ?_
                  refine .fin rfl ?_
                  exact jkN (by exact .tn [((1824, 30), (1824, 30))] ⟨rfl, trivial⟩ ⟨rfl, ⟨_, rfl, ah_row E_B⟩, trivial⟩ rfl) ⟨_, rfl, h⟩
                · have h := iF h hc31
                  refine .skip ?_
                  exact jkN (by exact .tn [((175, 18), (1824, 30))] ⟨rfl, trivial⟩ ⟨rfl, ⟨_, rfl, ah_row E_B⟩, trivial⟩ rfl) ⟨_, rfl, h⟩
              · rintro _ ⟨x35, rfl, h⟩
                subst hj36
                refine sqN ?_
                refine .seq ?_
                refine .rgI rfl ?_
                refine .seg tabOk 0 3 [8, 9] [1824] (t := [(8, (.sref (1824, 30) 0 x35.length 1)), (9, (vI 0))]) (h := [(1824, ⟨30, .live, true, flat E_B x35⟩)]) (ep := 34) (by kernel_rfl) ?_
                refine .fin rfl ?_
                refine sqN ?_
                refine .ret ?_
                injection h with h
                subst h
                exact ⟨.inr rfl, _, _, (f_cons (f_tmp rfl (o1_row E_B x35 rfl rfl rfl rfl rfl)) (f_cons rfl f_nil)), nd_of rfl, rfl, rfl⟩
abbrev R_law08_alive := Bool
def F_law08_alive (n : Nat) : Option R_law08_alive :=
  Option.bind (F_compo_Write n ([(⟨5, 10, (-10), (⟨16384, 0, 0, 16384⟩ : T_A4i)⟩ : T_SiiiA4ie)] : List T_SiiiA4ie) [] (⟨0, 0⟩ : T_Siie) (⟨0, 0⟩ : T_Siie)) fun v1 =>
  Option.bind (F_compo_Read n v1.1) fun v2 =>
  if (decide (v1.2 = 0)) then
    if ((bstr v1.1).toList == (⟨#[255, 255, 0, 0, 0, 0, 0, 0, 0, 0, 0, 2, 0, 5, 10, 246]⟩ : ByteArray).toList) then
      if (decide (v2.2.2 = 0)) then
        if (decide ((v2.2.1.length : Int) = 0)) then
          Option.bind (F_r08_Same n v2.1 ([(⟨5, 10, (-10), (⟨16384, 0, 0, 16384⟩ : T_A4i)⟩ : T_SiiiA4ie)] : List T_SiiiA4ie)) fun v7 =>
          some v7
        else
        some false
      else
      some false
    else
    some false
  else
  some false
theorem C_law08_alive (n : Nat) (r : R_law08_alive) (h : F_law08_alive n = some r) : CallS Try.prog 14 [] (.val (.bool r)) [] := by
  refine CallS.introK tabOk Try.func14 rfl Try.ntmps14 (Nat.le_of_ble_eq_true rfl) ?_
  rw [F_law08_alive] at h
  refine .seq ?_
  refine .rgI rfl ?_
  refine .seg tabOk 0 1 [] [] (t := []) (h := []) (ep := 2) (by kernel_rfl) ?_
  refine .fin rfl ?_
  refine sqN ?_
  refine .seq ?_
  refine .rgI rfl ?_
  refine .seg tabOk 0 4 [1] [144] (t := [(1, (.sref (144, 3) 0 ([(⟨5, 10, (-10), (⟨16384, 0, 0, 16384⟩ : T_A4i)⟩ : T_SiiiA4ie)] : List T_SiiiA4ie).length 7))]) (h := [(144, ⟨3, .live, true, flat E_SiiiA4ie ([(⟨5, 10, (-10), (⟨16384, 0, 0, 16384⟩ : T_A4i)⟩ : T_SiiiA4ie)] : List T_SiiiA4ie)⟩)]) (ep := 4) (by kernel_rfl) ?_
  refine .fin rfl ?_
  refine sqN ?_
  refine .seq ?_
  refine .rgI rfl ?_
  refine .seg tabOk 0 3 [1, 11, 12, 13] [144] (t := [(1, (.sref (144, 3) 0 ([(⟨5, 10, (-10), (⟨16384, 0, 0, 16384⟩ : T_A4i)⟩ : T_SiiiA4ie)] : List T_SiiiA4ie).length 7)), (11, (.sref (144, 3) 0 ([(⟨5, 10, (-10), (⟨16384, 0, 0, 16384⟩ : T_A4i)⟩ : T_SiiiA4ie)] : List T_SiiiA4ie).length 7)), (12, (.agg [(vI 0), (vI 0)])), (13, (.agg [(vI 0), (vI 0)]))]) (h := [(144, ⟨3, .live, true, flat E_SiiiA4ie ([(⟨5, 10, (-10), (⟨16384, 0, 0, 16384⟩ : T_A4i)⟩ : T_SiiiA4ie)] : List T_SiiiA4ie)⟩)]) (ep := 6) (by kernel_rfl) ?_
  obtain ⟨v1, hv1, h⟩ := bS h
  refine .cc true rfl rfl (.nils (C_compo_Write _ _ _ _ _ _ hv1) (nls_cons (nl_same _) (nls_cons (nl_nil _) (nls_cons (nl_same _) (nls_cons (nl_same _) nls_nil))))) ent_compo_Write rfl rfl rfl rfl (g_cons (g_row E_SiiiA4ie ([(⟨5, 10, (-10), (⟨16384, 0, 0, 16384⟩ : T_A4i)⟩ : T_SiiiA4ie)] : List T_SiiiA4ie) rfl rfl rfl rfl rfl) (g_cons (g_pl rfl rfl) (g_cons (g_pl rfl rfl) (g_cons (g_pl rfl rfl) g_nil)))) rfl ?_
  refine .seg tabOk 4 5 [1, 2, 3] [144, 224] (t := [(1, (.sref (144, 3) 0 ([(⟨5, 10, (-10), (⟨16384, 0, 0, 16384⟩ : T_A4i)⟩ : T_SiiiA4ie)] : List T_SiiiA4ie).length 7)), (2, (.sref (224, 6) 0 v1.1.length 1)), (3, (vI v1.2))]) (h := [(144, ⟨3, .froz, true, flat E_SiiiA4ie ([(⟨5, 10, (-10), (⟨16384, 0, 0, 16384⟩ : T_A4i)⟩ : T_SiiiA4ie)] : List T_SiiiA4ie)⟩), (224, ⟨6, .live, true, flat E_B v1.1⟩)]) (ep := 7) (by kernel_rfl) ?_
  refine .fin rfl ?_
  refine sqN ?_
  refine .seq ?_
  refine .rgI rfl ?_
  refine .seg tabOk 0 1 [1, 2, 3, 18] [144, 224] (t := [(1, (.sref (144, 3) 0 ([(⟨5, 10, (-10), (⟨16384, 0, 0, 16384⟩ : T_A4i)⟩ : T_SiiiA4ie)] : List T_SiiiA4ie).length 7)), (2, (.sref (224, 6) 0 v1.1.length 1)), (3, (vI v1.2)), (18, (.sref (224, 6) 0 v1.1.length 1))]) (h := [(144, ⟨3, .froz, true, flat E_SiiiA4ie ([(⟨5, 10, (-10), (⟨16384, 0, 0, 16384⟩ : T_A4i)⟩ : T_SiiiA4ie)] : List T_SiiiA4ie)⟩), (224, ⟨6, .live, true, flat E_B v1.1⟩)]) (ep := 9) (by kernel_rfl) ?_
  obtain ⟨v2, hv2, h⟩ := bS h
  refine .cc true rfl rfl (C_compo_Read _ _ _ hv2) ent_compo_Read rfl rfl rfl rfl (g_cons (g_row E_B v1.1 rfl rfl rfl rfl rfl) g_nil) rfl ?_
  refine .seg tabOk 2 7 [1, 2, 3, 4, 5, 6] [144, 224, 304, 305] (t := [(1, (.sref (144, 3) 0 ([(⟨5, 10, (-10), (⟨16384, 0, 0, 16384⟩ : T_A4i)⟩ : T_SiiiA4ie)] : List T_SiiiA4ie).length 7)), (2, (.sref (224, 6) 0 v1.1.length 1)), (3, (vI v1.2)), (4, (.sref (304, 9) 0 v2.1.length 7)), (5, (.sref (305, 9) 0 v2.2.1.length 1)), (6, (vI v2.2.2))]) (h := [(144, ⟨3, .froz, true, flat E_SiiiA4ie ([(⟨5, 10, (-10), (⟨16384, 0, 0, 16384⟩ : T_A4i)⟩ : T_SiiiA4ie)] : List T_SiiiA4ie)⟩), (224, ⟨6, .froz, true, flat E_B v1.1⟩), (304, ⟨9, .live, true, flat E_SiiiA4ie v2.1⟩), (305, ⟨9, .live, true, flat E_B v2.2.1⟩)]) (ep := 10) (by kernel_rfl) ?_
  refine .fin rfl ?_
  refine sqN ?_
  refine .seq ?_
  refine .rgI rfl ?_
  refine .seg tabOk 0 3 [1, 2, 4, 5, 6, 25] [144, 224, 304, 305] (t := [(1, (.sref (144, 3) 0 ([(⟨5, 10, (-10), (⟨16384, 0, 0, 16384⟩ : T_A4i)⟩ : T_SiiiA4ie)] : List T_SiiiA4ie).length 7)), (2, (.sref (224, 6) 0 v1.1.length 1)), (4, (.sref (304, 9) 0 v2.1.length 7)), (5, (.sref (305, 9) 0 v2.2.1.length 1)), (6, (vI v2.2.2)), (25, (.val (.bool (decide (v1.2 = 0)))))]) (h := [(144, ⟨3, .froz, true, flat E_SiiiA4ie ([(⟨5, 10, (-10), (⟨16384, 0, 0, 16384⟩ : T_A4i)⟩ : T_SiiiA4ie)] : List T_SiiiA4ie)⟩), (224, ⟨6, .froz, true, flat E_B v1.1⟩), (304, ⟨9, .live, true, flat E_SiiiA4ie v2.1⟩), (305, ⟨9, .live, true, flat E_B v2.2.1⟩)]) (ep := 12) (by kernel_rfl) ?_
  cases hB3 : (decide (v1.2 = 0)) with
  | false =>
    have h := iF h hB3
    refine .seg tabOk 3 19 [0] [] (t := [(0, (.val (.bool false)))]) (h := []) (ep := 13) (by kernel_rfl) ?_
    refine .fin rfl ?_
    refine sqN ?_
    refine .ret ?_
    injection h with h
    subst h
    exact ⟨.inr rfl, _, _, rfl, List.nodup_nil, rfl, rfl⟩
  | true =>
    have h := iT h hB3
    refine .seg tabOk 3 1 [1, 4, 5, 6, 25, 26] [144, 224, 304, 305] (t := [(1, (.sref (144, 3) 0 ([(⟨5, 10, (-10), (⟨16384, 0, 0, 16384⟩ : T_A4i)⟩ : T_SiiiA4ie)] : List T_SiiiA4ie).length 7)), (4, (.sref (304, 9) 0 v2.1.length 7)), (5, (.sref (305, 9) 0 v2.2.1.length 1)), (6, (vI v2.2.2)), (25, (.val (.bool true))), (26, (.sref (224, 6) 0 v1.1.length 1))]) (h := [(144, ⟨3, .froz, true, flat E_SiiiA4ie ([(⟨5, 10, (-10), (⟨16384, 0, 0, 16384⟩ : T_A4i)⟩ : T_SiiiA4ie)] : List T_SiiiA4ie)⟩), (224, ⟨6, .froz, true, flat E_B v1.1⟩), (304, ⟨9, .live, true, flat E_SiiiA4ie v2.1⟩), (305, ⟨9, .live, true, flat E_B v2.2.1⟩)]) (ep := 13) (by kernel_rfl) ?_
    refine .oo tabOk rfl rfl rfl (q_strS E_B rfl (fun _ => rfl) rfl rfl rfl rfl rfl rfl rfl rfl rfl rfl) ?_
    refine .seg tabOk 5 3 [1, 4, 5, 6, 30] [144, 304, 305] (t := [(1, (.sref (144, 3) 0 ([(⟨5, 10, (-10), (⟨16384, 0, 0, 16384⟩ : T_A4i)⟩ : T_SiiiA4ie)] : List T_SiiiA4ie).length 7)), (4, (.sref (304, 9) 0 v2.1.length 7)), (5, (.sref (305, 9) 0 v2.2.1.length 1)), (6, (vI v2.2.2)), (30, (.val (.bool ((bstr v1.1).toList == (⟨#[255, 255, 0, 0, 0, 0, 0, 0, 0, 0, 0, 2, 0, 5, 10, 246]⟩ : ByteArray).toList))))]) (h := [(144, ⟨3, .froz, true, flat E_SiiiA4ie ([(⟨5, 10, (-10), (⟨16384, 0, 0, 16384⟩ : T_A4i)⟩ : T_SiiiA4ie)] : List T_SiiiA4ie)⟩), (304, ⟨9, .live, true, flat E_SiiiA4ie v2.1⟩), (305, ⟨9, .live, true, flat E_B v2.2.1⟩)]) (ep := 14) (by kernel_rfl) ?_
    cases hB4 : ((bstr v1.1).toList == (⟨#[255, 255, 0, 0, 0, 0, 0, 0, 0, 0, 0, 2, 0, 5, 10, 246]⟩ : ByteArray).toList) with
    | false =>
      have h := iF h hB4
      refine .seg tabOk 8 14 [0] [] (t := [(0, (.val (.bool false)))]) (h := []) (ep := 15) (by kernel_rfl) ?_
      refine .fin rfl ?_
      refine sqN ?_
      refine .ret ?_
      injection h with h
      subst h
      exact ⟨.inr rfl, _, _, rfl, List.nodup_nil, rfl, rfl⟩
    | true =>
      have h := iT h hB4
      refine .seg tabOk 8 4 [1, 4, 5, 34] [144, 304, 305] (t := [(1, (.sref (144, 3) 0 ([(⟨5, 10, (-10), (⟨16384, 0, 0, 16384⟩ : T_A4i)⟩ : T_SiiiA4ie)] : List T_SiiiA4ie).length 7)), (4, (.sref (304, 9) 0 v2.1.length 7)), (5, (.sref (305, 9) 0 v2.2.1.length 1)), (34, (.val (.bool (decide (v2.2.2 = 0)))))]) (h := [(144, ⟨3, .froz, true, flat E_SiiiA4ie ([(⟨5, 10, (-10), (⟨16384, 0, 0, 16384⟩ : T_A4i)⟩ : T_SiiiA4ie)] : List T_SiiiA4ie)⟩), (304, ⟨9, .live, true, flat E_SiiiA4ie v2.1⟩), (305, ⟨9, .live, true, flat E_B v2.2.1⟩)]) (ep := 15) (by kernel_rfl) ?_
      cases hB5 : (decide (v2.2.2 = 0)) with
      | false =>
        have h := iF h hB5
        refine .seg tabOk 12 10 [0] [] (t := [(0, (.val (.bool false)))]) (h := []) (ep := 16) (by kernel_rfl) ?_
        refine .fin rfl ?_
        refine sqN ?_
        refine .ret ?_
        injection h with h
        subst h
        exact ⟨.inr rfl, _, _, rfl, List.nodup_nil, rfl, rfl⟩
      | true =>
        have h := iT h hB5
        refine .seg tabOk 12 5 [1, 4, 39] [144, 304] (t := [(1, (.sref (144, 3) 0 ([(⟨5, 10, (-10), (⟨16384, 0, 0, 16384⟩ : T_A4i)⟩ : T_SiiiA4ie)] : List T_SiiiA4ie).length 7)), (4, (.sref (304, 9) 0 v2.1.length 7)), (39, (.val (.bool (decide ((v2.2.1.length : Int) = 0)))))]) (h := [(144, ⟨3, .froz, true, flat E_SiiiA4ie ([(⟨5, 10, (-10), (⟨16384, 0, 0, 16384⟩ : T_A4i)⟩ : T_SiiiA4ie)] : List T_SiiiA4ie)⟩), (304, ⟨9, .live, true, flat E_SiiiA4ie v2.1⟩)]) (ep := 16) (by kernel_rfl) ?_
        cases hB6 : (decide ((v2.2.1.length : Int) = 0)) with
        | false =>
          have h := iF h hB6
          refine .seg tabOk 17 5 [0] [] (t := [(0, (.val (.bool false)))]) (h := []) (ep := 17) (by kernel_rfl) ?_
          refine .fin rfl ?_
          refine sqN ?_
          refine .ret ?_
          injection h with h
          subst h
          exact ⟨.inr rfl, _, _, rfl, List.nodup_nil, rfl, rfl⟩
        | true =>
          have h := iT h hB6
          refine .seg tabOk 17 2 [39, 40, 41] [144, 304] (t := [(39, (.val (.bool true))), (40, (.sref (304, 9) 0 v2.1.length 7)), (41, (.sref (144, 3) 0 ([(⟨5, 10, (-10), (⟨16384, 0, 0, 16384⟩ : T_A4i)⟩ : T_SiiiA4ie)] : List T_SiiiA4ie).length 7))]) (h := [(144, ⟨3, .froz, true, flat E_SiiiA4ie ([(⟨5, 10, (-10), (⟨16384, 0, 0, 16384⟩ : T_A4i)⟩ : T_SiiiA4ie)] : List T_SiiiA4ie)⟩), (304, ⟨9, .live, true, flat E_SiiiA4ie v2.1⟩)]) (ep := 17) (by kernel_rfl) ?_
          obtain ⟨v7, hv7, h⟩ := bS h
          refine .cc false rfl rfl (C_r08_Same _ _ _ _ hv7) ent_r08_Same rfl rfl rfl rfl (g_cons (g_row E_SiiiA4ie v2.1 rfl rfl rfl rfl rfl) (g_cons (g_rowF E_SiiiA4ie ([(⟨5, 10, (-10), (⟨16384, 0, 0, 16384⟩ : T_A4i)⟩ : T_SiiiA4ie)] : List T_SiiiA4ie) rfl rfl rfl rfl rfl) g_nil)) rfl ?_
          refine .seg tabOk 20 2 [0] [] (t := [(0, (.val (.bool v7)))]) (h := []) (ep := 18) (by kernel_rfl) ?_
          refine .fin rfl ?_
          refine sqN ?_
          refine .ret ?_
          injection h with h
          subst h
          exact ⟨.inr rfl, _, _, rfl, List.nodup_nil, rfl, rfl⟩
abbrev R_r02_Copy := (List Int)
def F_r02_Copy (n : Nat) (a0 : (List Int)) : Option R_r02_Copy :=
  gd (fits (([] : List Int).length + a0.length) 1 = true) <|
  some (([] : List Int) ++ a0)
theorem C_r02_Copy (n : Nat) (a0 : (List Int)) (r : R_r02_Copy) (h : F_r02_Copy n a0 = some r) : CallS Try.prog 15 [(.ro 1 a0.length (flat E_B a0))] (.own 1 r.length (flat E_B r)) [none] := by
  refine CallS.introK tabOk Try.func15 rfl Try.ntmps15 (Nat.le_of_ble_eq_true rfl) ?_
  rw [F_r02_Copy] at h
  refine .seq ?_
  refine .rgI rfl ?_
  refine .seg tabOk 0 1 [0] [] (t := [(0, (.ro 1 a0.length (flat E_B a0)))]) (h := []) (ep := 2) (by kernel_rfl) ?_
  refine .fin rfl ?_
  refine sqN ?_
  refine .seq ?_
  refine .rgI rfl ?_
  refine .seg tabOk 0 2 [3, 4] [48] (t := [(3, (.sref (48, 3) 0 ([] : List Int).length 1)), (4, (.ro 1 a0.length (flat E_B a0)))]) (h := [(48, ⟨3, .live, true, flat E_B ([] : List Int)⟩)]) (ep := 4) (by kernel_rfl) ?_
  obtain ⟨hb1, h⟩ := gS h
  refine .oo tabOk rfl rfl rfl (q_app E_B (l := ([] : List Int)) rfl rfl rfl rfl rfl rfl rfl rfl rfl rfl rfl rfl rfl (.ro a0) hb1) ?_
  refine .seg tabOk 3 1 [2] [80] (t := [(2, (.sref (80, 4) 0 (([] : List Int) ++ a0).length 1))]) (h := [(80, ⟨4, .live, true, flat E_B (([] : List Int) ++ a0)⟩)]) (ep := 5) (by kernel_rfl) ?_
  refine .fin rfl ?_
  refine sqN ?_
  refine .ret ?_
  injection h with h
  subst h
  exact ⟨.inr rfl, _, _, (f_cons (f_tmp rfl (o1_row E_B (([] : List Int) ++ a0) rfl rfl rfl rfl rfl)) f_nil), nd_of rfl, rfl, rfl⟩
abbrev R_r02_There := Bool
def F_r02_There (n : Nat) (a0 : (List Int)) (a1 : Int) (a2 : Int) : Option R_r02_There :=
  if (decide (0 ≤ a1)) then
    if (decide (0 ≤ a2)) then
      if (decide (a1 ≤ (a0.length : Int))) then
        some (decide (a2 ≤ (w64 ((a0.length : Int) - a1))))
      else
      some false
    else
    some false
  else
  some false
theorem C_r02_There (n : Nat) (a0 : (List Int)) (a1 : Int) (a2 : Int) (r : R_r02_There) (h : F_r02_There n a0 a1 a2 = some r) : CallS Try.prog 63 [(.ro 1 a0.length (flat E_B a0)), (vI a1), (vI a2)] (.val (.bool r)) [none, none, none] := by
  refine CallS.introK tabOk Try.func63 rfl Try.ntmps63 (Nat.le_of_ble_eq_true rfl) ?_
  rw [F_r02_There] at h
  refine .seq ?_
  refine .rgI rfl ?_
  refine .seg tabOk 0 1 [0, 1, 2] [] (t := [(0, (.ro 1 a0.length (flat E_B a0))), (1, (vI a1)), (2, (vI a2))]) (h := []) (ep := 2) (by kernel_rfl) ?_
  refine .fin rfl ?_
  refine sqN ?_
  refine .seq ?_
  refine .rgI rfl ?_
  refine .seg tabOk 0 3 [0, 1, 2, 9] [] (t := [(0, (.ro 1 a0.length (flat E_B a0))), (1, (vI a1)), (2, (vI a2)), (9, (.val (.bool (decide (0 ≤ a1)))))]) (h := []) (ep := 4) (by kernel_rfl) ?_
  cases hB1 : (decide (0 ≤ a1)) with
  | false =>
    have h := iF h hB1
    refine .seg tabOk 3 18 [6] [] (t := [(6, (.val (.bool false)))]) (h := []) (ep := 5) (by kernel_rfl) ?_
    refine .fin rfl ?_
    refine sqN ?_
    refine .ret ?_
    injection h with h
    subst h
    exact ⟨.inr rfl, _, _, rfl, List.nodup_nil, rfl, rfl⟩
  | true =>
    have h := iT h hB1
    refine .seg tabOk 3 4 [0, 1, 2, 13] [] (t := [(0, (.ro 1 a0.length (flat E_B a0))), (1, (vI a1)), (2, (vI a2)), (13, (.val (.bool (decide (0 ≤ a2)))))]) (h := []) (ep := 5) (by kernel_rfl) ?_
    cases hB2 : (decide (0 ≤ a2)) with
    | false =>
      have h := iF h hB2
      refine .seg tabOk 7 14 [6] [] (t := [(6, (.val (.bool false)))]) (h := []) (ep := 6) (by kernel_rfl) ?_
      refine .fin rfl ?_
      refine sqN ?_
      refine .ret ?_
      injection h with h
      subst h
      exact ⟨.inr rfl, _, _, rfl, List.nodup_nil, rfl, rfl⟩
    | true =>
      have h := iT h hB2
      refine .seg tabOk 7 6 [0, 1, 2, 19] [] (t := [(0, (.ro 1 a0.length (flat E_B a0))), (1, (vI a1)), (2, (vI a2)), (19, (.val (.bool (decide (a1 ≤ (a0.length : Int))))))]) (h := []) (ep := 6) (by kernel_rfl) ?_
      cases hB3 : (decide (a1 ≤ (a0.length : Int))) with
      | false =>
        have h := iF h hB3
        refine .seg tabOk 13 8 [6] [] (t := [(6, (.val (.bool false)))]) (h := []) (ep := 7) (by kernel_rfl) ?_
        refine .fin rfl ?_
        refine sqN ?_
        refine .ret ?_
        injection h with h
        subst h
        exact ⟨.inr rfl, _, _, rfl, List.nodup_nil, rfl, rfl⟩
      | true =>
        have h := iT h hB3
        refine .seg tabOk 13 8 [6] [] (t := [(6, (.val (.bool (decide (a2 ≤ (w64 ((a0.length : Int) - a1)))))))]) (h := []) (ep := 7) (by kernel_rfl) ?_
        refine .fin rfl ?_
        refine sqN ?_
        refine .ret ?_
        injection h with h
        subst h
        exact ⟨.inr rfl, _, _, rfl, List.nodup_nil, rfl, rfl⟩
abbrev R_r02_U := Int × Int
def L_r02_U_0 (a0 : (List Int)) (a1 : Int) (a2 : Int) (j5 : Int → Option R_r02_U) : Nat → Int → Int → Option R_r02_U
  | 0, _, _ => none
  | n + 1, y6, y7 =>
    if (decide (y7 < (w64 (a1 + a2)))) then
      gd (0 ≤ y7 ∧ y7 < a0.length) <|
      L_r02_U_0 a0 a1 a2 j5 n (w64 ((w64 (256 * y6)) + (w64 ((nth E_B a0 y7))))) (w64 (y7 + 1))
    else
    j5 y6
def F_r02_U (n : Nat) (a0 : (List Int)) (a1 : Int) (a2 : Int) : Option R_r02_U :=
  if ((decide (a2 < 1)) || (decide (4 < a2))) then
    some (0, 2)
  else
  Option.bind (F_r02_There n a0 a1 a2) fun v3 =>
  if (!v3) then
    some (0, 3)
  else
  lj (fun (x10 : Int) =>
    some (x10, 0)) fun j5 =>
  L_r02_U_0 a0 a1 a2 j5 n 0 a1
theorem C_r02_U (n : Nat) (a0 : (List Int)) (a1 : Int) (a2 : Int) (r : R_r02_U) (h : F_r02_U n a0 a1 a2 = some r) : CallS Try.prog 66 [(.ro 1 a0.length (flat E_B a0)), (vI a1), (vI a2)] (.tup [(vI r.1), (vI r.2)]) [none, none, none] := by
  refine CallS.introK tabOk Try.func66 rfl Try.ntmps66 (Nat.le_of_ble_eq_true rfl) ?_
  rw [F_r02_U] at h
  refine .seq ?_
  refine .rgI rfl ?_
  refine .seg tabOk 0 2 [0, 1, 2] [] (t := [(0, (.ro 1 a0.length (flat E_B a0))), (1, (vI a1)), (2, (vI a2))]) (h := []) (ep := 2) (by kernel_rfl) ?_
  refine .fin rfl ?_
  refine sqN ?_
  refine .seq ?_
  refine .seq ?_
  refine .join (fun s' => s' = ⟨[(0, (.ro 1 a0.length (flat E_B a0))), (1, (vI a1)), (2, (vI a2)), (15, (.val (.bool ((decide (a2 < 1)) || (decide (4 < a2))))))], [], 6⟩) ?_ ?_
  · refine .rgI rfl ?_
    refine .seg tabOk 0 3 [0, 1, 2, 12] [] (t := [(0, (.ro 1 a0.length (flat E_B a0))), (1, (vI a1)), (2, (vI a2)), (12, (.val (.bool (decide (a2 < 1)))))]) (h := []) (ep := 4) (by kernel_rfl) ?_
    cases hB1 : (decide (a2 < 1)) with
    | false =>
      skip
      refine .seg tabOk 3 3 [0, 1, 2, 15] [] (t := [(0, (.ro 1 a0.length (flat E_B a0))), (1, (vI a1)), (2, (vI a2)), (15, (.val (.bool (decide (4 < a2)))))]) (h := []) (ep := 5) (by kernel_rfl) ?_
      refine .fin rfl ?_
      exact jkN (by exact .tn [] ⟨rfl, rfl, rfl, rfl, trivial⟩ trivial rfl) rfl
    | true =>
      skip
      refine .seg tabOk 3 3 [0, 1, 2, 15] [] (t := [(0, (.ro 1 a0.length (flat E_B a0))), (1, (vI a1)), (2, (vI a2)), (15, (.val (.bool true)))]) (h := []) (ep := 5) (by kernel_rfl) ?_
      refine .fin rfl ?_
      exact jkN (by exact .tn [] ⟨rfl, rfl, rfl, rfl, trivial⟩ trivial rfl) rfl
  · rintro _ rfl
    refine sqN ?_
    refine .cond ((decide (a2 < 1)) || (decide (4 < a2))) rfl (fun hc2 => ?_) (fun hc2 => ?_)
    · have h := iT h hc2
      refine .seq ?_
      refine .rgI rfl ?_
      refine .seg tabOk 0 2 [6, 7] [] (t := [(6, (vI 0)), (7, (vI 2))]) (h := []) (ep := 8) (by kernel_rfl) ?_
      refine .fin rfl ?_
      refine sqN ?_
      refine .ret ?_
      refine sqR ?_
      injection h with h
      subst h
      exact ⟨.inr rfl, _, _, rfl, List.nodup_nil, rfl, rfl⟩
    · have h := iF h hc2
      refine .skip ?_
      refine sqN ?_
      refine .seq ?_
      refine .seq ?_
      refine .rgI rfl ?_
      refine .seg tabOk 0 3 [0, 1, 2, 16, 17, 18] [] (t := [(0, (.ro 1 a0.length (flat E_B a0))), (1, (vI a1)), (2, (vI a2)), (16, (.ro 1 a0.length (flat E_B a0))), (17, (vI a1)), (18, (vI a2))]) (h := []) (ep := 8) (by kernel_rfl) ?_
      obtain ⟨v3, hv3, h⟩ := bS h
      refine .cc true rfl rfl (C_r02_There _ _ _ _ _ hv3) ent_r02_There rfl rfl rfl rfl (g_cons (g_pl rfl rfl) (g_cons (g_pl rfl rfl) (g_cons (g_pl rfl rfl) g_nil))) rfl ?_
      refine .seg tabOk 4 1 [0, 1, 2, 20] [] (t := [(0, (.ro 1 a0.length (flat E_B a0))), (1, (vI a1)), (2, (vI a2)), (20, (.val (.bool (!v3))))]) (h := []) (ep := 9) (by kernel_rfl) ?_
      refine .fin rfl ?_
      refine sqN ?_
      refine .cond (!v3) rfl (fun hc4 => ?_) (fun hc4 => ?_)
      · have h := iT h hc4
        refine .seq ?_
        refine .rgI rfl ?_
        refine .seg tabOk 0 2 [6, 7] [] (t := [(6, (vI 0)), (7, (vI 3))]) (h := []) (ep := 11) (by kernel_rfl) ?_
        refine .fin rfl ?_
        refine sqN ?_
        refine .ret ?_
        refine sqR ?_
        injection h with h
        subst h
        exact ⟨.inr rfl, _, _, rfl, List.nodup_nil, rfl, rfl⟩
      · have h := iF h hc4
        refine .skip ?_
        refine sqN ?_
        refine .seq ?_
        refine .rgI rfl ?_
        refine .seg tabOk 0 1 [0, 1, 2, 8] [] (t := [(0, (.ro 1 a0.length (flat E_B a0))), (1, (vI a1)), (2, (vI a2)), (8, (vI 0))]) (h := []) (ep := 11) (by kernel_rfl) ?_
        refine .fin rfl ?_
        refine sqN ?_
        refine .seq ?_
        refine .seq ?_
        refine .rgI rfl ?_
        refine .seg tabOk 0 2 [0, 1, 2, 8, 9] [] (t := [(0, (.ro 1 a0.length (flat E_B a0))), (1, (vI a1)), (2, (vI a2)), (8, (vI 0)), (9, (vI a1))]) (h := []) (ep := 13) (by kernel_rfl) ?_
        refine .fin rfl ?_
        refine sqN ?_
        obtain ⟨j5, hj5, h⟩ := ljS h
        refine .join (fun s' => ∃ x10, s' = ⟨[(8, (vI x10))], [], 17⟩ ∧ j5 x10 = some r) ?_ ?_
        · refine .block ?_
          refine .loopF (β := Int × Int) (fun v => ⟨[(0, (.ro 1 a0.length (flat E_B a0))), (1, (vI a1)), (2, (vI a2)), (8, (vI v.1)), (9, (vI v.2))], [], 14⟩) (fun m v => L_r02_U_0 a0 a1 a2 j5 m v.1 v.2 = some r) n (0, a1) (by exact .tn [] ⟨rfl, rfl, rfl, rfl, rfl, trivial⟩ trivial rfl) h ?_
          rintro m ⟨y6, y7⟩ h
          cases m with
          | zero => exact nomatch h
          | succ n =>
            rw [L_r02_U_0] at h
            refine .seq ?_
            refine .seq ?_
            refine .rgI rfl ?_
            refine .seg tabOk 0 5 [0, 1, 2, 8, 9, 26] [] (t := [(0, (.ro 1 a0.length (flat E_B a0))), (1, (vI a1)), (2, (vI a2)), (8, (vI y6)), (9, (vI y7)), (26, (.val (.bool (decide (y7 < (w64 (a1 + a2)))))))]) (h := []) (ep := 16) (by kernel_rfl) ?_
            refine .fin rfl ?_
            refine sqN ?_
            refine .cond (decide (y7 < (w64 (a1 + a2)))) rfl (fun hc8 => ?_) (fun hc8 => ?_)
            · have h := iT h hc8
              refine .skip ?_
              refine sqN ?_
              refine .seq ?_
              refine .block ?_
              refine .rgI rfl ?_
              refine .seg tabOk 0 4 [0, 1, 2, 9, 30, 31, 32] [] (t := [(0, (.ro 1 a0.length (flat E_B a0))), (1, (vI a1)), (2, (vI a2)), (9, (vI y7)), (30, (vI (w64 (256 * y6)))), (31, (.ro 1 a0.length (flat E_B a0))), (32, (vI y7))]) (h := []) (ep := 18) (by kernel_rfl) ?_
              obtain ⟨hb9, h⟩ := gS h
              refine .o tabOk rfl rfl rfl (q_idx E_B rfl rfl rfl rfl rfl rfl hb9) ?_
              refine .o tabOk rfl rfl rfl (q_ld0 E_B rfl rfl rfl hb9 rfl) ?_
              refine .seg tabOk 6 3 [0, 1, 2, 8, 9] [] (t := [(0, (.ro 1 a0.length (flat E_B a0))), (1, (vI a1)), (2, (vI a2)), (8, (vI (w64 ((w64 (256 * y6)) + (w64 ((nth E_B a0 y7))))))), (9, (vI y7))]) (h := []) (ep := 19) (by kernel_rfl) ?_
              refine .fin rfl ?_
              refine bkN ?_
              refine sqN ?_
              refine .rgI rfl ?_
              refine .seg tabOk 0 3 [0, 1, 2, 8, 9] [] (t := [(0, (.ro 1 a0.length (flat E_B a0))), (1, (vI a1)), (2, (vI a2)), (8, (vI (w64 ((w64 (256 * y6)) + (w64 ((nth E_B a0 y7))))))), (9, (vI (w64 (y7 + 1))))]) (h := []) (ep := 21) (by kernel_rfl) ?_
              refine .fin rfl ?_
              exact jkN (by exact .tn [] ⟨rfl, rfl, rfl, rfl, rfl, trivial⟩ trivial rfl) ⟨n, ((w64 ((w64 (256 * y6)) + (w64 ((nth E_B a0 y7))))), (w64 (y7 + 1))), Nat.lt_succ_self n, rfl, h⟩
            · have h := iF h hc8
              refine .exit ?_
              refine sqX ?_
              refine jkX ?_
              refine bkE ?_
              exact jkN (by exact .tn [] ⟨rfl, trivial⟩ trivial rfl) ⟨_, rfl, h⟩
        · rintro _ ⟨x10, rfl, h⟩
          subst hj5
          refine sqN ?_
          refine .seq ?_
          refine .rgI rfl ?_
          refine .seg tabOk 0 3 [6, 7] [] (t := [(6, (vI x10)), (7, (vI 0))]) (h := []) (ep := 19) (by kernel_rfl) ?_
          refine .fin rfl ?_
          refine sqN ?_
          refine .ret ?_
          injection h with h
          subst h
          exact ⟨.inr rfl, _, _, rfl, List.nodup_nil, rfl, rfl⟩
abbrev R_r02_S := Int × Int
def L_r02_S_0 (a2 : Int) (j3 : Int → Option R_r02_S) : Nat → Int → Int → Option R_r02_S
  | 0, _, _ => none
  | n + 1, y4, y5 =>
    if (decide (y5 < a2)) then
      L_r02_S_0 a2 j3 n (w64 (y4 * 256)) (w64 (y5 + 1))
    else
    j3 y4
def F_r02_S (n : Nat) (a0 : (List Int)) (a1 : Int) (a2 : Int) : Option R_r02_S :=
  Option.bind (F_r02_U n a0 a1 a2) fun v1 =>
  if (!decide (v1.2 = 0)) then
    some (0, v1.2)
  else
  lj (fun (x7 : Int) =>
    some ((if (decide (x7 ≤ (w64 (2 * v1.1)))) then (w64 (v1.1 - x7)) else v1.1), 0)) fun j3 =>
  L_r02_S_0 a2 j3 n 1 0
theorem C_r02_S (n : Nat) (a0 : (List Int)) (a1 : Int) (a2 : Int) (r : R_r02_S) (h : F_r02_S n a0 a1 a2 = some r) : CallS Try.prog 62 [(.ro 1 a0.length (flat E_B a0)), (vI a1), (vI a2)] (.tup [(vI r.1), (vI r.2)]) [none, none, none] := by
  refine CallS.introK tabOk Try.func62 rfl Try.ntmps62 (Nat.le_of_ble_eq_true rfl) ?_
  rw [F_r02_S] at h
  refine .seq ?_
  refine .rgI rfl ?_
  refine .seg tabOk 0 2 [0, 1, 2] [] (t := [(0, (.ro 1 a0.length (flat E_B a0))), (1, (vI a1)), (2, (vI a2))]) (h := []) (ep := 2) (by kernel_rfl) ?_
  refine .fin rfl ?_
  refine sqN ?_
  refine .seq ?_
  refine .rgI rfl ?_
  refine .seg tabOk 0 3 [2, 13, 14, 15] [] (t := [(2, (vI a2)), (13, (.ro 1 a0.length (flat E_B a0))), (14, (vI a1)), (15, (vI a2))]) (h := []) (ep := 4) (by kernel_rfl) ?_
  obtain ⟨v1, hv1, h⟩ := bS h
  refine .cc true rfl rfl (C_r02_U _ _ _ _ _ hv1) ent_r02_U rfl rfl rfl rfl (g_cons (g_pl rfl rfl) (g_cons (g_pl rfl rfl) (g_cons (g_pl rfl rfl) g_nil))) rfl ?_
  refine .seg tabOk 4 5 [2, 8, 9] [] (t := [(2, (vI a2)), (8, (vI v1.1)), (9, (vI v1.2))]) (h := []) (ep := 5) (by kernel_rfl) ?_
  refine .fin rfl ?_
  refine sqN ?_
  refine .seq ?_
  refine .seq ?_
  refine .rgI rfl ?_
  refine .seg tabOk 0 2 [2, 8, 9, 20] [] (t := [(2, (vI a2)), (8, (vI v1.1)), (9, (vI v1.2)), (20, (.val (.bool (!decide (v1.2 = 0)))))]) (h := []) (ep := 7) (by kernel_rfl) ?_
  refine .fin rfl ?_
  refine sqN ?_
  refine .cond (!decide (v1.2 = 0)) rfl (fun hc2 => ?_) (fun hc2 => ?_)
  · have h := iT h hc2
    refine .seq ?_
    refine .rgI rfl ?_
    refine .seg tabOk 0 3 [6, 7] [] (t := [(6, (vI 0)), (7, (vI v1.2))]) (h := []) (ep := 9) (by kernel_rfl) ?_
    refine .fin rfl ?_
    refine sqN ?_
    refine .ret ?_
    refine sqR ?_
    injection h with h
    subst h
    exact ⟨.inr rfl, _, _, rfl, List.nodup_nil, rfl, rfl⟩
  · have h := iF h hc2
    refine .skip ?_
    refine sqN ?_
    refine .seq ?_
    refine .rgI rfl ?_
    refine .seg tabOk 0 1 [2, 8, 10] [] (t := [(2, (vI a2)), (8, (vI v1.1)), (10, (vI 1))]) (h := []) (ep := 9) (by kernel_rfl) ?_
    refine .fin rfl ?_
    refine sqN ?_
    refine .seq ?_
    refine .seq ?_
    refine .rgI rfl ?_
    refine .seg tabOk 0 1 [2, 8, 10, 11] [] (t := [(2, (vI a2)), (8, (vI v1.1)), (10, (vI 1)), (11, (vI 0))]) (h := []) (ep := 11) (by kernel_rfl) ?_
    refine .fin rfl ?_
    refine sqN ?_
    obtain ⟨j3, hj3, h⟩ := ljS h
    refine .join (fun s' => ∃ x7, s' = ⟨[(8, (vI v1.1)), (10, (vI x7))], [], 15⟩ ∧ j3 x7 = some r) ?_ ?_
    · refine .block ?_
      refine .loopF (β := Int × Int) (fun v => ⟨[(2, (vI a2)), (8, (vI v1.1)), (10, (vI v.1)), (11, (vI v.2))], [], 12⟩) (fun m v => L_r02_S_0 a2 j3 m v.1 v.2 = some r) n (1, 0) (by exact .tn [] ⟨rfl, rfl, rfl, rfl, trivial⟩ trivial rfl) h ?_
      rintro m ⟨y4, y5⟩ h
      cases m with
      | zero => exact nomatch h
      | succ n =>
        rw [L_r02_S_0] at h
        refine .seq ?_
        refine .seq ?_
        refine .rgI rfl ?_
        refine .seg tabOk 0 3 [2, 8, 10, 11, 24] [] (t := [(2, (vI a2)), (8, (vI v1.1)), (10, (vI y4)), (11, (vI y5)), (24, (.val (.bool (decide (y5 < a2)))))]) (h := []) (ep := 14) (by kernel_rfl) ?_
        refine .fin rfl ?_
        refine sqN ?_
        refine .cond (decide (y5 < a2)) rfl (fun hc6 => ?_) (fun hc6 => ?_)
        · have h := iT h hc6
          refine .skip ?_
          refine sqN ?_
          refine .seq ?_
          refine .block ?_
          refine .rgI rfl ?_
          refine .seg tabOk 0 3 [2, 8, 10, 11] [] (t := [(2, (vI a2)), (8, (vI v1.1)), (10, (vI (w64 (y4 * 256)))), (11, (vI y5))]) (h := []) (ep := 16) (by kernel_rfl) ?_
          refine .fin rfl ?_
          refine bkN ?_
          refine sqN ?_
          refine .rgI rfl ?_
          refine .seg tabOk 0 3 [2, 8, 10, 11] [] (t := [(2, (vI a2)), (8, (vI v1.1)), (10, (vI (w64 (y4 * 256)))), (11, (vI (w64 (y5 + 1))))]) (h := []) (ep := 18) (by kernel_rfl) ?_
          refine .fin rfl ?_
          exact jkN (by exact .tn [] ⟨rfl, rfl, rfl, rfl, trivial⟩ trivial rfl) ⟨n, ((w64 (y4 * 256)), (w64 (y5 + 1))), Nat.lt_succ_self n, rfl, h⟩
        · have h := iF h hc6
          refine .exit ?_
          refine sqX ?_
          refine jkX ?_
          refine bkE ?_
          exact jkN (by exact .tn [] ⟨rfl, rfl, trivial⟩ trivial rfl) ⟨_, rfl, h⟩
    · rintro _ ⟨x7, rfl, h⟩
      subst hj3
      refine sqN ?_
      refine .seq ?_
      refine .seq ?_
      refine .rgI rfl ?_
      refine .seg tabOk 0 4 [8, 10, 32] [] (t := [(8, (vI v1.1)), (10, (vI x7)), (32, (.val (.bool (decide (x7 ≤ (w64 (2 * v1.1)))))))]) (h := []) (ep := 17) (by kernel_rfl) ?_
      refine .fin rfl ?_
      refine sqN ?_
      refine .join (fun s' => s' = ⟨[(8, (vI (if (decide (x7 ≤ (w64 (2 * v1.1)))) then (w64 (v1.1 - x7)) else v1.1)))], [], 20⟩) ?_ ?_
      · refine .cond (decide (x7 ≤ (w64 (2 * v1.1)))) rfl (fun hc8 => ?_) (fun hc8 => ?_)
        · skip
          refine .rgI rfl ?_
          refine .seg tabOk 0 4 [8] [] (t := [(8, (vI (w64 (v1.1 - x7))))]) (h := []) (ep := 19) (by kernel_rfl) ?_
          refine .fin rfl ?_
          exact jkN (by exact .tn [] ⟨(by (try rw [hc8]); rfl), trivial⟩ trivial rfl) rfl
        · skip
          refine .skip ?_
          exact jkN (by exact .tn [] ⟨(by (try rw [hc8]); rfl), trivial⟩ trivial rfl) rfl
      · rintro _ rfl
        refine sqN ?_
        refine .seq ?_
        refine .rgI rfl ?_
        refine .seg tabOk 0 3 [6, 7] [] (t := [(6, (vI (if (decide (x7 ≤ (w64 (2 * v1.1)))) then (w64 (v1.1 - x7)) else v1.1))), (7, (vI 0))]) (h := []) (ep := 22) (by kernel_rfl) ?_
        refine .fin rfl ?_
        refine sqN ?_
        refine .ret ?_
        injection h with h
        subst h
        exact ⟨.inr rfl, _, _, rfl, List.nodup_nil, rfl, rfl⟩
abbrev R_r08_reader_s := Int × T_SLBiie
def F_r08_reader_s (n : Nat) (a0 : T_SLBiie) (a1 : Int) : Option R_r08_reader_s :=
  if (!decide (a0.f2 = 0)) then
    some (0, a0)
  else
  Option.bind (F_r02_S n a0.f0 a0.f1 a1) fun v2 =>
  if (!decide (v2.2 = 0)) then
    some (0, (⟨a0.f0, a0.f1, 3⟩ : T_SLBiie))
  else
  some (v2.1, (⟨a0.f0, (w64 (a0.f1 + a1)), a0.f2⟩ : T_SLBiie))
theorem C_r08_reader_s (n : Nat) (a0 : T_SLBiie) (a1 : Int) (r : R_r08_reader_s) (h : F_r08_reader_s n a0 a1 = some r) : CallS Try.prog 36 [(.box [(.ro 1 a0.f0.length (flat E_B a0.f0)), (vI a0.f1), (vI a0.f2)]), (vI a1)] (vI r.1) [some [(.ro 1 r.2.f0.length (flat E_B r.2.f0)), (vI r.2.f1), (vI r.2.f2)], none] := by
  refine CallS.introK tabOk Try.func36 rfl Try.ntmps36 (Nat.le_of_ble_eq_true rfl) ?_
  rw [F_r08_reader_s] at h
  refine .seq ?_
  refine .rgI rfl ?_
  refine .seg tabOk 0 1 [0, 1] [0] (t := [(0, (.ptr (0, 0) 0)), (1, (vI a1))]) (h := [(0, ⟨0, .live, false, [(.ro 1 a0.f0.length (flat E_B a0.f0)), (vI a0.f1), (vI a0.f2)]⟩)]) (ep := 2) (by kernel_rfl) ?_
  refine .fin rfl ?_
  refine sqN ?_
  refine .seq ?_
  refine .seq ?_
  refine .rgI rfl ?_
  refine .seg tabOk 0 5 [0, 1, 11] [0] (t := [(0, (.ptr (0, 0) 0)), (1, (vI a1)), (11, (.val (.bool (!decide (a0.f2 = 0)))))]) (h := [(0, ⟨0, .live, false, [(.ro 1 a0.f0.length (flat E_B a0.f0)), (vI a0.f1), (vI a0.f2)]⟩)]) (ep := 4) (by kernel_rfl) ?_
  refine .fin rfl ?_
  refine sqN ?_
  refine .cond (!decide (a0.f2 = 0)) rfl (fun hc1 => ?_) (fun hc1 => ?_)
  · have h := iT h hc1
    refine .seq ?_
    refine .rgI rfl ?_
    refine .seg tabOk 0 1 [4] [0] (t := [(4, (vI 0))]) (h := [(0, ⟨0, .live, false, [(.ro 1 a0.f0.length (flat E_B a0.f0)), (vI a0.f1), (vI a0.f2)]⟩)]) (ep := 6) (by kernel_rfl) ?_
    refine .fin rfl ?_
    refine sqN ?_
    refine .ret ?_
    refine sqR ?_
    injection h with h
    subst h
    exact ⟨.inr rfl, _, _, rfl, List.nodup_nil, rfl, rfl⟩
  · have h := iF h hc1
    refine .skip ?_
    refine sqN ?_
    refine .seq ?_
    refine .rgD rfl ?_
    refine .seg tabOk 0 9 [0, 1, 16, 20, 21] [0] (t := [(0, (.ptr (0, 0) 0)), (1, (vI a1)), (16, (.ro 1 a0.f0.length (flat E_B a0.f0))), (20, (vI a0.f1)), (21, (vI a1))]) (h := [(0, ⟨0, .live, false, [(.ro 1 a0.f0.length (flat E_B a0.f0)), (vI a0.f1), (vI a0.f2)]⟩)]) (ep := 5) (by kernel_rfl) ?_
    obtain ⟨v2, hv2, h⟩ := bS h
    refine .cc true rfl rfl (C_r02_S _ _ _ _ _ hv2) ent_r02_S rfl rfl rfl rfl (g_cons (g_pl rfl rfl) (g_cons (g_pl rfl rfl) (g_cons (g_pl rfl rfl) g_nil))) rfl rfl ?_
    refine .seg tabOk 10 5 [0, 1, 5, 6] [0] (t := [(0, (.ptr (0, 0) 0)), (1, (vI a1)), (5, (vI v2.1)), (6, (vI v2.2))]) (h := [(0, ⟨0, .live, false, [(.ro 1 a0.f0.length (flat E_B a0.f0)), (vI a0.f1), (vI a0.f2)]⟩)]) (ep := 5) (by kernel_rfl) ?_
    refine .fin mixed [0, 1, 5, 6] [0] (t := [(0, (.ptr (0, 0) 0)), (1, (vI a1)), (5, (vI v2.1)), (6, (vI v2.2))]) (h := [(0, ⟨0, .live, false, [(.ro 1 a0.f0.length (flat E_B a0.f0)), (vI a0.f1), (vI a0.f2)]⟩)]) (ep := 6) rfl (by kernel_rfl) rfl ?_
    refine sqN ?_
    refine .seq ?_
    refine .seq ?_
    refine .rgI rfl ?_
    refine .seg tabOk 0 2 [0, 1, 5, 26] [0] (t := [(0, (.ptr (0, 0) 0)), (1, (vI a1)), (5, (vI v2.1)), (26, (.val (.bool (!decide (v2.2 = 0)))))]) (h := [(0, ⟨0, .live, false, [(.ro 1 a0.f0.length (flat E_B a0.f0)), (vI a0.f1), (vI a0.f2)]⟩)]) (ep := 8) (by kernel_rfl) ?_
    refine .fin rfl ?_
    refine sqN ?_
    refine .cond (!decide (v2.2 = 0)) rfl (fun hc3 => ?_) (fun hc3 => ?_)
    · have h := iT h hc3
      refine .seq ?_
      refine .rgI rfl ?_
      refine .seg tabOk 0 4 [] [0] (t := []) (h := [(0, ⟨0, .live, false, [(.ro 1 a0.f0.length (flat E_B a0.f0)), (vI a0.f1), (vI 3)]⟩)]) (ep := 10) (by kernel_rfl) ?_
      refine .fin rfl ?_
      refine sqN ?_
      refine .seq ?_
      refine .rgI rfl ?_
      refine .seg tabOk 0 1 [4] [0] (t := [(4, (vI 0))]) (h := [(0, ⟨0, .live, false, [(.ro 1 a0.f0.length (flat E_B a0.f0)), (vI a0.f1), (vI 3)]⟩)]) (ep := 12) (by kernel_rfl) ?_
      refine .fin rfl ?_
      refine sqN ?_
      refine .ret ?_
      refine sqR ?_
      injection h with h
      subst h
      exact ⟨.inr rfl, _, _, rfl, List.nodup_nil, rfl, rfl⟩
    · have h := iF h hc3
      refine .skip ?_
      refine sqN ?_
      refine .seq ?_
      refine .rgI rfl ?_
      refine .seg tabOk 0 9 [5] [0] (t := [(5, (vI v2.1))]) (h := [(0, ⟨0, .live, false, [(.ro 1 a0.f0.length (flat E_B a0.f0)), (vI (w64 (a0.f1 + a1))), (vI a0.f2)]⟩)]) (ep := 10) (by kernel_rfl) ?_
      refine .fin rfl ?_
      refine sqN ?_
      refine .seq ?_
      refine .rgI rfl ?_
      refine .seg tabOk 0 2 [4] [0] (t := [(4, (vI v2.1))]) (h := [(0, ⟨0, .live, false, [(.ro 1 a0.f0.length (flat E_B a0.f0)), (vI (w64 (a0.f1 + a1))), (vI a0.f2)]⟩)]) (ep := 12) (by kernel_rfl) ?_
      refine .fin rfl ?_
      refine sqN ?_
      refine .ret ?_
      injection h with h
      subst h
      exact ⟨.inr rfl, _, _, rfl, List.nodup_nil, rfl, rfl⟩
abbrev R_r08_reader_u := Int × T_SLBiie
def F_r08_reader_u (n : Nat) (a0 : T_SLBiie) : Option R_r08_reader_u :=
  Option.bind (F_r08_reader_s n a0 2) fun v1 =>
  if (decide (v1.1 < 0)) then
    some ((w64 (v1.1 + 65536)), v1.2)
  else
  some (v1.1, v1.2)
theorem C_r08_reader_u (n : Nat) (a0 : T_SLBiie) (r : R_r08_reader_u) (h : F_r08_reader_u n a0 = some r) : CallS Try.prog 37 [(.box [(.ro 1 a0.f0.length (flat E_B a0.f0)), (vI a0.f1), (vI a0.f2)])] (vI r.1) [some [(.ro 1 r.2.f0.length (flat E_B r.2.f0)), (vI r.2.f1), (vI r.2.f2)]] := by
  refine CallS.introK tabOk Try.func37 rfl Try.ntmps37 (Nat.le_of_ble_eq_true rfl) ?_
  rw [F_r08_reader_u] at h
  refine .seq ?_
  refine .rgI rfl ?_
  refine .seg tabOk 0 1 [0] [0] (t := [(0, (.ptr (0, 0) 0))]) (h := [(0, ⟨0, .live, false, [(.ro 1 a0.f0.length (flat E_B a0.f0)), (vI a0.f1), (vI a0.f2)]⟩)]) (ep := 2) (by kernel_rfl) ?_
  refine .fin rfl ?_
  refine sqN ?_
  refine .seq ?_
  refine .rgI rfl ?_
  refine .seg tabOk 0 1 [4] [0] (t := [(4, (.ptr (0, 0) 0))]) (h := [(0, ⟨0, .live, false, [(.ro 1 a0.f0.length (flat E_B a0.f0)), (vI a0.f1), (vI a0.f2)]⟩)]) (ep := 4) (by kernel_rfl) ?_
  obtain ⟨v1, hv1, h⟩ := bS h
  refine .cc true rfl rfl (C_r08_reader_s _ _ _ _ hv1) ent_r08_reader_s rfl rfl rfl rfl (g_cons (g_pl rfl rfl) (g_cons (g_pl rfl rfl) g_nil)) rfl ?_
  refine .seg tabOk 2 1 [3] [0] (t := [(3, (vI v1.1))]) (h := [(0, ⟨0, .live, false, [(.ro 1 v1.2.f0.length (flat E_B v1.2.f0)), (vI v1.2.f1), (vI v1.2.f2)]⟩)]) (ep := 5) (by kernel_rfl) ?_
  refine .fin rfl ?_
  refine sqN ?_
  refine .seq ?_
  refine .seq ?_
  refine .rgI rfl ?_
  refine .seg tabOk 0 2 [3, 7] [0] (t := [(3, (vI v1.1)), (7, (.val (.bool (decide (v1.1 < 0)))))]) (h := [(0, ⟨0, .live, false, [(.ro 1 v1.2.f0.length (flat E_B v1.2.f0)), (vI v1.2.f1), (vI v1.2.f2)]⟩)]) (ep := 7) (by kernel_rfl) ?_
  refine .fin rfl ?_
  refine sqN ?_
  refine .cond (decide (v1.1 < 0)) rfl (fun hc2 => ?_) (fun hc2 => ?_)
  · have h := iT h hc2
    refine .seq ?_
    refine .rgI rfl ?_
    refine .seg tabOk 0 3 [2] [0] (t := [(2, (vI (w64 (v1.1 + 65536))))]) (h := [(0, ⟨0, .live, false, [(.ro 1 v1.2.f0.length (flat E_B v1.2.f0)), (vI v1.2.f1), (vI v1.2.f2)]⟩)]) (ep := 9) (by kernel_rfl) ?_
    refine .fin rfl ?_
    refine sqN ?_
    refine .ret ?_
    refine sqR ?_
    injection h with h
    subst h
    exact ⟨.inr rfl, _, _, rfl, List.nodup_nil, rfl, rfl⟩
  · have h := iF h hc2
    refine .skip ?_
    refine sqN ?_
    refine .seq ?_
    refine .rgI rfl ?_
    refine .seg tabOk 0 2 [2] [0] (t := [(2, (vI v1.1))]) (h := [(0, ⟨0, .live, false, [(.ro 1 v1.2.f0.length (flat E_B v1.2.f0)), (vI v1.2.f1), (vI v1.2.f2)]⟩)]) (ep := 9) (by kernel_rfl) ?_
    refine .fin rfl ?_
    refine sqN ?_
    refine .ret ?_
    injection h with h
    subst h
    exact ⟨.inr rfl, _, _, rfl, List.nodup_nil, rfl, rfl⟩
abbrev R_r08_has := Bool
def F_r08_has (n : Nat) (a0 : Int) (a1 : Int) : Option R_r08_has :=
  gd (a1 ≠ 0) <|
  some (decide ((Int.tmod (w64 (Int.tdiv a0 a1)) 2) = 1))
theorem C_r08_has (n : Nat) (a0 : Int) (a1 : Int) (r : R_r08_has) (h : F_r08_has n a0 a1 = some r) : CallS Try.prog 38 [(vI a0), (vI a1)] (.val (.bool r)) [none, none] := by
  refine CallS.introK tabOk Try.func38 rfl Try.ntmps38 (Nat.le_of_ble_eq_true rfl) ?_
  rw [F_r08_has] at h
  refine .seq ?_
  refine .rgI rfl ?_
  refine .seg tabOk 0 1 [0, 1] [] (t := [(0, (vI a0)), (1, (vI a1))]) (h := []) (ep := 2) (by kernel_rfl) ?_
  refine .fin rfl ?_
  refine sqN ?_
  refine .seq ?_
  refine .rgI rfl ?_
  refine .seg tabOk 0 2 [5, 6] [] (t := [(5, (vI a0)), (6, (vI a1))]) (h := []) (ep := 4) (by kernel_rfl) ?_
  obtain ⟨hb1, h⟩ := gS h
  refine .o tabOk rfl rfl rfl (q_quo rfl rfl hb1) ?_
  refine .seg tabOk 3 3 [4] [] (t := [(4, (.val (.bool (decide ((Int.tmod (w64 (Int.tdiv a0 a1)) 2) = 1)))))]) (h := []) (ep := 5) (by kernel_rfl) ?_
  refine .fin rfl ?_
  refine sqN ?_
  refine .ret ?_
  injection h with h
  subst h
  exact ⟨.inr rfl, _, _, rfl, List.nodup_nil, rfl, rfl⟩
abbrev R_r02_Cut := (List Int) × Int
def F_r02_Cut (n : Nat) (a0 : (List Int)) (a1 : Int) (a2 : Int) : Option R_r02_Cut :=
  Option.bind (F_r02_There n a0 a1 a2) fun v1 =>
  if (!v1) then
    some (([] : List Int), 3)
  else
  gd (0 ≤ a1 ∧ a1 ≤ (w64 (a1 + a2)) ∧ (w64 (a1 + a2)) ≤ (a0.length : Int)) <|
  Option.bind (F_r02_Copy n (slc a0 a1 (w64 (a1 + a2)))) fun v4 =>
  some (v4, 0)
theorem C_r02_Cut (n : Nat) (a0 : (List Int)) (a1 : Int) (a2 : Int) (r : R_r02_Cut) (h : F_r02_Cut n a0 a1 a2 = some r) : CallS Try.prog 39 [(.ro 1 a0.length (flat E_B a0)), (vI a1), (vI a2)] (.tup [(.own 1 r.1.length (flat E_B r.1)), (vI r.2)]) [none, none, none] := by
  refine CallS.introK tabOk Try.func39 rfl Try.ntmps39 (Nat.le_of_ble_eq_true rfl) ?_
  rw [F_r02_Cut] at h
  refine .seq ?_
  refine .rgI rfl ?_
  refine .seg tabOk 0 2 [0, 1, 2] [] (t := [(0, (.ro 1 a0.length (flat E_B a0))), (1, (vI a1)), (2, (vI a2))]) (h := []) (ep := 2) (by kernel_rfl) ?_
  refine .fin rfl ?_
  refine sqN ?_
  refine .seq ?_
  refine .seq ?_
  refine .rgI rfl ?_
  refine .seg tabOk 0 3 [0, 1, 2, 8, 9, 10] [] (t := [(0, (.ro 1 a0.length (flat E_B a0))), (1, (vI a1)), (2, (vI a2)), (8, (.ro 1 a0.length (flat E_B a0))), (9, (vI a1)), (10, (vI a2))]) (h := []) (ep := 4) (by kernel_rfl) ?_
  obtain ⟨v1, hv1, h⟩ := bS h
  refine .cc true rfl rfl (C_r02_There _ _ _ _ _ hv1) ent_r02_There rfl rfl rfl rfl (g_cons (g_pl rfl rfl) (g_cons (g_pl rfl rfl) (g_cons (g_pl rfl rfl) g_nil))) rfl ?_
  refine .seg tabOk 4 1 [0, 1, 2, 12] [] (t := [(0, (.ro 1 a0.length (flat E_B a0))), (1, (vI a1)), (2, (vI a2)), (12, (.val (.bool (!v1))))]) (h := []) (ep := 5) (by kernel_rfl) ?_
  refine .fin rfl ?_
  refine sqN ?_
  refine .cond (!v1) rfl (fun hc2 => ?_) (fun hc2 => ?_)
  · have h := iT h hc2
    refine .seq ?_
    refine .rgI rfl ?_
    refine .seg tabOk 0 2 [6, 7] [] (t := [(6, .nils), (7, (vI 3))]) (h := []) (ep := 7) (by kernel_rfl) ?_
    refine .fin rfl ?_
    refine sqN ?_
    refine .pre (.nilRow 6 1 111 rfl (fresh_none rfl)) ?_
    refine .ret ?_
    refine sqR ?_
    injection h with h
    subst h
    exact ⟨.inr rfl, _, _, (f_cons (f_tmp rfl (o1_row E_B ([] : List Int) rfl rfl rfl rfl rfl)) (f_cons rfl f_nil)), nd_of rfl, rfl, rfl⟩
  · have h := iF h hc2
    refine .skip ?_
    refine sqN ?_
    refine .seq ?_
    refine .rgI rfl ?_
    refine .seg tabOk 0 5 [13, 14, 17] [] (t := [(13, (.ro 1 a0.length (flat E_B a0))), (14, (vI a1)), (17, (vI (w64 (a1 + a2))))]) (h := []) (ep := 7) (by kernel_rfl) ?_
    obtain ⟨hb3, h⟩ := gS h
    refine .o tabOk rfl rfl rfl (q_slLH E_B rfl rfl rfl rfl rfl rfl rfl hb3) ?_
    obtain ⟨v4, hv4, h⟩ := bS h
    refine .cc true rfl rfl (C_r02_Copy _ _ _ hv4) ent_r02_Copy rfl rfl rfl rfl (g_cons (g_pl rfl rfl) g_nil) rfl ?_
    refine .seg tabOk 7 2 [6, 7] [304] (t := [(6, (.sref (304, 7) 0 v4.length 1)), (7, (vI 0))]) (h := [(304, ⟨7, .live, true, flat E_B v4⟩)]) (ep := 8) (by kernel_rfl) ?_
    refine .fin rfl ?_
    refine sqN ?_
    refine .ret ?_
    injection h with h
    subst h
    exact ⟨.inr rfl, _, _, (f_cons (f_tmp rfl (o1_row E_B v4 rfl rfl rfl rfl rfl)) (f_cons rfl f_nil)), nd_of rfl, rfl, rfl⟩
end Go.Proofs.Ytgkekjfbacncoaa
