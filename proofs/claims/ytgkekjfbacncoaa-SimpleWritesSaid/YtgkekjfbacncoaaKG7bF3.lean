/- Printed by a program: shallow functions of the Go functions, and the proofs that the Go functions come to their answers. -/
import Derived.Test.YtgkekjfbacncoaaKG7bF2
set_option linter.unusedVariables false
open Go Go.Ab
namespace Go.Proofs.Ytgkekjfbacncoaa
abbrev R_law07_SimpleWrites := Bool
def F_law07_SimpleWrites (n : Nat) (a0 : T_SLLSiibeLBe) : Option R_law07_SimpleWrites :=
  Option.bind (F_law07_alive n ) fun v1 =>
  if (!v1) then
    some false
  else
  lj (fun (x5 : Bool) =>
    if x5 then
      some true
    else
    Option.bind (F_r07_Copy n a0.f0) fun v8 =>
    Option.bind (F_r02_Copy n a0.f1) fun v9 =>
    Option.bind (F_simple_Write n (⟨v8, v9⟩ : T_SLLSiibeLBe)) fun v10 =>
    Option.bind (F_r07_Write n a0) fun v11 =>
    Option.bind (F_simple_Box n v8) fun v12 =>
    Option.bind (F_r07_Box n a0.f0) fun v13 =>
    if (decide (v10.2 = v11.2)) then
      Option.bind (F_r02_Same n v10.1 v11.1) fun v15 =>
      if v15 then
        if ((decide (v12.1.f0 = v13.1.f0)) && ((decide (v12.1.f1 = v13.1.f1)) && true)) then
          if ((decide (v12.2.f0 = v13.2.f0)) && ((decide (v12.2.f1 = v13.2.f1)) && true)) then
            Option.bind (F_r07_Same n v8 a0.f0) fun v19 =>
            if v19 then
              Option.bind (F_r02_Same n v9 a0.f1) fun v21 =>
              some v21
            else
            some false
          else
          some false
        else
        some false
      else
      some false
    else
    some false) fun j6 =>
  Option.bind (F_r07_Great n a0.f0) fun v3 =>
  if v3 then
    j6 true
  else
  j6 (decide (70000 < (a0.f1.length : Int)))
abbrev q9_0 (a0 : T_SLLSiibeLBe) : Nat × Ob := (16, ⟨1, .live, false, [(.ro 1 a0.f0.length (flat E_LSiibe a0.f0)), (.ro 1 a0.f1.length (flat E_B a0.f1))]⟩)
abbrev q9_1 (v8 : R_r07_Copy) (v9 : R_r02_Copy) : Nat × Ob := (48, ⟨10, .live, false, [(.sref (400, 10) 0 v8.length 1), (.sref (448, 10) 0 v9.length 1)]⟩)
abbrev q9_2 (v9 : R_r02_Copy) : Nat × Ob := (448, ⟨10, .froz, true, flat E_B v9⟩)
abbrev q9_3 (v8 : R_r07_Copy) : Nat × Ob := (400, ⟨10, .froz, true, flat E_LSiibe v8⟩)
abbrev q9_4 (v12 : R_simple_Box) : Nat × Ob := (144, ⟨19, .live, false, [(vI v12.2.f0), (vI v12.2.f1)]⟩)
abbrev q9_5 (v10 : R_simple_Write) : Nat × Ob := (512, ⟨13, .live, true, flat E_B v10.1⟩)
abbrev q9_6 (v12 : R_simple_Box) : Nat × Ob := (128, ⟨19, .live, false, [(vI v12.1.f0), (vI v12.1.f1)]⟩)
abbrev q9_7 (v10 : R_simple_Write) : Nat × V := (4, (.sref (512, 13) 0 v10.1.length 1))
abbrev q9_8 (v13 : R_r07_Box) : Nat × Ob := (176, ⟨22, .live, false, [(vI v13.2.f0), (vI v13.2.f1)]⟩)
abbrev q9_9 (v11 : R_r07_Write) : Nat × Ob := (592, ⟨16, .live, true, flat E_B v11.1⟩)
abbrev q9_10 (v11 : R_r07_Write) : Nat × V := (6, (.sref (592, 16) 0 v11.1.length 1))
abbrev q9_11 (v13 : R_r07_Box) : Nat × Ob := (160, ⟨22, .live, false, [(vI v13.1.f0), (vI v13.1.f1)]⟩)
abbrev q9_12 (v8 : R_r07_Copy) : Nat × Ob := (400, ⟨10, .live, true, flat E_LSiibe v8⟩)
abbrev q9_13 (v9 : R_r02_Copy) : Nat × Ob := (448, ⟨10, .live, true, flat E_B v9⟩)
theorem C_law07_SimpleWrites (n : Nat) (a0 : T_SLLSiibeLBe) (r : R_law07_SimpleWrites) (h : F_law07_SimpleWrites n a0 = some r) : CallS Try.prog 9 [(.agg [(.ro 1 a0.f0.length (flat E_LSiibe a0.f0)), (.ro 1 a0.f1.length (flat E_B a0.f1))])] (.val (.bool r)) [none] := by
  refine CallS.introK tabOk Try.func9 rfl Try.ntmps9 (Nat.le_of_ble_eq_true rfl) ?_
  rw [F_law07_SimpleWrites] at h
  refine .seq ?_
  refine .rgI rfl ?_
  refine .seg tabOk 0 2 [1] [16] (t := [(1, (.ptr (16, 1) 0))]) (h := [(q9_0 a0)]) (ep := 2) (by kernel_rfl) ?_
  refine .fin rfl ?_
  refine sqN ?_
  refine .seq ?_
  refine .seq ?_
  refine .rgI rfl ?_
  obtain ⟨v1, hv1, h⟩ := bS h
  refine .cc true rfl rfl (C_law07_alive _ _ hv1) ent_law07_alive rfl rfl rfl rfl g_nil rfl ?_
  refine .seg tabOk 1 1 [1, 13] [16] (t := [(1, (.ptr (16, 1) 0)), (13, (.val (.bool (!v1))))]) (h := [(q9_0 a0)]) (ep := 4) (by kernel_rfl) ?_
  refine .fin rfl ?_
  refine sqN ?_
  refine .cond (!v1) rfl (fun hc2 => ?_) (fun hc2 => ?_)
  · have h := iT h hc2
    refine .seq ?_
    refine .rgI rfl ?_
    refine .seg tabOk 0 1 [2] [] (t := [(2, (.val (.bool false)))]) (h := []) (ep := 6) (by kernel_rfl) ?_
    refine .fin rfl ?_
    refine sqN ?_
    refine .ret ?_
    refine sqR ?_
    injection h with h
    subst h
    exact ⟨.inr rfl, _, _, rfl, List.nodup_nil, rfl, rfl⟩
  · have h := iF h hc2
    refine .skip ?_
    refine sqN ?_
    refine .seq ?_
    refine .seq ?_
    obtain ⟨j6, hj6, h⟩ := ljS h
    refine .join (fun s' => ∃ x5, s' = ⟨[(1, (.ptr (16, 1) 0)), (22, (.val (.bool x5)))], [(q9_0 a0)], 9⟩ ∧ j6 x5 = some r) ?_ ?_
    · refine .rgI rfl ?_
      refine .seg tabOk 0 2 [1, 15] [16] (t := [(1, (.ptr (16, 1) 0)), (15, (.ro 1 a0.f0.length (flat E_LSiibe a0.f0)))]) (h := [(q9_0 a0)]) (ep := 6) (by kernel_rfl) ?_
      obtain ⟨v3, hv3, h⟩ := bS h
      refine .cc true rfl rfl (C_r07_Great _ _ _ hv3) ent_r07_Great rfl rfl rfl rfl (g_cons (g_pl rfl rfl) g_nil) rfl ?_
      refine .seg tabOk 3 1 [1, 17] [16] (t := [(1, (.ptr (16, 1) 0)), (17, (.val (.bool v3)))]) (h := [(q9_0 a0)]) (ep := 7) (by kernel_rfl) ?_
      cases hB4 : v3 with
      | false =>
        have h := iF h hB4
        refine .seg tabOk 4 5 [1, 22] [16] (t := [(1, (.ptr (16, 1) 0)), (22, (.val (.bool (decide (70000 < (a0.f1.length : Int))))))]) (h := [(q9_0 a0)]) (ep := 8) (by kernel_rfl) ?_
        refine .fin rfl ?_
        exact jkN (by exact .tn [((16, 1), (16, 1))] ⟨rfl, rfl, trivial⟩ ⟨rfl, ⟨_, rfl, rfl⟩, trivial⟩ rfl) ⟨_, rfl, h⟩
      | true =>
        have h := iT h hB4
        refine .seg tabOk 4 5 [1, 22] [16] (t := [(1, (.ptr (16, 1) 0)), (22, (.val (.bool true)))]) (h := [(q9_0 a0)]) (ep := 8) (by kernel_rfl) ?_
        refine .fin rfl ?_
        exact jkN (by exact .tn [((16, 1), (16, 1))] ⟨rfl, rfl, trivial⟩ ⟨rfl, ⟨_, rfl, rfl⟩, trivial⟩ rfl) ⟨_, rfl, h⟩
    · rintro _ ⟨x5, rfl, h⟩
      subst hj6
      refine sqN ?_
      refine .cond x5 rfl (fun hc7 => ?_) (fun hc7 => ?_)
      · have h := iT h hc7
        refine .seq ?_
        refine .rgI rfl ?_
        refine .seg tabOk 0 1 [2] [] (t := [(2, (.val (.bool true)))]) (h := []) (ep := 11) (by kernel_rfl) ?_
        refine .fin rfl ?_
        refine sqN ?_
        refine .ret ?_
        refine sqR ?_
        injection h with h
        subst h
        exact ⟨.inr rfl, _, _, rfl, List.nodup_nil, rfl, rfl⟩
      · have h := iF h hc7
        refine .skip ?_
        refine sqN ?_
        refine .seq ?_
        refine .rgD rfl ?_
        refine .seg tabOk 0 2 [1, 24] [16] (t := [(1, (.ptr (16, 1) 0)), (24, (.ro 1 a0.f0.length (flat E_LSiibe a0.f0)))]) (h := [(q9_0 a0)]) (ep := 10) (by kernel_rfl) ?_
        obtain ⟨v8, hv8, h⟩ := bS h
        refine .cc true rfl rfl (C_r07_Copy _ _ _ hv8) ent_r07_Copy rfl rfl rfl rfl (g_cons (g_pl rfl rfl) g_nil) rfl rfl ?_
        refine .seg tabOk 3 2 [1, 25, 27] [16, 400] (t := [(1, (.ptr (16, 1) 0)), (25, (.sref (400, 10) 0 v8.length 1)), (27, (.ro 1 a0.f1.length (flat E_B a0.f1)))]) (h := [(q9_0 a0), (q9_12 v8)]) (ep := 10) (by kernel_rfl) ?_
        obtain ⟨v9, hv9, h⟩ := bS h
        refine .cc true rfl rfl (C_r02_Copy _ _ _ hv9) ent_r02_Copy rfl rfl rfl rfl (g_cons (g_pl rfl rfl) g_nil) rfl rfl ?_
        refine .seg tabOk 6 3 [1, 3] [16, 48, 400, 448] (t := [(1, (.ptr (16, 1) 0)), (3, (.ptr (48, 10) 0))]) (h := [(q9_0 a0), (q9_1 v8 v9), (q9_12 v8), (q9_13 v9)]) (ep := 10) (by kernel_rfl) ?_
        refine .fin mixed [1, 3] [16, 48, 400, 448] (t := [(1, (.ptr (16, 1) 0)), (3, (.ptr (48, 10) 0))]) (h := [(q9_0 a0), (q9_1 v8 v9), (q9_12 v8), (q9_13 v9)]) (ep := 11) rfl (by kernel_rfl) rfl ?_
        refine sqN ?_
        refine .seq ?_
        refine .rgI rfl ?_
        refine .seg tabOk 0 1 [1, 3, 31] [16, 48, 400, 448] (t := [(1, (.ptr (16, 1) 0)), (3, (.ptr (48, 10) 0)), (31, (.agg [(.sref (400, 10) 0 v8.length 1), (.sref (448, 10) 0 v9.length 1)]))]) (h := [(q9_0 a0), (q9_1 v8 v9), (q9_12 v8), (q9_13 v9)]) (ep := 13) (by kernel_rfl) ?_
        obtain ⟨v10, hv10, h⟩ := bS h
        refine .cc true rfl rfl (C_simple_Write _ _ _ hv10) ent_simple_Write rfl rfl rfl rfl (g_cons (g_agg (s_row E_LSiibe v8 rfl rfl rfl rfl rfl (s_row E_B v9 rfl rfl rfl rfl rfl s_nil))) g_nil) rfl ?_
        refine .seg tabOk 2 5 [1, 3, 4, 5] [16, 48, 400, 448, 512] (t := [(1, (.ptr (16, 1) 0)), (3, (.ptr (48, 10) 0)), (q9_7 v10), (5, (vI v10.2))]) (h := [(q9_0 a0), (q9_1 v8 v9), (q9_3 v8), (q9_2 v9), (q9_5 v10)]) (ep := 14) (by kernel_rfl) ?_
        refine .fin rfl ?_
        refine sqN ?_
        refine .seq ?_
        refine .rgI rfl ?_
        refine .seg tabOk 0 1 [1, 3, 4, 5, 36] [16, 48, 400, 448, 512] (t := [(1, (.ptr (16, 1) 0)), (3, (.ptr (48, 10) 0)), (q9_7 v10), (5, (vI v10.2)), (36, (.agg [(.ro 1 a0.f0.length (flat E_LSiibe a0.f0)), (.ro 1 a0.f1.length (flat E_B a0.f1))]))]) (h := [(q9_0 a0), (q9_1 v8 v9), (q9_3 v8), (q9_2 v9), (q9_5 v10)]) (ep := 16) (by kernel_rfl) ?_
        obtain ⟨v11, hv11, h⟩ := bS h
        refine .cc true rfl rfl (C_r07_Write _ _ _ hv11) ent_r07_Write rfl rfl rfl rfl (g_cons (g_pl rfl rfl) g_nil) rfl ?_
        refine .seg tabOk 2 5 [1, 3, 4, 5, 6, 7] [16, 48, 400, 448, 512, 592] (t := [(1, (.ptr (16, 1) 0)), (3, (.ptr (48, 10) 0)), (q9_7 v10), (5, (vI v10.2)), (q9_10 v11), (7, (vI v11.2))]) (h := [(q9_0 a0), (q9_1 v8 v9), (q9_3 v8), (q9_2 v9), (q9_5 v10), (q9_9 v11)]) (ep := 17) (by kernel_rfl) ?_
        refine .fin rfl ?_
        refine sqN ?_
        refine .seq ?_
        refine .rgI rfl ?_
        refine .seg tabOk 0 2 [1, 3, 4, 5, 6, 7, 42] [16, 48, 400, 448, 512, 592] (t := [(1, (.ptr (16, 1) 0)), (3, (.ptr (48, 10) 0)), (q9_7 v10), (5, (vI v10.2)), (q9_10 v11), (7, (vI v11.2)), (42, (.sref (400, 10) 0 v8.length 1))]) (h := [(q9_0 a0), (q9_1 v8 v9), (q9_3 v8), (q9_2 v9), (q9_5 v10), (q9_9 v11)]) (ep := 19) (by kernel_rfl) ?_
        obtain ⟨v12, hv12, h⟩ := bS h
        refine .cc true rfl rfl (C_simple_Box _ _ _ hv12) ent_simple_Box rfl rfl rfl rfl (g_cons (g_rowF E_LSiibe v8 rfl rfl rfl rfl rfl) g_nil) rfl ?_
        refine .seg tabOk 3 7 [1, 3, 4, 5, 6, 7, 8, 9] [16, 48, 128, 144, 400, 448, 512, 592] (t := [(1, (.ptr (16, 1) 0)), (3, (.ptr (48, 10) 0)), (q9_7 v10), (5, (vI v10.2)), (q9_10 v11), (7, (vI v11.2)), (8, (.ptr (128, 19) 0)), (9, (.ptr (144, 19) 0))]) (h := [(q9_0 a0), (q9_1 v8 v9), (q9_6 v12), (q9_4 v12), (q9_3 v8), (q9_2 v9), (q9_5 v10), (q9_9 v11)]) (ep := 20) (by kernel_rfl) ?_
        refine .fin rfl ?_
        refine sqN ?_
        refine .seq ?_
        refine .rgI rfl ?_
        refine .seg tabOk 0 2 [1, 3, 4, 5, 6, 7, 8, 9, 48] [16, 48, 128, 144, 400, 448, 512, 592] (t := [(1, (.ptr (16, 1) 0)), (3, (.ptr (48, 10) 0)), (q9_7 v10), (5, (vI v10.2)), (q9_10 v11), (7, (vI v11.2)), (8, (.ptr (128, 19) 0)), (9, (.ptr (144, 19) 0)), (48, (.ro 1 a0.f0.length (flat E_LSiibe a0.f0)))]) (h := [(q9_0 a0), (q9_1 v8 v9), (q9_6 v12), (q9_4 v12), (q9_3 v8), (q9_2 v9), (q9_5 v10), (q9_9 v11)]) (ep := 22) (by kernel_rfl) ?_
        obtain ⟨v13, hv13, h⟩ := bS h
        refine .cc true rfl rfl (C_r07_Box _ _ _ hv13) ent_r07_Box rfl rfl rfl rfl (g_cons (g_pl rfl rfl) g_nil) rfl ?_
        refine .seg tabOk 3 7 [1, 3, 4, 5, 6, 7, 8, 9, 10, 11] [16, 48, 128, 144, 160, 176, 400, 448, 512, 592] (t := [(1, (.ptr (16, 1) 0)), (3, (.ptr (48, 10) 0)), (q9_7 v10), (5, (vI v10.2)), (q9_10 v11), (7, (vI v11.2)), (8, (.ptr (128, 19) 0)), (9, (.ptr (144, 19) 0)), (10, (.ptr (160, 22) 0)), (11, (.ptr (176, 22) 0))]) (h := [(q9_0 a0), (q9_1 v8 v9), (q9_6 v12), (q9_4 v12), (q9_11 v13), (q9_8 v13), (q9_3 v8), (q9_2 v9), (q9_5 v10), (q9_9 v11)]) (ep := 23) (by kernel_rfl) ?_
        refine .fin rfl ?_
        refine sqN ?_
        refine .seq ?_
        refine .rgI rfl ?_
        refine .seg tabOk 0 4 [1, 3, 4, 6, 8, 9, 10, 11, 55] [16, 48, 128, 144, 160, 176, 400, 448, 512, 592] (t := [(1, (.ptr (16, 1) 0)), (3, (.ptr (48, 10) 0)), (q9_7 v10), (q9_10 v11), (8, (.ptr (128, 19) 0)), (9, (.ptr (144, 19) 0)), (10, (.ptr (160, 22) 0)), (11, (.ptr (176, 22) 0)), (55, (.val (.bool (decide (v10.2 = v11.2)))))]) (h := [(q9_0 a0), (q9_1 v8 v9), (q9_6 v12), (q9_4 v12), (q9_11 v13), (q9_8 v13), (q9_3 v8), (q9_2 v9), (q9_5 v10), (q9_9 v11)]) (ep := 25) (by kernel_rfl) ?_
        cases hB14 : (decide (v10.2 = v11.2)) with
        | false =>
          have h := iF h hB14
          refine .seg tabOk 4 29 [2] [] (t := [(2, (.val (.bool false)))]) (h := []) (ep := 26) (by kernel_rfl) ?_
          refine .fin rfl ?_
          refine sqN ?_
          refine .ret ?_
          injection h with h
          subst h
          exact ⟨.inr rfl, _, _, rfl, List.nodup_nil, rfl, rfl⟩
        | true =>
          have h := iT h hB14
          refine .seg tabOk 4 2 [1, 3, 8, 9, 10, 11, 55, 56, 57] [16, 48, 128, 144, 160, 176, 400, 448, 512, 592] (t := [(1, (.ptr (16, 1) 0)), (3, (.ptr (48, 10) 0)), (8, (.ptr (128, 19) 0)), (9, (.ptr (144, 19) 0)), (10, (.ptr (160, 22) 0)), (11, (.ptr (176, 22) 0)), (55, (.val (.bool true))), (56, (.sref (512, 13) 0 v10.1.length 1)), (57, (.sref (592, 16) 0 v11.1.length 1))]) (h := [(q9_0 a0), (q9_1 v8 v9), (q9_6 v12), (q9_4 v12), (q9_11 v13), (q9_8 v13), (q9_3 v8), (q9_2 v9), (q9_5 v10), (q9_9 v11)]) (ep := 26) (by kernel_rfl) ?_
          obtain ⟨v15, hv15, h⟩ := bS h
          refine .cc false rfl rfl (C_r02_Same _ _ _ _ hv15) ent_r02_Same rfl rfl rfl rfl (g_cons (g_row E_B v10.1 rfl rfl rfl rfl rfl) (g_cons (g_row E_B v11.1 rfl rfl rfl rfl rfl) g_nil)) rfl ?_
          refine .seg tabOk 7 2 [1, 3, 8, 9, 10, 11, 60] [16, 48, 128, 144, 160, 176, 400, 448] (t := [(1, (.ptr (16, 1) 0)), (3, (.ptr (48, 10) 0)), (8, (.ptr (128, 19) 0)), (9, (.ptr (144, 19) 0)), (10, (.ptr (160, 22) 0)), (11, (.ptr (176, 22) 0)), (60, (.val (.bool v15)))]) (h := [(q9_0 a0), (q9_1 v8 v9), (q9_6 v12), (q9_4 v12), (q9_11 v13), (q9_8 v13), (q9_3 v8), (q9_2 v9)]) (ep := 27) (by kernel_rfl) ?_
          cases hB16 : v15 with
          | false =>
            have h := iF h hB16
            refine .seg tabOk 9 24 [2] [] (t := [(2, (.val (.bool false)))]) (h := []) (ep := 28) (by kernel_rfl) ?_
            refine .fin rfl ?_
            refine sqN ?_
            refine .ret ?_
            injection h with h
            subst h
            exact ⟨.inr rfl, _, _, rfl, List.nodup_nil, rfl, rfl⟩
          | true =>
            have h := iT h hB16
            refine .seg tabOk 9 5 [1, 3, 9, 11, 65] [16, 48, 144, 176, 400, 448] (t := [(1, (.ptr (16, 1) 0)), (3, (.ptr (48, 10) 0)), (9, (.ptr (144, 19) 0)), (11, (.ptr (176, 22) 0)), (65, (.val (.bool ((decide (v12.1.f0 = v13.1.f0)) && ((decide (v12.1.f1 = v13.1.f1)) && true)))))]) (h := [(q9_0 a0), (q9_1 v8 v9), (q9_4 v12), (q9_8 v13), (q9_3 v8), (q9_2 v9)]) (ep := 28) (by kernel_rfl) ?_
            cases hB17 : ((decide (v12.1.f0 = v13.1.f0)) && ((decide (v12.1.f1 = v13.1.f1)) && true)) with
            | false =>
              have h := iF h hB17
              refine .seg tabOk 14 19 [2] [] (t := [(2, (.val (.bool false)))]) (h := []) (ep := 29) (by kernel_rfl) ?_
              refine .fin rfl ?_
              refine sqN ?_
              refine .ret ?_
              injection h with h
              subst h
              exact ⟨.inr rfl, _, _, rfl, List.nodup_nil, rfl, rfl⟩
            | true =>
              have h := iT h hB17
              refine .seg tabOk 14 5 [1, 3, 70] [16, 48, 400, 448] (t := [(1, (.ptr (16, 1) 0)), (3, (.ptr (48, 10) 0)), (70, (.val (.bool ((decide (v12.2.f0 = v13.2.f0)) && ((decide (v12.2.f1 = v13.2.f1)) && true)))))]) (h := [(q9_0 a0), (q9_1 v8 v9), (q9_3 v8), (q9_2 v9)]) (ep := 29) (by kernel_rfl) ?_
              cases hB18 : ((decide (v12.2.f0 = v13.2.f0)) && ((decide (v12.2.f1 = v13.2.f1)) && true)) with
              | false =>
                have h := iF h hB18
                refine .seg tabOk 19 14 [2] [] (t := [(2, (.val (.bool false)))]) (h := []) (ep := 30) (by kernel_rfl) ?_
                refine .fin rfl ?_
                refine sqN ?_
                refine .ret ?_
                injection h with h
                subst h
                exact ⟨.inr rfl, _, _, rfl, List.nodup_nil, rfl, rfl⟩
              | true =>
                have h := iT h hB18
                refine .seg tabOk 19 4 [1, 3, 70, 72, 74] [16, 48, 400, 448] (t := [(1, (.ptr (16, 1) 0)), (3, (.ptr (48, 10) 0)), (70, (.val (.bool true))), (72, (.sref (400, 10) 0 v8.length 1)), (74, (.ro 1 a0.f0.length (flat E_LSiibe a0.f0)))]) (h := [(q9_0 a0), (q9_1 v8 v9), (q9_3 v8), (q9_2 v9)]) (ep := 30) (by kernel_rfl) ?_
                obtain ⟨v19, hv19, h⟩ := bS h
                refine .cc true rfl rfl (C_r07_Same _ _ _ _ hv19) ent_r07_Same rfl rfl rfl rfl (g_cons (g_rowF E_LSiibe v8 rfl rfl rfl rfl rfl) (g_cons (g_pl rfl rfl) g_nil)) rfl ?_
                refine .seg tabOk 24 2 [1, 3, 77] [16, 48, 400, 448] (t := [(1, (.ptr (16, 1) 0)), (3, (.ptr (48, 10) 0)), (77, (.val (.bool v19)))]) (h := [(q9_0 a0), (q9_1 v8 v9), (q9_3 v8), (q9_2 v9)]) (ep := 31) (by kernel_rfl) ?_
                cases hB20 : v19 with
                | false =>
                  have h := iF h hB20
                  refine .seg tabOk 26 7 [2] [] (t := [(2, (.val (.bool false)))]) (h := []) (ep := 32) (by kernel_rfl) ?_
                  refine .fin rfl ?_
                  refine sqN ?_
                  refine .ret ?_
                  injection h with h
                  subst h
                  exact ⟨.inr rfl, _, _, rfl, List.nodup_nil, rfl, rfl⟩
                | true =>
                  have h := iT h hB20
                  refine .seg tabOk 26 4 [77, 79, 81] [448] (t := [(77, (.val (.bool true))), (79, (.sref (448, 10) 0 v9.length 1)), (81, (.ro 1 a0.f1.length (flat E_B a0.f1)))]) (h := [(q9_2 v9)]) (ep := 32) (by kernel_rfl) ?_
                  obtain ⟨v21, hv21, h⟩ := bS h
                  refine .cc true rfl rfl (C_r02_Same _ _ _ _ hv21) ent_r02_Same rfl rfl rfl rfl (g_cons (g_rowF E_B v9 rfl rfl rfl rfl rfl) (g_cons (g_pl rfl rfl) g_nil)) rfl ?_
                  refine .seg tabOk 31 2 [2] [] (t := [(2, (.val (.bool v21)))]) (h := []) (ep := 33) (by kernel_rfl) ?_
                  refine .fin rfl ?_
                  refine sqN ?_
                  refine .ret ?_
                  injection h with h
                  subst h
                  exact ⟨.inr rfl, _, _, rfl, List.nodup_nil, rfl, rfl⟩
end Go.Proofs.Ytgkekjfbacncoaa
