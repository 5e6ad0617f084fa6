/- What the shallow functions answer: plain lemmas on numbers and lists. -/
import Derived.Test.YtgkekjfbacncoaaKG8F2
import Derived.Test.YtgkekjfbacncoaaKG8R
import Derived.Test.YtgkekjfbacncoaaKAb2
import Derived.KernelRfl
set_option linter.unusedSimpArgs false
set_option linter.unusedVariables false
open Go Go.Ab
namespace Go.Proofs.Ytgkekjfbacncoaa
theorem there_t {b : List Int} {at_ w : Int} (h0 : 0 ≤ at_) (h1 : 0 ≤ w) (h2 : at_ + w ≤ (b.length : Int)) (hb : b.length ≤ 140737488351232) (n : Nat) : F_be_there n b at_ w = some true := by
  have e : w64 ((b.length : Int) - at_) = (b.length : Int) - at_ := w64_of (by omega) (by omega)
  simp only [F_be_there, e]
  rw [decide_eq_true h0, decide_eq_true h1, decide_eq_true (show at_ ≤ (b.length : Int) by omega), decide_eq_true (show w ≤ (b.length : Int) - at_ by omega)]; rfl
theorem there_f {b : List Int} {at_ w : Int} (h0 : 0 ≤ at_) (h1 : 0 ≤ w) (h3 : at_ ≤ (b.length : Int)) (h2 : (b.length : Int) < at_ + w) (hb : b.length ≤ 140737488351232) (n : Nat) : F_be_there n b at_ w = some false := by
  have e : w64 ((b.length : Int) - at_) = (b.length : Int) - at_ := w64_of (by omega) (by omega)
  simp only [F_be_there, e]
  rw [decide_eq_true h0, decide_eq_true h1, decide_eq_true h3, decide_eq_false (show ¬ w ≤ (b.length : Int) - at_ by omega)]; rfl
theorem L_be_U {a0 : List Int} {a1 a2 : Int} {j : Int → Option R_be_U} {s : List Int} {r : R_be_U} (hs : slc a0 a1 (w64 (a1 + a2)) = s) (hb : Bytes s) (hl : s.length ≤ 4) (hj : j (beU s) = some r) :
    ∀ (t p : List Int), s = p ++ t → Ev (fun n => L_be_U_0 a0 a1 a2 j n (p.length : Int) (beU p)) r
  | [], p, h => .succ (by
      simp only [L_be_U_0, hs]
      have : s = p := by simpa using h
      subst this
      refine .e (by simp) ?_
      exact .all fun _ => hj)
  | c :: t, p, h => .succ (by
      simp only [L_be_U_0, hs]
      have hlen : s.length = p.length + (t.length + 1) := by rw [h]; simp
      refine .t (by simp; omega) (.gd (by omega) ?_)
      have hp : Bytes p := (h ▸ hb).left
      have hc : 0 ≤ c ∧ c < 256 := hb c (by rw [h]; simp)
      have hbd := beU_bound hp
      have hp3 : (256 : Int) ^ p.length ≤ 16777216 := by
        have : p.length ≤ 3 := by omega
        match hh : p.length, this with
        | 0, _ => decide
        | 1, _ => decide
        | 2, _ => decide
        | 3, _ => decide
      have e1 : w64 ((p.length : Int) + 1) = (((p ++ [c]).length : Nat) : Int) := by rw [w64_of (by omega) (by omega)]; simp
      have e2 : nth E_B s (p.length : Int) = c := nth_app' h rfl
      have e3 : bits .or .i64 (w64 (beU p * 2 ^ 8)) (w64 c) = beU (p ++ [c]) := by
        rw [w64_of (x := beU p * 2 ^ 8) (by omega) (by omega), w64_of (x := c) (by omega) (by omega), beU_snoc]
        rw [bits_join .i64 62 (by decide) wraps_i64 8 _ _ (by omega) (by omega) (by omega) hc.1 (by omega) (by omega)]
        omega
      rw [e1, e2, e3]
      exact L_be_U hs hb hl hj t (p ++ [c]) (by rw [h]; simp))
theorem be_U_ok {b x y z : List Int} {at_ w : Int} (hb : Bytes b) (hbl : b.length ≤ 140737488351232) (h : b = x ++ (y ++ z)) (ha : at_ = (x.length : Int)) (hw : w = (y.length : Int)) (h1 : 1 ≤ y.length) (h4 : y.length ≤ 4) :
    Ev (fun n => F_be_U n b at_ w) (beU y, 0) := by
  have hlen : b.length = x.length + (y.length + z.length) := by rw [h]; simp
  have e : w64 (at_ + w) = at_ + w := w64_of (by omega) (by omega)
  have hs : slc b at_ (w64 (at_ + w)) = y := by rw [e]; exact slc_eq h ha (by omega)
  simp only [F_be_U]
  refine .e (by simp; omega) (.bind (.all (there_t (by omega) (by omega) (by omega) hbl)) (.e rfl (.gd ?_ (.lj ?_))))
  · rw [e]; omega
  · have := L_be_U (j := fun x11 => some (x11, 0)) hs (by rw [h] at hb; exact hb.right.left) h4 rfl y [] rfl
    exact this
theorem be_U_short {b : List Int} {at_ w : Int} (hbl : b.length ≤ 140737488351232) (h0 : 0 ≤ at_) (h3 : at_ ≤ (b.length : Int)) (h2 : (b.length : Int) < at_ + w) (h1 : 1 ≤ w) (h4 : w ≤ 4) :
    Ev (fun n => F_be_U n b at_ w) (0, 3) := by
  simp only [F_be_U]
  exact .e (by simp; omega) (.bind (.all (there_f h0 (by omega) h3 h2 hbl)) (.t rfl (.ret _)))
theorem sgn1 {v : Int} (h0 : 0 ≤ v) (h1 : v < 256) : Int.fdiv (w64 (v * 2 ^ 56)) (2 ^ 56) = if 2 * v ≥ 256 then v - 256 else v := by
  rw [Int.fdiv_eq_ediv_of_nonneg _ (by decide), w64_def]; split <;> omega
theorem sgn2 {v : Int} (h0 : 0 ≤ v) (h1 : v < 65536) : Int.fdiv (w64 (v * 2 ^ 48)) (2 ^ 48) = if 2 * v ≥ 65536 then v - 65536 else v := by
  rw [Int.fdiv_eq_ediv_of_nonneg _ (by decide), w64_def]; split <;> omega
theorem be_S_ok {b x y z : List Int} {at_ w : Int} (hb : Bytes b) (hbl : b.length ≤ 140737488351232) (h : b = x ++ (y ++ z)) (ha : at_ = (x.length : Int)) (hw : w = (y.length : Int)) (h1 : y.length = 1 ∨ y.length = 2) :
    Ev (fun n => F_be_S n b at_ w) (beS y, 0) := by
  have hy : Bytes y := by rw [h] at hb; exact hb.right.left
  have hbd := beU_bound hy
  simp only [F_be_S]
  refine .bind (be_U_ok hb hbl h ha hw (by omega) (by omega)) (.e rfl ?_)
  rcases h1 with h1 | h1 <;> rw [h1] at hbd <;> subst hw <;> rw [h1]
  · refine .gd (by decide) (.gd (by decide) (.ret' ?_))
    have := sgn1 hbd.1 (by simpa using hbd.2)
    show (Int.fdiv (w64 (beU y * 2 ^ 56)) (2 ^ 56), (0 : Int)) = _
    rw [this]; unfold beS; rw [h1]; rfl
  · refine .gd (by decide) (.gd (by decide) (.ret' ?_))
    have := sgn2 hbd.1 (by simpa using hbd.2)
    show (Int.fdiv (w64 (beU y * 2 ^ 48)) (2 ^ 48), (0 : Int)) = _
    rw [this]; unfold beS; rw [h1]; rfl
theorem be_S_short {b : List Int} {at_ w : Int} (hbl : b.length ≤ 140737488351232) (h0 : 0 ≤ at_) (h3 : at_ ≤ (b.length : Int)) (h2 : (b.length : Int) < at_ + w) (h1 : 1 ≤ w) (h4 : w ≤ 4) :
    Ev (fun n => F_be_S n b at_ w) (0, 3) := by
  simp only [F_be_S]
  exact .bind (be_U_short hbl h0 h3 h2 h1 h4) (.t rfl (.ret _))
theorem be_Cut_ok {b x y z : List Int} {at_ w : Int} (hbl : b.length ≤ 140737488351232) (h : b = x ++ (y ++ z)) (ha : at_ = (x.length : Int)) (hw : w = (y.length : Int)) : Ev (fun n => F_be_Cut n b at_ w) (y, 0) := by
  have hlen : b.length = x.length + (y.length + z.length) := by rw [h]; simp
  have e : w64 (at_ + w) = at_ + w := w64_of (by omega) (by omega)
  have hs : slc b at_ (w64 (at_ + w)) = y := by rw [e]; exact slc_eq h ha (by omega)
  simp only [F_be_Cut, hs]
  refine .bind (.all (there_t (by omega) (by omega) (by omega) hbl)) (.e rfl (.gd (by rw [e]; omega) (.gd ?_ (.ret' (by simp)))))
  simp [fits]; omega
theorem be_Cut_short {b : List Int} {at_ w : Int} (hbl : b.length ≤ 140737488351232) (h0 : 0 ≤ at_) (h3 : at_ ≤ (b.length : Int)) (h1 : 0 ≤ w) (h2 : (b.length : Int) < at_ + w) : Ev (fun n => F_be_Cut n b at_ w) ([], 3) := by
  simp only [F_be_Cut]
  exact .bind (.all (there_f h0 h1 h3 h2 hbl)) (.t rfl (.ret _))
theorem be_Put1 (v : Int) : Ev (fun n => F_be_Put n v 1) (put1 v) := by
  refine .from 3 fun n => ?_
  simp [F_be_Put, L_be_Put_0, gd, lj, fits, w64_def, IntKind.wrap_u8, put1, E_B]
theorem be_Put2 (v : Int) : Ev (fun n => F_be_Put n v 2) (put2 v) := by
  refine .from 4 fun n => ?_
  simp [F_be_Put, L_be_Put_0, gd, lj, fits, w64_def, IntKind.wrap_u8, put2, E_B, Int.fdiv_eq_ediv_of_nonneg]
end Go.Proofs.Ytgkekjfbacncoaa
set_option linter.unusedSimpArgs false
set_option linter.unusedVariables false
open Go Go.Ab
namespace Go.Proofs.Ytgkekjfbacncoaa
theorem There_t {b : List Int} {at_ w : Int} (h0 : 0 ≤ at_) (h1 : 0 ≤ w) (h2 : at_ + w ≤ (b.length : Int)) (hb : b.length ≤ 140737488351232) (n : Nat) : F_r02_There n b at_ w = some true := by
  have e : w64 ((b.length : Int) - at_) = (b.length : Int) - at_ := w64_of (by omega) (by omega)
  simp only [F_r02_There, e]
  rw [decide_eq_true h0, decide_eq_true h1, decide_eq_true (show at_ ≤ (b.length : Int) by omega), decide_eq_true (show w ≤ (b.length : Int) - at_ by omega)]; rfl
theorem There_f {b : List Int} {at_ w : Int} (h0 : 0 ≤ at_) (h1 : 0 ≤ w) (h3 : at_ ≤ (b.length : Int)) (h2 : (b.length : Int) < at_ + w) (hb : b.length ≤ 140737488351232) (n : Nat) : F_r02_There n b at_ w = some false := by
  have e : w64 ((b.length : Int) - at_) = (b.length : Int) - at_ := w64_of (by omega) (by omega)
  simp only [F_r02_There, e]
  rw [decide_eq_true h0, decide_eq_true h1, decide_eq_true h3, decide_eq_false (show ¬ w ≤ (b.length : Int) - at_ by omega)]; rfl
theorem L_r02_U {a0 x y z : List Int} {a1 a2 : Int} {j : Int → Option R_r02_U} {r : R_r02_U} (hb : Bytes y) (hbl : a0.length ≤ 140737488351232) (h : a0 = x ++ (y ++ z)) (ha : a1 = (x.length : Int)) (hw : a2 = (y.length : Int)) (h4 : y.length ≤ 4) (hj : j (beU y) = some r) :
    ∀ (t p : List Int), y = p ++ t → Ev (fun n => L_r02_U_0 a0 a1 a2 j n (beU p) ((x.length : Int) + (p.length : Int))) r
  | [], p, hp => .succ (by
      have hlen : a0.length = x.length + (y.length + z.length) := by rw [h]; simp
      simp only [L_r02_U_0]
      have : y = p := by simpa using hp
      subst this
      refine .e (by rw [w64_of (by omega) (by omega)]; simp; omega) ?_
      exact .all fun _ => hj)
  | c :: t, p, hp => .succ (by
      have hlen : a0.length = x.length + (y.length + z.length) := by rw [h]; simp
      have hly : y.length = p.length + (t.length + 1) := by rw [hp]; simp
      simp only [L_r02_U_0]
      refine .t (by rw [w64_of (by omega) (by omega)]; simp; omega) (.gd (by omega) ?_)
      have hpb : Bytes p := (hp ▸ hb).left
      have hc : 0 ≤ c ∧ c < 256 := hb c (by rw [hp]; simp)
      have hbd := beU_bound hpb
      have hp3 : (256 : Int) ^ p.length ≤ 16777216 := by
        have : p.length ≤ 3 := by omega
        match hh : p.length, this with
        | 0, _ => decide
        | 1, _ => decide
        | 2, _ => decide
        | 3, _ => decide
      have e1 : w64 (((x.length : Int) + (p.length : Int)) + 1) = (x.length : Int) + (((p ++ [c]).length : Nat) : Int) := by rw [w64_of (by omega) (by omega)]; simp; omega
      have e2 : nth E_B a0 ((x.length : Int) + (p.length : Int)) = c := nth_app' (p := x ++ p) (t := t ++ z) (by rw [h, hp]; simp) (by simp)
      have e3 : w64 (w64 (256 * beU p) + w64 c) = beU (p ++ [c]) := by
        rw [w64_of (x := 256 * beU p) (by omega) (by omega), w64_of (x := c) (by omega) (by omega), beU_snoc, w64_of (by omega) (by omega)]
      rw [e1, e2, e3]
      exact L_r02_U hb hbl h ha hw h4 hj t (p ++ [c]) (by rw [hp]; simp))
theorem r02_U_ok {b x y z : List Int} {at_ w : Int} (hb : Bytes b) (hbl : b.length ≤ 140737488351232) (h : b = x ++ (y ++ z)) (ha : at_ = (x.length : Int)) (hw : w = (y.length : Int)) (h1 : 1 ≤ y.length) (h4 : y.length ≤ 4) :
    Ev (fun n => F_r02_U n b at_ w) (beU y, 0) := by
  have hlen : b.length = x.length + (y.length + z.length) := by rw [h]; simp
  simp only [F_r02_U]
  refine .e (by simp; omega) (.bind (.all (There_t (by omega) (by omega) (by omega) hbl)) (.e rfl (.lj ?_)))
  have := L_r02_U (j := fun x11 => some (x11, 0)) (by rw [h] at hb; exact hb.right.left) hbl h ha hw h4 rfl y [] rfl
  subst ha
  rw [show beU [] = 0 from rfl] at this
  simpa using this
theorem r02_U_short {b : List Int} {at_ w : Int} (hbl : b.length ≤ 140737488351232) (h0 : 0 ≤ at_) (h3 : at_ ≤ (b.length : Int)) (h2 : (b.length : Int) < at_ + w) (h1 : 1 ≤ w) (h4 : w ≤ 4) :
    Ev (fun n => F_r02_U n b at_ w) (0, 3) := by
  simp only [F_r02_U]
  exact .e (by simp; omega) (.bind (.all (There_f h0 (by omega) h3 h2 hbl)) (.t rfl (.ret _)))
theorem r02_S_ok {b x y z : List Int} {at_ w : Int} (hb : Bytes b) (hbl : b.length ≤ 140737488351232) (h : b = x ++ (y ++ z)) (ha : at_ = (x.length : Int)) (hw : w = (y.length : Int)) (h1 : y.length = 1 ∨ y.length = 2) :
    Ev (fun n => F_r02_S n b at_ w) (beS y, 0) := by
  have hy : Bytes y := by rw [h] at hb; exact hb.right.left
  have hbd := beU_bound hy
  simp only [F_r02_S]
  refine .bind (r02_U_ok hb hbl h ha hw (by omega) (by omega)) (.e rfl (.lj ?_))
  rcases h1 with h1 | h1 <;> rw [h1] at hbd <;> subst hw <;> rw [h1]
  · refine .from 2 fun n => ?_
    simp only [L_r02_S_0]
    have e1 : w64 (0 + 1) = 1 := by decide
    have e2 : w64 (1 * 256) = 256 := by decide
    have e3 : w64 (2 * beU y) = 2 * beU y := w64_of (by omega) (by omega)
    have e4 : w64 (beU y - 256) = beU y - 256 := w64_of (by omega) (by omega)
    simp [e1, e2, e3, e4, beS, h1, show w64 1 = 1 from rfl, show w64 256 = 256 from rfl]
  · refine .from 3 fun n => ?_
    simp only [L_r02_S_0]
    have e0 : w64 (0 + 1) = 1 := by decide
    have e1 : w64 (1 + 1) = 2 := by decide
    have e2 : w64 (1 * 256) = 256 := by decide
    have e2' : w64 (256 * 256) = 65536 := by decide
    have e3 : w64 (2 * beU y) = 2 * beU y := w64_of (by omega) (by omega)
    have e4 : w64 (beU y - 65536) = beU y - 65536 := w64_of (by omega) (by omega)
    simp [e0, e1, e2, e2', e3, e4, beS, h1, show w64 1 = 1 from rfl, show w64 256 = 256 from rfl, show w64 2 = 2 from rfl, show w64 65536 = 65536 from rfl]
theorem r02_S_short {b : List Int} {at_ w : Int} (hbl : b.length ≤ 140737488351232) (h0 : 0 ≤ at_) (h3 : at_ ≤ (b.length : Int)) (h2 : (b.length : Int) < at_ + w) (h1 : 1 ≤ w) (h4 : w ≤ 4) :
    Ev (fun n => F_r02_S n b at_ w) (0, 3) := by
  simp only [F_r02_S]
  exact .bind (r02_U_short hbl h0 h3 h2 h1 h4) (.t rfl (.ret _))
theorem r02_Copy {b : List Int} (hbl : b.length ≤ 140737488351232) : Ev (fun n => F_r02_Copy n b) b := by
  simp only [F_r02_Copy]
  refine .gd ?_ (.ret' (by simp))
  simp [fits]; omega
theorem r02_Cut_ok {b x y z : List Int} {at_ w : Int} (hbl : b.length ≤ 140737488351232) (h : b = x ++ (y ++ z)) (ha : at_ = (x.length : Int)) (hw : w = (y.length : Int)) : Ev (fun n => F_r02_Cut n b at_ w) (y, 0) := by
  have hlen : b.length = x.length + (y.length + z.length) := by rw [h]; simp
  have e : w64 (at_ + w) = at_ + w := w64_of (by omega) (by omega)
  have hs : slc b at_ (w64 (at_ + w)) = y := by rw [e]; exact slc_eq h ha (by omega)
  simp only [F_r02_Cut, hs]
  exact .bind (.all (There_t (by omega) (by omega) (by omega) hbl)) (.e rfl (.gd (by rw [e]; omega) (.bind (r02_Copy (by omega)) (.ret _))))
theorem r02_Cut_short {b : List Int} {at_ w : Int} (hbl : b.length ≤ 140737488351232) (h0 : 0 ≤ at_) (h3 : at_ ≤ (b.length : Int)) (h1 : 0 ≤ w) (h2 : (b.length : Int) < at_ + w) : Ev (fun n => F_r02_Cut n b at_ w) ([], 3) := by
  simp only [F_r02_Cut]
  exact .bind (.all (There_f h0 h1 h3 h2 hbl)) (.t rfl (.ret _))
theorem r02_Same {a b : List Int} (ha : Bytes a) (hb : Bytes b) : Ev (fun n => F_r02_Same n a b) (decide (a = b)) := by
  simp only [F_r02_Same]
  exact .ret' (bstr_eq ha hb)
theorem r02_Put1 (v : Int) : Ev (fun n => F_r02_Put n v 1) (put1 v) := by
  refine .from 3 fun n => ?_
  have h : 0 ≤ v % 18446744073709551616 := Int.emod_nonneg _ (by decide)
  simp [F_r02_Put, L_r02_Put_0, gd, lj, fits, w64_def, IntKind.wrap_u8, put1, E_B, wrap_u64, Int.tmod_eq_emod_of_nonneg h]
theorem r02_Put2 (v : Int) : Ev (fun n => F_r02_Put n v 2) (put2 v) := by
  refine .from 4 fun n => ?_
  have h : 0 ≤ v % 18446744073709551616 := Int.emod_nonneg _ (by decide)
  have h2 : 0 ≤ v % 18446744073709551616 / 256 := by omega
  have h3 : 0 ≤ v % 18446744073709551616 / 256 % 18446744073709551616 := by omega
  simp [F_r02_Put, L_r02_Put_0, gd, lj, fits, w64_def, IntKind.wrap_u8, put2, E_B, wrap_u64, Int.tmod_eq_emod_of_nonneg h, Int.tdiv_eq_ediv_of_nonneg h, Int.tmod_eq_emod_of_nonneg h3]
  omega
end Go.Proofs.Ytgkekjfbacncoaa
set_option linter.unusedSimpArgs false
set_option linter.unusedVariables false
open Go Go.Ab
namespace Go.Proofs.Ytgkekjfbacncoaa
def Rel (b : List Int) (st : T_SLBiie) (s : Sx) : Prop :=
  st.f0 = b ∧ match s with
    | .ok r => st.f2 = 0 ∧ ∃ pre, b = pre ++ r ∧ st.f1 = (pre.length : Int)
    | .error e => st.f2 = e ∧ e ≠ 0
section
variable {b : List Int} (hb : Bytes b) (hbl : b.length ≤ 140737488351232)
include hb hbl
theorem s_rel {w : Nat} (hw : w = 1 ∨ w = 2) {wi : Int} (hwi : wi = (w : Int)) {st : T_SLBiie} {s : Sx} (hr : Rel b st s) :
    ∃ st', Ev (fun n => F_compo_reader_s n st wi) ((rd w s).1, st') ∧ Rel b st' (rd w s).2 := by
  obtain ⟨h0, h1⟩ := hr
  subst hwi
  cases s with
  | error e =>
    refine ⟨st, ?_, h0, h1⟩
    simp only [F_compo_reader_s]
    exact .t (by simp; rw [h1.1]; exact h1.2) (.ret _)
  | ok r =>
    obtain ⟨h2, pre, h3, h4⟩ := h1
    have hlen : b.length = pre.length + r.length := by rw [h3]; simp
    simp only [F_compo_reader_s, rd]
    by_cases hs : r.length < w
    · simp only [hs, if_true]
      refine ⟨⟨st.f0, w64 (st.f1 + w), 3⟩, .e (by simp [h2]) (.bind (v := (0, 3)) ?_ (.ret _)), h0, rfl, by decide⟩
      rw [h0, h4]
      exact be_S_short hbl (by omega) (by omega) (by omega) (by omega) (by omega)
    · simp only [hs, if_false]
      have hy : (r.take w).length = w := by rw [List.length_take]; omega
      refine ⟨⟨st.f0, w64 (st.f1 + w), 0⟩, .e (by simp [h2]) (.bind (v := (beS (r.take w), 0)) ?_ (.ret _)), h0, rfl, pre ++ r.take w, ?_, ?_⟩
      · rw [h0, h4]
        exact be_S_ok (x := pre) (y := r.take w) (z := r.drop w) hb hbl (by rw [List.take_append_drop]; exact h3) rfl (by rw [hy]) (by rw [hy]; exact hw)
      · rw [List.append_assoc, List.take_append_drop]; exact h3
      · simp only [List.length_append, hy, h4]
        rw [w64_of (by omega) (by omega)]; simp
theorem rs_rel {w : Nat} (hw : w = 1 ∨ w = 2) {wi : Int} (hwi : wi = (w : Int)) {st : T_SLBiie} {s : Sx} (hr : Rel b st s) :
    ∃ st', Ev (fun n => F_r08_reader_s n st wi) ((rd w s).1, st') ∧ Rel b st' (rd w s).2 := by
  obtain ⟨h0, h1⟩ := hr
  subst hwi
  cases s with
  | error e =>
    refine ⟨st, ?_, h0, h1⟩
    simp only [F_r08_reader_s]
    exact .t (by simp; rw [h1.1]; exact h1.2) (.ret _)
  | ok r =>
    obtain ⟨h2, pre, h3, h4⟩ := h1
    have hlen : b.length = pre.length + r.length := by rw [h3]; simp
    simp only [F_r08_reader_s, rd]
    by_cases hs : r.length < w
    · simp only [hs, if_true]
      refine ⟨⟨st.f0, st.f1, 3⟩, .e (by simp [h2]) (.bind (v := (0, 3)) ?_ (.t rfl (.ret _))), h0, rfl, by decide⟩
      rw [h0, h4]
      exact r02_S_short hbl (by omega) (by omega) (by omega) (by omega) (by omega)
    · simp only [hs, if_false]
      have hy : (r.take w).length = w := by rw [List.length_take]; omega
      refine ⟨⟨st.f0, w64 (st.f1 + w), st.f2⟩, .e (by simp [h2]) (.bind (v := (beS (r.take w), 0)) ?_ (.e rfl (.ret _))), h0, h2, pre ++ r.take w, ?_, ?_⟩
      · rw [h0, h4]
        exact r02_S_ok (x := pre) (y := r.take w) (z := r.drop w) hb hbl (by rw [List.take_append_drop]; exact h3) rfl (by rw [hy]) (by rw [hy]; exact hw)
      · rw [List.append_assoc, List.take_append_drop]; exact h3
      · simp only [List.length_append, hy, h4]
        rw [w64_of (by omega) (by omega)]; simp
omit hbl in
theorem Rel.bytes {st : T_SLBiie} {r : List Int} (hr : Rel b st (.ok r)) : Bytes r := by
  obtain ⟨_, _, pre, h3, _⟩ := hr
  rw [h3] at hb; exact hb.right
omit hbl in
theorem rdU_rd {st : T_SLBiie} {s : Sx} (hr : Rel b st s) : (rdU 2 s).2 = (rd 2 s).2 ∧ (rd 2 s).1 % 65536 = (rdU 2 s).1 ∧ 0 ≤ (rdU 2 s).1 ∧ (rdU 2 s).1 < 65536 := by
  cases s with
  | error e => simp [rd, rdU]
  | ok r =>
    simp only [rd, rdU]
    split
    · simp
    · rename_i h
      have hl : (r.take 2).length = 2 := by rw [List.length_take]; omega
      have hy : Bytes (r.take 2) := (Rel.bytes hb hr).take 2
      have := beU_bound hy
      rw [hl] at this
      exact ⟨rfl, beS_mod2 hy hl, this.1, by simpa using this.2⟩
theorem u_rel {st : T_SLBiie} {s : Sx} (hr : Rel b st s) : ∃ st', Ev (fun n => F_compo_reader_u n st) ((rdU 2 s).1, st') ∧ Rel b st' (rdU 2 s).2 := by
  obtain ⟨h1, h2, h3, h4⟩ := rdU_rd hb hr
  obtain ⟨st', h5, h6⟩ := s_rel hb hbl (.inr rfl) (wi := 2) rfl hr
  refine ⟨st', ?_, by rw [h1]; exact h6⟩
  simp only [F_compo_reader_u]
  refine .bind h5 (.ret' ?_)
  have := bits_and_mask 16 (by decide) (rd 2 s).1
  simp only at this ⊢
  rw [← h2]; congr 1
theorem ru_rel {st : T_SLBiie} {s : Sx} (hr : Rel b st s) : ∃ st', Ev (fun n => F_r08_reader_u n st) ((rdU 2 s).1, st') ∧ Rel b st' (rdU 2 s).2 := by
  obtain ⟨h1, h2, h3, h4⟩ := rdU_rd hb hr
  obtain ⟨st', h5, h6⟩ := rs_rel hb hbl (.inr rfl) (wi := 2) rfl hr
  refine ⟨st', ?_, by rw [h1]; exact h6⟩
  have hbd : -65536 ≤ (rd 2 s).1 ∧ (rd 2 s).1 < 65536 := by
    cases s with
    | error e => simp [rd]
    | ok r =>
      simp only [rd, rdU] at h3 h4 ⊢
      split at h3
      · rename_i h; simp [h]
      · rename_i h
        simp only [h, if_false] at h4 ⊢
        have hl : (r.take 2).length = 2 := by rw [List.length_take]; omega
        unfold beS; rw [hl]; split <;> omega
  simp only [F_r08_reader_u]
  refine .bind h5 (.ite (fun h => .ret' ?_) fun h => .ret' ?_)
  · simp only [decide_eq_true_eq] at h
    rw [w64_of (by omega) (by omega)]; congr 1; omega
  · simp only [decide_eq_false_iff_not] at h
    congr 1; omega
end
/-! ### one part -/
def flag2 (f : Int) : Sx → Sx
  | .ok r => if f / 2 % 2 = 0 then .error 9 else .ok r
  | e => e
def turnS (f : Int) (s : Sx) : T_A4i × Sx :=
  if f / 8 % 2 = 1 then (⟨(rd 2 s).1, 0, 0, (rd 2 s).1⟩, (rd 2 s).2)
  else if f / 64 % 2 = 1 then (⟨(rd 2 s).1, 0, 0, (rd 2 (rd 2 s).2).1⟩, (rd 2 (rd 2 s).2).2)
  else if f / 128 % 2 = 1 then
    (⟨(rd 2 s).1, (rd 2 (rd 2 s).2).1, (rd 2 (rd 2 (rd 2 s).2).2).1, (rd 2 (rd 2 (rd 2 (rd 2 s).2).2).2).1⟩, (rd 2 (rd 2 (rd 2 (rd 2 s).2).2).2).2)
  else (⟨16384, 0, 0, 16384⟩, s)
def wOf (f : Int) : Nat := if f % 2 = 1 then 2 else 1
def partS (s : Sx) : T_SiiiA4ie × Int × Sx :=
  let a := rdU 2 s
  let g := rdU 2 a.2
  let x := rd (wOf a.1) (flag2 a.1 g.2)
  let y := rd (wOf a.1) x.2
  let m := turnS a.1 y.2
  (⟨g.1, x.1, y.1, m.1⟩, a.1, m.2)
section
variable {b : List Int} (hb : Bytes b) (hbl : b.length ≤ 140737488351232)
include hb hbl
theorem part_rel {st : T_SLBiie} {s : Sx} (hr : Rel b st s) : ∃ st', Ev (fun n => F_compo_reader_part n st) ((partS s).1, (partS s).2.1, st') ∧ Rel b st' (partS s).2.2 := by
  obtain ⟨_, _, hf0, hf1⟩ := rdU_rd hb hr
  obtain ⟨st1, h1, r1⟩ := u_rel hb hbl hr
  obtain ⟨st2, h2, r2⟩ := u_rel hb hbl r1
  simp only [partS]
  generalize hf : (rdU 2 s).1 = f at *
  generalize (rdU 2 s).2 = s1 at *
  generalize hg : (rdU 2 s1).1 = g at *
  generalize hs2 : (rdU 2 s1).2 = s2 at *
  have t1 : decide (bits .and .i64 f 2 = 0) = decide (f / 2 % 2 = 0) := by simpa using bits_test0 1 (by decide) hf0 (by omega)
  have t8 : decide (bits .and .i64 f 8 = 0) = decide (f / 8 % 2 = 0) := by simpa using bits_test0 3 (by decide) hf0 (by omega)
  have t64 : decide (bits .and .i64 f 64 = 0) = decide (f / 64 % 2 = 0) := by simpa using bits_test0 6 (by decide) hf0 (by omega)
  have t128 : decide (bits .and .i64 f 128 = 0) = decide (f / 128 % 2 = 0) := by simpa using bits_test0 7 (by decide) hf0 (by omega)
  have r3 : Rel b ⟨st2.f0, st2.f1, if (decide (st2.f2 = 0) && decide (bits .and .i64 f 2 = 0)) then 9 else st2.f2⟩ (flag2 f s2) := by
    rw [t1]
    cases s2 with
    | error e =>
      obtain ⟨k1, k2, k3⟩ := r2
      refine ⟨k1, ?_, k3⟩
      simp only [k2]; simp [k3]
    | ok r =>
      obtain ⟨k1, k2, k3⟩ := r2
      simp only [k2, flag2]
      by_cases hh : f / 2 % 2 = 0
      · simp [hh, Rel, k1]
      · simp [hh, Rel, k1]; exact k3
  have hw : wOf f = 1 ∨ wOf f = 2 := by unfold wOf; split <;> simp
  have hwi : w64 (1 + bits .and .i64 f 1) = (wOf f : Int) := by
    have := bits_test 0 (by decide) f hf0 (by omega)
    simp only [Int.pow_zero, Int.ediv_one, Int.mul_one] at this
    rw [this]; unfold wOf
    rcases Int.emod_two_eq f with h | h <;> simp [h] <;> rfl
  obtain ⟨st5, h5, r5⟩ := s_rel hb hbl hw hwi r3
  obtain ⟨st6, h6, r6⟩ := s_rel hb hbl hw hwi r5
  generalize (rd (wOf f) (flag2 f s2)).1 = x at *
  generalize (rd (wOf f) (flag2 f s2)).2 = s5 at *
  generalize (rd (wOf f) s5).1 = y at *
  generalize (rd (wOf f) s5).2 = s6 at *
  obtain ⟨st7, h7, r7⟩ := s_rel hb hbl (.inr rfl) (wi := 2) rfl r6
  obtain ⟨st8, h8, r8⟩ := s_rel hb hbl (.inr rfl) (wi := 2) rfl r7
  obtain ⟨st9, h9, r9⟩ := s_rel hb hbl (.inr rfl) (wi := 2) rfl r8
  obtain ⟨st10, h10, r10⟩ := s_rel hb hbl (.inr rfl) (wi := 2) rfl r9
  unfold turnS
  by_cases c8 : f / 8 % 2 = 1
  · simp only [c8, if_true]
    refine ⟨st7, ?_, r7⟩
    simp only [F_compo_reader_part]
    refine .bind h1 (.bind h2 (.bind h5 (.bind h6 (.lj (.t (by rw [t8]; simp; omega) (.bind h7 (.ret _)))))))
  · simp only [c8, if_false]
    have n8 : (!decide (bits .and .i64 f 8 = 0)) = false := by rw [t8]; simp; omega
    by_cases c64 : f / 64 % 2 = 1
    · simp only [c64, if_true]
      refine ⟨st8, ?_, r8⟩
      simp only [F_compo_reader_part]
      refine .bind h1 (.bind h2 (.bind h5 (.bind h6 (.lj (.e n8 (.t (by rw [t64]; simp; omega) (.bind h7 (.bind h8 (.ret _)))))))))
    · simp only [c64, if_false]
      have n64 : (!decide (bits .and .i64 f 64 = 0)) = false := by rw [t64]; simp; omega
      by_cases c128 : f / 128 % 2 = 1
      · simp only [c128, if_true]
        refine ⟨st10, ?_, r10⟩
        simp only [F_compo_reader_part]
        refine .bind h1 (.bind h2 (.bind h5 (.bind h6 (.lj (.e n8 (.e n64 (.t (by rw [t128]; simp; omega) (.lj ?_))))))))
        refine .succ ?_
        simp only [L_compo_reader_part_0]
        refine .t rfl (.bind h7 (.gd (by decide) (.succ ?_)))
        simp only [L_compo_reader_part_0]
        refine .t rfl (.bind h8 (.gd (by decide) (.succ ?_)))
        simp only [L_compo_reader_part_0]
        refine .t rfl (.bind h9 (.gd (by decide) (.succ ?_)))
        simp only [L_compo_reader_part_0]
        refine .t rfl (.bind h10 (.gd (by decide) (.succ ?_)))
        simp only [L_compo_reader_part_0]
        exact .e rfl (.ret _)
      · simp only [c128, if_false]
        have n128 : (!decide (bits .and .i64 f 128 = 0)) = false := by rw [t128]; simp; omega
        refine ⟨st6, ?_, r6⟩
        simp only [F_compo_reader_part]
        refine .bind h1 (.bind h2 (.bind h5 (.bind h6 (.lj (.e n8 (.e n64 (.e n128 (.ret _))))))))
end
/-! ### a whole glyph -/
def restS (acc : List T_SiiiA4ie) (f : Int) (r : List Int) : List T_SiiiA4ie × List Int × Int :=
  if f / 256 % 2 = 0 then (acc, [], 0) else
  match rdU 2 (.ok r) with
  | (_, .error e) => ([], [], e)
  | (k, .ok r') => if (r'.length : Int) < k then ([], [], 3) else (acc, r'.take k.toNat, 0)
def readS : Nat → List T_SiiiA4ie → Sx → List T_SiiiA4ie × List Int × Int
  | 0, _, _ => ([], [], 7)
  | k + 1, acc, s =>
    match partS s with
    | (_, _, .error e) => ([], [], e)
    | (p, f, .ok r) =>
      if f / 32 % 2 = 1 then (if 64 ≤ acc.length + 1 then ([], [], 7) else readS k (acc ++ [p]) (.ok r))
      else restS (acc ++ [p]) f r
theorem readS_succ (k : Nat) (acc : List T_SiiiA4ie) (s : Sx) : readS (k + 1) acc s = match partS s with
    | (_, _, .error e) => ([], [], e)
    | (p, f, .ok r) =>
      if f / 32 % 2 = 1 then (if 64 ≤ acc.length + 1 then ([], [], 7) else readS k (acc ++ [p]) (.ok r))
      else restS (acc ++ [p]) f r := rfl
def compoRead (b : List Int) : List T_SiiiA4ie × List Int × Int :=
  if b.length < 10 then ([], [], 3) else if 0 ≤ beS (b.take 2) then ([], [], 11) else readS 64 [] (.ok (b.drop 10))
section
variable {b : List Int} (hb : Bytes b) (hbl : b.length ≤ 140737488351232)
include hb hbl
omit hbl in
theorem partS_flag {st : T_SLBiie} {s : Sx} (hr : Rel b st s) : 0 ≤ (partS s).2.1 ∧ (partS s).2.1 < 65536 := by
  obtain ⟨_, _, h1, h2⟩ := rdU_rd hb hr
  exact ⟨h1, h2⟩
theorem behind_rel {acc : List T_SiiiA4ie} {p : T_SiiiA4ie} {f : Int} {st : T_SLBiie} {r : List Int} (hf0 : 0 ≤ f) (hf1 : f < 65536) (hr : Rel b st (.ok r)) (hacc : acc.length ≤ 63) {L : Nat → Option R_compo_Read} {res : R_compo_Read}
    (hL : f / 32 % 2 = 1 → acc.length + 1 < 64 → Ev L res) (hres : res = if f / 32 % 2 = 1 then (if 64 ≤ acc.length + 1 then ([], [], 7) else res) else restS (acc ++ [p]) f r) :
    Ev (fun n => if (!decide (bits .and .i64 f 32 = 0)) then (if (decide (64 ≤ ((acc ++ [p]).length : Int))) then some (([], [], 7) : R_compo_Read) else L n)
      else if (decide (bits .and .i64 f 256 = 0)) then some (acc ++ [p], [], 0) else
        Option.bind (F_compo_reader_u n st) fun v11 => if (!decide (v11.2.f2 = 0)) then some ([], [], v11.2.f2) else
          Option.bind (F_be_Cut n b v11.2.f1 v11.1) fun v13 => if (!decide (v13.2 = 0)) then some ([], [], v13.2) else some (acc ++ [p], v13.1, 0)) res := by
  have t32 : decide (bits .and .i64 f 32 = 0) = decide (f / 32 % 2 = 0) := by simpa using bits_test0 5 (by decide) hf0 (by omega)
  have t256 : decide (bits .and .i64 f 256 = 0) = decide (f / 256 % 2 = 0) := by simpa using bits_test0 8 (by decide) hf0 (by omega)
  by_cases c32 : f / 32 % 2 = 1
  · refine .t (by rw [t32]; simp; omega) ?_
    simp only [c32, if_true] at hres
    by_cases c64 : 64 ≤ acc.length + 1
    · rw [hres, if_pos c64]
      exact .t (by simp; omega) (.ret _)
    · exact .e (by simp; omega) (hL c32 (by omega))
  · refine .e (by rw [t32]; simp; omega) ?_
    simp only [c32, if_false] at hres
    subst hres
    unfold restS
    by_cases c256 : f / 256 % 2 = 0
    · simp only [c256, if_true]
      exact .t (by rw [t256]; simp [c256]) (.ret _)
    · simp only [c256, if_false]
      refine .e (by rw [t256]; simp [c256]) ?_
      obtain ⟨_, _, k0, k1⟩ := rdU_rd hb hr
      obtain ⟨st', h1, r1⟩ := u_rel hb hbl hr
      refine .bind h1 ?_
      generalize hv : rdU 2 (.ok r) = v at *
      obtain ⟨k, s'⟩ := v
      cases s' with
      | error e =>
        obtain ⟨_, g2, g3⟩ := r1
        simp only [g2]
        exact .t (by simp [g3]) (.ret _)
      | ok r' =>
        obtain ⟨g1, g2, pre, g4, g5⟩ := r1
        simp only at k0 k1 g5 ⊢
        have hlen : b.length = pre.length + r'.length := by rw [g4]; simp
        refine .e (by simp [g2]) ?_
        by_cases hs : (r'.length : Int) < k
        · simp only [hs, if_true]
          refine .bind (v := ([], 3)) ?_ (.t rfl (.ret _))
          exact be_Cut_short hbl (by omega) (by omega) k0 (by omega)
        · simp only [hs, if_false]
          refine .bind (v := (r'.take k.toNat, 0)) ?_ (.e rfl (.ret _))
          exact be_Cut_ok (x := pre) (z := r'.drop k.toNat) hbl (by rw [List.take_append_drop]; exact g4) g5 (by rw [List.length_take]; omega)
theorem L_compo_Read : ∀ (k : Nat) (acc : List T_SiiiA4ie) (st : T_SLBiie) (s : Sx), Rel b st s → acc.length + k = 64 → 0 < k →
    Ev (fun n => L_compo_Read_0 b n st.f0 st.f1 st.f2 acc) (readS k acc s)
  | k + 1, acc, st, s, hr, hk, _ => .succ (by
      simp only [L_compo_Read_0]
      obtain ⟨st', h1, r1⟩ := part_rel hb hbl hr
      obtain ⟨hf0, hf1⟩ := partS_flag hb hr
      refine .bind h1 ?_
      simp only [readS]
      generalize hp : partS s = v at *
      obtain ⟨p, f, s'⟩ := v
      cases s' with
      | error e =>
        obtain ⟨_, g2, g3⟩ := r1
        simp only [g2]
        exact .t (by simp [g3]) (.ret _)
      | ok r =>
        have g2 := r1.2.1
        refine .e (by simp [g2]) (.gd (by simp [fits]; omega) ?_)
        refine behind_rel hb hbl hf0 hf1 r1 (by omega) (fun c32 hlt => ?_) ?_
        · simp only at c32
          simp only [c32, if_true]
          rw [if_neg (by omega)]
          exact L_compo_Read k (acc ++ [p]) st' (.ok r) r1 (by simp; omega) (by omega)
        · simp only
          by_cases c32 : f / 32 % 2 = 1
          · simp only [c32, if_true]; split <;> rfl
          · simp only [c32, if_false])
theorem compo_Read : Ev (fun n => F_compo_Read n b) (compoRead b) := by
  simp only [F_compo_Read, compoRead]
  by_cases h10 : b.length < 10
  · simp only [h10, if_true]
    exact .t (by simp; omega) (.ret _)
  · simp only [h10, if_false]
    refine .e (by simp; omega) ?_
    obtain ⟨st, h1, r1⟩ := s_rel hb hbl (.inr rfl) (wi := 2) rfl (st := ⟨b, 0, 0⟩) (s := .ok b) ⟨rfl, rfl, [], rfl, rfl⟩
    refine .bind h1 ?_
    have e1 : rd 2 (.ok b) = (beS (b.take 2), .ok (b.drop 2)) := by simp only [rd]; rw [if_neg (by omega)]
    rw [e1] at r1 ⊢
    obtain ⟨g1, g2, _⟩ := r1
    by_cases hk : 0 ≤ beS (b.take 2)
    · simp only [hk, if_true]
      exact .t (by simp [hk]) (.ret _)
    · simp only [hk, if_false]
      refine .e (by simp [hk]) ?_
      have r2 : Rel b ⟨st.f0, 10, st.f2⟩ (.ok (b.drop 10)) := ⟨g1, g2, b.take 10, by rw [List.take_append_drop], by simp only [List.length_take]; omega⟩
      obtain ⟨st', h2, r3⟩ := part_rel hb hbl r2
      obtain ⟨hf0, hf1⟩ := partS_flag hb r2
      refine .bind h2 ?_
      rw [readS_succ 63]
      generalize hp : partS (.ok (b.drop 10)) = v at *
      obtain ⟨p, f, s'⟩ := v
      cases s' with
      | error e =>
        obtain ⟨_, g2, g3⟩ := r3
        simp only [g2]
        exact .t (by simp [g3]) (.ret _)
      | ok r =>
        have g2 := r3.2.1
        refine .e (by simp [g2]) (.gd (by simp [fits]) ?_)
        have := behind_rel hb hbl (acc := []) (p := p) (L := fun n => L_compo_Read_0 b n st'.f0 st'.f1 st'.f2 [p]) hf0 hf1 r3 (by simp) (res := if f / 32 % 2 = 1 then readS 63 [p] (.ok r) else restS [p] f r) (fun c32 _ => ?_) ?_
        · simpa using this
        · simp only at c32
          simp only [c32, if_true]
          exact L_compo_Read hb hbl 63 [p] st' (.ok r) r3 rfl (by omega)
        · simp only
          by_cases c32 : f / 32 % 2 = 1
          · simp only [c32, if_true]; simp
          · simp only [c32, if_false]; simp
end
end Go.Proofs.Ytgkekjfbacncoaa
set_option linter.unusedSimpArgs false
set_option linter.unusedVariables false
open Go Go.Ab
namespace Go.Proofs.Ytgkekjfbacncoaa
def onOk (s : Sx) (g : List Int → R_r08_Read) : R_r08_Read :=
  match s with
  | .error e => ([], [], e)
  | .ok r => g r
theorem has_ok {f bit : Int} (hf0 : 0 ≤ f) (hf1 : f < 65536) (hb : 0 < bit) : Ev (fun n => F_r08_has n f bit) (decide (f / bit % 2 = 1)) := by
  simp only [F_r08_has]
  refine .gd (by omega) (.ret' ?_)
  have h0 : 0 ≤ f / bit := Int.ediv_nonneg hf0 (by omega)
  have h1 : f / bit ≤ f := Int.ediv_le_self _ hf0
  rw [Int.tdiv_eq_ediv_of_nonneg hf0, w64_of (by omega) (by omega), Int.tmod_eq_emod_of_nonneg h0]
section
variable {b : List Int} (hb : Bytes b) (hbl : b.length ≤ 140737488351232)
include hb hbl
theorem rbehind_rel {acc : List T_SiiiA4ie} {p : T_SiiiA4ie} {f x1 x2 : Int} {x0 : List Int} {s : Sx} (hf0 : 0 ≤ f) (hf1 : f < 65536) (hr : Rel b ⟨x0, x1, x2⟩ s) (hacc : acc.length ≤ 63) {L : Nat → Option R_r08_Read} {res res' : R_r08_Read}
    (hL : ∀ r, s = .ok r → f / 32 % 2 = 1 → acc.length + 1 < 64 → Ev L res') (hres : res = onOk s fun r => if f / 32 % 2 = 1 then (if 64 ≤ acc.length + 1 then ([], [], 7) else res') else restS (acc ++ [p]) f r) :
    Ev (fun n => if (!decide (x2 = 0)) then some (([], [], x2) : R_r08_Read) else
      gd (fits (acc.length + ([p] : List T_SiiiA4ie).length) 56 = true) <|
      Option.bind (F_r08_has n f 32) fun v58 =>
      if v58 then (if (decide (64 ≤ ((acc ++ ([p] : List T_SiiiA4ie)).length : Int))) then some (([], [], 7) : R_r08_Read) else L n)
      else Option.bind (F_r08_has n f 256) fun v61 => if (!v61) then some (acc ++ [p], [], 0) else
        Option.bind (F_r08_reader_u n (⟨x0, x1, x2⟩ : T_SLBiie)) fun v63 => if (!decide (v63.2.f2 = 0)) then some ([], [], v63.2.f2) else
          Option.bind (F_r02_Cut n b v63.2.f1 v63.1) fun v65 => if (!decide (v65.2 = 0)) then some ([], [], 3) else some (acc ++ [p], v65.1, 0)) res := by
  cases s with
  | error e =>
    obtain ⟨_, g2, g3⟩ := hr
    simp only [onOk] at g2 hres
    subst hres; subst g2
    exact .t (by simp [g3]) (.ret _)
  | ok r =>
    have g2 := hr.2.1
    simp only [onOk] at g2 hres
    refine .e (by simp [g2]) (.gd (by simp [fits]; omega) (.bind (has_ok hf0 hf1 (by decide)) ?_))
    by_cases c32 : f / 32 % 2 = 1
    · refine .t (by simp [c32]) ?_
      simp only [c32, if_true] at hres
      by_cases c64 : 64 ≤ acc.length + 1
      · rw [hres, if_pos c64]
        exact .t (by simp; omega) (.ret _)
      · rw [if_neg c64] at hres
        rw [hres]
        exact .e (by simp; omega) (hL r rfl c32 (by omega))
    · refine .e (by simp [c32]) (.bind (has_ok hf0 hf1 (by decide)) ?_)
      simp only [c32, if_false] at hres
      subst hres
      unfold restS
      by_cases c256 : f / 256 % 2 = 0
      · simp only [c256, if_true]
        exact .t (by simp) (.ret _)
      · simp only [c256, if_false]
        refine .e (by simp; omega) ?_
        obtain ⟨_, _, k0, k1⟩ := rdU_rd hb hr
        obtain ⟨st', h1, r1⟩ := ru_rel hb hbl hr
        refine .bind h1 ?_
        generalize hv : rdU 2 (.ok r) = v at *
        obtain ⟨k, s'⟩ := v
        cases s' with
        | error e =>
          obtain ⟨_, g2, g3⟩ := r1
          simp only [g2]
          exact .t (by simp [g3]) (.ret _)
        | ok r' =>
          obtain ⟨g1, g2, pre, g4, g5⟩ := r1
          simp only at k0 k1 g5 ⊢
          have hlen : b.length = pre.length + r'.length := by rw [g4]; simp
          refine .e (by simp [g2]) ?_
          by_cases hs : (r'.length : Int) < k
          · simp only [hs, if_true]
            refine .bind (v := ([], 3)) ?_ (.t rfl (.ret _))
            exact r02_Cut_short hbl (by omega) (by omega) k0 (by omega)
          · simp only [hs, if_false]
            refine .bind (v := (r'.take k.toNat, 0)) ?_ (.e rfl (.ret _))
            exact r02_Cut_ok (x := pre) (z := r'.drop k.toNat) hbl (by rw [List.take_append_drop]; exact g4) g5 (by rw [List.length_take]; omega)
theorem L_r08_Read : ∀ (k : Nat) (acc : List T_SiiiA4ie) (st : T_SLBiie) (s : Sx), Rel b st s → acc.length + k = 64 → 0 < k →
    Ev (fun n => L_r08_Read_0 b n st.f0 st.f1 st.f2 acc) (readS k acc s)
  | k + 1, acc, st, s, hr, hk, _ => .succ (by
      obtain ⟨_, _, hf0, hf1⟩ := rdU_rd hb hr
      obtain ⟨st1, h1, r1⟩ := ru_rel hb hbl hr
      obtain ⟨st2, h2, r2⟩ := ru_rel hb hbl r1
      have hpart : partS s = (⟨(rdU 2 (rdU 2 s).2).1, (rd (wOf (rdU 2 s).1) (flag2 (rdU 2 s).1 (rdU 2 (rdU 2 s).2).2)).1, (rd (wOf (rdU 2 s).1) (rd (wOf (rdU 2 s).1) (flag2 (rdU 2 s).1 (rdU 2 (rdU 2 s).2).2)).2).1,
          (turnS (rdU 2 s).1 (rd (wOf (rdU 2 s).1) (rd (wOf (rdU 2 s).1) (flag2 (rdU 2 s).1 (rdU 2 (rdU 2 s).2).2)).2).2).1⟩, (rdU 2 s).1, (turnS (rdU 2 s).1 (rd (wOf (rdU 2 s).1) (rd (wOf (rdU 2 s).1) (flag2 (rdU 2 s).1 (rdU 2 (rdU 2 s).2).2)).2).2).2) := rfl
      generalize hf : (rdU 2 s).1 = f at *
      generalize (rdU 2 s).2 = s1 at *
      generalize hg : (rdU 2 s1).1 = g at *
      generalize hs2 : (rdU 2 s1).2 = s2 at *
      have hw : wOf f = 1 ∨ wOf f = 2 := by unfold wOf; split <;> simp
      have hwi : (if decide (f / 1 % 2 = 1) then (2 : Int) else 1) = (wOf f : Int) := by
        rw [Int.ediv_one]; unfold wOf
        rcases Int.emod_two_eq f with h | h <;> simp [h]
      have r3 : Rel b ⟨st2.f0, st2.f1, if (decide (st2.f2 = 0) && !decide (f / 2 % 2 = 1)) then 9 else st2.f2⟩ (flag2 f s2) := by
        cases s2 with
        | error e =>
          obtain ⟨k1, k2, k3⟩ := r2
          refine ⟨k1, ?_, k3⟩
          simp only [k2]; simp [k3]
        | ok r =>
          obtain ⟨k1, k2, k3⟩ := r2
          simp only [k2, flag2]
          by_cases hh : f / 2 % 2 = 0
          · simp [hh, Rel, k1]
          · have : f / 2 % 2 = 1 := by omega
            simp [this, Rel, k1]; exact k3
      obtain ⟨st5, h5, r5⟩ := rs_rel hb hbl hw hwi r3
      obtain ⟨st6, h6, r6⟩ := rs_rel hb hbl hw hwi r5
      generalize (rd (wOf f) (flag2 f s2)).1 = x at *
      generalize (rd (wOf f) (flag2 f s2)).2 = s5 at *
      generalize (rd (wOf f) s5).1 = y at *
      generalize (rd (wOf f) s5).2 = s6 at *
      have fin : ∀ (st' : T_SLBiie), Rel b st' (turnS f s6).2 → ∀ r, (turnS f s6).2 = .ok r → f / 32 % 2 = 1 → acc.length + 1 < 64 →
          Ev (fun n => L_r08_Read_0 b n st'.f0 st'.f1 st'.f2 (acc ++ [⟨g, x, y, (turnS f s6).1⟩])) (onOk (turnS f s6).2 fun r => readS k (acc ++ [⟨g, x, y, (turnS f s6).1⟩]) (.ok r)) := by
        intro st' hr' r hs' _ hlt
        rw [hs'] at hr' ⊢
        exact L_r08_Read k _ st' (.ok r) hr' (by simp; omega) (by omega)
      have hres' : readS (k + 1) acc s = onOk (turnS f s6).2 fun r => if f / 32 % 2 = 1 then (if 64 ≤ acc.length + 1 then ([], [], 7) else (onOk (turnS f s6).2 fun r => readS k (acc ++ [⟨g, x, y, (turnS f s6).1⟩]) (.ok r))) else restS (acc ++ [⟨g, x, y, (turnS f s6).1⟩]) f r := by
        rw [readS_succ, hpart]
        generalize turnS f s6 = v
        obtain ⟨m, s'⟩ := v
        cases s' <;> rfl
      rw [hres']
      clear hres' hpart
      obtain ⟨st7, h7, r7⟩ := rs_rel hb hbl (.inr rfl) (wi := 2) rfl r6
      obtain ⟨st8, h8, r8⟩ := rs_rel hb hbl (.inr rfl) (wi := 2) rfl r7
      obtain ⟨st9, h9, r9⟩ := rs_rel hb hbl (.inr rfl) (wi := 2) rfl r8
      obtain ⟨st10, h10, r10⟩ := rs_rel hb hbl (.inr rfl) (wi := 2) rfl r9
      simp only [L_r08_Read_0]
      refine .lj (.bind h1 (.bind h2 (.lj ?_)))
      by_cases he : st2.f2 = 0
      all_goals first
        | (rw [decide_eq_true he, Bool.true_and] at h5; refine .t (decide_eq_true he) (.bind (has_ok hf0 hf1 (by decide)) (.bind (has_ok hf0 hf1 (by decide)) (.bind h5 (.bind h6 ?_)))))
        | (rw [decide_eq_false he, Bool.false_and] at h5; refine .e (decide_eq_false he) (.bind (has_ok hf0 hf1 (by decide)) (.bind h5 (.bind h6 ?_))))
      all_goals
        refine .bind (has_ok hf0 hf1 (by decide)) (.lj ?_)
        unfold turnS at fin ⊢
        by_cases c8 : f / 8 % 2 = 1
        · simp only [c8, if_true] at fin ⊢
          refine .t (by simp) (.bind h7 ?_)
          exact rbehind_rel hb hbl hf0 hf1 r7 (by omega) (fin st7 r7) rfl
        · simp only [c8, if_false] at fin ⊢
          refine .e (by simp) (.bind (has_ok hf0 hf1 (by decide)) ?_)
          by_cases c64 : f / 64 % 2 = 1
          · simp only [c64, if_true] at fin ⊢
            refine .t (by simp) (.bind h7 (.bind h8 ?_))
            exact rbehind_rel hb hbl hf0 hf1 r8 (by omega) (fin st8 r8) rfl
          · simp only [c64, if_false] at fin ⊢
            refine .e (by simp) (.bind (has_ok hf0 hf1 (by decide)) ?_)
            by_cases c128 : f / 128 % 2 = 1
            · simp only [c128, if_true] at fin ⊢
              refine .t (by simp) (.lj (.succ ?_))
              simp only [L_r08_Read_1]
              refine .t rfl (.bind h7 (.gd (by decide) (.succ ?_)))
              simp only [L_r08_Read_1]
              refine .t rfl (.bind h8 (.gd (by decide) (.succ ?_)))
              simp only [L_r08_Read_1]
              refine .t rfl (.bind h9 (.gd (by decide) (.succ ?_)))
              simp only [L_r08_Read_1]
              refine .t rfl (.bind h10 (.gd (by decide) (.succ ?_)))
              simp only [L_r08_Read_1]
              refine .e rfl ?_
              exact .shift (.shift (.shift (.shift (.shift (rbehind_rel hb hbl hf0 hf1 r10 (by omega) (fin st10 r10) rfl)))))
            · simp only [c128, if_false] at fin ⊢
              refine .e (by simp) ?_
              exact rbehind_rel hb hbl hf0 hf1 r6 (by omega) (fin st6 r6) rfl)
theorem r08_Read : Ev (fun n => F_r08_Read n b) (compoRead b) := by
  simp only [F_r08_Read, compoRead]
  by_cases h10 : b.length < 10
  · simp only [h10, if_true]
    exact .t (by simp; omega) (.ret _)
  · simp only [h10, if_false]
    refine .e (by simp; omega) ?_
    obtain ⟨st, h1, r1⟩ := rs_rel hb hbl (.inr rfl) (wi := 2) rfl (st := ⟨b, 0, 0⟩) (s := .ok b) ⟨rfl, rfl, [], rfl, rfl⟩
    refine .bind h1 ?_
    have e1 : rd 2 (.ok b) = (beS (b.take 2), .ok (b.drop 2)) := by simp only [rd]; rw [if_neg (by omega)]
    rw [e1] at r1 ⊢
    obtain ⟨g1, g2, _⟩ := r1
    by_cases hk : 0 ≤ beS (b.take 2)
    · simp only [hk, if_true]
      exact .t (by simp [hk]) (.ret _)
    · simp only [hk, if_false]
      refine .e (by simp [hk]) ?_
      exact L_r08_Read hb hbl 64 [] ⟨st.f0, 10, st.f2⟩ (.ok (b.drop 10)) ⟨g1, g2, b.take 10, by rw [List.take_append_drop], by simp only [List.length_take]; omega⟩ rfl (by omega)
end
end Go.Proofs.Ytgkekjfbacncoaa
set_option linter.unusedSimpArgs false
set_option linter.unusedVariables false
open Go Go.Ab
namespace Go.Proofs.Ytgkekjfbacncoaa
def sh (n : Int) : Bool := decide (-32768 ≤ n ∧ n ≤ 32767)
def goodP (p : T_SiiiA4ie) : Bool := decide (0 ≤ p.f0 ∧ p.f0 ≤ 65535) && (sh p.f1 && (sh p.f2 && (sh p.f3.a0 && (sh p.f3.a1 && (sh p.f3.a2 && sh p.f3.a3)))))
def wide (p : T_SiiiA4ie) : Bool := decide (p.f1 < -128 ∨ 127 < p.f1 ∨ p.f2 < -128 ∨ 127 < p.f2)
def wP (p : T_SiiiA4ie) : Nat := if wide p then 2 else 1
def turnF (m : T_A4i) : Int := if m.a1 ≠ 0 ∨ m.a2 ≠ 0 then 128 else if m.a0 ≠ m.a3 then 64 else if m.a0 ≠ 16384 then 8 else 0
def turnL (m : T_A4i) : List Int := if m.a1 ≠ 0 ∨ m.a2 ≠ 0 then [m.a0, m.a1, m.a2, m.a3] else if m.a0 ≠ m.a3 then [m.a0, m.a3] else if m.a0 ≠ 16384 then [m.a0] else []
def flagP (p : T_SiiiA4ie) (behind : Int) : Int := turnF p.f3 + 2 + (if wide p then 1 else 0) + behind
def putL : List Int → List Int
  | [] => []
  | x :: l => put2 x ++ putL l
def packS (p : T_SiiiA4ie) (behind : Int) : List Int := put2 (flagP p behind) ++ (put2 p.f0 ++ (putW (wP p) p.f1 ++ (putW (wP p) p.f2 ++ putL (turnL p.f3))))
def partsW (last : Int) : List T_SiiiA4ie → List Int
  | [] => []
  | [p] => packS p last
  | p :: q :: l => packS p 32 ++ partsW last (q :: l)
def lastF (code : List Int) : Int := if code = [] then 0 else 256
def codeW (code : List Int) : List Int := if code = [] then [] else put2 code.length ++ code
def headW (a b : T_Siie) : List Int := put2 (-1) ++ (put2 a.f0 ++ (put2 a.f1 ++ (put2 b.f0 ++ put2 b.f1)))
def compoWrite (l : List T_SiiiA4ie) (code : List Int) (a b : T_Siie) : List Int × Int :=
  if l = [] then ([], 4) else if 64 < l.length ∨ 65535 < code.length then ([], 7)
  else if !(sh a.f0 && (sh a.f1 && (sh b.f0 && sh b.f1))) then ([], 6)
  else if !(l.all goodP) then ([], 6)
  else (headW a b ++ (partsW (lastF code) l ++ codeW code), 0)
theorem putW_len (w : Nat) (x : Int) : (putW w x).length ≤ 2 := by unfold putW put1 put2; split <;> simp
theorem turnL_len (m : T_A4i) : (turnL m).length ≤ 4 := by unfold turnL; split <;> (try split) <;> (try split) <;> simp
theorem putL_len : ∀ l : List Int, (putL l).length = 2 * l.length
  | [] => rfl
  | x :: l => by simp only [putL, List.length_append, putL_len l, put2, List.length_cons, List.length_nil]; omega
theorem packS_len (p : T_SiiiA4ie) (b : Int) : (packS p b).length ≤ 16 := by
  have h1 := putW_len (wP p) p.f1
  have h2 := putW_len (wP p) p.f2
  have h3 := turnL_len p.f3
  simp only [packS, List.length_append, putL_len, put2, List.length_cons, List.length_nil]; omega
theorem fits_small {n k : Nat} (h : n ≤ 100000000) (hk : k ≤ 64) : fits n k = true := by
  have : n * k ≤ 100000000 * 64 := Nat.mul_le_mul h hk
  simp [fits]; omega
theorem i16_same (x : Int) (hx : -9223372036854775808 ≤ x ∧ x ≤ 9223372036854775807) : decide (x = w64 (IntKind.wrap .i16 x)) = sh x := by
  rw [w64_of (x := IntKind.wrap .i16 x) (by rw [wrap_i16]; omega) (by rw [wrap_i16]; omega), wrap_i16]
  unfold sh
  by_cases h : -32768 ≤ x ∧ x ≤ 32767
  · rw [decide_eq_true h]; simp; omega
  · rw [decide_eq_false h]; simp; omega
theorem i8_same (x : Int) : (!decide (x = w64 (IntKind.wrap .i8 x))) = decide (x < -128 ∨ 127 < x) := by
  rw [w64_of (x := IntKind.wrap .i8 x) (by rw [wrap_i8]; omega) (by rw [wrap_i8]; omega), wrap_i8]
  by_cases h : x < -128 ∨ 127 < x
  · rw [decide_eq_true h]; simp; omega
  · rw [decide_eq_false h]; simp; omega
theorem u16_same (x : Int) : decide (x = w64 (IntKind.wrap .u16 x)) = decide (0 ≤ x ∧ x ≤ 65535) := by
  rw [w64_of (x := IntKind.wrap .u16 x) (by rw [wrap_u16]; omega) (by rw [wrap_u16]; omega), wrap_u16]
  by_cases h : 0 ≤ x ∧ x ≤ 65535
  · rw [decide_eq_true h]; simp; omega
  · rw [decide_eq_false h]; simp; omega
def I64 (x : Int) : Prop := -9223372036854775808 ≤ x ∧ x ≤ 9223372036854775807
theorem L_compo_short {a0 : List Int} (hl : a0.length ≤ 1000) (hi : ∀ x ∈ a0, I64 x) : ∀ (t p : List Int), a0 = p ++ t → Ev (fun n => L_compo_short_0 a0 (fun _ => some true) n (p.length : Int)) (t.all sh)
  | [], p, h => .succ (by
      simp only [L_compo_short_0]
      exact .e (by rw [h]; simp) (.ret _))
  | c :: t, p, h => .succ (by
      have hlen : a0.length = p.length + (t.length + 1) := by rw [h]; simp
      simp only [L_compo_short_0]
      refine .t (by simp; omega) (.gd (by omega) ?_)
      have e2 : nth E_i a0 (p.length : Int) = c := nth_app' h rfl
      have e1 : w64 ((p.length : Int) + 1) = (((p ++ [c]).length : Nat) : Int) := by rw [w64_of (by omega) (by omega)]; simp
      rw [e2, i16_same c (hi c (by rw [h]; simp)), e1, List.all_cons]
      cases hc : sh c
      · exact .t rfl (.ret _)
      · refine .e rfl ?_
        rw [Bool.true_and]
        exact L_compo_short hl hi t (p ++ [c]) (by rw [h]; simp))
theorem compo_short {l : List Int} (hl : l.length ≤ 1000) (hi : ∀ x ∈ l, I64 x) : Ev (fun n => F_compo_short n l) (l.all sh) := by
  simp only [F_compo_short]
  exact .lj (L_compo_short hl hi l [] rfl)
theorem be_PutW (w : Nat) (hw : w = 1 ∨ w = 2) (v : Int) : Ev (fun n => F_be_Put n v (w : Int)) (putW w v) := by
  rcases hw with rfl | rfl
  · exact be_Put1 v
  · exact be_Put2 v
theorem turnL_eq (m : T_A4i) : (if ((!decide (m.a1 = 0)) || (!decide (m.a2 = 0))) then ([m.a0, m.a1, m.a2, m.a3] : List Int) else (if (!decide (m.a0 = m.a3)) then ([m.a0, m.a3] : List Int) else (if (!decide (m.a0 = 16384)) then ([m.a0] : List Int) else ([] : List Int)))) = turnL m := by
  unfold turnL; simp
theorem L_compo_pack {a0 : T_SiiiA4ie} {a1 : Int} {r : R_compo_pack} : ∀ (t p acc : List Int), turnL a0.f3 = p ++ t → acc.length ≤ 100 + 2 * p.length → r = acc ++ putL t → Ev (fun n => L_compo_pack_0 a0 a1 (fun x => some x) n acc (p.length : Int)) r
  | [], p, acc, h, ha, hr => .succ (by
      simp only [L_compo_pack_0, turnL_eq]
      refine .e (by rw [h]; simp) (.ret' ?_)
      rw [hr]; simp [putL])
  | c :: t, p, acc, h, ha, hr => .succ (by
      have h4 := turnL_len a0.f3
      have hlen : (turnL a0.f3).length = p.length + (t.length + 1) := by rw [h]; simp
      simp only [L_compo_pack_0, turnL_eq]
      refine .t (by simp; omega) (.gd (by omega) ?_)
      have e2 : nth E_i (turnL a0.f3) (p.length : Int) = c := nth_app' h rfl
      have e1 : w64 ((p.length : Int) + 1) = (((p ++ [c]).length : Nat) : Int) := by rw [w64_of (by omega) (by omega)]; simp
      rw [e2, e1]
      refine .bind (be_Put2 c) (.gd (fits_small (by simp [put2]; omega) (by decide)) ?_)
      exact L_compo_pack t (p ++ [c]) (acc ++ put2 c) (by rw [h]; simp) (by simp [put2]; omega) (by rw [hr]; simp [putL]))
theorem flag_eq (p : T_SiiiA4ie) {b : Int} (hb : b = 0 ∨ b = 32 ∨ b = 256) : (if ((!decide (p.f3.a1 = 0)) || (!decide (p.f3.a2 = 0))) then (bits .or .i64 (if wide p then (bits .or .i64 (bits .or .i64 2 b) 1) else (bits .or .i64 2 b)) 128) else (if (!decide (p.f3.a0 = p.f3.a3)) then (bits .or .i64 (if wide p then (bits .or .i64 (bits .or .i64 2 b) 1) else (bits .or .i64 2 b)) 64) else (if (!decide (p.f3.a0 = 16384)) then (bits .or .i64 (if wide p then (bits .or .i64 (bits .or .i64 2 b) 1) else (bits .or .i64 2 b)) 8) else (if wide p then (bits .or .i64 (bits .or .i64 2 b) 1) else (bits .or .i64 2 b))))) = flagP p b := by
  unfold flagP turnF
  by_cases h1 : p.f3.a1 = 0 <;> by_cases h2 : p.f3.a2 = 0 <;> by_cases h3 : p.f3.a0 = p.f3.a3 <;> by_cases h4 : p.f3.a0 = 16384 <;> cases hwd : wide p <;> simp only [h1, h2, h3, h4] <;> rcases hb with rfl | rfl | rfl <;> simp_all <;> first | rfl | (split <;> first | rfl | omega | simp_all)
theorem compo_pack (p : T_SiiiA4ie) {b : Int} (hb : b = 0 ∨ b = 32 ∨ b = 256) : Ev (fun n => F_compo_pack n p b) (packS p b) := by
  have hw : ((!decide (p.f1 = w64 (IntKind.wrap .i8 p.f1))) || (!decide (p.f2 = w64 (IntKind.wrap .i8 p.f2)))) = wide p := by
    rw [i8_same, i8_same]; unfold wide
    by_cases h1 : p.f1 < -128 ∨ 127 < p.f1 <;> by_cases h2 : p.f2 < -128 ∨ 127 < p.f2 <;> simp [h1, h2] <;> omega
  have hww : (if wide p then (2 : Int) else 1) = (wP p : Int) := by unfold wP; split <;> rfl
  have hwp : wP p = 1 ∨ wP p = 2 := by unfold wP; split <;> simp
  have hf := flag_eq p hb
  simp only [F_compo_pack, hw, hww, hf]
  have l1 := putW_len (wP p) p.f1
  have l2 := putW_len (wP p) p.f2
  refine .bind (be_Put2 _) (.bind (be_Put2 _) (.gd (fits_small (by simp [put2]) (by decide)) (.bind (be_PutW _ hwp _) (.gd (fits_small (by simp [put2]; omega) (by decide)) (.bind (be_PutW _ hwp _) (.gd (fits_small (by simp [put2]; omega) (by decide)) (.lj ?_)))))))
  exact L_compo_pack (turnL p.f3) [] _ rfl (by simp [put2]; omega) (by simp [packS])
end Go.Proofs.Ytgkekjfbacncoaa
set_option linter.unusedSimpArgs false
set_option linter.unusedVariables false
open Go Go.Ab
namespace Go.Proofs.Ytgkekjfbacncoaa
def WP (p : T_SiiiA4ie) : Prop := I64 p.f0 ∧ I64 p.f1 ∧ I64 p.f2 ∧ I64 p.f3.a0 ∧ I64 p.f3.a1 ∧ I64 p.f3.a2 ∧ I64 p.f3.a3
def WPt (p : T_Siie) : Prop := I64 p.f0 ∧ I64 p.f1
theorem partsW_cons (last : Int) (c : T_SiiiA4ie) (t : List T_SiiiA4ie) : partsW last (c :: t) = packS c (if t = [] then last else 32) ++ partsW last t := by
  cases t with
  | nil => simp [partsW]
  | cons d t => simp [partsW]
theorem L_compo_Write_0_ev {a2 a3 : T_Siie} {r : R_compo_Write} : ∀ (t p acc : List Int) (J : Nat → List Int → Option R_compo_Write), [(-1), a2.f0, a2.f1, a3.f0, a3.f1] = p ++ t → acc.length ≤ 100 + 2 * p.length →
    Ev (fun n => J n (acc ++ putL t)) r → Ev (fun n => L_compo_Write_0 a2 a3 (J n) n acc (p.length : Int)) r
  | [], p, acc, J, h, ha, hJ => .succ (by
      simp only [L_compo_Write_0]
      refine .e (by rw [h]; simp) ?_
      have := hJ.shift
      simpa [putL] using this)
  | c :: t, p, acc, J, h, ha, hJ => .succ (by
      have hlen : 5 = p.length + (t.length + 1) := by
        have := congrArg List.length h
        simpa using this
      simp only [L_compo_Write_0]
      refine .t (by simp; omega) (.gd (by simp; omega) ?_)
      have e2 : nth E_i [(-1), a2.f0, a2.f1, a3.f0, a3.f1] (p.length : Int) = c := nth_app' h rfl
      have e1 : w64 ((p.length : Int) + 1) = (((p ++ [c]).length : Nat) : Int) := by rw [w64_of (by omega) (by omega)]; simp
      rw [e2, e1]
      refine .bind (be_Put2 c) (.gd (fits_small (by simp [put2]; omega) (by decide)) ?_)
      refine L_compo_Write_0_ev t (p ++ [c]) (acc ++ put2 c) (fun n => J (n + 1)) (by rw [h]; simp) (by simp [put2]; omega) ?_
      have := hJ.shift
      simpa [putL] using this)
theorem all_good_cons (c : T_SiiiA4ie) (t : List T_SiiiA4ie) : (c :: t).all goodP = (goodP c && t.all goodP) := rfl
theorem L_compo_Write_1_ev {a0 : List T_SiiiA4ie} {a1 : List Int} {a2 a3 : T_Siie} {r : R_compo_Write} (hl : a0.length ≤ 64) (hw : ∀ p ∈ a0, WP p) :
    ∀ (t p : List T_SiiiA4ie) (acc : List Int) (J : Nat → List Int → Option R_compo_Write), a0 = p ++ t → acc.length ≤ 100 + 16 * p.length →
    (t.all goodP = true → Ev (fun n => J n (acc ++ partsW (lastF a1) t)) r) → (t.all goodP = false → r = ([], 6)) → Ev (fun n => L_compo_Write_1 a0 a1 a2 a3 (J n) n acc (p.length : Int)) r
  | [], p, acc, J, h, ha, hJ, hN => .succ (by
      simp only [L_compo_Write_1]
      refine .e (by rw [h]; simp) ?_
      have := (hJ rfl).shift
      simpa [partsW] using this)
  | c :: t, p, acc, J, h, ha, hJ, hN => .succ (by
      have hlen : a0.length = p.length + (t.length + 1) := by rw [h]; simp
      simp only [L_compo_Write_1]
      refine .t (by simp; omega) (.gd (by omega) (.lj ?_))
      have e2 : nth E_SiiiA4ie a0 (p.length : Int) = c := nth_app' h rfl
      have e1 : w64 ((p.length : Int) + 1) = (((p ++ [c]).length : Nat) : Int) := by rw [w64_of (by omega) (by omega)]; simp
      have e3 : (if (decide ((p.length : Int) < (w64 ((a0.length : Int) - 1)))) then (32 : Int) else (if (decide (0 < (a1.length : Int))) then 256 else 0)) = if t = [] then lastF a1 else 32 := by
        rw [w64_of (x := (a0.length : Int) - 1) (by omega) (by omega)]
        cases t with
        | nil =>
          simp only [List.length_nil] at hlen
          rw [decide_eq_false (by omega)]
          unfold lastF
          cases a1 <;> simp <;> omega
        | cons d t =>
          simp only [List.length_cons] at hlen
          rw [decide_eq_true (by omega)]; simp
      have hwc : WP c := hw c (by rw [h]; simp)
      obtain ⟨w0, w1, w2, w3, w4, w5, w6⟩ := hwc
      have hb3 : (if t = [] then lastF a1 else (32 : Int)) = 0 ∨ (if t = [] then lastF a1 else (32 : Int)) = 32 ∨ (if t = [] then lastF a1 else (32 : Int)) = 256 := by
        unfold lastF; split <;> (try split) <;> simp
      rw [e2, e1, e3]
      have go : goodP c = true → Ev (fun n => Option.bind (F_compo_pack n c (if t = [] then lastF a1 else 32)) fun v28 => gd (fits (acc.length + v28.length) 1 = true) (L_compo_Write_1 a0 a1 a2 a3 (J (n + 1)) n (acc ++ v28) (((p ++ [c]).length : Nat) : Int))) r := by
        intro hg
        refine .bind (compo_pack c hb3) (.gd (fits_small (by have := packS_len c (if t = [] then lastF a1 else 32); omega) (by decide)) ?_)
        refine L_compo_Write_1_ev hl hw t (p ++ [c]) _ (fun n => J (n + 1)) (by rw [h]; simp) ?_ (fun ht => ?_) (fun ht => hN (by rw [all_good_cons, ht]; simp))
        · have := packS_len c (if t = [] then lastF a1 else 32)
          simp; omega
        · have := (hJ (by rw [all_good_cons, hg, ht]; rfl)).shift
          rw [partsW_cons, ← List.append_assoc] at this
          exact this
      have no : goodP c = false → Ev (fun n => (some ([], 6) : Option R_compo_Write)) r := fun hg => .ret' (hN (by rw [all_good_cons, hg]; rfl)).symm
      have hgd : goodP c = (decide (0 ≤ c.f0 ∧ c.f0 ≤ 65535) && (sh c.f1 && (sh c.f2 && (sh c.f3.a0 && (sh c.f3.a1 && (sh c.f3.a2 && sh c.f3.a3)))))) := rfl
      rw [u16_same]
      cases h0 : decide (0 ≤ c.f0 ∧ c.f0 ≤ 65535)
      · rw [h0, Bool.false_and] at hgd
        exact .t rfl (.t rfl (no hgd))
      · rw [h0, Bool.true_and] at hgd
        refine .e rfl (.bind (compo_short (l := [c.f1, c.f2]) (by simp) (by simp; exact ⟨w1, w2⟩)) ?_)
        have s1 : ([c.f1, c.f2] : List Int).all sh = (sh c.f1 && sh c.f2) := by simp
        rw [s1]
        cases h1 : (sh c.f1 && sh c.f2)
        · refine .t rfl (.t rfl (no ?_))
          rw [hgd, ← Bool.and_assoc, h1]; rfl
        · rw [← Bool.and_assoc, h1, Bool.true_and] at hgd
          refine .e rfl (.bind (compo_short (l := [c.f3.a0, c.f3.a1, c.f3.a2, c.f3.a3]) (by simp) (by simp; exact ⟨w3, w4, w5, w6⟩)) ?_)
          have s2 : ([c.f3.a0, c.f3.a1, c.f3.a2, c.f3.a3] : List Int).all sh = (sh c.f3.a0 && (sh c.f3.a1 && (sh c.f3.a2 && sh c.f3.a3))) := by simp
          rw [s2, ← hgd]
          cases h2 : goodP c
          · exact .t rfl (no h2)
          · exact .e rfl (go h2))
theorem partsW_len (last : Int) : ∀ l : List T_SiiiA4ie, (partsW last l).length ≤ 16 * l.length
  | [] => by simp [partsW]
  | c :: t => by
    rw [partsW_cons, List.length_append, List.length_cons]
    have := packS_len c (if t = [] then last else 32)
    have := partsW_len last t
    omega
theorem compo_Write {l : List T_SiiiA4ie} {code : List Int} {a b : T_Siie} (hw : ∀ p ∈ l, WP p) (hc : code.length ≤ 140737488351232) (ha : WPt a) (hb : WPt b) : Ev (fun n => F_compo_Write n l code a b) (compoWrite l code a b) := by
  simp only [F_compo_Write, compoWrite]
  by_cases h0 : l = []
  · subst h0; simp only [if_true]; exact .t rfl (.ret _)
  · have hl0 : 0 < l.length := List.length_pos_iff.2 h0
    simp only [h0, if_false]
    refine .e (by simp [h0]) ?_
    by_cases h1 : 64 < l.length ∨ 65535 < code.length
    · simp only [h1, if_true]
      exact .t (by simp; omega) (.ret _)
    · simp only [h1, if_false]
      refine .e (by simp; omega) (.bind (compo_short (l := [a.f0, a.f1, b.f0, b.f1]) (by simp) (by simp; exact ⟨ha.1, ha.2, hb.1, hb.2⟩)) ?_)
      have s2 : ([a.f0, a.f1, b.f0, b.f1] : List Int).all sh = (sh a.f0 && (sh a.f1 && (sh b.f0 && sh b.f1))) := by simp
      rw [s2]
      cases h2 : (sh a.f0 && (sh a.f1 && (sh b.f0 && sh b.f1)))
      · exact .t rfl (.ret _)
      · refine .e rfl (.lj ?_)
        simp only [Bool.not_true, Bool.false_eq_true, if_false]
        refine L_compo_Write_0_ev _ [] [] (fun n x13 => _) rfl (by simp) ?_
        have hhead : putL [(-1), a.f0, a.f1, b.f0, b.f1] = headW a b := by simp [putL, headW]
        refine .lj ?_
        rw [List.nil_append, hhead]
        refine L_compo_Write_1_ev (by omega) hw l [] (headW a b) (fun n x30 => _) rfl (by simp [headW, put2]) (fun hg => ?_) (fun hg => ?_)
        · rw [hg]
          simp only [Bool.not_true, Bool.false_eq_true, if_false]
          refine .lj ?_
          unfold codeW
          have hpl := partsW_len (lastF code) l
          have hhl : (headW a b).length = 10 := by simp [headW, put2]
          cases code with
          | nil => exact .e rfl (.ret' (by simp))
          | cons c0 cs =>
            refine .t (by simp <;> omega) (.bind (be_Put2 _) (.gd (fits_small (by simp [put2, hhl] at hpl ⊢; omega) (by decide)) (.gd (fits_small (by simp [put2, hhl] at hpl h1 ⊢; omega) (by decide)) (.ret' ?_))))
            simp
        · rw [hg]; rfl
end Go.Proofs.Ytgkekjfbacncoaa
set_option linter.unusedSimpArgs false
set_option linter.unusedVariables false
open Go Go.Ab
namespace Go.Proofs.Ytgkekjfbacncoaa
theorem r08_short (x : Int) : Ev (fun n => F_r08_short n x) (sh x) := by
  simp only [F_r08_short]
  unfold sh
  by_cases h : -32768 ≤ x
  · exact .t (decide_eq_true h) (.ret' (by simp [h]))
  · exact .e (decide_eq_false h) (.ret' (by simp [h]))
theorem r02_PutW (w : Nat) (hw : w = 1 ∨ w = 2) (v : Int) : Ev (fun n => F_r02_Put n v (w : Int)) (putW w v) := by
  rcases hw with rfl | rfl
  · exact r02_Put1 v
  · exact r02_Put2 v
theorem r08_turn (m : T_A4i) : Ev (fun n => F_r08_turn n m) (turnF m, turnL m) := by
  simp only [F_r08_turn]
  unfold turnF turnL
  by_cases h1 : m.a1 ≠ 0 ∨ m.a2 ≠ 0
  · refine .t (by simpa using h1) (.ret' (by simp only [h1, if_true]))
  · refine .e (by simpa using h1) ?_
    simp only [h1, if_false]
    by_cases h2 : m.a0 ≠ m.a3
    · exact .t (by simpa using h2) (.ret' (by simp [h2]))
    · refine .e (by simpa using h2) ?_
      simp only [h2, if_false]
      by_cases h3 : m.a0 ≠ 16384
      · exact .t (by simpa using h3) (.ret' (by simp [h3]))
      · exact .e (by simpa using h3) (.ret' (by simp only [h3, if_false]))
theorem L_r08_Write_0_ev {a2 a3 : T_Siie} {r : R_r08_Write} : ∀ (t p acc : List Int) (J : Nat → List Int → Option R_r08_Write), [a2.f0, a2.f1, a3.f0, a3.f1] = p ++ t → acc.length ≤ 100 + 2 * p.length →
    (t.all sh = true → Ev (fun n => J n (acc ++ putL t)) r) → (t.all sh = false → r = ([], 6)) → Ev (fun n => L_r08_Write_0 a2 a3 (J n) n acc (p.length : Int)) r
  | [], p, acc, J, h, ha, hJ, hN => .succ (by
      have hlen : 4 = p.length := by
        have := congrArg List.length h
        simpa using this
      simp only [L_r08_Write_0]
      refine .e (by simp; omega) ?_
      have := (hJ rfl).shift
      simpa [putL] using this)
  | c :: t, p, acc, J, h, ha, hJ, hN => .succ (by
      have hlen : 4 = p.length + (t.length + 1) := by
        have := congrArg List.length h
        simpa using this
      simp only [L_r08_Write_0]
      refine .t (by simp; omega) (.gd (by omega) ?_)
      have e2 : nth E_i [a2.f0, a2.f1, a3.f0, a3.f1] (p.length : Int) = c := nth_app' h rfl
      have e1 : w64 ((p.length : Int) + 1) = (((p ++ [c]).length : Nat) : Int) := by rw [w64_of (by omega) (by omega)]; simp
      rw [e2, e1]
      refine .bind (r08_short c) ?_
      cases hc : sh c
      · exact .t rfl (.ret' (hN (by simp [hc])).symm)
      · refine .e rfl (.bind (r02_Put2 c) (.gd (fits_small (by simp [put2]; omega) (by decide)) ?_))
        refine L_r08_Write_0_ev t (p ++ [c]) (acc ++ put2 c) (fun n => J (n + 1)) (by rw [h]; simp) (by simp [put2]; omega) (fun ht => ?_) (fun ht => hN (by rw [List.all_cons, ht]; simp))
        have := (hJ (by rw [List.all_cons, ht, hc]; rfl)).shift
        simpa [putL] using this)
theorem L_r08_Write_2_ev {v : R_r08_turn} (hv : v.2.length ≤ 4) {r : R_r08_Write} : ∀ (t p acc : List Int) (J : Nat → List Int → Option R_r08_Write), v.2 = p ++ t → acc.length ≤ 10000 + 2 * p.length →
    Ev (fun n => J n (acc ++ putL t)) r → Ev (fun n => L_r08_Write_2 v (J n) n acc (p.length : Int)) r
  | [], p, acc, J, h, ha, hJ => .succ (by
      simp only [L_r08_Write_2]
      refine .e (by rw [h]; simp) ?_
      have := hJ.shift
      simpa [putL] using this)
  | c :: t, p, acc, J, h, ha, hJ => .succ (by
      have hlen : v.2.length = p.length + (t.length + 1) := by rw [h]; simp
      simp only [L_r08_Write_2]
      refine .t (by simp; omega) (.gd (by omega) ?_)
      have e2 : nth E_i v.2 (p.length : Int) = c := nth_app' h rfl
      have e1 : w64 ((p.length : Int) + 1) = (((p ++ [c]).length : Nat) : Int) := by rw [w64_of (by omega) (by omega)]; simp
      rw [e2, e1]
      refine .bind (r02_Put2 c) (.gd (fits_small (by simp [put2]; omega) (by decide)) ?_)
      refine L_r08_Write_2_ev hv t (p ++ [c]) (acc ++ put2 c) (fun n => J (n + 1)) (by rw [h]; simp) (by simp [put2]; omega) ?_
      have := hJ.shift
      simpa [putL] using this)
theorem turnF_bd (m : T_A4i) : 0 ≤ turnF m ∧ turnF m ≤ 128 := by unfold turnF; split <;> (try split) <;> (try split) <;> omega
theorem L_r08_Write_1_ev {a0 : List T_SiiiA4ie} {a1 : List Int} {a2 a3 : T_Siie} {r : R_r08_Write} (hl : a0.length ≤ 64) :
    ∀ (t p : List T_SiiiA4ie) (acc : List Int) (J : Nat → List Int → Option R_r08_Write), a0 = p ++ t → acc.length ≤ 100 + 16 * p.length →
    (t.all goodP = true → Ev (fun n => J n (acc ++ partsW (lastF a1) t)) r) → (t.all goodP = false → r = ([], 6)) → Ev (fun n => L_r08_Write_1 a0 a1 a2 a3 (J n) n acc (p.length : Int)) r
  | [], p, acc, J, h, ha, hJ, hN => .succ (by
      simp only [L_r08_Write_1]
      refine .e (by rw [h]; simp) ?_
      have := (hJ rfl).shift
      simpa [partsW] using this)
  | c :: t, p, acc, J, h, ha, hJ, hN => .succ (by
      have hlen : a0.length = p.length + (t.length + 1) := by rw [h]; simp
      simp only [L_r08_Write_1]
      refine .t (by simp; omega) (.lj (.gd (by omega) (.lj ?_)))
      have e2 : nth E_SiiiA4ie a0 (p.length : Int) = c := nth_app' h rfl
      have e1 : w64 ((p.length : Int) + 1) = (((p ++ [c]).length : Nat) : Int) := by rw [w64_of (by omega) (by omega)]; simp
      have hbd := turnF_bd c.f3
      have ewide : (decide (c.f1 < -128) || (decide (127 < c.f1) || (decide (c.f2 < -128) || decide (127 < c.f2)))) = wide c := by
        unfold wide
        by_cases h1 : c.f1 < -128 <;> by_cases h2 : 127 < c.f1 <;> by_cases h3 : c.f2 < -128 <;> by_cases h4 : 127 < c.f2 <;> simp [h1, h2, h3, h4]
      have eX : (if wide c then w64 (w64 (turnF c.f3 + 2) + 1) else w64 (turnF c.f3 + 2)) = turnF c.f3 + 2 + (if wide c then 1 else 0) := by
        cases wide c
        · simp only [Bool.false_eq_true, if_false]; rw [w64_of (by omega) (by omega)]; omega
        · simp only [if_true]; rw [w64_of (x := turnF c.f3 + 2) (by omega) (by omega), w64_of (by omega) (by omega)]
      have hX : 0 ≤ turnF c.f3 + 2 + (if wide c then 1 else 0) ∧ turnF c.f3 + 2 + (if wide c then 1 else 0) ≤ 131 := by split <;> omega
      have e3 : (if (decide ((p.length : Int) < (w64 ((a0.length : Int) - 1)))) then w64 (turnF c.f3 + 2 + (if wide c then 1 else 0) + 32) else (if (decide (0 < (a1.length : Int))) then w64 (turnF c.f3 + 2 + (if wide c then 1 else 0) + 256) else turnF c.f3 + 2 + (if wide c then 1 else 0))) = flagP c (if t = [] then lastF a1 else 32) := by
        rw [w64_of (x := (a0.length : Int) - 1) (by omega) (by omega), w64_of (x := _ + 32) (by omega) (by omega), w64_of (x := _ + 256) (by omega) (by omega)]
        cases t with
        | nil =>
          simp only [List.length_nil] at hlen
          rw [decide_eq_false (by omega)]
          unfold flagP lastF
          cases a1 <;> simp <;> omega
        | cons d t =>
          simp only [List.length_cons] at hlen
          rw [decide_eq_true (by omega)]; simp [flagP]
      have hww : (if wide c then (2 : Int) else 1) = (wP c : Int) := by unfold wP; split <;> rfl
      have hwp : wP c = 1 ∨ wP c = 2 := by unfold wP; split <;> simp
      rw [e2, e1]
      have l1 := putW_len (wP c) c.f1
      have l2 := putW_len (wP c) c.f2
      have htl := turnL_len c.f3
      have no : goodP c = false → Ev (fun n => (some ([], 6) : Option R_r08_Write)) r := fun hg => .ret' (hN (by rw [all_good_cons, hg]; rfl)).symm
      have hgd : goodP c = (decide (0 ≤ c.f0 ∧ c.f0 ≤ 65535) && (sh c.f1 && (sh c.f2 && (sh c.f3.a0 && (sh c.f3.a1 && (sh c.f3.a2 && sh c.f3.a3)))))) := rfl
      by_cases h0 : c.f0 < 0
      · exact .t (decide_eq_true h0) (.t rfl (no (by rw [hgd, decide_eq_false (by omega)]; rfl)))
      refine .e (decide_eq_false h0) ?_
      by_cases h00 : 65535 < c.f0
      · exact .t (decide_eq_true h00) (.t rfl (no (by rw [hgd, decide_eq_false (by omega)]; rfl)))
      rw [decide_eq_true (show 0 ≤ c.f0 ∧ c.f0 ≤ 65535 by omega), Bool.true_and] at hgd
      refine .e (decide_eq_false h00) (.bind (r08_short _) ?_)
      cases h1 : sh c.f1
      · exact .t rfl (.t rfl (no (by rw [hgd, h1]; rfl)))
      rw [h1, Bool.true_and] at hgd
      refine .e rfl (.bind (r08_short _) ?_)
      cases h2 : sh c.f2
      · exact .t rfl (.t rfl (no (by rw [hgd, h2]; rfl)))
      rw [h2, Bool.true_and] at hgd
      refine .e rfl (.bind (r08_short _) ?_)
      cases h3 : sh c.f3.a0
      · exact .t rfl (.t rfl (no (by rw [hgd, h3]; rfl)))
      rw [h3, Bool.true_and] at hgd
      refine .e rfl (.bind (r08_short _) ?_)
      cases h4 : sh c.f3.a1
      · exact .t rfl (.t rfl (no (by rw [hgd, h4]; rfl)))
      rw [h4, Bool.true_and] at hgd
      refine .e rfl (.bind (r08_short _) ?_)
      cases h5 : sh c.f3.a2
      · exact .t rfl (.t rfl (no (by rw [hgd, h5]; rfl)))
      rw [h5, Bool.true_and] at hgd
      refine .e rfl (.bind (r08_short _) ?_)
      cases h6 : sh c.f3.a3
      · exact .t rfl (no (by rw [hgd, h6]))
      rw [h6] at hgd
      refine .e rfl (.bind (r08_turn _) ?_)
      simp only [ewide, eX, e3, hww]
      refine .bind (r02_Put2 _) (.gd (fits_small (by simp [put2]; omega) (by decide)) (.bind (r02_Put2 _) (.gd (fits_small (by simp [put2]; omega) (by decide)) (.bind (r02_PutW _ hwp _) (.gd (fits_small (by simp [put2]; omega) (by decide)) (.bind (r02_PutW _ hwp _) (.gd (fits_small (by simp [put2]; omega) (by decide)) (.lj ?_))))))))
      refine L_r08_Write_2_ev (v := (turnF c.f3, turnL c.f3)) htl (turnL c.f3) [] _ (fun n x59 => _) rfl (by simp [put2]; omega) ?_
      have hpk := packS_len c (if t = [] then lastF a1 else 32)
      have := L_r08_Write_1_ev (a1 := a1) (a2 := a2) (a3 := a3) (r := r) hl t (p ++ [c]) (acc ++ packS c (if t = [] then lastF a1 else 32)) (fun n => J (n + 1)) (by rw [h]; simp) (by simp; omega) (fun ht => by
        have := (hJ (by rw [all_good_cons, hgd, ht]; rfl)).shift
        rw [partsW_cons, ← List.append_assoc] at this
        exact this) (fun ht => hN (by rw [all_good_cons, ht]; simp))
      simpa [packS] using this)
theorem r08_Write {l : List T_SiiiA4ie} {code : List Int} {a b : T_Siie} (hc : code.length ≤ 140737488351232) : Ev (fun n => F_r08_Write n l code a b) (compoWrite l code a b) := by
  simp only [F_r08_Write, compoWrite]
  by_cases h0 : l = []
  · subst h0; simp only [if_true]; exact .t rfl (.ret _)
  · have hl0 : 0 < l.length := List.length_pos_iff.2 h0
    simp only [h0, if_false]
    refine .e (by simp [h0]) ?_
    by_cases h1 : 64 < l.length ∨ 65535 < code.length
    · simp only [h1, if_true]
      exact .t (by simp; omega) (.ret _)
    · simp only [h1, if_false]
      refine .e (by simp; omega) (.bind (r02_Put2 _) (.lj ?_))
      have s2 : ([a.f0, a.f1, b.f0, b.f1] : List Int).all sh = (sh a.f0 && (sh a.f1 && (sh b.f0 && sh b.f1))) := by simp
      refine L_r08_Write_0_ev _ [] (put2 (-1)) (fun n x14 => _) rfl (by simp [put2]) (fun hs => ?_) (fun hs => by rw [s2] at hs; rw [hs]; rfl)
      rw [s2] at hs
      rw [hs]
      simp only [Bool.not_true, Bool.false_eq_true, if_false]
      have hhead : put2 (-1) ++ putL [a.f0, a.f1, b.f0, b.f1] = headW a b := by simp [putL, headW]
      refine .lj ?_
      rw [hhead]
      refine L_r08_Write_1_ev (by omega) l [] (headW a b) (fun n x61 => _) rfl (by simp [headW, put2]) (fun hg => ?_) (fun hg => by rw [hg]; rfl)
      rw [hg]
      simp only [Bool.not_true, Bool.false_eq_true, if_false]
      refine .lj ?_
      unfold codeW
      have hpl := partsW_len (lastF code) l
      have hhl : (headW a b).length = 10 := by simp [headW, put2]
      cases code with
      | nil => exact .e rfl (.ret' (by simp))
      | cons c0 cs =>
        refine .t (by simp <;> omega) (.bind (r02_Put2 _) (.gd (fits_small (by simp [put2, hhl] at hpl ⊢; omega) (by decide)) (.gd (fits_small (by simp [put2, hhl] at hpl h1 ⊢; omega) (by decide)) (.ret' ?_))))
        simp
end Go.Proofs.Ytgkekjfbacncoaa
set_option linter.unusedSimpArgs false
set_option linter.unusedVariables false
open Go Go.Ab
namespace Go.Proofs.Ytgkekjfbacncoaa
theorem rdU_put2 {f : Int} (h0 : 0 ≤ f) (h1 : f ≤ 65535) (s : List Int) : rdU 2 (.ok (put2 f ++ s)) = (f, .ok s) := by
  simp only [rdU]
  rw [if_neg (by simp [put2])]
  have : (put2 f ++ s).take 2 = put2 f := by simp [put2]
  rw [this, beU_put2 h0 h1]; simp [put2]
theorem sh_iff {x : Int} : sh x = true ↔ -32768 ≤ x ∧ x ≤ 32767 := by simp [sh]
theorem rd_put2 {x : Int} (h : sh x = true) (s : List Int) : rd 2 (.ok (put2 x ++ s)) = (x, .ok s) := by
  obtain ⟨h0, h1⟩ := sh_iff.1 h
  simp only [rd]
  rw [if_neg (by simp [put2])]
  have : (put2 x ++ s).take 2 = put2 x := by simp [put2]
  rw [this, beS_put2 h0 h1]; simp [put2]
theorem rd_put1 {x : Int} (h0 : -128 ≤ x) (h1 : x ≤ 127) (s : List Int) : rd 1 (.ok (put1 x ++ s)) = (x, .ok s) := by
  simp only [rd]
  rw [if_neg (by simp [put1])]
  have : (put1 x ++ s).take 1 = put1 x := by simp [put1]
  rw [this, beS_put1 h0 h1]; simp [put1]
theorem goodP_iff {p : T_SiiiA4ie} : goodP p = true ↔ (0 ≤ p.f0 ∧ p.f0 ≤ 65535) ∧ sh p.f1 = true ∧ sh p.f2 = true ∧ sh p.f3.a0 = true ∧ sh p.f3.a1 = true ∧ sh p.f3.a2 = true ∧ sh p.f3.a3 = true := by
  simp [goodP, and_assoc]
theorem turnF_cases (m : T_A4i) : (turnF m = 128 ∧ turnL m = [m.a0, m.a1, m.a2, m.a3]) ∨ (turnF m = 64 ∧ turnL m = [m.a0, m.a3] ∧ m.a1 = 0 ∧ m.a2 = 0) ∨
    (turnF m = 8 ∧ turnL m = [m.a0] ∧ m.a1 = 0 ∧ m.a2 = 0 ∧ m.a3 = m.a0) ∨ (turnF m = 0 ∧ turnL m = [] ∧ m = ⟨16384, 0, 0, 16384⟩) := by
  by_cases h1 : m.a1 ≠ 0 ∨ m.a2 ≠ 0
  · left; exact ⟨if_pos h1, if_pos h1⟩
  · have t1 : turnF m = if m.a0 ≠ m.a3 then 64 else if m.a0 ≠ 16384 then 8 else 0 := if_neg h1
    have t2 : turnL m = if m.a0 ≠ m.a3 then [m.a0, m.a3] else if m.a0 ≠ 16384 then [m.a0] else [] := if_neg h1
    have e1 : m.a1 = 0 := by omega
    have e2 : m.a2 = 0 := by omega
    by_cases h2 : m.a0 ≠ m.a3
    · right; left; exact ⟨by rw [t1, if_pos h2], by rw [t2, if_pos h2], e1, e2⟩
    · rw [if_neg h2] at t1 t2
      have e3 : m.a0 = m.a3 := by omega
      by_cases h3 : m.a0 ≠ 16384
      · right; right; left; exact ⟨by rw [t1, if_pos h3], by rw [t2, if_pos h3], e1, e2, e3.symm⟩
      · right; right; right
        refine ⟨by rw [t1, if_neg h3], by rw [t2, if_neg h3], ?_⟩
        obtain ⟨a, b, c, d⟩ := m
        simp only at e1 e2 e3 h3
        have : a = 16384 := by omega
        subst this; subst e1; subst e2; subst e3; rfl
theorem partS_pack {p : T_SiiiA4ie} (hg : goodP p = true) {b : Int} (hb : b = 0 ∨ b = 32 ∨ b = 256) (rest : List Int) : partS (.ok (packS p b ++ rest)) = (p, flagP p b, .ok rest) := by
  obtain ⟨⟨g0, g1⟩, hx, hy, m0, m1, m2, m3⟩ := goodP_iff.1 hg
  have htb := turnF_cases p.f3
  have hf : 0 ≤ flagP p b ∧ flagP p b ≤ 65535 := by
    have := turnF_bd p.f3
    unfold flagP; split <;> omega
  have hf2 : flagP p b / 2 % 2 = 1 := by
    unfold flagP
    rcases htb with ⟨h, _⟩ | ⟨h, _⟩ | ⟨h, _⟩ | ⟨h, _⟩ <;> rw [h] <;> rcases hb with rfl | rfl | rfl <;> cases wide p <;> decide
  have hfw : wOf (flagP p b) = wP p := by
    unfold flagP wOf wP
    rcases htb with ⟨h, _⟩ | ⟨h, _⟩ | ⟨h, _⟩ | ⟨h, _⟩ <;> rw [h] <;> rcases hb with rfl | rfl | rfl <;> cases wide p <;> decide
  have hrw : ∀ (x : Int) (s : List Int), (x = p.f1 ∨ x = p.f2) → rd (wP p) (.ok (putW (wP p) x ++ s)) = (x, .ok s) := by
    intro x s hx'
    unfold wP
    cases hw : wide p
    · simp only [Bool.false_eq_true, if_false, putW, if_true]
      have := hw
      simp only [wide, decide_eq_false_iff_not] at this
      refine rd_put1 ?_ ?_ s <;> rcases hx' with rfl | rfl <;> omega
    · simp only [if_true, putW]
      rw [if_neg (by decide)]
      refine rd_put2 ?_ s
      rcases hx' with rfl | rfl
      · exact hx
      · exact hy
  simp only [partS, packS, List.append_assoc]
  rw [rdU_put2 hf.1 hf.2]
  simp only
  rw [rdU_put2 g0 g1]
  simp only [flag2]
  rw [if_neg (by omega), hfw, hrw _ _ (.inl rfl)]
  simp only
  rw [hrw _ _ (.inr rfl)]
  simp only [turnS]
  have h8 : flagP p b / 8 % 2 = if turnF p.f3 = 8 then 1 else 0 := by
    unfold flagP
    rcases htb with ⟨h, _⟩ | ⟨h, _⟩ | ⟨h, _⟩ | ⟨h, _⟩ <;> rw [h] <;> rcases hb with rfl | rfl | rfl <;> cases wide p <;> decide
  have h64 : flagP p b / 64 % 2 = if turnF p.f3 = 64 then 1 else 0 := by
    unfold flagP
    rcases htb with ⟨h, _⟩ | ⟨h, _⟩ | ⟨h, _⟩ | ⟨h, _⟩ <;> rw [h] <;> rcases hb with rfl | rfl | rfl <;> cases wide p <;> decide
  have h128 : flagP p b / 128 % 2 = if turnF p.f3 = 128 then 1 else 0 := by
    unfold flagP
    rcases htb with ⟨h, _⟩ | ⟨h, _⟩ | ⟨h, _⟩ | ⟨h, _⟩ <;> rw [h] <;> rcases hb with rfl | rfl | rfl <;> cases wide p <;> decide
  obtain ⟨a, x, y, ⟨k0, k1, k2, k3⟩⟩ := p
  simp only at *
  rcases htb with ⟨h, hl⟩ | ⟨h, hl, e1, e2⟩ | ⟨h, hl, e1, e2, e3⟩ | ⟨h, hl, e⟩
  · rw [h8, h64, h128, h, hl]
    simp only [putL, List.append_nil, List.append_assoc]
    rw [if_neg (by decide), if_neg (by decide), if_pos (by decide)]
    rw [rd_put2 m0]; simp only; rw [rd_put2 m1]; simp only; rw [rd_put2 m2]; simp only; rw [rd_put2 m3]
  · rw [h8, h64, h, hl]
    simp only [putL, List.append_nil, List.append_assoc]
    rw [if_neg (by decide), if_pos (by decide)]
    rw [rd_put2 m0]; simp only; rw [rd_put2 m3, e1, e2]
  · rw [h8, h, hl]
    simp only [putL, List.append_nil, List.append_assoc]
    rw [if_pos (by decide)]
    rw [rd_put2 m0, e1, e2, e3]
  · rw [h8, h64, h128, h, hl]
    simp only [putL, List.nil_append]
    rw [if_neg (by decide), if_neg (by decide), if_neg (by decide)]
    rw [T_A4i.mk.injEq] at e
    obtain ⟨rfl, rfl, rfl, rfl⟩ := e; rfl
theorem flag_last (p : T_SiiiA4ie) {b : Int} (hb : b = 0 ∨ b = 32 ∨ b = 256) : flagP p b / 32 % 2 = (if b = 32 then 1 else 0) ∧ flagP p b / 256 % 2 = (if b = 256 then 1 else 0) := by
  unfold flagP
  rcases turnF_cases p.f3 with ⟨h, _⟩ | ⟨h, _⟩ | ⟨h, _⟩ | ⟨h, _⟩ <;> rw [h] <;> rcases hb with rfl | rfl | rfl <;> cases wide p <;> decide
theorem lastF_or (code : List Int) : lastF code = 0 ∨ lastF code = 256 := by unfold lastF; split <;> simp
theorem readS_parts {code : List Int} (hc : code.length ≤ 65535) (rest : List Int) : ∀ (l : List T_SiiiA4ie) (k : Nat) (acc : List T_SiiiA4ie), l ≠ [] → l.all goodP = true → acc.length + l.length ≤ 64 → acc.length + k = 64 →
    readS k acc (.ok (partsW (lastF code) l ++ (codeW code ++ rest))) = (acc ++ l, code, 0)
  | [], _, _, h, _, _, _ => absurd rfl h
  | c :: t, k, acc, _, hg, h64, hk => by
    rw [List.length_cons] at h64
    rw [all_good_cons, Bool.and_eq_true] at hg
    obtain ⟨k', rfl⟩ : ∃ k', k = k' + 1 := ⟨k - 1, by omega⟩
    have hl3 := lastF_or code
    have hb3 : (if t = [] then lastF code else (32 : Int)) = 0 ∨ (if t = [] then lastF code else (32 : Int)) = 32 ∨ (if t = [] then lastF code else (32 : Int)) = 256 := by split <;> omega
    obtain ⟨f1, f2⟩ := flag_last c hb3
    rw [readS_succ, partsW_cons, List.append_assoc, partS_pack hg.1 hb3]
    simp only
    cases t with
    | nil =>
      simp only [if_true] at f1 f2 ⊢
      rw [if_neg (by rw [f1]; split <;> omega)]
      simp only [partsW, List.nil_append, restS]
      by_cases hcode : code = []
      · subst hcode
        rw [if_pos (by rw [f2]; decide)]
      · have hl : lastF code = 256 := by unfold lastF; rw [if_neg hcode]
        rw [if_neg (by rw [f2, hl]; decide)]
        simp only [codeW, hcode, if_false, List.append_assoc]
        rw [rdU_put2 (by omega) (by omega)]
        simp only
        rw [if_neg (by simp; omega)]
        simp
    | cons d t =>
      rw [if_neg (show ¬ (d :: t = []) by simp)] at f1 ⊢
      simp only [if_true] at f1
      rw [if_pos f1, if_neg (by simp at h64; omega)]
      have := readS_parts hc rest (d :: t) k' (acc ++ [c]) (by simp) hg.2 (by simp at h64 ⊢; omega) (by simp; omega)
      rw [this]; simp
theorem readS_ok {l : List T_SiiiA4ie} {code : List Int} {a b : T_Siie} (he : (compoWrite l code a b).2 = 0) : l ≠ [] ∧ l.length ≤ 64 ∧ code.length ≤ 65535 ∧ l.all goodP = true ∧ (compoWrite l code a b).1 = headW a b ++ (partsW (lastF code) l ++ codeW code) := by
  unfold compoWrite at he ⊢
  by_cases h0 : l = []
  · simp [h0] at he
  simp only [h0, if_false] at he ⊢
  by_cases h1 : 64 < l.length ∨ 65535 < code.length
  · simp [h1] at he
  simp only [h1, if_false] at he ⊢
  cases h2 : (sh a.f0 && (sh a.f1 && (sh b.f0 && sh b.f1)))
  · rw [h2] at he; simp at he
  rw [h2] at he
  simp only [Bool.not_true, Bool.false_eq_true, if_false] at he ⊢
  cases h3 : l.all goodP
  · rw [h3] at he; simp at he
  exact ⟨h0, by omega, by omega, rfl, by simp⟩
theorem write_err {l : List T_SiiiA4ie} {code : List Int} {a b : T_Siie} (he : (compoWrite l code a b).2 ≠ 0) : (compoWrite l code a b).1 = [] := by
  unfold compoWrite at he ⊢
  by_cases h0 : l = []
  · simp [h0]
  simp only [h0, if_false] at he ⊢
  by_cases h1 : 64 < l.length ∨ 65535 < code.length
  · simp [h1]
  simp only [h1, if_false] at he ⊢
  cases h2 : (sh a.f0 && (sh a.f1 && (sh b.f0 && sh b.f1)))
  · simp
  rw [h2] at he
  simp only [Bool.not_true, Bool.false_eq_true, if_false] at he ⊢
  cases h3 : l.all goodP
  · simp
  · rw [h3] at he; simp at he
theorem head_len (a b : T_Siie) : (headW a b).length = 10 := by simp [headW, put2]
theorem read_head {a b : T_Siie} (s : List Int) : compoRead (headW a b ++ s) = readS 64 [] (.ok s) := by
  unfold compoRead
  have h := head_len a b
  rw [if_neg (by rw [List.length_append, h]; omega)]
  have h1 : (headW a b ++ s).take 2 = put2 (-1) := by simp [headW, put2]
  rw [h1, if_neg (by rw [beS_put2 (by decide) (by decide)]; decide)]
  rw [← h, List.drop_left]
theorem back {l : List T_SiiiA4ie} {code : List Int} {a b : T_Siie} (he : (compoWrite l code a b).2 = 0) (more : List Int) : compoRead ((compoWrite l code a b).1 ++ more) = (l, code, 0) := by
  obtain ⟨h0, h1, h2, h3, h4⟩ := readS_ok he
  rw [h4, List.append_assoc, read_head, List.append_assoc]
  have := readS_parts h2 more l 64 [] h0 h3 (by simpa using h1) rfl
  simpa using this
/-! ### what lacks bytes -/
def ext : Sx → List Int → Sx
  | .ok s, t => .ok (s ++ t)
  | e, _ => e
def Loc {α : Type} (F : Sx → α × Sx) : Prop := (∀ s t, (F s).2 = .error 3 ∨ F (ext s t) = ((F s).1, ext (F s).2 t)) ∧ (F (.error 3)).2 = .error 3
theorem loc_rd (w : Nat) : Loc (rd w) := by
  refine ⟨fun s t => ?_, rfl⟩
  cases s with
  | error e => right; rfl
  | ok s =>
    by_cases h : s.length < w
    · left; simp [rd, h]
    · right
      simp only [rd, ext, h, if_false]
      rw [if_neg (by rw [List.length_append]; omega), List.take_append_of_le_length (by omega), List.drop_append_of_le_length (by omega)]
theorem loc_rdU (w : Nat) : Loc (rdU w) := by
  refine ⟨fun s t => ?_, rfl⟩
  cases s with
  | error e => right; rfl
  | ok s =>
    by_cases h : s.length < w
    · left; simp [rdU, h]
    · right
      simp only [rdU, ext, h, if_false]
      rw [if_neg (by rw [List.length_append]; omega), List.take_append_of_le_length (by omega), List.drop_append_of_le_length (by omega)]
theorem loc_then {α β γ : Type} {F : Sx → α × Sx} {G : α → Sx → β × Sx} (k : α → β → γ) (hF : Loc F) (hG : ∀ a, Loc (G a)) : Loc (fun s => (k (F s).1 (G (F s).1 (F s).2).1, (G (F s).1 (F s).2).2)) := by
  refine ⟨fun s t => ?_, ?_⟩
  · rcases hF.1 s t with h | h
    · left; simp only; rw [h]; exact (hG _).2
    · simp only; rw [h]
      simp only
      rcases (hG (F s).1).1 (F s).2 t with h2 | h2
      · left; exact h2
      · right; rw [h2]
  · simp only; rw [hF.2]; exact (hG _).2
theorem loc_ret {α : Type} (a : α) : Loc (fun s => (a, s)) := ⟨fun s t => .inr rfl, rfl⟩
theorem loc_flag2 (f : Int) : Loc (fun s => ((), flag2 f s)) := by
  refine ⟨fun s t => ?_, rfl⟩
  right
  cases s with
  | error e => rfl
  | ok s => simp only [flag2, ext]; by_cases h : f / 2 % 2 = 0 <;> simp [h]
theorem loc_turnS (f : Int) : Loc (turnS f) := by
  unfold turnS
  by_cases h8 : f / 8 % 2 = 1
  · simp only [h8, if_true]
    exact loc_then (fun a (_ : Unit) => (⟨a, 0, 0, a⟩ : T_A4i)) (G := fun _ s => ((), s)) (loc_rd 2) fun _ => loc_ret ()
  · simp only [h8, if_false]
    by_cases h64 : f / 64 % 2 = 1
    · simp only [h64, if_true]
      exact loc_then (fun a b => (⟨a, 0, 0, b⟩ : T_A4i)) (G := fun _ => rd 2) (loc_rd 2) fun _ => loc_rd 2
    · simp only [h64, if_false]
      by_cases h128 : f / 128 % 2 = 1
      · simp only [h128, if_true]
        exact loc_then (fun a (b : Int × Int × Int) => (⟨a, b.1, b.2.1, b.2.2⟩ : T_A4i)) (G := fun _ s => (((rd 2 s).1, (rd 2 (rd 2 s).2).1, (rd 2 (rd 2 (rd 2 s).2).2).1), (rd 2 (rd 2 (rd 2 s).2).2).2)) (loc_rd 2) fun _ =>
          loc_then (fun a (b : Int × Int) => (a, b.1, b.2)) (G := fun _ s => (((rd 2 s).1, (rd 2 (rd 2 s).2).1), (rd 2 (rd 2 s).2).2)) (loc_rd 2) fun _ =>
            loc_then (fun a b => (a, b)) (G := fun _ => rd 2) (loc_rd 2) fun _ => loc_rd 2
      · simp only [h128, if_false]
        exact loc_ret _
theorem loc_part : Loc (fun s => (((partS s).1, (partS s).2.1), (partS s).2.2)) := by
  unfold partS
  exact loc_then (fun a (b : Int × Int × Int × T_A4i) => ((⟨b.1, b.2.1, b.2.2.1, b.2.2.2⟩ : T_SiiiA4ie), a)) (G := fun f s =>
      (((rdU 2 s).1, (rd (wOf f) (flag2 f (rdU 2 s).2)).1, (rd (wOf f) (rd (wOf f) (flag2 f (rdU 2 s).2)).2).1, (turnS f (rd (wOf f) (rd (wOf f) (flag2 f (rdU 2 s).2)).2).2).1), (turnS f (rd (wOf f) (rd (wOf f) (flag2 f (rdU 2 s).2)).2).2).2)) (loc_rdU 2) fun f =>
    loc_then (fun a (b : Int × Int × T_A4i) => (a, b.1, b.2.1, b.2.2)) (G := fun _ s => (((rd (wOf f) (flag2 f s)).1, (rd (wOf f) (rd (wOf f) (flag2 f s)).2).1, (turnS f (rd (wOf f) (rd (wOf f) (flag2 f s)).2).2).1), (turnS f (rd (wOf f) (rd (wOf f) (flag2 f s)).2).2).2)) (loc_rdU 2) fun _ =>
      loc_then (fun (_ : Unit) (b : Int × Int × T_A4i) => b) (G := fun _ s => (((rd (wOf f) s).1, (rd (wOf f) (rd (wOf f) s).2).1, (turnS f (rd (wOf f) (rd (wOf f) s).2).2).1), (turnS f (rd (wOf f) (rd (wOf f) s).2).2).2)) (loc_flag2 f) fun _ =>
        loc_then (fun a (b : Int × T_A4i) => (a, b.1, b.2)) (G := fun _ s => (((rd (wOf f) s).1, (turnS f (rd (wOf f) s).2).1), (turnS f (rd (wOf f) s).2).2)) (loc_rd _) fun _ =>
          loc_then (fun a b => (a, b)) (G := fun _ => turnS f) (loc_rd _) fun _ => loc_turnS f
theorem readS_cut {code : List Int} (hc : code.length ≤ 65535) : ∀ (l : List T_SiiiA4ie) (k : Nat) (acc : List T_SiiiA4ie) (s t : List Int), l ≠ [] → l.all goodP = true → acc.length + l.length ≤ 64 → acc.length + k = 64 → t ≠ [] →
    s ++ t = partsW (lastF code) l ++ codeW code → readS k acc (.ok s) = ([], [], 3)
  | [], _, _, _, _, h, _, _, _, _, _ => absurd rfl h
  | c :: l, k, acc, s, t, _, hg, h64, hk, ht, hst => by
    rw [List.length_cons] at h64
    rw [all_good_cons, Bool.and_eq_true] at hg
    obtain ⟨k', rfl⟩ : ∃ k', k = k' + 1 := ⟨k - 1, by omega⟩
    have hl3 := lastF_or code
    have hb3 : (if l = [] then lastF code else (32 : Int)) = 0 ∨ (if l = [] then lastF code else (32 : Int)) = 32 ∨ (if l = [] then lastF code else (32 : Int)) = 256 := by split <;> omega
    obtain ⟨f1, f2⟩ := flag_last c hb3
    rw [readS_succ]
    rcases loc_part.1 (.ok s) t with h | h
    · simp only at h
      generalize hv : partS (.ok s) = v at *
      obtain ⟨p, f, s'⟩ := v
      simp only at h
      subst h; rfl
    · simp only [ext] at h
      rw [hst, partsW_cons, List.append_assoc, partS_pack hg.1 hb3] at h
      generalize hv : partS (.ok s) = v at *
      obtain ⟨p, f, s'⟩ := v
      cases s' with
      | error e => simp [ext] at h
      | ok r =>
        simp only [Prod.mk.injEq, Except.ok.injEq] at h
        obtain ⟨⟨rfl, rfl⟩, h⟩ := h
        simp only
        cases l with
        | nil =>
          simp only [if_true] at f1 f2 ⊢
          rw [if_neg (by rw [f1]; split <;> omega)]
          simp only [partsW, List.nil_append] at h
          simp only [restS]
          by_cases hcode : code = []
          · subst hcode
            simp only [codeW, if_true] at h
            have := h.symm
            simp [ht] at this
          · have hl : lastF code = 256 := by unfold lastF; rw [if_neg hcode]
            rw [if_neg (by rw [f2, hl]; decide)]
            simp only [codeW, hcode, if_false] at h
            have hlen := congrArg List.length h
            have htl : 0 < t.length := List.length_pos_iff.2 ht
            simp only [List.length_append, put2, List.length_cons, List.length_nil] at hlen
            rcases (loc_rdU 2).1 (.ok r) t with h2 | h2
            · generalize hv : rdU 2 (.ok r) = v at *
              obtain ⟨n, s'⟩ := v
              simp only at h2; subst h2; rfl
            · simp only [ext] at h2
              rw [← h, rdU_put2 (by omega) (by omega)] at h2
              generalize hv : rdU 2 (.ok r) = v at *
              obtain ⟨n, s'⟩ := v
              cases s' with
              | error e => simp [ext] at h2
              | ok r' =>
                simp only [ext, Prod.mk.injEq, Except.ok.injEq] at h2
                obtain ⟨rfl, h3⟩ := h2
                simp only
                have := congrArg List.length h3
                rw [List.length_append] at this
                rw [if_pos (by omega)]
        | cons d l =>
          rw [if_neg (show ¬ (d :: l = []) by simp)] at f1 ⊢
          simp only [if_true] at f1
          rw [if_pos f1, if_neg (by simp at h64; omega)]
          exact readS_cut hc (d :: l) k' (acc ++ [c]) r t (by simp) hg.2 (by simp at h64 ⊢; omega) (by simp; omega) ht h.symm
theorem cut {l : List T_SiiiA4ie} {code : List Int} {a b : T_Siie} (he : (compoWrite l code a b).2 = 0) {s t : List Int} (ht : t ≠ []) (hst : s ++ t = (compoWrite l code a b).1) : compoRead s = ([], [], 3) := by
  obtain ⟨h0, h1, h2, h3, h4⟩ := readS_ok he
  rw [h4] at hst
  by_cases h10 : s.length < 10
  · unfold compoRead; rw [if_pos h10]
  · have hh := head_len a b
    have e1 : s = headW a b ++ s.drop 10 := by
      have : s.take 10 = headW a b := by
        have := congrArg (List.take 10) hst
        rw [List.take_append_of_le_length (by omega), ← hh, List.take_left] at this
        rw [← hh]; exact this
      rw [← this, List.take_append_drop]
    rw [e1, read_head]
    refine readS_cut h2 l 64 [] (s.drop 10) t h0 h3 (by simpa using h1) rfl ht ?_
    rw [e1, List.append_assoc] at hst
    exact List.append_cancel_left hst
/-! ### what was read can be written -/
theorem beS_bd {l : List Int} (hb : Bytes l) (h : l.length = 1 ∨ l.length = 2) : -32768 ≤ beS l ∧ beS l ≤ 32767 := by
  have := beU_bound hb
  unfold beS
  rcases h with h | h <;> rw [h] at this ⊢ <;> split <;> omega
def SB : Sx → Prop
  | .ok s => Bytes s
  | .error e => e ≠ 0
theorem rd_good {w : Nat} (hw : w = 1 ∨ w = 2) {s : Sx} (hs : SB s) : sh (rd w s).1 = true ∧ SB (rd w s).2 := by
  cases s with
  | error e => exact ⟨rfl, hs⟩
  | ok s =>
    simp only [rd]
    split
    · exact ⟨by decide, by simp [SB]⟩
    · exact ⟨sh_iff.2 (beS_bd (Bytes.take hs w) (by rw [List.length_take]; omega)), Bytes.drop hs w⟩
theorem rdU_good {s : Sx} (hs : SB s) : 0 ≤ (rdU 2 s).1 ∧ (rdU 2 s).1 ≤ 65535 ∧ SB (rdU 2 s).2 := by
  cases s with
  | error e => exact ⟨Int.le_refl _, by simp [rdU], hs⟩
  | ok s =>
    simp only [rdU]
    split
    · exact ⟨by decide, by decide, by simp [SB]⟩
    · have := beU_bound (Bytes.take hs 2)
      rw [List.length_take, Nat.min_eq_left (by omega)] at this
      exact ⟨this.1, by omega, Bytes.drop hs 2⟩
theorem turn_good (f : Int) {s : Sx} (hs : SB s) : (sh (turnS f s).1.a0 = true ∧ sh (turnS f s).1.a1 = true ∧ sh (turnS f s).1.a2 = true ∧ sh (turnS f s).1.a3 = true) ∧ SB (turnS f s).2 := by
  have h1 := rd_good (w := 2) (.inr rfl) hs
  have h2 := rd_good (w := 2) (.inr rfl) h1.2
  have h3 := rd_good (w := 2) (.inr rfl) h2.2
  have h4 := rd_good (w := 2) (.inr rfl) h3.2
  unfold turnS
  split
  · exact ⟨⟨h1.1, rfl, rfl, h1.1⟩, h1.2⟩
  · split
    · exact ⟨⟨h1.1, rfl, rfl, h2.1⟩, h2.2⟩
    · split
      · exact ⟨⟨h1.1, h2.1, h3.1, h4.1⟩, h4.2⟩
      · exact ⟨⟨rfl, rfl, rfl, rfl⟩, hs⟩
theorem part_good {s : Sx} (hs : SB s) : goodP (partS s).1 = true ∧ SB (partS s).2.2 := by
  have h1 := rdU_good hs
  have h2 := rdU_good h1.2.2
  have h3 : SB (flag2 (rdU 2 s).1 (rdU 2 (rdU 2 s).2).2) := by
    generalize (rdU 2 (rdU 2 s).2) = v at *
    obtain ⟨x, s'⟩ := v
    cases s' with
    | error e => exact h2.2.2
    | ok r => simp only [flag2]; split <;> first | (simp [SB]; done) | exact h2.2.2
  have hw : wOf (rdU 2 s).1 = 1 ∨ wOf (rdU 2 s).1 = 2 := by unfold wOf; split <;> simp
  have h4 := rd_good hw h3
  have h5 := rd_good hw h4.2
  have h6 := turn_good (rdU 2 s).1 h5.2
  exact ⟨goodP_iff.2 ⟨⟨h2.1, h2.2.1⟩, h4.1, h5.1, h6.1⟩, h6.2⟩
theorem restS_good {acc : List T_SiiiA4ie} {f : Int} {r : List Int} (hr : Bytes r) : ((restS acc f r).2.2 ≠ 0 ∧ (restS acc f r).1 = [] ∧ (restS acc f r).2.1 = []) ∨ ((restS acc f r).2.2 = 0 ∧ (restS acc f r).1 = acc ∧ (restS acc f r).2.1.length ≤ 65535 ∧ Bytes (restS acc f r).2.1) := by
  unfold restS
  split
  · right; exact ⟨rfl, rfl, by simp, .nil⟩
  · have := rdU_good (s := .ok r) hr
    generalize rdU 2 (.ok r) = v at *
    obtain ⟨k, s'⟩ := v
    cases s' with
    | error e => left; exact ⟨this.2.2, rfl, rfl⟩
    | ok r' =>
      simp only
      split
      · left; exact ⟨by simp, rfl, rfl⟩
      · right; refine ⟨rfl, rfl, ?_, Bytes.take this.2.2 _⟩
        rw [List.length_take]; omega
theorem readS_good : ∀ (k : Nat) (acc : List T_SiiiA4ie) (s : Sx), SB s → acc.all goodP = true → acc.length + k = 64 →
    ((readS k acc s).2.2 ≠ 0 ∧ (readS k acc s).1 = [] ∧ (readS k acc s).2.1 = []) ∨ ((readS k acc s).2.2 = 0 ∧ (readS k acc s).1.all goodP = true ∧ 1 ≤ (readS k acc s).1.length ∧ (readS k acc s).1.length ≤ 64 ∧ (readS k acc s).2.1.length ≤ 65535 ∧ Bytes (readS k acc s).2.1)
  | 0, acc, s, _, _, _ => by left; simp [readS]
  | k + 1, acc, s, hs, hg, hk => by
    rw [readS_succ]
    have hp := part_good hs
    generalize partS s = v at *
    obtain ⟨p, f, s'⟩ := v
    cases s' with
    | error e => left; exact ⟨hp.2, rfl, rfl⟩
    | ok r =>
      simp only at hp ⊢
      have hg' : (acc ++ [p]).all goodP = true := by rw [List.all_append, hg]; simp [hp.1]
      split
      · split
        · left; simp
        · exact readS_good k (acc ++ [p]) (.ok r) hp.2 hg' (by simp; omega)
      · rcases restS_good (acc := acc ++ [p]) (f := f) hp.2 with h | ⟨h1, h2, h3, h4⟩
        · left; exact h
        · right; rw [h2]; exact ⟨h1, hg', by simp, by simp; omega, h3, h4⟩
theorem read_good {b : List Int} (hb : Bytes b) : ((compoRead b).2.2 ≠ 0 ∧ (compoRead b).1 = [] ∧ (compoRead b).2.1 = []) ∨ ((compoRead b).2.2 = 0 ∧ (compoRead b).1.all goodP = true ∧ 1 ≤ (compoRead b).1.length ∧ (compoRead b).1.length ≤ 64 ∧ (compoRead b).2.1.length ≤ 65535 ∧ Bytes (compoRead b).2.1) := by
  unfold compoRead
  split
  · left; simp
  · split
    · left; simp
    · exact readS_good 64 [] _ (Bytes.drop hb 10) rfl rfl
/-! ### the bytes that are written -/
theorem putL_bytes : ∀ l, Bytes (putL l)
  | [] => .nil
  | x :: l => (put2_bytes x).append (putL_bytes l)
theorem packS_bytes (p : T_SiiiA4ie) (b : Int) : Bytes (packS p b) := (put2_bytes _).append ((put2_bytes _).append ((putW_bytes _ _).append ((putW_bytes _ _).append (putL_bytes _))))
theorem partsW_bytes (last : Int) : ∀ l, Bytes (partsW last l)
  | [] => .nil
  | c :: t => by rw [partsW_cons]; exact (packS_bytes _ _).append (partsW_bytes last t)
theorem write_bytes {l : List T_SiiiA4ie} {code : List Int} {a b : T_Siie} (hc : Bytes code) : Bytes (compoWrite l code a b).1 ∧ (compoWrite l code a b).1.length ≤ 70000 := by
  by_cases he : (compoWrite l code a b).2 = 0
  · obtain ⟨h0, h1, h2, h3, h4⟩ := readS_ok he
    rw [h4]
    have hpl := partsW_len (lastF code) l
    refine ⟨((put2_bytes _).append ((put2_bytes _).append ((put2_bytes _).append ((put2_bytes _).append (put2_bytes _))))).append ((partsW_bytes _ _).append ?_), ?_⟩
    · unfold codeW; split
      · exact .nil
      · exact (put2_bytes _).append hc
    · have : (codeW code).length ≤ code.length + 2 := by unfold codeW; split <;> simp [put2]
      simp only [List.length_append, head_len]; omega
  · rw [write_err he]; exact ⟨.nil, by simp⟩
end Go.Proofs.Ytgkekjfbacncoaa
set_option linter.unusedSimpArgs false
set_option linter.unusedVariables false
open Go Go.Ab
namespace Go.Proofs.Ytgkekjfbacncoaa
theorem alive08 : Ev (fun n => F_law08_alive n) true := .from 100 fun n => by kernel_rfl
theorem part_eq (a b : T_SiiiA4ie) : (((decide (a.f0 = b.f0)) && ((decide (a.f1 = b.f1)) && ((decide (a.f2 = b.f2)) && (((decide (a.f3.a0 = b.f3.a0)) && ((decide (a.f3.a1 = b.f3.a1)) && ((decide (a.f3.a2 = b.f3.a2)) && ((decide (a.f3.a3 = b.f3.a3)) && true)))) && true))))) = decide (a = b) := by
  obtain ⟨a0, a1, a2, ⟨a3, a4, a5, a6⟩⟩ := a
  obtain ⟨b0, b1, b2, ⟨b3, b4, b5, b6⟩⟩ := b
  by_cases h0 : a0 = b0 <;> by_cases h1 : a1 = b1 <;> by_cases h2 : a2 = b2 <;> by_cases h3 : a3 = b3 <;> by_cases h4 : a4 = b4 <;> by_cases h5 : a5 = b5 <;> by_cases h6 : a6 = b6 <;> simp [h0, h1, h2, h3, h4, h5, h6]
theorem L_r08_Same {a0 a1 : List T_SiiiA4ie} (hl : a0.length ≤ 140737488351232) : ∀ (t u p q : List T_SiiiA4ie), a0 = p ++ t → a1 = q ++ u → p.length = q.length → t.length = u.length → Ev (fun n => L_r08_Same_0 a0 a1 (fun _ => some true) n (p.length : Int)) (decide (t = u))
  | [], u, p, q, h, hu, hpq, htu => .succ (by
      simp only [L_r08_Same_0]
      have : u = [] := List.eq_nil_of_length_eq_zero htu.symm
      subst this
      exact .e (by rw [h]; simp) (.ret' (by simp)))
  | c :: t, u, p, q, h, hu, hpq, htu => .succ (by
      cases u with
      | nil => simp at htu
      | cons d u =>
      have hlen : a0.length = p.length + (t.length + 1) := by rw [h]; simp
      have hlen1 : a1.length = q.length + (u.length + 1) := by rw [hu]; simp
      simp only [L_r08_Same_0]
      refine .t (by simp; omega) (.gd (by omega) (.gd (by omega) ?_))
      have e2 : nth E_SiiiA4ie a0 (p.length : Int) = c := nth_app' h rfl
      have e3 : nth E_SiiiA4ie a1 (p.length : Int) = d := nth_app' hu (by omega)
      have e1 : w64 ((p.length : Int) + 1) = (((p ++ [c]).length : Nat) : Int) := by rw [w64_of (by omega) (by omega)]; simp
      rw [e2, e3, part_eq, e1]
      by_cases hcd : c = d
      · subst hcd
        refine .e (by simp) ?_
        have := L_r08_Same (a1 := a1) hl t u (p ++ [c]) (q ++ [c]) (by rw [h]; simp) (by rw [hu]; simp) (by simp [hpq]) (by simpa using htu)
        simpa using this
      · refine .t (by simp [hcd]) (.ret' ?_)
        simp [hcd])
theorem r08_Same {a b : List T_SiiiA4ie} (hl : a.length ≤ 140737488351232) : Ev (fun n => F_r08_Same n a b) (decide (a = b)) := by
  simp only [F_r08_Same]
  by_cases h : a.length = b.length
  · refine .e (by simp [h]) (.lj ?_)
    exact L_r08_Same hl a b [] [] rfl rfl rfl h
  · refine .t (by simp; omega) (.ret' ?_)
    have : a ≠ b := fun e => h (by rw [e])
    simp [this]
theorem r02_Same_self (a : List Int) : Ev (fun n => F_r02_Same n a a) true := by
  simp only [F_r02_Same]
  exact .ret' (by simp)
theorem bytes_of {l : List Int} (h : ∀ x ∈ l, (IntKind.min .u8 ≤ x ∧ x ≤ IntKind.max .u8)) : Bytes l := fun x hx => by
  have := h x hx
  have e1 : IntKind.min .u8 = 0 := rfl
  have e2 : IntKind.max .u8 = 255 := rfl
  rw [e1, e2] at this; omega
theorem i64_of {x : Int} (h : IntKind.min .i64 ≤ x ∧ x ≤ IntKind.max .i64) : I64 x := h
theorem wp_of {p : T_SiiiA4ie} (h : W_SiiiA4ie p) : WP p := ⟨h.1, h.2.1, h.2.2.1, h.2.2.2.1, h.2.2.2.2.1, h.2.2.2.2.2.1, h.2.2.2.2.2.2⟩
theorem L_CompoReads {v : R_compo_Read} (hv : v.2.1.length ≤ 140737488351232) : ∀ (k i : Nat) (y : List Int) (J : Nat → Unit → Option R_law08_CompoReads) (r : R_law08_CompoReads), y.length = v.2.1.length → i + k = v.2.1.length → Ev (fun n => J n ()) r → Ev (fun n => L_law08_CompoReads_0 v (J n) n y (i : Int)) r
  | 0, i, y, J, r, hy, hk, hJ => .succ (by
      simp only [L_law08_CompoReads_0]
      exact .e (by simp; omega) hJ.shift)
  | k + 1, i, y, J, r, hy, hk, hJ => .succ (by
      simp only [L_law08_CompoReads_0]
      refine .t (by simp; omega) (.gd (by omega) (.gd (by omega) ?_))
      have e1 : w64 ((i : Int) + 1) = ((i + 1 : Nat) : Int) := by rw [w64_of (by omega) (by omega)]; omega
      rw [e1]
      exact L_CompoReads hv k (i + 1) _ (fun n => J (n + 1)) r (by simpa using hy) (by omega) hJ.shift)
theorem CompoReadsPure (a0 : List Int) (h0 : a0.length * 1 ≤ 140737488351232 ∧ ∀ x ∈ a0, (IntKind.min .u8 ≤ x ∧ x ≤ IntKind.max .u8)) : ∃ n, F_law08_CompoReads n a0 = some true := by
  have hb := bytes_of h0.2
  have hl : a0.length ≤ 140737488351232 := by omega
  refine Ev.out ?_
  simp only [F_law08_CompoReads]
  have hg := read_good hb
  refine .bind alive08 (.e rfl (.bind (r02_Copy hl) (.bind (compo_Read hb hl) (.bind (r08_Read hb hl) (.lj (.e (by simp) (.bind (r08_Same ?_) ?_)))))))
  · rcases hg with ⟨_, h, _⟩ | ⟨_, _, _, h, _⟩
    · rw [h]; simp
    · omega
  · rw [decide_eq_true rfl]
    refine .e rfl (.bind (r02_Same_self _) (.e rfl (.lj ?_)))
    refine L_CompoReads ?_ (compoRead a0).2.1.length 0 _ (fun n _ => _) true rfl (by simp) (.bind (r02_Same_self _) (.ret _))
    rcases hg with ⟨_, _, h⟩ | ⟨_, _, _, _, h, _⟩
    · rw [h]; simp
    · omega
theorem CompoWritesPure (a0 : List T_SiiiA4ie) (a1 : List Int) (a2 : T_SSiieSiiee) (h0 : a0.length * 56 ≤ 140737488351232 ∧ ∀ x ∈ a0, W_SiiiA4ie x) (h1 : a1.length * 1 ≤ 140737488351232 ∧ ∀ x ∈ a1, (IntKind.min .u8 ≤ x ∧ x ≤ IntKind.max .u8))
    (h2 : W_SSiieSiiee a2) : ∃ n, F_law08_CompoWrites n a0 a1 a2 = some true := by
  refine Ev.out ?_
  simp only [F_law08_CompoWrites]
  refine .bind alive08 (.e rfl (.ite (fun _ => .ret _) fun h => ?_))
  simp only [Bool.or_eq_false_iff, decide_eq_false_iff_not] at h
  rw [List.nil_append]
  have ha := h2.1
  have hb := h2.2
  refine .gd (fits_small (by simp; omega) (by decide)) (.bind (r02_Copy (by omega)) (.bind (compo_Write (fun p hp => wp_of (h0.2 p hp)) (by omega) ⟨ha.1, ha.2⟩ ⟨hb.1, hb.2⟩) (.bind (r08_Write (by omega)) ?_)))
  refine .t (by simp) (.bind (r02_Same_self _) (.t rfl (.bind (r08_Same (by omega)) ?_)))
  rw [decide_eq_true rfl]
  exact .t rfl (.bind (r02_Same_self _) (.ret _))
theorem wpt (x : Int) (h : x = 0 ∨ x = 1) : WPt ⟨x, 0⟩ := by rcases h with rfl | rfl <;> exact ⟨by unfold I64; decide, by unfold I64; decide⟩
theorem CompoBackPure (a0 : List T_SiiiA4ie) (a1 a2 : List Int) (h0 : a0.length * 56 ≤ 140737488351232 ∧ ∀ x ∈ a0, W_SiiiA4ie x) (h1 : a1.length * 1 ≤ 140737488351232 ∧ ∀ x ∈ a1, (IntKind.min .u8 ≤ x ∧ x ≤ IntKind.max .u8))
    (h2 : a2.length * 1 ≤ 140737488351232 ∧ ∀ x ∈ a2, (IntKind.min .u8 ≤ x ∧ x ≤ IntKind.max .u8)) : ∃ n, F_law08_CompoBack n a0 a1 a2 = some true := by
  refine Ev.out ?_
  simp only [F_law08_CompoBack]
  refine .bind alive08 (.e rfl (.ite (fun _ => .ret _) fun h => ?_))
  simp only [Bool.or_eq_false_iff, decide_eq_false_iff_not] at h
  have hb1 := bytes_of h1.2
  have hb2 := bytes_of h2.2
  refine .bind (compo_Write (fun p hp => wp_of (h0.2 p hp)) (by omega) (wpt 0 (.inl rfl)) (wpt 1 (.inr rfl))) ?_
  have hwb := write_bytes (l := a0) (a := ⟨0, 0⟩) (b := ⟨1, 0⟩) hb1
  by_cases he : (compoWrite a0 a1 ⟨0, 0⟩ ⟨1, 0⟩).2 = 0
  · refine .e (by simp [he]) (.gd (fits_small (by omega) (by decide)) ?_)
    refine .bind (compo_Read (hwb.1.append hb2) (by rw [List.length_append]; omega)) ?_
    rw [back he a2]
    refine .t rfl (.bind (r08_Same (by show a0.length ≤ _; omega)) ?_)
    rw [decide_eq_true rfl]
    exact .t rfl (.bind (r02_Same_self _) (.ret _))
  · refine .t (by simp [he]) (.ret' ?_)
    rw [write_err he]; rfl
theorem CompoCutPure (a0 : List T_SiiiA4ie) (a1 : List Int) (a2 : Int) (h0 : a0.length * 56 ≤ 140737488351232 ∧ ∀ x ∈ a0, W_SiiiA4ie x) (h1 : a1.length * 1 ≤ 140737488351232 ∧ ∀ x ∈ a1, (IntKind.min .u8 ≤ x ∧ x ≤ IntKind.max .u8))
    (h2 : IntKind.min .u16 ≤ a2 ∧ a2 ≤ IntKind.max .u16) : ∃ n, F_law08_CompoCut n a0 a1 a2 = some true := by
  have h2' : 0 ≤ a2 ∧ a2 ≤ 65535 := h2
  refine Ev.out ?_
  simp only [F_law08_CompoCut]
  refine .bind alive08 (.e rfl (.ite (fun _ => .ret _) fun h => ?_))
  simp only [decide_eq_false_iff_not] at h
  have hb1 := bytes_of h1.2
  refine .bind (compo_Write (fun p hp => wp_of (h0.2 p hp)) (by omega) (wpt 0 (.inl rfl)) (wpt 0 (.inl rfl))) ?_
  have hwb := write_bytes (l := a0) (a := ⟨0, 0⟩) (b := ⟨0, 0⟩) hb1
  by_cases he : (compoWrite a0 a1 ⟨0, 0⟩ ⟨0, 0⟩).2 = 0
  · obtain ⟨g0, g1, g2, g3, g4⟩ := readS_ok he
    have hlen : 10 ≤ (compoWrite a0 a1 ⟨0, 0⟩ ⟨0, 0⟩).1.length := by rw [g4, List.length_append, head_len]; omega
    generalize hw : (compoWrite a0 a1 ⟨0, 0⟩ ⟨0, 0⟩).1 = w at *
    have hne : (w.length : Int) ≠ 0 := by omega
    have em : Int.tmod (w64 a2) (w.length : Int) = a2 % (w.length : Int) := by
      rw [w64_of (by omega) (by omega), Int.tmod_eq_emod_of_nonneg h2'.1]
    have m0 : 0 ≤ a2 % (w.length : Int) := Int.emod_nonneg _ hne
    have m1 : a2 % (w.length : Int) < (w.length : Int) := Int.emod_lt_of_pos _ (by omega)
    rw [em]
    refine .e (by rw [he, decide_eq_false hne]; rfl) (.gd hne (.gd ⟨Int.le_refl _, m0, by omega⟩ ?_))
    have hs : slc w 0 (a2 % (w.length : Int)) = w.take (a2 % (w.length : Int)).toNat := by simp [slc]
    rw [hs]
    refine .bind (compo_Read (hwb.1.take _) (by rw [List.length_take]; omega)) ?_
    have hdrop : w.drop (a2 % (w.length : Int)).toNat ≠ [] := by
      intro e
      have := congrArg List.length e
      rw [List.length_drop] at this
      simp at this; omega
    rw [cut he hdrop (by rw [List.take_append_drop]; exact hw.symm)]
    exact .t rfl (.ret' rfl)
  · refine .t (by simp [he]) (.ret' ?_)
    rw [write_err he]; rfl
theorem good_wp {l : List T_SiiiA4ie} (h : l.all goodP = true) : ∀ p ∈ l, WP p := fun p hp => by
  have := goodP_iff.1 (List.all_eq_true.1 h p hp)
  obtain ⟨g0, g1, g2, g3, g4, g5, g6⟩ := this
  rw [sh_iff] at g1 g2 g3 g4 g5 g6
  unfold WP I64; omega
theorem CompoAgainPure (a0 : List Int) (h0 : a0.length * 1 ≤ 140737488351232 ∧ ∀ x ∈ a0, (IntKind.min .u8 ≤ x ∧ x ≤ IntKind.max .u8)) : ∃ n, F_law08_CompoAgain n a0 = some true := by
  have hb := bytes_of h0.2
  have hl : a0.length ≤ 140737488351232 := by omega
  refine Ev.out ?_
  simp only [F_law08_CompoAgain]
  refine .bind alive08 (.e rfl (.bind (compo_Read hb hl) ?_))
  rcases read_good hb with ⟨h1, h2, h3⟩ | ⟨h1, h2, h3, h4, h5, h6⟩
  · refine .t (by simp [h1]) (.ret' ?_)
    rw [h2, h3]; rfl
  · refine .e (by simp [h1]) ?_
    generalize (compoRead a0).1 = l at *
    generalize (compoRead a0).2.1 = code at *
    have hl0 : l ≠ [] := by intro e; subst e; simp at h3
    have he : (compoWrite l code ⟨0, 0⟩ ⟨0, 0⟩).2 = 0 := by
      unfold compoWrite
      rw [if_neg hl0, if_neg (by omega), h2]; rfl
    have hwb := write_bytes (l := l) (a := ⟨0, 0⟩) (b := ⟨0, 0⟩) h6
    have hbk := back he []
    rw [List.append_nil] at hbk
    refine .bind (compo_Write (good_wp h2) (by omega) (wpt 0 (.inl rfl)) (wpt 0 (.inl rfl))) (.bind (compo_Read hwb.1 (by omega)) ?_)
    rw [hbk]
    refine .t (by simp [he]) (.t rfl (.t (by simp; omega) (.t (by simp; omega) (.bind (r08_Same (by show l.length ≤ _; omega)) ?_))))
    rw [decide_eq_true rfl]
    exact .t rfl (.bind (r02_Same_self _) (.ret _))
end Go.Proofs.Ytgkekjfbacncoaa
