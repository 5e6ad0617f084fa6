/- What the shallow functions answer: plain lemmas on numbers and lists. -/
import Derived.Test.YtgkekjfbacncoaaKG7aF2
import Derived.Test.YtgkekjfbacncoaaKG7aR
import Derived.Test.YtgkekjfbacncoaaKAb2
import Derived.KernelRfl
set_option linter.unusedSimpArgs false
set_option linter.unusedVariables false
open Go Go.Ab
namespace Go.Proofs.Ytgkekjfbacncoaa
theorem there_t {b : List Int} {at_ w : Int} (h0 : 0 ≤ at_) (h1 : 0 ≤ w) (h2 : at_ + w ≤ (b.length : Int)) (hb : b.length ≤ 140737488351232) (n : Nat) : F_be_there n b at_ w = some true := by
  have e : w64 ((b.length : Int) - at_) = (b.length : Int) - at_ := w64_of (by omega) (by omega)
  simp only [F_be_there, e]
  rw [decide_eq_true h0, decide_eq_true h1, decide_eq_true (show at_ ≤ (b.length : Int) by omega), decide_eq_true (show w ≤ (b.length : Int) - at_ by omega)]; rfl
theorem there_f {b : List Int} {at_ w : Int} (h0 : 0 ≤ at_) (h1 : 0 ≤ w) (h3 : at_ ≤ (b.length : Int)) (h2 : (b.length : Int) < at_ + w) (hb : b.length ≤ 140737488351232) (n : Nat) : F_be_there n b at_ w = some false := by
  have e : w64 ((b.length : Int) - at_) = (b.length : Int) - at_ := w64_of (by omega) (by omega)
  simp only [F_be_there, e]
  rw [decide_eq_true h0, decide_eq_true h1, decide_eq_true h3, decide_eq_false (show ¬ w ≤ (b.length : Int) - at_ by omega)]; rfl
theorem L_be_U {a0 : List Int} {a1 a2 : Int} {j : Int → Option R_be_U} {s : List Int} {r : R_be_U} (hs : slc a0 a1 (w64 (a1 + a2)) = s) (hb : Bytes s) (hl : s.length ≤ 4) (hj : j (beU s) = some r) :
    ∀ (t p : List Int), s = p ++ t → Ev (fun n => L_be_U_0 a0 a1 a2 j n (p.length : Int) (beU p)) r
  | [], p, h => .succ (by
      simp only [L_be_U_0, hs]
      have : s = p := by simpa using h
      subst this
      refine .e (by simp) ?_
      exact .all fun _ => hj)
  | c :: t, p, h => .succ (by
      simp only [L_be_U_0, hs]
      have hlen : s.length = p.length + (t.length + 1) := by rw [h]; simp
      refine .t (by simp; omega) (.gd (by omega) ?_)
      have hp : Bytes p := (h ▸ hb).left
      have hc : 0 ≤ c ∧ c < 256 := hb c (by rw [h]; simp)
      have hbd := beU_bound hp
      have hp3 : (256 : Int) ^ p.length ≤ 16777216 := by
        have : p.length ≤ 3 := by omega
        match hh : p.length, this with
        | 0, _ => decide
        | 1, _ => decide
        | 2, _ => decide
        | 3, _ => decide
      have e1 : w64 ((p.length : Int) + 1) = (((p ++ [c]).length : Nat) : Int) := by rw [w64_of (by omega) (by omega)]; simp
      have e2 : nth E_B s (p.length : Int) = c := nth_app' h rfl
      have e3 : bits .or .i64 (w64 (beU p * 2 ^ 8)) (w64 c) = beU (p ++ [c]) := by
        rw [w64_of (x := beU p * 2 ^ 8) (by omega) (by omega), w64_of (x := c) (by omega) (by omega), beU_snoc]
        rw [bits_join .i64 62 (by decide) wraps_i64 8 _ _ (by omega) (by omega) (by omega) hc.1 (by omega) (by omega)]
        omega
      rw [e1, e2, e3]
      exact L_be_U hs hb hl hj t (p ++ [c]) (by rw [h]; simp))
theorem be_U_ok {b x y z : List Int} {at_ w : Int} (hb : Bytes b) (hbl : b.length ≤ 140737488351232) (h : b = x ++ (y ++ z)) (ha : at_ = (x.length : Int)) (hw : w = (y.length : Int)) (h1 : 1 ≤ y.length) (h4 : y.length ≤ 4) :
    Ev (fun n => F_be_U n b at_ w) (beU y, 0) := by
  have hlen : b.length = x.length + (y.length + z.length) := by rw [h]; simp
  have e : w64 (at_ + w) = at_ + w := w64_of (by omega) (by omega)
  have hs : slc b at_ (w64 (at_ + w)) = y := by rw [e]; exact slc_eq h ha (by omega)
  simp only [F_be_U]
  refine .e (by simp; omega) (.bind (.all (there_t (by omega) (by omega) (by omega) hbl)) (.e rfl (.gd ?_ (.lj ?_))))
  · rw [e]; omega
  · have := L_be_U (j := fun x11 => some (x11, 0)) hs (by rw [h] at hb; exact hb.right.left) h4 rfl y [] rfl
    exact this
theorem be_U_short {b : List Int} {at_ w : Int} (hbl : b.length ≤ 140737488351232) (h0 : 0 ≤ at_) (h3 : at_ ≤ (b.length : Int)) (h2 : (b.length : Int) < at_ + w) (h1 : 1 ≤ w) (h4 : w ≤ 4) :
    Ev (fun n => F_be_U n b at_ w) (0, 3) := by
  simp only [F_be_U]
  exact .e (by simp; omega) (.bind (.all (there_f h0 (by omega) h3 h2 hbl)) (.t rfl (.ret _)))
theorem sgn1 {v : Int} (h0 : 0 ≤ v) (h1 : v < 256) : Int.fdiv (w64 (v * 2 ^ 56)) (2 ^ 56) = if 2 * v ≥ 256 then v - 256 else v := by
  rw [Int.fdiv_eq_ediv_of_nonneg _ (by decide), w64_def]; split <;> omega
theorem sgn2 {v : Int} (h0 : 0 ≤ v) (h1 : v < 65536) : Int.fdiv (w64 (v * 2 ^ 48)) (2 ^ 48) = if 2 * v ≥ 65536 then v - 65536 else v := by
  rw [Int.fdiv_eq_ediv_of_nonneg _ (by decide), w64_def]; split <;> omega
theorem be_S_ok {b x y z : List Int} {at_ w : Int} (hb : Bytes b) (hbl : b.length ≤ 140737488351232) (h : b = x ++ (y ++ z)) (ha : at_ = (x.length : Int)) (hw : w = (y.length : Int)) (h1 : y.length = 1 ∨ y.length = 2) :
    Ev (fun n => F_be_S n b at_ w) (beS y, 0) := by
  have hy : Bytes y := by rw [h] at hb; exact hb.right.left
  have hbd := beU_bound hy
  simp only [F_be_S]
  refine .bind (be_U_ok hb hbl h ha hw (by omega) (by omega)) (.e rfl ?_)
  rcases h1 with h1 | h1 <;> rw [h1] at hbd <;> subst hw <;> rw [h1]
  · refine .gd (by decide) (.gd (by decide) (.ret' ?_))
    have := sgn1 hbd.1 (by simpa using hbd.2)
    show (Int.fdiv (w64 (beU y * 2 ^ 56)) (2 ^ 56), (0 : Int)) = _
    rw [this]; unfold beS; rw [h1]; rfl
  · refine .gd (by decide) (.gd (by decide) (.ret' ?_))
    have := sgn2 hbd.1 (by simpa using hbd.2)
    show (Int.fdiv (w64 (beU y * 2 ^ 48)) (2 ^ 48), (0 : Int)) = _
    rw [this]; unfold beS; rw [h1]; rfl
theorem be_S_short {b : List Int} {at_ w : Int} (hbl : b.length ≤ 140737488351232) (h0 : 0 ≤ at_) (h3 : at_ ≤ (b.length : Int)) (h2 : (b.length : Int) < at_ + w) (h1 : 1 ≤ w) (h4 : w ≤ 4) :
    Ev (fun n => F_be_S n b at_ w) (0, 3) := by
  simp only [F_be_S]
  exact .bind (be_U_short hbl h0 h3 h2 h1 h4) (.t rfl (.ret _))
theorem be_Cut_ok {b x y z : List Int} {at_ w : Int} (hbl : b.length ≤ 140737488351232) (h : b = x ++ (y ++ z)) (ha : at_ = (x.length : Int)) (hw : w = (y.length : Int)) : Ev (fun n => F_be_Cut n b at_ w) (y, 0) := by
  have hlen : b.length = x.length + (y.length + z.length) := by rw [h]; simp
  have e : w64 (at_ + w) = at_ + w := w64_of (by omega) (by omega)
  have hs : slc b at_ (w64 (at_ + w)) = y := by rw [e]; exact slc_eq h ha (by omega)
  simp only [F_be_Cut, hs]
  refine .bind (.all (there_t (by omega) (by omega) (by omega) hbl)) (.e rfl (.gd (by rw [e]; omega) (.gd ?_ (.ret' (by simp)))))
  simp [fits]; omega
theorem be_Cut_short {b : List Int} {at_ w : Int} (hbl : b.length ≤ 140737488351232) (h0 : 0 ≤ at_) (h3 : at_ ≤ (b.length : Int)) (h1 : 0 ≤ w) (h2 : (b.length : Int) < at_ + w) : Ev (fun n => F_be_Cut n b at_ w) ([], 3) := by
  simp only [F_be_Cut]
  exact .bind (.all (there_f h0 h1 h3 h2 hbl)) (.t rfl (.ret _))
theorem be_Put1 (v : Int) : Ev (fun n => F_be_Put n v 1) (put1 v) := by
  refine .from 3 fun n => ?_
  simp [F_be_Put, L_be_Put_0, gd, lj, fits, w64_def, IntKind.wrap_u8, put1, E_B]
theorem be_Put2 (v : Int) : Ev (fun n => F_be_Put n v 2) (put2 v) := by
  refine .from 4 fun n => ?_
  simp [F_be_Put, L_be_Put_0, gd, lj, fits, w64_def, IntKind.wrap_u8, put2, E_B, Int.fdiv_eq_ediv_of_nonneg]
end Go.Proofs.Ytgkekjfbacncoaa
set_option linter.unusedSimpArgs false
set_option linter.unusedVariables false
open Go Go.Ab
namespace Go.Proofs.Ytgkekjfbacncoaa
def Rel (b : List Int) (st : T_SLBiie) (s : Sx) : Prop :=
  st.f0 = b ∧ match s with
    | .ok r => st.f2 = 0 ∧ ∃ pre, b = pre ++ r ∧ st.f1 = (pre.length : Int)
    | .error e => st.f2 = e ∧ e ≠ 0
theorem Rel.bytes {b : List Int} (hb : Bytes b) {st : T_SLBiie} {r : List Int} (hr : Rel b st (.ok r)) : Bytes r := by
  obtain ⟨_, _, pre, h3, _⟩ := hr
  rw [h3] at hb; exact hb.right
theorem Rel.len {b : List Int} {st : T_SLBiie} {r : List Int} (hr : Rel b st (.ok r)) : r.length ≤ b.length := by
  obtain ⟨_, _, pre, h3, _⟩ := hr
  rw [h3]; simp
def Run {α : Type} (b : List Int) (F : Nat → Option (α × T_SLBiie)) (X : Except Int (α × List Int)) : Prop :=
  match X with
  | .ok (v, s) => ∃ st, Ev F (v, st) ∧ Rel b st (.ok s)
  | .error e => ∃ v st, Ev F (v, st) ∧ Rel b st (.error e)
theorem Run.ok {α : Type} {b : List Int} {F : Nat → Option (α × T_SLBiie)} {v : α} {s : List Int} {st : T_SLBiie} (h : Ev F (v, st)) (hr : Rel b st (.ok s)) : Run b F (.ok (v, s)) := ⟨st, h, hr⟩
theorem Run.er {α : Type} {b : List Int} {F : Nat → Option (α × T_SLBiie)} {v : α} {e : Int} {st : T_SLBiie} (h : Ev F (v, st)) (hr : Rel b st (.error e)) : Run b F (.error e : Except Int (α × List Int)) := ⟨v, st, h, hr⟩
def rU (w : Nat) (s : List Int) : Except Int (Int × List Int) := if s.length < w then .error 3 else .ok (beU (s.take w), s.drop w)
theorem rU_bd {w : Nat} {s s' : List Int} {v : Int} (hs : Bytes s) (h : rU w s = .ok (v, s')) : 0 ≤ v ∧ v < 256 ^ w ∧ Bytes s' ∧ s' = s.drop w ∧ w ≤ s.length := by
  unfold rU at h
  split at h
  · simp at h
  · rename_i hw
    injection h with h; injection h with h1 h2
    have := beU_bound (hs.take w)
    rw [List.length_take, Nat.min_eq_left (by omega)] at this
    subst h1; subst h2
    exact ⟨this.1, this.2, hs.drop w, rfl, by omega⟩
end Go.Proofs.Ytgkekjfbacncoaa
set_option linter.unusedSimpArgs false
set_option linter.unusedVariables false
open Go Go.Ab
namespace Go.Proofs.Ytgkekjfbacncoaa
/-! ### what is read -/
def endsE : Nat → List Int → Except Int (List Int × List Int)
  | 0, s => .ok ([], s)
  | n + 1, s => match rU 2 s with
    | .error e => .error e
    | .ok (v, s1) => match endsE n s1 with
      | .error e => .error e
      | .ok (l, s2) => .ok (v :: l, s2)
def codeE (s : List Int) : Except Int (List Int × List Int) := match rU 2 s with
  | .error e => .error e
  | .ok (k, s1) => if (s1.length : Int) < k then .error 3 else .ok (s1.take k.toNat, s1.drop k.toNat)
def againE (f : Int) (s : List Int) : Except Int (Int × List Int) := if f / 8 % 2 = 1 then rU 1 s else .ok (0, s)
def flagsE : Nat → Nat → List Int → Except Int (List Int × List Int)
  | _, 0, s => .ok ([], s)
  | 0, _ + 1, _ => .error 4
  | k + 1, m + 1, s => match rU 1 s with
    | .error e => .error e
    | .ok (f, s1) => match againE f s1 with
      | .error e => .error e
      | .ok (r, s2) => if (m : Int) < r then .error 4 else match flagsE k (m - r.toNat) s2 with
        | .error e => .error e
        | .ok (l, s3) => .ok (List.replicate (r.toNat + 1) f ++ l, s3)
def stepE (f sh_ sa v : Int) (s : List Int) : Except Int (Int × List Int) :=
  if f / sh_ % 2 = 1 then (match rU 1 s with
    | .error e => .error e
    | .ok (x, s1) => .ok (if f / sa % 2 = 1 then v + x else v - x, s1))
  else if f / sa % 2 = 1 then .ok (v, s)
  else (match rU 2 s with
    | .error e => .error e
    | .ok (x, s1) => .ok (v + (if x ≥ 32768 then x - 65536 else x), s1))
def stepsE (sh_ sa : Int) : List Int → Int → List Int → Except Int (List Int × List Int)
  | [], _, s => .ok ([], s)
  | f :: fs, v, s => match stepE f sh_ sa v s with
    | .error e => .error e
    | .ok (v1, s1) => if v1 < -32768 ∨ 32767 < v1 then .error 6 else match stepsE sh_ sa fs v1 s1 with
      | .error e => .error e
      | .ok (l, s2) => .ok (v1 :: l, s2)
def rising : List Int → Bool
  | [] => true
  | [_] => true
  | x :: y :: l => decide (x < y) && rising (y :: l)
def lastI : List Int → Int
  | [] => 0
  | [x] => x
  | _ :: y :: l => lastI (y :: l)
def zipK : List Int → List Int → List Int → List T_Siibe
  | x :: xs, y :: ys, f :: fs => ⟨x, y, decide (f % 2 = 1)⟩ :: zipK xs ys fs
  | _, _, _ => []
def cutK : List Int → Int → List T_Siibe → List (List T_Siibe)
  | [], _, _ => []
  | e :: es, i, ks => ks.take (e + 1 - i).toNat :: cutK es (e + 1) (ks.drop (e + 1 - i).toNat)
def noG : T_SLLSiibeLBe := ⟨[], []⟩
def simpleRead (b : List Int) : T_SLLSiibeLBe × Int :=
  if b = [] then (noG, 0) else if b.length < 10 then (noG, 3) else
  let n := beS (b.take 2)
  if n < 0 then (noG, 11) else if n = 0 then (noG, 0) else
  match endsE n.toNat (b.drop 10) with
  | .error e => (noG, e)
  | .ok (es, s1) => if rising es = false then (noG, 12) else if 4096 ≤ lastI es then (noG, 7) else
    match codeE s1 with
    | .error e => (noG, e)
    | .ok (code, s2) => match flagsE ((lastI es + 1).toNat + 1) (lastI es + 1).toNat s2 with
      | .error e => (noG, e)
      | .ok (fs, s3) => match stepsE 2 16 fs 0 s3 with
        | .error e => (noG, e)
        | .ok (xs, s4) => match stepsE 4 32 fs 0 s4 with
          | .error e => (noG, e)
          | .ok (ys, s5) => (⟨cutK es 0 (zipK xs ys fs), code⟩, 0)
/-! ### the program's reader -/
section
variable {b : List Int} (hb : Bytes b) (hbl : b.length ≤ 140737488351232)
include hb hbl
theorem su_run {w : Nat} (hw : 1 ≤ w ∧ w ≤ 4) {wi : Int} (hwi : wi = (w : Int)) {st : T_SLBiie} {s : List Int} (hr : Rel b st (.ok s)) : Run b (fun n => F_simple_reader_u n st wi) (rU w s) := by
  obtain ⟨h0, h2, pre, h3, h4⟩ := hr
  subst hwi
  have hlen : b.length = pre.length + s.length := by rw [h3]; simp
  unfold rU
  by_cases hs : s.length < w
  · simp only [hs, if_true]
    refine Run.er (v := 0) (st := ⟨st.f0, w64 (st.f1 + w), 3⟩) ?_ ⟨h0, rfl, by decide⟩
    simp only [F_simple_reader_u]
    refine .e (by simp [h2]) (.bind (v := (0, 3)) ?_ (.ret _))
    rw [h0, h4]
    exact be_U_short hbl (by omega) (by omega) (by omega) (by omega) (by omega)
  · simp only [hs, if_false]
    have hy : (s.take w).length = w := by rw [List.length_take]; omega
    refine Run.ok (st := ⟨st.f0, w64 (st.f1 + w), 0⟩) ?_ ⟨h0, rfl, pre ++ s.take w, ?_, ?_⟩
    · simp only [F_simple_reader_u]
      refine .e (by simp [h2]) (.bind (v := (beU (s.take w), 0)) ?_ (.ret _))
      rw [h0, h4]
      exact be_U_ok (x := pre) (y := s.take w) (z := s.drop w) hb hbl (by rw [List.take_append_drop]; exact h3) rfl (by rw [hy]) (by omega) (by omega)
    · rw [List.append_assoc, List.take_append_drop]; exact h3
    · simp only [List.length_append, hy, h4]
      rw [w64_of (by omega) (by omega)]; simp
omit hb hbl in
theorem su_err {wi e : Int} {st : T_SLBiie} (hr : Rel b st (.error e)) : Ev (fun n => F_simple_reader_u n st wi) (0, st) := by
  obtain ⟨h0, h1, h2⟩ := hr
  simp only [F_simple_reader_u]
  exact .t (by simp; rw [h1]; exact h2) (.ret _)
def RunJ {α R : Type} (b : List Int) (L : (Nat → List Int → Int → Int → α → Option R) → Nat → Option R) (X : Except Int (α × List Int)) : Prop :=
  ∃ v st, (match X with
    | .ok (v', s) => v = v' ∧ Rel b st (.ok s)
    | .error e => Rel b st (.error e)) ∧ ∀ J r, Ev (fun n => J n st.f0 st.f1 st.f2 v) r → Ev (fun n => L J n) r
def mapO {α β : Type} (f : α → β) : Except Int (α × List Int) → Except Int (β × List Int)
  | .ok (v, s) => .ok (f v, s)
  | .error e => .error e
omit hb hbl in
theorem mapO_ok {α β : Type} (f : α → β) (v : α) (s : List Int) : mapO f (.ok (v, s)) = .ok (f v, s) := rfl
/-! the ends -/
omit hb hbl in
theorem L_ends_err {a1 e : Int} (ha : a1 ≤ 40000) : ∀ (k : Nat) (st : T_SLBiie) (acc : List Int), Rel b st (.error e) → (acc.length : Int) + k = a1 →
    RunJ b (fun J n => L_simple_reader_ends_0 a1 (J n) n st.f0 st.f1 st.f2 acc (acc.length : Int)) (.error e)
  | 0, st, acc, hr, hk => ⟨acc, st, hr, fun J r hJ => .succ (by
      simp only [L_simple_reader_ends_0]
      exact .e (by simp; omega) hJ.shift)⟩
  | k + 1, st, acc, hr, hk => by
    obtain ⟨v, st', h1, h2⟩ := L_ends_err ha k st (acc ++ [0]) hr (by simp; omega)
    refine ⟨v, st', h1, fun J r hJ => .succ ?_⟩
    simp only [L_simple_reader_ends_0]
    refine .t (by simp; omega) (.bind (su_err hr) (.gd (fits_small (by simp; omega) (by decide)) ?_))
    have e1 : w64 ((acc.length : Int) + 1) = (((acc ++ [(0 : Int)]).length : Nat) : Int) := by rw [w64_of (by omega) (by omega)]; simp
    rw [e1]
    exact h2 (fun n => J (n + 1)) r hJ.shift
theorem L_ends {a1 : Int} (ha : a1 ≤ 40000) : ∀ (k : Nat) (st : T_SLBiie) (s acc : List Int), Rel b st (.ok s) → (acc.length : Int) + k = a1 →
    RunJ b (fun J n => L_simple_reader_ends_0 a1 (J n) n st.f0 st.f1 st.f2 acc (acc.length : Int)) (mapO (acc ++ ·) (endsE k s))
  | 0, st, s, acc, hr, hk => ⟨acc, st, ⟨by simp, hr⟩, fun J r hJ => .succ (by
      simp only [L_simple_reader_ends_0]
      exact .e (by simp; omega) hJ.shift)⟩
  | k + 1, st, s, acc, hr, hk => by
    have hu := su_run hb hbl (w := 2) (by omega) (wi := 2) rfl hr
    simp only [endsE]
    cases hx : rU 2 s with
    | error e =>
      rw [hx] at hu
      obtain ⟨v, st1, h1, r1⟩ := hu
      obtain ⟨v', st', h2, h3⟩ := L_ends_err ha k st1 (acc ++ [v]) r1 (by simp; omega)
      refine ⟨v', st', h2, fun J r hJ => .succ ?_⟩
      simp only [L_simple_reader_ends_0]
      refine .t (by simp; omega) (.bind h1 (.gd (fits_small (by simp; omega) (by decide)) ?_))
      have e1 : w64 ((acc.length : Int) + 1) = (((acc ++ [v]).length : Nat) : Int) := by rw [w64_of (by omega) (by omega)]; simp
      rw [e1]
      exact h3 (fun n => J (n + 1)) r hJ.shift
    | ok p =>
      obtain ⟨v, s1⟩ := p
      rw [hx] at hu
      obtain ⟨st1, h1, r1⟩ := hu
      obtain ⟨v', st', h2, h3⟩ := L_ends ha k st1 s1 (acc ++ [v]) r1 (by simp; omega)
      refine ⟨v', st', ?_, fun J r hJ => .succ ?_⟩
      · simp only
        cases hy : endsE k s1 with
        | error e => rw [hy] at h2; exact h2
        | ok q =>
          obtain ⟨l, s2⟩ := q
          rw [hy] at h2
          simpa [mapO] using h2
      · simp only [L_simple_reader_ends_0]
        refine .t (by simp; omega) (.bind h1 (.gd (fits_small (by simp; omega) (by decide)) ?_))
        have e1 : w64 ((acc.length : Int) + 1) = (((acc ++ [v]).length : Nat) : Int) := by rw [w64_of (by omega) (by omega)]; simp
        rw [e1]
        exact h3 (fun n => J (n + 1)) r hJ.shift
omit hb hbl in
theorem endsE_len : ∀ (k : Nat) (s l s' : List Int), endsE k s = .ok (l, s') → l.length = k
  | 0, s, l, s', h => by simp [endsE] at h; rw [h.1]; rfl
  | k + 1, s, l, s', h => by
    simp only [endsE] at h
    cases hx : rU 2 s with
    | error e => rw [hx] at h; simp at h
    | ok p =>
      obtain ⟨v, s1⟩ := p
      rw [hx] at h; simp only at h
      cases hy : endsE k s1 with
      | error e => rw [hy] at h; simp at h
      | ok q =>
        obtain ⟨l', s2⟩ := q
        rw [hy] at h
        simp only [Except.ok.injEq, Prod.mk.injEq] at h
        rw [← h.1, List.length_cons, endsE_len k s1 l' s2 hy]
omit hb hbl in
theorem endsE_bd : ∀ (k : Nat) (s l s' : List Int), Bytes s → endsE k s = .ok (l, s') → (∀ x ∈ l, 0 ≤ x ∧ x ≤ 65535) ∧ Bytes s'
  | 0, s, l, s', hs, h => by simp [endsE] at h; rw [h.1, ← h.2]; exact ⟨by simp, hs⟩
  | k + 1, s, l, s', hs, h => by
    simp only [endsE] at h
    cases hx : rU 2 s with
    | error e => rw [hx] at h; simp at h
    | ok p =>
      obtain ⟨v, s1⟩ := p
      have hv := rU_bd hs hx
      rw [hx] at h; simp only at h
      cases hy : endsE k s1 with
      | error e => rw [hy] at h; simp at h
      | ok q =>
        obtain ⟨l', s2⟩ := q
        rw [hy] at h
        simp only [Except.ok.injEq, Prod.mk.injEq] at h
        have := endsE_bd k s1 l' s2 hv.2.2.1 hy
        rw [← h.1, ← h.2]
        refine ⟨fun x hx' => ?_, this.2⟩
        rcases List.mem_cons.1 hx' with rfl | hx'
        · omega
        · exact this.1 x hx'
omit hb hbl in
theorem nth_last {l : List Int} (h : l ≠ []) : nth E_i l ((l.length : Int) - 1) = lastI l := by
  have : ∀ (l : List Int), l ≠ [] → l.getD (l.length - 1) 0 = lastI l := by
    intro l
    induction l with
    | nil => intro h; exact absurd rfl h
    | cons x t ih =>
      intro _
      cases t with
      | nil => rfl
      | cons y u =>
        have := ih (by simp)
        simp only [List.length_cons, lastI] at this ⊢
        rw [← this]; simp
  rw [← this l h]
  unfold nth
  have e : ((l.length : Int) - 1).toNat = l.length - 1 := by omega
  rw [e]; rfl
omit hb hbl in
theorem L_ends1 {x : List Int} (hx : x.length ≤ 40000) {R : R_simple_reader_ends → Prop} : ∀ (t p : List Int) (y : Int), x = p ++ t → ∃ y', (y' = 0 ↔ y = 0 ∧ rising (p.drop (p.length - 1) ++ t) = true) ∧ (y = 0 ∨ y = 12 → y' = 0 ∨ y' = 12) ∧
    ∀ (J : Nat → Int → Option R_simple_reader_ends) r, Ev (fun n => J n y') r → Ev (fun n => L_simple_reader_ends_1 x (J n) n y (p.length : Int)) r
  | [], p, y, h => by
    refine ⟨y, ?_, fun h => h, fun J r hJ => .succ ?_⟩
    · have : rising (p.drop (p.length - 1)) = true := by
        have hl : (p.drop (p.length - 1)).length ≤ 1 := by rw [List.length_drop]; omega
        match hp : p.drop (p.length - 1), hl with
        | [], _ => rfl
        | [a], _ => rfl
        | _ :: _ :: _, hl => simp at hl
      simp [this]
    · simp only [L_simple_reader_ends_1]
      exact .e (by rw [h]; simp) hJ.shift
  | c :: t, p, y, h => by
    have hlen : x.length = p.length + (t.length + 1) := by rw [h]; simp
    have e1 : w64 ((p.length : Int) + 1) = (((p ++ [c]).length : Nat) : Int) := by rw [w64_of (by omega) (by omega)]; simp
    have e2 : nth E_i x (p.length : Int) = c := nth_app' h rfl
    have hdr : (p ++ [c]).drop ((p ++ [c]).length - 1) = [c] := by simp
    cases hp : p.reverse with
    | nil =>
      have hp' : p = [] := by simpa using hp
      subst hp'
      obtain ⟨y', k1, k2, k3⟩ := L_ends1 hx (R := R) t [c] y (by rw [h]; simp)
      refine ⟨y', by simpa using k1, k2, fun J r hJ => .succ ?_⟩
      simp only [L_simple_reader_ends_1]
      refine .t (by simp; omega) (.gd (by simp; omega) (.lj (.e (by simp) ?_)))
      rw [e1]
      exact k3 (fun n => J (n + 1)) r hJ.shift
    | cons d q =>
      have hp' : p = q.reverse ++ [d] := by
        have := congrArg List.reverse hp
        simpa using this
      have hpl : p.length = q.length + 1 := by rw [hp']; simp
      have e3 : nth E_i x (w64 ((p.length : Int) - 1)) = d := by
        rw [w64_of (by omega) (by omega)]
        exact nth_app' (p := q.reverse) (t := c :: t) (by rw [h, hp']; simp) (by rw [hp']; simp)
      obtain ⟨y', k1, k2, k3⟩ := L_ends1 hx (R := R) t (p ++ [c]) (if decide (c ≤ d) then 12 else y) (by rw [h]; simp)
      refine ⟨y', ?_, fun hy => k2 (by split <;> omega), fun J r hJ => .succ ?_⟩
      · rw [k1, hdr]
        have hd : p.drop (p.length - 1) = [d] := by rw [hp']; simp
        rw [hd]
        simp only [List.singleton_append, rising]
        by_cases hcd : c ≤ d
        · simp [hcd]; intro _ h; omega
        · have : d < c := by omega
          simp [hcd, this]
      · simp only [L_simple_reader_ends_1]
        refine .t (by simp; omega) (.gd (by omega) (.lj (.t (by simp; omega) (.gd (by rw [w64_of (by omega) (by omega)]; omega) ?_))))
        rw [e1, e2, e3]
        exact k3 (fun n => J (n + 1)) r hJ.shift
def endsX (k : Nat) (s : List Int) : Except Int (List Int × List Int) := match endsE k s with
  | .error e => .error e
  | .ok (es, s1) => if rising es = false then .error 12 else if 4096 ≤ lastI es then .error 7 else .ok (es, s1)
theorem ends_run {k : Nat} (hk0 : 0 < k) (hk : k ≤ 40000) {st : T_SLBiie} {s : List Int} (hr : Rel b st (.ok s)) : Run b (fun n => F_simple_reader_ends n st (k : Int)) (endsX k s) := by
  obtain ⟨v, st', h1, h2⟩ := L_ends hb hbl (a1 := (k : Int)) (by omega) k st s [] hr (by simp)
  unfold endsX
  cases hx : endsE k s with
  | error e =>
    rw [hx] at h1
    refine Run.er (v := []) (st := st') ?_ h1
    simp only [F_simple_reader_ends]
    refine .lj (h2 (fun n x10 x11 x12 x13 => _) _ ?_)
    obtain ⟨_, g2, g3⟩ := h1
    exact .t (by simp [g2, g3]) (.ret _)
  | ok p =>
    obtain ⟨es, s1⟩ := p
    rw [hx] at h1
    obtain ⟨h0, h1⟩ := h1
    have hv : v = es := by simpa using h0
    subst hv
    have hlen := endsE_len k s v s1 hx
    have hne : v ≠ [] := by intro e; subst e; simp at hlen; omega
    obtain ⟨y', k1, k2, k3⟩ := L_ends1 (x := v) (by omega) (R := fun _ => True) v [] st'.f2 rfl
    obtain ⟨g1, g2, g3⟩ := h1
    have k2' := k2 (.inl g2)
    simp only [List.length_nil, List.drop_nil, List.nil_append, g2, true_and] at k1
    have hlast : nth E_i v (w64 ((k : Int) - 1)) = lastI v := by
      rw [w64_of (by omega) (by omega), ← hlen]; exact nth_last hne
    have core : ∀ res, Ev (fun n => (lj (fun (x28 : Bool) => some (v, (⟨st'.f0, st'.f1, (if x28 then 7 else y')⟩ : T_SLBiie))) fun j29 =>
        if (decide (y' = 0)) then gd (0 ≤ (w64 ((k : Int) - 1)) ∧ (w64 ((k : Int) - 1)) < v.length) (j29 (decide (4096 ≤ (nth E_i v (w64 ((k : Int) - 1)))))) else j29 false : Option R_simple_reader_ends)) res → Ev (fun n => F_simple_reader_ends n st (k : Int)) res := by
      intro res hres
      simp only [F_simple_reader_ends]
      refine .lj (h2 (fun n x10 x11 x12 x13 => _) _ ?_)
      refine .e (by simp [g2]) (.lj ?_)
      exact k3 (fun n x25 => _) _ hres
    simp only
    by_cases hris : rising v = false
    · simp only [hris, if_true]
      have hy : y' = 12 := by
        rcases k2' with h | h
        · rw [k1, hris] at h; simp at h
        · exact h
      refine Run.er (v := v) (st := ⟨st'.f0, st'.f1, 12⟩) (core _ ?_) ⟨g1, rfl, by decide⟩
      rw [hy]
      exact .lj (.e rfl (.ret _))
    · simp only [hris, if_false]
      have hy : y' = 0 := k1.2 (by simpa using hris)
      rw [hy] at core
      rw [hlast] at core
      by_cases h4 : 4096 ≤ lastI v
      · simp only [h4, if_true]
        refine Run.er (v := v) (st := ⟨st'.f0, st'.f1, 7⟩) (core _ ?_) ⟨g1, rfl, by decide⟩
        refine .lj (.t rfl (.gd (by rw [w64_of (by omega) (by omega)]; omega) ?_))
        rw [decide_eq_true h4]; exact .ret _
      · simp only [h4, if_false]
        refine Run.ok (st := ⟨st'.f0, st'.f1, 0⟩) (core _ ?_) ⟨g1, rfl, g3⟩
        refine .lj (.t rfl (.gd (by rw [w64_of (by omega) (by omega)]; omega) ?_))
        rw [decide_eq_false h4]; exact .ret _
/-! the code -/
theorem code_run {st : T_SLBiie} {s : List Int} (hr : Rel b st (.ok s)) : Run b (fun n => F_simple_reader_code n st) (codeE s) := by
  have hu := su_run hb hbl (w := 2) (by omega) (wi := 2) rfl hr
  have hs := Rel.bytes hb hr
  unfold codeE
  cases hx : rU 2 s with
  | error e =>
    rw [hx] at hu
    obtain ⟨v, st1, h1, r1⟩ := hu
    refine Run.er (v := []) (st := st1) ?_ r1
    simp only [F_simple_reader_code]
    exact .bind h1 (.t (by simp [r1.2.1, r1.2.2]) (.ret _))
  | ok p =>
    obtain ⟨k, s1⟩ := p
    rw [hx] at hu
    obtain ⟨st1, h1, g1, g2, pre, g3, g4⟩ := hu
    have hbd := rU_bd hs hx
    have hlen : b.length = pre.length + s1.length := by rw [g3]; simp
    simp only
    by_cases hk : (s1.length : Int) < k
    · simp only [hk, if_true]
      refine Run.er (v := []) (st := ⟨st1.f0, w64 (st1.f1 + k), 3⟩) ?_ ⟨g1, rfl, by decide⟩
      simp only [F_simple_reader_code]
      refine .bind h1 (.e (by simp [g2]) (.bind (v := ([], 3)) ?_ (.ret _)))
      simp only [g1]
      exact be_Cut_short hbl (by omega) (by omega) hbd.1 (by omega)
    · simp only [hk, if_false]
      refine Run.ok (st := ⟨st1.f0, w64 (st1.f1 + k), 0⟩) ?_ ⟨g1, rfl, pre ++ s1.take k.toNat, ?_, ?_⟩
      · simp only [F_simple_reader_code]
        refine .bind h1 (.e (by simp [g2]) (.bind (v := (s1.take k.toNat, 0)) ?_ (.ret _)))
        simp only [g1]
        exact be_Cut_ok (x := pre) (z := s1.drop k.toNat) hbl (by rw [List.take_append_drop]; exact g3) g4 (by rw [List.length_take]; omega)
      · rw [List.append_assoc, List.take_append_drop]; exact g3
      · simp only [List.length_append, List.length_take, g4]
        rw [w64_of (by omega) (by omega)]; omega
omit hb hbl in
theorem code_err {e : Int} {st : T_SLBiie} (hr : Rel b st (.error e)) : Ev (fun n => F_simple_reader_code n st) ([], st) := by
  simp only [F_simple_reader_code]
  exact .bind (su_err hr) (.t (by simp [hr.2.1, hr.2.2]) (.ret _))
end
end Go.Proofs.Ytgkekjfbacncoaa
set_option linter.unusedSimpArgs false
set_option linter.unusedVariables false
open Go Go.Ab
namespace Go.Proofs.Ytgkekjfbacncoaa
theorem u8_bit8 : ∀ f : Fin 256, decide (bits .and .u8 (f.val : Int) 8 = 0) = decide ((f.val : Int) / 8 % 2 = 0) := by decide +kernel
theorem u8_bit1 : ∀ f : Fin 256, (!decide (bits .and .u8 (f.val : Int) 1 = 0)) = decide ((f.val : Int) % 2 = 1) := by decide +kernel
theorem u8_x : ∀ f : Fin 256, (decide (bits .and .u8 (f.val : Int) (bits .or .u8 2 16) = bits .or .u8 2 16) = (decide ((f.val : Int) / 2 % 2 = 1) && decide ((f.val : Int) / 16 % 2 = 1))) ∧
    (decide (bits .and .u8 (f.val : Int) (bits .or .u8 2 16) = 2) = (decide ((f.val : Int) / 2 % 2 = 1) && decide ((f.val : Int) / 16 % 2 = 0))) ∧
    (decide (bits .and .u8 (f.val : Int) (bits .or .u8 2 16) = 0) = (decide ((f.val : Int) / 2 % 2 = 0) && decide ((f.val : Int) / 16 % 2 = 0))) := by decide +kernel
theorem u8_y : ∀ f : Fin 256, (decide (bits .and .u8 (f.val : Int) (bits .or .u8 4 32) = bits .or .u8 4 32) = (decide ((f.val : Int) / 4 % 2 = 1) && decide ((f.val : Int) / 32 % 2 = 1))) ∧
    (decide (bits .and .u8 (f.val : Int) (bits .or .u8 4 32) = 4) = (decide ((f.val : Int) / 4 % 2 = 1) && decide ((f.val : Int) / 32 % 2 = 0))) ∧
    (decide (bits .and .u8 (f.val : Int) (bits .or .u8 4 32) = 0) = (decide ((f.val : Int) / 4 % 2 = 0) && decide ((f.val : Int) / 32 % 2 = 0))) := by decide +kernel
theorem fin_of {f : Int} (h0 : 0 ≤ f) (h1 : f < 256) : ∃ g : Fin 256, (g.val : Int) = f := ⟨⟨f.toNat, by omega⟩, by simp; omega⟩
theorem wrap8 {f : Int} (h0 : 0 ≤ f) (h1 : f < 256) : IntKind.wrap .u8 f = f := by rw [IntKind.wrap_u8]; omega
theorem flagsE_spec : ∀ (k m : Nat) (s l s' : List Int), Bytes s → flagsE k m s = .ok (l, s') → l.length = m ∧ (∀ x ∈ l, 0 ≤ x ∧ x < 256) ∧ Bytes s'
  | _, 0, s, l, s', hs, h => by simp [flagsE] at h; rw [h.1, ← h.2]; exact ⟨rfl, by simp, hs⟩
  | 0, m + 1, s, l, s', hs, h => by simp [flagsE] at h
  | k + 1, m + 1, s, l, s', hs, h => by
    simp only [flagsE] at h
    cases hx : rU 1 s with
    | error e => rw [hx] at h; simp at h
    | ok p =>
      obtain ⟨f, s1⟩ := p
      have hf := rU_bd hs hx
      rw [hx] at h; simp only at h
      cases hy : againE f s1 with
      | error e => rw [hy] at h; simp at h
      | ok q =>
        obtain ⟨r, s2⟩ := q
        rw [hy] at h; simp only at h
        have hr : 0 ≤ r ∧ Bytes s2 := by
          unfold againE at hy
          split at hy
          · have := rU_bd hf.2.2.1 hy; exact ⟨this.1, this.2.2.1⟩
          · simp only [Except.ok.injEq, Prod.mk.injEq] at hy
            rw [← hy.1, ← hy.2]; exact ⟨Int.le_refl _, hf.2.2.1⟩
        split at h
        · simp at h
        · rename_i hm
          cases hz : flagsE k (m - r.toNat) s2 with
          | error e => rw [hz] at h; simp at h
          | ok u =>
            obtain ⟨l', s3⟩ := u
            rw [hz] at h
            simp only [Except.ok.injEq, Prod.mk.injEq] at h
            have ih := flagsE_spec k _ s2 l' s3 hr.2 hz
            rw [← h.1, ← h.2]
            refine ⟨by simp [ih.1]; omega, fun x hx' => ?_, ih.2.2⟩
            rcases List.mem_append.1 hx' with hx' | hx'
            · rw [List.mem_replicate] at hx'; rw [hx'.2]; omega
            · exact ih.2.1 x hx'
theorem stepE_spec {f a c v v' : Int} {s s' : List Int} (hs : Bytes s) (hv : -32768 ≤ v ∧ v ≤ 32767) (h : stepE f a c v s = .ok (v', s')) : -100000 ≤ v' ∧ v' ≤ 100000 ∧ Bytes s' := by
  unfold stepE at h
  split at h
  · cases hx : rU 1 s with
    | error e => rw [hx] at h; simp at h
    | ok p =>
      obtain ⟨x, s1⟩ := p
      have hf := rU_bd hs hx
      rw [hx] at h
      simp only [Except.ok.injEq, Prod.mk.injEq] at h
      rw [← h.2]
      refine ⟨?_, ?_, hf.2.2.1⟩ <;> rw [← h.1] <;> split <;> omega
  · split at h
    · simp only [Except.ok.injEq, Prod.mk.injEq] at h
      rw [← h.1, ← h.2]; exact ⟨by omega, by omega, hs⟩
    · cases hx : rU 2 s with
      | error e => rw [hx] at h; simp at h
      | ok p =>
        obtain ⟨x, s1⟩ := p
        have hf := rU_bd hs hx
        rw [hx] at h
        simp only [Except.ok.injEq, Prod.mk.injEq] at h
        rw [← h.2]
        refine ⟨?_, ?_, hf.2.2.1⟩ <;> rw [← h.1] <;> split <;> omega
theorem stepsE_spec {a c : Int} : ∀ (fs : List Int) (v : Int) (s l s' : List Int), Bytes s → (-32768 ≤ v ∧ v ≤ 32767) → stepsE a c fs v s = .ok (l, s') → l.length = fs.length ∧ (∀ x ∈ l, -32768 ≤ x ∧ x ≤ 32767) ∧ Bytes s'
  | [], v, s, l, s', hs, hv, h => by simp [stepsE] at h; rw [h.1, ← h.2]; exact ⟨rfl, by simp, hs⟩
  | f :: fs, v, s, l, s', hs, hv, h => by
    simp only [stepsE] at h
    cases hx : stepE f a c v s with
    | error e => rw [hx] at h; simp at h
    | ok p =>
      obtain ⟨v1, s1⟩ := p
      have h1 := stepE_spec hs hv hx
      rw [hx] at h; simp only at h
      split at h
      · simp at h
      · rename_i hr
        cases hy : stepsE a c fs v1 s1 with
        | error e => rw [hy] at h; simp at h
        | ok q =>
          obtain ⟨l', s2⟩ := q
          rw [hy] at h
          simp only [Except.ok.injEq, Prod.mk.injEq] at h
          have ih := stepsE_spec fs v1 s1 l' s2 h1.2.2 (by omega) hy
          rw [← h.1, ← h.2]
          refine ⟨by simp [ih.1], fun x hx' => ?_, ih.2.2⟩
          rcases List.mem_cons.1 hx' with rfl | hx'
          · omega
          · exact ih.2.1 x hx'
theorem flagsE_zero (k : Nat) (s : List Int) : flagsE k 0 s = .ok ([], s) := by cases k <;> rfl
section
variable {b : List Int} (hb : Bytes b) (hbl : b.length ≤ 140737488351232)
include hb hbl
theorem L_flags {a1 : Int} (ha : a1 ≤ 5000) : ∀ (m k r : Nat) (st : T_SLBiie) (s acc : List Int) (f : Int), Rel b st (.ok s) → (acc.length : Int) + m = a1 → 1 ≤ m → r ≤ m → m - r ≤ k →
    Run b (fun n => L_simple_reader_flags_0 a1 n st.f0 st.f1 st.f2 acc f (r : Int)) (mapO (fun l => acc ++ (List.replicate r f ++ l)) (flagsE k (m - r) s))
  | m + 1, k, r + 1, st, s, acc, f, hr, hl, _, hrm, hk => by
    have e1 : w64 (((r + 1 : Nat) : Int) - 1) = (r : Int) := by rw [w64_of (by omega) (by omega)]; omega
    have em : m + 1 - (r + 1) = m - r := by omega
    rw [em]
    by_cases hm : m = 0
    · subst hm
      have : r = 0 := by omega
      subst this
      rw [show flagsE k (0 - 0) s = .ok ([], s) from flagsE_zero k s]
      refine Run.ok (st := st) (.succ ?_) hr
      simp only [L_simple_reader_flags_0]
      refine .lj (.t (by simp) (.e (by simp [hr.2.1]) (.gd (fits_small (by simp; omega) (by decide)) (.e (by simp; omega) (.ret' ?_)))))
      simp
    · have ih := L_flags ha m k r st s (acc ++ [f]) f hr (by simp; omega) (by omega) (by omega) (by omega)
      have step : ∀ v st', Ev (fun n => L_simple_reader_flags_0 a1 n st.f0 st.f1 st.f2 (acc ++ [f]) f (r : Int)) (v, st') → Ev (fun n => L_simple_reader_flags_0 a1 n st.f0 st.f1 st.f2 acc f ((r + 1 : Nat) : Int)) (v, st') := by
        intro v st' h
        refine .succ ?_
        simp only [L_simple_reader_flags_0]
        refine .lj (.t (by simp) (.e (by simp [hr.2.1]) (.gd (fits_small (by simp; omega) (by decide)) (.t (by simp; omega) ?_))))
        rw [e1]; exact h
      cases hx : flagsE k (m - r) s with
      | error e =>
        rw [hx] at ih
        obtain ⟨v, st', h1, h2⟩ := ih
        exact Run.er (step _ _ h1) h2
      | ok p =>
        obtain ⟨l, s'⟩ := p
        rw [hx] at ih
        obtain ⟨st', h1, h2⟩ := ih
        refine Run.ok (st := st') (step _ _ ?_) h2
        simpa [List.replicate_succ] using h1
  | m + 1, k, 0, st, s, acc, f, hr, hl, _, _, hk => by
    obtain ⟨k, rfl⟩ : ∃ k', k = k' + 1 := ⟨k - 1, by omega⟩
    have hs := Rel.bytes hb hr
    have hu := su_run hb hbl (w := 1) (by omega) (wi := 1) rfl hr
    show Run b _ (mapO (fun l => acc ++ ([] ++ l)) (flagsE (k + 1) (m + 1) s))
    simp only [flagsE, List.nil_append]
    cases hx : rU 1 s with
    | error e =>
      rw [hx] at hu
      obtain ⟨v, st1, h1, r1⟩ := hu
      have hz : v = 0 ∨ v ≠ 0 := by omega
      -- what was read on an error does not matter: the error stands
      by_cases h8 : decide (bits .and .u8 (IntKind.wrap .u8 v) 8 = 0) = true
      · refine Run.er (v := []) (st := st1) (.succ ?_) r1
        simp only [L_simple_reader_flags_0]
        refine .lj (.e (by simp) (.bind h1 (.lj (.e (by rw [h8]; rfl) (.e (by simp [r1.2.1, r1.2.2]) (.t (by simp [r1.2.1, r1.2.2]) (.ret _)))))))
      · refine Run.er (v := []) (st := st1) (.succ ?_) r1
        simp only [L_simple_reader_flags_0]
        have h8' : decide (bits .and .u8 (IntKind.wrap .u8 v) 8 = 0) = false := by simpa using h8
        refine .lj (.e (by simp) (.bind h1 (.lj (.t (by rw [h8']; rfl) (.bind (su_err r1) (.e (by simp [r1.2.1, r1.2.2]) (.t (by simp [r1.2.1, r1.2.2]) (.ret _))))))))
    | ok p =>
      obtain ⟨g, s1⟩ := p
      have hg := rU_bd hs hx
      rw [hx] at hu
      obtain ⟨st1, h1, r1⟩ := hu
      simp only
      have hg8 : IntKind.wrap .u8 g = g := wrap8 hg.1 (by omega)
      obtain ⟨gf, hgf⟩ := fin_of hg.1 (by omega)
      have h8 := u8_bit8 gf
      rw [hgf] at h8
      -- what comes behind a run that was told
      have fin : ∀ (x : Int) (s2 : List Int) (st2 : T_SLBiie), Rel b st2 (.ok s2) → 0 ≤ x → ∀ (G : Nat → Option R_simple_reader_flags), (∀ res, Ev (fun n => (if ((decide (st2.f2 = 0)) && (decide ((w64 (a1 - (acc.length : Int))) ≤ x))) then
              (if (!decide ((4 : Int) = 0)) then some (([] : List Int), (⟨st2.f0, st2.f1, 4⟩ : T_SLBiie)) else gd (fits (acc.length + ([g] : List Int).length) 1 = true) <| if (decide (((acc ++ ([g] : List Int)).length : Int) < a1)) then L_simple_reader_flags_0 a1 n st2.f0 st2.f1 4 (acc ++ ([g] : List Int)) g x else some ((acc ++ ([g] : List Int)), (⟨st2.f0, st2.f1, 4⟩ : T_SLBiie)))
            else (if (!decide (st2.f2 = 0)) then some (([] : List Int), (⟨st2.f0, st2.f1, st2.f2⟩ : T_SLBiie)) else gd (fits (acc.length + ([g] : List Int).length) 1 = true) <| if (decide (((acc ++ ([g] : List Int)).length : Int) < a1)) then L_simple_reader_flags_0 a1 n st2.f0 st2.f1 st2.f2 (acc ++ ([g] : List Int)) g x else some ((acc ++ ([g] : List Int)), (⟨st2.f0, st2.f1, st2.f2⟩ : T_SLBiie))) : Option R_simple_reader_flags)) res → Ev G res) →
          Run b G (mapO (fun l => acc ++ l) (if (m : Int) < x then .error 4 else match flagsE k (m - x.toNat) s2 with | .error e => .error e | .ok (l, s3) => .ok (List.replicate (x.toNat + 1) g ++ l, s3))) := by
        intro x s2 st2 r2 hx0 G hG
        have ew : w64 (a1 - (acc.length : Int)) = (m : Int) + 1 := by rw [w64_of (by omega) (by omega)]; omega
        by_cases hmx : (m : Int) < x
        · simp only [hmx, if_true, mapO]
          refine Run.er (v := []) (st := ⟨st2.f0, st2.f1, 4⟩) (hG _ ?_) ⟨r2.1, rfl, by decide⟩
          exact .t (by rw [ew]; simp [r2.2.1]; omega) (.t (by decide) (.ret _))
        · simp only [hmx, if_false]
          have nx : (decide (st2.f2 = 0) && decide (w64 (a1 - (acc.length : Int)) ≤ x)) = false := by rw [ew]; simp [r2.2.1]; omega
          by_cases hm : m = 0
          · subst hm
            have : x.toNat = 0 := by omega
            rw [this, show flagsE k (0 - 0) s2 = .ok ([], s2) from flagsE_zero k s2]
            simp only [mapO]
            refine Run.ok (st := st2) (hG _ ?_) r2
            refine .e nx (.e (by simp [r2.2.1]) (.gd (fits_small (by simp; omega) (by decide)) (.e (by simp; omega) (.ret' ?_))))
            simp
          · have ih := L_flags ha m k x.toNat st2 s2 (acc ++ [g]) g r2 (by simp; omega) (by omega) (by omega) (by omega)
            have hxx : ((x.toNat : Nat) : Int) = x := by omega
            rw [hxx] at ih
            have step : ∀ v st', Ev (fun n => L_simple_reader_flags_0 a1 n st2.f0 st2.f1 st2.f2 (acc ++ [g]) g x) (v, st') → Ev G (v, st') := by
              intro v st' h
              refine hG _ ?_
              exact .e nx (.e (by simp [r2.2.1]) (.gd (fits_small (by simp; omega) (by decide)) (.t (by simp; omega) h)))
            cases hf : flagsE k (m - x.toNat) s2 with
            | error e =>
              rw [hf] at ih
              obtain ⟨v, st', g1, g2⟩ := ih
              exact Run.er (step _ _ g1) g2
            | ok p =>
              obtain ⟨l, s'⟩ := p
              rw [hf] at ih
              obtain ⟨st', g1, g2⟩ := ih
              refine Run.ok (st := st') (step _ _ ?_) g2
              simpa [List.replicate_succ] using g1
      by_cases c8 : g / 8 % 2 = 1
      · have n8 : (!decide (bits .and .u8 g 8 = 0)) = true := by rw [h8]; simp; omega
        unfold againE
        simp only [c8, if_true]
        have hu2 := su_run hb hbl (w := 1) (by omega) (wi := 1) rfl r1
        cases hy : rU 1 s1 with
        | error e =>
          rw [hy] at hu2
          obtain ⟨v2, st2, h2, r2⟩ := hu2
          refine Run.er (v := []) (st := st2) (.succ ?_) r2
          simp only [L_simple_reader_flags_0]
          refine .lj (.e (by simp) (.bind h1 (.lj (.t (by rw [hg8]; exact n8) (.bind h2 (.e (by simp [r2.2.1, r2.2.2]) (.t (by simp [r2.2.1, r2.2.2]) (.ret _))))))))
        | ok q =>
          obtain ⟨x, s2⟩ := q
          have hxb := rU_bd hg.2.2.1 hy
          rw [hy] at hu2
          obtain ⟨st2, h2, r2⟩ := hu2
          refine fin x s2 st2 r2 hxb.1 _ fun res hres => .succ ?_
          simp only [L_simple_reader_flags_0]
          refine .lj (.e (by simp) (.bind h1 (.lj (.t (by rw [hg8]; exact n8) (.bind h2 ?_)))))
          rw [hg8]; exact hres
      · have n8 : (!decide (bits .and .u8 g 8 = 0)) = false := by rw [h8]; simp; omega
        unfold againE
        simp only [c8, if_false]
        refine fin 0 s1 st1 r1 (by omega) _ fun res hres => .succ ?_
        simp only [L_simple_reader_flags_0]
        refine .lj (.e (by simp) (.bind h1 (.lj (.e (by rw [hg8]; exact n8) ?_))))
        rw [hg8]; exact hres
theorem flags_run {m : Nat} (hm : 1 ≤ m) (hm2 : m ≤ 4096) {st : T_SLBiie} {s : List Int} (hr : Rel b st (.ok s)) : Run b (fun n => F_simple_reader_flags n st (m : Int)) (flagsE (m + 1) m s) := by
  have h := L_flags hb hbl (a1 := (m : Int)) (by omega) m (m + 1) 0 st s [] 0 hr (by simp) hm (by omega) (by omega)
  have eq : ∀ n, F_simple_reader_flags n st (m : Int) = L_simple_reader_flags_0 (m : Int) (n + 1) st.f0 st.f1 st.f2 [] 0 ((0 : Nat) : Int) := fun n => rfl
  have : mapO (fun l => ([] : List Int) ++ (List.replicate 0 (0 : Int) ++ l)) (flagsE (m + 1) (m - 0) s) = flagsE (m + 1) m s := by
    rw [Nat.sub_zero]
    cases flagsE (m + 1) m s with
    | error e => rfl
    | ok p => obtain ⟨l, s'⟩ := p; rfl
  rw [this] at h
  cases hx : flagsE (m + 1) m s with
  | error e =>
    rw [hx] at h
    obtain ⟨v, st', h1, h2⟩ := h
    exact Run.er (.eq eq h1.shift) h2
  | ok p =>
    obtain ⟨l, s'⟩ := p
    rw [hx] at h
    obtain ⟨st', h1, h2⟩ := h
    exact Run.ok (.eq eq h1.shift) h2
omit hb hbl in
theorem flags_err {m e : Int} {st : T_SLBiie} (hr : Rel b st (.error e)) : Ev (fun n => F_simple_reader_flags n st m) ([], st) := by
  simp only [F_simple_reader_flags]
  refine .lj (.e rfl (.bind (su_err hr) (.lj (.e (show (!decide (bits .and .u8 (IntKind.wrap .u8 0) 8 = 0)) = false by decide) (.e (by simp [hr.2.1, hr.2.2]) (.t (by simp [hr.2.1, hr.2.2]) (.ret _)))))))
end
end Go.Proofs.Ytgkekjfbacncoaa
set_option linter.unusedSimpArgs false
set_option linter.unusedVariables false
open Go Go.Ab
namespace Go.Proofs.Ytgkekjfbacncoaa
def Bits (a2 a3 : Int) : Prop := ∀ f : Fin 256, (decide (bits .and .u8 (f.val : Int) (bits .or .u8 a2 a3) = bits .or .u8 a2 a3) = (decide ((f.val : Int) / a2 % 2 = 1) && decide ((f.val : Int) / a3 % 2 = 1))) ∧
    (decide (bits .and .u8 (f.val : Int) (bits .or .u8 a2 a3) = a2) = (decide ((f.val : Int) / a2 % 2 = 1) && decide ((f.val : Int) / a3 % 2 = 0))) ∧
    (decide (bits .and .u8 (f.val : Int) (bits .or .u8 a2 a3) = 0) = (decide ((f.val : Int) / a2 % 2 = 0) && decide ((f.val : Int) / a3 % 2 = 0)))
theorem bits_x : Bits 2 16 := u8_x
theorem bits_y : Bits 4 32 := u8_y
theorem m2 (x : Int) (h : ¬ x % 2 = 1) : x % 2 = 0 := by omega
theorem m2' (x : Int) (h : x % 2 = 1) : ¬ x % 2 = 0 := by omega
def stepJ (a1 : List Int) (a2 a3 : Int) (y5 : List Int) (y7 : Int) (n : Nat) (x16 : List Int) (x17 x18 x19 : Int) : Option R_simple_reader_steps :=
        if (!decide ((if ((decide (x18 = 0)) && (!decide (x19 = (w64 ((IntKind.wrap .i16 (x19))))))) then 6 else x18) = 0)) then
          some (([] : List Int), (⟨x16, x17, (if ((decide (x18 = 0)) && (!decide (x19 = (w64 ((IntKind.wrap .i16 (x19))))))) then 6 else x18)⟩ : T_SLBiie))
        else
        gd (fits (y5.length + ([x19] : List Int).length) 8 = true) <|
        L_simple_reader_steps_0 a1 a2 a3 (fun x25 x26 x27 x28 => some (x28, (⟨x25, x26, x27⟩ : T_SLBiie))) n x16 x17 (if ((decide (x18 = 0)) && (!decide (x19 = (w64 ((IntKind.wrap .i16 (x19))))))) then 6 else x18) (y5 ++ ([x19] : List Int)) x19 (w64 (y7 + 1))
theorem sticky {x : Int} {c : Bool} (h : x ≠ 0) : (if ((decide (x = 0)) && c) then 6 else x) = x := by simp [h]
section
variable {b : List Int} (hb : Bytes b) (hbl : b.length ≤ 140737488351232)
include hb hbl
theorem step_run {R : Type} {a2 a3 g v : Int} (hB : Bits a2 a3) (hg : 0 ≤ g ∧ g < 256) (hv : -32768 ≤ v ∧ v ≤ 32767) {st : T_SLBiie} {s : List Int} (hr : Rel b st (.ok s)) :
    RunJ (R := R) b (fun J n =>
      if (decide ((bits .and .u8 g (bits .or .u8 a2 a3)) = (bits .or .u8 a2 a3))) then
        Option.bind (F_simple_reader_u n (⟨st.f0, st.f1, st.f2⟩ : T_SLBiie) 1) fun v11 =>
        J n v11.2.f0 v11.2.f1 v11.2.f2 (w64 (v + v11.1))
      else
      if (decide ((bits .and .u8 g (bits .or .u8 a2 a3)) = a2)) then
        Option.bind (F_simple_reader_u n (⟨st.f0, st.f1, st.f2⟩ : T_SLBiie) 1) fun v13 =>
        J n v13.2.f0 v13.2.f1 v13.2.f2 (w64 (v - v13.1))
      else
      if (decide ((bits .and .u8 g (bits .or .u8 a2 a3)) = 0)) then
        Option.bind (F_simple_reader_u n (⟨st.f0, st.f1, st.f2⟩ : T_SLBiie) 2) fun v15 =>
        J n v15.2.f0 v15.2.f1 v15.2.f2 (w64 (v + (w64 ((IntKind.wrap .i16 (v15.1))))))
      else
      J n st.f0 st.f1 st.f2 v) (stepE g a2 a3 v s) := by
  obtain ⟨gf, hgf⟩ := fin_of hg.1 hg.2
  obtain ⟨q1, q2, q3⟩ := hB gf
  rw [hgf] at q1 q2 q3
  have hs := Rel.bytes hb hr
  unfold stepE
  by_cases c1 : g / a2 % 2 = 1
  · have c1' := m2' _ c1
    simp only [c1, if_true]
    have hu := su_run hb hbl (w := 1) (by omega) (wi := 1) rfl hr
    by_cases c2 : g / a3 % 2 = 1
    · have c2' := m2' _ c2
      simp only [c1, c2, c1', c2', decide_true, decide_false, Bool.and_true, Bool.and_false] at q1 q2 q3
      cases hx : rU 1 s with
      | error e =>
        rw [hx] at hu
        obtain ⟨x, st1, h1, r1⟩ := hu
        exact ⟨w64 (v + x), st1, r1, fun J r hJ => .t q1 (.bind h1 hJ)⟩
      | ok p =>
        obtain ⟨x, s1⟩ := p
        have hf := rU_bd hs hx
        rw [hx] at hu
        obtain ⟨st1, h1, r1⟩ := hu
        simp only [c2, if_true]
        refine ⟨v + x, st1, ⟨rfl, r1⟩, fun J r hJ => .t q1 (.bind h1 ?_)⟩
        simp only
        rw [w64_of (by omega) (by omega)]; exact hJ
    · have c2' := m2 _ c2
      simp only [c1, c2, c1', c2', decide_true, decide_false, Bool.and_true, Bool.and_false] at q1 q2 q3
      cases hx : rU 1 s with
      | error e =>
        rw [hx] at hu
        obtain ⟨x, st1, h1, r1⟩ := hu
        exact ⟨w64 (v - x), st1, r1, fun J r hJ => .e q1 (.t q2 (.bind h1 hJ))⟩
      | ok p =>
        obtain ⟨x, s1⟩ := p
        have hf := rU_bd hs hx
        rw [hx] at hu
        obtain ⟨st1, h1, r1⟩ := hu
        simp only [c2, if_false]
        refine ⟨v - x, st1, ⟨rfl, r1⟩, fun J r hJ => .e q1 (.t q2 (.bind h1 ?_))⟩
        simp only
        rw [w64_of (by omega) (by omega)]; exact hJ
  · have c1' := m2 _ c1
    simp only [c1, if_false]
    by_cases c2 : g / a3 % 2 = 1
    · have c2' := m2' _ c2
      simp only [c1, c2, c1', c2', decide_true, decide_false, Bool.and_true, Bool.and_false] at q1 q2 q3
      simp only [c2, if_true]
      exact ⟨v, st, ⟨rfl, hr⟩, fun J r hJ => .e q1 (.e q2 (.e q3 hJ))⟩
    · have c2' := m2 _ c2
      simp only [c1, c2, c1', c2', decide_true, decide_false, Bool.and_true, Bool.and_false] at q1 q2 q3
      simp only [c2, if_false]
      have hu := su_run hb hbl (w := 2) (by omega) (wi := 2) rfl hr
      cases hx : rU 2 s with
      | error e =>
        rw [hx] at hu
        obtain ⟨x, st1, h1, r1⟩ := hu
        exact ⟨w64 (v + (w64 ((IntKind.wrap .i16 x)))), st1, r1, fun J r hJ => .e q1 (.e q2 (.t q3 (.bind h1 hJ)))⟩
      | ok p =>
        obtain ⟨x, s1⟩ := p
        have hf := rU_bd hs hx
        rw [hx] at hu
        obtain ⟨st1, h1, r1⟩ := hu
        refine ⟨v + (if x ≥ 32768 then x - 65536 else x), st1, ⟨rfl, r1⟩, fun J r hJ => .e q1 (.e q2 (.t q3 (.bind h1 ?_)))⟩
        have e : w64 (IntKind.wrap .i16 x) = (if x ≥ 32768 then x - 65536 else x) := by
          rw [wrap_i16]; split <;> rw [w64_of (by omega) (by omega)] <;> omega
        simp only
        rw [e, w64_of (by split <;> omega) (by split <;> omega)]; exact hJ
theorem L_steps {a1 : List Int} {a2 a3 : Int} (hB : Bits a2 a3) (ha : ∀ x ∈ a1, 0 ≤ x ∧ x < 256) (hal : a1.length ≤ 4096) : ∀ (t p acc : List Int) (v : Int) (st : T_SLBiie) (s : List Int), Rel b st (.ok s) → a1 = p ++ t → acc.length = p.length → (-32768 ≤ v ∧ v ≤ 32767) →
    Run b (fun n => L_simple_reader_steps_0 a1 a2 a3 (fun x25 x26 x27 x28 => some (x28, (⟨x25, x26, x27⟩ : T_SLBiie))) n st.f0 st.f1 st.f2 acc v (p.length : Int)) (mapO (fun l => acc ++ l) (stepsE a2 a3 t v s))
  | [], p, acc, v, st, s, hr, hp, hl, hv => by
    have : a1.length = p.length := by rw [hp]; simp
    refine Run.ok (st := st) (.succ ?_) hr
    simp only [L_simple_reader_steps_0]
    exact .e (by simp; omega) (.ret' (by simp))
  | g :: t, p, acc, v, st, s, hr, hp, hl, hv => by
    have hlen : a1.length = p.length + (t.length + 1) := by rw [hp]; simp
    have hnth : nth E_B a1 (p.length : Int) = g := nth_app' hp rfl
    have hg := ha g (by rw [hp]; simp)
    have e1 : w64 ((p.length : Int) + 1) = ((p ++ [g]).length : Int) := by rw [w64_of (by omega) (by omega)]; simp
    obtain ⟨v1, st1, h1, h2⟩ := step_run (R := R_simple_reader_steps) hb hbl hB hg hv hr
    have core0 : ∀ res, Ev (fun n => stepJ a1 a2 a3 acc (p.length : Int) n st1.f0 st1.f1 st1.f2 v1) res → Ev (fun n => L_simple_reader_steps_0 a1 a2 a3 (fun x25 x26 x27 x28 => some (x28, (⟨x25, x26, x27⟩ : T_SLBiie))) n st.f0 st.f1 st.f2 acc v (p.length : Int)) res := by
      intro res hres
      refine .succ ?_
      simp only [L_simple_reader_steps_0]
      refine .t (by simp; omega) (.gd (by omega) (.lj ?_))
      rw [hnth]
      exact h2 (stepJ a1 a2 a3 acc (p.length : Int)) res hres
    simp only [stepsE]
    cases hx : stepE g a2 a3 v s with
    | error e =>
      rw [hx] at h1
      have r1 : Rel b st1 (.error e) := h1
      refine Run.er (v := []) (st := st1) (core0 _ ?_) r1
      have hne : st1.f2 ≠ 0 := by rw [r1.2.1]; exact r1.2.2
      unfold stepJ
      simp only [sticky hne]
      exact .t (by simp [hne]) (.ret _)
    | ok q =>
      obtain ⟨v', s1⟩ := q
      have hsp := stepE_spec (Rel.bytes hb hr) hv hx
      rw [hx] at h1
      obtain ⟨rfl, r1⟩ := h1
      have h16 := i16_same v1 (by omega)
      simp only
      have core : ∀ res, Ev (fun n => (if (!decide ((if (!sh v1) then 6 else (0 : Int)) = 0)) then
          some (([] : List Int), (⟨st1.f0, st1.f1, (if (!sh v1) then 6 else (0 : Int))⟩ : T_SLBiie))
        else
        gd (fits (acc.length + ([v1] : List Int).length) 8 = true) <|
        L_simple_reader_steps_0 a1 a2 a3 (fun x25 x26 x27 x28 => some (x28, (⟨x25, x26, x27⟩ : T_SLBiie))) n st1.f0 st1.f1 (if (!sh v1) then 6 else (0 : Int)) (acc ++ ([v1] : List Int)) v1 ((p ++ [g]).length : Int) : Option R_simple_reader_steps)) res → Ev (fun n => L_simple_reader_steps_0 a1 a2 a3 (fun x25 x26 x27 x28 => some (x28, (⟨x25, x26, x27⟩ : T_SLBiie))) n st.f0 st.f1 st.f2 acc v (p.length : Int)) res := by
        intro res hres
        refine core0 _ ?_
        unfold stepJ
        rw [h16, e1, r1.2.1]
        exact hres
      by_cases hrg : v1 < -32768 ∨ 32767 < v1
      · simp only [hrg, if_true, mapO]
        have hsh : sh v1 = false := by
          rw [Bool.eq_false_iff]; intro h; rw [sh_iff] at h; omega
        rw [hsh] at core
        exact Run.er (v := []) (st := ⟨st1.f0, st1.f1, 6⟩) (core _ (.t rfl (.ret _))) ⟨r1.1, rfl, by decide⟩
      · simp only [hrg, if_false]
        have hsh : sh v1 = true := sh_iff.2 (by omega)
        rw [hsh] at core
        have ih := L_steps hB ha hal t (p ++ [g]) (acc ++ [v1]) v1 st1 s1 r1 (by rw [hp]; simp) (by simp [hl]) (by omega)
        rw [r1.2.1] at ih
        have step : ∀ res, Ev (fun n => L_simple_reader_steps_0 a1 a2 a3 (fun x25 x26 x27 x28 => some (x28, (⟨x25, x26, x27⟩ : T_SLBiie))) n st1.f0 st1.f1 0 (acc ++ [v1]) v1 ((p ++ [g]).length : Int)) res → Ev (fun n => L_simple_reader_steps_0 a1 a2 a3 (fun x25 x26 x27 x28 => some (x28, (⟨x25, x26, x27⟩ : T_SLBiie))) n st.f0 st.f1 st.f2 acc v (p.length : Int)) res := by
          intro res h
          exact core _ (.e rfl (.gd (fits_small (by simp; omega) (by decide)) h))
        cases hy : stepsE a2 a3 t v1 s1 with
        | error e =>
          rw [hy] at ih
          obtain ⟨u, st', g1, g2⟩ := ih
          exact Run.er (step _ g1) g2
        | ok q =>
          obtain ⟨l, s2⟩ := q
          rw [hy] at ih
          obtain ⟨st', g1, g2⟩ := ih
          refine Run.ok (st := st') (step _ ?_) g2
          simpa using g1
theorem steps_run {a1 : List Int} {a2 a3 : Int} (hB : Bits a2 a3) (ha : ∀ x ∈ a1, 0 ≤ x ∧ x < 256) (hal : a1.length ≤ 4096) {st : T_SLBiie} {s : List Int} (hr : Rel b st (.ok s)) :
    Run b (fun n => F_simple_reader_steps n st a1 a2 a3) (stepsE a2 a3 a1 0 s) := by
  have h := L_steps hb hbl hB ha hal a1 [] [] 0 st s hr rfl rfl (by omega)
  have : mapO (fun l => ([] : List Int) ++ l) (stepsE a2 a3 a1 0 s) = stepsE a2 a3 a1 0 s := by
    cases stepsE a2 a3 a1 0 s with
    | error e => rfl
    | ok p => rfl
  rw [this] at h
  exact h
omit hb hbl in
theorem steps_err {a1 : List Int} {a2 a3 : Int} {e : Int} {st : T_SLBiie} (hr : Rel b st (.error e)) : Ev (fun n => F_simple_reader_steps n st a1 a2 a3) ([], st) := by
  simp only [F_simple_reader_steps]
  refine .lj (.succ ?_)
  simp only [L_simple_reader_steps_0]
  cases a1 with
  | nil => exact .e (by simp) (.ret _)
  | cons g t =>
    refine .t (by simp) (.gd (by simp) (.lj ?_))
    have fin : ∀ (v1 : Int) (G : Nat → Option R_simple_reader_steps), (∀ n, G n = (if (!decide ((if ((decide (st.f2 = 0)) && (!decide (v1 = (w64 ((IntKind.wrap .i16 (v1))))))) then 6 else st.f2) = 0)) then
          some (([] : List Int), (⟨st.f0, st.f1, (if ((decide (st.f2 = 0)) && (!decide (v1 = (w64 ((IntKind.wrap .i16 (v1))))))) then 6 else st.f2)⟩ : T_SLBiie))
        else
        gd (fits (([] : List Int).length + ([v1] : List Int).length) 8 = true) <|
        L_simple_reader_steps_0 (g :: t) a2 a3 (fun x25 x26 x27 x28 => some (x28, (⟨x25, x26, x27⟩ : T_SLBiie))) n st.f0 st.f1 (if ((decide (st.f2 = 0)) && (!decide (v1 = (w64 ((IntKind.wrap .i16 (v1))))))) then 6 else st.f2) (([] : List Int) ++ ([v1] : List Int)) v1 (w64 (0 + 1)))) → Ev G ([], st) := by
      intro v1 G hG
      have hne : st.f2 ≠ 0 := by rw [hr.2.1]; exact hr.2.2
      refine .eq hG ?_
      simp only [sticky hne]
      exact .t (by simp [hne]) (.ret _)
    refine .ite (fun _ => .bind (su_err hr) (fin _ _ fun n => rfl)) (fun _ => .ite (fun _ => .bind (su_err hr) (fin _ _ fun n => rfl)) (fun _ => .ite (fun _ => .bind (su_err hr) (fin _ _ fun n => rfl)) (fun _ => fin _ _ fun n => rfl)))
end
end Go.Proofs.Ytgkekjfbacncoaa
set_option linter.unusedSimpArgs false
set_option linter.unusedVariables false
open Go Go.Ab
namespace Go.Proofs.Ytgkekjfbacncoaa
/-! ### the points, cut at the ends -/
theorem zipK_len : ∀ (xs ys fs : List Int), ys.length = xs.length → fs.length = xs.length → (zipK xs ys fs).length = xs.length
  | [], ys, fs, _, _ => by simp [zipK]
  | x :: xs, [], fs, h, _ => by simp at h
  | x :: xs, y :: ys, [], _, h => by simp at h
  | x :: xs, y :: ys, f :: fs, h, h' => by
    simp only [zipK, List.length_cons]
    rw [zipK_len xs ys fs (by simpa using h) (by simpa using h')]
theorem zipK_drop : ∀ (xs ys fs : List Int) (j : Nat), ys.length = xs.length → fs.length = xs.length → j < xs.length →
    (zipK xs ys fs).drop j = ⟨nth E_i xs j, nth E_i ys j, decide (nth E_B fs j % 2 = 1)⟩ :: (zipK xs ys fs).drop (j + 1)
  | [], ys, fs, j, _, _, h => by simp at h
  | x :: xs, [], fs, _, h, _, _ => by simp at h
  | x :: xs, y :: ys, [], _, _, h, _ => by simp at h
  | x :: xs, y :: ys, f :: fs, 0, h, h', _ => by
    simp [zipK, nth]
  | x :: xs, y :: ys, f :: fs, j + 1, h, h', hj => by
    have ih := zipK_drop xs ys fs j (by simpa using h) (by simpa using h') (by simpa using hj)
    have e : ∀ (E : Ty Int) (a : Int) (l : List Int), nth E (a :: l) ((j + 1 : Nat) : Int) = nth E l (j : Int) := by
      intro E a l
      unfold nth
      have : ((j + 1 : Nat) : Int).toNat = j + 1 := by omega
      rw [this]
      simp
    simp only [zipK, List.drop_succ_cons]
    rw [e, e, e, ih]
def Up (N : Int) : Int → List Int → Prop
  | _, [] => True
  | i, e :: t => i ≤ e ∧ e < N ∧ Up N (e + 1) t
theorem rising_up : ∀ (es : List Int) (i : Int), rising es = true → (∀ e t, es = e :: t → i ≤ e) → Up (lastI es + 1) i es
  | [], _, _, _ => trivial
  | [x], i, _, h => ⟨h _ _ rfl, by simp [lastI]; omega, trivial⟩
  | x :: y :: l, i, hr, h => by
    simp only [rising, Bool.and_eq_true, decide_eq_true_eq] at hr
    have ih := rising_up (y :: l) (x + 1) hr.2 (fun e t he => by injection he with h1 _; omega)
    have hl : lastI (x :: y :: l) = lastI (y :: l) := rfl
    rw [hl]
    exact ⟨h _ _ rfl, by have := ih.2.1; omega, ih⟩
theorem cutK_len : ∀ (es : List Int) (i : Int) (ks : List T_Siibe), (cutK es i ks).length = es.length
  | [], _, _ => rfl
  | e :: es, i, ks => by simp [cutK, cutK_len]
section
variable {xs ys fs es : List Int} {v7 : R_simple_reader_ends} {v11 : R_simple_reader_flags} {v12 v13 : R_simple_reader_steps}
  (h7 : v7.1 = es) (h11 : v11.1 = fs) (h12 : v12.1 = xs) (h13 : v13.1 = ys) (hx : xs.length ≤ 5000) (hy : ys.length = xs.length) (hf : fs.length = xs.length) (hfb : ∀ f ∈ fs, 0 ≤ f ∧ f < 256) (he : es.length ≤ 40000)
include h7 h11 h12 h13 hx hy hf hfb he
omit he in
theorem L_Read_1 {y18 e : Int} {J : Nat → List T_Siibe → Option R_simple_Read} {r : R_simple_Read} (he18 : nth E_i es y18 = e) (hexs : e < xs.length) :
    ∀ (k j : Nat) (acc : List T_Siibe), (j : Int) + k = e + 1 → acc.length ≤ j →
    Ev (fun n => J n (acc ++ ((zipK xs ys fs).drop j).take k)) r → Ev (fun n => L_simple_Read_1 v7 v11 v12 v13 y18 (J n) n acc (j : Int)) r
  | 0, j, acc, hk, ha, hJ => .succ (by
      simp only [L_simple_Read_1]
      rw [h7, he18]
      refine .e (by simp; omega) ?_
      simpa using hJ.shift)
  | k + 1, j, acc, hk, ha, hJ => .succ (by
      have hj : j < xs.length := by omega
      have hd := zipK_drop xs ys fs j hy hf hj
      have hfm : 0 ≤ nth E_B fs (j : Int) ∧ nth E_B fs (j : Int) < 256 := by
        have hm : nth E_B fs (j : Int) ∈ fs := List.mem_of_getElem? (nth_get E_B (l := fs) (i := j) (by omega))
        exact hfb _ hm
      obtain ⟨gf, hgf⟩ := fin_of hfm.1 hfm.2
      have hb1 := u8_bit1 gf
      rw [hgf] at hb1
      simp only [L_simple_Read_1]
      rw [h7, he18, h11, h12, h13, hb1]
      refine .t (by simp; omega) (.gd (by omega) (.gd (by omega) (.gd (by omega) (.gd (fits_small (by simp; omega) (by decide)) ?_))))
      have e1 : w64 ((j : Int) + 1) = ((j + 1 : Nat) : Int) := by rw [w64_of (by omega) (by omega)]; omega
      rw [e1]
      refine L_Read_1 (J := fun n => J (n + 1)) he18 hexs k (j + 1) _ (by omega) (by simp; omega) ?_
      have e2 : acc ++ [(⟨nth E_i xs j, nth E_i ys j, decide (nth E_B fs j % 2 = 1)⟩ : T_Siibe)] ++ ((zipK xs ys fs).drop (j + 1)).take k = acc ++ ((zipK xs ys fs).drop j).take (k + 1) := by
        rw [hd]; simp
      rw [e2]
      exact hJ.shift)
theorem L_Read_0 {J : Nat → List (List T_Siibe) → Option R_simple_Read} {r : R_simple_Read} : ∀ (t p : List Int) (i : Nat) (acc : List (List T_Siibe)), es = p ++ t → Up xs.length i t → acc.length = p.length →
    Ev (fun n => J n (acc ++ cutK t i ((zipK xs ys fs).drop i))) r → Ev (fun n => L_simple_Read_0 v7 v11 v12 v13 (J n) n acc (i : Int) (p.length : Int)) r
  | [], p, i, acc, hp, hu, ha, hJ => .succ (by
      have : es.length = p.length := by rw [hp]; simp
      simp only [L_simple_Read_0]
      rw [h7]
      refine .e (by simp; omega) ?_
      simpa [cutK] using hJ.shift)
  | e :: t, p, i, acc, hp, hu, ha, hJ => .succ (by
      have hlen : es.length = p.length + (t.length + 1) := by rw [hp]; simp
      have hnth : nth E_i es (p.length : Int) = e := nth_app' hp rfl
      obtain ⟨u1, u2, u3⟩ := hu
      have hi' : ((e + 1).toNat : Int) = e + 1 := by omega
      have ek : (e + 1 - (i : Int)).toNat = (e + 1).toNat - i := by omega
      simp only [L_simple_Read_0]
      rw [h7, hnth]
      refine .t (by simp; omega) (.lj (.gd (by omega) (.lj ?_)))
      refine L_Read_1 h7 h11 h12 h13 hx hy hf hfb (J := fun n x30 => gd (fits (acc.length + ([x30] : List (List T_Siibe)).length) 24 = true) <| L_simple_Read_0 v7 v11 v12 v13 (J (n + 1)) n (acc ++ [x30]) (w64 (e + 1)) (w64 ((p.length : Int) + 1))) hnth u2 (e + 1 - (i : Int)).toNat i [] (by omega) (by simp) ?_
      refine .gd (fits_small (by simp; omega) (by decide)) ?_
      have e1 : w64 ((p.length : Int) + 1) = ((p ++ [e]).length : Int) := by rw [w64_of (by omega) (by omega)]; simp
      have e2 : w64 (e + 1) = ((e + 1).toNat : Int) := by rw [w64_of (by omega) (by omega)]; omega
      rw [e1, e2]
      refine L_Read_0 (J := fun n => J (n + 1)) t (p ++ [e]) (e + 1).toNat _ (by rw [hp]; simp) (by rw [hi']; exact u3) (by simp [ha]) ?_
      have e3 : acc ++ [[] ++ ((zipK xs ys fs).drop i).take (e + 1 - (i : Int)).toNat] ++ cutK t ((e + 1).toNat : Int) ((zipK xs ys fs).drop (e + 1).toNat) = acc ++ cutK (e :: t) i ((zipK xs ys fs).drop i) := by
        simp only [cutK]
        rw [hi', List.drop_drop, show i + (e + 1 - (i : Int)).toNat = (e + 1).toNat by omega]
        simp
      rw [e3]
      exact hJ.shift)
end
theorem beS_bd2 {l : List Int} (hb : Bytes l) (h : l.length = 2) : -32768 ≤ beS l ∧ beS l ≤ 32767 := by
  have := beU_bound hb
  unfold beS
  rw [h] at this ⊢
  split <;> omega
/-! ### the whole -/
section
variable {b : List Int} (hb : Bytes b) (hbl : b.length ≤ 140737488351232)
include hb hbl
theorem simple_Read_ev : Ev (fun n => F_simple_Read n b) (simpleRead b) := by
  unfold simpleRead
  by_cases h0 : b = []
  · subst h0
    exact .t rfl (.ret _)
  have hl0 : b.length ≠ 0 := fun h => h0 (List.length_eq_zero_iff.1 h)
  simp only [h0, if_false]
  by_cases h10 : b.length < 10
  · simp only [h10, if_true]
    simp only [F_simple_Read]
    refine .e (by simp; omega) ?_
    by_cases h2 : b.length < 2
    · exact .bind (be_S_short (w := 2) hbl (by omega) (by omega) (by omega) (by omega) (by omega)) (.t (by simp) (.ret _))
    · have hs : b = [] ++ (b.take 2 ++ b.drop 2) := by simp
      exact .bind (be_S_ok (x := []) (y := b.take 2) (z := b.drop 2) hb hbl hs rfl (by rw [List.length_take]; omega) (by right; rw [List.length_take]; omega)) (.t (by simp; omega) (.ret _))
  simp only [h10, if_false]
  have hs : b = [] ++ (b.take 2 ++ b.drop 2) := by simp
  have hS := be_S_ok (at_ := 0) (w := 2) (x := []) (y := b.take 2) (z := b.drop 2) hb hbl hs rfl (by rw [List.length_take]; omega) (by right; rw [List.length_take]; omega)
  have hnb := beS_bd2 (hb.take 2) (by rw [List.length_take]; omega)
  generalize beS (b.take 2) = m at hS hnb
  have core : ∀ res, Ev (fun n => (if (decide (m < 0)) then
    some ((⟨([] : List (List T_Siibe)), ([] : List Int)⟩ : T_SLLSiibeLBe), 11)
  else
  if (decide (m = 0)) then
    some ((⟨([] : List (List T_Siibe)), ([] : List Int)⟩ : T_SLLSiibeLBe), 0)
  else
  Option.bind (F_simple_reader_ends n (⟨b, 10, 0⟩ : T_SLBiie) m) fun v7 =>
  if (!decide (v7.2.f2 = 0)) then
    some ((⟨([] : List (List T_Siibe)), ([] : List Int)⟩ : T_SLLSiibeLBe), v7.2.f2)
  else
  Option.bind (F_simple_reader_code n v7.2) fun v9 =>
  gd (0 ≤ (w64 (m - 1)) ∧ (w64 (m - 1)) < v7.1.length) <|
  Option.bind (F_simple_reader_flags n v9.2 (w64 ((nth E_i v7.1 (w64 (m - 1))) + 1))) fun v11 =>
  Option.bind (F_simple_reader_steps n v11.2 v11.1 2 16) fun v12 =>
  Option.bind (F_simple_reader_steps n v12.2 v11.1 4 32) fun v13 =>
  if (!decide (v13.2.f2 = 0)) then
    some ((⟨([] : List (List T_Siibe)), ([] : List Int)⟩ : T_SLLSiibeLBe), v13.2.f2)
  else
  lj (fun (x33 : (List (List T_Siibe))) =>
    some ((⟨x33, v9.1⟩ : T_SLLSiibeLBe), 0)) fun j15 =>
  L_simple_Read_0 v7 v11 v12 v13 j15 n ([] : List (List T_Siibe)) 0 0 : Option R_simple_Read)) res → Ev (fun n => F_simple_Read n b) res := by
    intro res hres
    simp only [F_simple_Read]
    exact .e (by simp; omega) (.bind hS (.e (by simp; omega) hres))
  by_cases hm1 : m < 0
  · simp only [hm1, if_true]
    exact core _ (.t (by simpa using hm1) (.ret _))
  simp only [hm1, if_false]
  by_cases hm0 : m = 0
  · simp only [hm0, if_true]
    exact core _ (.e (by simpa using hm1) (.t (by simpa using hm0) (.ret _)))
  simp only [hm0, if_false]
  have hR : Rel b ⟨b, 10, 0⟩ (.ok (b.drop 10)) := ⟨rfl, rfl, b.take 10, by simp, by rw [List.length_take]; simp; omega⟩
  have hmm : ((m.toNat : Nat) : Int) = m := by omega
  have hends := ends_run hb hbl (k := m.toNat) (by omega) (by omega) hR
  rw [hmm] at hends
  have core2 : ∀ (v7 : R_simple_reader_ends), Ev (fun n => F_simple_reader_ends n (⟨b, 10, 0⟩ : T_SLBiie) m) v7 → ∀ res, Ev (fun n => (
  if (!decide (v7.2.f2 = 0)) then
    some ((⟨([] : List (List T_Siibe)), ([] : List Int)⟩ : T_SLLSiibeLBe), v7.2.f2)
  else
  Option.bind (F_simple_reader_code n v7.2) fun v9 =>
  gd (0 ≤ (w64 (m - 1)) ∧ (w64 (m - 1)) < v7.1.length) <|
  Option.bind (F_simple_reader_flags n v9.2 (w64 ((nth E_i v7.1 (w64 (m - 1))) + 1))) fun v11 =>
  Option.bind (F_simple_reader_steps n v11.2 v11.1 2 16) fun v12 =>
  Option.bind (F_simple_reader_steps n v12.2 v11.1 4 32) fun v13 =>
  if (!decide (v13.2.f2 = 0)) then
    some ((⟨([] : List (List T_Siibe)), ([] : List Int)⟩ : T_SLLSiibeLBe), v13.2.f2)
  else
  lj (fun (x33 : (List (List T_Siibe))) =>
    some ((⟨x33, v9.1⟩ : T_SLLSiibeLBe), 0)) fun j15 =>
  L_simple_Read_0 v7 v11 v12 v13 j15 n ([] : List (List T_Siibe)) 0 0 : Option R_simple_Read)) res → Ev (fun n => F_simple_Read n b) res := by
    intro v7 h7 res hres
    exact core _ (.e (by simpa using hm1) (.e (by simpa using hm0) (.bind h7 hres)))
  clear core
  -- an error stands to the end
  have err3 : ∀ (v11 : R_simple_reader_flags) (e : Int) (K : Nat → R_simple_reader_steps → R_simple_reader_steps → Option R_simple_Read), Rel b v11.2 (.error e) → Ev (fun n =>
      (Option.bind (F_simple_reader_steps n v11.2 v11.1 2 16) fun v12 =>
  Option.bind (F_simple_reader_steps n v12.2 v11.1 4 32) fun v13 =>
  if (!decide (v13.2.f2 = 0)) then
    some ((⟨([] : List (List T_Siibe)), ([] : List Int)⟩ : T_SLLSiibeLBe), v13.2.f2)
  else K n v12 v13 : Option R_simple_Read)) (noG, e) := by
    intro v11 e K hr
    refine .bind (steps_err hr) (.bind (steps_err hr) (.t (by simp [hr.2.1, hr.2.2]) (.ret' ?_)))
    simp only [hr.2.1]; rfl
  cases hE : endsE m.toNat (b.drop 10) with
  | error e =>
    simp only [endsX, hE] at hends
    obtain ⟨v, st, h1, r1⟩ := hends
    refine core2 _ h1 _ (.t (by simp [r1.2.1, r1.2.2]) (.ret' ?_))
    simp only [r1.2.1]; rfl
  | ok p =>
    obtain ⟨es, s1⟩ := p
    simp only [endsX, hE] at hends
    simp only
    by_cases hris : rising es = false
    · simp only [hris, if_true] at hends ⊢
      obtain ⟨v, st, h1, r1⟩ := hends
      refine core2 _ h1 _ (.t (by simp [r1.2.1, r1.2.2]) (.ret' ?_))
      simp only [r1.2.1]; rfl
    have hris' : rising es = true := by simpa using hris
    simp only [hris, if_false] at hends ⊢
    by_cases h4 : 4096 ≤ lastI es
    · simp only [h4, if_true] at hends ⊢
      obtain ⟨v, st, h1, r1⟩ := hends
      refine core2 _ h1 _ (.t (by simp [r1.2.1, r1.2.2]) (.ret' ?_))
      simp only [r1.2.1]; rfl
    simp only [h4, if_false] at hends ⊢
    obtain ⟨st1, h1, r1⟩ := hends
    have hlen := endsE_len _ _ es s1 hE
    have hbd := endsE_bd _ _ es s1 (hb.drop 10) hE
    have hne : es ≠ [] := by intro e; subst e; simp at hlen; omega
    have hlast : nth E_i es (w64 (m - 1)) = lastI es := by
      rw [w64_of (by omega) (by omega), show m - 1 = (es.length : Int) - 1 by omega]; exact nth_last hne
    have hl1 : 0 ≤ lastI es := by
      have : lastI es ∈ es := by rw [← nth_last hne]; exact List.mem_of_getElem? (by
        have := nth_get E_i (l := es) (i := es.length - 1) (by have := List.length_pos_iff.2 hne; omega)
        rw [show ((es.length - 1 : Nat) : Int) = (es.length : Int) - 1 by have := List.length_pos_iff.2 hne; omega] at this
        exact this)
      exact (hbd.1 _ this).1
    have hwl : w64 (lastI es + 1) = ((lastI es + 1).toNat : Int) := by rw [w64_of (by omega) (by omega)]; omega
    have hcode := code_run hb hbl r1
    have core3 : ∀ (v9 : R_simple_reader_code), Ev (fun n => F_simple_reader_code n st1) v9 → ∀ (v11 : R_simple_reader_flags), Ev (fun n => F_simple_reader_flags n v9.2 ((lastI es + 1).toNat : Int)) v11 → ∀ res, Ev (fun n => (
  Option.bind (F_simple_reader_steps n v11.2 v11.1 2 16) fun v12 =>
  Option.bind (F_simple_reader_steps n v12.2 v11.1 4 32) fun v13 =>
  if (!decide (v13.2.f2 = 0)) then
    some ((⟨([] : List (List T_Siibe)), ([] : List Int)⟩ : T_SLLSiibeLBe), v13.2.f2)
  else
  lj (fun (x33 : (List (List T_Siibe))) =>
    some ((⟨x33, v9.1⟩ : T_SLLSiibeLBe), 0)) fun j15 =>
  L_simple_Read_0 (es, st1) v11 v12 v13 j15 n ([] : List (List T_Siibe)) 0 0 : Option R_simple_Read)) res → Ev (fun n => F_simple_Read n b) res := by
      intro v9 h9 v11 h11 res hres
      refine core2 _ h1 _ (.e (by simp [r1.2.1]) (.bind h9 (.gd ?_ ?_)))
      · rw [w64_of (by omega) (by omega)]; simp only; omega
      · rw [hlast, hwl]
        exact .bind h11 hres
    clear core2
    cases hC : codeE s1 with
    | error e =>
      rw [hC] at hcode
      obtain ⟨v, st2, g1, r2⟩ := hcode
      exact core3 _ g1 _ (flags_err r2) _ (err3 _ e (fun n v12 v13 => _) r2)
    | ok p =>
      obtain ⟨code, s2⟩ := p
      rw [hC] at hcode
      obtain ⟨st2, g1, r2⟩ := hcode
      simp only
      have hfl := flags_run hb hbl (m := (lastI es + 1).toNat) (by omega) (by omega) r2
      cases hF : flagsE ((lastI es + 1).toNat + 1) (lastI es + 1).toNat s2 with
      | error e =>
        rw [hF] at hfl
        obtain ⟨v, st3, g2, r3⟩ := hfl
        exact core3 _ g1 _ g2 _ (err3 _ e (fun n v12 v13 => _) r3)
      | ok p =>
        obtain ⟨fs, s3⟩ := p
        rw [hF] at hfl
        obtain ⟨st3, g2, r3⟩ := hfl
        simp only
        have hfs := flagsE_spec _ _ s2 fs s3 (Rel.bytes hb r2) hF
        have hsx := steps_run hb hbl bits_x hfs.2.1 (by omega) r3
        cases hX : stepsE 2 16 fs 0 s3 with
        | error e =>
          rw [hX] at hsx
          obtain ⟨v, st4, g3, r4⟩ := hsx
          refine core3 _ g1 _ g2 _ (.bind g3 (.bind (steps_err r4) (.t (by simp [r4.2.1, r4.2.2]) (.ret' ?_))))
          simp only [r4.2.1]; rfl
        | ok p =>
          obtain ⟨xs, s4⟩ := p
          rw [hX] at hsx
          obtain ⟨st4, g3, r4⟩ := hsx
          simp only
          have hxs := stepsE_spec _ _ s3 xs s4 hfs.2.2 (by omega) hX
          have hsy := steps_run hb hbl bits_y hfs.2.1 (by omega) r4
          cases hY : stepsE 4 32 fs 0 s4 with
          | error e =>
            rw [hY] at hsy
            obtain ⟨v, st5, g4, r5⟩ := hsy
            refine core3 _ g1 _ g2 _ (.bind g3 (.bind g4 (.t (by simp [r5.2.1, r5.2.2]) (.ret' ?_))))
            simp only [r5.2.1]; rfl
          | ok p =>
            obtain ⟨ys, s5⟩ := p
            rw [hY] at hsy
            obtain ⟨st5, g4, r5⟩ := hsy
            simp only
            have hys := stepsE_spec _ _ s4 ys s5 hxs.2.2 (by omega) hY
            have hup := rising_up es 0 hris' (fun e t he => (hbd.1 e (by rw [he]; simp)).1)
            have hN : lastI es + 1 = (xs.length : Int) := by omega
            rw [hN] at hup
            refine core3 _ g1 _ g2 _ (.bind g3 (.bind g4 (.e (by simp [r5.2.1]) (.lj ?_))))
            refine L_Read_0 (xs := xs) (ys := ys) (fs := fs) (es := es) (v7 := (es, st1)) (v11 := (fs, st3)) (v12 := (xs, st4)) (v13 := (ys, st5)) rfl rfl rfl rfl (by omega) (by omega) (by omega) hfs.2.1 (by omega) (J := fun n x33 => some ((⟨x33, code⟩ : T_SLLSiibeLBe), 0)) es [] 0 [] rfl hup rfl ?_
            exact .ret' (by simp)
end
end Go.Proofs.Ytgkekjfbacncoaa
set_option linter.unusedSimpArgs false
set_option linter.unusedVariables false
open Go Go.Ab
namespace Go.Proofs.Ytgkekjfbacncoaa
theorem There_t {b : List Int} {at_ w : Int} (h0 : 0 ≤ at_) (h1 : 0 ≤ w) (h2 : at_ + w ≤ (b.length : Int)) (hb : b.length ≤ 140737488351232) (n : Nat) : F_r02_There n b at_ w = some true := by
  have e : w64 ((b.length : Int) - at_) = (b.length : Int) - at_ := w64_of (by omega) (by omega)
  simp only [F_r02_There, e]
  rw [decide_eq_true h0, decide_eq_true h1, decide_eq_true (show at_ ≤ (b.length : Int) by omega), decide_eq_true (show w ≤ (b.length : Int) - at_ by omega)]; rfl
theorem There_f {b : List Int} {at_ w : Int} (h0 : 0 ≤ at_) (h1 : 0 ≤ w) (h3 : at_ ≤ (b.length : Int)) (h2 : (b.length : Int) < at_ + w) (hb : b.length ≤ 140737488351232) (n : Nat) : F_r02_There n b at_ w = some false := by
  have e : w64 ((b.length : Int) - at_) = (b.length : Int) - at_ := w64_of (by omega) (by omega)
  simp only [F_r02_There, e]
  rw [decide_eq_true h0, decide_eq_true h1, decide_eq_true h3, decide_eq_false (show ¬ w ≤ (b.length : Int) - at_ by omega)]; rfl
theorem L_r02_U {a0 x y z : List Int} {a1 a2 : Int} {j : Int → Option R_r02_U} {r : R_r02_U} (hb : Bytes y) (hbl : a0.length ≤ 140737488351232) (h : a0 = x ++ (y ++ z)) (ha : a1 = (x.length : Int)) (hw : a2 = (y.length : Int)) (h4 : y.length ≤ 4) (hj : j (beU y) = some r) :
    ∀ (t p : List Int), y = p ++ t → Ev (fun n => L_r02_U_0 a0 a1 a2 j n (beU p) ((x.length : Int) + (p.length : Int))) r
  | [], p, hp => .succ (by
      have hlen : a0.length = x.length + (y.length + z.length) := by rw [h]; simp
      simp only [L_r02_U_0]
      have : y = p := by simpa using hp
      subst this
      refine .e (by rw [w64_of (by omega) (by omega)]; simp; omega) ?_
      exact .all fun _ => hj)
  | c :: t, p, hp => .succ (by
      have hlen : a0.length = x.length + (y.length + z.length) := by rw [h]; simp
      have hly : y.length = p.length + (t.length + 1) := by rw [hp]; simp
      simp only [L_r02_U_0]
      refine .t (by rw [w64_of (by omega) (by omega)]; simp; omega) (.gd (by omega) ?_)
      have hpb : Bytes p := (hp ▸ hb).left
      have hc : 0 ≤ c ∧ c < 256 := hb c (by rw [hp]; simp)
      have hbd := beU_bound hpb
      have hp3 : (256 : Int) ^ p.length ≤ 16777216 := by
        have : p.length ≤ 3 := by omega
        match hh : p.length, this with
        | 0, _ => decide
        | 1, _ => decide
        | 2, _ => decide
        | 3, _ => decide
      have e1 : w64 (((x.length : Int) + (p.length : Int)) + 1) = (x.length : Int) + (((p ++ [c]).length : Nat) : Int) := by rw [w64_of (by omega) (by omega)]; simp; omega
      have e2 : nth E_B a0 ((x.length : Int) + (p.length : Int)) = c := nth_app' (p := x ++ p) (t := t ++ z) (by rw [h, hp]; simp) (by simp)
      have e3 : w64 (w64 (256 * beU p) + w64 c) = beU (p ++ [c]) := by
        rw [w64_of (x := 256 * beU p) (by omega) (by omega), w64_of (x := c) (by omega) (by omega), beU_snoc, w64_of (by omega) (by omega)]
      rw [e1, e2, e3]
      exact L_r02_U hb hbl h ha hw h4 hj t (p ++ [c]) (by rw [hp]; simp))
theorem r02_U_ok {b x y z : List Int} {at_ w : Int} (hb : Bytes b) (hbl : b.length ≤ 140737488351232) (h : b = x ++ (y ++ z)) (ha : at_ = (x.length : Int)) (hw : w = (y.length : Int)) (h1 : 1 ≤ y.length) (h4 : y.length ≤ 4) :
    Ev (fun n => F_r02_U n b at_ w) (beU y, 0) := by
  have hlen : b.length = x.length + (y.length + z.length) := by rw [h]; simp
  simp only [F_r02_U]
  refine .e (by simp; omega) (.bind (.all (There_t (by omega) (by omega) (by omega) hbl)) (.e rfl (.lj ?_)))
  have := L_r02_U (j := fun x11 => some (x11, 0)) (by rw [h] at hb; exact hb.right.left) hbl h ha hw h4 rfl y [] rfl
  subst ha
  rw [show beU [] = 0 from rfl] at this
  simpa using this
theorem r02_U_short {b : List Int} {at_ w : Int} (hbl : b.length ≤ 140737488351232) (h0 : 0 ≤ at_) (h3 : at_ ≤ (b.length : Int)) (h2 : (b.length : Int) < at_ + w) (h1 : 1 ≤ w) (h4 : w ≤ 4) :
    Ev (fun n => F_r02_U n b at_ w) (0, 3) := by
  simp only [F_r02_U]
  exact .e (by simp; omega) (.bind (.all (There_f h0 (by omega) h3 h2 hbl)) (.t rfl (.ret _)))
theorem r02_Copy {b : List Int} (hbl : b.length ≤ 140737488351232) : Ev (fun n => F_r02_Copy n b) b := by
  simp only [F_r02_Copy]
  refine .gd ?_ (.ret' (by simp))
  simp [fits]; omega
end Go.Proofs.Ytgkekjfbacncoaa
set_option linter.unusedSimpArgs false
set_option linter.unusedVariables false
open Go Go.Ab
namespace Go.Proofs.Ytgkekjfbacncoaa
def Div2 (d : Int) : Prop := d ≠ 0 ∧ ∀ f : Fin 256, decide (Int.tmod (w64 (Int.tdiv (f.val : Int) d)) 2 = 1) = decide ((f.val : Int) / d % 2 = 1)
theorem div_2 : Div2 2 := ⟨by decide, by decide +kernel⟩
theorem div_4 : Div2 4 := ⟨by decide, by decide +kernel⟩
theorem div_8 : Div2 8 := ⟨by decide, by decide +kernel⟩
theorem div_16 : Div2 16 := ⟨by decide, by decide +kernel⟩
theorem div_32 : Div2 32 := ⟨by decide, by decide +kernel⟩
theorem Div2.of {d g : Int} (h : Div2 d) (h0 : 0 ≤ g) (h1 : g < 256) : decide (Int.tmod (w64 (Int.tdiv g d)) 2 = 1) = decide (g / d % 2 = 1) := by
  obtain ⟨f, hf⟩ := fin_of h0 h1
  have := h.2 f
  rwa [hf] at this
theorem tmod2 {g : Int} (h0 : 0 ≤ g) : decide (Int.tmod g 2 = 1) = decide (g % 2 = 1) := by rw [Int.tmod_eq_emod_of_nonneg h0]
section
variable {b : List Int} (hb : Bytes b) (hbl : b.length ≤ 140737488351232)
include hb hbl
theorem ru_run {w : Nat} (hw : 1 ≤ w ∧ w ≤ 4) {wi : Int} (hwi : wi = (w : Int)) {st : T_SLBiie} {s : List Int} (hr : Rel b st (.ok s)) :
    match rU w s with
    | .error e => ∃ st', Ev (fun n => F_r07_reader_u n st wi) (0, st') ∧ Rel b st' (.error e)
    | .ok (v, s') => ∃ st', Ev (fun n => F_r07_reader_u n st wi) (v, st') ∧ Rel b st' (.ok s') := by
  obtain ⟨h0, h2, pre, h3, h4⟩ := hr
  subst hwi
  have hlen : b.length = pre.length + s.length := by rw [h3]; simp
  unfold rU
  by_cases hs : s.length < w
  · simp only [hs, if_true]
    refine ⟨⟨st.f0, st.f1, 3⟩, ?_, ⟨h0, rfl, by decide⟩⟩
    simp only [F_r07_reader_u]
    refine .e (by simp [h2]) (.bind (v := (0, 3)) ?_ (.t rfl (.ret _)))
    rw [h0, h4]
    exact r02_U_short hbl (by omega) (by omega) (by omega) (by omega) (by omega)
  · simp only [hs, if_false]
    have hy : (s.take w).length = w := by rw [List.length_take]; omega
    refine ⟨⟨st.f0, w64 (st.f1 + w), st.f2⟩, ?_, ⟨h0, h2, pre ++ s.take w, ?_, ?_⟩⟩
    · simp only [F_r07_reader_u]
      refine .e (by simp [h2]) (.bind (v := (beU (s.take w), 0)) ?_ (.e rfl (.ret _)))
      rw [h0, h4]
      exact r02_U_ok (x := pre) (y := s.take w) (z := s.drop w) hb hbl (by rw [List.take_append_drop]; exact h3) rfl (by rw [hy]) (by omega) (by omega)
    · rw [List.append_assoc, List.take_append_drop]; exact h3
    · simp only [List.length_append, hy, h4]
      rw [w64_of (by omega) (by omega)]; simp
omit hb hbl in
theorem ru_err {wi e : Int} {st : T_SLBiie} (hr : Rel b st (.error e)) : Ev (fun n => F_r07_reader_u n st wi) (0, st) := by
  simp only [F_r07_reader_u]
  exact .t (by simp [hr.2.1, hr.2.2]) (.ret _)
omit hb hbl in
theorem fail_ok {st : T_SLBiie} {s : List Int} {e : Int} (hr : Rel b st (.ok s)) : Ev (fun n => F_r07_reader_fail n st e) ⟨st.f0, st.f1, e⟩ := by
  simp only [F_r07_reader_fail]
  exact .t (by simp [hr.2.1]) (.ret _)
omit hb hbl in
theorem fail_err {st : T_SLBiie} {e e' : Int} (hr : Rel b st (.error e)) : Ev (fun n => F_r07_reader_fail n st e') st := by
  simp only [F_r07_reader_fail]
  exact .e (by simp [hr.2.1, hr.2.2]) (.ret _)
/-! the ends -/
omit hb hbl in
theorem R0_err {v3 : R_r07_reader_s} {e : Int} {st : T_SLBiie} {acc : List Int} {i : Int} (hr : Rel b st (.error e)) {J : Nat → List Int → Int → Int → List Int → Option R_r07_Read} {r : R_r07_Read} (hJ : Ev (fun n => J n st.f0 st.f1 st.f2 acc) r) :
    Ev (fun n => L_r07_Read_0 v3 (J n) n st.f0 st.f1 st.f2 acc i) r := .succ (by
  simp only [L_r07_Read_0]
  exact .e (by simp [hr.2.1, hr.2.2]) hJ.shift)
theorem R0_run {v3 : R_r07_reader_s} (ha : v3.1 ≤ 40000) : ∀ (k : Nat) (st : T_SLBiie) (s acc : List Int), Rel b st (.ok s) → (acc.length : Int) + k = v3.1 →
    RunJ (R := R_r07_Read) b (fun J n => L_r07_Read_0 v3 (J n) n st.f0 st.f1 st.f2 acc (acc.length : Int)) (mapO (acc ++ ·) (endsE k s))
  | 0, st, s, acc, hr, hk => ⟨acc, st, ⟨by simp, hr⟩, fun J r hJ => .succ (by
      simp only [L_r07_Read_0]
      exact .e (by simp; omega) hJ.shift)⟩
  | k + 1, st, s, acc, hr, hk => by
    have hu := ru_run hb hbl (w := 2) (by omega) (wi := 2) rfl hr
    simp only [endsE]
    cases hx : rU 2 s with
    | error e =>
      rw [hx] at hu
      obtain ⟨st1, h1, r1⟩ := hu
      refine ⟨acc ++ [0], st1, r1, fun J r hJ => .succ ?_⟩
      simp only [L_r07_Read_0]
      exact .t (by simp [hr.2.1]; omega) (.bind h1 (.gd (fits_small (by simp; omega) (by decide)) (R0_err r1 (J := fun n => J (n + 1)) hJ.shift)))
    | ok p =>
      obtain ⟨v, s1⟩ := p
      rw [hx] at hu
      obtain ⟨st1, h1, r1⟩ := hu
      obtain ⟨v', st', h2, h3⟩ := R0_run ha k st1 s1 (acc ++ [v]) r1 (by simp; omega)
      refine ⟨v', st', ?_, fun J r hJ => .succ ?_⟩
      · simp only
        cases hy : endsE k s1 with
        | error e => rw [hy] at h2; exact h2
        | ok q =>
          obtain ⟨l, s2⟩ := q
          rw [hy] at h2
          simpa [mapO] using h2
      · simp only [L_r07_Read_0]
        refine .t (by simp [hr.2.1]; omega) (.bind h1 (.gd (fits_small (by simp; omega) (by decide)) ?_))
        have e1 : w64 ((acc.length : Int) + 1) = (((acc ++ [v]).length : Nat) : Int) := by rw [w64_of (by omega) (by omega)]; simp
        rw [e1]
        exact h3 (fun n => J (n + 1)) r hJ.shift
/-! they rise -/
omit hb hbl in
theorem R1_tail {x : List Int} (hx : x.length ≤ 40000) {J : Nat → Unit → Option R_r07_Read} {r : R_r07_Read} : ∀ (t q : List Int) (d : Int) (J : Nat → Unit → Option R_r07_Read), x = q ++ d :: t → (rising (d :: t) = true → Ev (fun n => J n ()) r) →
    Ev (fun n => L_r07_Read_1 x (J n) n ((q.length : Int) + 1)) (if rising (d :: t) = true then r else (noG, 12))
  | [], q, d, J, h, hJ => .succ (by
      have : x.length = q.length + 1 := by rw [h]; simp
      simp only [L_r07_Read_1]
      refine .e (by simp; omega) ?_
      exact (hJ rfl).shift)
  | e :: t, q, d, J, h, hJ => .succ (by
      have hlen : x.length = q.length + (t.length + 2) := by rw [h]; simp
      have e0 : nth E_i x ((q.length : Int) + 1) = e := nth_app' (p := q ++ [d]) (t := t) (by rw [h]; simp) (by simp)
      have e1 : nth E_i x (w64 ((q.length : Int) + 1 - 1)) = d := by
        rw [w64_of (by omega) (by omega)]
        exact nth_app' h (by omega)
      simp only [L_r07_Read_1]
      refine .t (by simp; omega) (.lj (.t (decide_eq_true (by omega)) (.gd (by omega) (.gd (by rw [w64_of (by omega) (by omega)]; omega) ?_))))
      rw [e0, e1]
      by_cases hde : d < e
      · refine .e (by simp [hde]) ?_
        have e2 : w64 ((q.length : Int) + 1 + 1) = ((q ++ [d]).length : Int) + 1 := by rw [w64_of (by omega) (by omega)]; simp
        have e3 : rising (d :: e :: t) = rising (e :: t) := by simp [rising, hde]
        rw [e2, e3]
        rw [e3] at hJ
        exact R1_tail hx (J := J) t (q ++ [d]) e (fun n => J (n + 1)) (by rw [h]; simp) (fun hh => (hJ hh).shift)
      · have e3 : rising (d :: e :: t) = false := by simp [rising, hde]
        rw [e3]
        exact .t (decide_eq_true (by omega)) (.ret _))
omit hb hbl in
theorem R1_run {x : List Int} (hx : x.length ≤ 40000) {J : Nat → Unit → Option R_r07_Read} {r : R_r07_Read} (hJ : rising x = true → Ev (fun n => J n ()) r) :
    Ev (fun n => L_r07_Read_1 x (J n) n 0) (if rising x = true then r else (noG, 12)) := .succ (by
  simp only [L_r07_Read_1]
  cases x with
  | nil => exact .e (by simp) (hJ rfl).shift
  | cons d t =>
    refine .t (by simp) (.lj (.e (by decide) (.e rfl ?_)))
    exact R1_tail hx (J := J) t [] d (fun n => J (n + 1)) rfl (fun hh => (hJ hh).shift))
/-! the code -/
omit hb hbl in
theorem R2_err {v : R_r07_reader_u} {e : Int} {st : T_SLBiie} {acc : List Int} {i : Int} (hr : Rel b st (.error e)) {J : Nat → List Int → Int → Int → List Int → Option R_r07_Read} {r : R_r07_Read} (hJ : Ev (fun n => J n st.f0 st.f1 st.f2 acc) r) :
    Ev (fun n => L_r07_Read_2 v (J n) n st.f0 st.f1 st.f2 acc i) r := .succ (by
  simp only [L_r07_Read_2]
  exact .e (by simp [hr.2.1, hr.2.2]) hJ.shift)
theorem R2_run {v : R_r07_reader_u} (ha : v.1 ≤ 70000) : ∀ (k : Nat) (st : T_SLBiie) (s acc : List Int), Rel b st (.ok s) → (acc.length : Int) + k = v.1 →
    RunJ (R := R_r07_Read) b (fun J n => L_r07_Read_2 v (J n) n st.f0 st.f1 st.f2 acc (acc.length : Int)) (mapO (acc ++ ·) (if s.length < k then .error 3 else .ok (s.take k, s.drop k)))
  | 0, st, s, acc, hr, hk => by
    simp only [Nat.not_lt_zero, if_false, List.take_zero, List.drop_zero]
    refine ⟨acc, st, ⟨by simp, hr⟩, fun J r hJ => .succ ?_⟩
    simp only [L_r07_Read_2]
    exact .e (by simp; omega) hJ.shift
  | k + 1, st, s, acc, hr, hk => by
    have hu := ru_run hb hbl (w := 1) (by omega) (wi := 1) rfl hr
    cases s with
    | nil =>
      obtain ⟨st1, h1, r1⟩ := hu
      refine ⟨acc ++ [0], st1, r1, fun J r hJ => .succ ?_⟩
      simp only [L_r07_Read_2]
      exact .t (by simp [hr.2.1]; omega) (.bind h1 (.gd (fits_small (by simp; omega) (by decide)) (R2_err r1 (J := fun n => J (n + 1)) hJ.shift)))
    | cons c s =>
      have hc := Rel.bytes hb hr c (by simp)
      have hx : rU 1 (c :: s) = .ok (c, s) := by simp [rU, beU]
      rw [hx] at hu
      obtain ⟨st1, h1, r1⟩ := hu
      obtain ⟨v', st', h2, h3⟩ := R2_run ha k st1 s (acc ++ [c]) r1 (by simp; omega)
      refine ⟨v', st', ?_, fun J r hJ => .succ ?_⟩
      · by_cases hk' : s.length < k
        · have : (c :: s).length < k + 1 := by simp; omega
          rw [if_pos hk'] at h2
          rw [if_pos this]
          exact h2
        · have : ¬ (c :: s).length < k + 1 := by simp; omega
          rw [if_neg hk'] at h2
          rw [if_neg this]
          simpa [mapO] using h2
      · simp only [L_r07_Read_2]
        refine .t (by simp [hr.2.1]; omega) (.bind h1 (.gd (fits_small (by simp; omega) (by decide)) ?_))
        have e1 : w64 ((acc.length : Int) + 1) = (((acc ++ [c]).length : Nat) : Int) := by rw [w64_of (by omega) (by omega)]; simp
        simp only
        rw [e1, wrap8 hc.1 (by omega)]
        exact h3 (fun n => J (n + 1)) r hJ.shift
/-! flags -/
omit hb hbl in
theorem rep_snoc {g : Int} (acc : List Int) (k : Nat) : acc ++ [g] ++ List.replicate k g = acc ++ List.replicate (k + 1) g := by
  rw [List.append_assoc]; rfl
omit hb hbl in
theorem F1_run {v9 : R_r07_reader_u} {x N : Int} (hx : x ≤ 5000) (hN : N ≤ 10000) {r : R_r07_reader_flags} : ∀ (k i : Nat) (acc : List Int) (J : Nat → List Int → Option R_r07_reader_flags), (i : Int) + k = x → (acc.length : Int) + k ≤ N → Ev (fun n => J n (acc ++ List.replicate k v9.1)) r →
    Ev (fun n => L_r07_reader_flags_1 v9 x (J n) n acc (i : Int)) r
  | 0, i, acc, J, hk, hl, hJ => .succ (by
      simp only [L_r07_reader_flags_1]
      refine .e (by simp; omega) ?_
      simpa using hJ.shift)
  | k + 1, i, acc, J, hk, hl, hJ => .succ (by
      simp only [L_r07_reader_flags_1]
      have e1 : w64 ((i : Int) + 1) = ((i + 1 : Nat) : Int) := by rw [w64_of (by omega) (by omega)]; omega
      rw [e1]
      refine .t (by simp; omega) (.gd (fits_small (by simp; omega) (by decide)) ?_)
      refine F1_run hx hN k (i + 1) (acc ++ [v9.1]) (fun n => J (n + 1)) (by omega) (by simp; omega) ?_
      rw [rep_snoc]
      exact hJ.shift)
omit hb hbl in
theorem F0_err {a1 e : Int} {st : T_SLBiie} {acc : List Int} (hr : Rel b st (.error e)) : Ev (fun n => L_r07_reader_flags_0 a1 (fun x29 x30 x31 x32 => some (x32, (⟨x29, x30, x31⟩ : T_SLBiie))) n st.f0 st.f1 st.f2 acc) (acc, st) := .succ (by
  simp only [L_r07_reader_flags_0]
  exact .e (by simp [hr.2.1, hr.2.2]) (.ret _))
theorem F0_run {a1 : Int} (ha : a1 ≤ 4096) : ∀ (k m : Nat) (st : T_SLBiie) (s acc : List Int), Rel b st (.ok s) → (acc.length : Int) + m = a1 → m ≤ k →
    Run b (fun n => L_r07_reader_flags_0 a1 (fun x29 x30 x31 x32 => some (x32, (⟨x29, x30, x31⟩ : T_SLBiie))) n st.f0 st.f1 st.f2 acc) (mapO (acc ++ ·) (flagsE k m s))
  | k, 0, st, s, acc, hr, hl, _ => by
    rw [flagsE_zero]
    refine Run.ok (st := st) (.succ ?_) hr
    simp only [L_r07_reader_flags_0]
    exact .e (by simp; omega) (.ret' (by simp))
  | 0, m + 1, st, s, acc, hr, hl, h => by omega
  | k + 1, m + 1, st, s, acc, hr, hl, hk => by
    have hs := Rel.bytes hb hr
    have hu := ru_run hb hbl (w := 1) (by omega) (wi := 1) rfl hr
    simp only [flagsE]
    cases hx : rU 1 s with
    | error e =>
      rw [hx] at hu
      obtain ⟨st1, h1, r1⟩ := hu
      refine Run.er (v := acc ++ [0]) (st := st1) (.succ ?_) r1
      simp only [L_r07_reader_flags_0]
      refine .t (by simp [hr.2.1]; omega) (.lj (.bind h1 (.lj (.e (show decide (Int.tmod (w64 (Int.tdiv 0 8)) 2 = 1) = false by decide) (.e (by rw [w64_of (by omega) (by omega)]; simp; omega) (.lj ?_))))))
      exact F1_run (v9 := (0, st1)) (N := 10000) (by omega) (by decide) 1 0 acc (fun n x24 => _) (by omega) (by omega) (F0_err r1)
    | ok p =>
      obtain ⟨g, s1⟩ := p
      have hg := rU_bd hs hx
      rw [hx] at hu
      obtain ⟨st1, h1, r1⟩ := hu
      have hd := div_8.of hg.1 (by omega)
      simp only
      have fin : ∀ (x : Int) (s2 : List Int) (st2 : T_SLBiie), Rel b st2 (.ok s2) → 0 ≤ x → x < 256 → (∀ res, Ev (fun n => (if (decide (a1 < (w64 ((acc.length : Int) + (1 + x))))) then
          Option.bind (F_r07_reader_fail n (⟨st2.f0, st2.f1, st2.f2⟩ : T_SLBiie) 4) fun v18 =>
          some (([] : List Int), v18)
        else
        lj (fun (x24 : (List Int)) =>
          L_r07_reader_flags_0 a1 (fun x29 x30 x31 x32 => some (x32, (⟨x29, x30, x31⟩ : T_SLBiie))) n st2.f0 st2.f1 st2.f2 x24) fun j19 =>
        L_r07_reader_flags_1 (g, st1) (1 + x) j19 n acc 0 : Option R_r07_reader_flags)) res → Ev (fun n => L_r07_reader_flags_0 a1 (fun x29 x30 x31 x32 => some (x32, (⟨x29, x30, x31⟩ : T_SLBiie))) n st.f0 st.f1 st.f2 acc) res) →
          Run b (fun n => L_r07_reader_flags_0 a1 (fun x29 x30 x31 x32 => some (x32, (⟨x29, x30, x31⟩ : T_SLBiie))) n st.f0 st.f1 st.f2 acc) (mapO (fun l => acc ++ l) (if (m : Int) < x then .error 4 else match flagsE k (m - x.toNat) s2 with | .error e => .error e | .ok (l, s3) => .ok (List.replicate (x.toNat + 1) g ++ l, s3))) := by
        intro x s2 st2 r2 hx0 hx1 hG
        have ew : w64 ((acc.length : Int) + (1 + x)) = (acc.length : Int) + (1 + x) := w64_of (by omega) (by omega)
        rw [ew] at hG
        by_cases hmx : (m : Int) < x
        · simp only [hmx, if_true, mapO]
          exact Run.er (v := []) (st := ⟨st2.f0, st2.f1, 4⟩) (hG _ (.t (by simp; omega) (.bind (fail_ok r2) (.ret _)))) ⟨r2.1, rfl, by decide⟩
        · simp only [hmx, if_false]
          have ih := F0_run ha k (m - x.toNat) st2 s2 (acc ++ List.replicate (x.toNat + 1) g) r2 (by simp; omega) (by omega)
          have step : ∀ res, Ev (fun n => L_r07_reader_flags_0 a1 (fun x29 x30 x31 x32 => some (x32, (⟨x29, x30, x31⟩ : T_SLBiie))) n st2.f0 st2.f1 st2.f2 (acc ++ List.replicate (x.toNat + 1) g)) res → Ev (fun n => L_r07_reader_flags_0 a1 (fun x29 x30 x31 x32 => some (x32, (⟨x29, x30, x31⟩ : T_SLBiie))) n st.f0 st.f1 st.f2 acc) res := by
            intro res h
            refine hG _ (.e (by simp; omega) (.lj ?_))
            exact F1_run (v9 := (g, st1)) (x := 1 + x) (N := 10000) (by omega) (by decide) (x.toNat + 1) 0 acc (fun n x24 => L_r07_reader_flags_0 a1 (fun x29 x30 x31 x32 => some (x32, (⟨x29, x30, x31⟩ : T_SLBiie))) n st2.f0 st2.f1 st2.f2 x24) (by omega) (by omega) h
          cases hf : flagsE k (m - x.toNat) s2 with
          | error e =>
            rw [hf] at ih
            obtain ⟨v, st', g1, g2⟩ := ih
            exact Run.er (step _ g1) g2
          | ok p =>
            obtain ⟨l, s'⟩ := p
            rw [hf] at ih
            obtain ⟨st', g1, g2⟩ := ih
            refine Run.ok (st := st') (step _ ?_) g2
            simpa using g1
      have hloop : ((decide (st.f2 = 0)) && (decide ((acc.length : Int) < a1))) = true := by simp [hr.2.1]; omega
      by_cases c8 : g / 8 % 2 = 1
      · rw [decide_eq_true c8] at hd
        have hu2 := ru_run hb hbl (w := 1) (by omega) (wi := 1) rfl r1
        unfold againE
        simp only [c8, if_true]
        cases hy : rU 1 s1 with
        | error e =>
          rw [hy] at hu2
          obtain ⟨st2, h2, r2⟩ := hu2
          refine Run.er (v := acc ++ [g]) (st := st2) (.succ ?_) r2
          simp only [L_r07_reader_flags_0]
          refine .t hloop (.lj (.bind h1 (.lj (.t hd (.bind h2 (.e (by show decide (a1 < w64 ((acc.length : Int) + w64 (1 + 0))) = false; rw [show w64 (1 + 0) = 1 from by decide, w64_of (by omega) (by omega)]; simp; omega) (.lj ?_)))))))
          exact F1_run (v9 := (g, st1)) (x := w64 (1 + 0)) (N := 10000) (by decide) (by decide) 1 0 acc (fun n x24 => L_r07_reader_flags_0 a1 (fun x29 x30 x31 x32 => some (x32, (⟨x29, x30, x31⟩ : T_SLBiie))) n st2.f0 st2.f1 st2.f2 x24) (by decide) (by omega) (F0_err r2)
        | ok q =>
          obtain ⟨x, s2⟩ := q
          have hxb := rU_bd hg.2.2.1 hy
          rw [hy] at hu2
          obtain ⟨st2, h2, r2⟩ := hu2
          refine fin x s2 st2 r2 hxb.1 (by omega) fun res hres => .succ ?_
          simp only [L_r07_reader_flags_0]
          refine .t hloop (.lj (.bind h1 (.lj (.t hd (.bind h2 ?_)))))
          have e1 : w64 (1 + x) = 1 + x := w64_of (by omega) (by omega)
          simp only
          rw [e1]
          exact hres
      · rw [decide_eq_false c8] at hd
        unfold againE
        simp only [c8, if_false]
        refine fin 0 s1 st1 r1 (by omega) (by omega) fun res hres => .succ ?_
        simp only [L_r07_reader_flags_0]
        refine .t hloop (.lj (.bind h1 (.lj (.e hd ?_))))
        exact hres
theorem rflags_run {m : Nat} (hm2 : m ≤ 4096) {st : T_SLBiie} {s : List Int} (hr : Rel b st (.ok s)) : Run b (fun n => F_r07_reader_flags n st (m : Int)) (flagsE (m + 1) m s) := by
  have h := F0_run hb hbl (a1 := (m : Int)) (by omega) (m + 1) m st s [] hr (by simp) (by omega)
  have : mapO (fun l => ([] : List Int) ++ l) (flagsE (m + 1) m s) = flagsE (m + 1) m s := by
    cases flagsE (m + 1) m s with
    | error e => rfl
    | ok p => rfl
  rw [this] at h
  exact h
omit hb hbl in
theorem rflags_err {m e : Int} {st : T_SLBiie} (hr : Rel b st (.error e)) : Ev (fun n => F_r07_reader_flags n st m) ([], st) := by
  simp only [F_r07_reader_flags]
  exact .lj (F0_err hr)
end
end Go.Proofs.Ytgkekjfbacncoaa
set_option linter.unusedSimpArgs false
set_option linter.unusedVariables false
open Go Go.Ab
namespace Go.Proofs.Ytgkekjfbacncoaa
def stepQ (a1 : List Int) (a2 a3 : Int) (y5 : List Int) (y7 : Int) (n : Nat) (x19 : List Int) (x20 x21 x22 : Int) : Option R_r07_reader_steps :=
        lj (fun (x27 : (List Int)) (x28 : Int) (x29 : Int) =>
          if (!decide (x29 = 0)) then
            some (([] : List Int), (⟨x27, x28, x29⟩ : T_SLBiie))
          else
          gd (fits (y5.length + ([x22] : List Int).length) 8 = true) <|
          L_r07_reader_steps_0 a1 a2 a3 (fun x33 x34 x35 x36 => some (x36, (⟨x33, x34, x35⟩ : T_SLBiie))) n x27 x28 x29 (y5 ++ ([x22] : List Int)) x22 (w64 (y7 + 1))) fun j30 =>
        if ((decide (x22 < (-32768))) || (decide (32767 < x22))) then
          Option.bind (F_r07_reader_fail n (⟨x19, x20, x21⟩ : T_SLBiie) 6) fun v26 =>
          j30 v26.f0 v26.f1 v26.f2
        else
        j30 x19 x20 x21
section
variable {b : List Int} (hb : Bytes b) (hbl : b.length ≤ 140737488351232)
include hb hbl
theorem rs_run {st : T_SLBiie} {s : List Int} (hr : Rel b st (.ok s)) :
    match rU 2 s with
    | .error e => ∃ st', Ev (fun n => F_r07_reader_s n st) (0, st') ∧ Rel b st' (.error e)
    | .ok (v, s') => ∃ st', Ev (fun n => F_r07_reader_s n st) ((if v ≥ 32768 then v - 65536 else v), st') ∧ Rel b st' (.ok s') := by
  have hu := ru_run hb hbl (w := 2) (by omega) (wi := 2) rfl hr
  have hs := Rel.bytes hb hr
  cases hx : rU 2 s with
  | error e =>
    rw [hx] at hu
    obtain ⟨st1, h1, r1⟩ := hu
    refine ⟨st1, ?_, r1⟩
    simp only [F_r07_reader_s]
    exact .bind h1 (.e rfl (.ret _))
  | ok p =>
    obtain ⟨v, s1⟩ := p
    have hv := rU_bd hs hx
    rw [hx] at hu
    obtain ⟨st1, h1, r1⟩ := hu
    refine ⟨st1, ?_, r1⟩
    simp only [F_r07_reader_s]
    by_cases h : v ≥ 32768
    · refine .bind h1 (.t (decide_eq_true (by omega)) (.ret' ?_))
      simp only
      rw [if_pos h, w64_of (by omega) (by omega)]
    · refine .bind h1 (.e (decide_eq_false (by omega)) (.ret' ?_))
      simp only
      rw [if_neg h]
omit hb hbl in
theorem rs_err {e : Int} {st : T_SLBiie} (hr : Rel b st (.error e)) : Ev (fun n => F_r07_reader_s n st) (0, st) := by
  simp only [F_r07_reader_s]
  exact .bind (ru_err hr) (.e rfl (.ret _))
theorem rstep_run {R : Type} {a2 a3 g v : Int} (h2 : Div2 a2) (h3 : Div2 a3) (hg : 0 ≤ g ∧ g < 256) (hv : -32768 ≤ v ∧ v ≤ 32767) {st : T_SLBiie} {s : List Int} (hr : Rel b st (.ok s)) :
    RunJ (R := R) b (fun J n =>
      if ((decide ((Int.tmod (w64 (Int.tdiv g a2)) 2) = 1)) && (decide ((Int.tmod (w64 (Int.tdiv g a3)) 2) = 1))) then
        Option.bind (F_r07_reader_u n (⟨st.f0, st.f1, st.f2⟩ : T_SLBiie) 1) fun v14 =>
        J n v14.2.f0 v14.2.f1 v14.2.f2 (w64 (v + v14.1))
      else
      if ((decide ((Int.tmod (w64 (Int.tdiv g a2)) 2) = 1)) && true) then
        Option.bind (F_r07_reader_u n (⟨st.f0, st.f1, st.f2⟩ : T_SLBiie) 1) fun v16 =>
        J n v16.2.f0 v16.2.f1 v16.2.f2 (w64 (v - v16.1))
      else
      if (!(decide ((Int.tmod (w64 (Int.tdiv g a3)) 2) = 1))) then
        Option.bind (F_r07_reader_s n (⟨st.f0, st.f1, st.f2⟩ : T_SLBiie)) fun v18 =>
        J n v18.2.f0 v18.2.f1 v18.2.f2 (w64 (v + v18.1))
      else
      J n st.f0 st.f1 st.f2 v) (stepE g a2 a3 v s) := by
  have d2 := h2.of hg.1 hg.2
  have d3 := h3.of hg.1 hg.2
  have hs := Rel.bytes hb hr
  rw [d2, d3]
  unfold stepE
  by_cases c1 : g / a2 % 2 = 1
  · simp only [c1, if_true, decide_true, Bool.true_and, Bool.and_true]
    have hu := ru_run hb hbl (w := 1) (by omega) (wi := 1) rfl hr
    by_cases c2 : g / a3 % 2 = 1
    · simp only [c2, if_true, decide_true, Bool.not_true]
      cases hx : rU 1 s with
      | error e =>
        rw [hx] at hu
        obtain ⟨st1, h1, r1⟩ := hu
        exact ⟨w64 (v + 0), st1, r1, fun J r hJ => .bind h1 hJ⟩
      | ok p =>
        obtain ⟨x, s1⟩ := p
        have hf := rU_bd hs hx
        rw [hx] at hu
        obtain ⟨st1, h1, r1⟩ := hu
        refine ⟨v + x, st1, ⟨rfl, r1⟩, fun J r hJ => .bind h1 ?_⟩
        simp only
        rw [w64_of (by omega) (by omega)]; exact hJ
    · simp only [c2, if_false, decide_false, Bool.not_false, Bool.false_eq_true]
      cases hx : rU 1 s with
      | error e =>
        rw [hx] at hu
        obtain ⟨st1, h1, r1⟩ := hu
        exact ⟨w64 (v - 0), st1, r1, fun J r hJ => .bind h1 hJ⟩
      | ok p =>
        obtain ⟨x, s1⟩ := p
        have hf := rU_bd hs hx
        rw [hx] at hu
        obtain ⟨st1, h1, r1⟩ := hu
        refine ⟨v - x, st1, ⟨rfl, r1⟩, fun J r hJ => .bind h1 ?_⟩
        simp only
        rw [w64_of (by omega) (by omega)]; exact hJ
  · simp only [c1, if_false, decide_false, Bool.false_and, Bool.false_eq_true]
    by_cases c2 : g / a3 % 2 = 1
    · simp only [c2, if_true, decide_true, Bool.not_true, Bool.false_eq_true, if_false]
      exact ⟨v, st, ⟨rfl, hr⟩, fun J r hJ => hJ⟩
    · simp only [c2, if_true, if_false, decide_false, Bool.not_false]
      have hu := rs_run hb hbl hr
      cases hx : rU 2 s with
      | error e =>
        rw [hx] at hu
        obtain ⟨st1, h1, r1⟩ := hu
        exact ⟨w64 (v + 0), st1, r1, fun J r hJ => .bind h1 hJ⟩
      | ok p =>
        obtain ⟨x, s1⟩ := p
        have hf := rU_bd hs hx
        rw [hx] at hu
        obtain ⟨st1, h1, r1⟩ := hu
        refine ⟨v + (if x ≥ 32768 then x - 65536 else x), st1, ⟨rfl, r1⟩, fun J r hJ => .bind h1 ?_⟩
        simp only
        rw [w64_of (by split <;> omega) (by split <;> omega)]; exact hJ
theorem RL_steps {a1 : List Int} {a2 a3 : Int} (h2 : Div2 a2) (h3 : Div2 a3) (ha : ∀ x ∈ a1, 0 ≤ x ∧ x < 256) (hal : a1.length ≤ 4096) : ∀ (t p acc : List Int) (v : Int) (st : T_SLBiie) (s : List Int), Rel b st (.ok s) → a1 = p ++ t → acc.length = p.length → (-32768 ≤ v ∧ v ≤ 32767) →
    Run b (fun n => L_r07_reader_steps_0 a1 a2 a3 (fun x33 x34 x35 x36 => some (x36, (⟨x33, x34, x35⟩ : T_SLBiie))) n st.f0 st.f1 st.f2 acc v (p.length : Int)) (mapO (fun l => acc ++ l) (stepsE a2 a3 t v s))
  | [], p, acc, v, st, s, hr, hp, hl, hv => by
    have : a1.length = p.length := by rw [hp]; simp
    refine Run.ok (st := st) (.succ ?_) hr
    simp only [L_r07_reader_steps_0]
    exact .e (by simp; omega) (.ret' (by simp))
  | g :: t, p, acc, v, st, s, hr, hp, hl, hv => by
    have hlen : a1.length = p.length + (t.length + 1) := by rw [hp]; simp
    have hnth : nth E_i a1 (p.length : Int) = g := nth_app' hp rfl
    have hg := ha g (by rw [hp]; simp)
    have e1 : w64 ((p.length : Int) + 1) = ((p ++ [g]).length : Int) := by rw [w64_of (by omega) (by omega)]; simp
    obtain ⟨v1, st1, k1, k2⟩ := rstep_run (R := R_r07_reader_steps) hb hbl h2 h3 hg hv hr
    have core0 : ∀ res, Ev (fun n => stepQ a1 a2 a3 acc (p.length : Int) n st1.f0 st1.f1 st1.f2 v1) res → Ev (fun n => L_r07_reader_steps_0 a1 a2 a3 (fun x33 x34 x35 x36 => some (x36, (⟨x33, x34, x35⟩ : T_SLBiie))) n st.f0 st.f1 st.f2 acc v (p.length : Int)) res := by
      intro res hres
      refine .succ ?_
      simp only [L_r07_reader_steps_0]
      refine .t (by simp; omega) (.gd (by omega) (.gd h2.1 (.gd h3.1 (.lj ?_))))
      rw [hnth]
      exact k2 (stepQ a1 a2 a3 acc (p.length : Int)) res hres
    simp only [stepsE]
    cases hx : stepE g a2 a3 v s with
    | error e =>
      rw [hx] at k1
      have r1 : Rel b st1 (.error e) := k1
      refine Run.er (v := []) (st := st1) (core0 _ ?_) r1
      unfold stepQ
      refine .lj (.ite (fun _ => .bind (fail_err r1) ?_) (fun _ => ?_)) <;> exact .t (by simp [r1.2.1, r1.2.2]) (.ret _)
    | ok q =>
      obtain ⟨v', s1⟩ := q
      have hsp := stepE_spec (Rel.bytes hb hr) hv hx
      rw [hx] at k1
      obtain ⟨rfl, r1⟩ := k1
      simp only
      by_cases hrg : v1 < -32768 ∨ 32767 < v1
      · simp only [hrg, if_true, mapO]
        refine Run.er (v := []) (st := ⟨st1.f0, st1.f1, 6⟩) (core0 _ ?_) ⟨r1.1, rfl, by decide⟩
        unfold stepQ
        exact .lj (.t (by simpa using hrg) (.bind (fail_ok r1) (.t rfl (.ret _))))
      · simp only [hrg, if_false]
        have ih := RL_steps h2 h3 ha hal t (p ++ [g]) (acc ++ [v1]) v1 st1 s1 r1 (by rw [hp]; simp) (by simp [hl]) (by omega)
        have step : ∀ res, Ev (fun n => L_r07_reader_steps_0 a1 a2 a3 (fun x33 x34 x35 x36 => some (x36, (⟨x33, x34, x35⟩ : T_SLBiie))) n st1.f0 st1.f1 st1.f2 (acc ++ [v1]) v1 ((p ++ [g]).length : Int)) res → Ev (fun n => L_r07_reader_steps_0 a1 a2 a3 (fun x33 x34 x35 x36 => some (x36, (⟨x33, x34, x35⟩ : T_SLBiie))) n st.f0 st.f1 st.f2 acc v (p.length : Int)) res := by
          intro res h
          refine core0 _ ?_
          unfold stepQ
          rw [e1]
          refine .lj (.e (by simp; omega) (.e (by simp [r1.2.1]) (.gd (fits_small (by simp; omega) (by decide)) h)))
        cases hy : stepsE a2 a3 t v1 s1 with
        | error e =>
          rw [hy] at ih
          obtain ⟨u, st', g1, g2⟩ := ih
          exact Run.er (step _ g1) g2
        | ok q =>
          obtain ⟨l, s2⟩ := q
          rw [hy] at ih
          obtain ⟨st', g1, g2⟩ := ih
          refine Run.ok (st := st') (step _ ?_) g2
          simpa using g1
theorem rsteps_run {a1 : List Int} {a2 a3 : Int} (h2 : Div2 a2) (h3 : Div2 a3) (ha : ∀ x ∈ a1, 0 ≤ x ∧ x < 256) (hal : a1.length ≤ 4096) {st : T_SLBiie} {s : List Int} (hr : Rel b st (.ok s)) :
    Run b (fun n => F_r07_reader_steps n st a1 a2 a3) (stepsE a2 a3 a1 0 s) := by
  have h := RL_steps hb hbl h2 h3 ha hal a1 [] [] 0 st s hr rfl rfl (by omega)
  have : mapO (fun l => ([] : List Int) ++ l) (stepsE a2 a3 a1 0 s) = stepsE a2 a3 a1 0 s := by
    cases stepsE a2 a3 a1 0 s with
    | error e => rfl
    | ok p => rfl
  rw [this] at h
  exact h
omit hb hbl in
theorem rsteps_err {a1 : List Int} {a2 a3 : Int} (h2 : Div2 a2) (h3 : Div2 a3) {e : Int} {st : T_SLBiie} (hr : Rel b st (.error e)) : Ev (fun n => F_r07_reader_steps n st a1 a2 a3) ([], st) := by
  simp only [F_r07_reader_steps]
  refine .lj (.succ ?_)
  simp only [L_r07_reader_steps_0]
  cases a1 with
  | nil => exact .e (by simp) (.ret _)
  | cons g t =>
    refine .t (by simp) (.gd (by simp) (.gd h2.1 (.gd h3.1 (.lj ?_))))
    have fin : ∀ (v1 : Int) (G : Nat → Option R_r07_reader_steps), (∀ n, G n = stepQ (g :: t) a2 a3 [] 0 n st.f0 st.f1 st.f2 v1) → Ev G ([], st) := by
      intro v1 G hG
      refine .eq hG ?_
      unfold stepQ
      refine .lj (.ite (fun _ => .bind (fail_err hr) ?_) (fun _ => ?_)) <;> exact .t (by simp [hr.2.1, hr.2.2]) (.ret _)
    refine .ite (fun _ => .bind (ru_err hr) (fin _ _ fun n => rfl)) (fun _ => .ite (fun _ => .bind (ru_err hr) (fin _ _ fun n => rfl)) (fun _ => .ite (fun _ => .bind (rs_err hr) (fin _ _ fun n => rfl)) (fun _ => fin _ _ fun n => rfl)))
end
/-! ### the points -/
section
variable {xs ys fs es : List Int} {v11 : R_r07_reader_flags} {v12 v13 : R_r07_reader_steps}
  (h11 : v11.1 = fs) (h12 : v12.1 = xs) (h13 : v13.1 = ys) (hx : xs.length ≤ 5000) (hy : ys.length = xs.length) (hf : fs.length = xs.length) (hfb : ∀ f ∈ fs, 0 ≤ f ∧ f < 256) (he : es.length ≤ 40000)
include h11 h12 h13 hx hy hf hfb he
omit he in
theorem R4_run {y18 e : Int} {J : Nat → List T_Siibe → Int → Option R_r07_Read} {r : R_r07_Read} (he18 : nth E_i es y18 = e) (hexs : e < xs.length) :
    ∀ (k j : Nat) (acc : List T_Siibe) (J : Nat → List T_Siibe → Int → Option R_r07_Read), (j : Int) + k = e + 1 → acc.length ≤ j →
    Ev (fun n => J n (acc ++ ((zipK xs ys fs).drop j).take k) (e + 1)) r → Ev (fun n => L_r07_Read_4 es v11 v12 v13 y18 (J n) n acc (j : Int)) r
  | 0, j, acc, J, hk, ha, hJ => .succ (by
      simp only [L_r07_Read_4]
      rw [he18]
      refine .e (by simp; omega) ?_
      have : (j : Int) = e + 1 := by omega
      rw [this]
      simpa using hJ.shift)
  | k + 1, j, acc, J, hk, ha, hJ => .succ (by
      have hj : j < xs.length := by omega
      have hd := zipK_drop xs ys fs j hy hf hj
      have hfm : 0 ≤ nth E_i fs (j : Int) ∧ nth E_i fs (j : Int) < 256 := by
        have hm : nth E_i fs (j : Int) ∈ fs := List.mem_of_getElem? (nth_get E_i (l := fs) (i := j) (by omega))
        exact hfb _ hm
      have eE : nth E_i fs (j : Int) = nth E_B fs (j : Int) := rfl
      simp only [L_r07_Read_4]
      rw [he18, h11, h12, h13, tmod2 hfm.1]
      refine .t (by simp; omega) (.gd (by omega) (.gd (by omega) (.gd (by omega) (.gd (fits_small (by simp; omega) (by decide)) ?_))))
      have e1 : w64 ((j : Int) + 1) = ((j + 1 : Nat) : Int) := by rw [w64_of (by omega) (by omega)]; omega
      rw [e1]
      refine R4_run (J := J) he18 hexs k (j + 1) _ (fun n => J (n + 1)) (by omega) (by simp; omega) ?_
      have e2 : acc ++ [(⟨nth E_i xs j, nth E_i ys j, decide (nth E_i fs j % 2 = 1)⟩ : T_Siibe)] ++ ((zipK xs ys fs).drop (j + 1)).take k = acc ++ ((zipK xs ys fs).drop j).take (k + 1) := by
        rw [hd, eE]; simp
      rw [e2]
      exact hJ.shift)
theorem R3_run {r : R_r07_Read} : ∀ (t p : List Int) (i : Nat) (acc : List (List T_Siibe)) (J : Nat → List (List T_Siibe) → Option R_r07_Read), es = p ++ t → Up xs.length i t → acc.length = p.length →
    Ev (fun n => J n (acc ++ cutK t i ((zipK xs ys fs).drop i))) r → Ev (fun n => L_r07_Read_3 es v11 v12 v13 (J n) n acc (p.length : Int) (i : Int)) r
  | [], p, i, acc, J, hp, hu, ha, hJ => .succ (by
      have : es.length = p.length := by rw [hp]; simp
      simp only [L_r07_Read_3]
      refine .e (by simp; omega) ?_
      simpa [cutK] using hJ.shift)
  | e :: t, p, i, acc, J, hp, hu, ha, hJ => .succ (by
      have hlen : es.length = p.length + (t.length + 1) := by rw [hp]; simp
      have hnth : nth E_i es (p.length : Int) = e := nth_app' hp rfl
      obtain ⟨u1, u2, u3⟩ := hu
      have hi' : ((e + 1).toNat : Int) = e + 1 := by omega
      simp only [L_r07_Read_3]
      refine .t (by simp; omega) (.lj (.gd (by omega) (.lj ?_)))
      refine R4_run h11 h12 h13 hx hy hf hfb (J := fun _ _ _ => none) hnth u2 (e + 1 - (i : Int)).toNat i [] (fun n x66 x67 => gd (fits (acc.length + ([x66] : List (List T_Siibe)).length) 24 = true) <| L_r07_Read_3 es v11 v12 v13 (J (n + 1)) n (acc ++ [x66]) (w64 ((p.length : Int) + 1)) x67) (by omega) (by simp) ?_
      refine .gd (fits_small (by simp; omega) (by decide)) ?_
      have e1 : w64 ((p.length : Int) + 1) = ((p ++ [e]).length : Int) := by rw [w64_of (by omega) (by omega)]; simp
      rw [e1, ← hi']
      refine R3_run t (p ++ [e]) (e + 1).toNat _ (fun n => J (n + 1)) (by rw [hp]; simp) (by rw [hi']; exact u3) (by simp [ha]) ?_
      have e3 : acc ++ [[] ++ ((zipK xs ys fs).drop i).take (((e + 1).toNat : Int) - (i : Int)).toNat] ++ cutK t ((e + 1).toNat : Int) ((zipK xs ys fs).drop (e + 1).toNat) = acc ++ cutK (e :: t) i ((zipK xs ys fs).drop i) := by
        simp only [cutK]
        rw [hi', List.drop_drop, show i + (e + 1 - (i : Int)).toNat = (e + 1).toNat by omega]
        simp
      rw [e3]
      exact hJ.shift)
end
end Go.Proofs.Ytgkekjfbacncoaa
set_option linter.unusedSimpArgs false
set_option linter.unusedVariables false
open Go Go.Ab
namespace Go.Proofs.Ytgkekjfbacncoaa
def rq33 (v3 : R_r07_reader_s) (x19 : List Int) (n : Nat) (x43 : List Int) (x44 x45 : Int) (x46 : List Int) : Option R_r07_Read :=
        Option.bind (F_r07_reader_flags n (⟨x43, x44, x45⟩ : T_SLBiie) (w64 ((nth E_i x19 (w64 (v3.1 - 1))) + 1))) fun v47 =>
        Option.bind (F_r07_reader_steps n v47.2 v47.1 2 16) fun v48 =>
        Option.bind (F_r07_reader_steps n v48.2 v47.1 4 32) fun v49 =>
        if (!decide (v49.2.f2 = 0)) then
          some ((⟨([] : List (List T_Siibe)), ([] : List Int)⟩ : T_SLLSiibeLBe), v49.2.f2)
        else
        lj (fun (x71 : (List (List T_Siibe))) =>
          some ((⟨x71, x46⟩ : T_SLLSiibeLBe), 0)) fun j51 =>
        L_r07_Read_3 x19 v47 v48 v49 j51 n ([] : List (List T_Siibe)) 0 0
def rq21 (v3 : R_r07_reader_s) (x16 : List Int) (x17 x18 : Int) (x19 : List Int) (n : Nat) (_ : Unit) : Option R_r07_Read :=
      gd (0 ≤ (w64 (v3.1 - 1)) ∧ (w64 (v3.1 - 1)) < x19.length) <|
      if (decide (4096 < (w64 ((nth E_i x19 (w64 (v3.1 - 1))) + 1)))) then
        some ((⟨([] : List (List T_Siibe)), ([] : List Int)⟩ : T_SLLSiibeLBe), 7)
      else
      Option.bind (F_r07_reader_u n (⟨x16, x17, x18⟩ : T_SLBiie) 2) fun v32 =>
      L_r07_Read_2 v32 (rq33 v3 x19 n) n v32.2.f0 v32.2.f1 v32.2.f2 ([] : List Int) 0
def rq6 (v3 : R_r07_reader_s) (n : Nat) (x16 : List Int) (x17 x18 : Int) (x19 : List Int) : Option R_r07_Read :=
    if (!decide (x18 = 0)) then
      some ((⟨([] : List (List T_Siibe)), ([] : List Int)⟩ : T_SLLSiibeLBe), x18)
    else L_r07_Read_1 x19 (rq21 v3 x16 x17 x18 x19 n) n 0
section
variable {b : List Int} (hb : Bytes b) (hbl : b.length ≤ 140737488351232)
include hb hbl
omit hb hbl in
theorem rq33_err {v3 : R_r07_reader_s} {x19 l : List Int} {st : T_SLBiie} {e : Int} (hr : Rel b st (.error e)) : Ev (fun n => rq33 v3 x19 n st.f0 st.f1 st.f2 l) (noG, e) := by
  simp only [rq33]
  refine .bind (rflags_err hr) (.bind (rsteps_err div_2 div_16 hr) (.bind (rsteps_err div_4 div_32 hr) (.t (by simp [hr.2.1, hr.2.2]) (.ret' ?_))))
  simp only [hr.2.1]; rfl
theorem r07_Read_ev : Ev (fun n => F_r07_Read n b) (simpleRead b) := by
  unfold simpleRead
  by_cases h0 : b = []
  · subst h0
    exact .t rfl (.ret _)
  have hl0 : b.length ≠ 0 := fun h => h0 (List.length_eq_zero_iff.1 h)
  simp only [h0, if_false]
  by_cases h10 : b.length < 10
  · simp only [h10, if_true]
    simp only [F_r07_Read]
    exact .e (by simp; omega) (.t (by simp; omega) (.ret _))
  simp only [h10, if_false]
  have hR0 : Rel b ⟨b, 0, 0⟩ (.ok b) := ⟨rfl, rfl, [], rfl, rfl⟩
  have hS := rs_run hb hbl hR0
  have hx : rU 2 b = .ok (beU (b.take 2), b.drop 2) := by unfold rU; rw [if_neg (by omega)]
  rw [hx] at hS
  obtain ⟨st0, hS, r0⟩ := hS
  have ebs : (if beU (b.take 2) ≥ 32768 then beU (b.take 2) - 65536 else beU (b.take 2)) = beS (b.take 2) := by
    unfold beS
    rw [show (b.take 2).length = 2 by rw [List.length_take]; omega]
    split <;> split <;> omega
  rw [ebs] at hS
  have hnb := beS_bd2 (hb.take 2) (by rw [List.length_take]; omega)
  generalize beS (b.take 2) = m at hS hnb
  have core : ∀ res, Ev (fun n => (if (decide (m < 0)) then
    some ((⟨([] : List (List T_Siibe)), ([] : List Int)⟩ : T_SLLSiibeLBe), 11)
  else
  if (decide (m = 0)) then
    some ((⟨([] : List (List T_Siibe)), ([] : List Int)⟩ : T_SLLSiibeLBe), 0)
  else L_r07_Read_0 (m, st0) (rq6 (m, st0) n) n b 10 0 ([] : List Int) 0 : Option R_r07_Read)) res → Ev (fun n => F_r07_Read n b) res := by
    intro res hres
    have e : Ev (fun n => Option.bind (F_r07_reader_s n (⟨b, 0, 0⟩ : T_SLBiie)) fun v3 => if (decide (v3.1 < 0)) then
        some ((⟨([] : List (List T_Siibe)), ([] : List Int)⟩ : T_SLLSiibeLBe), 11)
      else
      if (decide (v3.1 = 0)) then
        some ((⟨([] : List (List T_Siibe)), ([] : List Int)⟩ : T_SLLSiibeLBe), 0)
      else L_r07_Read_0 v3 (rq6 v3 n) n v3.2.f0 10 v3.2.f2 ([] : List Int) 0) res := by
      refine .bind hS ?_
      simp only [r0.1, r0.2.1]
      exact hres
    refine .eq (f := fun n => F_r07_Read n b) (fun n => ?_) e
    unfold F_r07_Read
    rw [if_neg (by simp; omega), if_neg (by simp; omega)]
    rfl
  by_cases hm1 : m < 0
  · simp only [hm1, if_true]
    exact core _ (.t (by simpa using hm1) (.ret _))
  simp only [hm1, if_false]
  by_cases hm0 : m = 0
  · simp only [hm0, if_true]
    exact core _ (.e (by simpa using hm1) (.t (by simpa using hm0) (.ret _)))
  simp only [hm0, if_false]
  have hR : Rel b ⟨b, 10, 0⟩ (.ok (b.drop 10)) := ⟨rfl, rfl, b.take 10, by simp, by rw [List.length_take]; simp; omega⟩
  have hmm : ((m.toNat : Nat) : Int) = m := by omega
  obtain ⟨es', st1, k1, k2⟩ := R0_run hb hbl (v3 := (m, st0)) (by show m ≤ 40000; omega) m.toNat ⟨b, 10, 0⟩ (b.drop 10) [] hR (by simp [hmm])
  have core2 : ∀ res, Ev (fun n => rq6 (m, st0) n st1.f0 st1.f1 st1.f2 es') res → Ev (fun n => F_r07_Read n b) res := by
    intro res hres
    exact core _ (.e (by simpa using hm1) (.e (by simpa using hm0) (k2 (rq6 (m, st0)) res hres)))
  clear core
  cases hE : endsE m.toNat (b.drop 10) with
  | error e =>
    rw [hE] at k1
    have r1 : Rel b st1 (.error e) := k1
    refine core2 _ ?_
    unfold rq6
    refine .t (by simp [r1.2.1, r1.2.2]) (.ret' ?_)
    simp only [r1.2.1]; rfl
  | ok p =>
    obtain ⟨es, s1⟩ := p
    rw [hE] at k1
    obtain ⟨hes, r1⟩ := k1
    have hes : es' = es := by simpa using hes
    subst hes
    have hlen := endsE_len _ _ es' s1 hE
    have hbd := endsE_bd _ _ es' s1 (hb.drop 10) hE
    have hne : es' ≠ [] := by intro e; subst e; simp at hlen; omega
    simp only
    have core3 : ∀ res, (rising es' = true → Ev (fun n => rq21 (m, st0) st1.f0 st1.f1 st1.f2 es' n ()) res) → Ev (fun n => F_r07_Read n b) (if rising es' = true then res else (noG, 12)) := by
      intro res hres
      refine core2 _ ?_
      unfold rq6
      exact .e (by simp [r1.2.1]) (R1_run (J := rq21 (m, st0) st1.f0 st1.f1 st1.f2 es') (by omega) hres)
    clear core2
    by_cases hris : rising es' = false
    · have := core3 (noG, 12) (fun h => by rw [hris] at h; simp at h)
      simpa [hris] using this
    have hris' : rising es' = true := by simpa using hris
    simp only [hris, if_false]
    have core4 : ∀ res, Ev (fun n => rq21 (m, st0) st1.f0 st1.f1 st1.f2 es' n ()) res → Ev (fun n => F_r07_Read n b) res := by
      intro res hres
      have := core3 res (fun _ => hres)
      simpa [hris'] using this
    clear core3
    have hlast : nth E_i es' (w64 (m - 1)) = lastI es' := by
      rw [w64_of (by omega) (by omega), show m - 1 = (es'.length : Int) - 1 by omega]; exact nth_last hne
    have hl1 : 0 ≤ lastI es' ∧ lastI es' ≤ 65535 := by
      have : lastI es' ∈ es' := by rw [← nth_last hne]; exact List.mem_of_getElem? (by
        have := nth_get E_i (l := es') (i := es'.length - 1) (by have := List.length_pos_iff.2 hne; omega)
        rw [show ((es'.length - 1 : Nat) : Int) = (es'.length : Int) - 1 by have := List.length_pos_iff.2 hne; omega] at this
        exact this)
      exact hbd.1 _ this
    have hwl : w64 (lastI es' + 1) = ((lastI es' + 1).toNat : Int) := by rw [w64_of (by omega) (by omega)]; omega
    have hgd : 0 ≤ (w64 (m - 1)) ∧ (w64 (m - 1)) < es'.length := by rw [w64_of (by omega) (by omega)]; omega
    by_cases h4 : 4096 ≤ lastI es'
    · simp only [h4, if_true]
      refine core4 _ ?_
      unfold rq21
      refine .gd hgd ?_
      simp only
      rw [hlast, hwl]
      exact .t (decide_eq_true (by omega)) (.ret _)
    simp only [h4, if_false]
    have core5 : ∀ res, Ev (fun n => Option.bind (F_r07_reader_u n st1 2) fun v32 =>
        L_r07_Read_2 v32 (rq33 (m, st0) es' n) n v32.2.f0 v32.2.f1 v32.2.f2 ([] : List Int) 0) res → Ev (fun n => F_r07_Read n b) res := by
      intro res hres
      refine core4 _ ?_
      unfold rq21
      refine .gd hgd ?_
      simp only
      rw [hlast, hwl]
      exact .e (decide_eq_false (by omega)) hres
    clear core4
    have hu := ru_run hb hbl (w := 2) (by omega) (wi := 2) rfl r1
    cases hC : rU 2 s1 with
    | error e =>
      rw [hC] at hu
      obtain ⟨st2, g1, r2⟩ := hu
      have : codeE s1 = .error e := by unfold codeE; rw [hC]
      rw [this]
      exact core5 _ (.bind g1 (R2_err r2 (J := rq33 (m, st0) es') (rq33_err r2)))
    | ok p =>
      obtain ⟨k, s1'⟩ := p
      have hkb := rU_bd (Rel.bytes hb r1) hC
      rw [hC] at hu
      obtain ⟨st2, g1, r2⟩ := hu
      obtain ⟨code', st3, q1, q2⟩ := R2_run hb hbl (v := (k, st2)) (by show k ≤ 70000; omega) k.toNat st2 s1' [] r2 (by show (0 : Int) + _ = k; omega)
      have core6 : ∀ res, Ev (fun n => rq33 (m, st0) es' n st3.f0 st3.f1 st3.f2 code') res → Ev (fun n => F_r07_Read n b) res := by
        intro res hres
        exact core5 _ (.bind g1 (q2 (rq33 (m, st0) es') res hres))
      clear core5
      by_cases hk : s1'.length < k.toNat
      · have : codeE s1 = .error 3 := by unfold codeE; rw [hC]; simp only; rw [if_pos (by omega)]
        rw [this]
        rw [if_pos hk] at q1
        exact core6 _ (rq33_err (e := 3) q1)
      · have : codeE s1 = .ok (s1'.take k.toNat, s1'.drop k.toNat) := by unfold codeE; rw [hC]; simp only; rw [if_neg (by omega)]
        rw [this]
        rw [if_neg hk] at q1
        obtain ⟨hc, r3⟩ := q1
        have hc : code' = s1'.take k.toNat := by simpa using hc
        subst hc
        generalize s1'.drop k.toNat = s2 at r3
        generalize s1'.take k.toNat = code at core6
        simp only
        have core7 : ∀ (v47 : R_r07_reader_flags), Ev (fun n => F_r07_reader_flags n st3 ((lastI es' + 1).toNat : Int)) v47 → ∀ res, Ev (fun n => (
            Option.bind (F_r07_reader_steps n v47.2 v47.1 2 16) fun v48 =>
            Option.bind (F_r07_reader_steps n v48.2 v47.1 4 32) fun v49 =>
            if (!decide (v49.2.f2 = 0)) then
              some ((⟨([] : List (List T_Siibe)), ([] : List Int)⟩ : T_SLLSiibeLBe), v49.2.f2)
            else
            L_r07_Read_3 es' v47 v48 v49 (fun x71 => some ((⟨x71, code⟩ : T_SLLSiibeLBe), 0)) n ([] : List (List T_Siibe)) 0 0 : Option R_r07_Read)) res → Ev (fun n => F_r07_Read n b) res := by
          intro v47 h47 res hres
          refine core6 _ ?_
          unfold rq33
          simp only
          rw [hlast, hwl]
          exact .bind h47 hres
        clear core6
        have hfl := rflags_run hb hbl (m := (lastI es' + 1).toNat) (by omega) r3
        cases hF : flagsE ((lastI es' + 1).toNat + 1) (lastI es' + 1).toNat s2 with
        | error e =>
          rw [hF] at hfl
          obtain ⟨v, st4, g2, r4⟩ := hfl
          refine core7 _ g2 _ (.bind (rsteps_err div_2 div_16 r4) (.bind (rsteps_err div_4 div_32 r4) (.t (by simp [r4.2.1, r4.2.2]) (.ret' ?_))))
          simp only [r4.2.1]; rfl
        | ok p =>
          obtain ⟨fs, s3⟩ := p
          rw [hF] at hfl
          obtain ⟨st4, g2, r4⟩ := hfl
          simp only
          have hfs := flagsE_spec _ _ s2 fs s3 (Rel.bytes hb r3) hF
          have hsx := rsteps_run hb hbl div_2 div_16 hfs.2.1 (by omega) r4
          cases hX : stepsE 2 16 fs 0 s3 with
          | error e =>
            rw [hX] at hsx
            obtain ⟨v, st5, g3, r5⟩ := hsx
            refine core7 _ g2 _ (.bind g3 (.bind (rsteps_err div_4 div_32 r5) (.t (by simp [r5.2.1, r5.2.2]) (.ret' ?_))))
            simp only [r5.2.1]; rfl
          | ok p =>
            obtain ⟨xs, s4⟩ := p
            rw [hX] at hsx
            obtain ⟨st5, g3, r5⟩ := hsx
            simp only
            have hxs := stepsE_spec _ _ s3 xs s4 hfs.2.2 (by omega) hX
            have hsy := rsteps_run hb hbl div_4 div_32 hfs.2.1 (by omega) r5
            cases hY : stepsE 4 32 fs 0 s4 with
            | error e =>
              rw [hY] at hsy
              obtain ⟨v, st6, g4, r6⟩ := hsy
              refine core7 _ g2 _ (.bind g3 (.bind g4 (.t (by simp [r6.2.1, r6.2.2]) (.ret' ?_))))
              simp only [r6.2.1]; rfl
            | ok p =>
              obtain ⟨ys, s5⟩ := p
              rw [hY] at hsy
              obtain ⟨st6, g4, r6⟩ := hsy
              simp only
              have hys := stepsE_spec _ _ s4 ys s5 hxs.2.2 (by omega) hY
              have hup := rising_up es' 0 hris' (fun e t he => (hbd.1 e (by rw [he]; simp)).1)
              have hN : lastI es' + 1 = (xs.length : Int) := by omega
              rw [hN] at hup
              refine core7 _ g2 _ (.bind g3 (.bind g4 (.e (by simp [r6.2.1]) ?_)))
              refine R3_run (xs := xs) (ys := ys) (fs := fs) (es := es') (v11 := (fs, st4)) (v12 := (xs, st5)) (v13 := (ys, st6)) rfl rfl rfl (by omega) (by omega) (by omega) hfs.2.1 (by omega) es' [] 0 [] (fun n x71 => some ((⟨x71, code⟩ : T_SLLSiibeLBe), 0)) rfl hup rfl ?_
              exact .ret' (by simp)
end
/-! ### two glyphs are held together -/
theorem pt_eq (a b : T_Siibe) : (((decide (a.f0 = b.f0)) && ((decide (a.f1 = b.f1)) && ((a.f2 == b.f2) && true)))) = decide (a = b) := by
  obtain ⟨a0, a1, a2⟩ := a
  obtain ⟨b0, b1, b2⟩ := b
  by_cases h0 : a0 = b0 <;> by_cases h1 : a1 = b1 <;> by_cases h2 : a2 = b2 <;> simp [h0, h1, h2]
theorem Same1_run {a0 a1 : List (List T_Siibe)} {y3 : Int} {u v : List T_Siibe} (hu : nth E_LSiibe a0 y3 = u) (hv : nth E_LSiibe a1 y3 = v) (h0 : 0 ≤ y3 ∧ y3 < a0.length) (h1 : 0 ≤ y3 ∧ y3 < a1.length) (hl : u.length ≤ 140737488351232) {r : Bool} : ∀ (t s p q : List T_Siibe) (J : Nat → Unit → Option R_r07_Same), u = p ++ t → v = q ++ s → p.length = q.length → t.length = s.length →
    (t = s → Ev (fun n => J n ()) r) → Ev (fun n => L_r07_Same_1 a0 a1 y3 (J n) n (p.length : Int)) (if t = s then r else false)
  | [], s, p, q, J, hp, hq, hpq, hts, hJ => .succ (by
      have : s = [] := List.eq_nil_of_length_eq_zero hts.symm
      subst this
      simp only [L_r07_Same_1]
      rw [hu]
      refine .e (by rw [hp]; simp) ?_
      exact (hJ rfl).shift)
  | c :: t, [], p, q, J, hp, hq, hpq, hts, hJ => by simp at hts
  | c :: t, d :: s, p, q, J, hp, hq, hpq, hts, hJ => .succ (by
      have hlen : u.length = p.length + (t.length + 1) := by rw [hp]; simp
      have hlen1 : v.length = q.length + (s.length + 1) := by rw [hq]; simp
      have e2 : nth E_Siibe u (p.length : Int) = c := nth_app' hp rfl
      have e3 : nth E_Siibe v (p.length : Int) = d := nth_app' hq (by omega)
      have e1 : w64 ((p.length : Int) + 1) = (((p ++ [c]).length : Nat) : Int) := by rw [w64_of (by omega) (by omega)]; simp
      simp only [L_r07_Same_1]
      rw [hu, hv, e2, e3, pt_eq, e1]
      refine .t (by simp; omega) (.gd h0 (.gd (by omega) (.gd h1 (.gd (by omega) ?_))))
      by_cases hcd : c = d
      · subst hcd
        refine .e (by simp) ?_
        have := Same1_run hu hv h0 h1 hl t s (p ++ [c]) (q ++ [c]) (fun n => J (n + 1)) (by rw [hp]; simp) (by rw [hq]; simp) (by simp [hpq]) (by simpa using hts) (fun h => (hJ (by rw [h])).shift)
        simpa using this
      · refine .t (by simp [hcd]) (.ret' ?_)
        simp [hcd])
theorem Same0_run {a0 a1 : List (List T_Siibe)} (hl : a0.length ≤ 140737488351232) (hl2 : ∀ x ∈ a0, x.length ≤ 140737488351232) : ∀ (t u p q : List (List T_Siibe)), a0 = p ++ t → a1 = q ++ u → p.length = q.length → t.length = u.length → Ev (fun n => L_r07_Same_0 a0 a1 (fun _ => some true) n (p.length : Int)) (decide (t = u))
  | [], u, p, q, h, hu, hpq, htu => .succ (by
      simp only [L_r07_Same_0]
      have : u = [] := List.eq_nil_of_length_eq_zero htu.symm
      subst this
      exact .e (by rw [h]; simp) (.ret' (by simp)))
  | c :: t, [], p, q, h, hu, hpq, htu => by simp at htu
  | c :: t, d :: u, p, q, h, hu, hpq, htu => .succ (by
      have hlen : a0.length = p.length + (t.length + 1) := by rw [h]; simp
      have hlen1 : a1.length = q.length + (u.length + 1) := by rw [hu]; simp
      have e2 : nth E_LSiibe a0 (p.length : Int) = c := nth_app' h rfl
      have e3 : nth E_LSiibe a1 (p.length : Int) = d := nth_app' hu (by omega)
      have e1 : w64 ((p.length : Int) + 1) = (((p ++ [c]).length : Nat) : Int) := by rw [w64_of (by omega) (by omega)]; simp
      simp only [L_r07_Same_0]
      refine .t (by simp; omega) (.lj (.gd (by omega) (.gd (by omega) ?_)))
      rw [e2, e3]
      by_cases hcd : c.length = d.length
      · refine .e (by simp [hcd]) (.gd (by omega) (.lj ?_))
        have ih := Same0_run (a1 := a1) hl hl2 t u (p ++ [c]) (q ++ [d]) (by rw [h]; simp) (by rw [hu]; simp) (by simp [hpq]) (by simpa using htu)
        have := Same1_run (r := decide (t = u)) e2 e3 (by omega) (by omega) (hl2 c (by rw [h]; simp)) c d [] [] (fun n _ => L_r07_Same_0 a0 a1 (fun _ => some true) n (w64 ((p.length : Int) + 1))) rfl rfl rfl hcd (fun _ => by rw [e1]; exact ih)
        have e : (if c = d then decide (t = u) else false) = decide (c :: t = d :: u) := by
          by_cases hh : c = d <;> simp [hh]
        rw [← e]
        exact this
      · refine .t (by simp; omega) (.ret' ?_)
        have : c ≠ d := fun e => hcd (by rw [e])
        simp [this])
theorem r07_Same {a b : List (List T_Siibe)} (hl : a.length ≤ 140737488351232) (hl2 : ∀ x ∈ a, x.length ≤ 140737488351232) : Ev (fun n => F_r07_Same n a b) (decide (a = b)) := by
  simp only [F_r07_Same]
  by_cases h : a.length = b.length
  · refine .e (by simp [h]) (.lj ?_)
    exact Same0_run hl hl2 a b [] [] rfl rfl rfl h
  · refine .t (by simp; omega) (.ret' ?_)
    have : a ≠ b := fun e => h (by rw [e])
    simp [this]
end Go.Proofs.Ytgkekjfbacncoaa
set_option linter.unusedSimpArgs false
set_option linter.unusedVariables false
open Go Go.Ab
namespace Go.Proofs.Ytgkekjfbacncoaa
theorem alive07 : Ev (fun n => F_law07_alive n) true := .from 100 fun n => by kernel_rfl
theorem cutK_mem : ∀ (es : List Int) (i : Int) (ks x : List T_Siibe), x ∈ cutK es i ks → x.length ≤ ks.length
  | [], i, ks, x, h => by simp [cutK] at h
  | e :: es, i, ks, x, h => by
    simp only [cutK] at h
    rcases List.mem_cons.1 h with h | h
    · rw [h, List.length_take]; omega
    · have := cutK_mem es _ _ x h
      rw [List.length_drop] at this; omega
theorem endsE_short : ∀ (k : Nat) (s l s' : List Int), endsE k s = .ok (l, s') → s'.length ≤ s.length
  | 0, s, l, s', h => by simp [endsE] at h; rw [h.2]; exact Nat.le_refl _
  | k + 1, s, l, s', h => by
    simp only [endsE] at h
    cases hx : rU 2 s with
    | error e => rw [hx] at h; simp at h
    | ok p =>
      obtain ⟨v, s1⟩ := p
      rw [hx] at h; simp only at h
      have h1 : s1.length ≤ s.length := by
        unfold rU at hx
        split at hx
        · simp at hx
        · simp only [Except.ok.injEq, Prod.mk.injEq] at hx
          rw [← hx.2, List.length_drop]; omega
      cases hy : endsE k s1 with
      | error e => rw [hy] at h; simp at h
      | ok q =>
        obtain ⟨l', s2⟩ := q
        rw [hy] at h
        simp only [Except.ok.injEq, Prod.mk.injEq] at h
        have := endsE_short k s1 l' s2 hy
        rw [← h.2]; omega
theorem read_small {b : List Int} (hb : Bytes b) : (simpleRead b).1.f0.length ≤ 40000 ∧ (∀ x ∈ (simpleRead b).1.f0, x.length ≤ 5000) ∧ (simpleRead b).1.f1.length ≤ b.length := by
  have hno : ∀ e : Int, ((noG, e) : T_SLLSiibeLBe × Int).1.f0.length ≤ 40000 ∧ (∀ x ∈ ((noG, e) : T_SLLSiibeLBe × Int).1.f0, x.length ≤ 5000) ∧ ((noG, e) : T_SLLSiibeLBe × Int).1.f1.length ≤ b.length := fun e => ⟨by simp [noG], by simp [noG], by simp [noG]⟩
  unfold simpleRead
  by_cases h0 : b = []
  · rw [if_pos h0]; exact hno 0
  rw [if_neg h0]
  by_cases h10 : b.length < 10
  · rw [if_pos h10]; exact hno 3
  rw [if_neg h10]
  have hnb := beS_bd2 (hb.take 2) (by rw [List.length_take]; omega)
  generalize beS (b.take 2) = m at hnb
  simp only
  by_cases hm1 : m < 0
  · rw [if_pos hm1]; exact hno 11
  rw [if_neg hm1]
  by_cases hm0 : m = 0
  · rw [if_pos hm0]; exact hno 0
  rw [if_neg hm0]
  cases hE : endsE m.toNat (b.drop 10) with
  | error e => exact hno e
  | ok p =>
    obtain ⟨es, s1⟩ := p
    simp only
    have hlen := endsE_len _ _ es s1 hE
    have hbd := endsE_bd _ _ es s1 (hb.drop 10) hE
    by_cases hris : rising es = false
    · rw [if_pos hris]; exact hno 12
    rw [if_neg hris]
    by_cases h4 : 4096 ≤ lastI es
    · rw [if_pos h4]; exact hno 7
    rw [if_neg h4]
    cases hC : codeE s1 with
    | error e => exact hno e
    | ok p =>
      obtain ⟨code, s2⟩ := p
      simp only
      have hcl : code.length ≤ b.length ∧ Bytes s2 := by
        have hs1 : s1.length ≤ (b.drop 10).length := endsE_short _ _ es s1 hE
        rw [List.length_drop] at hs1
        unfold codeE at hC
        cases hx : rU 2 s1 with
        | error e => rw [hx] at hC; simp at hC
        | ok p =>
          obtain ⟨k, s1'⟩ := p
          have hk := rU_bd hbd.2 hx
          rw [hx] at hC; simp only at hC
          split at hC
          · simp at hC
          · simp only [Except.ok.injEq, Prod.mk.injEq] at hC
            have h5 := hk.2.2.2.1
            have : s1'.length ≤ s1.length := by rw [h5, List.length_drop]; omega
            rw [← hC.1, ← hC.2]
            exact ⟨by rw [List.length_take]; omega, hk.2.2.1.drop _⟩
      cases hF : flagsE ((lastI es + 1).toNat + 1) (lastI es + 1).toNat s2 with
      | error e => exact hno e
      | ok p =>
        obtain ⟨fs, s3⟩ := p
        simp only
        have hfs := flagsE_spec _ _ s2 fs s3 hcl.2 hF
        cases hX : stepsE 2 16 fs 0 s3 with
        | error e => exact hno e
        | ok p =>
          obtain ⟨xs, s4⟩ := p
          simp only
          have hxs := stepsE_spec _ _ s3 xs s4 hfs.2.2 (by omega) hX
          cases hY : stepsE 4 32 fs 0 s4 with
          | error e => exact hno e
          | ok p =>
            obtain ⟨ys, s5⟩ := p
            have hys := stepsE_spec _ _ s4 ys s5 hxs.2.2 (by omega) hY
            refine ⟨by simp only [cutK_len]; omega, fun x hx => ?_, hcl.1⟩
            have := cutK_mem _ _ _ x hx
            rw [zipK_len _ _ _ (by omega) (by omega)] at this
            omega
theorem r02_Same_self (a : List Int) : Ev (fun n => F_r02_Same n a a) true := by
  simp only [F_r02_Same]
  exact .ret' (by simp)
theorem bytes_of {l : List Int} (h : ∀ x ∈ l, (IntKind.min .u8 ≤ x ∧ x ≤ IntKind.max .u8)) : Bytes l := fun x hx => by
  have := h x hx
  have e1 : IntKind.min .u8 = 0 := rfl
  have e2 : IntKind.max .u8 = 255 := rfl
  rw [e1, e2] at this; omega
theorem L_SimpleReads {v : R_simple_Read} (hv : v.1.f1.length ≤ 140737488351232) : ∀ (k i : Nat) (y : List Int) (J : Nat → Unit → Option R_law07_SimpleReads) (r : R_law07_SimpleReads), y.length = v.1.f1.length → i + k = v.1.f1.length → Ev (fun n => J n ()) r → Ev (fun n => L_law07_SimpleReads_0 v (J n) n y (i : Int)) r
  | 0, i, y, J, r, hy, hk, hJ => .succ (by
      simp only [L_law07_SimpleReads_0]
      exact .e (by simp; omega) hJ.shift)
  | k + 1, i, y, J, r, hy, hk, hJ => .succ (by
      simp only [L_law07_SimpleReads_0]
      refine .t (by simp; omega) (.gd (by omega) (.gd (by omega) ?_))
      have e1 : w64 ((i : Int) + 1) = ((i + 1 : Nat) : Int) := by rw [w64_of (by omega) (by omega)]; omega
      rw [e1]
      exact L_SimpleReads hv k (i + 1) _ (fun n => J (n + 1)) r (by simpa using hy) (by omega) hJ.shift)
theorem SimpleReadsPure (a0 : List Int) (h0 : a0.length * 1 ≤ 140737488351232 ∧ ∀ x ∈ a0, (IntKind.min .u8 ≤ x ∧ x ≤ IntKind.max .u8)) : ∃ n, F_law07_SimpleReads n a0 = some true := by
  have hb := bytes_of h0.2
  have hl : a0.length ≤ 140737488351232 := by omega
  refine Ev.out ?_
  simp only [F_law07_SimpleReads]
  have hg := read_small hb
  refine .bind alive07 (.e rfl (.bind (r02_Copy hl) (.bind (simple_Read_ev hb hl) (.bind (r07_Read_ev hb hl) (.lj (.e (by simp) (.bind (r07_Same (by omega) (fun x hx => by have := hg.2.1 x hx; omega)) ?_)))))))
  rw [decide_eq_true rfl]
  refine .e rfl (.bind (r02_Same_self _) (.e rfl (.lj ?_)))
  exact L_SimpleReads (by omega) (simpleRead a0).1.f1.length 0 _ (fun n _ => _) true rfl (by simp) (.bind (r02_Same_self _) (.ret _))
end Go.Proofs.Ytgkekjfbacncoaa
