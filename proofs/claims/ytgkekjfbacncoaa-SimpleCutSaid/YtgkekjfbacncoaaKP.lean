/- What the shallow functions answer: plain lemmas on numbers and lists. -/
import Derived.Test.YtgkekjfbacncoaaKG7eF2
import Derived.Test.YtgkekjfbacncoaaKG7eR
import Derived.Test.YtgkekjfbacncoaaKAb2
import Derived.KernelRfl
set_option linter.unusedSimpArgs false
set_option linter.unusedVariables false
open Go Go.Ab
namespace Go.Proofs.Ytgkekjfbacncoaa
theorem there_t {b : List Int} {at_ w : Int} (h0 : 0 ≤ at_) (h1 : 0 ≤ w) (h2 : at_ + w ≤ (b.length : Int)) (hb : b.length ≤ 140737488351232) (n : Nat) : F_be_there n b at_ w = some true := by
  have e : w64 ((b.length : Int) - at_) = (b.length : Int) - at_ := w64_of (by omega) (by omega)
  simp only [F_be_there, e]
  rw [decide_eq_true h0, decide_eq_true h1, decide_eq_true (show at_ ≤ (b.length : Int) by omega), decide_eq_true (show w ≤ (b.length : Int) - at_ by omega)]; rfl
theorem there_f {b : List Int} {at_ w : Int} (h0 : 0 ≤ at_) (h1 : 0 ≤ w) (h3 : at_ ≤ (b.length : Int)) (h2 : (b.length : Int) < at_ + w) (hb : b.length ≤ 140737488351232) (n : Nat) : F_be_there n b at_ w = some false := by
  have e : w64 ((b.length : Int) - at_) = (b.length : Int) - at_ := w64_of (by omega) (by omega)
  simp only [F_be_there, e]
  rw [decide_eq_true h0, decide_eq_true h1, decide_eq_true h3, decide_eq_false (show ¬ w ≤ (b.length : Int) - at_ by omega)]; rfl
theorem L_be_U {a0 : List Int} {a1 a2 : Int} {j : Int → Option R_be_U} {s : List Int} {r : R_be_U} (hs : slc a0 a1 (w64 (a1 + a2)) = s) (hb : Bytes s) (hl : s.length ≤ 4) (hj : j (beU s) = some r) :
    ∀ (t p : List Int), s = p ++ t → Ev (fun n => L_be_U_0 a0 a1 a2 j n (p.length : Int) (beU p)) r
  | [], p, h => .succ (by
      simp only [L_be_U_0, hs]
      have : s = p := by simpa using h
      subst this
      refine .e (by simp) ?_
      exact .all fun _ => hj)
  | c :: t, p, h => .succ (by
      simp only [L_be_U_0, hs]
      have hlen : s.length = p.length + (t.length + 1) := by rw [h]; simp
      refine .t (by simp; omega) (.gd (by omega) ?_)
      have hp : Bytes p := (h ▸ hb).left
      have hc : 0 ≤ c ∧ c < 256 := hb c (by rw [h]; simp)
      have hbd := beU_bound hp
      have hp3 : (256 : Int) ^ p.length ≤ 16777216 := by
        have : p.length ≤ 3 := by omega
        match hh : p.length, this with
        | 0, _ => decide
        | 1, _ => decide
        | 2, _ => decide
        | 3, _ => decide
      have e1 : w64 ((p.length : Int) + 1) = (((p ++ [c]).length : Nat) : Int) := by rw [w64_of (by omega) (by omega)]; simp
      have e2 : nth E_B s (p.length : Int) = c := nth_app' h rfl
      have e3 : bits .or .i64 (w64 (beU p * 2 ^ 8)) (w64 c) = beU (p ++ [c]) := by
        rw [w64_of (x := beU p * 2 ^ 8) (by omega) (by omega), w64_of (x := c) (by omega) (by omega), beU_snoc]
        rw [bits_join .i64 62 (by decide) wraps_i64 8 _ _ (by omega) (by omega) (by omega) hc.1 (by omega) (by omega)]
        omega
      rw [e1, e2, e3]
      exact L_be_U hs hb hl hj t (p ++ [c]) (by rw [h]; simp))
theorem be_U_ok {b x y z : List Int} {at_ w : Int} (hb : Bytes b) (hbl : b.length ≤ 140737488351232) (h : b = x ++ (y ++ z)) (ha : at_ = (x.length : Int)) (hw : w = (y.length : Int)) (h1 : 1 ≤ y.length) (h4 : y.length ≤ 4) :
    Ev (fun n => F_be_U n b at_ w) (beU y, 0) := by
  have hlen : b.length = x.length + (y.length + z.length) := by rw [h]; simp
  have e : w64 (at_ + w) = at_ + w := w64_of (by omega) (by omega)
  have hs : slc b at_ (w64 (at_ + w)) = y := by rw [e]; exact slc_eq h ha (by omega)
  simp only [F_be_U]
  refine .e (by simp; omega) (.bind (.all (there_t (by omega) (by omega) (by omega) hbl)) (.e rfl (.gd ?_ (.lj ?_))))
  · rw [e]; omega
  · have := L_be_U (j := fun x11 => some (x11, 0)) hs (by rw [h] at hb; exact hb.right.left) h4 rfl y [] rfl
    exact this
theorem be_U_short {b : List Int} {at_ w : Int} (hbl : b.length ≤ 140737488351232) (h0 : 0 ≤ at_) (h3 : at_ ≤ (b.length : Int)) (h2 : (b.length : Int) < at_ + w) (h1 : 1 ≤ w) (h4 : w ≤ 4) :
    Ev (fun n => F_be_U n b at_ w) (0, 3) := by
  simp only [F_be_U]
  exact .e (by simp; omega) (.bind (.all (there_f h0 (by omega) h3 h2 hbl)) (.t rfl (.ret _)))
theorem sgn1 {v : Int} (h0 : 0 ≤ v) (h1 : v < 256) : Int.fdiv (w64 (v * 2 ^ 56)) (2 ^ 56) = if 2 * v ≥ 256 then v - 256 else v := by
  rw [Int.fdiv_eq_ediv_of_nonneg _ (by decide), w64_def]; split <;> omega
theorem sgn2 {v : Int} (h0 : 0 ≤ v) (h1 : v < 65536) : Int.fdiv (w64 (v * 2 ^ 48)) (2 ^ 48) = if 2 * v ≥ 65536 then v - 65536 else v := by
  rw [Int.fdiv_eq_ediv_of_nonneg _ (by decide), w64_def]; split <;> omega
theorem be_S_ok {b x y z : List Int} {at_ w : Int} (hb : Bytes b) (hbl : b.length ≤ 140737488351232) (h : b = x ++ (y ++ z)) (ha : at_ = (x.length : Int)) (hw : w = (y.length : Int)) (h1 : y.length = 1 ∨ y.length = 2) :
    Ev (fun n => F_be_S n b at_ w) (beS y, 0) := by
  have hy : Bytes y := by rw [h] at hb; exact hb.right.left
  have hbd := beU_bound hy
  simp only [F_be_S]
  refine .bind (be_U_ok hb hbl h ha hw (by omega) (by omega)) (.e rfl ?_)
  rcases h1 with h1 | h1 <;> rw [h1] at hbd <;> subst hw <;> rw [h1]
  · refine .gd (by decide) (.gd (by decide) (.ret' ?_))
    have := sgn1 hbd.1 (by simpa using hbd.2)
    show (Int.fdiv (w64 (beU y * 2 ^ 56)) (2 ^ 56), (0 : Int)) = _
    rw [this]; unfold beS; rw [h1]; rfl
  · refine .gd (by decide) (.gd (by decide) (.ret' ?_))
    have := sgn2 hbd.1 (by simpa using hbd.2)
    show (Int.fdiv (w64 (beU y * 2 ^ 48)) (2 ^ 48), (0 : Int)) = _
    rw [this]; unfold beS; rw [h1]; rfl
theorem be_S_short {b : List Int} {at_ w : Int} (hbl : b.length ≤ 140737488351232) (h0 : 0 ≤ at_) (h3 : at_ ≤ (b.length : Int)) (h2 : (b.length : Int) < at_ + w) (h1 : 1 ≤ w) (h4 : w ≤ 4) :
    Ev (fun n => F_be_S n b at_ w) (0, 3) := by
  simp only [F_be_S]
  exact .bind (be_U_short hbl h0 h3 h2 h1 h4) (.t rfl (.ret _))
theorem be_Cut_ok {b x y z : List Int} {at_ w : Int} (hbl : b.length ≤ 140737488351232) (h : b = x ++ (y ++ z)) (ha : at_ = (x.length : Int)) (hw : w = (y.length : Int)) : Ev (fun n => F_be_Cut n b at_ w) (y, 0) := by
  have hlen : b.length = x.length + (y.length + z.length) := by rw [h]; simp
  have e : w64 (at_ + w) = at_ + w := w64_of (by omega) (by omega)
  have hs : slc b at_ (w64 (at_ + w)) = y := by rw [e]; exact slc_eq h ha (by omega)
  simp only [F_be_Cut, hs]
  refine .bind (.all (there_t (by omega) (by omega) (by omega) hbl)) (.e rfl (.gd (by rw [e]; omega) (.gd ?_ (.ret' (by simp)))))
  simp [fits]; omega
theorem be_Cut_short {b : List Int} {at_ w : Int} (hbl : b.length ≤ 140737488351232) (h0 : 0 ≤ at_) (h3 : at_ ≤ (b.length : Int)) (h1 : 0 ≤ w) (h2 : (b.length : Int) < at_ + w) : Ev (fun n => F_be_Cut n b at_ w) ([], 3) := by
  simp only [F_be_Cut]
  exact .bind (.all (there_f h0 h1 h3 h2 hbl)) (.t rfl (.ret _))
theorem be_Put1 (v : Int) : Ev (fun n => F_be_Put n v 1) (put1 v) := by
  refine .from 3 fun n => ?_
  simp [F_be_Put, L_be_Put_0, gd, lj, fits, w64_def, IntKind.wrap_u8, put1, E_B]
theorem be_Put2 (v : Int) : Ev (fun n => F_be_Put n v 2) (put2 v) := by
  refine .from 4 fun n => ?_
  simp [F_be_Put, L_be_Put_0, gd, lj, fits, w64_def, IntKind.wrap_u8, put2, E_B, Int.fdiv_eq_ediv_of_nonneg]
end Go.Proofs.Ytgkekjfbacncoaa
set_option linter.unusedSimpArgs false
set_option linter.unusedVariables false
open Go Go.Ab
namespace Go.Proofs.Ytgkekjfbacncoaa
def Rel (b : List Int) (st : T_SLBiie) (s : Sx) : Prop :=
  st.f0 = b ∧ match s with
    | .ok r => st.f2 = 0 ∧ ∃ pre, b = pre ++ r ∧ st.f1 = (pre.length : Int)
    | .error e => st.f2 = e ∧ e ≠ 0
theorem Rel.bytes {b : List Int} (hb : Bytes b) {st : T_SLBiie} {r : List Int} (hr : Rel b st (.ok r)) : Bytes r := by
  obtain ⟨_, _, pre, h3, _⟩ := hr
  rw [h3] at hb; exact hb.right
theorem Rel.len {b : List Int} {st : T_SLBiie} {r : List Int} (hr : Rel b st (.ok r)) : r.length ≤ b.length := by
  obtain ⟨_, _, pre, h3, _⟩ := hr
  rw [h3]; simp
def Run {α : Type} (b : List Int) (F : Nat → Option (α × T_SLBiie)) (X : Except Int (α × List Int)) : Prop :=
  match X with
  | .ok (v, s) => ∃ st, Ev F (v, st) ∧ Rel b st (.ok s)
  | .error e => ∃ v st, Ev F (v, st) ∧ Rel b st (.error e)
theorem Run.ok {α : Type} {b : List Int} {F : Nat → Option (α × T_SLBiie)} {v : α} {s : List Int} {st : T_SLBiie} (h : Ev F (v, st)) (hr : Rel b st (.ok s)) : Run b F (.ok (v, s)) := ⟨st, h, hr⟩
theorem Run.er {α : Type} {b : List Int} {F : Nat → Option (α × T_SLBiie)} {v : α} {e : Int} {st : T_SLBiie} (h : Ev F (v, st)) (hr : Rel b st (.error e)) : Run b F (.error e : Except Int (α × List Int)) := ⟨v, st, h, hr⟩
def rU (w : Nat) (s : List Int) : Except Int (Int × List Int) := if s.length < w then .error 3 else .ok (beU (s.take w), s.drop w)
theorem rU_bd {w : Nat} {s s' : List Int} {v : Int} (hs : Bytes s) (h : rU w s = .ok (v, s')) : 0 ≤ v ∧ v < 256 ^ w ∧ Bytes s' ∧ s' = s.drop w ∧ w ≤ s.length := by
  unfold rU at h
  split at h
  · simp at h
  · rename_i hw
    injection h with h; injection h with h1 h2
    have := beU_bound (hs.take w)
    rw [List.length_take, Nat.min_eq_left (by omega)] at this
    subst h1; subst h2
    exact ⟨this.1, this.2, hs.drop w, rfl, by omega⟩
end Go.Proofs.Ytgkekjfbacncoaa
set_option linter.unusedSimpArgs false
set_option linter.unusedVariables false
open Go Go.Ab
namespace Go.Proofs.Ytgkekjfbacncoaa
/-! ### what is read -/
def endsE : Nat → List Int → Except Int (List Int × List Int)
  | 0, s => .ok ([], s)
  | n + 1, s => match rU 2 s with
    | .error e => .error e
    | .ok (v, s1) => match endsE n s1 with
      | .error e => .error e
      | .ok (l, s2) => .ok (v :: l, s2)
def codeE (s : List Int) : Except Int (List Int × List Int) := match rU 2 s with
  | .error e => .error e
  | .ok (k, s1) => if (s1.length : Int) < k then .error 3 else .ok (s1.take k.toNat, s1.drop k.toNat)
def againE (f : Int) (s : List Int) : Except Int (Int × List Int) := if f / 8 % 2 = 1 then rU 1 s else .ok (0, s)
def flagsE : Nat → Nat → List Int → Except Int (List Int × List Int)
  | _, 0, s => .ok ([], s)
  | 0, _ + 1, _ => .error 4
  | k + 1, m + 1, s => match rU 1 s with
    | .error e => .error e
    | .ok (f, s1) => match againE f s1 with
      | .error e => .error e
      | .ok (r, s2) => if (m : Int) < r then .error 4 else match flagsE k (m - r.toNat) s2 with
        | .error e => .error e
        | .ok (l, s3) => .ok (List.replicate (r.toNat + 1) f ++ l, s3)
def stepE (f sh_ sa v : Int) (s : List Int) : Except Int (Int × List Int) :=
  if f / sh_ % 2 = 1 then (match rU 1 s with
    | .error e => .error e
    | .ok (x, s1) => .ok (if f / sa % 2 = 1 then v + x else v - x, s1))
  else if f / sa % 2 = 1 then .ok (v, s)
  else (match rU 2 s with
    | .error e => .error e
    | .ok (x, s1) => .ok (v + (if x ≥ 32768 then x - 65536 else x), s1))
def stepsE (sh_ sa : Int) : List Int → Int → List Int → Except Int (List Int × List Int)
  | [], _, s => .ok ([], s)
  | f :: fs, v, s => match stepE f sh_ sa v s with
    | .error e => .error e
    | .ok (v1, s1) => if v1 < -32768 ∨ 32767 < v1 then .error 6 else match stepsE sh_ sa fs v1 s1 with
      | .error e => .error e
      | .ok (l, s2) => .ok (v1 :: l, s2)
def rising : List Int → Bool
  | [] => true
  | [_] => true
  | x :: y :: l => decide (x < y) && rising (y :: l)
def lastI : List Int → Int
  | [] => 0
  | [x] => x
  | _ :: y :: l => lastI (y :: l)
def zipK : List Int → List Int → List Int → List T_Siibe
  | x :: xs, y :: ys, f :: fs => ⟨x, y, decide (f % 2 = 1)⟩ :: zipK xs ys fs
  | _, _, _ => []
def cutK : List Int → Int → List T_Siibe → List (List T_Siibe)
  | [], _, _ => []
  | e :: es, i, ks => ks.take (e + 1 - i).toNat :: cutK es (e + 1) (ks.drop (e + 1 - i).toNat)
def noG : T_SLLSiibeLBe := ⟨[], []⟩
def simpleRead (b : List Int) : T_SLLSiibeLBe × Int :=
  if b = [] then (noG, 0) else if b.length < 10 then (noG, 3) else
  let n := beS (b.take 2)
  if n < 0 then (noG, 11) else if n = 0 then (noG, 0) else
  match endsE n.toNat (b.drop 10) with
  | .error e => (noG, e)
  | .ok (es, s1) => if rising es = false then (noG, 12) else if 4096 ≤ lastI es then (noG, 7) else
    match codeE s1 with
    | .error e => (noG, e)
    | .ok (code, s2) => match flagsE ((lastI es + 1).toNat + 1) (lastI es + 1).toNat s2 with
      | .error e => (noG, e)
      | .ok (fs, s3) => match stepsE 2 16 fs 0 s3 with
        | .error e => (noG, e)
        | .ok (xs, s4) => match stepsE 4 32 fs 0 s4 with
          | .error e => (noG, e)
          | .ok (ys, s5) => (⟨cutK es 0 (zipK xs ys fs), code⟩, 0)
/-! ### the program's reader -/
section
variable {b : List Int} (hb : Bytes b) (hbl : b.length ≤ 140737488351232)
include hb hbl
theorem su_run {w : Nat} (hw : 1 ≤ w ∧ w ≤ 4) {wi : Int} (hwi : wi = (w : Int)) {st : T_SLBiie} {s : List Int} (hr : Rel b st (.ok s)) : Run b (fun n => F_simple_reader_u n st wi) (rU w s) := by
  obtain ⟨h0, h2, pre, h3, h4⟩ := hr
  subst hwi
  have hlen : b.length = pre.length + s.length := by rw [h3]; simp
  unfold rU
  by_cases hs : s.length < w
  · simp only [hs, if_true]
    refine Run.er (v := 0) (st := ⟨st.f0, w64 (st.f1 + w), 3⟩) ?_ ⟨h0, rfl, by decide⟩
    simp only [F_simple_reader_u]
    refine .e (by simp [h2]) (.bind (v := (0, 3)) ?_ (.ret _))
    rw [h0, h4]
    exact be_U_short hbl (by omega) (by omega) (by omega) (by omega) (by omega)
  · simp only [hs, if_false]
    have hy : (s.take w).length = w := by rw [List.length_take]; omega
    refine Run.ok (st := ⟨st.f0, w64 (st.f1 + w), 0⟩) ?_ ⟨h0, rfl, pre ++ s.take w, ?_, ?_⟩
    · simp only [F_simple_reader_u]
      refine .e (by simp [h2]) (.bind (v := (beU (s.take w), 0)) ?_ (.ret _))
      rw [h0, h4]
      exact be_U_ok (x := pre) (y := s.take w) (z := s.drop w) hb hbl (by rw [List.take_append_drop]; exact h3) rfl (by rw [hy]) (by omega) (by omega)
    · rw [List.append_assoc, List.take_append_drop]; exact h3
    · simp only [List.length_append, hy, h4]
      rw [w64_of (by omega) (by omega)]; simp
omit hb hbl in
theorem su_err {wi e : Int} {st : T_SLBiie} (hr : Rel b st (.error e)) : Ev (fun n => F_simple_reader_u n st wi) (0, st) := by
  obtain ⟨h0, h1, h2⟩ := hr
  simp only [F_simple_reader_u]
  exact .t (by simp; rw [h1]; exact h2) (.ret _)
def RunJ {α R : Type} (b : List Int) (L : (Nat → List Int → Int → Int → α → Option R) → Nat → Option R) (X : Except Int (α × List Int)) : Prop :=
  ∃ v st, (match X with
    | .ok (v', s) => v = v' ∧ Rel b st (.ok s)
    | .error e => Rel b st (.error e)) ∧ ∀ J r, Ev (fun n => J n st.f0 st.f1 st.f2 v) r → Ev (fun n => L J n) r
def mapO {α β : Type} (f : α → β) : Except Int (α × List Int) → Except Int (β × List Int)
  | .ok (v, s) => .ok (f v, s)
  | .error e => .error e
omit hb hbl in
theorem mapO_ok {α β : Type} (f : α → β) (v : α) (s : List Int) : mapO f (.ok (v, s)) = .ok (f v, s) := rfl
/-! the ends -/
omit hb hbl in
theorem L_ends_err {a1 e : Int} (ha : a1 ≤ 40000) : ∀ (k : Nat) (st : T_SLBiie) (acc : List Int), Rel b st (.error e) → (acc.length : Int) + k = a1 →
    RunJ b (fun J n => L_simple_reader_ends_0 a1 (J n) n st.f0 st.f1 st.f2 acc (acc.length : Int)) (.error e)
  | 0, st, acc, hr, hk => ⟨acc, st, hr, fun J r hJ => .succ (by
      simp only [L_simple_reader_ends_0]
      exact .e (by simp; omega) hJ.shift)⟩
  | k + 1, st, acc, hr, hk => by
    obtain ⟨v, st', h1, h2⟩ := L_ends_err ha k st (acc ++ [0]) hr (by simp; omega)
    refine ⟨v, st', h1, fun J r hJ => .succ ?_⟩
    simp only [L_simple_reader_ends_0]
    refine .t (by simp; omega) (.bind (su_err hr) (.gd (fits_small (by simp; omega) (by decide)) ?_))
    have e1 : w64 ((acc.length : Int) + 1) = (((acc ++ [(0 : Int)]).length : Nat) : Int) := by rw [w64_of (by omega) (by omega)]; simp
    rw [e1]
    exact h2 (fun n => J (n + 1)) r hJ.shift
theorem L_ends {a1 : Int} (ha : a1 ≤ 40000) : ∀ (k : Nat) (st : T_SLBiie) (s acc : List Int), Rel b st (.ok s) → (acc.length : Int) + k = a1 →
    RunJ b (fun J n => L_simple_reader_ends_0 a1 (J n) n st.f0 st.f1 st.f2 acc (acc.length : Int)) (mapO (acc ++ ·) (endsE k s))
  | 0, st, s, acc, hr, hk => ⟨acc, st, ⟨by simp, hr⟩, fun J r hJ => .succ (by
      simp only [L_simple_reader_ends_0]
      exact .e (by simp; omega) hJ.shift)⟩
  | k + 1, st, s, acc, hr, hk => by
    have hu := su_run hb hbl (w := 2) (by omega) (wi := 2) rfl hr
    simp only [endsE]
    cases hx : rU 2 s with
    | error e =>
      rw [hx] at hu
      obtain ⟨v, st1, h1, r1⟩ := hu
      obtain ⟨v', st', h2, h3⟩ := L_ends_err ha k st1 (acc ++ [v]) r1 (by simp; omega)
      refine ⟨v', st', h2, fun J r hJ => .succ ?_⟩
      simp only [L_simple_reader_ends_0]
      refine .t (by simp; omega) (.bind h1 (.gd (fits_small (by simp; omega) (by decide)) ?_))
      have e1 : w64 ((acc.length : Int) + 1) = (((acc ++ [v]).length : Nat) : Int) := by rw [w64_of (by omega) (by omega)]; simp
      rw [e1]
      exact h3 (fun n => J (n + 1)) r hJ.shift
    | ok p =>
      obtain ⟨v, s1⟩ := p
      rw [hx] at hu
      obtain ⟨st1, h1, r1⟩ := hu
      obtain ⟨v', st', h2, h3⟩ := L_ends ha k st1 s1 (acc ++ [v]) r1 (by simp; omega)
      refine ⟨v', st', ?_, fun J r hJ => .succ ?_⟩
      · simp only
        cases hy : endsE k s1 with
        | error e => rw [hy] at h2; exact h2
        | ok q =>
          obtain ⟨l, s2⟩ := q
          rw [hy] at h2
          simpa [mapO] using h2
      · simp only [L_simple_reader_ends_0]
        refine .t (by simp; omega) (.bind h1 (.gd (fits_small (by simp; omega) (by decide)) ?_))
        have e1 : w64 ((acc.length : Int) + 1) = (((acc ++ [v]).length : Nat) : Int) := by rw [w64_of (by omega) (by omega)]; simp
        rw [e1]
        exact h3 (fun n => J (n + 1)) r hJ.shift
omit hb hbl in
theorem endsE_len : ∀ (k : Nat) (s l s' : List Int), endsE k s = .ok (l, s') → l.length = k
  | 0, s, l, s', h => by simp [endsE] at h; rw [h.1]; rfl
  | k + 1, s, l, s', h => by
    simp only [endsE] at h
    cases hx : rU 2 s with
    | error e => rw [hx] at h; simp at h
    | ok p =>
      obtain ⟨v, s1⟩ := p
      rw [hx] at h; simp only at h
      cases hy : endsE k s1 with
      | error e => rw [hy] at h; simp at h
      | ok q =>
        obtain ⟨l', s2⟩ := q
        rw [hy] at h
        simp only [Except.ok.injEq, Prod.mk.injEq] at h
        rw [← h.1, List.length_cons, endsE_len k s1 l' s2 hy]
omit hb hbl in
theorem endsE_bd : ∀ (k : Nat) (s l s' : List Int), Bytes s → endsE k s = .ok (l, s') → (∀ x ∈ l, 0 ≤ x ∧ x ≤ 65535) ∧ Bytes s'
  | 0, s, l, s', hs, h => by simp [endsE] at h; rw [h.1, ← h.2]; exact ⟨by simp, hs⟩
  | k + 1, s, l, s', hs, h => by
    simp only [endsE] at h
    cases hx : rU 2 s with
    | error e => rw [hx] at h; simp at h
    | ok p =>
      obtain ⟨v, s1⟩ := p
      have hv := rU_bd hs hx
      rw [hx] at h; simp only at h
      cases hy : endsE k s1 with
      | error e => rw [hy] at h; simp at h
      | ok q =>
        obtain ⟨l', s2⟩ := q
        rw [hy] at h
        simp only [Except.ok.injEq, Prod.mk.injEq] at h
        have := endsE_bd k s1 l' s2 hv.2.2.1 hy
        rw [← h.1, ← h.2]
        refine ⟨fun x hx' => ?_, this.2⟩
        rcases List.mem_cons.1 hx' with rfl | hx'
        · omega
        · exact this.1 x hx'
omit hb hbl in
theorem nth_last {l : List Int} (h : l ≠ []) : nth E_i l ((l.length : Int) - 1) = lastI l := by
  have : ∀ (l : List Int), l ≠ [] → l.getD (l.length - 1) 0 = lastI l := by
    intro l
    induction l with
    | nil => intro h; exact absurd rfl h
    | cons x t ih =>
      intro _
      cases t with
      | nil => rfl
      | cons y u =>
        have := ih (by simp)
        simp only [List.length_cons, lastI] at this ⊢
        rw [← this]; simp
  rw [← this l h]
  unfold nth
  have e : ((l.length : Int) - 1).toNat = l.length - 1 := by omega
  rw [e]; rfl
omit hb hbl in
theorem L_ends1 {x : List Int} (hx : x.length ≤ 40000) {R : R_simple_reader_ends → Prop} : ∀ (t p : List Int) (y : Int), x = p ++ t → ∃ y', (y' = 0 ↔ y = 0 ∧ rising (p.drop (p.length - 1) ++ t) = true) ∧ (y = 0 ∨ y = 12 → y' = 0 ∨ y' = 12) ∧
    ∀ (J : Nat → Int → Option R_simple_reader_ends) r, Ev (fun n => J n y') r → Ev (fun n => L_simple_reader_ends_1 x (J n) n y (p.length : Int)) r
  | [], p, y, h => by
    refine ⟨y, ?_, fun h => h, fun J r hJ => .succ ?_⟩
    · have : rising (p.drop (p.length - 1)) = true := by
        have hl : (p.drop (p.length - 1)).length ≤ 1 := by rw [List.length_drop]; omega
        match hp : p.drop (p.length - 1), hl with
        | [], _ => rfl
        | [a], _ => rfl
        | _ :: _ :: _, hl => simp at hl
      simp [this]
    · simp only [L_simple_reader_ends_1]
      exact .e (by rw [h]; simp) hJ.shift
  | c :: t, p, y, h => by
    have hlen : x.length = p.length + (t.length + 1) := by rw [h]; simp
    have e1 : w64 ((p.length : Int) + 1) = (((p ++ [c]).length : Nat) : Int) := by rw [w64_of (by omega) (by omega)]; simp
    have e2 : nth E_i x (p.length : Int) = c := nth_app' h rfl
    have hdr : (p ++ [c]).drop ((p ++ [c]).length - 1) = [c] := by simp
    cases hp : p.reverse with
    | nil =>
      have hp' : p = [] := by simpa using hp
      subst hp'
      obtain ⟨y', k1, k2, k3⟩ := L_ends1 hx (R := R) t [c] y (by rw [h]; simp)
      refine ⟨y', by simpa using k1, k2, fun J r hJ => .succ ?_⟩
      simp only [L_simple_reader_ends_1]
      refine .t (by simp; omega) (.gd (by simp; omega) (.lj (.e (by simp) ?_)))
      rw [e1]
      exact k3 (fun n => J (n + 1)) r hJ.shift
    | cons d q =>
      have hp' : p = q.reverse ++ [d] := by
        have := congrArg List.reverse hp
        simpa using this
      have hpl : p.length = q.length + 1 := by rw [hp']; simp
      have e3 : nth E_i x (w64 ((p.length : Int) - 1)) = d := by
        rw [w64_of (by omega) (by omega)]
        exact nth_app' (p := q.reverse) (t := c :: t) (by rw [h, hp']; simp) (by rw [hp']; simp)
      obtain ⟨y', k1, k2, k3⟩ := L_ends1 hx (R := R) t (p ++ [c]) (if decide (c ≤ d) then 12 else y) (by rw [h]; simp)
      refine ⟨y', ?_, fun hy => k2 (by split <;> omega), fun J r hJ => .succ ?_⟩
      · rw [k1, hdr]
        have hd : p.drop (p.length - 1) = [d] := by rw [hp']; simp
        rw [hd]
        simp only [List.singleton_append, rising]
        by_cases hcd : c ≤ d
        · simp [hcd]; intro _ h; omega
        · have : d < c := by omega
          simp [hcd, this]
      · simp only [L_simple_reader_ends_1]
        refine .t (by simp; omega) (.gd (by omega) (.lj (.t (by simp; omega) (.gd (by rw [w64_of (by omega) (by omega)]; omega) ?_))))
        rw [e1, e2, e3]
        exact k3 (fun n => J (n + 1)) r hJ.shift
def endsX (k : Nat) (s : List Int) : Except Int (List Int × List Int) := match endsE k s with
  | .error e => .error e
  | .ok (es, s1) => if rising es = false then .error 12 else if 4096 ≤ lastI es then .error 7 else .ok (es, s1)
theorem ends_run {k : Nat} (hk0 : 0 < k) (hk : k ≤ 40000) {st : T_SLBiie} {s : List Int} (hr : Rel b st (.ok s)) : Run b (fun n => F_simple_reader_ends n st (k : Int)) (endsX k s) := by
  obtain ⟨v, st', h1, h2⟩ := L_ends hb hbl (a1 := (k : Int)) (by omega) k st s [] hr (by simp)
  unfold endsX
  cases hx : endsE k s with
  | error e =>
    rw [hx] at h1
    refine Run.er (v := []) (st := st') ?_ h1
    simp only [F_simple_reader_ends]
    refine .lj (h2 (fun n x10 x11 x12 x13 => _) _ ?_)
    obtain ⟨_, g2, g3⟩ := h1
    exact .t (by simp [g2, g3]) (.ret _)
  | ok p =>
    obtain ⟨es, s1⟩ := p
    rw [hx] at h1
    obtain ⟨h0, h1⟩ := h1
    have hv : v = es := by simpa using h0
    subst hv
    have hlen := endsE_len k s v s1 hx
    have hne : v ≠ [] := by intro e; subst e; simp at hlen; omega
    obtain ⟨y', k1, k2, k3⟩ := L_ends1 (x := v) (by omega) (R := fun _ => True) v [] st'.f2 rfl
    obtain ⟨g1, g2, g3⟩ := h1
    have k2' := k2 (.inl g2)
    simp only [List.length_nil, List.drop_nil, List.nil_append, g2, true_and] at k1
    have hlast : nth E_i v (w64 ((k : Int) - 1)) = lastI v := by
      rw [w64_of (by omega) (by omega), ← hlen]; exact nth_last hne
    have core : ∀ res, Ev (fun n => (lj (fun (x28 : Bool) => some (v, (⟨st'.f0, st'.f1, (if x28 then 7 else y')⟩ : T_SLBiie))) fun j29 =>
        if (decide (y' = 0)) then gd (0 ≤ (w64 ((k : Int) - 1)) ∧ (w64 ((k : Int) - 1)) < v.length) (j29 (decide (4096 ≤ (nth E_i v (w64 ((k : Int) - 1)))))) else j29 false : Option R_simple_reader_ends)) res → Ev (fun n => F_simple_reader_ends n st (k : Int)) res := by
      intro res hres
      simp only [F_simple_reader_ends]
      refine .lj (h2 (fun n x10 x11 x12 x13 => _) _ ?_)
      refine .e (by simp [g2]) (.lj ?_)
      exact k3 (fun n x25 => _) _ hres
    simp only
    by_cases hris : rising v = false
    · simp only [hris, if_true]
      have hy : y' = 12 := by
        rcases k2' with h | h
        · rw [k1, hris] at h; simp at h
        · exact h
      refine Run.er (v := v) (st := ⟨st'.f0, st'.f1, 12⟩) (core _ ?_) ⟨g1, rfl, by decide⟩
      rw [hy]
      exact .lj (.e rfl (.ret _))
    · simp only [hris, if_false]
      have hy : y' = 0 := k1.2 (by simpa using hris)
      rw [hy] at core
      rw [hlast] at core
      by_cases h4 : 4096 ≤ lastI v
      · simp only [h4, if_true]
        refine Run.er (v := v) (st := ⟨st'.f0, st'.f1, 7⟩) (core _ ?_) ⟨g1, rfl, by decide⟩
        refine .lj (.t rfl (.gd (by rw [w64_of (by omega) (by omega)]; omega) ?_))
        rw [decide_eq_true h4]; exact .ret _
      · simp only [h4, if_false]
        refine Run.ok (st := ⟨st'.f0, st'.f1, 0⟩) (core _ ?_) ⟨g1, rfl, g3⟩
        refine .lj (.t rfl (.gd (by rw [w64_of (by omega) (by omega)]; omega) ?_))
        rw [decide_eq_false h4]; exact .ret _
/-! the code -/
theorem code_run {st : T_SLBiie} {s : List Int} (hr : Rel b st (.ok s)) : Run b (fun n => F_simple_reader_code n st) (codeE s) := by
  have hu := su_run hb hbl (w := 2) (by omega) (wi := 2) rfl hr
  have hs := Rel.bytes hb hr
  unfold codeE
  cases hx : rU 2 s with
  | error e =>
    rw [hx] at hu
    obtain ⟨v, st1, h1, r1⟩ := hu
    refine Run.er (v := []) (st := st1) ?_ r1
    simp only [F_simple_reader_code]
    exact .bind h1 (.t (by simp [r1.2.1, r1.2.2]) (.ret _))
  | ok p =>
    obtain ⟨k, s1⟩ := p
    rw [hx] at hu
    obtain ⟨st1, h1, g1, g2, pre, g3, g4⟩ := hu
    have hbd := rU_bd hs hx
    have hlen : b.length = pre.length + s1.length := by rw [g3]; simp
    simp only
    by_cases hk : (s1.length : Int) < k
    · simp only [hk, if_true]
      refine Run.er (v := []) (st := ⟨st1.f0, w64 (st1.f1 + k), 3⟩) ?_ ⟨g1, rfl, by decide⟩
      simp only [F_simple_reader_code]
      refine .bind h1 (.e (by simp [g2]) (.bind (v := ([], 3)) ?_ (.ret _)))
      simp only [g1]
      exact be_Cut_short hbl (by omega) (by omega) hbd.1 (by omega)
    · simp only [hk, if_false]
      refine Run.ok (st := ⟨st1.f0, w64 (st1.f1 + k), 0⟩) ?_ ⟨g1, rfl, pre ++ s1.take k.toNat, ?_, ?_⟩
      · simp only [F_simple_reader_code]
        refine .bind h1 (.e (by simp [g2]) (.bind (v := (s1.take k.toNat, 0)) ?_ (.ret _)))
        simp only [g1]
        exact be_Cut_ok (x := pre) (z := s1.drop k.toNat) hbl (by rw [List.take_append_drop]; exact g3) g4 (by rw [List.length_take]; omega)
      · rw [List.append_assoc, List.take_append_drop]; exact g3
      · simp only [List.length_append, List.length_take, g4]
        rw [w64_of (by omega) (by omega)]; omega
omit hb hbl in
theorem code_err {e : Int} {st : T_SLBiie} (hr : Rel b st (.error e)) : Ev (fun n => F_simple_reader_code n st) ([], st) := by
  simp only [F_simple_reader_code]
  exact .bind (su_err hr) (.t (by simp [hr.2.1, hr.2.2]) (.ret _))
end
end Go.Proofs.Ytgkekjfbacncoaa
set_option linter.unusedSimpArgs false
set_option linter.unusedVariables false
open Go Go.Ab
namespace Go.Proofs.Ytgkekjfbacncoaa
theorem u8_bit8 : ∀ f : Fin 256, decide (bits .and .u8 (f.val : Int) 8 = 0) = decide ((f.val : Int) / 8 % 2 = 0) := by decide +kernel
theorem u8_bit1 : ∀ f : Fin 256, (!decide (bits .and .u8 (f.val : Int) 1 = 0)) = decide ((f.val : Int) % 2 = 1) := by decide +kernel
theorem u8_x : ∀ f : Fin 256, (decide (bits .and .u8 (f.val : Int) (bits .or .u8 2 16) = bits .or .u8 2 16) = (decide ((f.val : Int) / 2 % 2 = 1) && decide ((f.val : Int) / 16 % 2 = 1))) ∧
    (decide (bits .and .u8 (f.val : Int) (bits .or .u8 2 16) = 2) = (decide ((f.val : Int) / 2 % 2 = 1) && decide ((f.val : Int) / 16 % 2 = 0))) ∧
    (decide (bits .and .u8 (f.val : Int) (bits .or .u8 2 16) = 0) = (decide ((f.val : Int) / 2 % 2 = 0) && decide ((f.val : Int) / 16 % 2 = 0))) := by decide +kernel
theorem u8_y : ∀ f : Fin 256, (decide (bits .and .u8 (f.val : Int) (bits .or .u8 4 32) = bits .or .u8 4 32) = (decide ((f.val : Int) / 4 % 2 = 1) && decide ((f.val : Int) / 32 % 2 = 1))) ∧
    (decide (bits .and .u8 (f.val : Int) (bits .or .u8 4 32) = 4) = (decide ((f.val : Int) / 4 % 2 = 1) && decide ((f.val : Int) / 32 % 2 = 0))) ∧
    (decide (bits .and .u8 (f.val : Int) (bits .or .u8 4 32) = 0) = (decide ((f.val : Int) / 4 % 2 = 0) && decide ((f.val : Int) / 32 % 2 = 0))) := by decide +kernel
theorem fin_of {f : Int} (h0 : 0 ≤ f) (h1 : f < 256) : ∃ g : Fin 256, (g.val : Int) = f := ⟨⟨f.toNat, by omega⟩, by simp; omega⟩
theorem wrap8 {f : Int} (h0 : 0 ≤ f) (h1 : f < 256) : IntKind.wrap .u8 f = f := by rw [IntKind.wrap_u8]; omega
theorem flagsE_spec : ∀ (k m : Nat) (s l s' : List Int), Bytes s → flagsE k m s = .ok (l, s') → l.length = m ∧ (∀ x ∈ l, 0 ≤ x ∧ x < 256) ∧ Bytes s'
  | _, 0, s, l, s', hs, h => by simp [flagsE] at h; rw [h.1, ← h.2]; exact ⟨rfl, by simp, hs⟩
  | 0, m + 1, s, l, s', hs, h => by simp [flagsE] at h
  | k + 1, m + 1, s, l, s', hs, h => by
    simp only [flagsE] at h
    cases hx : rU 1 s with
    | error e => rw [hx] at h; simp at h
    | ok p =>
      obtain ⟨f, s1⟩ := p
      have hf := rU_bd hs hx
      rw [hx] at h; simp only at h
      cases hy : againE f s1 with
      | error e => rw [hy] at h; simp at h
      | ok q =>
        obtain ⟨r, s2⟩ := q
        rw [hy] at h; simp only at h
        have hr : 0 ≤ r ∧ Bytes s2 := by
          unfold againE at hy
          split at hy
          · have := rU_bd hf.2.2.1 hy; exact ⟨this.1, this.2.2.1⟩
          · simp only [Except.ok.injEq, Prod.mk.injEq] at hy
            rw [← hy.1, ← hy.2]; exact ⟨Int.le_refl _, hf.2.2.1⟩
        split at h
        · simp at h
        · rename_i hm
          cases hz : flagsE k (m - r.toNat) s2 with
          | error e => rw [hz] at h; simp at h
          | ok u =>
            obtain ⟨l', s3⟩ := u
            rw [hz] at h
            simp only [Except.ok.injEq, Prod.mk.injEq] at h
            have ih := flagsE_spec k _ s2 l' s3 hr.2 hz
            rw [← h.1, ← h.2]
            refine ⟨by simp [ih.1]; omega, fun x hx' => ?_, ih.2.2⟩
            rcases List.mem_append.1 hx' with hx' | hx'
            · rw [List.mem_replicate] at hx'; rw [hx'.2]; omega
            · exact ih.2.1 x hx'
theorem stepE_spec {f a c v v' : Int} {s s' : List Int} (hs : Bytes s) (hv : -32768 ≤ v ∧ v ≤ 32767) (h : stepE f a c v s = .ok (v', s')) : -100000 ≤ v' ∧ v' ≤ 100000 ∧ Bytes s' := by
  unfold stepE at h
  split at h
  · cases hx : rU 1 s with
    | error e => rw [hx] at h; simp at h
    | ok p =>
      obtain ⟨x, s1⟩ := p
      have hf := rU_bd hs hx
      rw [hx] at h
      simp only [Except.ok.injEq, Prod.mk.injEq] at h
      rw [← h.2]
      refine ⟨?_, ?_, hf.2.2.1⟩ <;> rw [← h.1] <;> split <;> omega
  · split at h
    · simp only [Except.ok.injEq, Prod.mk.injEq] at h
      rw [← h.1, ← h.2]; exact ⟨by omega, by omega, hs⟩
    · cases hx : rU 2 s with
      | error e => rw [hx] at h; simp at h
      | ok p =>
        obtain ⟨x, s1⟩ := p
        have hf := rU_bd hs hx
        rw [hx] at h
        simp only [Except.ok.injEq, Prod.mk.injEq] at h
        rw [← h.2]
        refine ⟨?_, ?_, hf.2.2.1⟩ <;> rw [← h.1] <;> split <;> omega
theorem stepsE_spec {a c : Int} : ∀ (fs : List Int) (v : Int) (s l s' : List Int), Bytes s → (-32768 ≤ v ∧ v ≤ 32767) → stepsE a c fs v s = .ok (l, s') → l.length = fs.length ∧ (∀ x ∈ l, -32768 ≤ x ∧ x ≤ 32767) ∧ Bytes s'
  | [], v, s, l, s', hs, hv, h => by simp [stepsE] at h; rw [h.1, ← h.2]; exact ⟨rfl, by simp, hs⟩
  | f :: fs, v, s, l, s', hs, hv, h => by
    simp only [stepsE] at h
    cases hx : stepE f a c v s with
    | error e => rw [hx] at h; simp at h
    | ok p =>
      obtain ⟨v1, s1⟩ := p
      have h1 := stepE_spec hs hv hx
      rw [hx] at h; simp only at h
      split at h
      · simp at h
      · rename_i hr
        cases hy : stepsE a c fs v1 s1 with
        | error e => rw [hy] at h; simp at h
        | ok q =>
          obtain ⟨l', s2⟩ := q
          rw [hy] at h
          simp only [Except.ok.injEq, Prod.mk.injEq] at h
          have ih := stepsE_spec fs v1 s1 l' s2 h1.2.2 (by omega) hy
          rw [← h.1, ← h.2]
          refine ⟨by simp [ih.1], fun x hx' => ?_, ih.2.2⟩
          rcases List.mem_cons.1 hx' with rfl | hx'
          · omega
          · exact ih.2.1 x hx'
theorem flagsE_zero (k : Nat) (s : List Int) : flagsE k 0 s = .ok ([], s) := by cases k <;> rfl
section
variable {b : List Int} (hb : Bytes b) (hbl : b.length ≤ 140737488351232)
include hb hbl
theorem L_flags {a1 : Int} (ha : a1 ≤ 5000) : ∀ (m k r : Nat) (st : T_SLBiie) (s acc : List Int) (f : Int), Rel b st (.ok s) → (acc.length : Int) + m = a1 → 1 ≤ m → r ≤ m → m - r ≤ k →
    Run b (fun n => L_simple_reader_flags_0 a1 n st.f0 st.f1 st.f2 acc f (r : Int)) (mapO (fun l => acc ++ (List.replicate r f ++ l)) (flagsE k (m - r) s))
  | m + 1, k, r + 1, st, s, acc, f, hr, hl, _, hrm, hk => by
    have e1 : w64 (((r + 1 : Nat) : Int) - 1) = (r : Int) := by rw [w64_of (by omega) (by omega)]; omega
    have em : m + 1 - (r + 1) = m - r := by omega
    rw [em]
    by_cases hm : m = 0
    · subst hm
      have : r = 0 := by omega
      subst this
      rw [show flagsE k (0 - 0) s = .ok ([], s) from flagsE_zero k s]
      refine Run.ok (st := st) (.succ ?_) hr
      simp only [L_simple_reader_flags_0]
      refine .lj (.t (by simp) (.e (by simp [hr.2.1]) (.gd (fits_small (by simp; omega) (by decide)) (.e (by simp; omega) (.ret' ?_)))))
      simp
    · have ih := L_flags ha m k r st s (acc ++ [f]) f hr (by simp; omega) (by omega) (by omega) (by omega)
      have step : ∀ v st', Ev (fun n => L_simple_reader_flags_0 a1 n st.f0 st.f1 st.f2 (acc ++ [f]) f (r : Int)) (v, st') → Ev (fun n => L_simple_reader_flags_0 a1 n st.f0 st.f1 st.f2 acc f ((r + 1 : Nat) : Int)) (v, st') := by
        intro v st' h
        refine .succ ?_
        simp only [L_simple_reader_flags_0]
        refine .lj (.t (by simp) (.e (by simp [hr.2.1]) (.gd (fits_small (by simp; omega) (by decide)) (.t (by simp; omega) ?_))))
        rw [e1]; exact h
      cases hx : flagsE k (m - r) s with
      | error e =>
        rw [hx] at ih
        obtain ⟨v, st', h1, h2⟩ := ih
        exact Run.er (step _ _ h1) h2
      | ok p =>
        obtain ⟨l, s'⟩ := p
        rw [hx] at ih
        obtain ⟨st', h1, h2⟩ := ih
        refine Run.ok (st := st') (step _ _ ?_) h2
        simpa [List.replicate_succ] using h1
  | m + 1, k, 0, st, s, acc, f, hr, hl, _, _, hk => by
    obtain ⟨k, rfl⟩ : ∃ k', k = k' + 1 := ⟨k - 1, by omega⟩
    have hs := Rel.bytes hb hr
    have hu := su_run hb hbl (w := 1) (by omega) (wi := 1) rfl hr
    show Run b _ (mapO (fun l => acc ++ ([] ++ l)) (flagsE (k + 1) (m + 1) s))
    simp only [flagsE, List.nil_append]
    cases hx : rU 1 s with
    | error e =>
      rw [hx] at hu
      obtain ⟨v, st1, h1, r1⟩ := hu
      have hz : v = 0 ∨ v ≠ 0 := by omega
      -- what was read on an error does not matter: the error stands
      by_cases h8 : decide (bits .and .u8 (IntKind.wrap .u8 v) 8 = 0) = true
      · refine Run.er (v := []) (st := st1) (.succ ?_) r1
        simp only [L_simple_reader_flags_0]
        refine .lj (.e (by simp) (.bind h1 (.lj (.e (by rw [h8]; rfl) (.e (by simp [r1.2.1, r1.2.2]) (.t (by simp [r1.2.1, r1.2.2]) (.ret _)))))))
      · refine Run.er (v := []) (st := st1) (.succ ?_) r1
        simp only [L_simple_reader_flags_0]
        have h8' : decide (bits .and .u8 (IntKind.wrap .u8 v) 8 = 0) = false := by simpa using h8
        refine .lj (.e (by simp) (.bind h1 (.lj (.t (by rw [h8']; rfl) (.bind (su_err r1) (.e (by simp [r1.2.1, r1.2.2]) (.t (by simp [r1.2.1, r1.2.2]) (.ret _))))))))
    | ok p =>
      obtain ⟨g, s1⟩ := p
      have hg := rU_bd hs hx
      rw [hx] at hu
      obtain ⟨st1, h1, r1⟩ := hu
      simp only
      have hg8 : IntKind.wrap .u8 g = g := wrap8 hg.1 (by omega)
      obtain ⟨gf, hgf⟩ := fin_of hg.1 (by omega)
      have h8 := u8_bit8 gf
      rw [hgf] at h8
      -- what comes behind a run that was told
      have fin : ∀ (x : Int) (s2 : List Int) (st2 : T_SLBiie), Rel b st2 (.ok s2) → 0 ≤ x → ∀ (G : Nat → Option R_simple_reader_flags), (∀ res, Ev (fun n => (if ((decide (st2.f2 = 0)) && (decide ((w64 (a1 - (acc.length : Int))) ≤ x))) then
              (if (!decide ((4 : Int) = 0)) then some (([] : List Int), (⟨st2.f0, st2.f1, 4⟩ : T_SLBiie)) else gd (fits (acc.length + ([g] : List Int).length) 1 = true) <| if (decide (((acc ++ ([g] : List Int)).length : Int) < a1)) then L_simple_reader_flags_0 a1 n st2.f0 st2.f1 4 (acc ++ ([g] : List Int)) g x else some ((acc ++ ([g] : List Int)), (⟨st2.f0, st2.f1, 4⟩ : T_SLBiie)))
            else (if (!decide (st2.f2 = 0)) then some (([] : List Int), (⟨st2.f0, st2.f1, st2.f2⟩ : T_SLBiie)) else gd (fits (acc.length + ([g] : List Int).length) 1 = true) <| if (decide (((acc ++ ([g] : List Int)).length : Int) < a1)) then L_simple_reader_flags_0 a1 n st2.f0 st2.f1 st2.f2 (acc ++ ([g] : List Int)) g x else some ((acc ++ ([g] : List Int)), (⟨st2.f0, st2.f1, st2.f2⟩ : T_SLBiie))) : Option R_simple_reader_flags)) res → Ev G res) →
          Run b G (mapO (fun l => acc ++ l) (if (m : Int) < x then .error 4 else match flagsE k (m - x.toNat) s2 with | .error e => .error e | .ok (l, s3) => .ok (List.replicate (x.toNat + 1) g ++ l, s3))) := by
        intro x s2 st2 r2 hx0 G hG
        have ew : w64 (a1 - (acc.length : Int)) = (m : Int) + 1 := by rw [w64_of (by omega) (by omega)]; omega
        by_cases hmx : (m : Int) < x
        · simp only [hmx, if_true, mapO]
          refine Run.er (v := []) (st := ⟨st2.f0, st2.f1, 4⟩) (hG _ ?_) ⟨r2.1, rfl, by decide⟩
          exact .t (by rw [ew]; simp [r2.2.1]; omega) (.t (by decide) (.ret _))
        · simp only [hmx, if_false]
          have nx : (decide (st2.f2 = 0) && decide (w64 (a1 - (acc.length : Int)) ≤ x)) = false := by rw [ew]; simp [r2.2.1]; omega
          by_cases hm : m = 0
          · subst hm
            have : x.toNat = 0 := by omega
            rw [this, show flagsE k (0 - 0) s2 = .ok ([], s2) from flagsE_zero k s2]
            simp only [mapO]
            refine Run.ok (st := st2) (hG _ ?_) r2
            refine .e nx (.e (by simp [r2.2.1]) (.gd (fits_small (by simp; omega) (by decide)) (.e (by simp; omega) (.ret' ?_))))
            simp
          · have ih := L_flags ha m k x.toNat st2 s2 (acc ++ [g]) g r2 (by simp; omega) (by omega) (by omega) (by omega)
            have hxx : ((x.toNat : Nat) : Int) = x := by omega
            rw [hxx] at ih
            have step : ∀ v st', Ev (fun n => L_simple_reader_flags_0 a1 n st2.f0 st2.f1 st2.f2 (acc ++ [g]) g x) (v, st') → Ev G (v, st') := by
              intro v st' h
              refine hG _ ?_
              exact .e nx (.e (by simp [r2.2.1]) (.gd (fits_small (by simp; omega) (by decide)) (.t (by simp; omega) h)))
            cases hf : flagsE k (m - x.toNat) s2 with
            | error e =>
              rw [hf] at ih
              obtain ⟨v, st', g1, g2⟩ := ih
              exact Run.er (step _ _ g1) g2
            | ok p =>
              obtain ⟨l, s'⟩ := p
              rw [hf] at ih
              obtain ⟨st', g1, g2⟩ := ih
              refine Run.ok (st := st') (step _ _ ?_) g2
              simpa [List.replicate_succ] using g1
      by_cases c8 : g / 8 % 2 = 1
      · have n8 : (!decide (bits .and .u8 g 8 = 0)) = true := by rw [h8]; simp; omega
        unfold againE
        simp only [c8, if_true]
        have hu2 := su_run hb hbl (w := 1) (by omega) (wi := 1) rfl r1
        cases hy : rU 1 s1 with
        | error e =>
          rw [hy] at hu2
          obtain ⟨v2, st2, h2, r2⟩ := hu2
          refine Run.er (v := []) (st := st2) (.succ ?_) r2
          simp only [L_simple_reader_flags_0]
          refine .lj (.e (by simp) (.bind h1 (.lj (.t (by rw [hg8]; exact n8) (.bind h2 (.e (by simp [r2.2.1, r2.2.2]) (.t (by simp [r2.2.1, r2.2.2]) (.ret _))))))))
        | ok q =>
          obtain ⟨x, s2⟩ := q
          have hxb := rU_bd hg.2.2.1 hy
          rw [hy] at hu2
          obtain ⟨st2, h2, r2⟩ := hu2
          refine fin x s2 st2 r2 hxb.1 _ fun res hres => .succ ?_
          simp only [L_simple_reader_flags_0]
          refine .lj (.e (by simp) (.bind h1 (.lj (.t (by rw [hg8]; exact n8) (.bind h2 ?_)))))
          rw [hg8]; exact hres
      · have n8 : (!decide (bits .and .u8 g 8 = 0)) = false := by rw [h8]; simp; omega
        unfold againE
        simp only [c8, if_false]
        refine fin 0 s1 st1 r1 (by omega) _ fun res hres => .succ ?_
        simp only [L_simple_reader_flags_0]
        refine .lj (.e (by simp) (.bind h1 (.lj (.e (by rw [hg8]; exact n8) ?_))))
        rw [hg8]; exact hres
theorem flags_run {m : Nat} (hm : 1 ≤ m) (hm2 : m ≤ 4096) {st : T_SLBiie} {s : List Int} (hr : Rel b st (.ok s)) : Run b (fun n => F_simple_reader_flags n st (m : Int)) (flagsE (m + 1) m s) := by
  have h := L_flags hb hbl (a1 := (m : Int)) (by omega) m (m + 1) 0 st s [] 0 hr (by simp) hm (by omega) (by omega)
  have eq : ∀ n, F_simple_reader_flags n st (m : Int) = L_simple_reader_flags_0 (m : Int) (n + 1) st.f0 st.f1 st.f2 [] 0 ((0 : Nat) : Int) := fun n => rfl
  have : mapO (fun l => ([] : List Int) ++ (List.replicate 0 (0 : Int) ++ l)) (flagsE (m + 1) (m - 0) s) = flagsE (m + 1) m s := by
    rw [Nat.sub_zero]
    cases flagsE (m + 1) m s with
    | error e => rfl
    | ok p => obtain ⟨l, s'⟩ := p; rfl
  rw [this] at h
  cases hx : flagsE (m + 1) m s with
  | error e =>
    rw [hx] at h
    obtain ⟨v, st', h1, h2⟩ := h
    exact Run.er (.eq eq h1.shift) h2
  | ok p =>
    obtain ⟨l, s'⟩ := p
    rw [hx] at h
    obtain ⟨st', h1, h2⟩ := h
    exact Run.ok (.eq eq h1.shift) h2
omit hb hbl in
theorem flags_err {m e : Int} {st : T_SLBiie} (hr : Rel b st (.error e)) : Ev (fun n => F_simple_reader_flags n st m) ([], st) := by
  simp only [F_simple_reader_flags]
  refine .lj (.e rfl (.bind (su_err hr) (.lj (.e (show (!decide (bits .and .u8 (IntKind.wrap .u8 0) 8 = 0)) = false by decide) (.e (by simp [hr.2.1, hr.2.2]) (.t (by simp [hr.2.1, hr.2.2]) (.ret _)))))))
end
end Go.Proofs.Ytgkekjfbacncoaa
set_option linter.unusedSimpArgs false
set_option linter.unusedVariables false
open Go Go.Ab
namespace Go.Proofs.Ytgkekjfbacncoaa
def Bits (a2 a3 : Int) : Prop := ∀ f : Fin 256, (decide (bits .and .u8 (f.val : Int) (bits .or .u8 a2 a3) = bits .or .u8 a2 a3) = (decide ((f.val : Int) / a2 % 2 = 1) && decide ((f.val : Int) / a3 % 2 = 1))) ∧
    (decide (bits .and .u8 (f.val : Int) (bits .or .u8 a2 a3) = a2) = (decide ((f.val : Int) / a2 % 2 = 1) && decide ((f.val : Int) / a3 % 2 = 0))) ∧
    (decide (bits .and .u8 (f.val : Int) (bits .or .u8 a2 a3) = 0) = (decide ((f.val : Int) / a2 % 2 = 0) && decide ((f.val : Int) / a3 % 2 = 0)))
theorem bits_x : Bits 2 16 := u8_x
theorem bits_y : Bits 4 32 := u8_y
theorem m2 (x : Int) (h : ¬ x % 2 = 1) : x % 2 = 0 := by omega
theorem m2' (x : Int) (h : x % 2 = 1) : ¬ x % 2 = 0 := by omega
def stepJ (a1 : List Int) (a2 a3 : Int) (y5 : List Int) (y7 : Int) (n : Nat) (x16 : List Int) (x17 x18 x19 : Int) : Option R_simple_reader_steps :=
        if (!decide ((if ((decide (x18 = 0)) && (!decide (x19 = (w64 ((IntKind.wrap .i16 (x19))))))) then 6 else x18) = 0)) then
          some (([] : List Int), (⟨x16, x17, (if ((decide (x18 = 0)) && (!decide (x19 = (w64 ((IntKind.wrap .i16 (x19))))))) then 6 else x18)⟩ : T_SLBiie))
        else
        gd (fits (y5.length + ([x19] : List Int).length) 8 = true) <|
        L_simple_reader_steps_0 a1 a2 a3 (fun x25 x26 x27 x28 => some (x28, (⟨x25, x26, x27⟩ : T_SLBiie))) n x16 x17 (if ((decide (x18 = 0)) && (!decide (x19 = (w64 ((IntKind.wrap .i16 (x19))))))) then 6 else x18) (y5 ++ ([x19] : List Int)) x19 (w64 (y7 + 1))
theorem sticky {x : Int} {c : Bool} (h : x ≠ 0) : (if ((decide (x = 0)) && c) then 6 else x) = x := by simp [h]
section
variable {b : List Int} (hb : Bytes b) (hbl : b.length ≤ 140737488351232)
include hb hbl
theorem step_run {R : Type} {a2 a3 g v : Int} (hB : Bits a2 a3) (hg : 0 ≤ g ∧ g < 256) (hv : -32768 ≤ v ∧ v ≤ 32767) {st : T_SLBiie} {s : List Int} (hr : Rel b st (.ok s)) :
    RunJ (R := R) b (fun J n =>
      if (decide ((bits .and .u8 g (bits .or .u8 a2 a3)) = (bits .or .u8 a2 a3))) then
        Option.bind (F_simple_reader_u n (⟨st.f0, st.f1, st.f2⟩ : T_SLBiie) 1) fun v11 =>
        J n v11.2.f0 v11.2.f1 v11.2.f2 (w64 (v + v11.1))
      else
      if (decide ((bits .and .u8 g (bits .or .u8 a2 a3)) = a2)) then
        Option.bind (F_simple_reader_u n (⟨st.f0, st.f1, st.f2⟩ : T_SLBiie) 1) fun v13 =>
        J n v13.2.f0 v13.2.f1 v13.2.f2 (w64 (v - v13.1))
      else
      if (decide ((bits .and .u8 g (bits .or .u8 a2 a3)) = 0)) then
        Option.bind (F_simple_reader_u n (⟨st.f0, st.f1, st.f2⟩ : T_SLBiie) 2) fun v15 =>
        J n v15.2.f0 v15.2.f1 v15.2.f2 (w64 (v + (w64 ((IntKind.wrap .i16 (v15.1))))))
      else
      J n st.f0 st.f1 st.f2 v) (stepE g a2 a3 v s) := by
  obtain ⟨gf, hgf⟩ := fin_of hg.1 hg.2
  obtain ⟨q1, q2, q3⟩ := hB gf
  rw [hgf] at q1 q2 q3
  have hs := Rel.bytes hb hr
  unfold stepE
  by_cases c1 : g / a2 % 2 = 1
  · have c1' := m2' _ c1
    simp only [c1, if_true]
    have hu := su_run hb hbl (w := 1) (by omega) (wi := 1) rfl hr
    by_cases c2 : g / a3 % 2 = 1
    · have c2' := m2' _ c2
      simp only [c1, c2, c1', c2', decide_true, decide_false, Bool.and_true, Bool.and_false] at q1 q2 q3
      cases hx : rU 1 s with
      | error e =>
        rw [hx] at hu
        obtain ⟨x, st1, h1, r1⟩ := hu
        exact ⟨w64 (v + x), st1, r1, fun J r hJ => .t q1 (.bind h1 hJ)⟩
      | ok p =>
        obtain ⟨x, s1⟩ := p
        have hf := rU_bd hs hx
        rw [hx] at hu
        obtain ⟨st1, h1, r1⟩ := hu
        simp only [c2, if_true]
        refine ⟨v + x, st1, ⟨rfl, r1⟩, fun J r hJ => .t q1 (.bind h1 ?_)⟩
        simp only
        rw [w64_of (by omega) (by omega)]; exact hJ
    · have c2' := m2 _ c2
      simp only [c1, c2, c1', c2', decide_true, decide_false, Bool.and_true, Bool.and_false] at q1 q2 q3
      cases hx : rU 1 s with
      | error e =>
        rw [hx] at hu
        obtain ⟨x, st1, h1, r1⟩ := hu
        exact ⟨w64 (v - x), st1, r1, fun J r hJ => .e q1 (.t q2 (.bind h1 hJ))⟩
      | ok p =>
        obtain ⟨x, s1⟩ := p
        have hf := rU_bd hs hx
        rw [hx] at hu
        obtain ⟨st1, h1, r1⟩ := hu
        simp only [c2, if_false]
        refine ⟨v - x, st1, ⟨rfl, r1⟩, fun J r hJ => .e q1 (.t q2 (.bind h1 ?_))⟩
        simp only
        rw [w64_of (by omega) (by omega)]; exact hJ
  · have c1' := m2 _ c1
    simp only [c1, if_false]
    by_cases c2 : g / a3 % 2 = 1
    · have c2' := m2' _ c2
      simp only [c1, c2, c1', c2', decide_true, decide_false, Bool.and_true, Bool.and_false] at q1 q2 q3
      simp only [c2, if_true]
      exact ⟨v, st, ⟨rfl, hr⟩, fun J r hJ => .e q1 (.e q2 (.e q3 hJ))⟩
    · have c2' := m2 _ c2
      simp only [c1, c2, c1', c2', decide_true, decide_false, Bool.and_true, Bool.and_false] at q1 q2 q3
      simp only [c2, if_false]
      have hu := su_run hb hbl (w := 2) (by omega) (wi := 2) rfl hr
      cases hx : rU 2 s with
      | error e =>
        rw [hx] at hu
        obtain ⟨x, st1, h1, r1⟩ := hu
        exact ⟨w64 (v + (w64 ((IntKind.wrap .i16 x)))), st1, r1, fun J r hJ => .e q1 (.e q2 (.t q3 (.bind h1 hJ)))⟩
      | ok p =>
        obtain ⟨x, s1⟩ := p
        have hf := rU_bd hs hx
        rw [hx] at hu
        obtain ⟨st1, h1, r1⟩ := hu
        refine ⟨v + (if x ≥ 32768 then x - 65536 else x), st1, ⟨rfl, r1⟩, fun J r hJ => .e q1 (.e q2 (.t q3 (.bind h1 ?_)))⟩
        have e : w64 (IntKind.wrap .i16 x) = (if x ≥ 32768 then x - 65536 else x) := by
          rw [wrap_i16]; split <;> rw [w64_of (by omega) (by omega)] <;> omega
        simp only
        rw [e, w64_of (by split <;> omega) (by split <;> omega)]; exact hJ
theorem L_steps {a1 : List Int} {a2 a3 : Int} (hB : Bits a2 a3) (ha : ∀ x ∈ a1, 0 ≤ x ∧ x < 256) (hal : a1.length ≤ 4096) : ∀ (t p acc : List Int) (v : Int) (st : T_SLBiie) (s : List Int), Rel b st (.ok s) → a1 = p ++ t → acc.length = p.length → (-32768 ≤ v ∧ v ≤ 32767) →
    Run b (fun n => L_simple_reader_steps_0 a1 a2 a3 (fun x25 x26 x27 x28 => some (x28, (⟨x25, x26, x27⟩ : T_SLBiie))) n st.f0 st.f1 st.f2 acc v (p.length : Int)) (mapO (fun l => acc ++ l) (stepsE a2 a3 t v s))
  | [], p, acc, v, st, s, hr, hp, hl, hv => by
    have : a1.length = p.length := by rw [hp]; simp
    refine Run.ok (st := st) (.succ ?_) hr
    simp only [L_simple_reader_steps_0]
    exact .e (by simp; omega) (.ret' (by simp))
  | g :: t, p, acc, v, st, s, hr, hp, hl, hv => by
    have hlen : a1.length = p.length + (t.length + 1) := by rw [hp]; simp
    have hnth : nth E_B a1 (p.length : Int) = g := nth_app' hp rfl
    have hg := ha g (by rw [hp]; simp)
    have e1 : w64 ((p.length : Int) + 1) = ((p ++ [g]).length : Int) := by rw [w64_of (by omega) (by omega)]; simp
    obtain ⟨v1, st1, h1, h2⟩ := step_run (R := R_simple_reader_steps) hb hbl hB hg hv hr
    have core0 : ∀ res, Ev (fun n => stepJ a1 a2 a3 acc (p.length : Int) n st1.f0 st1.f1 st1.f2 v1) res → Ev (fun n => L_simple_reader_steps_0 a1 a2 a3 (fun x25 x26 x27 x28 => some (x28, (⟨x25, x26, x27⟩ : T_SLBiie))) n st.f0 st.f1 st.f2 acc v (p.length : Int)) res := by
      intro res hres
      refine .succ ?_
      simp only [L_simple_reader_steps_0]
      refine .t (by simp; omega) (.gd (by omega) (.lj ?_))
      rw [hnth]
      exact h2 (stepJ a1 a2 a3 acc (p.length : Int)) res hres
    simp only [stepsE]
    cases hx : stepE g a2 a3 v s with
    | error e =>
      rw [hx] at h1
      have r1 : Rel b st1 (.error e) := h1
      refine Run.er (v := []) (st := st1) (core0 _ ?_) r1
      have hne : st1.f2 ≠ 0 := by rw [r1.2.1]; exact r1.2.2
      unfold stepJ
      simp only [sticky hne]
      exact .t (by simp [hne]) (.ret _)
    | ok q =>
      obtain ⟨v', s1⟩ := q
      have hsp := stepE_spec (Rel.bytes hb hr) hv hx
      rw [hx] at h1
      obtain ⟨rfl, r1⟩ := h1
      have h16 := i16_same v1 (by omega)
      simp only
      have core : ∀ res, Ev (fun n => (if (!decide ((if (!sh v1) then 6 else (0 : Int)) = 0)) then
          some (([] : List Int), (⟨st1.f0, st1.f1, (if (!sh v1) then 6 else (0 : Int))⟩ : T_SLBiie))
        else
        gd (fits (acc.length + ([v1] : List Int).length) 8 = true) <|
        L_simple_reader_steps_0 a1 a2 a3 (fun x25 x26 x27 x28 => some (x28, (⟨x25, x26, x27⟩ : T_SLBiie))) n st1.f0 st1.f1 (if (!sh v1) then 6 else (0 : Int)) (acc ++ ([v1] : List Int)) v1 ((p ++ [g]).length : Int) : Option R_simple_reader_steps)) res → Ev (fun n => L_simple_reader_steps_0 a1 a2 a3 (fun x25 x26 x27 x28 => some (x28, (⟨x25, x26, x27⟩ : T_SLBiie))) n st.f0 st.f1 st.f2 acc v (p.length : Int)) res := by
        intro res hres
        refine core0 _ ?_
        unfold stepJ
        rw [h16, e1, r1.2.1]
        exact hres
      by_cases hrg : v1 < -32768 ∨ 32767 < v1
      · simp only [hrg, if_true, mapO]
        have hsh : sh v1 = false := by
          rw [Bool.eq_false_iff]; intro h; rw [sh_iff] at h; omega
        rw [hsh] at core
        exact Run.er (v := []) (st := ⟨st1.f0, st1.f1, 6⟩) (core _ (.t rfl (.ret _))) ⟨r1.1, rfl, by decide⟩
      · simp only [hrg, if_false]
        have hsh : sh v1 = true := sh_iff.2 (by omega)
        rw [hsh] at core
        have ih := L_steps hB ha hal t (p ++ [g]) (acc ++ [v1]) v1 st1 s1 r1 (by rw [hp]; simp) (by simp [hl]) (by omega)
        rw [r1.2.1] at ih
        have step : ∀ res, Ev (fun n => L_simple_reader_steps_0 a1 a2 a3 (fun x25 x26 x27 x28 => some (x28, (⟨x25, x26, x27⟩ : T_SLBiie))) n st1.f0 st1.f1 0 (acc ++ [v1]) v1 ((p ++ [g]).length : Int)) res → Ev (fun n => L_simple_reader_steps_0 a1 a2 a3 (fun x25 x26 x27 x28 => some (x28, (⟨x25, x26, x27⟩ : T_SLBiie))) n st.f0 st.f1 st.f2 acc v (p.length : Int)) res := by
          intro res h
          exact core _ (.e rfl (.gd (fits_small (by simp; omega) (by decide)) h))
        cases hy : stepsE a2 a3 t v1 s1 with
        | error e =>
          rw [hy] at ih
          obtain ⟨u, st', g1, g2⟩ := ih
          exact Run.er (step _ g1) g2
        | ok q =>
          obtain ⟨l, s2⟩ := q
          rw [hy] at ih
          obtain ⟨st', g1, g2⟩ := ih
          refine Run.ok (st := st') (step _ ?_) g2
          simpa using g1
theorem steps_run {a1 : List Int} {a2 a3 : Int} (hB : Bits a2 a3) (ha : ∀ x ∈ a1, 0 ≤ x ∧ x < 256) (hal : a1.length ≤ 4096) {st : T_SLBiie} {s : List Int} (hr : Rel b st (.ok s)) :
    Run b (fun n => F_simple_reader_steps n st a1 a2 a3) (stepsE a2 a3 a1 0 s) := by
  have h := L_steps hb hbl hB ha hal a1 [] [] 0 st s hr rfl rfl (by omega)
  have : mapO (fun l => ([] : List Int) ++ l) (stepsE a2 a3 a1 0 s) = stepsE a2 a3 a1 0 s := by
    cases stepsE a2 a3 a1 0 s with
    | error e => rfl
    | ok p => rfl
  rw [this] at h
  exact h
omit hb hbl in
theorem steps_err {a1 : List Int} {a2 a3 : Int} {e : Int} {st : T_SLBiie} (hr : Rel b st (.error e)) : Ev (fun n => F_simple_reader_steps n st a1 a2 a3) ([], st) := by
  simp only [F_simple_reader_steps]
  refine .lj (.succ ?_)
  simp only [L_simple_reader_steps_0]
  cases a1 with
  | nil => exact .e (by simp) (.ret _)
  | cons g t =>
    refine .t (by simp) (.gd (by simp) (.lj ?_))
    have fin : ∀ (v1 : Int) (G : Nat → Option R_simple_reader_steps), (∀ n, G n = (if (!decide ((if ((decide (st.f2 = 0)) && (!decide (v1 = (w64 ((IntKind.wrap .i16 (v1))))))) then 6 else st.f2) = 0)) then
          some (([] : List Int), (⟨st.f0, st.f1, (if ((decide (st.f2 = 0)) && (!decide (v1 = (w64 ((IntKind.wrap .i16 (v1))))))) then 6 else st.f2)⟩ : T_SLBiie))
        else
        gd (fits (([] : List Int).length + ([v1] : List Int).length) 8 = true) <|
        L_simple_reader_steps_0 (g :: t) a2 a3 (fun x25 x26 x27 x28 => some (x28, (⟨x25, x26, x27⟩ : T_SLBiie))) n st.f0 st.f1 (if ((decide (st.f2 = 0)) && (!decide (v1 = (w64 ((IntKind.wrap .i16 (v1))))))) then 6 else st.f2) (([] : List Int) ++ ([v1] : List Int)) v1 (w64 (0 + 1)))) → Ev G ([], st) := by
      intro v1 G hG
      have hne : st.f2 ≠ 0 := by rw [hr.2.1]; exact hr.2.2
      refine .eq hG ?_
      simp only [sticky hne]
      exact .t (by simp [hne]) (.ret _)
    refine .ite (fun _ => .bind (su_err hr) (fin _ _ fun n => rfl)) (fun _ => .ite (fun _ => .bind (su_err hr) (fin _ _ fun n => rfl)) (fun _ => .ite (fun _ => .bind (su_err hr) (fin _ _ fun n => rfl)) (fun _ => fin _ _ fun n => rfl)))
end
end Go.Proofs.Ytgkekjfbacncoaa
set_option linter.unusedSimpArgs false
set_option linter.unusedVariables false
open Go Go.Ab
namespace Go.Proofs.Ytgkekjfbacncoaa
/-! ### the points, cut at the ends -/
theorem zipK_len : ∀ (xs ys fs : List Int), ys.length = xs.length → fs.length = xs.length → (zipK xs ys fs).length = xs.length
  | [], ys, fs, _, _ => by simp [zipK]
  | x :: xs, [], fs, h, _ => by simp at h
  | x :: xs, y :: ys, [], _, h => by simp at h
  | x :: xs, y :: ys, f :: fs, h, h' => by
    simp only [zipK, List.length_cons]
    rw [zipK_len xs ys fs (by simpa using h) (by simpa using h')]
theorem zipK_drop : ∀ (xs ys fs : List Int) (j : Nat), ys.length = xs.length → fs.length = xs.length → j < xs.length →
    (zipK xs ys fs).drop j = ⟨nth E_i xs j, nth E_i ys j, decide (nth E_B fs j % 2 = 1)⟩ :: (zipK xs ys fs).drop (j + 1)
  | [], ys, fs, j, _, _, h => by simp at h
  | x :: xs, [], fs, _, h, _, _ => by simp at h
  | x :: xs, y :: ys, [], _, _, h, _ => by simp at h
  | x :: xs, y :: ys, f :: fs, 0, h, h', _ => by
    simp [zipK, nth]
  | x :: xs, y :: ys, f :: fs, j + 1, h, h', hj => by
    have ih := zipK_drop xs ys fs j (by simpa using h) (by simpa using h') (by simpa using hj)
    have e : ∀ (E : Ty Int) (a : Int) (l : List Int), nth E (a :: l) ((j + 1 : Nat) : Int) = nth E l (j : Int) := by
      intro E a l
      unfold nth
      have : ((j + 1 : Nat) : Int).toNat = j + 1 := by omega
      rw [this]
      simp
    simp only [zipK, List.drop_succ_cons]
    rw [e, e, e, ih]
def Up (N : Int) : Int → List Int → Prop
  | _, [] => True
  | i, e :: t => i ≤ e ∧ e < N ∧ Up N (e + 1) t
theorem rising_up : ∀ (es : List Int) (i : Int), rising es = true → (∀ e t, es = e :: t → i ≤ e) → Up (lastI es + 1) i es
  | [], _, _, _ => trivial
  | [x], i, _, h => ⟨h _ _ rfl, by simp [lastI]; omega, trivial⟩
  | x :: y :: l, i, hr, h => by
    simp only [rising, Bool.and_eq_true, decide_eq_true_eq] at hr
    have ih := rising_up (y :: l) (x + 1) hr.2 (fun e t he => by injection he with h1 _; omega)
    have hl : lastI (x :: y :: l) = lastI (y :: l) := rfl
    rw [hl]
    exact ⟨h _ _ rfl, by have := ih.2.1; omega, ih⟩
theorem cutK_len : ∀ (es : List Int) (i : Int) (ks : List T_Siibe), (cutK es i ks).length = es.length
  | [], _, _ => rfl
  | e :: es, i, ks => by simp [cutK, cutK_len]
section
variable {xs ys fs es : List Int} {v7 : R_simple_reader_ends} {v11 : R_simple_reader_flags} {v12 v13 : R_simple_reader_steps}
  (h7 : v7.1 = es) (h11 : v11.1 = fs) (h12 : v12.1 = xs) (h13 : v13.1 = ys) (hx : xs.length ≤ 5000) (hy : ys.length = xs.length) (hf : fs.length = xs.length) (hfb : ∀ f ∈ fs, 0 ≤ f ∧ f < 256) (he : es.length ≤ 40000)
include h7 h11 h12 h13 hx hy hf hfb he
omit he in
theorem L_Read_1 {y18 e : Int} {J : Nat → List T_Siibe → Option R_simple_Read} {r : R_simple_Read} (he18 : nth E_i es y18 = e) (hexs : e < xs.length) :
    ∀ (k j : Nat) (acc : List T_Siibe), (j : Int) + k = e + 1 → acc.length ≤ j →
    Ev (fun n => J n (acc ++ ((zipK xs ys fs).drop j).take k)) r → Ev (fun n => L_simple_Read_1 v7 v11 v12 v13 y18 (J n) n acc (j : Int)) r
  | 0, j, acc, hk, ha, hJ => .succ (by
      simp only [L_simple_Read_1]
      rw [h7, he18]
      refine .e (by simp; omega) ?_
      simpa using hJ.shift)
  | k + 1, j, acc, hk, ha, hJ => .succ (by
      have hj : j < xs.length := by omega
      have hd := zipK_drop xs ys fs j hy hf hj
      have hfm : 0 ≤ nth E_B fs (j : Int) ∧ nth E_B fs (j : Int) < 256 := by
        have hm : nth E_B fs (j : Int) ∈ fs := List.mem_of_getElem? (nth_get E_B (l := fs) (i := j) (by omega))
        exact hfb _ hm
      obtain ⟨gf, hgf⟩ := fin_of hfm.1 hfm.2
      have hb1 := u8_bit1 gf
      rw [hgf] at hb1
      simp only [L_simple_Read_1]
      rw [h7, he18, h11, h12, h13, hb1]
      refine .t (by simp; omega) (.gd (by omega) (.gd (by omega) (.gd (by omega) (.gd (fits_small (by simp; omega) (by decide)) ?_))))
      have e1 : w64 ((j : Int) + 1) = ((j + 1 : Nat) : Int) := by rw [w64_of (by omega) (by omega)]; omega
      rw [e1]
      refine L_Read_1 (J := fun n => J (n + 1)) he18 hexs k (j + 1) _ (by omega) (by simp; omega) ?_
      have e2 : acc ++ [(⟨nth E_i xs j, nth E_i ys j, decide (nth E_B fs j % 2 = 1)⟩ : T_Siibe)] ++ ((zipK xs ys fs).drop (j + 1)).take k = acc ++ ((zipK xs ys fs).drop j).take (k + 1) := by
        rw [hd]; simp
      rw [e2]
      exact hJ.shift)
theorem L_Read_0 {J : Nat → List (List T_Siibe) → Option R_simple_Read} {r : R_simple_Read} : ∀ (t p : List Int) (i : Nat) (acc : List (List T_Siibe)), es = p ++ t → Up xs.length i t → acc.length = p.length →
    Ev (fun n => J n (acc ++ cutK t i ((zipK xs ys fs).drop i))) r → Ev (fun n => L_simple_Read_0 v7 v11 v12 v13 (J n) n acc (i : Int) (p.length : Int)) r
  | [], p, i, acc, hp, hu, ha, hJ => .succ (by
      have : es.length = p.length := by rw [hp]; simp
      simp only [L_simple_Read_0]
      rw [h7]
      refine .e (by simp; omega) ?_
      simpa [cutK] using hJ.shift)
  | e :: t, p, i, acc, hp, hu, ha, hJ => .succ (by
      have hlen : es.length = p.length + (t.length + 1) := by rw [hp]; simp
      have hnth : nth E_i es (p.length : Int) = e := nth_app' hp rfl
      obtain ⟨u1, u2, u3⟩ := hu
      have hi' : ((e + 1).toNat : Int) = e + 1 := by omega
      have ek : (e + 1 - (i : Int)).toNat = (e + 1).toNat - i := by omega
      simp only [L_simple_Read_0]
      rw [h7, hnth]
      refine .t (by simp; omega) (.lj (.gd (by omega) (.lj ?_)))
      refine L_Read_1 h7 h11 h12 h13 hx hy hf hfb (J := fun n x30 => gd (fits (acc.length + ([x30] : List (List T_Siibe)).length) 24 = true) <| L_simple_Read_0 v7 v11 v12 v13 (J (n + 1)) n (acc ++ [x30]) (w64 (e + 1)) (w64 ((p.length : Int) + 1))) hnth u2 (e + 1 - (i : Int)).toNat i [] (by omega) (by simp) ?_
      refine .gd (fits_small (by simp; omega) (by decide)) ?_
      have e1 : w64 ((p.length : Int) + 1) = ((p ++ [e]).length : Int) := by rw [w64_of (by omega) (by omega)]; simp
      have e2 : w64 (e + 1) = ((e + 1).toNat : Int) := by rw [w64_of (by omega) (by omega)]; omega
      rw [e1, e2]
      refine L_Read_0 (J := fun n => J (n + 1)) t (p ++ [e]) (e + 1).toNat _ (by rw [hp]; simp) (by rw [hi']; exact u3) (by simp [ha]) ?_
      have e3 : acc ++ [[] ++ ((zipK xs ys fs).drop i).take (e + 1 - (i : Int)).toNat] ++ cutK t ((e + 1).toNat : Int) ((zipK xs ys fs).drop (e + 1).toNat) = acc ++ cutK (e :: t) i ((zipK xs ys fs).drop i) := by
        simp only [cutK]
        rw [hi', List.drop_drop, show i + (e + 1 - (i : Int)).toNat = (e + 1).toNat by omega]
        simp
      rw [e3]
      exact hJ.shift)
end
theorem beS_bd2 {l : List Int} (hb : Bytes l) (h : l.length = 2) : -32768 ≤ beS l ∧ beS l ≤ 32767 := by
  have := beU_bound hb
  unfold beS
  rw [h] at this ⊢
  split <;> omega
/-! ### the whole -/
section
variable {b : List Int} (hb : Bytes b) (hbl : b.length ≤ 140737488351232)
include hb hbl
theorem simple_Read_ev : Ev (fun n => F_simple_Read n b) (simpleRead b) := by
  unfold simpleRead
  by_cases h0 : b = []
  · subst h0
    exact .t rfl (.ret _)
  have hl0 : b.length ≠ 0 := fun h => h0 (List.length_eq_zero_iff.1 h)
  simp only [h0, if_false]
  by_cases h10 : b.length < 10
  · simp only [h10, if_true]
    simp only [F_simple_Read]
    refine .e (by simp; omega) ?_
    by_cases h2 : b.length < 2
    · exact .bind (be_S_short (w := 2) hbl (by omega) (by omega) (by omega) (by omega) (by omega)) (.t (by simp) (.ret _))
    · have hs : b = [] ++ (b.take 2 ++ b.drop 2) := by simp
      exact .bind (be_S_ok (x := []) (y := b.take 2) (z := b.drop 2) hb hbl hs rfl (by rw [List.length_take]; omega) (by right; rw [List.length_take]; omega)) (.t (by simp; omega) (.ret _))
  simp only [h10, if_false]
  have hs : b = [] ++ (b.take 2 ++ b.drop 2) := by simp
  have hS := be_S_ok (at_ := 0) (w := 2) (x := []) (y := b.take 2) (z := b.drop 2) hb hbl hs rfl (by rw [List.length_take]; omega) (by right; rw [List.length_take]; omega)
  have hnb := beS_bd2 (hb.take 2) (by rw [List.length_take]; omega)
  generalize beS (b.take 2) = m at hS hnb
  have core : ∀ res, Ev (fun n => (if (decide (m < 0)) then
    some ((⟨([] : List (List T_Siibe)), ([] : List Int)⟩ : T_SLLSiibeLBe), 11)
  else
  if (decide (m = 0)) then
    some ((⟨([] : List (List T_Siibe)), ([] : List Int)⟩ : T_SLLSiibeLBe), 0)
  else
  Option.bind (F_simple_reader_ends n (⟨b, 10, 0⟩ : T_SLBiie) m) fun v7 =>
  if (!decide (v7.2.f2 = 0)) then
    some ((⟨([] : List (List T_Siibe)), ([] : List Int)⟩ : T_SLLSiibeLBe), v7.2.f2)
  else
  Option.bind (F_simple_reader_code n v7.2) fun v9 =>
  gd (0 ≤ (w64 (m - 1)) ∧ (w64 (m - 1)) < v7.1.length) <|
  Option.bind (F_simple_reader_flags n v9.2 (w64 ((nth E_i v7.1 (w64 (m - 1))) + 1))) fun v11 =>
  Option.bind (F_simple_reader_steps n v11.2 v11.1 2 16) fun v12 =>
  Option.bind (F_simple_reader_steps n v12.2 v11.1 4 32) fun v13 =>
  if (!decide (v13.2.f2 = 0)) then
    some ((⟨([] : List (List T_Siibe)), ([] : List Int)⟩ : T_SLLSiibeLBe), v13.2.f2)
  else
  lj (fun (x33 : (List (List T_Siibe))) =>
    some ((⟨x33, v9.1⟩ : T_SLLSiibeLBe), 0)) fun j15 =>
  L_simple_Read_0 v7 v11 v12 v13 j15 n ([] : List (List T_Siibe)) 0 0 : Option R_simple_Read)) res → Ev (fun n => F_simple_Read n b) res := by
    intro res hres
    simp only [F_simple_Read]
    exact .e (by simp; omega) (.bind hS (.e (by simp; omega) hres))
  by_cases hm1 : m < 0
  · simp only [hm1, if_true]
    exact core _ (.t (by simpa using hm1) (.ret _))
  simp only [hm1, if_false]
  by_cases hm0 : m = 0
  · simp only [hm0, if_true]
    exact core _ (.e (by simpa using hm1) (.t (by simpa using hm0) (.ret _)))
  simp only [hm0, if_false]
  have hR : Rel b ⟨b, 10, 0⟩ (.ok (b.drop 10)) := ⟨rfl, rfl, b.take 10, by simp, by rw [List.length_take]; simp; omega⟩
  have hmm : ((m.toNat : Nat) : Int) = m := by omega
  have hends := ends_run hb hbl (k := m.toNat) (by omega) (by omega) hR
  rw [hmm] at hends
  have core2 : ∀ (v7 : R_simple_reader_ends), Ev (fun n => F_simple_reader_ends n (⟨b, 10, 0⟩ : T_SLBiie) m) v7 → ∀ res, Ev (fun n => (
  if (!decide (v7.2.f2 = 0)) then
    some ((⟨([] : List (List T_Siibe)), ([] : List Int)⟩ : T_SLLSiibeLBe), v7.2.f2)
  else
  Option.bind (F_simple_reader_code n v7.2) fun v9 =>
  gd (0 ≤ (w64 (m - 1)) ∧ (w64 (m - 1)) < v7.1.length) <|
  Option.bind (F_simple_reader_flags n v9.2 (w64 ((nth E_i v7.1 (w64 (m - 1))) + 1))) fun v11 =>
  Option.bind (F_simple_reader_steps n v11.2 v11.1 2 16) fun v12 =>
  Option.bind (F_simple_reader_steps n v12.2 v11.1 4 32) fun v13 =>
  if (!decide (v13.2.f2 = 0)) then
    some ((⟨([] : List (List T_Siibe)), ([] : List Int)⟩ : T_SLLSiibeLBe), v13.2.f2)
  else
  lj (fun (x33 : (List (List T_Siibe))) =>
    some ((⟨x33, v9.1⟩ : T_SLLSiibeLBe), 0)) fun j15 =>
  L_simple_Read_0 v7 v11 v12 v13 j15 n ([] : List (List T_Siibe)) 0 0 : Option R_simple_Read)) res → Ev (fun n => F_simple_Read n b) res := by
    intro v7 h7 res hres
    exact core _ (.e (by simpa using hm1) (.e (by simpa using hm0) (.bind h7 hres)))
  clear core
  -- an error stands to the end
  have err3 : ∀ (v11 : R_simple_reader_flags) (e : Int) (K : Nat → R_simple_reader_steps → R_simple_reader_steps → Option R_simple_Read), Rel b v11.2 (.error e) → Ev (fun n =>
      (Option.bind (F_simple_reader_steps n v11.2 v11.1 2 16) fun v12 =>
  Option.bind (F_simple_reader_steps n v12.2 v11.1 4 32) fun v13 =>
  if (!decide (v13.2.f2 = 0)) then
    some ((⟨([] : List (List T_Siibe)), ([] : List Int)⟩ : T_SLLSiibeLBe), v13.2.f2)
  else K n v12 v13 : Option R_simple_Read)) (noG, e) := by
    intro v11 e K hr
    refine .bind (steps_err hr) (.bind (steps_err hr) (.t (by simp [hr.2.1, hr.2.2]) (.ret' ?_)))
    simp only [hr.2.1]; rfl
  cases hE : endsE m.toNat (b.drop 10) with
  | error e =>
    simp only [endsX, hE] at hends
    obtain ⟨v, st, h1, r1⟩ := hends
    refine core2 _ h1 _ (.t (by simp [r1.2.1, r1.2.2]) (.ret' ?_))
    simp only [r1.2.1]; rfl
  | ok p =>
    obtain ⟨es, s1⟩ := p
    simp only [endsX, hE] at hends
    simp only
    by_cases hris : rising es = false
    · simp only [hris, if_true] at hends ⊢
      obtain ⟨v, st, h1, r1⟩ := hends
      refine core2 _ h1 _ (.t (by simp [r1.2.1, r1.2.2]) (.ret' ?_))
      simp only [r1.2.1]; rfl
    have hris' : rising es = true := by simpa using hris
    simp only [hris, if_false] at hends ⊢
    by_cases h4 : 4096 ≤ lastI es
    · simp only [h4, if_true] at hends ⊢
      obtain ⟨v, st, h1, r1⟩ := hends
      refine core2 _ h1 _ (.t (by simp [r1.2.1, r1.2.2]) (.ret' ?_))
      simp only [r1.2.1]; rfl
    simp only [h4, if_false] at hends ⊢
    obtain ⟨st1, h1, r1⟩ := hends
    have hlen := endsE_len _ _ es s1 hE
    have hbd := endsE_bd _ _ es s1 (hb.drop 10) hE
    have hne : es ≠ [] := by intro e; subst e; simp at hlen; omega
    have hlast : nth E_i es (w64 (m - 1)) = lastI es := by
      rw [w64_of (by omega) (by omega), show m - 1 = (es.length : Int) - 1 by omega]; exact nth_last hne
    have hl1 : 0 ≤ lastI es := by
      have : lastI es ∈ es := by rw [← nth_last hne]; exact List.mem_of_getElem? (by
        have := nth_get E_i (l := es) (i := es.length - 1) (by have := List.length_pos_iff.2 hne; omega)
        rw [show ((es.length - 1 : Nat) : Int) = (es.length : Int) - 1 by have := List.length_pos_iff.2 hne; omega] at this
        exact this)
      exact (hbd.1 _ this).1
    have hwl : w64 (lastI es + 1) = ((lastI es + 1).toNat : Int) := by rw [w64_of (by omega) (by omega)]; omega
    have hcode := code_run hb hbl r1
    have core3 : ∀ (v9 : R_simple_reader_code), Ev (fun n => F_simple_reader_code n st1) v9 → ∀ (v11 : R_simple_reader_flags), Ev (fun n => F_simple_reader_flags n v9.2 ((lastI es + 1).toNat : Int)) v11 → ∀ res, Ev (fun n => (
  Option.bind (F_simple_reader_steps n v11.2 v11.1 2 16) fun v12 =>
  Option.bind (F_simple_reader_steps n v12.2 v11.1 4 32) fun v13 =>
  if (!decide (v13.2.f2 = 0)) then
    some ((⟨([] : List (List T_Siibe)), ([] : List Int)⟩ : T_SLLSiibeLBe), v13.2.f2)
  else
  lj (fun (x33 : (List (List T_Siibe))) =>
    some ((⟨x33, v9.1⟩ : T_SLLSiibeLBe), 0)) fun j15 =>
  L_simple_Read_0 (es, st1) v11 v12 v13 j15 n ([] : List (List T_Siibe)) 0 0 : Option R_simple_Read)) res → Ev (fun n => F_simple_Read n b) res := by
      intro v9 h9 v11 h11 res hres
      refine core2 _ h1 _ (.e (by simp [r1.2.1]) (.bind h9 (.gd ?_ ?_)))
      · rw [w64_of (by omega) (by omega)]; simp only; omega
      · rw [hlast, hwl]
        exact .bind h11 hres
    clear core2
    cases hC : codeE s1 with
    | error e =>
      rw [hC] at hcode
      obtain ⟨v, st2, g1, r2⟩ := hcode
      exact core3 _ g1 _ (flags_err r2) _ (err3 _ e (fun n v12 v13 => _) r2)
    | ok p =>
      obtain ⟨code, s2⟩ := p
      rw [hC] at hcode
      obtain ⟨st2, g1, r2⟩ := hcode
      simp only
      have hfl := flags_run hb hbl (m := (lastI es + 1).toNat) (by omega) (by omega) r2
      cases hF : flagsE ((lastI es + 1).toNat + 1) (lastI es + 1).toNat s2 with
      | error e =>
        rw [hF] at hfl
        obtain ⟨v, st3, g2, r3⟩ := hfl
        exact core3 _ g1 _ g2 _ (err3 _ e (fun n v12 v13 => _) r3)
      | ok p =>
        obtain ⟨fs, s3⟩ := p
        rw [hF] at hfl
        obtain ⟨st3, g2, r3⟩ := hfl
        simp only
        have hfs := flagsE_spec _ _ s2 fs s3 (Rel.bytes hb r2) hF
        have hsx := steps_run hb hbl bits_x hfs.2.1 (by omega) r3
        cases hX : stepsE 2 16 fs 0 s3 with
        | error e =>
          rw [hX] at hsx
          obtain ⟨v, st4, g3, r4⟩ := hsx
          refine core3 _ g1 _ g2 _ (.bind g3 (.bind (steps_err r4) (.t (by simp [r4.2.1, r4.2.2]) (.ret' ?_))))
          simp only [r4.2.1]; rfl
        | ok p =>
          obtain ⟨xs, s4⟩ := p
          rw [hX] at hsx
          obtain ⟨st4, g3, r4⟩ := hsx
          simp only
          have hxs := stepsE_spec _ _ s3 xs s4 hfs.2.2 (by omega) hX
          have hsy := steps_run hb hbl bits_y hfs.2.1 (by omega) r4
          cases hY : stepsE 4 32 fs 0 s4 with
          | error e =>
            rw [hY] at hsy
            obtain ⟨v, st5, g4, r5⟩ := hsy
            refine core3 _ g1 _ g2 _ (.bind g3 (.bind g4 (.t (by simp [r5.2.1, r5.2.2]) (.ret' ?_))))
            simp only [r5.2.1]; rfl
          | ok p =>
            obtain ⟨ys, s5⟩ := p
            rw [hY] at hsy
            obtain ⟨st5, g4, r5⟩ := hsy
            simp only
            have hys := stepsE_spec _ _ s4 ys s5 hxs.2.2 (by omega) hY
            have hup := rising_up es 0 hris' (fun e t he => (hbd.1 e (by rw [he]; simp)).1)
            have hN : lastI es + 1 = (xs.length : Int) := by omega
            rw [hN] at hup
            refine core3 _ g1 _ g2 _ (.bind g3 (.bind g4 (.e (by simp [r5.2.1]) (.lj ?_))))
            refine L_Read_0 (xs := xs) (ys := ys) (fs := fs) (es := es) (v7 := (es, st1)) (v11 := (fs, st3)) (v12 := (xs, st4)) (v13 := (ys, st5)) rfl rfl rfl rfl (by omega) (by omega) (by omega) hfs.2.1 (by omega) (J := fun n x33 => some ((⟨x33, code⟩ : T_SLLSiibeLBe), 0)) es [] 0 [] rfl hup rfl ?_
            exact .ret' (by simp)
end
end Go.Proofs.Ytgkekjfbacncoaa
set_option linter.unusedSimpArgs false
set_option linter.unusedVariables false
open Go Go.Ab
namespace Go.Proofs.Ytgkekjfbacncoaa
/-! ### two glyphs are held together -/
theorem pt_eq (a b : T_Siibe) : (((decide (a.f0 = b.f0)) && ((decide (a.f1 = b.f1)) && ((a.f2 == b.f2) && true)))) = decide (a = b) := by
  obtain ⟨a0, a1, a2⟩ := a
  obtain ⟨b0, b1, b2⟩ := b
  by_cases h0 : a0 = b0 <;> by_cases h1 : a1 = b1 <;> by_cases h2 : a2 = b2 <;> simp [h0, h1, h2]
theorem Same1_run {a0 a1 : List (List T_Siibe)} {y3 : Int} {u v : List T_Siibe} (hu : nth E_LSiibe a0 y3 = u) (hv : nth E_LSiibe a1 y3 = v) (h0 : 0 ≤ y3 ∧ y3 < a0.length) (h1 : 0 ≤ y3 ∧ y3 < a1.length) (hl : u.length ≤ 140737488351232) {r : Bool} : ∀ (t s p q : List T_Siibe) (J : Nat → Unit → Option R_r07_Same), u = p ++ t → v = q ++ s → p.length = q.length → t.length = s.length →
    (t = s → Ev (fun n => J n ()) r) → Ev (fun n => L_r07_Same_1 a0 a1 y3 (J n) n (p.length : Int)) (if t = s then r else false)
  | [], s, p, q, J, hp, hq, hpq, hts, hJ => .succ (by
      have : s = [] := List.eq_nil_of_length_eq_zero hts.symm
      subst this
      simp only [L_r07_Same_1]
      rw [hu]
      refine .e (by rw [hp]; simp) ?_
      exact (hJ rfl).shift)
  | c :: t, [], p, q, J, hp, hq, hpq, hts, hJ => by simp at hts
  | c :: t, d :: s, p, q, J, hp, hq, hpq, hts, hJ => .succ (by
      have hlen : u.length = p.length + (t.length + 1) := by rw [hp]; simp
      have hlen1 : v.length = q.length + (s.length + 1) := by rw [hq]; simp
      have e2 : nth E_Siibe u (p.length : Int) = c := nth_app' hp rfl
      have e3 : nth E_Siibe v (p.length : Int) = d := nth_app' hq (by omega)
      have e1 : w64 ((p.length : Int) + 1) = (((p ++ [c]).length : Nat) : Int) := by rw [w64_of (by omega) (by omega)]; simp
      simp only [L_r07_Same_1]
      rw [hu, hv, e2, e3, pt_eq, e1]
      refine .t (by simp; omega) (.gd h0 (.gd (by omega) (.gd h1 (.gd (by omega) ?_))))
      by_cases hcd : c = d
      · subst hcd
        refine .e (by simp) ?_
        have := Same1_run hu hv h0 h1 hl t s (p ++ [c]) (q ++ [c]) (fun n => J (n + 1)) (by rw [hp]; simp) (by rw [hq]; simp) (by simp [hpq]) (by simpa using hts) (fun h => (hJ (by rw [h])).shift)
        simpa using this
      · refine .t (by simp [hcd]) (.ret' ?_)
        simp [hcd])
theorem Same0_run {a0 a1 : List (List T_Siibe)} (hl : a0.length ≤ 140737488351232) (hl2 : ∀ x ∈ a0, x.length ≤ 140737488351232) : ∀ (t u p q : List (List T_Siibe)), a0 = p ++ t → a1 = q ++ u → p.length = q.length → t.length = u.length → Ev (fun n => L_r07_Same_0 a0 a1 (fun _ => some true) n (p.length : Int)) (decide (t = u))
  | [], u, p, q, h, hu, hpq, htu => .succ (by
      simp only [L_r07_Same_0]
      have : u = [] := List.eq_nil_of_length_eq_zero htu.symm
      subst this
      exact .e (by rw [h]; simp) (.ret' (by simp)))
  | c :: t, [], p, q, h, hu, hpq, htu => by simp at htu
  | c :: t, d :: u, p, q, h, hu, hpq, htu => .succ (by
      have hlen : a0.length = p.length + (t.length + 1) := by rw [h]; simp
      have hlen1 : a1.length = q.length + (u.length + 1) := by rw [hu]; simp
      have e2 : nth E_LSiibe a0 (p.length : Int) = c := nth_app' h rfl
      have e3 : nth E_LSiibe a1 (p.length : Int) = d := nth_app' hu (by omega)
      have e1 : w64 ((p.length : Int) + 1) = (((p ++ [c]).length : Nat) : Int) := by rw [w64_of (by omega) (by omega)]; simp
      simp only [L_r07_Same_0]
      refine .t (by simp; omega) (.lj (.gd (by omega) (.gd (by omega) ?_)))
      rw [e2, e3]
      by_cases hcd : c.length = d.length
      · refine .e (by simp [hcd]) (.gd (by omega) (.lj ?_))
        have ih := Same0_run (a1 := a1) hl hl2 t u (p ++ [c]) (q ++ [d]) (by rw [h]; simp) (by rw [hu]; simp) (by simp [hpq]) (by simpa using htu)
        have := Same1_run (r := decide (t = u)) e2 e3 (by omega) (by omega) (hl2 c (by rw [h]; simp)) c d [] [] (fun n _ => L_r07_Same_0 a0 a1 (fun _ => some true) n (w64 ((p.length : Int) + 1))) rfl rfl rfl hcd (fun _ => by rw [e1]; exact ih)
        have e : (if c = d then decide (t = u) else false) = decide (c :: t = d :: u) := by
          by_cases hh : c = d <;> simp [hh]
        rw [← e]
        exact this
      · refine .t (by simp; omega) (.ret' ?_)
        have : c ≠ d := fun e => hcd (by rw [e])
        simp [this])
theorem r07_Same {a b : List (List T_Siibe)} (hl : a.length ≤ 140737488351232) (hl2 : ∀ x ∈ a, x.length ≤ 140737488351232) : Ev (fun n => F_r07_Same n a b) (decide (a = b)) := by
  simp only [F_r07_Same]
  by_cases h : a.length = b.length
  · refine .e (by simp [h]) (.lj ?_)
    exact Same0_run hl hl2 a b [] [] rfl rfl rfl h
  · refine .t (by simp; omega) (.ret' ?_)
    have : a ≠ b := fun e => h (by rw [e])
    simp [this]
theorem alive07 : Ev (fun n => F_law07_alive n) true := .from 100 fun n => by kernel_rfl
theorem bytes_of {l : List Int} (h : ∀ x ∈ l, (IntKind.min .u8 ≤ x ∧ x ≤ IntKind.max .u8)) : Bytes l := fun x hx => by
  have := h x hx
  have e1 : IntKind.min .u8 = 0 := rfl
  have e2 : IntKind.max .u8 = 255 := rfl
  rw [e1, e2] at this; omega
end Go.Proofs.Ytgkekjfbacncoaa
set_option linter.unusedSimpArgs false
set_option linter.unusedVariables false
open Go Go.Ab
namespace Go.Proofs.Ytgkekjfbacncoaa
/-! ### what is written -/
def packF (d s a : Int) : Int := if d = 0 then a else if -256 < d ∧ d < 0 then s else if 0 < d ∧ d < 256 then s + a else 0
def packB (d : Int) : List Int := if d = 0 then [] else if -256 < d ∧ d < 0 then put1 (0 - d) else if 0 < d ∧ d < 256 then put1 d else put2 d
def onI (b : Bool) : Int := if b then 1 else 0
def lastX : List T_Siibe → Int → Int
  | [], px => px
  | p :: t, _ => lastX t p.f0
def lastY : List T_Siibe → Int → Int
  | [], py => py
  | p :: t, _ => lastY t p.f1
def okP (p : T_Siibe) (px py : Int) : Bool := sh p.f0 && sh p.f1 && sh (p.f0 - px) && sh (p.f1 - py)
def okC : List T_Siibe → Int → Int → Bool
  | [], _, _ => true
  | p :: t, px, py => okP p px py && okC t p.f0 p.f1
def flW : List T_Siibe → Int → Int → List Int
  | [], _, _ => []
  | p :: t, px, py => (packF (p.f0 - px) 2 16 + onI p.f2 + packF (p.f1 - py) 4 32) :: flW t p.f0 p.f1
def xsW : List T_Siibe → Int → List Int
  | [], _ => []
  | p :: t, px => packB (p.f0 - px) ++ xsW t p.f0
def ysW : List T_Siibe → Int → List Int
  | [], _ => []
  | p :: t, py => packB (p.f1 - py) ++ ysW t p.f1
def okG : List (List T_Siibe) → Int → Int → Bool
  | [], _, _ => true
  | c :: t, px, py => okC c px py && okG t (lastX c px) (lastY c py)
def flG : List (List T_Siibe) → Int → Int → List Int
  | [], _, _ => []
  | c :: t, px, py => flW c px py ++ flG t (lastX c px) (lastY c py)
def xsG : List (List T_Siibe) → Int → List Int
  | [], _ => []
  | c :: t, px => xsW c px ++ xsG t (lastX c px)
def ysG : List (List T_Siibe) → Int → List Int
  | [], _ => []
  | c :: t, py => ysW c py ++ ysG t (lastY c py)
def enG : List (List T_Siibe) → Int → List Int
  | [], _ => []
  | c :: t, k => put2 (k + c.length - 1) ++ enG t (k + c.length)
def sumL : List (List T_Siibe) → Nat
  | [] => 0
  | c :: t => c.length + sumL t
def askS : List (List T_Siibe) → List Int → Int → Int
  | [], code, k => if 4096 < k ∨ 65535 < code.length then 7 else 0
  | c :: t, code, k => if c.length = 0 then 4 else askS t code (k + c.length)
def runL (f : Int) : List Int → Nat → Nat
  | c :: t, m + 1 => if c = f then 1 + runL f t m else 0
  | _, _ => 0
def rle : Nat → List Int → List Int
  | 0, _ => []
  | _ + 1, [] => []
  | n + 1, f :: t => (if runL f t 255 = 0 then [f] else [f + 8, (runL f t 255 : Int)]) ++ rle n (t.drop (runL f t 255))
structure B5 where
  (a b c d : Int) (s : Bool)
def boxStep (q : B5) (p : T_Siibe) : B5 :=
  let a := if q.s then q.a else p.f0
  let b := if q.s then q.b else p.f1
  let c := if q.s then q.c else p.f0
  let d := if q.s then q.d else p.f1
  ⟨if p.f0 < a then p.f0 else a, if p.f1 < b then p.f1 else b, if p.f0 > c then p.f0 else c, if p.f1 > d then p.f1 else d, true⟩
def boxB (g : List (List T_Siibe)) : B5 := g.foldl (fun q c => c.foldl boxStep q) ⟨0, 0, 0, 0, false⟩
def boxG (g : List (List T_Siibe)) : T_Siie × T_Siie := (⟨(boxB g).a, (boxB g).b⟩, ⟨(boxB g).c, (boxB g).d⟩)
def headG (g : List (List T_Siibe)) : List Int := put2 g.length ++ (put2 (boxG g).1.f0 ++ (put2 (boxG g).1.f1 ++ (put2 (boxG g).2.f0 ++ put2 (boxG g).2.f1)))
def simpleWrite (a : T_SLLSiibeLBe) : List Int × Int :=
  if a.f0 = [] then ([], if a.f1 = [] then 0 else 4)
  else if askS a.f0 a.f1 0 ≠ 0 then ([], askS a.f0 a.f1 0)
  else if okG a.f0 0 0 = false then ([], 6)
  else (headG a.f0 ++ (enG a.f0 0 ++ (put2 a.f1.length ++ (a.f1 ++ (rle (sumL a.f0) (flG a.f0 0 0) ++ (xsG a.f0 0 ++ ysG a.f0 0))))), 0)
/-! ### sizes -/
theorem packB_len (d : Int) : (packB d).length ≤ 2 := by
  unfold packB; split
  · simp
  · split
    · simp [put1]
    · split <;> simp [put1, put2]
theorem xsW_len : ∀ (t : List T_Siibe) (px : Int), (xsW t px).length ≤ 2 * t.length
  | [], _ => by simp [xsW]
  | p :: t, px => by
    simp only [xsW, List.length_append, List.length_cons]
    have := packB_len (p.f0 - px); have := xsW_len t p.f0; omega
theorem ysW_len : ∀ (t : List T_Siibe) (px : Int), (ysW t px).length ≤ 2 * t.length
  | [], _ => by simp [ysW]
  | p :: t, px => by
    simp only [ysW, List.length_append, List.length_cons]
    have := packB_len (p.f1 - px); have := ysW_len t p.f1; omega
theorem flW_len : ∀ (t : List T_Siibe) (px py : Int), (flW t px py).length = t.length
  | [], _, _ => by simp [flW]
  | p :: t, px, py => by simp [flW, flW_len t]
theorem flG_len : ∀ (t : List (List T_Siibe)) (px py : Int), (flG t px py).length = sumL t
  | [], _, _ => by simp [flG, sumL]
  | c :: t, px, py => by simp [flG, sumL, flW_len, flG_len t]
theorem xsG_len : ∀ (t : List (List T_Siibe)) (px : Int), (xsG t px).length ≤ 2 * sumL t
  | [], _ => by simp [xsG, sumL]
  | c :: t, px => by
    simp only [xsG, sumL, List.length_append]
    have := xsW_len c px; have := xsG_len t (lastX c px); omega
theorem ysG_len : ∀ (t : List (List T_Siibe)) (px : Int), (ysG t px).length ≤ 2 * sumL t
  | [], _ => by simp [ysG, sumL]
  | c :: t, px => by
    simp only [ysG, sumL, List.length_append]
    have := ysW_len c px; have := ysG_len t (lastY c px); omega
theorem enG_len : ∀ (t : List (List T_Siibe)) (k : Int), (enG t k).length = 2 * t.length
  | [], _ => by simp [enG]
  | c :: t, k => by simp only [enG, List.length_append, List.length_cons, enG_len t]; simp [put2]; omega
theorem packF_cases (d s a : Int) : packF d s a = a ∨ packF d s a = s ∨ packF d s a = s + a ∨ packF d s a = 0 := by
  unfold packF; split
  · simp
  · split
    · simp
    · split <;> simp
theorem rle_len : ∀ (n : Nat) (l : List Int), (rle n l).length ≤ 2 * n
  | 0, _ => by simp [rle]
  | n + 1, [] => by simp [rle]
  | n + 1, f :: t => by
    simp only [rle, List.length_append]
    have := rle_len n (t.drop (runL f t 255))
    split <;> simp <;> omega
theorem askS_sum : ∀ (t : List (List T_Siibe)) (code : List Int) (k : Int), askS t code k = 0 → k + (sumL t : Int) ≤ 4096 ∧ code.length ≤ 65535 ∧ (∀ c ∈ t, c.length ≠ 0)
  | [], code, k, h => by
    simp only [askS] at h
    split at h
    · simp at h
    · simp [sumL]; omega
  | c :: t, code, k, h => by
    simp only [askS] at h
    split at h
    · simp at h
    · have := askS_sum t code _ h
      refine ⟨by simp only [sumL]; omega, this.2.1, fun x hx => ?_⟩
      rcases List.mem_cons.1 hx with hx | hx
      · rw [hx]; omega
      · exact this.2.2 x hx
/-! ### the program's writer -/
theorem ite2 {α : Type} (a b : Bool) (r e : α) : (if (a && b) = true then r else e) = if a = true then (if b = true then r else e) else e := by cases a <;> cases b <;> rfl
theorem pack_run {d s a : Int} (hso : bits .or .u8 s a = s + a) : Ev (fun n => F_simple_pack n d s a) (packF d s a, packB d) := by
  simp only [F_simple_pack]
  unfold packF packB
  by_cases h0 : d = 0
  · rw [if_pos h0, if_pos h0]
    exact .t (decide_eq_true h0) (.ret _)
  rw [if_neg h0, if_neg h0]
  refine .e (decide_eq_false h0) ?_
  by_cases h1 : -256 < d ∧ d < 0
  · rw [if_pos h1, if_pos h1]
    refine .t (by simp; omega) ?_
    rw [w64_of (by omega) (by omega)]
    exact .bind (be_Put1 _) (.ret _)
  rw [if_neg h1, if_neg h1]
  refine .e (by simp; omega) ?_
  by_cases h2 : 0 < d ∧ d < 256
  · rw [if_pos h2, if_pos h2]
    refine .t (by simp; omega) (.bind (be_Put1 _) (.ret' ?_))
    rw [hso]
  rw [if_neg h2, if_neg h2]
  exact .e (by simp; omega) (.bind (be_Put2 _) (.ret _))
theorem flag_eq (d e : Int) (b : Bool) : bits .or .u8 (if b then bits .or .u8 (packF d 2 16) 1 else packF d 2 16) (packF e 4 32) = packF d 2 16 + onI b + packF e 4 32 := by
  rcases packF_cases d 2 16 with h | h | h | h <;> rcases packF_cases e 4 32 with k | k | k | k <;> rw [h, k] <;> cases b <;> decide
theorem okP_w {p : T_Siibe} {px py : Int} (hx : sh px = true) (hy : sh py = true) : (sh p.f0 && sh p.f1 && sh (w64 (p.f0 - px)) && sh (w64 (p.f1 - py))) = okP p px py := by
  unfold okP
  by_cases h0 : sh p.f0 = true
  · by_cases h1 : sh p.f1 = true
    · rw [sh_iff] at hx hy h0 h1
      rw [w64_of (by omega) (by omega), w64_of (by omega) (by omega)]
    · have : sh p.f1 = false := by simpa using h1
      simp [this]
  · have : sh p.f0 = false := by simpa using h0
    simp [this]
theorem i16n {x : Int} (hx : I64 x) : (!decide (x = w64 (IntKind.wrap .i16 x))) = !sh x := by rw [i16_same x hx]
theorem w64_I (x : Int) : I64 (w64 x) := by rw [w64_def]; unfold I64; omega
section
variable {a0 : T_SLLSiibeLBe} {y13 y24 : Int} {c : List T_Siibe} {p : T_Siibe} {px py : Int} (hc : nth E_LSiibe a0.f0 y13 = c) (hp : nth E_Siibe c y24 = p)
include hc hp
theorem W2_step {r : R_simple_Write} {i : Int} {e : Int} (hi : 0 ≤ i ∧ i < 4) (he : nth E_i [p.f0, p.f1, w64 (p.f0 - px), w64 (p.f1 - py)] i = e) (hI : I64 e) {J : Nat → Unit → Option R_simple_Write}
    (h : sh e = true → Ev (fun n => L_simple_Write_2 a0 y13 px py y24 (J (n + 1)) n (i + 1)) r) : Ev (fun n => L_simple_Write_2 a0 y13 px py y24 (J n) n i) (if sh e = true then r else ([], 6)) := .succ (by
  simp only [L_simple_Write_2]
  rw [hc, hp, he, i16n hI, w64_of (x := i + 1) (by omega) (by omega)]
  refine .t (decide_eq_true hi.2) (.gd hi ?_)
  by_cases hs : sh e = true
  · rw [if_pos hs]
    exact .e (by simp [hs]) (h hs)
  · rw [if_neg hs]
    exact .t (by simpa using hs) (.ret _))
theorem W2_run {r : R_simple_Write} {J : Nat → Unit → Option R_simple_Write} (hx : sh px = true) (hy : sh py = true) (hI : I64 p.f0 ∧ I64 p.f1) (h : okP p px py = true → Ev (fun n => J n ()) r) :
    Ev (fun n => L_simple_Write_2 a0 y13 px py y24 (J n) n 0) (if okP p px py = true then r else ([], 6)) := by
  rw [← okP_w hx hy] at h ⊢
  have k0 := W2_step (r := if sh p.f1 = true then (if sh (w64 (p.f0 - px)) = true then (if sh (w64 (p.f1 - py)) = true then r else ([], 6)) else ([], 6)) else ([], 6)) (px := px) (py := py) hc hp (i := 0) (e := p.f0) (by decide) rfl hI.1 (J := J) (fun h0 =>
    W2_step (px := px) (py := py) hc hp (i := 1) (e := p.f1) (by decide) rfl hI.2 (J := fun n => J (n + 1)) (fun h1 =>
      W2_step (px := px) (py := py) hc hp (i := 2) (e := w64 (p.f0 - px)) (by decide) rfl (w64_I _) (J := fun n => J (n + 1 + 1)) (fun h2 =>
        W2_step (r := r) (px := px) (py := py) hc hp (i := 3) (e := w64 (p.f1 - py)) (by decide) rfl (w64_I _) (J := fun n => J (n + 1 + 1 + 1)) (fun h3 => by
          refine .succ ?_
          simp only [L_simple_Write_2]
          exact .e (by decide) (h (by simp [h0, h1, h2, h3])).shift.shift.shift.shift.shift))))
  have e : (if (sh p.f0 && sh p.f1 && sh (w64 (p.f0 - px)) && sh (w64 (p.f1 - py))) = true then r else ([], 6)) = (if sh p.f0 = true then (if sh p.f1 = true then (if sh (w64 (p.f0 - px)) = true then (if sh (w64 (p.f1 - py)) = true then r else ([], 6)) else ([], 6)) else ([], 6)) else ([], 6)) := by
    cases sh p.f0 <;> cases sh p.f1 <;> cases sh (w64 (p.f0 - px)) <;> cases sh (w64 (p.f1 - py)) <;> rfl
  rw [e]
  exact k0
end
def WPs (c : List T_Siibe) : Prop := ∀ p ∈ c, I64 p.f0 ∧ I64 p.f1
theorem okP_sh {p : T_Siibe} {px py : Int} (h : okP p px py = true) : sh p.f0 = true ∧ sh p.f1 = true ∧ sh (p.f0 - px) = true ∧ sh (p.f1 - py) = true := by
  unfold okP at h
  simp only [Bool.and_eq_true] at h
  exact ⟨h.1.1.1, h.1.1.2, h.1.2, h.2⟩
theorem okC_last : ∀ (c : List T_Siibe) (px py : Int), okC c px py = true → sh px = true → sh py = true → sh (lastX c px) = true ∧ sh (lastY c py) = true
  | [], px, py, _, hx, hy => ⟨hx, hy⟩
  | p :: t, px, py, h, hx, hy => by
    simp only [okC, Bool.and_eq_true] at h
    have := okP_sh h.1
    exact okC_last t p.f0 p.f1 h.2 this.1 this.2.1
section
variable {a0 : T_SLLSiibeLBe} {y13 : Int} {c : List T_Siibe} (hc : nth E_LSiibe a0.f0 y13 = c) (hw : WPs c) (hcl : c.length ≤ 5000)
include hc hw hcl
theorem W1_run {r : R_simple_Write} : ∀ (t p : List T_Siibe) (px py : Int) (ob : Bool) (xs ys fl : List Int) (J : Nat → Int → Int → Bool → List Int → List Int → List Int → Option R_simple_Write), c = p ++ t → sh px = true → sh py = true →
    xs.length + 2 * t.length ≤ 100000 → ys.length + 2 * t.length ≤ 100000 → fl.length + t.length ≤ 100000 →
    (okC t px py = true → ∀ ob', Ev (fun n => J n (lastX t px) (lastY t py) ob' (xs ++ xsW t px) (ys ++ ysW t py) (fl ++ flW t px py)) r) →
    Ev (fun n => L_simple_Write_1 a0 y13 (J n) n px py ob xs ys fl (p.length : Int)) (if okC t px py = true then r else ([], 6))
  | [], p, px, py, ob, xs, ys, fl, J, hp, hx, hy, l1, l2, l3, hJ => .succ (by
      have : c.length = p.length := by rw [hp]; simp
      simp only [L_simple_Write_1]
      rw [hc]
      refine .e (by simp; omega) ?_
      simpa [okC, lastX, lastY, xsW, ysW, flW] using (hJ rfl ob).shift)
  | q :: t, p, px, py, ob, xs, ys, fl, J, hp, hx, hy, l1, l2, l3, hJ => .succ (by
      have hlen : c.length = p.length + (t.length + 1) := by rw [hp]; simp
      have hq : nth E_Siibe c (p.length : Int) = q := nth_app' hp rfl
      have hqI := hw q (by rw [hp]; simp)
      have e1 : w64 ((p.length : Int) + 1) = ((p ++ [q]).length : Int) := by rw [w64_of (by omega) (by omega)]; simp
      simp only [L_simple_Write_1]
      rw [hc, hq]
      refine .t (by simp; omega) (.lj (.gd (by omega) (.lj ?_)))
      have key := W2_run (r := if okC t q.f0 q.f1 = true then r else ([], 6)) (a0 := a0) (y13 := y13) (y24 := (p.length : Int)) (px := px) (py := py) hc hq (J := fun n (_ : Unit) =>
        Option.bind (F_simple_pack n (w64 (q.f0 - px)) 2 16) fun v33 =>
        Option.bind (F_simple_pack n (w64 (q.f1 - py)) 4 32) fun v34 =>
        gd (fits (fl.length + ([(bits .or .u8 (if q.f2 then (bits .or .u8 v33.1 1) else v33.1) v34.1)] : List Int).length) 1 = true) <|
        gd (fits (xs.length + v33.2.length) 1 = true) <|
        gd (fits (ys.length + v34.2.length) 1 = true) <|
        L_simple_Write_1 a0 y13 (J (n + 1)) n q.f0 q.f1 q.f2 (xs ++ v33.2) (ys ++ v34.2) (fl ++ ([(bits .or .u8 (if q.f2 then (bits .or .u8 v33.1 1) else v33.1) v34.1)] : List Int)) (w64 ((p.length : Int) + 1))) hx hy hqI (fun hok => by
          have hsh := okP_sh hok
          rw [sh_iff] at hx hy
          have b0 := sh_iff.1 hsh.1
          have b1 := sh_iff.1 hsh.2.1
          have pl := packB_len (q.f0 - px)
          have pl2 := packB_len (q.f1 - py)
          simp only [List.length_cons] at l1 l2 l3
          rw [w64_of (x := q.f0 - px) (by omega) (by omega), w64_of (x := q.f1 - py) (by omega) (by omega)]
          refine .bind (pack_run (by decide)) (.bind (pack_run (by decide)) ?_)
          simp only
          rw [flag_eq, e1]
          refine .gd (fits_small (by simp; omega) (by decide)) (.gd (fits_small (by omega) (by decide)) (.gd (fits_small (by omega) (by decide)) ?_))
          refine W1_run t (p ++ [q]) q.f0 q.f1 q.f2 _ _ _ (fun n => J (n + 1)) (by rw [hp]; simp) hsh.1 hsh.2.1 (by rw [List.length_append]; omega) (by rw [List.length_append]; omega) (by simp; omega) (fun ho ob' => ?_)
          have := (hJ (by simp only [okC, Bool.and_eq_true]; exact ⟨hok, ho⟩) ob').shift
          simpa [lastX, lastY, xsW, ysW, flW] using this)
      have e : (if okC (q :: t) px py = true then r else (([], 6) : R_simple_Write)) = (if okP q px py = true then (if okC t q.f0 q.f1 = true then r else ([], 6)) else ([], 6)) := by
        exact ite2 _ _ _ _
      rw [e]
      exact key)
end
section
variable {a0 : T_SLLSiibeLBe} (hw : ∀ c ∈ a0.f0, WPs c) (hcl : ∀ c ∈ a0.f0, c.length ≤ 5000) (hgl : a0.f0.length ≤ 5000)
include hw hcl hgl
theorem W0_run {r : R_simple_Write} : ∀ (t p : List (List T_Siibe)) (px py : Int) (ob : Bool) (xs ys en fl : List Int) (J : Nat → List Int → List Int → List Int → List Int → Option R_simple_Write), a0.f0 = p ++ t → sh px = true → sh py = true →
    xs.length + 2 * sumL t ≤ 100000 → ys.length + 2 * sumL t ≤ 100000 → fl.length + sumL t ≤ 100000 → en.length + 2 * t.length ≤ 100000 →
    (okG t px py = true → Ev (fun n => J n (xs ++ xsG t px) (ys ++ ysG t py) (en ++ enG t fl.length) (fl ++ flG t px py)) r) →
    Ev (fun n => L_simple_Write_0 a0 (J n) n px py ob xs ys en fl (p.length : Int)) (if okG t px py = true then r else ([], 6))
  | [], p, px, py, ob, xs, ys, en, fl, J, hp, hx, hy, l1, l2, l3, l4, hJ => .succ (by
      have : a0.f0.length = p.length := by rw [hp]; simp
      simp only [L_simple_Write_0]
      refine .e (by simp; omega) ?_
      simpa [okG, xsG, ysG, flG, enG] using (hJ rfl).shift)
  | c :: t, p, px, py, ob, xs, ys, en, fl, J, hp, hx, hy, l1, l2, l3, l4, hJ => .succ (by
      have hlen : a0.f0.length = p.length + (t.length + 1) := by rw [hp]; simp
      have hcc : nth E_LSiibe a0.f0 (p.length : Int) = c := nth_app' hp rfl
      have hmem : c ∈ a0.f0 := by rw [hp]; simp
      have hcb := hcl c hmem
      have e1 : w64 ((p.length : Int) + 1) = ((p ++ [c]).length : Int) := by rw [w64_of (by omega) (by omega)]; simp
      simp only [sumL, List.length_cons] at l1 l2 l3 l4
      have x1 := xsW_len c px
      have x2 := ysW_len c py
      have x3 := flW_len c px py
      simp only [L_simple_Write_0]
      refine .t (by simp; omega) (.lj (.gd (by omega) (.lj ?_)))
      have e : (if okG (c :: t) px py = true then r else (([], 6) : R_simple_Write)) = (if okC c px py = true then (if okG t (lastX c px) (lastY c py) = true then r else ([], 6)) else ([], 6)) := by
        exact ite2 _ _ _ _
      rw [e]
      refine W1_run (y13 := (p.length : Int)) hcc (hw c hmem) hcb c [] px py ob xs ys fl (fun n x42 x43 x44 x45 x46 x47 =>
        Option.bind (F_be_Put n (w64 ((x47.length : Int) - 1)) 2) fun v48 =>
        gd (fits (en.length + v48.length) 1 = true) <|
        L_simple_Write_0 a0 (J (n + 1)) n x42 x43 x44 x45 x46 (en ++ v48) x47 (w64 ((p.length : Int) + 1))) rfl hx hy (by omega) (by omega) (by omega) (fun hok ob' => ?_)
      have e2 : w64 (((fl ++ flW c px py).length : Int) - 1) = (fl.length : Int) + c.length - 1 := by rw [List.length_append, x3, w64_of (by omega) (by omega)]; omega
      rw [e2, e1]
      refine .bind (be_Put2 _) (.gd (fits_small (by simp [put2]; omega) (by decide)) ?_)
      have hsh := okC_last c px py hok hx hy
      refine W0_run t (p ++ [c]) _ _ ob' _ _ _ _ (fun n => J (n + 1)) (by rw [hp]; simp) hsh.1 hsh.2 (by rw [List.length_append]; omega) (by rw [List.length_append]; omega) (by rw [List.length_append]; omega) (by simp [put2]; omega) (fun ho => ?_)
      have := (hJ (by simp only [okG, Bool.and_eq_true]; exact ⟨hok, ho⟩)).shift
      have e3 : (((fl ++ flW c px py).length : Nat) : Int) = (fl.length : Int) + c.length := by rw [List.length_append, x3]; omega
      rw [e3]
      simpa [xsG, ysG, flG, enG] using this)
end
end Go.Proofs.Ytgkekjfbacncoaa
set_option linter.unusedSimpArgs false
set_option linter.unusedVariables false
open Go Go.Ab
namespace Go.Proofs.Ytgkekjfbacncoaa
theorem runL_le : ∀ (f : Int) (t : List Int) (m : Nat), runL f t m ≤ m ∧ runL f t m ≤ t.length
  | f, [], m => by cases m <;> simp [runL]
  | f, c :: t, 0 => by simp [runL]
  | f, c :: t, m + 1 => by
    simp only [runL]
    have := runL_le f t m
    split <;> simp <;> omega
/-! the question -/
theorem ask_run {a0 : T_SLLSiibeLBe} (hcl : ∀ c ∈ a0.f0, c.length ≤ 5000) (hgl : a0.f0.length ≤ 5000) : ∀ (t p : List (List T_Siibe)) (k y : Int), a0.f0 = p ++ t → 0 ≤ k → y = (if 4097 < k then 4097 else k) →
    Ev (fun n => L_simple_ask_0 a0 (fun x7 => if ((decide (4096 < x7)) || (decide (65535 < (a0.f1.length : Int)))) then some 7 else some 0) n y (p.length : Int)) (askS t a0.f1 k)
  | [], p, k, y, hp, hk, hy => .succ (by
      have : a0.f0.length = p.length := by rw [hp]; simp
      simp only [L_simple_ask_0, askS]
      refine .e (by simp; omega) ?_
      by_cases h : 4096 < k ∨ 65535 < a0.f1.length
      · rw [if_pos h]
        exact .t (by simp; split at hy <;> omega) (.ret _)
      · rw [if_neg h]
        exact .e (by simp; split at hy <;> omega) (.ret _))
  | c :: t, p, k, y, hp, hk, hy => .succ (by
      have hlen : a0.f0.length = p.length + (t.length + 1) := by rw [hp]; simp
      have hcc : nth E_LSiibe a0.f0 (p.length : Int) = c := nth_app' hp rfl
      have hcb := hcl c (by rw [hp]; simp)
      have e1 : w64 ((p.length : Int) + 1) = ((p ++ [c]).length : Int) := by rw [w64_of (by omega) (by omega)]; simp
      have hy0 : 0 ≤ y ∧ y ≤ 4097 := by split at hy <;> omega
      have e2 : w64 (y + (c.length : Int)) = y + c.length := w64_of (by omega) (by omega)
      simp only [L_simple_ask_0, askS]
      rw [hcc, e1, e2]
      refine .t (by simp; omega) (.gd (by omega) ?_)
      by_cases h0 : c.length = 0
      · rw [if_pos h0]
        exact .t (by simp [h0]) (.ret _)
      · rw [if_neg h0]
        refine .e (by simp; intro e; rw [e] at h0; exact h0 rfl) ?_
        refine ask_run hcl hgl t (p ++ [c]) (k + c.length) _ (by rw [hp]; simp) (by omega) ?_
        split at hy <;> split <;> split <;> omega)
/-! flags, packed -/
theorem P1_run {a0 t p : List Int} {f : Int} (hl : a0.length ≤ 100000) (hp : a0 = p ++ f :: t) {r : R_simple_packed} : ∀ (v u : List Int) (J : Nat → Int → Option R_simple_packed), t = u ++ v → u.length ≤ 255 →
    Ev (fun n => J n ((p.length : Int) + 1 + u.length + (runL f v (255 - u.length) : Int))) r → Ev (fun n => L_simple_packed_1 a0 (p.length : Int) (J n) n ((p.length : Int) + 1 + u.length)) r
  | [], u, J, ht, hu, hJ => .succ (by
      have hlen : a0.length = p.length + 1 + u.length := by rw [hp, ht]; simp; omega
      have : runL f [] (255 - u.length) = 0 := by unfold runL; rfl
      rw [this] at hJ
      simp only [L_simple_packed_1]
      refine .lj (.e (by simp; omega) (.e rfl ?_))
      simpa using hJ.shift)
  | c :: v, u, J, ht, hu, hJ => .succ (by
      have hlen : a0.length = p.length + 1 + u.length + (v.length + 1) := by rw [hp, ht]; simp; omega
      have h1 : nth E_B a0 ((p.length : Int) + 1 + u.length) = c := nth_app' (p := p ++ f :: u) (t := v) (by rw [hp, ht]; simp) (by simp; omega)
      have h2 : nth E_B a0 (p.length : Int) = f := nth_app' hp rfl
      have e1 : w64 ((p.length : Int) + 1 + u.length + 1) = (p.length : Int) + 1 + ((u ++ [c]).length : Int) := by rw [w64_of (by omega) (by omega)]; simp; omega
      have e2 : w64 ((p.length : Int) + 1 + u.length - (p.length : Int)) = 1 + (u.length : Int) := by rw [w64_of (by omega) (by omega)]; omega
      simp only [L_simple_packed_1]
      rw [h1, h2, e1, e2]
      refine .lj (.t (by simp; omega) (.gd (by omega) (.gd (by omega) ?_)))
      by_cases hcf : c = f
      · refine .t (decide_eq_true hcf) ?_
        by_cases hm : u.length < 255
        · refine .t (by simp; omega) ?_
          have e3 : runL f (c :: v) (255 - u.length) = 1 + runL f v (255 - (u ++ [c]).length) := by
            rw [show 255 - u.length = (255 - (u ++ [c]).length) + 1 by simp; omega]
            simp only [runL, hcf, if_true]
          rw [e3] at hJ
          refine P1_run hl hp v (u ++ [c]) (fun n => J (n + 1)) (by rw [ht]; simp) (by simp; omega) ?_
          have e4 : (p.length : Int) + 1 + ((u ++ [c]).length : Int) + (runL f v (255 - (u ++ [c]).length) : Int) = (p.length : Int) + 1 + (u.length : Int) + ((1 + runL f v (255 - (u ++ [c]).length) : Nat) : Int) := by simp; omega
          rw [e4]
          exact hJ.shift
        · refine .e (by simp; omega) ?_
          have : runL f (c :: v) (255 - u.length) = 0 := by rw [show 255 - u.length = 0 by omega]; simp [runL]
          rw [this] at hJ
          simpa using hJ.shift
      · refine .e (decide_eq_false hcf) (.e rfl ?_)
        have : runL f (c :: v) (255 - u.length) = 0 := by
          cases hk : 255 - u.length with
          | zero => simp [runL]
          | succ k => simp [runL, hcf]
        rw [this] at hJ
        simpa using hJ.shift)
theorem P0_run {a0 : List Int} (hl : a0.length ≤ 100000) (hf : ∀ f ∈ a0, bits .or .u8 f 8 = f + 8) {r : R_simple_packed} : ∀ (k : Nat) (l p acc : List Int) (J : Nat → List Int → Option R_simple_packed), a0 = p ++ l → l.length ≤ k → acc.length + 2 * k ≤ 1000000 →
    Ev (fun n => J n (acc ++ rle k l)) r → Ev (fun n => L_simple_packed_0 a0 (J n) n acc (p.length : Int)) r
  | k, [], p, acc, J, hp, hk, ha, hJ => .succ (by
      have hlen : a0.length = p.length := by rw [hp]; simp
      have : rle k [] = [] := by cases k <;> rfl
      rw [this] at hJ
      simp only [L_simple_packed_0]
      refine .e (by simp; omega) ?_
      simpa using hJ.shift)
  | 0, f :: t, p, acc, J, hp, hk, ha, hJ => by simp at hk
  | k + 1, f :: t, p, acc, J, hp, hk, ha, hJ => .succ (by
      have hlen : a0.length = p.length + (t.length + 1) := by rw [hp]; simp
      have h2 : nth E_B a0 (p.length : Int) = f := nth_app' hp rfl
      have hf8 := hf f (by rw [hp]; simp)
      have hr := runL_le f t 255
      simp only [List.length_cons] at hk
      simp only [L_simple_packed_0]
      rw [h2]
      refine .t (by simp; omega) (.lj (.lj ?_))
      -- the first look: the flag itself
      refine .succ ?_
      simp only [L_simple_packed_1]
      have e0 : w64 ((p.length : Int) - (p.length : Int)) = 0 := by rw [w64_of (by omega) (by omega)]; omega
      have e1 : w64 ((p.length : Int) + 1) = (p.length : Int) + 1 + (([] : List Int).length : Int) := by rw [w64_of (by omega) (by omega)]; simp
      rw [e0, e1]
      refine .lj (.t (by simp; omega) (.gd (by omega) (.gd (by omega) (.t (by simp) (.t (by decide) ?_)))))
      have hp' : a0 = (p ++ f :: t.take (runL f t 255)) ++ t.drop (runL f t 255) := by rw [hp]; simp
      have hpl : (((p ++ f :: t.take (runL f t 255)).length : Nat) : Int) = (p.length : Int) + 1 + (runL f t 255 : Int) := by simp [List.length_take, Nat.min_eq_left hr.2]; omega
      refine P1_run hl hp t [] (fun n x15 => if (decide (1 < (w64 (x15 - (p.length : Int))))) then
          gd (0 ≤ (p.length : Int) ∧ (p.length : Int) < a0.length) <|
          gd (fits (acc.length + ([(bits .or .u8 f 8), (IntKind.wrap .u8 ((w64 ((w64 (x15 - (p.length : Int))) - 1))))] : List Int).length) 1 = true) <|
          L_simple_packed_0 a0 (J (n + 1 + 1)) (n + 1) (acc ++ ([(bits .or .u8 f 8), (IntKind.wrap .u8 ((w64 ((w64 (x15 - (p.length : Int))) - 1))))] : List Int)) x15
        else
        gd (0 ≤ (p.length : Int) ∧ (p.length : Int) < a0.length) <|
        gd (fits (acc.length + ([f] : List Int).length) 1 = true) <|
        L_simple_packed_0 a0 (J (n + 1 + 1)) (n + 1) (acc ++ ([f] : List Int)) x15) rfl (by simp) ?_
      have e2 : (p.length : Int) + 1 + (([] : List Int).length : Int) + (runL f t (255 - ([] : List Int).length) : Int) = (((p ++ f :: t.take (runL f t 255)).length : Nat) : Int) := by rw [hpl]; simp
      rw [e2]
      have e3 : w64 ((((p ++ f :: t.take (runL f t 255)).length : Nat) : Int) - (p.length : Int)) = 1 + (runL f t 255 : Int) := by rw [hpl, w64_of (by omega) (by omega)]; omega
      have e4 : IntKind.wrap .u8 (w64 (1 + (runL f t 255 : Int) - 1)) = (runL f t 255 : Int) := by rw [w64_of (by omega) (by omega), wrap8 (by omega) (by omega)]; omega
      rw [e3, e4, hf8]
      simp only [rle] at hJ
      by_cases h0 : runL f t 255 = 0
      · rw [if_pos h0] at hJ
        refine .e (by simp; omega) (.gd (by omega) (.gd (fits_small (by simp; omega) (by decide)) ?_))
        have ih := P0_run hl hf k (t.drop (runL f t 255)) _ (acc ++ [f]) (fun n => J (n + 1)) hp' (by rw [List.length_drop]; omega) (by simp; omega) (by
          rw [List.append_assoc]; exact hJ.shift)
        exact ih.shift
      · rw [if_neg h0] at hJ
        refine .t (by simp; omega) (.gd (by omega) (.gd (fits_small (by simp; omega) (by decide)) ?_))
        have ih := P0_run hl hf k (t.drop (runL f t 255)) _ (acc ++ [f + 8, (runL f t 255 : Int)]) (fun n => J (n + 1)) hp' (by rw [List.length_drop]; omega) (by simp; omega) (by
          rw [List.append_assoc]; exact hJ.shift)
        exact ih.shift)
theorem packed_run {l : List Int} (hl : l.length ≤ 100000) (hf : ∀ f ∈ l, bits .or .u8 f 8 = f + 8) : Ev (fun n => F_simple_packed n l) (rle l.length l) := by
  simp only [F_simple_packed]
  exact .lj (P0_run hl hf l.length l [] [] (fun n x => some x) rfl (Nat.le_refl _) (by simp; omega) (.ret _))
theorem flag_8 (d e : Int) (b : Bool) : bits .or .u8 (packF d 2 16 + onI b + packF e 4 32) 8 = packF d 2 16 + onI b + packF e 4 32 + 8 := by
  rcases packF_cases d 2 16 with h | h | h | h <;> rcases packF_cases e 4 32 with k | k | k | k <;> rw [h, k] <;> cases b <;> decide
theorem flW_8 : ∀ (t : List T_Siibe) (px py : Int), ∀ f ∈ flW t px py, bits .or .u8 f 8 = f + 8
  | [], _, _, f, h => by simp [flW] at h
  | p :: t, px, py, f, h => by
    simp only [flW] at h
    rcases List.mem_cons.1 h with h | h
    · rw [h]; exact flag_8 _ _ _
    · exact flW_8 t _ _ f h
theorem flG_8 : ∀ (t : List (List T_Siibe)) (px py : Int), ∀ f ∈ flG t px py, bits .or .u8 f 8 = f + 8
  | [], _, _, f, h => by simp [flG] at h
  | c :: t, px, py, f, h => by
    simp only [flG] at h
    rcases List.mem_append.1 h with h | h
    · exact flW_8 c _ _ f h
    · exact flG_8 t _ _ f h
/-! the box -/
theorem Box1_run {a0 : List (List T_Siibe)} {y6 : Int} {c : List T_Siibe} (hc : nth E_LSiibe a0 y6 = c) (hcl : c.length ≤ 5000) {r : R_simple_Box} : ∀ (t p : List T_Siibe) (q : B5) (J : Nat → Int → Int → Int → Int → Bool → Option R_simple_Box), c = p ++ t →
    Ev (fun n => J n (t.foldl boxStep q).a (t.foldl boxStep q).b (t.foldl boxStep q).c (t.foldl boxStep q).d (t.foldl boxStep q).s) r →
    Ev (fun n => L_simple_Box_1 a0 y6 (J n) n q.a q.b q.c q.d (p.length : Int) q.s) r
  | [], p, q, J, hp, hJ => .succ (by
      have : c.length = p.length := by rw [hp]; simp
      simp only [L_simple_Box_1]
      rw [hc]
      exact .e (by simp; omega) hJ.shift)
  | x :: t, p, q, J, hp, hJ => .succ (by
      have hlen : c.length = p.length + (t.length + 1) := by rw [hp]; simp
      have hq : nth E_Siibe c (p.length : Int) = x := nth_app' hp rfl
      have e1 : w64 ((p.length : Int) + 1) = ((p ++ [x]).length : Int) := by rw [w64_of (by omega) (by omega)]; simp
      simp only [L_simple_Box_1]
      rw [hc, hq, e1]
      refine .t (by simp; omega) (.gd (by omega) ?_)
      have ih := Box1_run hc hcl t (p ++ [x]) (boxStep q x) (fun n => J (n + 1)) (by rw [hp]; simp) hJ.shift
      obtain ⟨qa, qb, qc, qd, qs⟩ := q
      cases qs <;> exact ih)
theorem Box0_run {a0 : List (List T_Siibe)} (hcl : ∀ c ∈ a0, c.length ≤ 5000) (hgl : a0.length ≤ 5000) {r : R_simple_Box} : ∀ (t p : List (List T_Siibe)) (q : B5) (J : Nat → Int → Int → Int → Int → Option R_simple_Box), a0 = p ++ t →
    Ev (fun n => J n (t.foldl (fun q c => c.foldl boxStep q) q).a (t.foldl (fun q c => c.foldl boxStep q) q).b (t.foldl (fun q c => c.foldl boxStep q) q).c (t.foldl (fun q c => c.foldl boxStep q) q).d) r →
    Ev (fun n => L_simple_Box_0 a0 (J n) n q.a q.b q.c q.d (p.length : Int) q.s) r
  | [], p, q, J, hp, hJ => .succ (by
      have : a0.length = p.length := by rw [hp]; simp
      simp only [L_simple_Box_0]
      exact .e (by simp; omega) hJ.shift)
  | c :: t, p, q, J, hp, hJ => .succ (by
      have hlen : a0.length = p.length + (t.length + 1) := by rw [hp]; simp
      have hcc : nth E_LSiibe a0 (p.length : Int) = c := nth_app' hp rfl
      have e1 : w64 ((p.length : Int) + 1) = ((p ++ [c]).length : Int) := by rw [w64_of (by omega) (by omega)]; simp
      simp only [L_simple_Box_0]
      rw [e1]
      refine .t (by simp; omega) (.lj (.gd (by omega) (.lj ?_)))
      refine Box1_run hcc (hcl c (by rw [hp]; simp)) c [] q (fun n x21 x22 x23 x24 x25 => L_simple_Box_0 a0 (J (n + 1)) n x21 x22 x23 x24 ((p ++ [c]).length : Int) x25) rfl ?_
      exact Box0_run hcl hgl t (p ++ [c]) (c.foldl boxStep q) (fun n => J (n + 1)) (by rw [hp]; simp) hJ.shift)
theorem simple_Box_ev {g : List (List T_Siibe)} (hcl : ∀ c ∈ g, c.length ≤ 5000) (hgl : g.length ≤ 5000) : Ev (fun n => F_simple_Box n g) (boxG g) := by
  simp only [F_simple_Box]
  exact .lj (Box0_run hcl hgl g [] ⟨0, 0, 0, 0, false⟩ (fun n x31 x32 x33 x34 => some ((⟨x31, x32⟩ : T_Siie), (⟨x33, x34⟩ : T_Siie))) rfl (.ret _))
/-! the head -/
theorem H_step {a0 : T_SLLSiibeLBe} {v61 : R_simple_Box} {r : R_simple_Write} {i e : Int} {acc : List Int} (hi : 0 ≤ i ∧ i < 5) (he : nth E_i [(a0.f0.length : Int), v61.1.f0, v61.1.f1, v61.2.f0, v61.2.f1] i = e) (ha : acc.length ≤ 100) {J : Nat → List Int → Option R_simple_Write}
    (h : Ev (fun n => L_simple_Write_3 a0 v61 (J (n + 1)) n (acc ++ put2 e) (i + 1)) r) : Ev (fun n => L_simple_Write_3 a0 v61 (J n) n acc i) r := .succ (by
  simp only [L_simple_Write_3]
  rw [he, w64_of (x := i + 1) (by omega) (by omega)]
  exact .t (by simp; omega) (.gd (by simp; omega) (.bind (be_Put2 _) (.gd (fits_small (by simp [put2]; omega) (by decide)) h))))
theorem H_run {a0 : T_SLLSiibeLBe} {v61 : R_simple_Box} {r : R_simple_Write} {J : Nat → List Int → Option R_simple_Write} (h : Ev (fun n => J n (put2 a0.f0.length ++ (put2 v61.1.f0 ++ (put2 v61.1.f1 ++ (put2 v61.2.f0 ++ put2 v61.2.f1))))) r) :
    Ev (fun n => L_simple_Write_3 a0 v61 (J n) n [] 0) r := by
  refine H_step (i := 0) (e := (a0.f0.length : Int)) (by decide) rfl (by simp) ?_
  refine H_step (i := 1) (e := v61.1.f0) (J := fun n => J (n + 1)) (by decide) rfl (by simp [put2]) ?_
  refine H_step (i := 2) (e := v61.1.f1) (J := fun n => J (n + 1 + 1)) (by decide) rfl (by simp [put2]) ?_
  refine H_step (i := 3) (e := v61.2.f0) (J := fun n => J (n + 1 + 1 + 1)) (by decide) rfl (by simp [put2]) ?_
  refine H_step (i := 4) (e := v61.2.f1) (J := fun n => J (n + 1 + 1 + 1 + 1)) (by decide) rfl (by simp [put2]) ?_
  refine .succ ?_
  simp only [L_simple_Write_3]
  refine .e (by simp) ?_
  have := h.shift.shift.shift.shift.shift.shift
  simpa using this
/-! the whole -/
theorem simple_Write_ev {a0 : T_SLLSiibeLBe} (hw : ∀ c ∈ a0.f0, WPs c) (hcl : ∀ c ∈ a0.f0, c.length ≤ 5000) (hgl : a0.f0.length ≤ 5000) : Ev (fun n => F_simple_Write n a0) (simpleWrite a0) := by
  unfold simpleWrite
  simp only [F_simple_Write]
  by_cases h0 : a0.f0 = []
  · rw [if_pos h0]
    refine .t (by simp [h0]) ?_
    by_cases h1 : a0.f1 = []
    · rw [if_pos h1]; exact .e (by simp [h1]) (.ret _)
    · rw [if_neg h1]; exact .t (by simp; exact List.length_pos_iff.2 h1) (.ret _)
  rw [if_neg h0]
  refine .e (by simp [h0]) ?_
  have hask : Ev (fun n => F_simple_ask n a0) (askS a0.f0 a0.f1 0) := by
    simp only [F_simple_ask]
    exact .lj (ask_run hcl hgl a0.f0 [] 0 0 rfl (by decide) rfl)
  refine .bind hask ?_
  by_cases h2 : askS a0.f0 a0.f1 0 ≠ 0
  · rw [if_pos h2]
    exact .t (by simpa using h2) (.ret _)
  rw [if_neg h2]
  have h2' : askS a0.f0 a0.f1 0 = 0 := by simpa using h2
  have hs := askS_sum a0.f0 a0.f1 0 h2'
  refine .e (by simpa using h2) (.lj ?_)
  have e : (if okG a0.f0 0 0 = false then (([], 6) : List Int × Int) else (headG a0.f0 ++ (enG a0.f0 0 ++ (put2 a0.f1.length ++ (a0.f1 ++ (rle (sumL a0.f0) (flG a0.f0 0 0) ++ (xsG a0.f0 0 ++ ysG a0.f0 0))))), 0)) =
      (if okG a0.f0 0 0 = true then (headG a0.f0 ++ (enG a0.f0 0 ++ (put2 a0.f1.length ++ (a0.f1 ++ (rle (sumL a0.f0) (flG a0.f0 0 0) ++ (xsG a0.f0 0 ++ ysG a0.f0 0))))), 0) else ([], 6)) := by
    cases okG a0.f0 0 0 <;> rfl
  rw [e]
  have x1 := xsG_len a0.f0 0
  have x2 := ysG_len a0.f0 0
  have x3 := enG_len a0.f0 0
  have x4 := flG_len a0.f0 0 0
  have x5 := rle_len (sumL a0.f0) (flG a0.f0 0 0)
  have xh : (headG a0.f0).length = 10 := by simp [headG, put2]
  refine W0_run (a0 := a0) hw hcl hgl a0.f0 [] 0 0 false [] [] [] [] (fun n x57 x58 x59 x60 =>
    Option.bind (F_simple_Box n a0.f0) fun v61 =>
    lj (fun (x69 : (List Int)) =>
      gd (fits (x69.length + x59.length) 1 = true) <|
      Option.bind (F_be_Put n (a0.f1.length : Int) 2) fun v71 =>
      gd (fits ((x69 ++ x59).length + v71.length) 1 = true) <|
      gd (fits (((x69 ++ x59) ++ v71).length + a0.f1.length) 1 = true) <|
      Option.bind (F_simple_packed n x60) fun v74 =>
      gd (fits ((((x69 ++ x59) ++ v71) ++ a0.f1).length + v74.length) 1 = true) <|
      gd (fits (((((x69 ++ x59) ++ v71) ++ a0.f1) ++ v74).length + x57.length) 1 = true) <|
      gd (fits ((((((x69 ++ x59) ++ v71) ++ a0.f1) ++ v74) ++ x57).length + x58.length) 1 = true) <|
      some (((((((x69 ++ x59) ++ v71) ++ a0.f1) ++ v74) ++ x57) ++ x58), 0)) fun j62 =>
    L_simple_Write_3 a0 v61 j62 n ([] : List Int) 0) rfl rfl rfl (by simp; omega) (by simp; omega) (by simp; omega) (by simp; omega) (fun hok => ?_)
  simp only [List.nil_append, List.length_nil]
  refine .bind (simple_Box_ev hcl hgl) (.lj ?_)
  refine H_run (J := fun n x69 =>
      gd (fits (x69.length + (enG a0.f0 0).length) 1 = true) <|
      Option.bind (F_be_Put n (a0.f1.length : Int) 2) fun v71 =>
      gd (fits ((x69 ++ (enG a0.f0 0)).length + v71.length) 1 = true) <|
      gd (fits (((x69 ++ (enG a0.f0 0)) ++ v71).length + a0.f1.length) 1 = true) <|
      Option.bind (F_simple_packed n (flG a0.f0 0 0)) fun v74 =>
      gd (fits ((((x69 ++ (enG a0.f0 0)) ++ v71) ++ a0.f1).length + v74.length) 1 = true) <|
      gd (fits (((((x69 ++ (enG a0.f0 0)) ++ v71) ++ a0.f1) ++ v74).length + (xsG a0.f0 0).length) 1 = true) <|
      gd (fits ((((((x69 ++ (enG a0.f0 0)) ++ v71) ++ a0.f1) ++ v74) ++ (xsG a0.f0 0)).length + (ysG a0.f0 0).length) 1 = true) <|
      some (((((((x69 ++ (enG a0.f0 0)) ++ v71) ++ a0.f1) ++ v74) ++ (xsG a0.f0 0)) ++ (ysG a0.f0 0)), 0)) ?_
  have ehd : (put2 a0.f0.length ++ (put2 (boxG a0.f0).1.f0 ++ (put2 (boxG a0.f0).1.f1 ++ (put2 (boxG a0.f0).2.f0 ++ put2 (boxG a0.f0).2.f1)))) = headG a0.f0 := rfl
  rw [ehd]
  have hpk := packed_run (l := flG a0.f0 0 0) (by omega) (flG_8 a0.f0 0 0)
  rw [x4] at hpk
  have p2 : ∀ x : Int, (put2 x).length = 2 := fun x => rfl
  have hs1 := hs.1
  have hs2 := hs.2.1
  refine .gd (fits_small (by omega) (by decide)) (.bind (be_Put2 _) (.gd (fits_small (by simp only [List.length_append, p2]; omega) (by decide)) (.gd (fits_small (by simp only [List.length_append, p2]; omega) (by decide)) (.bind hpk
    (.gd (fits_small (by simp only [List.length_append, p2]; omega) (by decide)) (.gd (fits_small (by simp only [List.length_append, p2]; omega) (by decide)) (.gd (fits_small (by simp only [List.length_append, p2]; omega) (by decide)) (.ret' ?_))))))))
  simp only [List.append_assoc]
end Go.Proofs.Ytgkekjfbacncoaa
set_option linter.unusedSimpArgs false
set_option linter.unusedVariables false
open Go Go.Ab
namespace Go.Proofs.Ytgkekjfbacncoaa
/-! great; copy -/
def grL : List (List T_Siibe) → Int → Bool
  | [], k => decide (9000 < k)
  | c :: t, k => if 5000 < c.length then true else grL t (k + c.length)
def greatS (g : List (List T_Siibe)) : Bool := if 600 < g.length then true else grL g 0
theorem grL_small : ∀ (t : List (List T_Siibe)) (k : Int), grL t k = false → (∀ c ∈ t, c.length ≤ 5000) ∧ k + sumL t ≤ 9000
  | [], k, h => by simp [grL] at h; simp [sumL]; omega
  | c :: t, k, h => by
    simp only [grL] at h
    split at h
    · simp at h
    · have := grL_small t _ h
      refine ⟨fun x hx => ?_, by simp only [sumL]; omega⟩
      rcases List.mem_cons.1 hx with hx | hx
      · rw [hx]; omega
      · exact this.1 x hx
theorem great_small {g : List (List T_Siibe)} (h : greatS g = false) : g.length ≤ 600 ∧ (∀ c ∈ g, c.length ≤ 5000) ∧ sumL g ≤ 9000 := by
  unfold greatS at h
  split at h
  · simp at h
  · have := grL_small g 0 h
    exact ⟨by omega, this.1, by omega⟩
theorem Gr_run {a0 : List (List T_Siibe)} (hgl : a0.length ≤ 600) : ∀ (t p : List (List T_Siibe)) (k : Int), a0 = p ++ t → 0 ≤ k → k ≤ 5000 * p.length → Ev (fun n => L_r07_Great_0 a0 (fun x8 => some (decide (9000 < x8))) n (p.length : Int) k) (grL t k)
  | [], p, k, hp, hk, hk2 => .succ (by
      have : a0.length = p.length := by rw [hp]; simp
      simp only [L_r07_Great_0, grL]
      exact .e (by simp; omega) (.ret _))
  | c :: t, p, k, hp, hk, hk2 => .succ (by
      have hlen : a0.length = p.length + (t.length + 1) := by rw [hp]; simp
      have hcc : nth E_LSiibe a0 (p.length : Int) = c := nth_app' hp rfl
      simp only [L_r07_Great_0, grL]
      rw [hcc]
      refine .t (by simp; omega) (.gd (by omega) ?_)
      by_cases h : 5000 < c.length
      · rw [if_pos h]; exact .t (by simp; omega) (.ret _)
      · rw [if_neg h]
        refine .e (by simp; omega) ?_
        rw [w64_of (x := (p.length : Int) + 1) (by omega) (by omega), w64_of (x := k + (c.length : Int)) (by omega) (by omega)]
        have := Gr_run hgl t (p ++ [c]) (k + c.length) (by rw [hp]; simp) (by omega) (by simp; omega)
        simpa using this)
theorem r07_Great_ev {g : List (List T_Siibe)} : Ev (fun n => F_r07_Great n g) (greatS g) := by
  simp only [F_r07_Great]
  unfold greatS
  by_cases h : 600 < g.length
  · rw [if_pos h]; exact .t (by simp; omega) (.ret _)
  · rw [if_neg h]; exact .e (by simp; omega) (.lj (Gr_run (by omega) g [] 0 rfl (by omega) (by simp)))
/-! what is written, by cases -/
def goodW (a : T_SLLSiibeLBe) : List Int := headG a.f0 ++ (enG a.f0 0 ++ (put2 a.f1.length ++ (a.f1 ++ (rle (sumL a.f0) (flG a.f0 0 0) ++ (xsG a.f0 0 ++ ysG a.f0 0)))))
theorem sw_cases (a : T_SLLSiibeLBe) : (a.f0 = [] ∧ simpleWrite a = ([], if a.f1 = [] then 0 else 4)) ∨ (a.f0 ≠ [] ∧ ∃ e, e ≠ 0 ∧ simpleWrite a = ([], e)) ∨ (a.f0 ≠ [] ∧ askS a.f0 a.f1 0 = 0 ∧ okG a.f0 0 0 = true ∧ simpleWrite a = (goodW a, 0)) := by
  unfold simpleWrite
  by_cases h0 : a.f0 = []
  · left; rw [if_pos h0]; exact ⟨h0, rfl⟩
  · right
    rw [if_neg h0]
    by_cases h1 : askS a.f0 a.f1 0 ≠ 0
    · left; rw [if_pos h1]; exact ⟨h0, _, h1, rfl⟩
    · rw [if_neg h1]
      by_cases h2 : okG a.f0 0 0 = false
      · left; rw [if_pos h2]; exact ⟨h0, 6, by decide, rfl⟩
      · right; rw [if_neg h2]; exact ⟨h0, by simpa using h1, by simpa using h2, rfl⟩
theorem rle_le : ∀ (n : Nat) (l : List Int), (rle n l).length ≤ l.length
  | 0, _ => by simp [rle]
  | n + 1, [] => by simp [rle]
  | n + 1, f :: t => by
    simp only [rle, List.length_append, List.length_cons]
    have := rle_le n (t.drop (runL f t 255))
    have hr := runL_le f t 255
    rw [List.length_drop] at this
    split <;> simp <;> omega
theorem rle_pos (n : Nat) (f : Int) (t : List Int) : 1 ≤ (rle (n + 1) (f :: t)).length := by
  simp only [rle, List.length_append]
  split <;> simp <;> omega
theorem goodW_len {a : T_SLLSiibeLBe} (h0 : a.f0 ≠ []) (h1 : askS a.f0 a.f1 0 = 0) : 12 + 2 * a.f0.length + a.f1.length < (goodW a).length ∧ (goodW a).length ≤ 12 + 2 * a.f0.length + a.f1.length + 5 * sumL a.f0 ∧ sumL a.f0 ≤ 4096 ∧ a.f1.length ≤ 65535 := by
  have hs := askS_sum a.f0 a.f1 0 h1
  have x1 := xsG_len a.f0 0
  have x2 := ysG_len a.f0 0
  have x3 := enG_len a.f0 0
  have x4 := flG_len a.f0 0 0
  have x5 := rle_le (sumL a.f0) (flG a.f0 0 0)
  have xh : (headG a.f0).length = 10 := by simp [headG, put2]
  have p2 : ∀ x : Int, (put2 x).length = 2 := fun x => rfl
  have hpos : 1 ≤ (rle (sumL a.f0) (flG a.f0 0 0)).length := by
    cases hk : sumL a.f0 with
    | zero =>
      exfalso
      cases hg : a.f0 with
      | nil => exact h0 hg
      | cons c t =>
        have := hs.2.2 c (by rw [hg]; simp)
        rw [hg] at hk
        simp only [sumL] at hk
        omega
    | succ k =>
      cases hl : flG a.f0 0 0 with
      | nil => rw [hl] at x4; simp at x4; omega
      | cons f t => exact rle_pos k f t
  unfold goodW
  simp only [List.length_append, p2]
  have := hs.2.1
  omega
end Go.Proofs.Ytgkekjfbacncoaa
set_option linter.unusedSimpArgs false
set_option linter.unusedVariables false
open Go Go.Ab
namespace Go.Proofs.Ytgkekjfbacncoaa
/-! ### all the points in one row -/
theorem lastX_app : ∀ (a b : List T_Siibe) (px : Int), lastX (a ++ b) px = lastX b (lastX a px)
  | [], b, px => rfl
  | p :: a, b, px => lastX_app a b p.f0
theorem lastY_app : ∀ (a b : List T_Siibe) (py : Int), lastY (a ++ b) py = lastY b (lastY a py)
  | [], b, py => rfl
  | p :: a, b, py => lastY_app a b p.f1
theorem flW_app : ∀ (a b : List T_Siibe) (px py : Int), flW (a ++ b) px py = flW a px py ++ flW b (lastX a px) (lastY a py)
  | [], b, px, py => rfl
  | p :: a, b, px, py => by simp only [List.cons_append, flW, flW_app a b, lastX, lastY]
theorem xsW_app : ∀ (a b : List T_Siibe) (px : Int), xsW (a ++ b) px = xsW a px ++ xsW b (lastX a px)
  | [], b, px => rfl
  | p :: a, b, px => by simp only [List.cons_append, xsW, xsW_app a b, lastX, List.append_assoc]
theorem ysW_app : ∀ (a b : List T_Siibe) (px : Int), ysW (a ++ b) px = ysW a px ++ ysW b (lastY a px)
  | [], b, px => rfl
  | p :: a, b, px => by simp only [List.cons_append, ysW, ysW_app a b, lastY, List.append_assoc]
theorem okC_app : ∀ (a b : List T_Siibe) (px py : Int), okC (a ++ b) px py = (okC a px py && okC b (lastX a px) (lastY a py))
  | [], b, px, py => by simp [okC, lastX, lastY]
  | p :: a, b, px, py => by simp only [List.cons_append, okC, okC_app a b, lastX, lastY, Bool.and_assoc]
theorem flG_flat : ∀ (g : List (List T_Siibe)) (px py : Int), flG g px py = flW g.flatten px py
  | [], _, _ => rfl
  | c :: t, px, py => by simp only [flG, List.flatten_cons, flW_app, flG_flat t]
theorem xsG_flat : ∀ (g : List (List T_Siibe)) (px : Int), xsG g px = xsW g.flatten px
  | [], _ => rfl
  | c :: t, px => by simp only [xsG, List.flatten_cons, xsW_app, xsG_flat t]
theorem ysG_flat : ∀ (g : List (List T_Siibe)) (px : Int), ysG g px = ysW g.flatten px
  | [], _ => rfl
  | c :: t, px => by simp only [ysG, List.flatten_cons, ysW_app, ysG_flat t]
theorem okG_flat : ∀ (g : List (List T_Siibe)) (px py : Int), okG g px py = okC g.flatten px py
  | [], _, _ => rfl
  | c :: t, px, py => by simp only [okG, List.flatten_cons, okC_app, okG_flat t]
theorem sumL_flat : ∀ (g : List (List T_Siibe)), g.flatten.length = sumL g
  | [] => rfl
  | c :: t => by simp only [sumL, List.flatten_cons, List.length_append, sumL_flat t]
/-! ### numbers -/
theorem rU2_ok {v : Int} (h0 : 0 ≤ v) (h1 : v ≤ 65535) (R : List Int) : rU 2 (put2 v ++ R) = .ok (v, R) := by
  unfold rU
  rw [if_neg (by simp [put2])]
  have e : (put2 v ++ R).take 2 = put2 v := rfl
  have e2 : (put2 v ++ R).drop 2 = R := rfl
  rw [e, e2, beU_put2 h0 h1]
theorem rU2_mod (v : Int) (R : List Int) : rU 2 (put2 v ++ R) = .ok (v % 65536, R) := by
  unfold rU
  rw [if_neg (by simp [put2])]
  have e : (put2 v ++ R).take 2 = put2 v := rfl
  have e2 : (put2 v ++ R).drop 2 = R := rfl
  rw [e, e2]
  have : beU (put2 v) = v % 65536 := by simp only [beU, put2, List.foldl]; omega
  rw [this]
theorem rU1_ok (v : Int) (R : List Int) : rU 1 (v :: R) = .ok (v, R) := by simp [rU, beU]
theorem rU_cut {w : Nat} {s : List Int} (h : s.length < w) : rU w s = .error 3 := by unfold rU; rw [if_pos h]
/-! ### ends -/
def enL : List (List T_Siibe) → Int → List Int
  | [], _ => []
  | c :: t, k => (k + c.length - 1) :: enL t (k + c.length)
theorem enL_len : ∀ (g : List (List T_Siibe)) (k : Int), (enL g k).length = g.length
  | [], _ => rfl
  | c :: t, k => by simp [enL, enL_len t]
theorem ends_ok : ∀ (g : List (List T_Siibe)) (k : Int) (R : List Int), 0 ≤ k → k + sumL g ≤ 65535 → (∀ c ∈ g, c.length ≠ 0) → endsE g.length (enG g k ++ R) = .ok (enL g k, R)
  | [], _, R, _, _, _ => rfl
  | c :: t, k, R, hk, hs, hn => by
    have hc := hn c (by simp)
    simp only [sumL] at hs
    simp only [List.length_cons, endsE, enG, List.append_assoc]
    rw [rU2_ok (by omega) (by omega)]
    simp only
    rw [ends_ok t (k + c.length) R (by omega) (by omega) (fun x hx => hn x (by simp [hx]))]
    rfl
theorem ends_cut : ∀ (g : List (List T_Siibe)) (k : Int) (j : Nat), 0 ≤ k → k + sumL g ≤ 65535 → (∀ c ∈ g, c.length ≠ 0) → j < (enG g k).length → endsE g.length ((enG g k).take j) = .error 3
  | [], _, j, _, _, _, hj => by simp [enG] at hj
  | c :: t, k, j, hk, hs, hn, hj => by
    have hc := hn c (by simp)
    simp only [sumL] at hs
    simp only [enG, List.length_append, show ∀ x, (put2 x).length = 2 from fun _ => rfl] at hj
    simp only [List.length_cons, endsE, enG]
    by_cases h2 : j < 2
    · rw [rU_cut (by rw [List.length_take]; omega)]
    · obtain ⟨i, rfl⟩ : ∃ i, j = i + 2 := ⟨j - 2, by omega⟩
      have e : (put2 (k + (c.length : Int) - 1) ++ enG t (k + c.length)).take (i + 2) = put2 (k + (c.length : Int) - 1) ++ (enG t (k + c.length)).take i := rfl
      rw [e, rU2_ok (by omega) (by omega)]
      simp only
      rw [ends_cut t (k + c.length) i (by omega) (by omega) (fun x hx => hn x (by simp [hx])) (by omega)]
theorem enL_rise : ∀ (g : List (List T_Siibe)) (k : Int), (∀ c ∈ g, c.length ≠ 0) → rising (enL g k) = true
  | [], _, _ => rfl
  | [c], _, _ => rfl
  | c :: d :: t, k, hn => by
    have hd := hn d (by simp)
    have ih := enL_rise (d :: t) (k + c.length) (fun x hx => hn x (by simp at hx ⊢; exact .inr hx))
    simp only [enL, rising, Bool.and_eq_true, decide_eq_true_eq] at ih ⊢
    exact ⟨by omega, ih⟩
theorem enL_last : ∀ (g : List (List T_Siibe)) (k : Int), g ≠ [] → lastI (enL g k) = k + sumL g - 1
  | [], _, h => absurd rfl h
  | [c], k, _ => by simp [enL, lastI, sumL]
  | c :: d :: t, k, _ => by
    have ih := enL_last (d :: t) (k + c.length) (by simp)
    have e : lastI (enL (c :: d :: t) k) = lastI (enL (d :: t) (k + c.length)) := rfl
    rw [e, ih]
    simp only [sumL]; omega
theorem cut_flat : ∀ (g : List (List T_Siibe)) (k : Int), cutK (enL g k) k g.flatten = g
  | [], _ => rfl
  | c :: t, k => by
    simp only [enL, cutK, List.flatten_cons]
    rw [show (k + (c.length : Int) - 1 + 1 - k).toNat = c.length by omega, List.take_left, List.drop_left, show k + (c.length : Int) - 1 + 1 = k + c.length by omega, cut_flat t]
/-! ### code -/
theorem code_ok (code R : List Int) (h : code.length ≤ 65535) : codeE (put2 code.length ++ (code ++ R)) = .ok (code, R) := by
  unfold codeE
  rw [rU2_ok (by omega) (by omega)]
  simp only
  rw [if_neg (by rw [List.length_append]; omega), Int.toNat_natCast, List.take_left, List.drop_left]
theorem code_cut (code : List Int) (j : Nat) (h : code.length ≤ 65535) (hj : j < 2 + code.length) : codeE ((put2 code.length ++ code).take j) = .error 3 := by
  unfold codeE
  by_cases h2 : j < 2
  · rw [rU_cut (by rw [List.length_take]; omega)]
  · obtain ⟨i, rfl⟩ : ∃ i, j = i + 2 := ⟨j - 2, by omega⟩
    have e : (put2 (code.length : Int) ++ code).take (i + 2) = put2 (code.length : Int) ++ code.take i := rfl
    rw [e, rU2_ok (by omega) (by omega)]
    simp only
    rw [if_pos (by rw [List.length_take]; omega)]
/-! ### flags -/
def E8 : List Int → List Int → Prop
  | [], [] => True
  | f :: t, f' :: t' => (f' = f ∨ f' = f + 8) ∧ E8 t t'
  | _, _ => False
theorem E8_app : ∀ {a a' b b' : List Int}, E8 a a' → E8 b b' → E8 (a ++ b) (a' ++ b')
  | [], [], b, b', _, h => h
  | f :: t, f' :: t', b, b', h, h' => ⟨h.1, E8_app h.2 h'⟩
  | [], _ :: _, _, _, h, _ => h.elim
  | _ :: _, [], _, _, h, _ => h.elim
theorem E8_rep (f : Int) : ∀ k : Nat, E8 (List.replicate k f) (List.replicate k (f + 8))
  | 0 => trivial
  | k + 1 => ⟨.inr rfl, E8_rep f k⟩
theorem E8_len : ∀ {a a' : List Int}, E8 a a' → a'.length = a.length
  | [], [], _ => rfl
  | f :: t, f' :: t', h => by simp [E8_len h.2]
  | [], _ :: _, h => h.elim
  | _ :: _, [], h => h.elim
theorem runL_rep : ∀ (f : Int) (t : List Int) (m : Nat), t.take (runL f t m) = List.replicate (runL f t m) f
  | f, [], m => by cases m <;> simp [runL]
  | f, c :: t, 0 => by simp [runL]
  | f, c :: t, m + 1 => by
    simp only [runL]
    by_cases h : c = f
    · rw [if_pos h, Nat.add_comm 1]
      simp only [List.take_succ_cons, List.replicate_succ, runL_rep f t m, h]
    · rw [if_neg h]; rfl
theorem flags_ok : ∀ (n K : Nat) (l R : List Int), l.length ≤ n → l.length ≤ K → (∀ f ∈ l, 0 ≤ f ∧ f < 64 ∧ f / 8 % 2 = 0) → ∃ l', flagsE K l.length (rle n l ++ R) = .ok (l', R) ∧ E8 l l'
  | n, K, [], R, _, _, _ => by
    have : rle n [] = [] := by cases n <;> rfl
    rw [this]
    exact ⟨[], flagsE_zero K R, trivial⟩
  | 0, K, f :: t, R, h, _, _ => by simp at h
  | n + 1, 0, f :: t, R, _, h, _ => by simp at h
  | n + 1, K + 1, f :: t, R, hn, hK, hf => by
    have hf0 := hf f (by simp)
    have hr := runL_le f t 255
    simp only [List.length_cons] at hn hK
    have hl : (t.drop (runL f t 255)).length = t.length - runL f t 255 := List.length_drop
    obtain ⟨l', h1, h2⟩ := flags_ok n K (t.drop (runL f t 255)) R (by omega) (by omega) (fun x hx => hf x (by simp [List.mem_of_mem_drop hx]))
    rw [hl] at h1
    simp only [List.length_cons, flagsE, rle]
    by_cases h0 : runL f t 255 = 0
    · rw [if_pos h0]
      simp only [List.cons_append, List.nil_append, rU1_ok]
      unfold againE
      rw [if_neg (by omega)]
      simp only
      rw [if_neg (by omega), show t.length - (0 : Int).toNat = t.length - runL f t 255 by simp [h0], h1]
      refine ⟨_, rfl, ?_⟩
      rw [h0] at h2
      exact ⟨.inl rfl, h2⟩
    · rw [if_neg h0]
      simp only [List.cons_append, List.nil_append, rU1_ok]
      unfold againE
      rw [if_pos (by omega)]
      simp only [rU1_ok]
      rw [if_neg (by omega), Int.toNat_natCast, h1]
      refine ⟨_, rfl, ?_⟩
      have e : f :: t = List.replicate (runL f t 255 + 1) f ++ t.drop (runL f t 255) := by
        rw [List.replicate_succ, ← runL_rep, List.cons_append, List.take_append_drop]
      rw [e]
      exact E8_app (E8_rep f _) h2
theorem flags_cut : ∀ (n K : Nat) (l : List Int) (j : Nat), l.length ≤ n → l.length ≤ K → (∀ f ∈ l, 0 ≤ f ∧ f < 64 ∧ f / 8 % 2 = 0) → j < (rle n l).length → flagsE K l.length ((rle n l).take j) = .error 3
  | n, K, [], j, _, _, _, hj => by
    have : rle n [] = [] := by cases n <;> rfl
    rw [this] at hj; simp at hj
  | 0, K, f :: t, j, h, _, _, _ => by simp at h
  | n + 1, 0, f :: t, j, _, h, _, _ => by simp at h
  | n + 1, K + 1, f :: t, j, hn, hK, hf, hj => by
    have hf0 := hf f (by simp)
    have hr := runL_le f t 255
    simp only [List.length_cons] at hn hK
    have hl : (t.drop (runL f t 255)).length = t.length - runL f t 255 := List.length_drop
    have ih := fun i hi => flags_cut n K (t.drop (runL f t 255)) i (by omega) (by omega) (fun x hx => hf x (by simp [List.mem_of_mem_drop hx])) hi
    rw [hl] at ih
    simp only [rle] at hj
    simp only [List.length_cons, flagsE, rle]
    by_cases h0 : runL f t 255 = 0
    · rw [if_pos h0] at hj ⊢
      simp only [List.cons_append, List.nil_append, List.length_cons] at hj
      simp only [List.cons_append, List.nil_append]
      cases j with
      | zero => rw [List.take_zero, rU_cut (by simp)]
      | succ i =>
        rw [List.take_succ_cons, rU1_ok]
        unfold againE
        simp only
        rw [if_neg (by omega)]
        simp only
        rw [if_neg (by omega), show t.length - (0 : Int).toNat = t.length - runL f t 255 by simp [h0], ih i (by omega)]
    · rw [if_neg h0] at hj ⊢
      simp only [List.cons_append, List.nil_append, List.length_cons] at hj
      simp only [List.cons_append, List.nil_append]
      cases j with
      | zero => rw [List.take_zero, rU_cut (by simp)]
      | succ i =>
        rw [List.take_succ_cons, rU1_ok]
        unfold againE
        simp only
        rw [if_pos (by omega)]
        cases i with
        | zero => rw [List.take_zero, rU_cut (by simp)]
        | succ i =>
          rw [List.take_succ_cons, rU1_ok]
          simp only
          rw [if_neg (by omega), Int.toNat_natCast, ih i (by omega)]
theorem flag_no8 (d e : Int) (b : Bool) : (packF d 2 16 + onI b + packF e 4 32) / 8 % 2 = 0 := by
  rcases packF_cases d 2 16 with h | h | h | h <;> rcases packF_cases e 4 32 with k | k | k | k <;> rw [h, k] <;> cases b <;> decide
theorem flag_bd' (d e : Int) (b : Bool) : 0 ≤ packF d 2 16 + onI b + packF e 4 32 ∧ packF d 2 16 + onI b + packF e 4 32 < 64 := by
  rcases packF_cases d 2 16 with h | h | h | h <;> rcases packF_cases e 4 32 with k | k | k | k <;> rw [h, k] <;> cases b <;> decide
theorem flW_good : ∀ (t : List T_Siibe) (px py : Int), ∀ f ∈ flW t px py, 0 ≤ f ∧ f < 64 ∧ f / 8 % 2 = 0
  | [], _, _, f, h => by simp [flW] at h
  | p :: t, px, py, f, h => by
    simp only [flW] at h
    rcases List.mem_cons.1 h with h | h
    · rw [h]; exact ⟨(flag_bd' _ _ _).1, (flag_bd' _ _ _).2, flag_no8 _ _ _⟩
    · exact flW_good t _ _ f h
/-! ### steps -/
theorem step_ok {f s a d v : Int} (hs : (f / s % 2 = 1) ↔ (d ≠ 0 ∧ -256 < d ∧ d < 256)) (ha : (f / a % 2 = 1) ↔ (d = 0 ∨ (0 < d ∧ d < 256))) (hd : sh d = true) (R : List Int) : stepE f s a v (packB d ++ R) = .ok (v + d, R) := by
  rw [sh_iff] at hd
  unfold stepE packB
  by_cases h0 : d = 0
  · rw [if_neg (by rw [hs]; omega), if_pos (by rw [ha]; omega), if_pos h0, h0]; simp
  rw [if_neg h0]
  by_cases h1 : -256 < d ∧ d < 0
  · rw [if_pos (by rw [hs]; omega), if_pos h1]
    have e : put1 (0 - d) ++ R = (0 - d) :: R := by
      have : (0 - d) % 256 = 0 - d := by omega
      simp [put1] at this ⊢; omega
    rw [e, rU1_ok]
    simp only
    rw [if_neg (by rw [ha]; omega)]
    congr 2; omega
  rw [if_neg h1]
  by_cases h2 : 0 < d ∧ d < 256
  · rw [if_pos (by rw [hs]; omega), if_pos h2]
    have e : put1 d ++ R = d :: R := by
      have : d % 256 = d := by omega
      simp [put1]; omega
    rw [e, rU1_ok]
    simp only
    rw [if_pos (by rw [ha]; omega)]
  rw [if_neg h2, if_neg (by rw [hs]; omega), if_neg (by rw [ha]; omega), rU2_mod]
  simp only
  congr 2
  split <;> omega
theorem step_cut {f s a d v : Int} (hs : (f / s % 2 = 1) ↔ (d ≠ 0 ∧ -256 < d ∧ d < 256)) (ha : (f / a % 2 = 1) ↔ (d = 0 ∨ (0 < d ∧ d < 256))) {j : Nat} (hj : j < (packB d).length) : stepE f s a v ((packB d).take j) = .error 3 := by
  unfold stepE
  unfold packB at hj ⊢
  by_cases h0 : d = 0
  · rw [if_pos h0] at hj; simp at hj
  rw [if_neg h0] at hj ⊢
  by_cases h1 : -256 < d ∧ d < 0
  · rw [if_pos h1] at hj ⊢
    rw [if_pos (by rw [hs]; omega), rU_cut (by rw [List.length_take]; simp [put1] at hj ⊢; omega)]
  rw [if_neg h1] at hj ⊢
  by_cases h2 : 0 < d ∧ d < 256
  · rw [if_pos h2] at hj ⊢
    rw [if_pos (by rw [hs]; omega), rU_cut (by rw [List.length_take]; simp [put1] at hj ⊢; omega)]
  rw [if_neg h2] at hj ⊢
  rw [if_neg (by rw [hs]; omega), if_neg (by rw [ha]; omega), rU_cut (by rw [List.length_take]; simp [put2] at hj ⊢; omega)]
theorem packF_s (d s a : Int) : (packF d s a = a ∧ d = 0) ∨ (packF d s a = s ∧ -256 < d ∧ d < 0) ∨ (packF d s a = s + a ∧ 0 < d ∧ d < 256) ∨ (packF d s a = 0 ∧ d ≠ 0 ∧ ¬ (-256 < d ∧ d < 256)) := by
  unfold packF
  split
  · exact .inl ⟨rfl, by assumption⟩
  · split
    · exact .inr (.inl ⟨rfl, by assumption⟩)
    · split
      · exact .inr (.inr (.inl ⟨rfl, by assumption⟩))
      · exact .inr (.inr (.inr ⟨rfl, by omega, by omega⟩))
theorem flag_bits {d e f : Int} {b : Bool} (hf : f = packF d 2 16 + onI b + packF e 4 32 ∨ f = packF d 2 16 + onI b + packF e 4 32 + 8) :
    ((f / 2 % 2 = 1) ↔ (d ≠ 0 ∧ -256 < d ∧ d < 256)) ∧ ((f / 16 % 2 = 1) ↔ (d = 0 ∨ (0 < d ∧ d < 256))) ∧
    ((f / 4 % 2 = 1) ↔ (e ≠ 0 ∧ -256 < e ∧ e < 256)) ∧ ((f / 32 % 2 = 1) ↔ (e = 0 ∨ (0 < e ∧ e < 256))) ∧ decide (f % 2 = 1) = b := by
  have hb : (onI b = 1 ∧ b = true) ∨ (onI b = 0 ∧ b = false) := by cases b; exact .inr ⟨rfl, rfl⟩; exact .inl ⟨rfl, rfl⟩
  have hx := packF_s d 2 16
  have hy := packF_s e 4 32
  generalize packF d 2 16 = X at *
  generalize packF e 4 32 = Y at *
  generalize onI b = B at *
  refine ⟨by omega, by omega, by omega, by omega, ?_⟩
  rcases hb with ⟨h1, h2⟩ | ⟨h1, h2⟩
  · rw [h2]; exact decide_eq_true (by omega)
  · rw [h2]; exact decide_eq_false (by omega)
theorem steps_x : ∀ (t : List T_Siibe) (px py : Int) (fl R : List Int), okC t px py = true → E8 (flW t px py) fl → stepsE 2 16 fl px (xsW t px ++ R) = .ok (t.map T_Siibe.f0, R)
  | [], px, py, [], R, _, _ => rfl
  | [], px, py, _ :: _, R, _, h => h.elim
  | p :: t, px, py, [], R, _, h => h.elim
  | p :: t, px, py, f :: fl, R, hok, hE => by
    simp only [okC, Bool.and_eq_true] at hok
    have hsh := okP_sh hok.1
    obtain ⟨b1, b2, _⟩ := flag_bits hE.1
    simp only [stepsE, xsW, List.append_assoc]
    rw [step_ok b1 b2 hsh.2.2.1]
    have e : px + (p.f0 - px) = p.f0 := by omega
    have h1 := sh_iff.1 hsh.1
    simp only
    rw [e, if_neg (by omega), steps_x t p.f0 p.f1 fl R hok.2 hE.2]
    rfl
theorem steps_y : ∀ (t : List T_Siibe) (px py : Int) (fl R : List Int), okC t px py = true → E8 (flW t px py) fl → stepsE 4 32 fl py (ysW t py ++ R) = .ok (t.map T_Siibe.f1, R)
  | [], px, py, [], R, _, _ => rfl
  | [], px, py, _ :: _, R, _, h => h.elim
  | p :: t, px, py, [], R, _, h => h.elim
  | p :: t, px, py, f :: fl, R, hok, hE => by
    simp only [okC, Bool.and_eq_true] at hok
    have hsh := okP_sh hok.1
    obtain ⟨_, _, b1, b2, _⟩ := flag_bits hE.1
    simp only [stepsE, ysW, List.append_assoc]
    rw [step_ok b1 b2 hsh.2.2.2]
    have e : py + (p.f1 - py) = p.f1 := by omega
    have h1 := sh_iff.1 hsh.2.1
    simp only
    rw [e, if_neg (by omega), steps_y t p.f0 p.f1 fl R hok.2 hE.2]
    rfl
theorem steps_x_cut : ∀ (t : List T_Siibe) (px py : Int) (fl : List Int) (j : Nat), okC t px py = true → E8 (flW t px py) fl → j < (xsW t px).length → stepsE 2 16 fl px ((xsW t px).take j) = .error 3
  | [], px, py, fl, j, _, _, hj => by simp [xsW] at hj
  | p :: t, px, py, [], j, _, h, _ => h.elim
  | p :: t, px, py, f :: fl, j, hok, hE, hj => by
    simp only [okC, Bool.and_eq_true] at hok
    have hsh := okP_sh hok.1
    obtain ⟨b1, b2, _⟩ := flag_bits hE.1
    simp only [xsW, List.length_append] at hj
    simp only [stepsE, xsW]
    by_cases h : j < (packB (p.f0 - px)).length
    · rw [List.take_append_of_le_length (by omega), step_cut b1 b2 h]
    · rw [List.take_append, List.take_of_length_le (by omega), step_ok b1 b2 hsh.2.2.1]
      have e : px + (p.f0 - px) = p.f0 := by omega
      have h1 := sh_iff.1 hsh.1
      simp only
      rw [e, if_neg (by omega), steps_x_cut t p.f0 p.f1 fl _ hok.2 hE.2 (by omega)]
theorem steps_y_cut : ∀ (t : List T_Siibe) (px py : Int) (fl : List Int) (j : Nat), okC t px py = true → E8 (flW t px py) fl → j < (ysW t py).length → stepsE 4 32 fl py ((ysW t py).take j) = .error 3
  | [], px, py, fl, j, _, _, hj => by simp [ysW] at hj
  | p :: t, px, py, [], j, _, h, _ => h.elim
  | p :: t, px, py, f :: fl, j, hok, hE, hj => by
    simp only [okC, Bool.and_eq_true] at hok
    have hsh := okP_sh hok.1
    obtain ⟨_, _, b1, b2, _⟩ := flag_bits hE.1
    simp only [ysW, List.length_append] at hj
    simp only [stepsE, ysW]
    by_cases h : j < (packB (p.f1 - py)).length
    · rw [List.take_append_of_le_length (by omega), step_cut b1 b2 h]
    · rw [List.take_append, List.take_of_length_le (by omega), step_ok b1 b2 hsh.2.2.2]
      have e : py + (p.f1 - py) = p.f1 := by omega
      have h1 := sh_iff.1 hsh.2.1
      simp only
      rw [e, if_neg (by omega), steps_y_cut t p.f0 p.f1 fl _ hok.2 hE.2 (by omega)]
theorem zip_back : ∀ (t : List T_Siibe) (px py : Int) (fl : List Int), E8 (flW t px py) fl → zipK (t.map T_Siibe.f0) (t.map T_Siibe.f1) fl = t
  | [], px, py, fl, _ => by simp [zipK]
  | p :: t, px, py, [], h => h.elim
  | p :: t, px, py, f :: fl, hE => by
    obtain ⟨_, _, _, _, b⟩ := flag_bits hE.1
    simp only [List.map_cons, zipK]
    rw [b, zip_back t p.f0 p.f1 fl hE.2]
end Go.Proofs.Ytgkekjfbacncoaa
set_option linter.unusedSimpArgs false
set_option linter.unusedVariables false
open Go Go.Ab
namespace Go.Proofs.Ytgkekjfbacncoaa
def tailX (g : List (List T_Siibe)) (code fs s3 : List Int) : T_SLLSiibeLBe × Int := match stepsE 2 16 fs 0 s3 with
  | .error e => (noG, e)
  | .ok (xs, s4) => match stepsE 4 32 fs 0 s4 with
    | .error e => (noG, e)
    | .ok (ys, _) => (⟨cutK (enL g 0) 0 (zipK xs ys fs), code⟩, 0)
def tailC (g : List (List T_Siibe)) (s1 : List Int) : T_SLLSiibeLBe × Int := match codeE s1 with
  | .error e => (noG, e)
  | .ok (code, s2) => match flagsE (sumL g + 1) (sumL g) s2 with
    | .error e => (noG, e)
    | .ok (fs, s3) => tailX g code fs s3
def tailE (n : Nat) (s : List Int) : T_SLLSiibeLBe × Int :=
  match endsE n s with
  | .error e => (noG, e)
  | .ok (es, s1) => if rising es = false then (noG, 12) else if 4096 ≤ lastI es then (noG, 7) else
    match codeE s1 with
    | .error e => (noG, e)
    | .ok (code, s2) => match flagsE ((lastI es + 1).toNat + 1) (lastI es + 1).toNat s2 with
      | .error e => (noG, e)
      | .ok (fs, s3) => match stepsE 2 16 fs 0 s3 with
        | .error e => (noG, e)
        | .ok (xs, s4) => match stepsE 4 32 fs 0 s4 with
          | .error e => (noG, e)
          | .ok (ys, s5) => (⟨cutK es 0 (zipK xs ys fs), code⟩, 0)
theorem read_head {g : List (List T_Siibe)} (h0 : g ≠ []) (hg : g.length ≤ 30000) (s : List Int) : simpleRead (headG g ++ s) = tailE g.length s := by
  have xh : (headG g).length = 10 := by simp [headG, put2]
  have hpos := List.length_pos_iff.2 h0
  have e1 : (headG g ++ s).take 2 = put2 g.length := rfl
  have e2 : (headG g ++ s).drop 10 = s := rfl
  have e3 : beS (put2 (g.length : Int)) = g.length := beS_put2 (by omega) (by omega)
  unfold simpleRead
  rw [if_neg (List.ne_nil_of_length_pos (by rw [List.length_append]; omega)), if_neg (by rw [List.length_append]; omega), e1, e2, e3]
  simp only
  rw [if_neg (by omega), if_neg (by omega), Int.toNat_natCast]
  rfl
theorem tail_step {g : List (List T_Siibe)} (h0 : g ≠ []) (hs : sumL g ≤ 4096) (hn : ∀ c ∈ g, c.length ≠ 0) (s1 : List Int) : tailE g.length (enG g 0 ++ s1) = tailC g s1 := by
  have hl := enL_last g 0 h0
  have e : ((0 : Int) + sumL g - 1 + 1).toNat = sumL g := by omega
  unfold tailE
  rw [ends_ok g 0 s1 (by omega) (by omega) hn]
  simp only
  rw [if_neg (by rw [enL_rise g 0 hn]; decide), hl, if_neg (by omega), e]
  rfl
section
variable {a : T_SLLSiibeLBe} (h0 : a.f0 ≠ []) (h1 : askS a.f0 a.f1 0 = 0) (h2 : okG a.f0 0 0 = true) (hg : a.f0.length ≤ 30000)
include h0 h1 h2 hg
theorem read_back (R : List Int) : simpleRead (goodW a ++ R) = (a, 0) := by
  have hs := askS_sum a.f0 a.f1 0 h1
  have hb : goodW a ++ R = headG a.f0 ++ (enG a.f0 0 ++ (put2 a.f1.length ++ (a.f1 ++ (rle (sumL a.f0) (flG a.f0 0 0) ++ (xsG a.f0 0 ++ (ysG a.f0 0 ++ R)))))) := by
    simp only [goodW, List.append_assoc]
  rw [hb, read_head h0 hg, tail_step h0 (by omega) hs.2.2]
  unfold tailC
  rw [code_ok _ _ hs.2.1]
  simp only
  rw [okG_flat] at h2
  rw [flG_flat, xsG_flat, ysG_flat]
  have hfl : (flW a.f0.flatten 0 0).length = sumL a.f0 := by rw [flW_len, sumL_flat]
  obtain ⟨l', k1, k2⟩ := flags_ok (sumL a.f0) (sumL a.f0 + 1) (flW a.f0.flatten 0 0) (xsW a.f0.flatten 0 ++ (ysW a.f0.flatten 0 ++ R)) (by omega) (by omega) (flW_good _ _ _)
  rw [hfl] at k1
  rw [k1]
  simp only
  unfold tailX
  rw [steps_x a.f0.flatten 0 0 l' _ h2 k2]
  simp only
  rw [steps_y a.f0.flatten 0 0 l' _ h2 k2]
  simp only
  rw [zip_back _ _ _ _ k2, cut_flat]
theorem read_cut {k : Nat} (hk0 : 0 < k) (hk : k < (goodW a).length) : simpleRead ((goodW a).take k) = (noG, 3) := by
  have hs := askS_sum a.f0 a.f1 0 h1
  by_cases h10 : k < 10
  · unfold simpleRead
    rw [if_neg (List.ne_nil_of_length_pos (by rw [List.length_take]; omega)), if_pos (by rw [List.length_take]; omega)]
  have xh : (headG a.f0).length = 10 := by simp [headG, put2]
  have p2 : ∀ x : Int, (put2 x).length = 2 := fun x => rfl
  obtain ⟨j, rfl⟩ : ∃ j, k = 10 + j := ⟨k - 10, by omega⟩
  have hb : goodW a = headG a.f0 ++ (enG a.f0 0 ++ ((put2 a.f1.length ++ a.f1) ++ (rle (sumL a.f0) (flG a.f0 0 0) ++ (xsG a.f0 0 ++ ysG a.f0 0)))) := by
    simp only [goodW, List.append_assoc]
  rw [hb] at hk ⊢
  simp only [List.length_append, p2] at hk
  have et : ∀ s : List Int, (headG a.f0 ++ s).take (10 + j) = headG a.f0 ++ s.take j := fun s => by
    rw [List.take_append, List.take_of_length_le (by omega), xh, show 10 + j - 10 = j by omega]
  rw [et, read_head h0 hg]
  by_cases j1 : j < (enG a.f0 0).length
  · rw [List.take_append_of_le_length (by omega)]
    unfold tailE
    rw [ends_cut a.f0 0 j (by omega) (by omega) hs.2.2 j1]
  rw [List.take_append, List.take_of_length_le (by omega), tail_step h0 (by omega) hs.2.2]
  generalize hj' : j - (enG a.f0 0).length = i
  unfold tailC
  by_cases j2 : i < 2 + a.f1.length
  · rw [List.take_append_of_le_length (by simp only [List.length_append, p2]; omega), code_cut _ _ hs.2.1 j2]
  rw [List.take_append, List.take_of_length_le (by simp only [List.length_append, p2]; omega), List.append_assoc, code_ok _ _ hs.2.1]
  simp only
  have e2 : i - (put2 (a.f1.length : Int) ++ a.f1).length = i - (2 + a.f1.length) := by simp only [List.length_append, p2]
  rw [e2]
  generalize hi' : i - (2 + a.f1.length) = u
  rw [okG_flat] at h2
  rw [flG_flat, xsG_flat, ysG_flat] at hk ⊢
  have hfl : (flW a.f0.flatten 0 0).length = sumL a.f0 := by rw [flW_len, sumL_flat]
  by_cases j3 : u < (rle (sumL a.f0) (flW a.f0.flatten 0 0)).length
  · have := flags_cut (sumL a.f0) (sumL a.f0 + 1) (flW a.f0.flatten 0 0) u (by omega) (by omega) (flW_good _ _ _) j3
    rw [hfl] at this
    rw [List.take_append_of_le_length (by omega), this]
  rw [List.take_append, List.take_of_length_le (by omega)]
  generalize hu' : u - (rle (sumL a.f0) (flW a.f0.flatten 0 0)).length = v
  obtain ⟨l', k1, k2⟩ := flags_ok (sumL a.f0) (sumL a.f0 + 1) (flW a.f0.flatten 0 0) ((xsW a.f0.flatten 0 ++ ysW a.f0.flatten 0).take v) (by omega) (by omega) (flW_good _ _ _)
  rw [hfl] at k1
  rw [k1]
  simp only
  unfold tailX
  by_cases j4 : v < (xsW a.f0.flatten 0).length
  · rw [List.take_append_of_le_length (by omega), steps_x_cut a.f0.flatten 0 0 l' v h2 k2 j4]
  rw [List.take_append, List.take_of_length_le (by omega), steps_x a.f0.flatten 0 0 l' _ h2 k2]
  simp only
  rw [steps_y_cut a.f0.flatten 0 0 l' _ h2 k2 (by omega)]
end
/-! ### bytes -/
theorem packB_bytes (d : Int) : Bytes (packB d) := by
  unfold packB; split
  · exact .nil
  · split
    · exact put1_bytes _
    · split
      · exact put1_bytes _
      · exact put2_bytes _
theorem xsW_bytes : ∀ (t : List T_Siibe) (px : Int), Bytes (xsW t px)
  | [], _ => .nil
  | p :: t, px => (packB_bytes _).append (xsW_bytes t _)
theorem ysW_bytes : ∀ (t : List T_Siibe) (px : Int), Bytes (ysW t px)
  | [], _ => .nil
  | p :: t, px => (packB_bytes _).append (ysW_bytes t _)
theorem enG_bytes : ∀ (t : List (List T_Siibe)) (k : Int), Bytes (enG t k)
  | [], _ => .nil
  | c :: t, k => (put2_bytes _).append (enG_bytes t _)
theorem rle_bytes : ∀ (n : Nat) (l : List Int), (∀ f ∈ l, 0 ≤ f ∧ f < 64) → Bytes (rle n l)
  | 0, _, _ => .nil
  | n + 1, [], _ => .nil
  | n + 1, f :: t, h => by
    have hf := h f (by simp)
    have hr := runL_le f t 255
    simp only [rle]
    refine Bytes.append ?_ (rle_bytes n _ (fun x hx => h x (by simp [List.mem_of_mem_drop hx])))
    split
    · exact .cons ⟨by omega, by omega⟩ .nil
    · exact .cons ⟨by omega, by omega⟩ (.cons ⟨by omega, by omega⟩ .nil)
theorem goodW_bytes {a : T_SLLSiibeLBe} (hb : Bytes a.f1) : Bytes (goodW a) := by
  unfold goodW headG
  rw [flG_flat, xsG_flat, ysG_flat]
  refine Bytes.append (Bytes.append (put2_bytes _) (Bytes.append (put2_bytes _) (Bytes.append (put2_bytes _) (Bytes.append (put2_bytes _) (put2_bytes _))))) ?_
  exact Bytes.append (enG_bytes _ _) (Bytes.append (put2_bytes _) (Bytes.append hb (Bytes.append (rle_bytes _ _ (fun f hf => by have := flW_good _ _ _ f hf; omega)) (Bytes.append (xsW_bytes _ _) (ysW_bytes _ _)))))
theorem wps_of {a0 : T_SLLSiibeLBe} (h : W_SLLSiibeLBe a0) : (∀ c ∈ a0.f0, WPs c) ∧ Bytes a0.f1 ∧ a0.f1.length ≤ 140737488351232 :=
  ⟨fun c hc p hp => by have := (h.1.2 c hc).2 p hp; exact ⟨this.1, this.2.1⟩, bytes_of h.2.2, by have := h.2.1; omega⟩
end Go.Proofs.Ytgkekjfbacncoaa
set_option linter.unusedSimpArgs false
set_option linter.unusedVariables false
open Go Go.Ab
namespace Go.Proofs.Ytgkekjfbacncoaa
theorem SimpleCutPure (a0 : T_SLLSiibeLBe) (a1 : Int) (h0 : W_SLLSiibeLBe a0) (h1 : IntKind.min .u16 ≤ a1 ∧ a1 ≤ IntKind.max .u16) : ∃ n, F_law07_SimpleCut n a0 a1 = some true := by
  obtain ⟨hw, hb, hl⟩ := wps_of h0
  have h1' : 0 ≤ a1 ∧ a1 ≤ 65535 := h1
  refine Ev.out ?_
  simp only [F_law07_SimpleCut]
  refine .bind alive07 (.e rfl (.lj (.bind r07_Great_ev ?_)))
  by_cases hg : greatS a0.f0 = true
  · rw [hg]; exact .t rfl (.t rfl (.ret _))
  have hg' : greatS a0.f0 = false := by simpa using hg
  obtain ⟨g1, g2, g3⟩ := great_small hg'
  refine .e hg' ?_
  by_cases hc : 1000 < a0.f1.length
  · exact .t (decide_eq_true (by omega)) (.ret _)
  refine .e (decide_eq_false (by omega)) (.bind (simple_Write_ev hw g2 (by omega)) ?_)
  rcases sw_cases a0 with ⟨k0, k1⟩ | ⟨k0, e, k1, k2⟩ | ⟨k0, k1, k2, k3⟩
  · rw [k1]
    exact .t (by simp) (.ret' (by simp))
  · rw [k2]
    exact .t (by simp) (.ret' (by simp))
  · rw [k3]
    have hlen := goodW_len k0 k1
    have hwb := goodW_bytes hb
    have hcut := fun k h h' => read_cut (k := k) k0 k1 k2 (by omega) h h'
    generalize goodW a0 = w at *
    have em : Int.tmod (w64 a1) (w.length : Int) = a1 % (w.length : Int) := by
      rw [w64_of (by omega) (by omega), Int.tmod_eq_emod_of_nonneg h1'.1]
    have hm0 : 0 ≤ a1 % (w.length : Int) := Int.emod_nonneg _ (by omega)
    have hm1 : a1 % (w.length : Int) < w.length := Int.emod_lt_of_pos _ (by omega)
    simp only
    rw [em]
    generalize a1 % (w.length : Int) = m at *
    have es : slc w 0 m = w.take m.toNat := by simp [slc]
    rw [es]
    refine .e (by simp; intro e; rw [e] at hlen; simp at hlen) (.gd (by omega) (.gd (by omega) ?_))
    have hrd := simple_Read_ev (b := w.take m.toNat) (hwb.take _) (by rw [List.length_take]; omega)
    by_cases hm : m = 0
    · have hr : simpleRead (w.take m.toNat) = (noG, 0) := by rw [hm]; unfold simpleRead; rw [if_pos (by simp)]
      rw [hr] at hrd
      exact .bind hrd (.t (decide_eq_true hm) (.t rfl (.ret' rfl)))
    · rw [hcut m.toNat (by omega) (by omega)] at hrd
      exact .bind hrd (.e (decide_eq_false hm) (.t rfl (.ret' rfl)))
end Go.Proofs.Ytgkekjfbacncoaa
