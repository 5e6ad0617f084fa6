/- Printed by a program: shallow functions of the Go functions, and the proofs that the Go functions come to their answers. -/
import Derived.Test.YtgkekjfbacncoaaKG8T
import Derived.Test.YtgkekjfbacncoaaKAb2
set_option linter.unusedVariables false
open Go Go.Ab
namespace Go.Proofs.Ytgkekjfbacncoaa
theorem Rd5 : Rd Try.prog 5 (fun n : Int => [.val (.int .u8 n)]) (fun n => (IntKind.min .u8 ≤ n ∧ n ≤ IntKind.max .u8)) := .int Try.underlying5
theorem Rd22 : Rd Try.prog 22 (fun l : (List Int) => [.ro 1 l.length (flat E_B l)]) (fun l => (l.length * 1 ≤ 140737488351232 ∧ ∀ x ∈ l, (IntKind.min .u8 ≤ x ∧ x ≤ IntKind.max .u8))) := .slice E_B Try.underlying22 Rd5 (by kernel_rfl) (by kernel_rfl)
theorem Rd3 : Rd Try.prog 3 (fun n : Int => [.val (.int .i64 n)]) (fun n => (IntKind.min .i64 ≤ n ∧ n ≤ IntKind.max .i64)) := .int Try.underlying3
def W_A4i (x : T_A4i) : Prop := (IntKind.min .i64 ≤ x.a0 ∧ x.a0 ≤ IntKind.max .i64) ∧ (IntKind.min .i64 ≤ x.a1 ∧ x.a1 ≤ IntKind.max .i64) ∧ (IntKind.min .i64 ≤ x.a2 ∧ x.a2 ≤ IntKind.max .i64) ∧ (IntKind.min .i64 ≤ x.a3 ∧ x.a3 ≤ IntKind.max .i64)
theorem Rd71 : Rd Try.prog 71 (fun x : T_A4i => [(vI x.a0), (vI x.a1), (vI x.a2), (vI x.a3)]) W_A4i := .array (fun l => ⟨l.getD 0 0, l.getD 1 0, l.getD 2 0, l.getD 3 0⟩) Try.underlying71 (by kernel_rfl) Rd3 (fun l hl => by match l, hl with | [a0, a1, a2, a3], _ => rfl) (fun l hl h => by match l, hl with | [a0, a1, a2, a3], _ => exact ⟨h _ (by simp), h _ (by simp), h _ (by simp), h _ (by simp)⟩)
def W_SiiiA4ie (x : T_SiiiA4ie) : Prop := (IntKind.min .i64 ≤ x.f0 ∧ x.f0 ≤ IntKind.max .i64) ∧ (IntKind.min .i64 ≤ x.f1 ∧ x.f1 ≤ IntKind.max .i64) ∧ (IntKind.min .i64 ≤ x.f2 ∧ x.f2 ≤ IntKind.max .i64) ∧ (W_A4i x.f3)
theorem Rd73 : Rd Try.prog 73 (fun x : T_SiiiA4ie => [(vI x.f0), (vI x.f1), (vI x.f2), (vI x.f3.a0), (vI x.f3.a1), (vI x.f3.a2), (vI x.f3.a3)]) W_SiiiA4ie := by
  refine .struct (β := Int × Int × Int × T_A4i × Unit) (fun b => ⟨b.1, b.2.1, b.2.2.1, b.2.2.2.1⟩) Try.underlying73 (by kernel_rfl : Try.prog.cellsOf 73 = 7) (.cons (sz := 1) Rd3 rfl (by kernel_rfl) (.cons (sz := 1) Rd3 rfl (by kernel_rfl) (.cons (sz := 1) Rd3 rfl (by kernel_rfl) (.cons (sz := 4) Rd71 rfl (by kernel_rfl) (.nil _))))) (fun b => ?_) (fun b h => ?_)
  · rfl
  · exact ⟨h.1, h.2.1, h.2.2.1, h.2.2.2.1⟩
theorem Rd25 : Rd Try.prog 25 (fun l : (List T_SiiiA4ie) => [.ro 7 l.length (flat E_SiiiA4ie l)]) (fun l => (l.length * 56 ≤ 140737488351232 ∧ ∀ x ∈ l, (W_SiiiA4ie x))) := .slice E_SiiiA4ie Try.underlying25 Rd73 (by kernel_rfl) (by kernel_rfl)
def W_Siie (x : T_Siie) : Prop := (IntKind.min .i64 ≤ x.f0 ∧ x.f0 ≤ IntKind.max .i64) ∧ (IntKind.min .i64 ≤ x.f1 ∧ x.f1 ≤ IntKind.max .i64)
theorem Rd35 : Rd Try.prog 35 (fun x : T_Siie => [(vI x.f0), (vI x.f1)]) W_Siie := by
  refine .struct (β := Int × Int × Unit) (fun b => ⟨b.1, b.2.1⟩) Try.underlying35 (by kernel_rfl : Try.prog.cellsOf 35 = 2) (.cons (sz := 1) Rd3 rfl (by kernel_rfl) (.cons (sz := 1) Rd3 rfl (by kernel_rfl) (.nil _))) (fun b => ?_) (fun b h => ?_)
  · rfl
  · exact ⟨h.1, h.2.1⟩
def W_SSiieSiiee (x : T_SSiieSiiee) : Prop := (W_Siie x.f0) ∧ (W_Siie x.f1)
theorem Rd37 : Rd Try.prog 37 (fun x : T_SSiieSiiee => [(vI x.f0.f0), (vI x.f0.f1), (vI x.f1.f0), (vI x.f1.f1)]) W_SSiieSiiee := by
  refine .struct (β := T_Siie × T_Siie × Unit) (fun b => ⟨b.1, b.2.1⟩) Try.underlying37 (by kernel_rfl : Try.prog.cellsOf 37 = 4) (.cons (sz := 2) Rd35 rfl (by kernel_rfl) (.cons (sz := 2) Rd35 rfl (by kernel_rfl) (.nil _))) (fun b => ?_) (fun b h => ?_)
  · rfl
  · exact ⟨h.1, h.2.1⟩
theorem Rd44 : Rd Try.prog 44 (fun n : Int => [.val (.int .u16 n)]) (fun n => (IntKind.min .u16 ≤ n ∧ n ≤ IntKind.max .u16)) := .int Try.underlying44
end Go.Proofs.Ytgkekjfbacncoaa
