/- Printed by a program: shallow functions of the Go functions, and the proofs that the Go functions come to their answers. -/
import Derived.Test.YtgkekjfbacncoaaKG7eT
import Derived.Test.YtgkekjfbacncoaaKAb2
set_option linter.unusedVariables false
open Go Go.Ab
namespace Go.Proofs.Ytgkekjfbacncoaa
theorem Rd44 : Rd Try.prog 44 (fun n : Int => [.val (.int .u16 n)]) (fun n => (IntKind.min .u16 ≤ n ∧ n ≤ IntKind.max .u16)) := .int Try.underlying44
theorem Rd3 : Rd Try.prog 3 (fun n : Int => [.val (.int .i64 n)]) (fun n => (IntKind.min .i64 ≤ n ∧ n ≤ IntKind.max .i64)) := .int Try.underlying3
theorem Rd4 : Rd Try.prog 4 (fun b : Bool => [.val (.bool b)]) (fun _ => True) := .bool Try.underlying4
def W_Siibe (x : T_Siibe) : Prop := (IntKind.min .i64 ≤ x.f0 ∧ x.f0 ≤ IntKind.max .i64) ∧ (IntKind.min .i64 ≤ x.f1 ∧ x.f1 ≤ IntKind.max .i64) ∧ True
theorem Rd69 : Rd Try.prog 69 (fun x : T_Siibe => [(vI x.f0), (vI x.f1), (.val (.bool x.f2))]) W_Siibe := by
  refine .struct (β := Int × Int × Bool × Unit) (fun b => ⟨b.1, b.2.1, b.2.2.1⟩) Try.underlying69 (by kernel_rfl : Try.prog.cellsOf 69 = 3) (.cons (sz := 1) Rd3 rfl (by kernel_rfl) (.cons (sz := 1) Rd3 rfl (by kernel_rfl) (.cons (sz := 1) Rd4 rfl (by kernel_rfl) (.nil _)))) (fun b => ?_) (fun b h => ?_)
  · rfl
  · exact ⟨h.1, h.2.1, h.2.2.1⟩
theorem Rd64 : Rd Try.prog 64 (fun l : (List T_Siibe) => [.ro 3 l.length (flat E_Siibe l)]) (fun l => (l.length * 24 ≤ 140737488351232 ∧ ∀ z1 ∈ l, (W_Siibe z1))) := .slice E_Siibe Try.underlying64 Rd69 (by kernel_rfl) (by kernel_rfl)
theorem Rd47 : Rd Try.prog 47 (fun l : (List (List T_Siibe)) => [.ro 1 l.length (flat E_LSiibe l)]) (fun l => (l.length * 24 ≤ 140737488351232 ∧ ∀ z1 ∈ l, (z1.length * 24 ≤ 140737488351232 ∧ ∀ z2 ∈ z1, (W_Siibe z2)))) := .slice E_LSiibe Try.underlying47 Rd64 (by kernel_rfl) (by kernel_rfl)
theorem Rd5 : Rd Try.prog 5 (fun n : Int => [.val (.int .u8 n)]) (fun n => (IntKind.min .u8 ≤ n ∧ n ≤ IntKind.max .u8)) := .int Try.underlying5
theorem Rd22 : Rd Try.prog 22 (fun l : (List Int) => [.ro 1 l.length (flat E_B l)]) (fun l => (l.length * 1 ≤ 140737488351232 ∧ ∀ z1 ∈ l, (IntKind.min .u8 ≤ z1 ∧ z1 ≤ IntKind.max .u8))) := .slice E_B Try.underlying22 Rd5 (by kernel_rfl) (by kernel_rfl)
def W_SLLSiibeLBe (x : T_SLLSiibeLBe) : Prop := (x.f0.length * 24 ≤ 140737488351232 ∧ ∀ z1 ∈ x.f0, (z1.length * 24 ≤ 140737488351232 ∧ ∀ z2 ∈ z1, (W_Siibe z2))) ∧ (x.f1.length * 1 ≤ 140737488351232 ∧ ∀ z1 ∈ x.f1, (IntKind.min .u8 ≤ z1 ∧ z1 ≤ IntKind.max .u8))
theorem Rd49 : Rd Try.prog 49 (fun x : T_SLLSiibeLBe => [(.ro 1 x.f0.length (flat E_LSiibe x.f0)), (.ro 1 x.f1.length (flat E_B x.f1))]) W_SLLSiibeLBe := by
  refine .struct (β := (List (List T_Siibe)) × (List Int) × Unit) (fun b => ⟨b.1, b.2.1⟩) Try.underlying49 (by kernel_rfl : Try.prog.cellsOf 49 = 2) (.cons (sz := 1) Rd47 rfl (by kernel_rfl) (.cons (sz := 1) Rd22 rfl (by kernel_rfl) (.nil _))) (fun b => ?_) (fun b h => ?_)
  · rfl
  · exact ⟨h.1, h.2.1⟩
end Go.Proofs.Ytgkekjfbacncoaa
