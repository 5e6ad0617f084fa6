/- Printed by a program: shallow functions of the Go functions, and the proofs that the Go functions come to their answers. -/
import Derived.Test.YtgkekjfbacncoaaKG7aT
import Derived.Test.YtgkekjfbacncoaaKAb2
set_option linter.unusedVariables false
open Go Go.Ab
namespace Go.Proofs.Ytgkekjfbacncoaa
theorem Rd5 : Rd Try.prog 5 (fun n : Int => [.val (.int .u8 n)]) (fun n => (IntKind.min .u8 ≤ n ∧ n ≤ IntKind.max .u8)) := .int Try.underlying5
theorem Rd22 : Rd Try.prog 22 (fun l : (List Int) => [.ro 1 l.length (flat E_B l)]) (fun l => (l.length * 1 ≤ 140737488351232 ∧ ∀ z1 ∈ l, (IntKind.min .u8 ≤ z1 ∧ z1 ≤ IntKind.max .u8))) := .slice E_B Try.underlying22 Rd5 (by kernel_rfl) (by kernel_rfl)
end Go.Proofs.Ytgkekjfbacncoaa
