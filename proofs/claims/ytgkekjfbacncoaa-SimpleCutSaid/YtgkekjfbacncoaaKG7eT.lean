/- Printed by a program: shallow functions of the Go functions, and the proofs that the Go functions come to their answers. -/
import Derived.KernelRfl
import Derived.Test.YtgkekjfbacncoaaProg
import Derived.Test.YtgkekjfbacncoaaKAb2
set_option linter.unusedVariables false
open Go Go.Ab
namespace Go.Proofs.Ytgkekjfbacncoaa
structure T_SLBiie where
  f0 : (List Int)
  f1 : Int
  f2 : Int
  deriving DecidableEq, Inhabited
structure T_Siibe where
  f0 : Int
  f1 : Int
  f2 : Bool
  deriving DecidableEq, Inhabited
structure T_SLLSiibeLBe where
  f0 : (List (List T_Siibe))
  f1 : (List Int)
  deriving DecidableEq, Inhabited
structure T_Siie where
  f0 : Int
  f1 : Int
  deriving DecidableEq, Inhabited
structure T_A4i where
  a0 : Int
  a1 : Int
  a2 : Int
  a3 : Int
  deriving DecidableEq, Inhabited
def E_B : Ty Int := ⟨1, fun x => [(.val (.int .u8 x))], fun _ => rfl, by decide, 0, fun _ => rfl⟩
def E_i : Ty Int := ⟨1, fun x => [(vI x)], fun _ => rfl, by decide, 0, fun _ => rfl⟩
def E_Siibe : Ty T_Siibe := ⟨3, fun x => [(vI x.f0), (vI x.f1), (.val (.bool x.f2))], fun _ => rfl, by decide, (⟨0, 0, false⟩ : T_Siibe), fun _ => rfl⟩
def E_LSiibe : Ty (List T_Siibe) := ⟨1, fun x => [(.ro 3 x.length (flat E_Siibe x))], fun _ => rfl, by decide, [], fun _ => rfl⟩
def rows : List (Nat × TI) := [(2, ⟨.int .i64, 1, 8, [(vI 0)], false⟩),
  (3, ⟨.int .i64, 1, 8, [(vI 0)], false⟩),
  (4, ⟨.bool, 1, 1, [(.val (.bool false))], false⟩),
  (5, ⟨.int .u8, 1, 1, [(.val (.int .u8 0))], false⟩),
  (9, ⟨.str, 1, 16, [(.val (.string ByteArray.empty))], false⟩),
  (22, ⟨.slice 5, 1, 24, [.nils], false⟩),
  (26, ⟨.int .i64, 1, 8, [(vI 0)], false⟩),
  (35, ⟨.struct [(0, 3, false), (1, 3, false)], 2, 16, [(vI 0), (vI 0)], false⟩),
  (44, ⟨.int .u16, 1, 2, [(.val (.int .u16 0))], false⟩),
  (47, ⟨.slice 64, 1, 24, [.nils], false⟩),
  (49, ⟨.struct [(0, 47, false), (1, 22, false)], 2, 48, [.nils, .nils], false⟩),
  (64, ⟨.slice 69, 1, 24, [.nils], false⟩),
  (66, ⟨.int .i16, 1, 2, [(.val (.int .i16 0))], false⟩),
  (69, ⟨.struct [(0, 3, false), (1, 3, false), (2, 4, false)], 3, 24, [(vI 0), (vI 0), (.val (.bool false))], false⟩),
  (71, ⟨.arr 4 3, 4, 32, [(vI 0), (vI 0), (vI 0), (vI 0)], true⟩),
  (88, ⟨.slice 3, 1, 24, [.nils], false⟩),
  (97, ⟨.ptr 99, 1, 8, [.val (.pointer none)], false⟩),
  (99, ⟨.struct [(0, 22, false), (1, 3, false), (2, 26, false)], 3, 40, [.nils, (vI 0), (vI 0)], false⟩)]
theorem rowsOk : RowsOk Try.prog rows := ⟨by kernel_rfl, by kernel_rfl, by kernel_rfl, by kernel_rfl, by kernel_rfl, by kernel_rfl, by kernel_rfl, by kernel_rfl, by kernel_rfl, by kernel_rfl, by kernel_rfl, by kernel_rfl, by kernel_rfl, by kernel_rfl, by kernel_rfl, by kernel_rfl, by kernel_rfl, by kernel_rfl, trivial⟩
abbrev tab : Tab := Ab.look rows
theorem tabOk : TabOk Try.prog tab := tabOk_of rowsOk
theorem mixed : Try.prog.follows .mixedOrders = true := by kernel_rfl
theorem ent_be_there : Enters Try.prog 61 := .of Try.func61 rfl (by decide)
theorem ent_be_U : Enters Try.prog 64 := .of Try.func64 rfl (by decide)
theorem ent_be_S : Enters Try.prog 47 := .of Try.func47 rfl (by decide)
theorem ent_simple_reader_u : Enters Try.prog 65 := .of Try.func65 rfl (by decide)
theorem ent_simple_reader_ends : Enters Try.prog 48 := .of Try.func48 rfl (by decide)
theorem ent_be_Cut : Enters Try.prog 35 := .of Try.func35 rfl (by decide)
theorem ent_simple_reader_code : Enters Try.prog 49 := .of Try.func49 rfl (by decide)
theorem ent_simple_reader_flags : Enters Try.prog 50 := .of Try.func50 rfl (by decide)
theorem ent_simple_reader_steps : Enters Try.prog 51 := .of Try.func51 rfl (by decide)
theorem ent_simple_Read : Enters Try.prog 23 := .of Try.func23 rfl (by decide)
theorem ent_r07_Same : Enters Try.prog 25 := .of Try.func25 rfl (by decide)
theorem ent_simple_Box : Enters Try.prog 30 := .of Try.func30 rfl (by decide)
theorem ent_be_Put : Enters Try.prog 41 := .of Try.func41 rfl (by decide)
theorem ent_simple_ask : Enters Try.prog 56 := .of Try.func56 rfl (by decide)
theorem ent_simple_pack : Enters Try.prog 57 := .of Try.func57 rfl (by decide)
theorem ent_simple_packed : Enters Try.prog 58 := .of Try.func58 rfl (by decide)
theorem ent_simple_Write : Enters Try.prog 28 := .of Try.func28 rfl (by decide)
theorem ent_law07_triangle : Enters Try.prog 46 := .of Try.func46 rfl (by decide)
theorem ent_law07_alive : Enters Try.prog 22 := .of Try.func22 rfl (by decide)
theorem ent_r07_Great : Enters Try.prog 26 := .of Try.func26 rfl (by decide)
theorem ent_law07_SimpleCut : Enters Try.prog 12 := .of Try.func12 rfl (by decide)
end Go.Proofs.Ytgkekjfbacncoaa
