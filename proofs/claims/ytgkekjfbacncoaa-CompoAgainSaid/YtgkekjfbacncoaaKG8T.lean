/- Printed by a program: shallow functions of the Go functions, and the proofs that the Go functions come to their answers. -/
import Derived.KernelRfl
import Derived.Test.YtgkekjfbacncoaaProg
import Derived.Test.YtgkekjfbacncoaaKAb2
set_option linter.unusedVariables false
open Go Go.Ab
namespace Go.Proofs.Ytgkekjfbacncoaa
structure T_SLBiie where
  f0 : (List Int)
  f1 : Int
  f2 : Int
  deriving DecidableEq, Inhabited
structure T_A4i where
  a0 : Int
  a1 : Int
  a2 : Int
  a3 : Int
  deriving DecidableEq, Inhabited
structure T_SiiiA4ie where
  f0 : Int
  f1 : Int
  f2 : Int
  f3 : T_A4i
  deriving DecidableEq, Inhabited
structure T_Siie where
  f0 : Int
  f1 : Int
  deriving DecidableEq, Inhabited
structure T_SSiieSiiee where
  f0 : T_Siie
  f1 : T_Siie
  deriving DecidableEq, Inhabited
def E_B : Ty Int := ⟨1, fun x => [(.val (.int .u8 x))], fun _ => rfl, by decide, 0, fun _ => rfl⟩
def E_i : Ty Int := ⟨1, fun x => [(vI x)], fun _ => rfl, by decide, 0, fun _ => rfl⟩
def E_SiiiA4ie : Ty T_SiiiA4ie := ⟨7, fun x => [(vI x.f0), (vI x.f1), (vI x.f2), (vI x.f3.a0), (vI x.f3.a1), (vI x.f3.a2), (vI x.f3.a3)], fun _ => rfl, by decide, (⟨0, 0, 0, (⟨0, 0, 0, 0⟩ : T_A4i)⟩ : T_SiiiA4ie), fun _ => rfl⟩
def rows : List (Nat × TI) := [(2, ⟨.int .i64, 1, 8, [(vI 0)], false⟩),
  (3, ⟨.int .i64, 1, 8, [(vI 0)], false⟩),
  (4, ⟨.bool, 1, 1, [(.val (.bool false))], false⟩),
  (5, ⟨.int .u8, 1, 1, [(.val (.int .u8 0))], false⟩),
  (9, ⟨.str, 1, 16, [(.val (.string ByteArray.empty))], false⟩),
  (22, ⟨.slice 5, 1, 24, [.nils], false⟩),
  (25, ⟨.slice 73, 1, 24, [.nils], false⟩),
  (26, ⟨.int .i64, 1, 8, [(vI 0)], false⟩),
  (35, ⟨.struct [(0, 3, false), (1, 3, false)], 2, 16, [(vI 0), (vI 0)], false⟩),
  (37, ⟨.struct [(0, 35, false), (2, 35, false)], 4, 32, [(vI 0), (vI 0), (vI 0), (vI 0)], false⟩),
  (44, ⟨.int .u16, 1, 2, [(.val (.int .u16 0))], false⟩),
  (66, ⟨.int .i16, 1, 2, [(.val (.int .i16 0))], false⟩),
  (71, ⟨.arr 4 3, 4, 32, [(vI 0), (vI 0), (vI 0), (vI 0)], true⟩),
  (73, ⟨.struct [(0, 3, false), (1, 3, false), (2, 3, false), (3, 71, false)], 7, 56, [(vI 0), (vI 0), (vI 0), (vI 0), (vI 0), (vI 0), (vI 0)], true⟩),
  (74, ⟨.ptr 76, 1, 8, [.val (.pointer none)], false⟩),
  (76, ⟨.struct [(0, 22, false), (1, 3, false), (2, 26, false)], 3, 40, [.nils, (vI 0), (vI 0)], false⟩),
  (82, ⟨.ptr 84, 1, 8, [.val (.pointer none)], false⟩),
  (84, ⟨.struct [(0, 22, false), (1, 3, false), (2, 3, false)], 3, 40, [.nils, (vI 0), (vI 0)], false⟩),
  (88, ⟨.slice 3, 1, 24, [.nils], false⟩),
  (116, ⟨.int .i8, 1, 1, [(.val (.int .i8 0))], false⟩),
  (117, ⟨.int .u64, 1, 8, [(.val (.int .u64 0))], false⟩)]
theorem rowsOk : RowsOk Try.prog rows := ⟨by kernel_rfl, by kernel_rfl, by kernel_rfl, by kernel_rfl, by kernel_rfl, by kernel_rfl, by kernel_rfl, by kernel_rfl, by kernel_rfl, by kernel_rfl, by kernel_rfl, by kernel_rfl, by kernel_rfl, by kernel_rfl, by kernel_rfl, by kernel_rfl, by kernel_rfl, by kernel_rfl, by kernel_rfl, by kernel_rfl, by kernel_rfl, trivial⟩
abbrev tab : Tab := Ab.look rows
theorem tabOk : TabOk Try.prog tab := tabOk_of rowsOk
theorem mixed : Try.prog.follows .mixedOrders = true := by kernel_rfl
theorem ent_be_there : Enters Try.prog 61 := .of Try.func61 rfl (by decide)
theorem ent_be_U : Enters Try.prog 64 := .of Try.func64 rfl (by decide)
theorem ent_be_S : Enters Try.prog 47 := .of Try.func47 rfl (by decide)
theorem ent_compo_reader_s : Enters Try.prog 32 := .of Try.func32 rfl (by decide)
theorem ent_compo_reader_u : Enters Try.prog 34 := .of Try.func34 rfl (by decide)
theorem ent_compo_reader_part : Enters Try.prog 33 := .of Try.func33 rfl (by decide)
theorem ent_be_Cut : Enters Try.prog 35 := .of Try.func35 rfl (by decide)
theorem ent_compo_Read : Enters Try.prog 16 := .of Try.func16 rfl (by decide)
theorem ent_r08_Same : Enters Try.prog 18 := .of Try.func18 rfl (by decide)
theorem ent_compo_short : Enters Try.prog 40 := .of Try.func40 rfl (by decide)
theorem ent_be_Put : Enters Try.prog 41 := .of Try.func41 rfl (by decide)
theorem ent_compo_pack : Enters Try.prog 42 := .of Try.func42 rfl (by decide)
theorem ent_compo_Write : Enters Try.prog 20 := .of Try.func20 rfl (by decide)
theorem ent_law08_alive : Enters Try.prog 14 := .of Try.func14 rfl (by decide)
theorem ent_r02_Copy : Enters Try.prog 15 := .of Try.func15 rfl (by decide)
theorem ent_r02_There : Enters Try.prog 63 := .of Try.func63 rfl (by decide)
theorem ent_r02_U : Enters Try.prog 66 := .of Try.func66 rfl (by decide)
theorem ent_r02_S : Enters Try.prog 62 := .of Try.func62 rfl (by decide)
theorem ent_r08_reader_s : Enters Try.prog 36 := .of Try.func36 rfl (by decide)
theorem ent_r08_reader_u : Enters Try.prog 37 := .of Try.func37 rfl (by decide)
theorem ent_r08_has : Enters Try.prog 38 := .of Try.func38 rfl (by decide)
theorem ent_r02_Cut : Enters Try.prog 39 := .of Try.func39 rfl (by decide)
theorem ent_r08_Read : Enters Try.prog 17 := .of Try.func17 rfl (by decide)
theorem ent_r02_Same : Enters Try.prog 19 := .of Try.func19 rfl (by decide)
theorem ent_law08_CompoReads : Enters Try.prog 3 := .of Try.func3 rfl (by decide)
theorem ent_r02_Put : Enters Try.prog 43 := .of Try.func43 rfl (by decide)
theorem ent_r08_short : Enters Try.prog 44 := .of Try.func44 rfl (by decide)
theorem ent_r08_turn : Enters Try.prog 45 := .of Try.func45 rfl (by decide)
theorem ent_r08_Write : Enters Try.prog 21 := .of Try.func21 rfl (by decide)
theorem ent_law08_CompoWrites : Enters Try.prog 4 := .of Try.func4 rfl (by decide)
theorem ent_law08_CompoBack : Enters Try.prog 5 := .of Try.func5 rfl (by decide)
theorem ent_law08_CompoCut : Enters Try.prog 6 := .of Try.func6 rfl (by decide)
theorem ent_law08_CompoAgain : Enters Try.prog 7 := .of Try.func7 rfl (by decide)
end Go.Proofs.Ytgkekjfbacncoaa
