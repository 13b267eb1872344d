/- Part 3 of the proof: XC. -/
import Derived.Test.YtjocklgihjbaiaaV2
section
set_option maxRecDepth 100000
namespace Go.Proofs.Ytjocklgihjbaiaa
theorem Try.ZO4 : zeroOf Try.prog 4 = some Try.z4 := by kernel_rfl
theorem Try.ZO27 : zeroOf Try.prog 27 = some Try.z27 := by kernel_rfl
theorem Try.ZO31 : zeroOf Try.prog 31 = some Try.z31 := by kernel_rfl
theorem Try.ZO33 : zeroOf Try.prog 33 = some Try.z33 := by kernel_rfl
theorem Try.ZO35 : zeroOf Try.prog 35 = some Try.z35 := by kernel_rfl
theorem Try.ZO36 : zeroOf Try.prog 36 = some Try.z36 := by kernel_rfl
theorem Try.ZO38 : zeroOf Try.prog 38 = some Try.z38 := by kernel_rfl
theorem Try.ZO39 : zeroOf Try.prog 39 = some Try.z39 := by kernel_rfl
theorem Try.ZO119 : zeroOf Try.prog 119 = some Try.z119 := by kernel_rfl
theorem Try.ZO : zeroOf Try.prog 3 = some Try.z3 ∧ zeroOf Try.prog 4 = some Try.z4 ∧ zeroOf Try.prog 27 = some Try.z27 ∧ zeroOf Try.prog 31 = some Try.z31 ∧ zeroOf Try.prog 33 = some Try.z33 ∧ zeroOf Try.prog 35 = some Try.z35 ∧ zeroOf Try.prog 36 = some Try.z36 ∧ zeroOf Try.prog 38 = some Try.z38 ∧ zeroOf Try.prog 39 = some Try.z39 ∧ zeroOf Try.prog 119 = some Try.z119 := ⟨Try.ZO3, Try.ZO4, Try.ZO27, Try.ZO31, Try.ZO33, Try.ZO35, Try.ZO36, Try.ZO38, Try.ZO39, Try.ZO119⟩
theorem Try.SO22 : sliceOf Try.prog 22 = some (35, 17, 152) := by kernel_rfl
theorem Try.SO23 : sliceOf Try.prog 23 = some (4, 1, 1) := by kernel_rfl
theorem Try.SO39 : sliceOf Try.prog 39 = some (27, 2, 16) := by kernel_rfl
theorem Try.SO40 : sliceOf Try.prog 40 = some (33, 14, 128) := by kernel_rfl
theorem Try.SO66 : sliceOf Try.prog 66 = some (39, 1, 24) := by kernel_rfl
theorem Try.SO86 : sliceOf Try.prog 86 = some (115, 3, 40) := by kernel_rfl
theorem Try.SO : sliceOf Try.prog 22 = some (35, 17, 152) ∧ sliceOf Try.prog 23 = some (4, 1, 1) ∧ sliceOf Try.prog 39 = some (27, 2, 16) ∧ sliceOf Try.prog 40 = some (33, 14, 128) ∧ sliceOf Try.prog 66 = some (39, 1, 24) ∧ sliceOf Try.prog 86 = some (115, 3, 40) := ⟨Try.SO22, Try.SO23, Try.SO39, Try.SO40, Try.SO66, Try.SO86⟩
theorem Try.SI3 : sizeIs Try.prog 3 = some 1 := by kernel_rfl
theorem Try.SI4 : sizeIs Try.prog 4 = some 1 := by kernel_rfl
theorem Try.SI23 : sizeIs Try.prog 23 = some 1 := by kernel_rfl
theorem Try.SI27 : sizeIs Try.prog 27 = some 2 := by kernel_rfl
theorem Try.SI31 : sizeIs Try.prog 31 = some 7 := by kernel_rfl
theorem Try.SI33 : sizeIs Try.prog 33 = some 14 := by kernel_rfl
theorem Try.SI35 : sizeIs Try.prog 35 = some 17 := by kernel_rfl
theorem Try.SI36 : sizeIs Try.prog 36 = some 1 := by kernel_rfl
theorem Try.SI38 : sizeIs Try.prog 38 = some 1 := by kernel_rfl
theorem Try.SI39 : sizeIs Try.prog 39 = some 1 := by kernel_rfl
theorem Try.SI40 : sizeIs Try.prog 40 = some 1 := by kernel_rfl
theorem Try.SI42 : sizeIs Try.prog 42 = some 3 := by kernel_rfl
theorem Try.SI62 : sizeIs Try.prog 62 = some 3 := by kernel_rfl
theorem Try.SI66 : sizeIs Try.prog 66 = some 1 := by kernel_rfl
theorem Try.SI80 : sizeIs Try.prog 80 = some 2 := by kernel_rfl
theorem Try.SI84 : sizeIs Try.prog 84 = some 1 := by kernel_rfl
theorem Try.SI86 : sizeIs Try.prog 86 = some 1 := by kernel_rfl
theorem Try.SI88 : sizeIs Try.prog 88 = some 8 := by kernel_rfl
theorem Try.SI99 : sizeIs Try.prog 99 = some 15 := by kernel_rfl
theorem Try.SI101 : sizeIs Try.prog 101 = some 15 := by kernel_rfl
theorem Try.SI119 : sizeIs Try.prog 119 = some 1 := by kernel_rfl
theorem Try.SI : sizeIs Try.prog 3 = some 1 ∧ sizeIs Try.prog 4 = some 1 ∧ sizeIs Try.prog 23 = some 1 ∧ sizeIs Try.prog 27 = some 2 ∧ sizeIs Try.prog 31 = some 7 ∧ sizeIs Try.prog 33 = some 14 ∧ sizeIs Try.prog 35 = some 17 ∧ sizeIs Try.prog 36 = some 1 ∧ sizeIs Try.prog 38 = some 1 ∧ sizeIs Try.prog 39 = some 1 ∧ sizeIs Try.prog 40 = some 1 ∧ sizeIs Try.prog 42 = some 3 ∧ sizeIs Try.prog 62 = some 3 ∧ sizeIs Try.prog 66 = some 1 ∧ sizeIs Try.prog 80 = some 2 ∧ sizeIs Try.prog 84 = some 1 ∧ sizeIs Try.prog 86 = some 1 ∧ sizeIs Try.prog 88 = some 8 ∧ sizeIs Try.prog 99 = some 15 ∧ sizeIs Try.prog 101 = some 15 ∧ sizeIs Try.prog 119 = some 1 := ⟨Try.SI3, Try.SI4, Try.SI23, Try.SI27, Try.SI31, Try.SI33, Try.SI35, Try.SI36, Try.SI38, Try.SI39, Try.SI40, Try.SI42, Try.SI62, Try.SI66, Try.SI80, Try.SI84, Try.SI86, Try.SI88, Try.SI99, Try.SI101, Try.SI119⟩
theorem Try.UA31 : Try.prog.underlying 31 = some (.array 7 3) := by kernel_rfl
theorem Try.UA : Try.prog.underlying 31 = some (.array 7 3) := Try.UA31
theorem Try.PD36 : ptrDesc Try.prog 36 = true := by kernel_rfl
theorem Try.PD59 : ptrDesc Try.prog 59 = true := by kernel_rfl
theorem Try.PD75 : ptrDesc Try.prog 75 = true := by kernel_rfl
theorem Try.PD77 : ptrDesc Try.prog 77 = true := by kernel_rfl
theorem Try.PD : ptrDesc Try.prog 36 = true ∧ ptrDesc Try.prog 59 = true ∧ ptrDesc Try.prog 75 = true ∧ ptrDesc Try.prog 77 = true := ⟨Try.PD36, Try.PD59, Try.PD75, Try.PD77⟩
theorem Try.SD22 : sliceDesc Try.prog 22 = true := by kernel_rfl
theorem Try.SD23 : sliceDesc Try.prog 23 = true := by kernel_rfl
theorem Try.SD39 : sliceDesc Try.prog 39 = true := by kernel_rfl
theorem Try.SD40 : sliceDesc Try.prog 40 = true := by kernel_rfl
theorem Try.SD66 : sliceDesc Try.prog 66 = true := by kernel_rfl
theorem Try.SD86 : sliceDesc Try.prog 86 = true := by kernel_rfl
theorem Try.SD : sliceDesc Try.prog 22 = true ∧ sliceDesc Try.prog 23 = true ∧ sliceDesc Try.prog 39 = true ∧ sliceDesc Try.prog 40 = true ∧ sliceDesc Try.prog 66 = true ∧ sliceDesc Try.prog 86 = true := ⟨Try.SD22, Try.SD23, Try.SD39, Try.SD40, Try.SD66, Try.SD86⟩
theorem Try.mixed : Try.prog.follows .mixedOrders = true := by kernel_rfl
end Go.Proofs.Ytjocklgihjbaiaa
end
