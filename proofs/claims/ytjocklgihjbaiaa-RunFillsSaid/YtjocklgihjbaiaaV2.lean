/- Part 2 of the proof: XC. -/
import Derived.Test.YtjocklgihjbaiaaV1
section
/- The functions' code in small, by program (xc.py): plans for the regions that draw their order, the tables' rows. -/
set_option maxRecDepth 100000
namespace Go.Proofs.Ytjocklgihjbaiaa
/-- Parts of a piece of code: 0: the first, 1: the second; a loop's body is its first. -/
def part1 (c : Code) (n : Nat) : Code :=
  match c with
  | .seq x y => if n = 0 then x else y
  | .cond _ x y => if n = 0 then x else y
  | .block _ x => x
  | .loop x => x
  | c => c
def partAt : Code → List Nat → Code
  | c, [] => c
  | c, n :: r => partAt (part1 c n) r
/-- caucus/caucuslaw19.RunSame -/
def Try.p3 : Nat → Option Plan := fun i => match i with
  | 11 => some ⟨[], [], (.pure 0 (.pure 1 (.pure 2 (.pure 3 (.pure 5 (.pure 6 (.pure 7 (.pure 8 (.load 4 [4] (.load 9 [9] (.pure 10 .nil)))))))))))⟩
  | 20 => some ⟨[], [8, 11], (.pure 0 (.pure 1 (.pure 2 (.pure 3 (.pure 5 (.load 4 [4, 8, 9, 10, 11] (.load 6 [6, 7, 8, 9, 10, 11] (.eff 7 (.last 8 (.pure 9 (.pure 10 (.last 11 .nil))))))))))))⟩
  | 21 => some ⟨[], [8, 11], (.pure 0 (.pure 1 (.pure 2 (.pure 3 (.pure 5 (.load 4 [4, 8, 9, 10, 11] (.load 6 [6, 7, 8, 9, 10, 11] (.eff 7 (.last 8 (.pure 9 (.pure 10 (.last 11 .nil))))))))))))⟩
  | 52 => some ⟨[22], [23], (.pure 0 (.pure 1 (.pure 2 (.pure 4 (.pure 10 (.pure 11 (.pure 12 (.pure 14 (.load 3 [3, 7, 8, 9, 22, 23] (.load 5 [5, 6, 7, 8, 9, 16, 17, 18, 19, 22, 23] (.weak 13 [13, 17, 18, 19, 23] (.load 15 [15, 16, 17, 18, 19, 22, 23] (.fork (.eff 6 (.pure 7 (.pure 8 (.load 9 [9, 22, 23] (.fork (.eff 16 (.pure 17 (.pure 18 (.weak 19 [19, 23] (.fork (.eff 20 (.eff 21 (.late 22 (.last 23 .nil)))) (.eff 21 (.eff 20 (.late 22 (.last 23 .nil))))))))) (.fork (.eff 20 (.fork (.eff 16 (.pure 17 (.pure 18 (.weak 19 [19, 23] (.eff 21 (.late 22 (.last 23 .nil))))))) (.eff 21 (.eff 16 (.pure 17 (.pure 18 (.weak 19 [19, 23] (.late 22 (.last 23 .nil))))))))) (.eff 21 (.fork (.eff 16 (.pure 17 (.pure 18 (.weak 19 [19, 23] (.eff 20 (.late 22 (.last 23 .nil))))))) (.eff 20 (.eff 16 (.pure 17 (.pure 18 (.weak 19 [19, 23] (.late 22 (.last 23 .nil))))))))))))))) (.fork (.eff 20 (.fork (.eff 6 (.pure 7 (.pure 8 (.load 9 [9, 22, 23] (.fork (.eff 16 (.pure 17 (.pure 18 (.weak 19 [19, 23] (.eff 21 (.late 22 (.last 23 .nil))))))) (.eff 21 (.eff 16 (.pure 17 (.pure 18 (.weak 19 [19, 23] (.late 22 (.last 23 .nil)))))))))))) (.eff 21 (.eff 6 (.pure 7 (.pure 8 (.load 9 [9, 22, 23] (.eff 16 (.pure 17 (.pure 18 (.weak 19 [19, 23] (.late 22 (.last 23 .nil))))))))))))) (.eff 21 (.fork (.eff 6 (.pure 7 (.pure 8 (.load 9 [9, 22, 23] (.fork (.eff 16 (.pure 17 (.pure 18 (.weak 19 [19, 23] (.eff 20 (.late 22 (.last 23 .nil))))))) (.eff 20 (.eff 16 (.pure 17 (.pure 18 (.weak 19 [19, 23] (.late 22 (.last 23 .nil)))))))))))) (.eff 20 (.eff 6 (.pure 7 (.pure 8 (.load 9 [9, 22, 23] (.eff 16 (.pure 17 (.pure 18 (.weak 19 [19, 23] (.late 22 (.last 23 .nil)))))))))))))))))))))))))))⟩
  | 53 => some ⟨[], [], (.pure 0 (.pure 4 (.load 1 [1] (.pure 2 (.load 3 [3] (.load 5 [5] (.pure 6 (.pure 7 (.pure 8 (.pure 12 (.load 9 [9] (.pure 10 (.load 11 [11] (.load 13 [13] (.pure 14 (.pure 15 (.pure 16 (.pure 17 (.pure 20 (.load 18 [18] (.load 19 [19] (.load 21 [21] (.load 22 [22] (.pure 23 (.pure 24 .nil)))))))))))))))))))))))))⟩
  | _ => none
/-- caucus/caucuslaw19.RunFills -/
def Try.p4 : Nat → Option Plan := fun i => match i with
  | _ => none
noncomputable def Try.c4bbbaba : Code := partAt (Try.f4.body.getD .skip) [1, 1, 1, 0, 1, 0]
noncomputable def Try.c4bbbbbbaba : Code := partAt (Try.f4.body.getD .skip) [1, 1, 1, 1, 1, 1, 0, 1, 0]
noncomputable def Try.c4bbbbbbbaba : Code := partAt (Try.f4.body.getD .skip) [1, 1, 1, 1, 1, 1, 1, 0, 1, 0]
noncomputable def Try.c4bbbabalbbaabba : Code := partAt (Try.f4.body.getD .skip) [1, 1, 1, 0, 1, 0, 0, 1, 1, 0, 0, 1, 1, 0]
noncomputable def Try.x4 : XCode := (.seq (.region (.step .text ⟨some 4, .assign (.const (.bool false)), 4⟩ none
      .nil))
    (.seq (.seq (.region (.step .text ⟨some 15, .call { callee := (.value (.func 6)), args := #[], argTypes := #[] }, 4⟩ none
      (.step .text ⟨some 16, .unOp .not 4 (.tmp 15), 4⟩ none
      .nil)))
    (.cond (.tmp 16)
    (.seq (.region (.step .text ⟨some 4, .assign (.const (.bool false)), 4⟩ none
      .nil))
    .ret)
    .skip))
    (.seq (.seq (.region (.step .text ⟨some 17, .move (.tmp 0), 3⟩ none
      (.step .text ⟨some 18, .move (.tmp 1), 22⟩ none
      (.step .text ⟨some 19, .call { callee := (.value (.func 7)), args := #[(.tmp 17), (.tmp 18)], argTypes := #[3, 22] }, 4⟩ none
      .nil))))
    (.cond (.tmp 19)
    (.seq (.region (.step .text ⟨some 4, .assign (.const (.bool true)), 4⟩ none
      .nil))
    .ret)
    .skip))
    (.seq (.seq (.region (.step .text ⟨some 20, .move (.tmp 1), 22⟩ none
      (.step .text ⟨some 21, .call { callee := (.builtin .len), args := #[(.tmp 20)], argTypes := #[22] }, 3⟩ none
      (.step .text ⟨some 22, .move (.const (.int .i64 0)), 3⟩ none
      .nil))))
    (.block 0 (.code Try.c4bbbaba)))
    (.seq (.region (.step .text ⟨some 42, .move (.tmp 0), 3⟩ none
      (.step .text ⟨some 43, .call { callee := (.value (.func 8)), args := #[(.tmp 42)], argTypes := #[3] }, 36⟩ none
      (.step .text ⟨some 9, .assign (.tmp 43), 36⟩ none
      .nil))))
    (.seq (.region (.step .text ⟨some 10, .assign (.const (.int .i64 0)), 3⟩ none
      .nil))
    (.seq (.seq (.region (.step .text ⟨some 44, .move (.tmp 1), 22⟩ none
      (.step .text ⟨some 45, .call { callee := (.builtin .len), args := #[(.tmp 44)], argTypes := #[22] }, 3⟩ none
      (.step .text ⟨some 46, .move (.const (.int .i64 0)), 3⟩ none
      .nil))))
    (.block 4 (.code Try.c4bbbbbbaba)))
    (.seq (.seq (.region (.step .text ⟨some 59, .move (.tmp 9), 36⟩ none
      (.step .text ⟨some 60, .call { callee := (.value (.func 13)), args := #[(.tmp 59)], argTypes := #[36] }, 39⟩ none
      (.step .text ⟨some 61, .call { callee := (.builtin .len), args := #[(.tmp 60)], argTypes := #[39] }, 3⟩ none
      (.step .text ⟨some 62, .move (.const (.int .i64 0)), 3⟩ none
      .nil)))))
    (.block 6 (.code Try.c4bbbbbbbaba)))
    (.seq (.region (.step .text ⟨some 74, .move (.tmp 9), 36⟩ none
      (.step .text ⟨some 75, .call { callee := (.value (.func 10)), args := #[(.tmp 74)], argTypes := #[36] }, 0⟩ none
      .nil)))
    (.seq (.region (.step .text ⟨some 76, .move (.tmp 9), 36⟩ none
      (.step .text ⟨some 77, .call { callee := (.value (.func 13)), args := #[(.tmp 76)], argTypes := #[36] }, 39⟩ none
      (.step .text ⟨some 78, .call { callee := (.builtin .len), args := #[(.tmp 77)], argTypes := #[39] }, 3⟩ none
      (.step .text ⟨some 79, .binOp .eql 3 (.tmp 78) (.const (.int .i64 0)) 3, 4⟩ none
      (.step .text ⟨some 80, .move (.tmp 79), 4⟩ none
      (.step .text ⟨some 81, .move (.tmp 9), 36⟩ (some (some 80, true))
      (.step .text ⟨some 82, .call { callee := (.value (.func 14)), args := #[(.tmp 81)], argTypes := #[36] }, 39⟩ (some (some 80, true))
      (.step .text ⟨some 83, .call { callee := (.builtin .len), args := #[(.tmp 82)], argTypes := #[39] }, 3⟩ (some (some 80, true))
      (.step .text ⟨some 84, .binOp .eql 3 (.tmp 83) (.const (.int .i64 0)) 3, 4⟩ (some (some 80, true))
      (.step .text ⟨some 85, .pick (.tmp 80) (.tmp 84) (.const (.bool false)), 4⟩ none
      (.step .text ⟨some 86, .move (.tmp 85), 4⟩ none
      (.step .text ⟨some 87, .move (.tmp 9), 36⟩ (some (some 86, true))
      (.step .text ⟨some 88, .call { callee := (.value (.func 11)), args := #[(.tmp 87)], argTypes := #[36] }, 39⟩ (some (some 86, true))
      (.step .text ⟨some 89, .call { callee := (.builtin .len), args := #[(.tmp 88)], argTypes := #[39] }, 3⟩ (some (some 86, true))
      (.step .text ⟨some 90, .move (.tmp 10), 3⟩ (some (some 86, true))
      (.step .text ⟨some 91, .binOp .eql 3 (.tmp 89) (.tmp 90) 3, 4⟩ (some (some 86, true))
      (.step .text ⟨some 92, .pick (.tmp 86) (.tmp 91) (.const (.bool false)), 4⟩ none
      (.step .text ⟨some 4, .assign (.tmp 92), 4⟩ none
      .nil)))))))))))))))))))
    .ret))))))))))
theorem Try.hx4 : compile Try.p4 (Try.f4.body.getD .skip) = Try.x4 := by kernel_rfl
theorem Try.ok4 : plansOk Try.p4 (Try.f4.body.getD .skip) = true := by kernel_rfl
noncomputable def Try.x4bbbabal : XCode := (.seq (.region (.step .text ⟨some 23, .binOp .lss 3 (.tmp 22) (.tmp 21) 3, 0⟩ none
      .nil))
    (.seq (.cond (.tmp 23)
    .skip
    (.exit 0))
    (.seq (.block 1 (.seq (.region (.step .text ⟨some 24, .indexAddr 22 (.tmp 20) (.tmp 22), 0⟩ none
      (.step .text ⟨some 25, .load 35 (.tmp 24), 35⟩ none
      (.step .text ⟨some 6, .alloc 35, 0⟩ none
      (.step .text ⟨none, .store 35 (.tmp 6) (.tmp 25), 0⟩ none
      .nil)))))
    (.seq (.region (.step .text ⟨some 26, .fieldAddr 35 (.tmp 6) 1, 0⟩ none
      (.step .text ⟨some 27, .fieldAddr 33 (.tmp 26) 1, 0⟩ none
      (.step .text ⟨some 28, .load 31 (.tmp 27), 31⟩ none
      (.step .text ⟨some 29, .move (.const (.int .i64 0)), 3⟩ none
      .nil)))))
    (.block 2 (.code Try.c4bbbabalbbaabba)))))
    (.region (.step .text ⟨some 41, .binOp .add 3 (.tmp 22) (.const (.int .i64 1)) 3, 3⟩ none
      (.step .text ⟨some 22, .move (.tmp 41), 3⟩ none
      .nil))))))
theorem Try.hx4bbbabal : compile Try.p4 (part1 Try.c4bbbaba 0) = Try.x4bbbabal := by kernel_rfl
theorem Try.ok4bbbabal : plansOk Try.p4 (part1 Try.c4bbbaba 0) = true := by kernel_rfl
theorem Try.lp4bbbaba : Try.c4bbbaba = .loop (part1 Try.c4bbbaba 0) := by kernel_rfl
noncomputable def Try.x4bbbbbbabal : XCode := (.seq (.region (.step .text ⟨some 47, .binOp .lss 3 (.tmp 46) (.tmp 45) 3, 0⟩ none
      .nil))
    (.seq (.cond (.tmp 47)
    .skip
    (.exit 4))
    (.seq (.block 5 (.seq (.region (.step .text ⟨some 48, .indexAddr 22 (.tmp 44) (.tmp 46), 0⟩ none
      (.step .text ⟨some 49, .load 35 (.tmp 48), 35⟩ none
      (.step .text ⟨some 12, .alloc 35, 0⟩ none
      (.step .text ⟨none, .store 35 (.tmp 12) (.tmp 49), 0⟩ none
      .nil)))))
    (.seq (.region (.step .text ⟨some 50, .move (.tmp 9), 36⟩ none
      (.step .text ⟨some 51, .fieldAddr 35 (.tmp 12) 0, 0⟩ none
      (.step .text ⟨some 52, .load 27 (.tmp 51), 27⟩ none
      (.step .text ⟨some 53, .fieldAddr 35 (.tmp 12) 1, 0⟩ none
      (.step .text ⟨some 54, .load 33 (.tmp 53), 33⟩ none
      (.step .text ⟨some 55, .call { callee := (.value (.func 9)), args := #[(.tmp 50), (.tmp 52), (.tmp 54)], argTypes := #[36, 27, 33] }, 4⟩ none
      .nil)))))))
    (.cond (.tmp 55)
    (.region (.step .text ⟨some 56, .move (.tmp 10), 3⟩ none
      (.step .text ⟨some 57, .binOp .add 3 (.tmp 56) (.const (.int .i64 1)) 3, 3⟩ none
      (.step .text ⟨some 10, .assign (.tmp 57), 3⟩ none
      .nil))))
    .skip))))
    (.region (.step .text ⟨some 58, .binOp .add 3 (.tmp 46) (.const (.int .i64 1)) 3, 3⟩ none
      (.step .text ⟨some 46, .move (.tmp 58), 3⟩ none
      .nil))))))
theorem Try.hx4bbbbbbabal : compile Try.p4 (part1 Try.c4bbbbbbaba 0) = Try.x4bbbbbbabal := by kernel_rfl
theorem Try.ok4bbbbbbabal : plansOk Try.p4 (part1 Try.c4bbbbbbaba 0) = true := by kernel_rfl
theorem Try.lp4bbbbbbaba : Try.c4bbbbbbaba = .loop (part1 Try.c4bbbbbbaba 0) := by kernel_rfl
noncomputable def Try.x4bbbbbbbabal : XCode := (.seq (.region (.step .text ⟨some 63, .binOp .lss 3 (.tmp 62) (.tmp 61) 3, 0⟩ none
      .nil))
    (.seq (.cond (.tmp 63)
    .skip
    (.exit 6))
    (.seq (.block 7 (.seq (.region (.step .text ⟨some 64, .indexAddr 39 (.tmp 60) (.tmp 62), 0⟩ none
      (.step .text ⟨some 65, .load 27 (.tmp 64), 27⟩ none
      (.step .text ⟨some 14, .alloc 27, 0⟩ none
      (.step .text ⟨none, .store 27 (.tmp 14) (.tmp 65), 0⟩ none
      .nil)))))
    (.seq (.seq (.region (.step .text ⟨some 66, .move (.tmp 9), 36⟩ none
      (.step .text ⟨some 67, .load 27 (.tmp 14), 27⟩ none
      (.step .text ⟨some 68, .build 33 #[], 33⟩ none
      (.step .text ⟨some 69, .call { callee := (.value (.func 9)), args := #[(.tmp 66), (.tmp 67), (.tmp 68)], argTypes := #[36, 27, 33] }, 4⟩ none
      (.step .text ⟨some 70, .unOp .not 4 (.tmp 69), 4⟩ none
      .nil))))))
    (.cond (.tmp 70)
    (.seq (.region (.step .text ⟨some 4, .assign (.const (.bool false)), 4⟩ none
      .nil))
    .ret)
    .skip))
    (.region (.step .text ⟨some 71, .move (.tmp 10), 3⟩ none
      (.step .text ⟨some 72, .binOp .add 3 (.tmp 71) (.const (.int .i64 1)) 3, 3⟩ none
      (.step .text ⟨some 10, .assign (.tmp 72), 3⟩ none
      .nil)))))))
    (.region (.step .text ⟨some 73, .binOp .add 3 (.tmp 62) (.const (.int .i64 1)) 3, 3⟩ none
      (.step .text ⟨some 62, .move (.tmp 73), 3⟩ none
      .nil))))))
theorem Try.hx4bbbbbbbabal : compile Try.p4 (part1 Try.c4bbbbbbbaba 0) = Try.x4bbbbbbbabal := by kernel_rfl
theorem Try.ok4bbbbbbbabal : plansOk Try.p4 (part1 Try.c4bbbbbbbaba 0) = true := by kernel_rfl
theorem Try.lp4bbbbbbbaba : Try.c4bbbbbbbaba = .loop (part1 Try.c4bbbbbbbaba 0) := by kernel_rfl
noncomputable def Try.x4bbbabalbbaabbal : XCode := (.seq (.region (.step .text ⟨some 30, .binOp .lss 3 (.tmp 29) (.const (.int .i64 7)) 3, 0⟩ none
      .nil))
    (.seq (.cond (.tmp 30)
    .skip
    (.exit 2))
    (.seq (.block 3 (.seq (.region (.step .text ⟨some 31, .move (.tmp 29), 3⟩ none
      (.step .text ⟨some 32, .index 31 (.tmp 28) (.tmp 29), 3⟩ none
      (.step .text ⟨some 7, .assign (.tmp 31), 3⟩ none
      (.step .text ⟨some 8, .assign (.tmp 32), 3⟩ none
      .nil)))))
    (.seq (.region (.step .text ⟨some 33, .move (.tmp 7), 3⟩ none
      (.step .text ⟨some 34, .move (.tmp 0), 3⟩ none
      (.step .text ⟨some 35, .binOp .geq 3 (.tmp 33) (.tmp 34) 3, 4⟩ none
      (.step .text ⟨some 36, .move (.tmp 35), 4⟩ none
      (.step .text ⟨some 37, .move (.tmp 8), 3⟩ (some (some 36, true))
      (.step .text ⟨some 38, .binOp .neq 3 (.tmp 37) (.const (.int .i64 0)) 3, 4⟩ (some (some 36, true))
      (.step .text ⟨some 39, .pick (.tmp 36) (.tmp 38) (.const (.bool false)), 4⟩ none
      .nil))))))))
    (.cond (.tmp 39)
    (.seq (.region (.step .text ⟨some 4, .assign (.const (.bool true)), 4⟩ none
      .nil))
    .ret)
    .skip))))
    (.region (.step .text ⟨some 40, .binOp .add 3 (.tmp 29) (.const (.int .i64 1)) 3, 3⟩ none
      (.step .text ⟨some 29, .move (.tmp 40), 3⟩ none
      .nil))))))
theorem Try.hx4bbbabalbbaabbal : compile Try.p4 (part1 Try.c4bbbabalbbaabba 0) = Try.x4bbbabalbbaabbal := by kernel_rfl
theorem Try.ok4bbbabalbbaabbal : plansOk Try.p4 (part1 Try.c4bbbabalbbaabba 0) = true := by kernel_rfl
theorem Try.lp4bbbabalbbaabba : Try.c4bbbabalbbaabba = .loop (part1 Try.c4bbbabalbbaabba 0) := by kernel_rfl
theorem Try.fb4 : Try.f4.body = some (Try.f4.body.getD .skip) := by kernel_rfl
/-- caucus/caucuslaw19.RunDoes -/
def Try.p5 : Nat → Option Plan := fun i => match i with
  | 13 => some ⟨[8], [11], (.pure 5 (.weak 0 [0, 9, 10, 11] (.load 1 [1, 2, 3, 4, 8, 9, 10, 11] (.pure 2 (.pure 3 (.load 4 [4, 8, 9, 10, 11] (.load 6 [6, 7, 8, 9, 10, 11] (.eff 7 (.late 8 (.pure 9 (.pure 10 (.last 11 .nil))))))))))))⟩
  | 14 => some ⟨[8], [11], (.pure 5 (.weak 0 [0, 9, 10, 11] (.load 1 [1, 2, 3, 4, 8, 9, 10, 11] (.pure 2 (.pure 3 (.load 4 [4, 8, 9, 10, 11] (.load 6 [6, 7, 8, 9, 10, 11] (.eff 7 (.late 8 (.pure 9 (.pure 10 (.last 11 .nil))))))))))))⟩
  | 27 => some ⟨[], [], (.pure 0 (.load 2 [2] (.pure 3 (.pure 4 (.load 5 [5] (.eff 1 (.eff 6 (.pure 7 (.pure 8 (.pure 9 (.pure 11 (.eff 10 (.eff 12 (.pure 13 (.pure 14 (.pure 15 (.pure 16 (.load 19 [19] (.pure 20 (.pure 21 (.load 22 [22] (.pure 23 (.load 25 [25] (.pure 26 (.pure 27 (.load 28 [28] (.pure 29 (.eff 17 (.pure 18 (.pure 24 (.pure 30 (.pure 31 (.pure 32 (.pure 33 (.pure 34 (.pure 38 (.load 35 [35] (.load 37 [37] (.load 39 [39] (.eff 36 (.eff 40 (.pure 41 (.pure 42 (.pure 43 (.pure 44 (.pure 45 (.pure 49 (.load 46 [46] (.load 48 [48] (.load 50 [50] (.eff 47 (.eff 51 (.pure 52 (.pure 53 (.pure 54 .nil)))))))))))))))))))))))))))))))))))))))))))))))))))))))⟩
  | 32 => some ⟨[], [], (.load 0 [0] (.load 1 [1] (.eff 2 (.pure 3 (.pure 4 (.load 5 [5] (.load 6 [6] (.eff 7 (.pure 8 (.pure 9 (.pure 10 (.pure 11 (.pure 12 (.pure 13 (.pure 15 (.pure 16 (.load 19 [19] (.eff 14 (.pure 17 (.load 18 [18] (.eff 20 (.pure 21 (.pure 22 (.pure 23 .nil))))))))))))))))))))))))⟩
  | _ => none
/-- caucus/caucuslaw19.alive -/
def Try.p6 : Nat → Option Plan := fun i => match i with
  | _ => none
noncomputable def Try.c6bbbbaba : Code := partAt (Try.f6.body.getD .skip) [1, 1, 1, 1, 0, 1, 0]
noncomputable def Try.x6 : XCode := (.seq (.region (.step .text ⟨some 0, .alloc 4, 0⟩ none
      .nil))
    (.seq (.region (.step .text ⟨some 5, .call { callee := (.value (.func 8)), args := #[(.const (.int .i64 3))], argTypes := #[3] }, 36⟩ none
      (.step .text ⟨some 1, .alloc 36, 0⟩ none
      (.step .text ⟨none, .store 36 (.tmp 1) (.tmp 5), 0⟩ none
      .nil))))
    (.seq (.region (.step .text ⟨some 6, .build 27 #[(0, (.const (.int .i64 1))), (1, (.const (.int .i64 1)))], 27⟩ none
      (.step .text ⟨some 2, .alloc 27, 0⟩ none
      (.step .text ⟨none, .store 27 (.tmp 2) (.tmp 6), 0⟩ none
      .nil))))
    (.seq (.seq (.region (.step .text ⟨some 7, .load 36 (.tmp 1), 36⟩ none
      (.step .text ⟨some 8, .load 27 (.tmp 2), 27⟩ none
      (.step .text ⟨some 9, .build 33 #[(2, (.const (.int .i64 4)))], 33⟩ none
      (.step .text ⟨some 10, .call { callee := (.value (.func 9)), args := #[(.tmp 7), (.tmp 8), (.tmp 9)], argTypes := #[36, 27, 33] }, 4⟩ none
      (.step .text ⟨some 11, .unOp .not 4 (.tmp 10), 4⟩ none
      (.step .text ⟨some 12, .move (.tmp 11), 4⟩ none
      (.step .text ⟨some 13, .load 36 (.tmp 1), 36⟩ (some (some 12, false))
      (.step .text ⟨some 14, .call { callee := (.value (.func 14)), args := #[(.tmp 13)], argTypes := #[36] }, 39⟩ (some (some 12, false))
      (.step .text ⟨some 15, .call { callee := (.builtin .len), args := #[(.tmp 14)], argTypes := #[39] }, 3⟩ (some (some 12, false))
      (.step .text ⟨some 16, .binOp .neq 3 (.tmp 15) (.const (.int .i64 1)) 3, 4⟩ (some (some 12, false))
      (.step .text ⟨some 17, .pick (.tmp 12) (.const (.bool true)) (.tmp 16), 4⟩ none
      .nil))))))))))))
    (.cond (.tmp 17)
    (.seq (.region (.step .text ⟨none, .store 4 (.tmp 0) (.const (.bool false)), 0⟩ none
      .nil))
    .ret)
    .skip))
    (.seq (.seq (.region (.step .text ⟨some 18, .load 36 (.tmp 1), 36⟩ none
      (.step .text ⟨some 19, .call { callee := (.value (.func 17)), args := #[(.tmp 18)], argTypes := #[36] }, 52⟩ none
      .nil)))
    (.block 0 (.code Try.c6bbbbaba)))
    (.seq (.region (.step .text ⟨none, .store 4 (.tmp 0) (.const (.bool false)), 0⟩ none
      .nil))
    .ret))))))
theorem Try.hx6 : compile Try.p6 (Try.f6.body.getD .skip) = Try.x6 := by kernel_rfl
theorem Try.ok6 : plansOk Try.p6 (Try.f6.body.getD .skip) = true := by kernel_rfl
theorem Try.fb6 : Try.f6.body = some (Try.f6.body.getD .skip) := by kernel_rfl
theorem Try.en6 : Enters Try.prog 6 := ⟨Try.f6, Try.func6, by kernel_rfl, by kernel_rfl⟩
/-- caucus/caucuslaw19.great -/
def Try.p7 : Nat → Option Plan := fun i => match i with
  | _ => none
noncomputable def Try.x7 : XCode := (.seq (.region (.step .text ⟨some 4, .assign (.const (.bool false)), 4⟩ none
      .nil))
    (.seq (.region (.step .text ⟨some 5, .move (.tmp 0), 3⟩ none
      (.step .text ⟨some 6, .binOp .neq 3 (.tmp 5) (.const (.int .i64 3)) 3, 4⟩ none
      (.step .text ⟨some 7, .move (.tmp 6), 4⟩ none
      (.step .text ⟨some 8, .move (.tmp 0), 3⟩ (some (some 7, true))
      (.step .text ⟨some 9, .binOp .neq 3 (.tmp 8) (.const (.int .i64 5)) 3, 4⟩ (some (some 7, true))
      (.step .text ⟨some 10, .pick (.tmp 7) (.tmp 9) (.const (.bool false)), 4⟩ none
      (.step .text ⟨some 11, .move (.tmp 10), 4⟩ none
      (.step .text ⟨some 12, .move (.tmp 0), 3⟩ (some (some 11, true))
      (.step .text ⟨some 13, .binOp .neq 3 (.tmp 12) (.const (.int .i64 7)) 3, 4⟩ (some (some 11, true))
      (.step .text ⟨some 14, .pick (.tmp 11) (.tmp 13) (.const (.bool false)), 4⟩ none
      (.step .text ⟨some 15, .move (.tmp 14), 4⟩ none
      (.step .text ⟨some 16, .move (.tmp 1), 22⟩ (some (some 15, false))
      (.step .text ⟨some 17, .call { callee := (.builtin .len), args := #[(.tmp 16)], argTypes := #[22] }, 3⟩ (some (some 15, false))
      (.step .text ⟨some 18, .binOp .gtr 3 (.tmp 17) (.const (.int .i64 25)) 3, 4⟩ (some (some 15, false))
      (.step .text ⟨some 19, .pick (.tmp 15) (.const (.bool true)) (.tmp 18), 4⟩ none
      (.step .text ⟨some 4, .assign (.tmp 19), 4⟩ none
      .nil)))))))))))))))))
    .ret))
theorem Try.hx7 : compile Try.p7 (Try.f7.body.getD .skip) = Try.x7 := by kernel_rfl
theorem Try.ok7 : plansOk Try.p7 (Try.f7.body.getD .skip) = true := by kernel_rfl
theorem Try.fb7 : Try.f7.body = some (Try.f7.body.getD .skip) := by kernel_rfl
theorem Try.en7 : Enters Try.prog 7 := ⟨Try.f7, Try.func7, by kernel_rfl, by kernel_rfl⟩
/-- caucus/run.New -/
def Try.p8 : Nat → Option Plan := fun i => match i with
  | _ => none
noncomputable def Try.x8 : XCode := (.seq (.region (.step .text ⟨some 2, .assign (.const (.pointer none)), 36⟩ none
      .nil))
    (.seq (.region (.step .text ⟨some 3, .move (.tmp 0), 3⟩ none
      (.step .text ⟨some 4, .call { callee := (.value (.func 25)), args := #[(.tmp 3)], argTypes := #[3] }, 59⟩ none
      (.step .text ⟨some 5, .build 62 #[(0, (.tmp 4))], 62⟩ none
      (.step .text ⟨some 6, .box 62 (.tmp 5), 36⟩ none
      (.step .text ⟨some 2, .assign (.tmp 6), 36⟩ none
      .nil))))))
    .ret))
theorem Try.hx8 : compile Try.p8 (Try.f8.body.getD .skip) = Try.x8 := by kernel_rfl
theorem Try.ok8 : plansOk Try.p8 (Try.f8.body.getD .skip) = true := by kernel_rfl
theorem Try.fb8 : Try.f8.body = some (Try.f8.body.getD .skip) := by kernel_rfl
theorem Try.en8 : Enters Try.prog 8 := ⟨Try.f8, Try.func8, by kernel_rfl, by kernel_rfl⟩
/-- (*caucus/run.Run).Commit -/
def Try.p9 : Nat → Option Plan := fun i => match i with
  | 1 => some ⟨[], [9], (.pure 0 (.pure 1 (.pure 2 (.pure 3 (.pure 4 (.pure 5 (.load 6 [6, 9, 10, 11] (.load 7 [7, 9, 10, 11] (.load 8 [8, 9, 10, 11] (.last 9 (.pure 10 (.pure 11 .nil))))))))))))⟩
  | 3 => some ⟨[], [7, 10], (.pure 0 (.pure 1 (.pure 2 (.pure 3 (.load 4 [4, 7, 8, 9, 10] (.load 5 [5, 6, 7, 8, 9, 10] (.eff 6 (.last 7 (.pure 8 (.pure 9 (.last 10 .nil)))))))))))⟩
  | _ => none
noncomputable def Try.x9 : XCode := (.seq (.region (.step .text ⟨some 4, .box 27 (.tmp 1), 0⟩ none
      (.step .text ⟨some 5, .box 33 (.tmp 2), 0⟩ none
      (.step .text ⟨some 6, .assign (.const (.bool false)), 4⟩ none
      .nil))))
    (.seq (.seq (.drawn (.step .pure ⟨some 7, .move (.tmp 0), 36⟩ none
      (.step .pure ⟨some 8, .binOp .eql 36 (.tmp 7) (.const (.pointer none)) 36, 4⟩ none
      (.step .pure ⟨some 9, .move (.tmp 8), 4⟩ none
      (.step .pure ⟨some 10, .move (.tmp 0), 36⟩ (some (some 9, false))
      (.step .pure ⟨some 11, .nilCheck (.tmp 10), 0⟩ (some (some 9, false))
      (.step .pure ⟨some 12, .fieldAddr 62 (.tmp 11) 0, 0⟩ (some (some 9, false))
      (.step .load ⟨some 13, .load 59 (.tmp 12), 59⟩ (some (some 9, false))
      (.step .load ⟨some 14, .load 27 (.tmp 4), 27⟩ (some (some 9, false))
      (.step .load ⟨some 15, .load 33 (.tmp 5), 33⟩ (some (some 9, false))
      (.step .last ⟨some 16, .call { callee := (.value (.func 26)), args := #[(.tmp 13), (.tmp 14), (.tmp 15)], argTypes := #[59, 27, 33] }, 4⟩ (some (some 9, false))
      (.step .pure ⟨some 17, .unOp .not 4 (.tmp 16), 4⟩ (some (some 9, false))
      (.step .pure ⟨some 18, .pick (.tmp 9) (.const (.bool true)) (.tmp 17), 4⟩ none
      .nil)))))))))))))
    (.cond (.tmp 18)
    (.seq (.region (.step .text ⟨some 6, .assign (.const (.bool false)), 4⟩ none
      .nil))
    .ret)
    .skip))
    (.seq (.drawn (.step .pure ⟨some 19, .move (.tmp 0), 36⟩ none
      (.step .pure ⟨some 20, .move (.tmp 0), 36⟩ none
      (.step .pure ⟨some 21, .nilCheck (.tmp 20), 0⟩ none
      (.step .pure ⟨some 22, .fieldAddr 62 (.tmp 21) 2, 0⟩ none
      (.step .load ⟨some 23, .load 39 (.tmp 22), 39⟩ none
      (.step .load ⟨some 24, .load 27 (.tmp 4), 27⟩ none
      (.step .eff ⟨some 25, .buildSlice 39 1 #[(0, (.tmp 24))], 39⟩ none
      (.step .last ⟨some 26, .call { callee := (.builtin .append), args := #[(.tmp 23), (.tmp 25)], argTypes := #[39, 39] }, 39⟩ none
      (.step .pure ⟨some 27, .nilCheck (.tmp 19), 0⟩ none
      (.step .pure ⟨some 28, .fieldAddr 62 (.tmp 27) 2, 0⟩ none
      (.step .last ⟨none, .store 39 (.tmp 28) (.tmp 26), 0⟩ none
      .nil))))))))))))
    (.seq (.region (.step .text ⟨some 29, .move (.tmp 0), 36⟩ none
      (.step .text ⟨some 30, .nilCheck (.tmp 29), 0⟩ none
      (.step .text ⟨some 31, .fieldAddr 62 (.tmp 30) 2, 0⟩ none
      (.step .text ⟨some 32, .load 39 (.tmp 31), 39⟩ none
      (.step .text ⟨some 33, .call { callee := (.value (.func 27)), args := #[(.tmp 32), (.func 28)], argTypes := #[39, 64] }, 0⟩ none
      .nil))))))
    (.seq (.region (.step .text ⟨some 6, .assign (.const (.bool true)), 4⟩ none
      .nil))
    .ret)))))
theorem Try.hx9 : compile Try.p9 (Try.f9.body.getD .skip) = Try.x9 := by kernel_rfl
theorem Try.ok9 : plansOk Try.p9 (Try.f9.body.getD .skip) = true := by kernel_rfl
theorem Try.fb9 : Try.f9.body = some (Try.f9.body.getD .skip) := by kernel_rfl
theorem Try.en9 : Enters Try.prog 9 := ⟨Try.f9, Try.func9, by kernel_rfl, by kernel_rfl⟩
/-- caucus/caucuslaw19.pass -/
def Try.p10 : Nat → Option Plan := fun i => match i with
  | _ => none
noncomputable def Try.c10ba : Code := partAt (Try.f10.body.getD .skip) [1, 0]
noncomputable def Try.x10 : XCode := (.seq (.region (.step .text ⟨some 2, .move (.tmp 0), 36⟩ none
      (.step .text ⟨some 3, .call { callee := (.value (.func 17)), args := #[(.tmp 2)], argTypes := #[36] }, 52⟩ none
      .nil)))
    (.block 0 (.code Try.c10ba)))
theorem Try.hx10 : compile Try.p10 (Try.f10.body.getD .skip) = Try.x10 := by kernel_rfl
theorem Try.ok10 : plansOk Try.p10 (Try.f10.body.getD .skip) = true := by kernel_rfl
theorem Try.fb10 : Try.f10.body = some (Try.f10.body.getD .skip) := by kernel_rfl
theorem Try.en10 : Enters Try.prog 10 := ⟨Try.f10, Try.func10, by kernel_rfl, by kernel_rfl⟩
/-- (*caucus/run.Run).Done -/
def Try.p11 : Nat → Option Plan := fun i => match i with
  | _ => none
noncomputable def Try.x11 : XCode := (.seq (.region (.step .text ⟨some 2, .assign (.const (.slice none 0 0)), 39⟩ none
      .nil))
    (.seq (.seq (.region (.step .text ⟨some 3, .move (.tmp 0), 36⟩ none
      (.step .text ⟨some 4, .binOp .eql 36 (.tmp 3) (.const (.pointer none)) 36, 4⟩ none
      .nil)))
    (.cond (.tmp 4)
    (.seq (.region (.step .text ⟨some 2, .assign (.const (.slice none 0 0)), 39⟩ none
      .nil))
    .ret)
    .skip))
    (.seq (.region (.step .text ⟨some 5, .move (.tmp 0), 36⟩ none
      (.step .text ⟨some 6, .nilCheck (.tmp 5), 0⟩ none
      (.step .text ⟨some 7, .fieldAddr 62 (.tmp 6) 1, 0⟩ none
      (.step .text ⟨some 8, .load 39 (.tmp 7), 39⟩ none
      (.step .text ⟨some 9, .call { callee := (.value (.func 30)), args := #[(.tmp 8)], argTypes := #[39] }, 39⟩ none
      (.step .text ⟨some 2, .assign (.tmp 9), 39⟩ none
      .nil)))))))
    .ret)))
theorem Try.hx11 : compile Try.p11 (Try.f11.body.getD .skip) = Try.x11 := by kernel_rfl
theorem Try.ok11 : plansOk Try.p11 (Try.f11.body.getD .skip) = true := by kernel_rfl
theorem Try.fb11 : Try.f11.body = some (Try.f11.body.getD .skip) := by kernel_rfl
theorem Try.en11 : Enters Try.prog 11 := ⟨Try.f11, Try.func11, by kernel_rfl, by kernel_rfl⟩
/-- (*caucus/run.Run).Missing -/
def Try.p13 : Nat → Option Plan := fun i => match i with
  | 7 => some ⟨[], [], (.pure 0 (.pure 1 (.pure 2 (.load 3 [3] (.load 4 [4] (.eff 5 (.pure 6 (.pure 7 (.pure 8 (.pure 9 (.pure 10 .nil)))))))))))⟩
  | _ => none
noncomputable def Try.c13bbbaba : Code := partAt (Try.f13.body.getD .skip) [1, 1, 1, 0, 1, 0]
noncomputable def Try.c13bbbabalbbaabbba : Code := partAt (Try.f13.body.getD .skip) [1, 1, 1, 0, 1, 0, 0, 1, 1, 0, 0, 1, 1, 1, 0]
noncomputable def Try.x13 : XCode := (.seq (.region (.step .text ⟨some 2, .assign (.const (.slice none 0 0)), 39⟩ none
      .nil))
    (.seq (.seq (.region (.step .text ⟨some 10, .move (.tmp 0), 36⟩ none
      (.step .text ⟨some 11, .binOp .eql 36 (.tmp 10) (.const (.pointer none)) 36, 4⟩ none
      .nil)))
    (.cond (.tmp 11)
    (.seq (.region (.step .text ⟨some 2, .assign (.const (.slice none 0 0)), 39⟩ none
      .nil))
    .ret)
    .skip))
    (.seq (.region (.step .text ⟨some 3, .assign (.const (.slice none 0 0)), 39⟩ none
      .nil))
    (.seq (.seq (.region (.step .text ⟨some 12, .move (.tmp 0), 36⟩ none
      (.step .text ⟨some 13, .nilCheck (.tmp 12), 0⟩ none
      (.step .text ⟨some 14, .fieldAddr 62 (.tmp 13) 2, 0⟩ none
      (.step .text ⟨some 15, .load 39 (.tmp 14), 39⟩ none
      (.step .text ⟨some 16, .call { callee := (.builtin .len), args := #[(.tmp 15)], argTypes := #[39] }, 3⟩ none
      (.step .text ⟨some 17, .move (.const (.int .i64 0)), 3⟩ none
      .nil)))))))
    (.block 0 (.code Try.c13bbbaba)))
    (.seq (.region (.step .text ⟨some 46, .move (.tmp 3), 39⟩ none
      (.step .text ⟨some 47, .call { callee := (.value (.func 27)), args := #[(.tmp 46), (.func 33)], argTypes := #[39, 64] }, 0⟩ none
      .nil)))
    (.seq (.region (.step .text ⟨some 48, .move (.tmp 3), 39⟩ none
      (.step .text ⟨some 2, .assign (.tmp 48), 39⟩ none
      .nil)))
    .ret))))))
theorem Try.hx13 : compile Try.p13 (Try.f13.body.getD .skip) = Try.x13 := by kernel_rfl
theorem Try.ok13 : plansOk Try.p13 (Try.f13.body.getD .skip) = true := by kernel_rfl
noncomputable def Try.x13bbbabal : XCode := (.seq (.region (.step .text ⟨some 18, .binOp .lss 3 (.tmp 17) (.tmp 16) 3, 0⟩ none
      .nil))
    (.seq (.cond (.tmp 18)
    .skip
    (.exit 0))
    (.seq (.block 1 (.seq (.region (.step .text ⟨some 19, .indexAddr 39 (.tmp 15) (.tmp 17), 0⟩ none
      (.step .text ⟨some 20, .load 27 (.tmp 19), 27⟩ none
      (.step .text ⟨some 5, .alloc 27, 0⟩ none
      (.step .text ⟨none, .store 27 (.tmp 5) (.tmp 20), 0⟩ none
      .nil)))))
    (.seq (.drawn (.step .pure ⟨some 22, .move (.tmp 0), 36⟩ none
      (.step .pure ⟨some 23, .nilCheck (.tmp 22), 0⟩ none
      (.step .pure ⟨some 24, .fieldAddr 62 (.tmp 23) 0, 0⟩ none
      (.step .load ⟨some 25, .load 59 (.tmp 24), 59⟩ none
      (.step .load ⟨some 26, .load 27 (.tmp 5), 27⟩ none
      (.step .eff ⟨some 27, .call { callee := (.value (.func 31)), args := #[(.tmp 25), (.tmp 26)], argTypes := #[59, 27] }, 67⟩ none
      (.step .pure ⟨some 21, .move (.tmp 27), 67⟩ none
      (.step .pure ⟨some 28, .extract (.tmp 21) 0, 66⟩ none
      (.step .pure ⟨some 29, .extract (.tmp 21) 1, 39⟩ none
      (.step .pure ⟨some 6, .assign (.tmp 28), 66⟩ none
      (.step .pure ⟨some 7, .assign (.tmp 29), 39⟩ none
      .nil))))))))))))
    (.seq (.region (.step .text ⟨some 30, .move (.tmp 7), 39⟩ none
      (.step .text ⟨some 31, .call { callee := (.builtin .len), args := #[(.tmp 30)], argTypes := #[39] }, 3⟩ none
      (.step .text ⟨some 32, .move (.const (.int .i64 0)), 3⟩ none
      .nil))))
    (.block 2 (.code Try.c13bbbabalbbaabbba))))))
    (.region (.step .text ⟨some 45, .binOp .add 3 (.tmp 17) (.const (.int .i64 1)) 3, 3⟩ none
      (.step .text ⟨some 17, .move (.tmp 45), 3⟩ none
      .nil))))))
theorem Try.hx13bbbabal : compile Try.p13 (part1 Try.c13bbbaba 0) = Try.x13bbbabal := by kernel_rfl
theorem Try.ok13bbbabal : plansOk Try.p13 (part1 Try.c13bbbaba 0) = true := by kernel_rfl
theorem Try.lp13bbbaba : Try.c13bbbaba = .loop (part1 Try.c13bbbaba 0) := by kernel_rfl
noncomputable def Try.x13bbbabalbbaabbbal : XCode := (.seq (.region (.step .text ⟨some 33, .binOp .lss 3 (.tmp 32) (.tmp 31) 3, 0⟩ none
      .nil))
    (.seq (.cond (.tmp 33)
    .skip
    (.exit 2))
    (.seq (.block 3 (.seq (.region (.step .text ⟨some 34, .indexAddr 39 (.tmp 30) (.tmp 32), 0⟩ none
      (.step .text ⟨some 35, .load 27 (.tmp 34), 27⟩ none
      (.step .text ⟨some 9, .alloc 27, 0⟩ none
      (.step .text ⟨none, .store 27 (.tmp 9) (.tmp 35), 0⟩ none
      .nil)))))
    (.seq (.region (.step .text ⟨some 36, .move (.tmp 3), 39⟩ none
      (.step .text ⟨some 37, .load 27 (.tmp 9), 27⟩ none
      (.step .text ⟨some 38, .call { callee := (.value (.func 32)), args := #[(.tmp 36), (.tmp 37)], argTypes := #[39, 27] }, 4⟩ none
      (.step .text ⟨some 39, .unOp .not 4 (.tmp 38), 4⟩ none
      .nil)))))
    (.cond (.tmp 39)
    (.region (.step .text ⟨some 40, .move (.tmp 3), 39⟩ none
      (.step .text ⟨some 41, .load 27 (.tmp 9), 27⟩ none
      (.step .text ⟨some 42, .buildSlice 39 1 #[(0, (.tmp 41))], 39⟩ none
      (.step .text ⟨some 43, .call { callee := (.builtin .append), args := #[(.tmp 40), (.tmp 42)], argTypes := #[39, 39] }, 39⟩ none
      (.step .text ⟨some 3, .assign (.tmp 43), 39⟩ none
      .nil))))))
    .skip))))
    (.region (.step .text ⟨some 44, .binOp .add 3 (.tmp 32) (.const (.int .i64 1)) 3, 3⟩ none
      (.step .text ⟨some 32, .move (.tmp 44), 3⟩ none
      .nil))))))
theorem Try.hx13bbbabalbbaabbbal : compile Try.p13 (part1 Try.c13bbbabalbbaabbba 0) = Try.x13bbbabalbbaabbbal := by kernel_rfl
theorem Try.ok13bbbabalbbaabbbal : plansOk Try.p13 (part1 Try.c13bbbabalbbaabbba 0) = true := by kernel_rfl
theorem Try.lp13bbbabalbbaabbba : Try.c13bbbabalbbaabbba = .loop (part1 Try.c13bbbabalbbaabbba 0) := by kernel_rfl
theorem Try.fb13 : Try.f13.body = some (Try.f13.body.getD .skip) := by kernel_rfl
theorem Try.en13 : Enters Try.prog 13 := ⟨Try.f13, Try.func13, by kernel_rfl, by kernel_rfl⟩
/-- (*caucus/run.Run).Open -/
def Try.p14 : Nat → Option Plan := fun i => match i with
  | _ => none
noncomputable def Try.x14 : XCode := (.seq (.region (.step .text ⟨some 2, .assign (.const (.slice none 0 0)), 39⟩ none
      .nil))
    (.seq (.seq (.region (.step .text ⟨some 3, .move (.tmp 0), 36⟩ none
      (.step .text ⟨some 4, .binOp .eql 36 (.tmp 3) (.const (.pointer none)) 36, 4⟩ none
      .nil)))
    (.cond (.tmp 4)
    (.seq (.region (.step .text ⟨some 2, .assign (.const (.slice none 0 0)), 39⟩ none
      .nil))
    .ret)
    .skip))
    (.seq (.region (.step .text ⟨some 5, .move (.tmp 0), 36⟩ none
      (.step .text ⟨some 6, .nilCheck (.tmp 5), 0⟩ none
      (.step .text ⟨some 7, .fieldAddr 62 (.tmp 6) 2, 0⟩ none
      (.step .text ⟨some 8, .load 39 (.tmp 7), 39⟩ none
      (.step .text ⟨some 9, .call { callee := (.value (.func 30)), args := #[(.tmp 8)], argTypes := #[39] }, 39⟩ none
      (.step .text ⟨some 2, .assign (.tmp 9), 39⟩ none
      .nil)))))))
    .ret)))
theorem Try.hx14 : compile Try.p14 (Try.f14.body.getD .skip) = Try.x14 := by kernel_rfl
theorem Try.ok14 : plansOk Try.p14 (Try.f14.body.getD .skip) = true := by kernel_rfl
theorem Try.fb14 : Try.f14.body = some (Try.f14.body.getD .skip) := by kernel_rfl
theorem Try.en14 : Enters Try.prog 14 := ⟨Try.f14, Try.func14, by kernel_rfl, by kernel_rfl⟩
/-- (*caucus/run.Run).Go -/
def Try.p17 : Nat → Option Plan := fun i => match i with
  | _ => none
noncomputable def Try.x17 : XCode := (.seq (.region (.step .text ⟨some 1, .box 36 (.tmp 0), 0⟩ none
      (.step .text ⟨some 2, .assign (.const .nilFunc), 52⟩ none
      .nil)))
    (.seq (.region (.step .text ⟨some 3, .makeFunc (.func 34) #[] #[(.tmp 1)], 51⟩ none
      (.step .text ⟨some 2, .assign (.tmp 3), 52⟩ none
      .nil)))
    .ret))
theorem Try.hx17 : compile Try.p17 (Try.f17.body.getD .skip) = Try.x17 := by kernel_rfl
theorem Try.ok17 : plansOk Try.p17 (Try.f17.body.getD .skip) = true := by kernel_rfl
theorem Try.fb17 : Try.f17.body = some (Try.f17.body.getD .skip) := by kernel_rfl
theorem Try.en17 : Enters Try.prog 17 := ⟨Try.f17, Try.func17, by kernel_rfl, by kernel_rfl⟩
/-- caucus/caucusref19.Missing -/
def Try.p20 : Nat → Option Plan := fun i => match i with
  | 11 => some ⟨[], [], (.pure 0 (.pure 1 (.pure 2 (.pure 3 (.pure 4 (.pure 5 (.pure 6 (.pure 7 (.load 8 [8] (.load 9 [9] (.eff 10 (.pure 11 .nil))))))))))))⟩
  | 13 => some ⟨[4], [7, 11], (.pure 1 (.pure 2 (.pure 3 (.pure 8 (.pure 9 (.pure 10 (.weak 5 [5, 6, 7, 11, 12] (.fork (.eff 0 (.fork (.late 4 (.eff 6 (.last 7 (.last 11 (.pure 12 .nil))))) (.eff 6 (.late 4 (.last 7 (.last 11 (.pure 12 .nil))))))) (.eff 6 (.eff 0 (.late 4 (.last 7 (.last 11 (.pure 12 .nil))))))))))))))⟩
  | _ => none
/-- (*caucus/run.Run).Over -/
def Try.p22 : Nat → Option Plan := fun i => match i with
  | 1 => some ⟨[], [], (.pure 0 (.pure 1 (.pure 2 (.pure 3 (.pure 4 (.pure 5 (.load 6 [6] (.load 7 [7] (.eff 8 (.pure 9 (.pure 10 .nil)))))))))))⟩
  | _ => none
noncomputable def Try.x22 : XCode := (.seq (.region (.step .text ⟨some 3, .box 27 (.tmp 1), 0⟩ none
      (.step .text ⟨some 4, .assign (.const (.bool false)), 4⟩ none
      .nil)))
    (.seq (.drawn (.step .pure ⟨some 5, .move (.tmp 0), 36⟩ none
      (.step .pure ⟨some 6, .binOp .neq 36 (.tmp 5) (.const (.pointer none)) 36, 4⟩ none
      (.step .pure ⟨some 7, .move (.tmp 6), 4⟩ none
      (.step .pure ⟨some 8, .move (.tmp 0), 36⟩ (some (some 7, true))
      (.step .pure ⟨some 9, .nilCheck (.tmp 8), 0⟩ (some (some 7, true))
      (.step .pure ⟨some 10, .fieldAddr 62 (.tmp 9) 0, 0⟩ (some (some 7, true))
      (.step .load ⟨some 11, .load 59 (.tmp 10), 59⟩ (some (some 7, true))
      (.step .load ⟨some 12, .load 27 (.tmp 3), 27⟩ (some (some 7, true))
      (.step .eff ⟨some 13, .call { callee := (.value (.func 41)), args := #[(.tmp 11), (.tmp 12)], argTypes := #[59, 27] }, 4⟩ (some (some 7, true))
      (.step .pure ⟨some 14, .pick (.tmp 7) (.tmp 13) (.const (.bool false)), 4⟩ none
      (.step .pure ⟨some 4, .assign (.tmp 14), 4⟩ none
      .nil))))))))))))
    .ret))
theorem Try.hx22 : compile Try.p22 (Try.f22.body.getD .skip) = Try.x22 := by kernel_rfl
theorem Try.ok22 : plansOk Try.p22 (Try.f22.body.getD .skip) = true := by kernel_rfl
theorem Try.fb22 : Try.f22.body = some (Try.f22.body.getD .skip) := by kernel_rfl
theorem Try.en22 : Enters Try.prog 22 := ⟨Try.f22, Try.func22, by kernel_rfl, by kernel_rfl⟩
/-- caucus/graph.New -/
def Try.p25 : Nat → Option Plan := fun i => match i with
  | _ => none
noncomputable def Try.x25 : XCode := (.seq (.region (.step .text ⟨some 2, .assign (.const (.pointer none)), 59⟩ none
      .nil))
    (.seq (.region (.step .text ⟨some 3, .move (.tmp 0), 3⟩ none
      (.step .text ⟨some 4, .call { callee := (.value (.func 43)), args := #[(.tmp 3)], argTypes := #[3] }, 75⟩ none
      (.step .text ⟨some 5, .move (.tmp 0), 3⟩ none
      (.step .text ⟨some 6, .call { callee := (.value (.func 44)), args := #[(.tmp 5)], argTypes := #[3] }, 77⟩ none
      (.step .text ⟨some 7, .build 80 #[(0, (.tmp 4)), (1, (.tmp 6))], 80⟩ none
      (.step .text ⟨some 8, .box 80 (.tmp 7), 59⟩ none
      (.step .text ⟨some 2, .assign (.tmp 8), 59⟩ none
      .nil))))))))
    .ret))
theorem Try.hx25 : compile Try.p25 (Try.f25.body.getD .skip) = Try.x25 := by kernel_rfl
theorem Try.ok25 : plansOk Try.p25 (Try.f25.body.getD .skip) = true := by kernel_rfl
theorem Try.fb25 : Try.f25.body = some (Try.f25.body.getD .skip) := by kernel_rfl
theorem Try.en25 : Enters Try.prog 25 := ⟨Try.f25, Try.func25, by kernel_rfl, by kernel_rfl⟩
/-- (*caucus/graph.Graph).Commit -/
def Try.p26 : Nat → Option Plan := fun i => match i with
  | 3 => some ⟨[], [10], (.pure 0 (.pure 1 (.pure 2 (.load 3 [3, 5, 6, 7, 8, 10, 11] (.load 4 [4, 5, 6, 7, 8, 10, 11] (.fork (.eff 5 (.pure 6 (.pure 7 (.pure 8 (.eff 9 (.last 10 (.pure 11 .nil))))))) (.eff 9 (.eff 5 (.pure 6 (.pure 7 (.pure 8 (.last 10 (.pure 11 .nil)))))))))))))⟩
  | 6 => some ⟨[], [6], (.pure 0 (.pure 1 (.pure 2 (.load 3 [3, 6, 7] (.load 4 [4, 6, 7] (.load 5 [5, 6, 7] (.last 6 (.pure 7 .nil))))))))⟩
  | _ => none
noncomputable def Try.x26 : XCode := (.seq (.region (.step .text ⟨some 4, .box 27 (.tmp 1), 0⟩ none
      (.step .text ⟨some 5, .box 33 (.tmp 2), 0⟩ none
      (.step .text ⟨some 6, .assign (.const (.bool false)), 4⟩ none
      .nil))))
    (.seq (.seq (.region (.step .text ⟨some 9, .move (.tmp 0), 59⟩ none
      (.step .text ⟨some 10, .binOp .eql 59 (.tmp 9) (.const (.pointer none)) 59, 4⟩ none
      (.step .text ⟨some 11, .move (.tmp 10), 4⟩ none
      (.step .text ⟨some 12, .fieldAddr 33 (.tmp 5) 1, 0⟩ (some (some 11, false))
      (.step .text ⟨some 13, .load 31 (.tmp 12), 31⟩ (some (some 11, false))
      (.step .text ⟨some 14, .call { callee := (.value (.func 45)), args := #[(.tmp 13), (.const (.int .i64 7))], argTypes := #[31, 3] }, 4⟩ (some (some 11, false))
      (.step .text ⟨some 15, .unOp .not 4 (.tmp 14), 4⟩ (some (some 11, false))
      (.step .text ⟨some 16, .pick (.tmp 11) (.const (.bool true)) (.tmp 15), 4⟩ none
      .nil)))))))))
    (.cond (.tmp 16)
    (.seq (.region (.step .text ⟨some 6, .assign (.const (.bool false)), 4⟩ none
      .nil))
    .ret)
    .skip))
    (.seq (.seq (.drawn (.step .pure ⟨some 18, .move (.tmp 0), 59⟩ none
      (.step .pure ⟨some 19, .nilCheck (.tmp 18), 0⟩ none
      (.step .pure ⟨some 20, .fieldAddr 80 (.tmp 19) 0, 0⟩ none
      (.step .load ⟨some 21, .load 75 (.tmp 20), 75⟩ none
      (.step .load ⟨some 22, .load 27 (.tmp 4), 27⟩ none
      (.fork (.step .eff ⟨some 23, .call { callee := (.value (.func 46)), args := #[(.tmp 21), (.tmp 22)], argTypes := #[75, 27] }, 71⟩ none
      (.step .pure ⟨some 17, .move (.tmp 23), 71⟩ none
      (.step .pure ⟨some 24, .extract (.tmp 17) 0, 33⟩ none
      (.step .pure ⟨some 25, .extract (.tmp 17) 1, 4⟩ none
      (.step .eff ⟨some 7, .alloc 33, 0⟩ none
      (.step .last ⟨none, .store 33 (.tmp 7) (.tmp 24), 0⟩ none
      (.step .pure ⟨some 8, .assign (.tmp 25), 4⟩ none
      .nil)))))))
      (.step .eff ⟨some 7, .alloc 33, 0⟩ none
      (.step .eff ⟨some 23, .call { callee := (.value (.func 46)), args := #[(.tmp 21), (.tmp 22)], argTypes := #[75, 27] }, 71⟩ none
      (.step .pure ⟨some 17, .move (.tmp 23), 71⟩ none
      (.step .pure ⟨some 24, .extract (.tmp 17) 0, 33⟩ none
      (.step .pure ⟨some 25, .extract (.tmp 17) 1, 4⟩ none
      (.step .last ⟨none, .store 33 (.tmp 7) (.tmp 24), 0⟩ none
      (.step .pure ⟨some 8, .assign (.tmp 25), 4⟩ none
      .nil))))))))))))))
    (.seq (.region (.step .text ⟨some 26, .move (.tmp 8), 4⟩ none
      .nil))
    (.cond (.tmp 26)
    (.seq (.region (.step .text ⟨some 6, .assign (.const (.bool false)), 4⟩ none
      .nil))
    .ret)
    .skip)))
    (.seq (.drawn (.step .pure ⟨some 27, .move (.tmp 0), 59⟩ none
      (.step .pure ⟨some 28, .nilCheck (.tmp 27), 0⟩ none
      (.step .pure ⟨some 29, .fieldAddr 80 (.tmp 28) 0, 0⟩ none
      (.step .load ⟨some 30, .load 75 (.tmp 29), 75⟩ none
      (.step .load ⟨some 31, .load 27 (.tmp 4), 27⟩ none
      (.step .load ⟨some 32, .load 33 (.tmp 5), 33⟩ none
      (.step .last ⟨some 33, .call { callee := (.value (.func 47)), args := #[(.tmp 30), (.tmp 31), (.tmp 32)], argTypes := #[75, 27, 33] }, 4⟩ none
      (.step .pure ⟨some 6, .assign (.tmp 33), 4⟩ none
      .nil)))))))))
    .ret))))
theorem Try.hx26 : compile Try.p26 (Try.f26.body.getD .skip) = Try.x26 := by kernel_rfl
theorem Try.ok26 : plansOk Try.p26 (Try.f26.body.getD .skip) = true := by kernel_rfl
theorem Try.fb26 : Try.f26.body = some (Try.f26.body.getD .skip) := by kernel_rfl
theorem Try.en26 : Enters Try.prog 26 := ⟨Try.f26, Try.func26, by kernel_rfl, by kernel_rfl⟩
/-- slices.SortFunc[[]caucus/api.Item,caucus/api.Item] -/
def Try.p27 : Nat → Option Plan := fun i => match i with
  | _ => none
noncomputable def Try.x27 : XCode := (.seq (.region (.step .text ⟨some 5, .move (.tmp 0), 39⟩ none
      (.step .text ⟨some 6, .call { callee := (.builtin .len), args := #[(.tmp 5)], argTypes := #[39] }, 3⟩ none
      (.step .text ⟨some 4, .assign (.tmp 6), 3⟩ none
      .nil))))
    (.region (.step .text ⟨some 7, .move (.tmp 0), 39⟩ none
      (.step .text ⟨some 8, .move (.tmp 4), 3⟩ none
      (.step .text ⟨some 9, .move (.tmp 4), 3⟩ none
      (.step .text ⟨some 10, .convert 3 83 (.tmp 9), 83⟩ none
      (.step .text ⟨some 11, .call { callee := (.value (.func 49)), args := #[(.tmp 10)], argTypes := #[83] }, 3⟩ none
      (.step .text ⟨some 12, .move (.tmp 1), 64⟩ none
      (.step .text ⟨some 13, .call { callee := (.value (.func 48)), args := #[(.tmp 7), (.const (.int .i64 0)), (.tmp 8), (.tmp 11), (.tmp 12)], argTypes := #[39, 3, 3, 3, 64] }, 0⟩ none
      .nil)))))))))
theorem Try.hx27 : compile Try.p27 (Try.f27.body.getD .skip) = Try.x27 := by kernel_rfl
theorem Try.ok27 : plansOk Try.p27 (Try.f27.body.getD .skip) = true := by kernel_rfl
theorem Try.fb27 : Try.f27.body = some (Try.f27.body.getD .skip) := by kernel_rfl
theorem Try.en27 : Enters Try.prog 27 := ⟨Try.f27, Try.func27, by kernel_rfl, by kernel_rfl⟩
/-- (*caucus/run.Run).Commit$1 -/
def Try.p28 : Nat → Option Plan := fun i => match i with
  | _ => none
noncomputable def Try.x28 : XCode := (.seq (.region (.step .text ⟨some 2, .box 27 (.tmp 0), 0⟩ none
      (.step .text ⟨some 3, .box 27 (.tmp 1), 0⟩ none
      (.step .text ⟨some 4, .assign (.const (.int .i64 0)), 3⟩ none
      .nil))))
    (.seq (.block 0 (.seq (.region (.step .text ⟨some 6, .load 27 (.tmp 2), 27⟩ none
      (.step .text ⟨some 7, .load 27 (.tmp 3), 27⟩ none
      (.step .text ⟨some 8, .call { callee := (.value (.func 29)), args := #[(.tmp 6), (.tmp 7)], argTypes := #[27, 27] }, 4⟩ none
      (.step .text ⟨some 5, .assign (.tmp 8), 4⟩ none
      .nil)))))
    (.cond (.tmp 5)
    (.seq (.region (.step .text ⟨some 4, .assign (.const (.int .i64 (-1))), 3⟩ none
      .nil))
    .ret)
    (.seq (.region (.step .text ⟨some 10, .load 27 (.tmp 2), 27⟩ none
      (.step .text ⟨some 11, .load 27 (.tmp 3), 27⟩ none
      (.step .text ⟨some 12, .binOp .eql 27 (.tmp 10) (.tmp 11) 27, 4⟩ none
      (.step .text ⟨some 9, .assign (.tmp 12), 4⟩ none
      .nil)))))
    (.cond (.tmp 9)
    (.seq (.region (.step .text ⟨some 4, .assign (.const (.int .i64 0)), 3⟩ none
      .nil))
    .ret)
    .skip)))))
    (.seq (.region (.step .text ⟨some 4, .assign (.const (.int .i64 1)), 3⟩ none
      .nil))
    .ret)))
theorem Try.hx28 : compile Try.p28 (Try.f28.body.getD .skip) = Try.x28 := by kernel_rfl
theorem Try.ok28 : plansOk Try.p28 (Try.f28.body.getD .skip) = true := by kernel_rfl
theorem Try.fb28 : Try.f28.body = some (Try.f28.body.getD .skip) := by kernel_rfl
theorem Try.en28 : Enters Try.prog 28 := ⟨Try.f28, Try.func28, by kernel_rfl, by kernel_rfl⟩
/-- caucus/item.Less -/
def Try.p29 : Nat → Option Plan := fun i => match i with
  | _ => none
noncomputable def Try.x29 : XCode := (.seq (.region (.step .text ⟨some 2, .box 27 (.tmp 0), 0⟩ none
      (.step .text ⟨some 3, .box 27 (.tmp 1), 0⟩ none
      (.step .text ⟨some 4, .assign (.const (.bool false)), 4⟩ none
      .nil))))
    (.seq (.region (.step .text ⟨some 5, .fieldAddr 27 (.tmp 2) 1, 0⟩ none
      (.step .text ⟨some 6, .load 3 (.tmp 5), 3⟩ none
      (.step .text ⟨some 7, .fieldAddr 27 (.tmp 3) 1, 0⟩ none
      (.step .text ⟨some 8, .load 3 (.tmp 7), 3⟩ none
      (.step .text ⟨some 9, .binOp .lss 3 (.tmp 6) (.tmp 8) 3, 4⟩ none
      (.step .text ⟨some 10, .move (.tmp 9), 4⟩ none
      (.step .text ⟨some 11, .fieldAddr 27 (.tmp 2) 1, 0⟩ (some (some 10, false))
      (.step .text ⟨some 12, .load 3 (.tmp 11), 3⟩ (some (some 10, false))
      (.step .text ⟨some 13, .fieldAddr 27 (.tmp 3) 1, 0⟩ (some (some 10, false))
      (.step .text ⟨some 14, .load 3 (.tmp 13), 3⟩ (some (some 10, false))
      (.step .text ⟨some 15, .binOp .eql 3 (.tmp 12) (.tmp 14) 3, 4⟩ (some (some 10, false))
      (.step .text ⟨some 16, .move (.tmp 15), 4⟩ (some (some 10, false))
      (.step .text ⟨some 17, .fieldAddr 27 (.tmp 2) 0, 0⟩ (some (some 16, true))
      (.step .text ⟨some 18, .load 3 (.tmp 17), 3⟩ (some (some 16, true))
      (.step .text ⟨some 19, .fieldAddr 27 (.tmp 3) 0, 0⟩ (some (some 16, true))
      (.step .text ⟨some 20, .load 3 (.tmp 19), 3⟩ (some (some 16, true))
      (.step .text ⟨some 21, .binOp .lss 3 (.tmp 18) (.tmp 20) 3, 4⟩ (some (some 16, true))
      (.step .text ⟨some 22, .pick (.tmp 16) (.tmp 21) (.const (.bool false)), 4⟩ (some (some 10, false))
      (.step .text ⟨some 23, .pick (.tmp 10) (.const (.bool true)) (.tmp 22), 4⟩ none
      (.step .text ⟨some 4, .assign (.tmp 23), 4⟩ none
      .nil)))))))))))))))))))))
    .ret))
theorem Try.hx29 : compile Try.p29 (Try.f29.body.getD .skip) = Try.x29 := by kernel_rfl
theorem Try.ok29 : plansOk Try.p29 (Try.f29.body.getD .skip) = true := by kernel_rfl
theorem Try.fb29 : Try.f29.body = some (Try.f29.body.getD .skip) := by kernel_rfl
theorem Try.en29 : Enters Try.prog 29 := ⟨Try.f29, Try.func29, by kernel_rfl, by kernel_rfl⟩
/-- slices.Clone[[]caucus/api.Item,caucus/api.Item] -/
def Try.p30 : Nat → Option Plan := fun i => match i with
  | _ => none
noncomputable def Try.x30 : XCode := (.seq (.region (.step .text ⟨some 2, .assign (.const (.slice none 0 0)), 39⟩ none
      .nil))
    (.seq (.seq (.region (.step .text ⟨some 3, .move (.tmp 0), 39⟩ none
      (.step .text ⟨some 4, .binOp .eql 39 (.tmp 3) (.const (.slice none 0 0)) 39, 4⟩ none
      .nil)))
    (.cond (.tmp 4)
    (.seq (.region (.step .text ⟨some 2, .assign (.const (.slice none 0 0)), 39⟩ none
      .nil))
    .ret)
    .skip))
    (.seq (.region (.step .text ⟨some 5, .buildSlice 39 0 #[], 39⟩ none
      (.step .text ⟨some 6, .move (.tmp 0), 39⟩ none
      (.step .text ⟨some 7, .call { callee := (.builtin .append), args := #[(.tmp 5), (.tmp 6)], argTypes := #[39, 39] }, 39⟩ none
      (.step .text ⟨some 2, .assign (.tmp 7), 39⟩ none
      .nil)))))
    .ret)))
theorem Try.hx30 : compile Try.p30 (Try.f30.body.getD .skip) = Try.x30 := by kernel_rfl
theorem Try.ok30 : plansOk Try.p30 (Try.f30.body.getD .skip) = true := by kernel_rfl
theorem Try.fb30 : Try.f30.body = some (Try.f30.body.getD .skip) := by kernel_rfl
theorem Try.en30 : Enters Try.prog 30 := ⟨Try.f30, Try.func30, by kernel_rfl, by kernel_rfl⟩
/-- (*caucus/graph.Graph).Order -/
def Try.p31 : Nat → Option Plan := fun i => match i with
  | 8 => some ⟨[], [], (.pure 0 (.pure 1 (.pure 2 (.pure 4 (.load 3 [3] (.pure 5 .nil))))))⟩
  | _ => none
noncomputable def Try.c31bbbbaa : Code := partAt (Try.f31.body.getD .skip) [1, 1, 1, 1, 0, 0]
noncomputable def Try.x31 : XCode := (.seq (.region (.step .text ⟨some 3, .box 27 (.tmp 1), 0⟩ none
      (.step .text ⟨some 4, .assign (.const (.slice none 0 0)), 66⟩ none
      (.step .text ⟨some 5, .assign (.const (.slice none 0 0)), 39⟩ none
      .nil))))
    (.seq (.seq (.region (.step .text ⟨some 7, .move (.tmp 0), 59⟩ none
      (.step .text ⟨some 8, .load 27 (.tmp 3), 27⟩ none
      (.step .text ⟨some 9, .call { callee := (.value (.func 42)), args := #[(.tmp 7), (.tmp 8)], argTypes := #[59, 27] }, 4⟩ none
      (.step .text ⟨some 10, .unOp .not 4 (.tmp 9), 4⟩ none
      (.step .text ⟨some 11, .move (.tmp 10), 4⟩ none
      (.step .text ⟨some 12, .move (.tmp 0), 59⟩ (some (some 11, false))
      (.step .text ⟨some 13, .load 27 (.tmp 3), 27⟩ (some (some 11, false))
      (.step .text ⟨some 14, .call { callee := (.value (.func 41)), args := #[(.tmp 12), (.tmp 13)], argTypes := #[59, 27] }, 4⟩ (some (some 11, false))
      (.step .text ⟨some 15, .pick (.tmp 11) (.const (.bool true)) (.tmp 14), 4⟩ none
      .nil))))))))))
    (.cond (.tmp 15)
    (.seq (.region (.step .text ⟨some 4, .assign (.const (.slice none 0 0)), 66⟩ none
      (.step .text ⟨some 5, .assign (.const (.slice none 0 0)), 39⟩ none
      .nil)))
    .ret)
    .skip))
    (.seq (.region (.step .text ⟨some 16, .move (.tmp 0), 59⟩ none
      (.step .text ⟨some 17, .makeMap 46 none, 46⟩ none
      (.step .text ⟨some 18, .makeMap 46 none, 46⟩ none
      (.step .text ⟨some 19, .makeMap 85 none, 85⟩ none
      (.step .text ⟨some 20, .build 88 #[(0, (.tmp 16)), (1, (.tmp 17)), (2, (.tmp 18)), (3, (.tmp 19))], 88⟩ none
      (.step .text ⟨some 21, .box 88 (.tmp 20), 84⟩ none
      (.step .text ⟨some 6, .assign (.tmp 21), 84⟩ none
      .nil))))))))
    (.seq (.region (.step .text ⟨some 22, .move (.tmp 6), 84⟩ none
      (.step .text ⟨some 23, .load 27 (.tmp 3), 27⟩ none
      (.step .text ⟨some 24, .call { callee := (.value (.func 50)), args := #[(.tmp 22), (.tmp 23)], argTypes := #[84, 27] }, 0⟩ none
      .nil))))
    (.seq (.block 0 (.code Try.c31bbbbaa))
    (.seq (.seq (.region (.step .text ⟨some 33, .move (.tmp 6), 84⟩ none
      (.step .text ⟨some 34, .nilCheck (.tmp 33), 0⟩ none
      (.step .text ⟨some 35, .fieldAddr 88 (.tmp 34) 7, 0⟩ none
      (.step .text ⟨some 36, .load 39 (.tmp 35), 39⟩ none
      (.step .text ⟨some 37, .call { callee := (.builtin .len), args := #[(.tmp 36)], argTypes := #[39] }, 3⟩ none
      (.step .text ⟨some 38, .binOp .gtr 3 (.tmp 37) (.const (.int .i64 0)) 3, 4⟩ none
      .nil)))))))
    (.cond (.tmp 38)
    (.seq (.drawn (.step .pure ⟨some 39, .move (.tmp 6), 84⟩ none
      (.step .pure ⟨some 40, .nilCheck (.tmp 39), 0⟩ none
      (.step .pure ⟨some 41, .fieldAddr 88 (.tmp 40) 7, 0⟩ none
      (.step .pure ⟨some 4, .assign (.const (.slice none 0 0)), 66⟩ none
      (.step .load ⟨some 42, .load 39 (.tmp 41), 39⟩ none
      (.step .pure ⟨some 5, .assign (.tmp 42), 39⟩ none
      .nil)))))))
    .ret)
    .skip))
    (.seq (.region (.step .text ⟨some 43, .move (.tmp 6), 84⟩ none
      (.step .text ⟨some 44, .nilCheck (.tmp 43), 0⟩ none
      (.step .text ⟨some 45, .fieldAddr 88 (.tmp 44) 6, 0⟩ none
      (.step .text ⟨some 46, .load 66 (.tmp 45), 66⟩ none
      (.step .text ⟨some 4, .assign (.tmp 46), 66⟩ none
      (.step .text ⟨some 5, .assign (.const (.slice none 0 0)), 39⟩ none
      .nil)))))))
    .ret)))))))
theorem Try.hx31 : compile Try.p31 (Try.f31.body.getD .skip) = Try.x31 := by kernel_rfl
theorem Try.ok31 : plansOk Try.p31 (Try.f31.body.getD .skip) = true := by kernel_rfl
noncomputable def Try.x31bbbbaal : XCode := (.seq (.seq (.region (.step .text ⟨some 25, .move (.tmp 6), 84⟩ none
      (.step .text ⟨some 26, .nilCheck (.tmp 25), 0⟩ none
      (.step .text ⟨some 27, .fieldAddr 88 (.tmp 26) 5, 0⟩ none
      (.step .text ⟨some 28, .load 86 (.tmp 27), 86⟩ none
      (.step .text ⟨some 29, .call { callee := (.builtin .len), args := #[(.tmp 28)], argTypes := #[86] }, 3⟩ none
      (.step .text ⟨some 30, .binOp .gtr 3 (.tmp 29) (.const (.int .i64 0)) 3, 4⟩ none
      .nil)))))))
    (.cond (.tmp 30)
    .skip
    (.exit 0)))
    (.block 1 (.region (.step .text ⟨some 31, .move (.tmp 6), 84⟩ none
      (.step .text ⟨some 32, .call { callee := (.value (.func 51)), args := #[(.tmp 31)], argTypes := #[84] }, 0⟩ none
      .nil)))))
theorem Try.hx31bbbbaal : compile Try.p31 (part1 Try.c31bbbbaa 0) = Try.x31bbbbaal := by kernel_rfl
theorem Try.ok31bbbbaal : plansOk Try.p31 (part1 Try.c31bbbbaa 0) = true := by kernel_rfl
theorem Try.lp31bbbbaa : Try.c31bbbbaa = .loop (part1 Try.c31bbbbaa 0) := by kernel_rfl
theorem Try.fb31 : Try.f31.body = some (Try.f31.body.getD .skip) := by kernel_rfl
theorem Try.en31 : Enters Try.prog 31 := ⟨Try.f31, Try.func31, by kernel_rfl, by kernel_rfl⟩
/-- slices.Contains[[]caucus/api.Item,caucus/api.Item] -/
def Try.p32 : Nat → Option Plan := fun i => match i with
  | _ => none
noncomputable def Try.x32 : XCode := (.seq (.region (.step .text ⟨some 3, .box 27 (.tmp 1), 0⟩ none
      (.step .text ⟨some 4, .assign (.const (.bool false)), 4⟩ none
      .nil)))
    (.seq (.region (.step .text ⟨some 5, .move (.tmp 0), 39⟩ none
      (.step .text ⟨some 6, .load 27 (.tmp 3), 27⟩ none
      (.step .text ⟨some 7, .call { callee := (.value (.func 52)), args := #[(.tmp 5), (.tmp 6)], argTypes := #[39, 27] }, 3⟩ none
      (.step .text ⟨some 8, .binOp .geq 3 (.tmp 7) (.const (.int .i64 0)) 3, 4⟩ none
      (.step .text ⟨some 4, .assign (.tmp 8), 4⟩ none
      .nil))))))
    .ret))
theorem Try.hx32 : compile Try.p32 (Try.f32.body.getD .skip) = Try.x32 := by kernel_rfl
theorem Try.ok32 : plansOk Try.p32 (Try.f32.body.getD .skip) = true := by kernel_rfl
theorem Try.fb32 : Try.f32.body = some (Try.f32.body.getD .skip) := by kernel_rfl
theorem Try.en32 : Enters Try.prog 32 := ⟨Try.f32, Try.func32, by kernel_rfl, by kernel_rfl⟩
/-- (*caucus/run.Run).Missing$1 -/
def Try.p33 : Nat → Option Plan := fun i => match i with
  | _ => none
noncomputable def Try.x33 : XCode := (.seq (.region (.step .text ⟨some 2, .box 27 (.tmp 0), 0⟩ none
      (.step .text ⟨some 3, .box 27 (.tmp 1), 0⟩ none
      (.step .text ⟨some 4, .assign (.const (.int .i64 0)), 3⟩ none
      .nil))))
    (.seq (.seq (.region (.step .text ⟨some 5, .load 27 (.tmp 2), 27⟩ none
      (.step .text ⟨some 6, .load 27 (.tmp 3), 27⟩ none
      (.step .text ⟨some 7, .call { callee := (.value (.func 29)), args := #[(.tmp 5), (.tmp 6)], argTypes := #[27, 27] }, 4⟩ none
      .nil))))
    (.cond (.tmp 7)
    (.seq (.region (.step .text ⟨some 4, .assign (.const (.int .i64 (-1))), 3⟩ none
      .nil))
    .ret)
    .skip))
    (.seq (.region (.step .text ⟨some 4, .assign (.const (.int .i64 1)), 3⟩ none
      .nil))
    .ret)))
theorem Try.hx33 : compile Try.p33 (Try.f33.body.getD .skip) = Try.x33 := by kernel_rfl
theorem Try.ok33 : plansOk Try.p33 (Try.f33.body.getD .skip) = true := by kernel_rfl
theorem Try.fb33 : Try.f33.body = some (Try.f33.body.getD .skip) := by kernel_rfl
theorem Try.en33 : Enters Try.prog 33 := ⟨Try.f33, Try.func33, by kernel_rfl, by kernel_rfl⟩
/-- (*caucus/run.Run).Go$1 -/
def Try.p34 : Nat → Option Plan := fun i => match i with
  | 5 => some ⟨[], [], (.load 0 [0] (.pure 1 (.pure 2 (.load 3 [3] (.load 4 [4] (.eff 5 (.pure 6 (.pure 7 (.pure 8 (.pure 9 (.pure 10 .nil)))))))))))⟩
  | 16 => some ⟨[], [10], (.load 0 [0, 1, 2, 3, 5, 6, 7, 8, 10, 11] (.pure 1 (.pure 2 (.load 3 [3, 5, 6, 7, 8, 10, 11] (.load 4 [4, 5, 6, 7, 8, 10, 11] (.fork (.eff 5 (.pure 6 (.pure 7 (.pure 8 (.eff 9 (.last 10 (.pure 11 .nil))))))) (.eff 9 (.eff 5 (.pure 6 (.pure 7 (.pure 8 (.last 10 (.pure 11 .nil)))))))))))))⟩
  | _ => none
noncomputable def Try.c34bbaba : Code := partAt (Try.f34.body.getD .skip) [1, 1, 0, 1, 0]
noncomputable def Try.c34bbbba : Code := partAt (Try.f34.body.getD .skip) [1, 1, 1, 1, 0]
noncomputable def Try.c34bbabalbbaabbba : Code := partAt (Try.f34.body.getD .skip) [1, 1, 0, 1, 0, 0, 1, 1, 0, 0, 1, 1, 1, 0]
noncomputable def Try.x34 : XCode := (.seq (.seq (.region (.step .text ⟨some 14, .load 36 (.tmp 1), 36⟩ none
      (.step .text ⟨some 15, .binOp .eql 36 (.tmp 14) (.const (.pointer none)) 36, 4⟩ none
      .nil)))
    (.cond (.tmp 15)
    .ret
    .skip))
    (.seq (.region (.step .text ⟨some 3, .assign (.const (.slice none 0 0)), 39⟩ none
      .nil))
    (.seq (.seq (.region (.step .text ⟨some 16, .load 36 (.tmp 1), 36⟩ none
      (.step .text ⟨some 17, .nilCheck (.tmp 16), 0⟩ none
      (.step .text ⟨some 18, .fieldAddr 62 (.tmp 17) 2, 0⟩ none
      (.step .text ⟨some 19, .load 39 (.tmp 18), 39⟩ none
      (.step .text ⟨some 20, .call { callee := (.value (.func 30)), args := #[(.tmp 19)], argTypes := #[39] }, 39⟩ none
      (.step .text ⟨some 21, .call { callee := (.builtin .len), args := #[(.tmp 20)], argTypes := #[39] }, 3⟩ none
      (.step .text ⟨some 22, .move (.const (.int .i64 0)), 3⟩ none
      .nil))))))))
    (.block 0 (.code Try.c34bbaba)))
    (.seq (.region (.step .text ⟨some 49, .move (.tmp 3), 39⟩ none
      (.step .text ⟨some 50, .call { callee := (.builtin .len), args := #[(.tmp 49)], argTypes := #[39] }, 3⟩ none
      (.step .text ⟨some 51, .move (.const (.int .i64 0)), 3⟩ none
      .nil))))
    (.block 4 (.code Try.c34bbbba))))))
theorem Try.hx34 : compile Try.p34 (Try.f34.body.getD .skip) = Try.x34 := by kernel_rfl
theorem Try.ok34 : plansOk Try.p34 (Try.f34.body.getD .skip) = true := by kernel_rfl
noncomputable def Try.x34bbabal : XCode := (.seq (.region (.step .text ⟨some 23, .binOp .lss 3 (.tmp 22) (.tmp 21) 3, 0⟩ none
      .nil))
    (.seq (.cond (.tmp 23)
    .skip
    (.exit 0))
    (.seq (.block 1 (.seq (.region (.step .text ⟨some 24, .indexAddr 39 (.tmp 20) (.tmp 22), 0⟩ none
      (.step .text ⟨some 25, .load 27 (.tmp 24), 27⟩ none
      (.step .text ⟨some 5, .alloc 27, 0⟩ none
      (.step .text ⟨none, .store 27 (.tmp 5) (.tmp 25), 0⟩ none
      .nil)))))
    (.seq (.drawn (.step .load ⟨some 27, .load 36 (.tmp 1), 36⟩ none
      (.step .pure ⟨some 28, .nilCheck (.tmp 27), 0⟩ none
      (.step .pure ⟨some 29, .fieldAddr 62 (.tmp 28) 0, 0⟩ none
      (.step .load ⟨some 30, .load 59 (.tmp 29), 59⟩ none
      (.step .load ⟨some 31, .load 27 (.tmp 5), 27⟩ none
      (.step .eff ⟨some 32, .call { callee := (.value (.func 31)), args := #[(.tmp 30), (.tmp 31)], argTypes := #[59, 27] }, 67⟩ none
      (.step .pure ⟨some 26, .move (.tmp 32), 67⟩ none
      (.step .pure ⟨some 33, .extract (.tmp 26) 0, 66⟩ none
      (.step .pure ⟨some 34, .extract (.tmp 26) 1, 39⟩ none
      (.step .pure ⟨some 6, .assign (.tmp 33), 66⟩ none
      (.step .pure ⟨some 7, .assign (.tmp 34), 39⟩ none
      .nil))))))))))))
    (.seq (.region (.step .text ⟨some 35, .move (.tmp 6), 66⟩ none
      (.step .text ⟨some 36, .call { callee := (.builtin .len), args := #[(.tmp 35)], argTypes := #[66] }, 3⟩ none
      (.step .text ⟨some 37, .move (.const (.int .i64 0)), 3⟩ none
      .nil))))
    (.block 2 (.code Try.c34bbabalbbaabbba))))))
    (.region (.step .text ⟨some 48, .binOp .add 3 (.tmp 22) (.const (.int .i64 1)) 3, 3⟩ none
      (.step .text ⟨some 22, .move (.tmp 48), 3⟩ none
      .nil))))))
theorem Try.hx34bbabal : compile Try.p34 (part1 Try.c34bbaba 0) = Try.x34bbabal := by kernel_rfl
theorem Try.ok34bbabal : plansOk Try.p34 (part1 Try.c34bbaba 0) = true := by kernel_rfl
theorem Try.lp34bbaba : Try.c34bbaba = .loop (part1 Try.c34bbaba 0) := by kernel_rfl
noncomputable def Try.x34bbbbal : XCode := (.seq (.region (.step .text ⟨some 52, .binOp .lss 3 (.tmp 51) (.tmp 50) 3, 0⟩ none
      .nil))
    (.seq (.cond (.tmp 52)
    .skip
    (.exit 4))
    (.seq (.block 5 (.seq (.region (.step .text ⟨some 53, .indexAddr 39 (.tmp 49) (.tmp 51), 0⟩ none
      (.step .text ⟨some 54, .load 27 (.tmp 53), 27⟩ none
      (.step .text ⟨some 11, .alloc 27, 0⟩ none
      (.step .text ⟨none, .store 27 (.tmp 11) (.tmp 54), 0⟩ none
      .nil)))))
    (.seq (.drawn (.step .load ⟨some 56, .load 36 (.tmp 1), 36⟩ none
      (.step .pure ⟨some 57, .nilCheck (.tmp 56), 0⟩ none
      (.step .pure ⟨some 58, .fieldAddr 62 (.tmp 57) 0, 0⟩ none
      (.step .load ⟨some 59, .load 59 (.tmp 58), 59⟩ none
      (.step .load ⟨some 60, .load 27 (.tmp 11), 27⟩ none
      (.fork (.step .eff ⟨some 61, .call { callee := (.value (.func 36)), args := #[(.tmp 59), (.tmp 60)], argTypes := #[59, 27] }, 71⟩ none
      (.step .pure ⟨some 55, .move (.tmp 61), 71⟩ none
      (.step .pure ⟨some 62, .extract (.tmp 55) 0, 33⟩ none
      (.step .pure ⟨some 63, .extract (.tmp 55) 1, 4⟩ none
      (.step .eff ⟨some 12, .alloc 33, 0⟩ none
      (.step .last ⟨none, .store 33 (.tmp 12) (.tmp 62), 0⟩ none
      (.step .pure ⟨some 13, .assign (.tmp 63), 4⟩ none
      .nil)))))))
      (.step .eff ⟨some 12, .alloc 33, 0⟩ none
      (.step .eff ⟨some 61, .call { callee := (.value (.func 36)), args := #[(.tmp 59), (.tmp 60)], argTypes := #[59, 27] }, 71⟩ none
      (.step .pure ⟨some 55, .move (.tmp 61), 71⟩ none
      (.step .pure ⟨some 62, .extract (.tmp 55) 0, 33⟩ none
      (.step .pure ⟨some 63, .extract (.tmp 55) 1, 4⟩ none
      (.step .last ⟨none, .store 33 (.tmp 12) (.tmp 62), 0⟩ none
      (.step .pure ⟨some 13, .assign (.tmp 63), 4⟩ none
      .nil))))))))))))))
    (.seq (.region (.step .text ⟨some 64, .move (.tmp 0), 43⟩ none
      (.step .text ⟨some 65, .load 27 (.tmp 11), 27⟩ none
      (.step .text ⟨some 66, .load 33 (.tmp 12), 33⟩ none
      (.step .text ⟨some 67, .call { callee := (.value (.tmp 64)), args := #[(.tmp 65), (.tmp 66)], argTypes := #[27, 33] }, 4⟩ none
      (.step .text ⟨some 68, .unOp .not 4 (.tmp 67), 4⟩ none
      .nil))))))
    (.cond (.tmp 68)
    .ret
    .skip)))))
    (.region (.step .text ⟨some 69, .binOp .add 3 (.tmp 51) (.const (.int .i64 1)) 3, 3⟩ none
      (.step .text ⟨some 51, .move (.tmp 69), 3⟩ none
      .nil))))))
theorem Try.hx34bbbbal : compile Try.p34 (part1 Try.c34bbbba 0) = Try.x34bbbbal := by kernel_rfl
theorem Try.ok34bbbbal : plansOk Try.p34 (part1 Try.c34bbbba 0) = true := by kernel_rfl
theorem Try.lp34bbbba : Try.c34bbbba = .loop (part1 Try.c34bbbba 0) := by kernel_rfl
noncomputable def Try.x34bbabalbbaabbbal : XCode := (.seq (.region (.step .text ⟨some 38, .binOp .lss 3 (.tmp 37) (.tmp 36) 3, 0⟩ none
      .nil))
    (.seq (.cond (.tmp 38)
    .skip
    (.exit 2))
    (.seq (.block 3 (.seq (.region (.step .text ⟨some 39, .indexAddr 66 (.tmp 35) (.tmp 37), 0⟩ none
      (.step .text ⟨some 40, .load 39 (.tmp 39), 39⟩ none
      (.step .text ⟨some 9, .assign (.tmp 40), 39⟩ none
      .nil))))
    (.seq (.region (.step .text ⟨some 41, .load 36 (.tmp 1), 36⟩ none
      (.step .text ⟨some 42, .move (.tmp 9), 39⟩ none
      (.step .text ⟨some 43, .call { callee := (.value (.func 35)), args := #[(.tmp 41), (.tmp 42)], argTypes := #[36, 39] }, 0⟩ none
      .nil))))
    (.region (.step .text ⟨some 44, .move (.tmp 3), 39⟩ none
      (.step .text ⟨some 45, .move (.tmp 9), 39⟩ none
      (.step .text ⟨some 46, .call { callee := (.builtin .append), args := #[(.tmp 44), (.tmp 45)], argTypes := #[39, 39] }, 39⟩ none
      (.step .text ⟨some 3, .assign (.tmp 46), 39⟩ none
      .nil))))))))
    (.region (.step .text ⟨some 47, .binOp .add 3 (.tmp 37) (.const (.int .i64 1)) 3, 3⟩ none
      (.step .text ⟨some 37, .move (.tmp 47), 3⟩ none
      .nil))))))
theorem Try.hx34bbabalbbaabbbal : compile Try.p34 (part1 Try.c34bbabalbbaabbba 0) = Try.x34bbabalbbaabbbal := by kernel_rfl
theorem Try.ok34bbabalbbaabbbal : plansOk Try.p34 (part1 Try.c34bbabalbbaabbba 0) = true := by kernel_rfl
theorem Try.lp34bbabalbbaabbba : Try.c34bbabalbbaabbba = .loop (part1 Try.c34bbabalbbaabbba 0) := by kernel_rfl
theorem Try.fb34 : Try.f34.body = some (Try.f34.body.getD .skip) := by kernel_rfl
theorem Try.en34 : Enters Try.prog 34 := ⟨Try.f34, Try.func34, by kernel_rfl, by kernel_rfl⟩
/-- (*caucus/run.Run).finish -/
def Try.p35 : Nat → Option Plan := fun i => match i with
  | 2 => some ⟨[], [10, 13], (.pure 0 (.pure 1 (.pure 2 (.pure 3 (.pure 5 (.pure 6 (.pure 7 (.load 4 [4, 10, 11, 12, 13] (.load 8 [8, 9, 10, 11, 12, 13] (.pure 9 (.last 10 (.pure 11 (.pure 12 (.last 13 .nil))))))))))))))⟩
  | _ => none
noncomputable def Try.x35 : XCode := (.seq (.region (.step .text ⟨some 4, .move (.tmp 0), 36⟩ none
      (.step .text ⟨some 5, .nilCheck (.tmp 4), 0⟩ none
      (.step .text ⟨some 6, .fieldAddr 62 (.tmp 5) 0, 0⟩ none
      (.step .text ⟨some 7, .load 59 (.tmp 6), 59⟩ none
      (.step .text ⟨some 8, .move (.tmp 1), 39⟩ none
      (.step .text ⟨some 9, .call { callee := (.value (.func 53)), args := #[(.tmp 7), (.tmp 8)], argTypes := #[59, 39] }, 0⟩ none
      .nil)))))))
    (.seq (.region (.step .text ⟨some 10, .move (.tmp 0), 36⟩ none
      (.step .text ⟨some 11, .move (.tmp 0), 36⟩ none
      (.step .text ⟨some 12, .nilCheck (.tmp 11), 0⟩ none
      (.step .text ⟨some 13, .fieldAddr 62 (.tmp 12) 1, 0⟩ none
      (.step .text ⟨some 14, .load 39 (.tmp 13), 39⟩ none
      (.step .text ⟨some 15, .move (.tmp 1), 39⟩ none
      (.step .text ⟨some 16, .call { callee := (.builtin .append), args := #[(.tmp 14), (.tmp 15)], argTypes := #[39, 39] }, 39⟩ none
      (.step .text ⟨some 17, .nilCheck (.tmp 10), 0⟩ none
      (.step .text ⟨some 18, .fieldAddr 62 (.tmp 17) 1, 0⟩ none
      (.step .text ⟨none, .store 39 (.tmp 18) (.tmp 16), 0⟩ none
      .nil)))))))))))
    (.drawn (.step .pure ⟨some 19, .move (.tmp 0), 36⟩ none
      (.step .pure ⟨some 20, .move (.tmp 0), 36⟩ none
      (.step .pure ⟨some 21, .nilCheck (.tmp 20), 0⟩ none
      (.step .pure ⟨some 22, .fieldAddr 62 (.tmp 21) 2, 0⟩ none
      (.step .pure ⟨some 24, .move (.tmp 0), 36⟩ none
      (.step .pure ⟨some 25, .nilCheck (.tmp 24), 0⟩ none
      (.step .pure ⟨some 26, .fieldAddr 62 (.tmp 25) 0, 0⟩ none
      (.step .load ⟨some 23, .load 39 (.tmp 22), 39⟩ none
      (.step .load ⟨some 27, .load 59 (.tmp 26), 59⟩ none
      (.step .pure ⟨some 28, .makeFunc (.func 41) #[(.tmp 27)] #[], 54⟩ none
      (.step .last ⟨some 29, .call { callee := (.value (.func 54)), args := #[(.tmp 23), (.tmp 28)], argTypes := #[39, 54] }, 39⟩ none
      (.step .pure ⟨some 30, .nilCheck (.tmp 19), 0⟩ none
      (.step .pure ⟨some 31, .fieldAddr 62 (.tmp 30) 2, 0⟩ none
      (.step .last ⟨none, .store 39 (.tmp 31) (.tmp 29), 0⟩ none
      .nil)))))))))))))))))
theorem Try.hx35 : compile Try.p35 (Try.f35.body.getD .skip) = Try.x35 := by kernel_rfl
theorem Try.ok35 : plansOk Try.p35 (Try.f35.body.getD .skip) = true := by kernel_rfl
theorem Try.fb35 : Try.f35.body = some (Try.f35.body.getD .skip) := by kernel_rfl
theorem Try.en35 : Enters Try.prog 35 := ⟨Try.f35, Try.func35, by kernel_rfl, by kernel_rfl⟩
/-- (*caucus/graph.Graph).Call -/
def Try.p36 : Nat → Option Plan := fun i => match i with
  | 3 => some ⟨[], [8], (.pure 0 (.pure 1 (.pure 2 (.load 3 [3, 5, 6, 7, 8, 9] (.load 4 [4, 5, 6, 7, 8, 9] (.eff 5 (.pure 6 (.pure 7 (.last 8 (.pure 9 .nil))))))))))⟩
  | _ => none
noncomputable def Try.x36 : XCode := (.seq (.region (.step .text ⟨some 3, .box 27 (.tmp 1), 0⟩ none
      (.step .text ⟨some 4, .alloc 33, 0⟩ none
      (.step .text ⟨some 5, .assign (.const (.bool false)), 4⟩ none
      .nil))))
    (.seq (.seq (.region (.step .text ⟨some 6, .move (.tmp 0), 59⟩ none
      (.step .text ⟨some 7, .binOp .eql 59 (.tmp 6) (.const (.pointer none)) 59, 4⟩ none
      .nil)))
    (.cond (.tmp 7)
    (.seq (.region (.step .text ⟨some 8, .build 33 #[], 33⟩ none
      (.step .text ⟨none, .store 33 (.tmp 4) (.tmp 8), 0⟩ none
      (.step .text ⟨some 5, .assign (.const (.bool false)), 4⟩ none
      .nil))))
    .ret)
    .skip))
    (.seq (.drawn (.step .pure ⟨some 9, .move (.tmp 0), 59⟩ none
      (.step .pure ⟨some 10, .nilCheck (.tmp 9), 0⟩ none
      (.step .pure ⟨some 11, .fieldAddr 80 (.tmp 10) 0, 0⟩ none
      (.step .load ⟨some 12, .load 75 (.tmp 11), 75⟩ none
      (.step .load ⟨some 13, .load 27 (.tmp 3), 27⟩ none
      (.step .eff ⟨some 14, .call { callee := (.value (.func 46)), args := #[(.tmp 12), (.tmp 13)], argTypes := #[75, 27] }, 71⟩ none
      (.step .pure ⟨some 15, .extract (.tmp 14) 0, 33⟩ none
      (.step .pure ⟨some 16, .extract (.tmp 14) 1, 4⟩ none
      (.step .last ⟨none, .store 33 (.tmp 4) (.tmp 15), 0⟩ none
      (.step .pure ⟨some 5, .assign (.tmp 16), 4⟩ none
      .nil)))))))))))
    .ret)))
theorem Try.hx36 : compile Try.p36 (Try.f36.body.getD .skip) = Try.x36 := by kernel_rfl
theorem Try.ok36 : plansOk Try.p36 (Try.f36.body.getD .skip) = true := by kernel_rfl
theorem Try.fb36 : Try.f36.body = some (Try.f36.body.getD .skip) := by kernel_rfl
theorem Try.en36 : Enters Try.prog 36 := ⟨Try.f36, Try.func36, by kernel_rfl, by kernel_rfl⟩
/-- (*caucus/graph.Graph).Over -/
def Try.p41 : Nat → Option Plan := fun i => match i with
  | 3 => some ⟨[], [], (.pure 0 (.pure 1 (.pure 2 (.load 3 [3] (.load 4 [4] (.eff 5 (.pure 6 (.pure 7 (.pure 8 (.pure 9 (.pure 10 .nil)))))))))))⟩
  | _ => none
noncomputable def Try.x41 : XCode := (.seq (.region (.step .text ⟨some 3, .box 27 (.tmp 1), 0⟩ none
      (.step .text ⟨some 4, .assign (.const (.bool false)), 4⟩ none
      .nil)))
    (.seq (.seq (.region (.step .text ⟨some 7, .move (.tmp 0), 59⟩ none
      (.step .text ⟨some 8, .binOp .eql 59 (.tmp 7) (.const (.pointer none)) 59, 4⟩ none
      .nil)))
    (.cond (.tmp 8)
    (.seq (.region (.step .text ⟨some 4, .assign (.const (.bool false)), 4⟩ none
      .nil))
    .ret)
    .skip))
    (.seq (.drawn (.step .pure ⟨some 10, .move (.tmp 0), 59⟩ none
      (.step .pure ⟨some 11, .nilCheck (.tmp 10), 0⟩ none
      (.step .pure ⟨some 12, .fieldAddr 80 (.tmp 11) 1, 0⟩ none
      (.step .load ⟨some 13, .load 77 (.tmp 12), 77⟩ none
      (.step .load ⟨some 14, .load 27 (.tmp 3), 27⟩ none
      (.step .eff ⟨some 15, .call { callee := (.value (.func 56)), args := #[(.tmp 13), (.tmp 14)], argTypes := #[77, 27] }, 94⟩ none
      (.step .pure ⟨some 9, .move (.tmp 15), 94⟩ none
      (.step .pure ⟨some 16, .extract (.tmp 9) 0, 4⟩ none
      (.step .pure ⟨some 17, .extract (.tmp 9) 1, 4⟩ none
      (.step .pure ⟨some 5, .assign (.tmp 16), 4⟩ none
      (.step .pure ⟨some 6, .assign (.tmp 17), 4⟩ none
      .nil))))))))))))
    (.seq (.region (.step .text ⟨some 18, .move (.tmp 6), 4⟩ none
      (.step .text ⟨some 4, .assign (.tmp 18), 4⟩ none
      .nil)))
    .ret))))
theorem Try.hx41 : compile Try.p41 (Try.f41.body.getD .skip) = Try.x41 := by kernel_rfl
theorem Try.ok41 : plansOk Try.p41 (Try.f41.body.getD .skip) = true := by kernel_rfl
theorem Try.fb41 : Try.f41.body = some (Try.f41.body.getD .skip) := by kernel_rfl
theorem Try.en41 : Enters Try.prog 41 := ⟨Try.f41, Try.func41, by kernel_rfl, by kernel_rfl⟩
/-- (*caucus/graph.Graph).Is -/
def Try.p42 : Nat → Option Plan := fun i => match i with
  | 3 => some ⟨[], [10], (.pure 0 (.pure 1 (.pure 2 (.load 3 [3, 5, 6, 7, 8, 10, 11] (.load 4 [4, 5, 6, 7, 8, 10, 11] (.fork (.eff 5 (.pure 6 (.pure 7 (.pure 8 (.eff 9 (.last 10 (.pure 11 .nil))))))) (.eff 9 (.eff 5 (.pure 6 (.pure 7 (.pure 8 (.last 10 (.pure 11 .nil)))))))))))))⟩
  | _ => none
noncomputable def Try.x42 : XCode := (.seq (.region (.step .text ⟨some 3, .box 27 (.tmp 1), 0⟩ none
      (.step .text ⟨some 4, .assign (.const (.bool false)), 4⟩ none
      .nil)))
    (.seq (.seq (.region (.step .text ⟨some 7, .move (.tmp 0), 59⟩ none
      (.step .text ⟨some 8, .binOp .eql 59 (.tmp 7) (.const (.pointer none)) 59, 4⟩ none
      .nil)))
    (.cond (.tmp 8)
    (.seq (.region (.step .text ⟨some 4, .assign (.const (.bool false)), 4⟩ none
      .nil))
    .ret)
    .skip))
    (.seq (.drawn (.step .pure ⟨some 10, .move (.tmp 0), 59⟩ none
      (.step .pure ⟨some 11, .nilCheck (.tmp 10), 0⟩ none
      (.step .pure ⟨some 12, .fieldAddr 80 (.tmp 11) 0, 0⟩ none
      (.step .load ⟨some 13, .load 75 (.tmp 12), 75⟩ none
      (.step .load ⟨some 14, .load 27 (.tmp 3), 27⟩ none
      (.fork (.step .eff ⟨some 15, .call { callee := (.value (.func 46)), args := #[(.tmp 13), (.tmp 14)], argTypes := #[75, 27] }, 71⟩ none
      (.step .pure ⟨some 9, .move (.tmp 15), 71⟩ none
      (.step .pure ⟨some 16, .extract (.tmp 9) 0, 33⟩ none
      (.step .pure ⟨some 17, .extract (.tmp 9) 1, 4⟩ none
      (.step .eff ⟨some 5, .alloc 33, 0⟩ none
      (.step .last ⟨none, .store 33 (.tmp 5) (.tmp 16), 0⟩ none
      (.step .pure ⟨some 6, .assign (.tmp 17), 4⟩ none
      .nil)))))))
      (.step .eff ⟨some 5, .alloc 33, 0⟩ none
      (.step .eff ⟨some 15, .call { callee := (.value (.func 46)), args := #[(.tmp 13), (.tmp 14)], argTypes := #[75, 27] }, 71⟩ none
      (.step .pure ⟨some 9, .move (.tmp 15), 71⟩ none
      (.step .pure ⟨some 16, .extract (.tmp 9) 0, 33⟩ none
      (.step .pure ⟨some 17, .extract (.tmp 9) 1, 4⟩ none
      (.step .last ⟨none, .store 33 (.tmp 5) (.tmp 16), 0⟩ none
      (.step .pure ⟨some 6, .assign (.tmp 17), 4⟩ none
      .nil))))))))))))))
    (.seq (.region (.step .text ⟨some 18, .move (.tmp 6), 4⟩ none
      (.step .text ⟨some 4, .assign (.tmp 18), 4⟩ none
      .nil)))
    .ret))))
theorem Try.hx42 : compile Try.p42 (Try.f42.body.getD .skip) = Try.x42 := by kernel_rfl
theorem Try.ok42 : plansOk Try.p42 (Try.f42.body.getD .skip) = true := by kernel_rfl
theorem Try.fb42 : Try.f42.body = some (Try.f42.body.getD .skip) := by kernel_rfl
theorem Try.en42 : Enters Try.prog 42 := ⟨Try.f42, Try.func42, by kernel_rfl, by kernel_rfl⟩
/-- caucus/item.New[caucus/api.Call] -/
def Try.p43 : Nat → Option Plan := fun i => match i with
  | _ => none
noncomputable def Try.x43 : XCode := (.seq (.region (.step .text ⟨some 2, .assign (.const (.pointer none)), 75⟩ none
      .nil))
    (.seq (.region (.step .text ⟨some 3, .move (.tmp 0), 3⟩ none
      (.step .text ⟨some 4, .call { callee := (.builtin .max), args := #[(.tmp 3), (.const (.int .i64 0))], argTypes := #[3, 3] }, 3⟩ none
      (.step .text ⟨some 5, .call { callee := (.builtin .min), args := #[(.tmp 4), (.const (.int .i64 7))], argTypes := #[3, 3] }, 3⟩ none
      (.step .text ⟨some 6, .build 99 #[(0, (.tmp 5))], 99⟩ none
      (.step .text ⟨some 7, .box 99 (.tmp 6), 75⟩ none
      (.step .text ⟨some 2, .assign (.tmp 7), 75⟩ none
      .nil)))))))
    .ret))
theorem Try.hx43 : compile Try.p43 (Try.f43.body.getD .skip) = Try.x43 := by kernel_rfl
theorem Try.ok43 : plansOk Try.p43 (Try.f43.body.getD .skip) = true := by kernel_rfl
theorem Try.fb43 : Try.f43.body = some (Try.f43.body.getD .skip) := by kernel_rfl
theorem Try.en43 : Enters Try.prog 43 := ⟨Try.f43, Try.func43, by kernel_rfl, by kernel_rfl⟩
/-- caucus/item.New[bool] -/
def Try.p44 : Nat → Option Plan := fun i => match i with
  | _ => none
noncomputable def Try.x44 : XCode := (.seq (.region (.step .text ⟨some 2, .assign (.const (.pointer none)), 77⟩ none
      .nil))
    (.seq (.region (.step .text ⟨some 3, .move (.tmp 0), 3⟩ none
      (.step .text ⟨some 4, .call { callee := (.builtin .max), args := #[(.tmp 3), (.const (.int .i64 0))], argTypes := #[3, 3] }, 3⟩ none
      (.step .text ⟨some 5, .call { callee := (.builtin .min), args := #[(.tmp 4), (.const (.int .i64 7))], argTypes := #[3, 3] }, 3⟩ none
      (.step .text ⟨some 6, .build 101 #[(0, (.tmp 5))], 101⟩ none
      (.step .text ⟨some 7, .box 101 (.tmp 6), 77⟩ none
      (.step .text ⟨some 2, .assign (.tmp 7), 77⟩ none
      .nil)))))))
    .ret))
theorem Try.hx44 : compile Try.p44 (Try.f44.body.getD .skip) = Try.x44 := by kernel_rfl
theorem Try.ok44 : plansOk Try.p44 (Try.f44.body.getD .skip) = true := by kernel_rfl
theorem Try.fb44 : Try.f44.body = some (Try.f44.body.getD .skip) := by kernel_rfl
theorem Try.en44 : Enters Try.prog 44 := ⟨Try.f44, Try.func44, by kernel_rfl, by kernel_rfl⟩
/-- caucus/deps.Good -/
def Try.p45 : Nat → Option Plan := fun i => match i with
  | _ => none
noncomputable def Try.c45baba : Code := partAt (Try.f45.body.getD .skip) [1, 0, 1, 0]
noncomputable def Try.x45 : XCode := (.seq (.region (.step .text ⟨some 2, .box 31 (.tmp 0), 0⟩ none
      (.step .text ⟨some 4, .assign (.const (.bool false)), 4⟩ none
      .nil)))
    (.seq (.seq (.region (.step .text ⟨some 7, .load 31 (.tmp 2), 31⟩ none
      (.step .text ⟨some 8, .move (.const (.int .i64 0)), 3⟩ none
      .nil)))
    (.block 0 (.code Try.c45baba)))
    (.seq (.region (.step .text ⟨some 4, .assign (.const (.bool true)), 4⟩ none
      .nil))
    .ret)))
theorem Try.hx45 : compile Try.p45 (Try.f45.body.getD .skip) = Try.x45 := by kernel_rfl
theorem Try.ok45 : plansOk Try.p45 (Try.f45.body.getD .skip) = true := by kernel_rfl
noncomputable def Try.x45babal : XCode := (.seq (.region (.step .text ⟨some 9, .binOp .lss 3 (.tmp 8) (.const (.int .i64 7)) 3, 0⟩ none
      .nil))
    (.seq (.cond (.tmp 9)
    .skip
    (.exit 0))
    (.seq (.block 1 (.seq (.region (.step .text ⟨some 10, .move (.tmp 8), 3⟩ none
      (.step .text ⟨some 11, .index 31 (.tmp 7) (.tmp 8), 3⟩ none
      (.step .text ⟨some 5, .assign (.tmp 10), 3⟩ none
      (.step .text ⟨some 6, .assign (.tmp 11), 3⟩ none
      .nil)))))
    (.seq (.region (.step .text ⟨some 12, .move (.tmp 6), 3⟩ none
      (.step .text ⟨some 13, .binOp .lss 3 (.tmp 12) (.const (.int .i64 0)) 3, 4⟩ none
      (.step .text ⟨some 14, .move (.tmp 13), 4⟩ none
      (.step .text ⟨some 15, .move (.tmp 6), 3⟩ (some (some 14, false))
      (.step .text ⟨some 16, .binOp .gtr 3 (.tmp 15) (.const (.int .i64 64)) 3, 4⟩ (some (some 14, false))
      (.step .text ⟨some 17, .pick (.tmp 14) (.const (.bool true)) (.tmp 16), 4⟩ none
      (.step .text ⟨some 18, .move (.tmp 17), 4⟩ none
      (.step .text ⟨some 19, .move (.tmp 5), 3⟩ (some (some 18, false))
      (.step .text ⟨some 20, .move (.tmp 1), 3⟩ (some (some 18, false))
      (.step .text ⟨some 21, .binOp .geq 3 (.tmp 19) (.tmp 20) 3, 4⟩ (some (some 18, false))
      (.step .text ⟨some 22, .move (.tmp 21), 4⟩ (some (some 18, false))
      (.step .text ⟨some 23, .move (.tmp 6), 3⟩ (some (some 22, true))
      (.step .text ⟨some 24, .binOp .neq 3 (.tmp 23) (.const (.int .i64 0)) 3, 4⟩ (some (some 22, true))
      (.step .text ⟨some 25, .pick (.tmp 22) (.tmp 24) (.const (.bool false)), 4⟩ (some (some 18, false))
      (.step .text ⟨some 26, .pick (.tmp 18) (.const (.bool true)) (.tmp 25), 4⟩ none
      .nil))))))))))))))))
    (.cond (.tmp 26)
    (.seq (.region (.step .text ⟨some 4, .assign (.const (.bool false)), 4⟩ none
      .nil))
    .ret)
    .skip))))
    (.region (.step .text ⟨some 27, .binOp .add 3 (.tmp 8) (.const (.int .i64 1)) 3, 3⟩ none
      (.step .text ⟨some 8, .move (.tmp 27), 3⟩ none
      .nil))))))
theorem Try.hx45babal : compile Try.p45 (part1 Try.c45baba 0) = Try.x45babal := by kernel_rfl
theorem Try.ok45babal : plansOk Try.p45 (part1 Try.c45baba 0) = true := by kernel_rfl
theorem Try.lp45baba : Try.c45baba = .loop (part1 Try.c45baba 0) := by kernel_rfl
theorem Try.fb45 : Try.f45.body = some (Try.f45.body.getD .skip) := by kernel_rfl
theorem Try.en45 : Enters Try.prog 45 := ⟨Try.f45, Try.func45, by kernel_rfl, by kernel_rfl⟩
/-- (*caucus/item.Rows[caucus/api.Call]).At -/
def Try.p46 : Nat → Option Plan := fun i => match i with
  | 2 => some ⟨[], [], (.pure 0 (.pure 1 (.pure 2 (.pure 4 (.pure 5 (.pure 6 (.load 3 [3] (.load 7 [7] (.eff 8 (.pure 9 (.pure 10 (.pure 11 (.pure 12 (.pure 14 (.pure 15 (.pure 17 (.pure 18 (.load 13 [13] (.load 16 [16] (.pure 19 (.load 20 [20] (.pure 21 (.pure 22 (.pure 23 (.pure 24 (.pure 25 (.pure 26 (.pure 28 (.pure 29 (.pure 32 (.load 27 [27] (.pure 30 (.load 31 [31] (.load 33 [33] (.pure 34 (.pure 35 (.load 36 [36] (.pure 37 (.pure 38 .nil)))))))))))))))))))))))))))))))))))))))⟩
  | 4 => some ⟨[], [12], (.pure 0 (.pure 1 (.pure 3 (.pure 4 (.pure 7 (.load 2 [2, 5, 6, 10, 11, 12, 13] (.pure 5 (.load 6 [6, 10, 11, 12, 13] (.load 8 [8, 9, 10, 11, 12, 13] (.pure 9 (.pure 10 (.load 11 [11, 12, 13] (.last 12 (.pure 13 .nil))))))))))))))⟩
  | _ => none
noncomputable def Try.x46 : XCode := (.seq (.region (.step .text ⟨some 3, .box 27 (.tmp 1), 0⟩ none
      (.step .text ⟨some 4, .alloc 33, 0⟩ none
      (.step .text ⟨some 5, .assign (.const (.bool false)), 4⟩ none
      .nil))))
    (.seq (.region (.step .text ⟨some 6, .alloc 33, 0⟩ none
      .nil))
    (.seq (.seq (.drawn (.step .pure ⟨some 7, .move (.tmp 0), 75⟩ none
      (.step .pure ⟨some 8, .binOp .eql 75 (.tmp 7) (.const (.pointer none)) 75, 4⟩ none
      (.step .pure ⟨some 9, .move (.tmp 8), 4⟩ none
      (.step .pure ⟨some 11, .move (.tmp 0), 75⟩ (some (some 9, false))
      (.step .pure ⟨some 12, .nilCheck (.tmp 11), 0⟩ (some (some 9, false))
      (.step .pure ⟨some 13, .fieldAddr 99 (.tmp 12) 0, 0⟩ (some (some 9, false))
      (.step .load ⟨some 10, .load 27 (.tmp 3), 27⟩ (some (some 9, false))
      (.step .load ⟨some 14, .load 3 (.tmp 13), 3⟩ (some (some 9, false))
      (.step .eff ⟨some 15, .call { callee := (.value (.func 57)), args := #[(.tmp 10), (.tmp 14)], argTypes := #[27, 3] }, 4⟩ (some (some 9, false))
      (.step .pure ⟨some 16, .unOp .not 4 (.tmp 15), 4⟩ (some (some 9, false))
      (.step .pure ⟨some 17, .pick (.tmp 9) (.const (.bool true)) (.tmp 16), 4⟩ none
      (.step .pure ⟨some 18, .move (.tmp 17), 4⟩ none
      (.step .pure ⟨some 19, .fieldAddr 27 (.tmp 3) 1, 0⟩ (some (some 18, false))
      (.step .pure ⟨some 21, .move (.tmp 0), 75⟩ (some (some 18, false))
      (.step .pure ⟨some 22, .fieldAddr 27 (.tmp 3) 0, 0⟩ (some (some 18, false))
      (.step .pure ⟨some 24, .nilCheck (.tmp 21), 0⟩ (some (some 18, false))
      (.step .pure ⟨some 25, .fieldAddr 99 (.tmp 24) 1, 0⟩ (some (some 18, false))
      (.step .load ⟨some 20, .load 3 (.tmp 19), 3⟩ (some (some 18, false))
      (.step .load ⟨some 23, .load 3 (.tmp 22), 3⟩ (some (some 18, false))
      (.step .pure ⟨some 26, .indexAddr 96 (.tmp 25) (.tmp 23), 0⟩ (some (some 18, false))
      (.step .load ⟨some 27, .load 40 (.tmp 26), 40⟩ (some (some 18, false))
      (.step .pure ⟨some 28, .call { callee := (.builtin .len), args := #[(.tmp 27)], argTypes := #[40] }, 3⟩ (some (some 18, false))
      (.step .pure ⟨some 29, .binOp .gtr 3 (.tmp 20) (.tmp 28) 3, 4⟩ (some (some 18, false))
      (.step .pure ⟨some 30, .pick (.tmp 18) (.const (.bool true)) (.tmp 29), 4⟩ none
      (.step .pure ⟨some 31, .move (.tmp 30), 4⟩ none
      (.step .pure ⟨some 32, .move (.tmp 0), 75⟩ (some (some 31, false))
      (.step .pure ⟨some 33, .fieldAddr 27 (.tmp 3) 0, 0⟩ (some (some 31, false))
      (.step .pure ⟨some 35, .nilCheck (.tmp 32), 0⟩ (some (some 31, false))
      (.step .pure ⟨some 36, .fieldAddr 99 (.tmp 35) 2, 0⟩ (some (some 31, false))
      (.step .pure ⟨some 39, .fieldAddr 27 (.tmp 3) 1, 0⟩ (some (some 31, false))
      (.step .load ⟨some 34, .load 3 (.tmp 33), 3⟩ (some (some 31, false))
      (.step .pure ⟨some 37, .indexAddr 97 (.tmp 36) (.tmp 34), 0⟩ (some (some 31, false))
      (.step .load ⟨some 38, .load 23 (.tmp 37), 23⟩ (some (some 31, false))
      (.step .load ⟨some 40, .load 3 (.tmp 39), 3⟩ (some (some 31, false))
      (.step .pure ⟨some 41, .binOp .sub 3 (.tmp 40) (.const (.int .i64 1)) 3, 3⟩ (some (some 31, false))
      (.step .pure ⟨some 42, .indexAddr 23 (.tmp 38) (.tmp 41), 0⟩ (some (some 31, false))
      (.step .load ⟨some 43, .load 4 (.tmp 42), 4⟩ (some (some 31, false))
      (.step .pure ⟨some 44, .unOp .not 4 (.tmp 43), 4⟩ (some (some 31, false))
      (.step .pure ⟨some 45, .pick (.tmp 31) (.const (.bool true)) (.tmp 44), 4⟩ none
      .nil))))))))))))))))))))))))))))))))))))))))
    (.cond (.tmp 45)
    (.seq (.region (.step .text ⟨some 46, .load 33 (.tmp 6), 33⟩ none
      (.step .text ⟨none, .store 33 (.tmp 4) (.tmp 46), 0⟩ none
      (.step .text ⟨some 5, .assign (.const (.bool false)), 4⟩ none
      .nil))))
    .ret)
    .skip))
    (.seq (.drawn (.step .pure ⟨some 47, .move (.tmp 0), 75⟩ none
      (.step .pure ⟨some 48, .fieldAddr 27 (.tmp 3) 0, 0⟩ none
      (.step .pure ⟨some 50, .nilCheck (.tmp 47), 0⟩ none
      (.step .pure ⟨some 51, .fieldAddr 99 (.tmp 50) 1, 0⟩ none
      (.step .pure ⟨some 54, .fieldAddr 27 (.tmp 3) 1, 0⟩ none
      (.step .load ⟨some 49, .load 3 (.tmp 48), 3⟩ none
      (.step .pure ⟨some 52, .indexAddr 96 (.tmp 51) (.tmp 49), 0⟩ none
      (.step .load ⟨some 53, .load 40 (.tmp 52), 40⟩ none
      (.step .load ⟨some 55, .load 3 (.tmp 54), 3⟩ none
      (.step .pure ⟨some 56, .binOp .sub 3 (.tmp 55) (.const (.int .i64 1)) 3, 3⟩ none
      (.step .pure ⟨some 57, .indexAddr 40 (.tmp 53) (.tmp 56), 0⟩ none
      (.step .load ⟨some 58, .load 33 (.tmp 57), 33⟩ none
      (.step .last ⟨none, .store 33 (.tmp 4) (.tmp 58), 0⟩ none
      (.step .pure ⟨some 5, .assign (.const (.bool true)), 4⟩ none
      .nil)))))))))))))))
    .ret))))
theorem Try.hx46 : compile Try.p46 (Try.f46.body.getD .skip) = Try.x46 := by kernel_rfl
theorem Try.ok46 : plansOk Try.p46 (Try.f46.body.getD .skip) = true := by kernel_rfl
theorem Try.fb46 : Try.f46.body = some (Try.f46.body.getD .skip) := by kernel_rfl
theorem Try.en46 : Enters Try.prog 46 := ⟨Try.f46, Try.func46, by kernel_rfl, by kernel_rfl⟩
/-- (*caucus/item.Rows[caucus/api.Call]).Set -/
def Try.p47 : Nat → Option Plan := fun i => match i with
  | 1 => some ⟨[], [], (.pure 0 (.pure 1 (.pure 2 (.pure 4 (.pure 5 (.pure 6 (.load 3 [3] (.load 7 [7] (.eff 8 (.pure 9 (.pure 10 .nil)))))))))))⟩
  | 3 => some ⟨[], [], (.pure 0 (.pure 1 (.pure 3 (.pure 4 (.pure 8 (.load 2 [2] (.pure 5 (.load 6 [6] (.pure 7 (.load 9 [9] (.pure 10 .nil)))))))))))⟩
  | 5 => some ⟨[15, 24, 28], [32], (.pure 0 (.pure 1 (.pure 3 (.pure 4 (.pure 6 (.pure 7 (.pure 9 (.pure 10 (.pure 16 (.pure 17 (.pure 19 (.pure 20 (.pure 25 (.pure 26 (.pure 29 (.pure 30 (.weak 2 [2, 27, 28, 31, 32] (.weak 5 [5, 31, 32] (.load 8 [8, 11, 12, 15, 24, 27, 28, 31, 32] (.pure 11 (.load 12 [12, 15, 24, 27, 28, 31, 32] (.load 13 [13, 14, 15, 24, 27, 28, 31, 32] (.weak 18 [18, 21, 22, 24, 27, 28, 31, 32] (.pure 21 (.weak 22 [22, 24, 27, 28, 31, 32] (.fork (.eff 14 (.fork (.late 15 (.eff 23 (.late 24 (.pure 27 (.late 28 (.pure 31 (.last 32 .nil))))))) (.eff 23 (.late 15 (.late 24 (.pure 27 (.late 28 (.pure 31 (.last 32 .nil))))))))) (.eff 23 (.eff 14 (.late 15 (.late 24 (.pure 27 (.late 28 (.pure 31 (.last 32 .nil))))))))))))))))))))))))))))))))))⟩
  | 6 => some ⟨[22], [24], (.pure 0 (.pure 1 (.pure 3 (.pure 4 (.pure 7 (.pure 10 (.pure 11 (.pure 13 (.pure 14 (.pure 17 (.load 2 [2, 5, 6, 21, 22, 23, 24] (.pure 5 (.load 6 [6, 21, 22, 23, 24] (.load 8 [8, 9, 21, 22, 23, 24] (.pure 9 (.load 12 [12, 15, 16, 21, 22, 23, 24] (.pure 15 (.load 16 [16, 21, 22, 23, 24] (.weak 18 [18, 19, 23, 24] (.pure 19 (.load 20 [20, 21, 22, 23, 24] (.pure 21 (.late 22 (.pure 23 (.last 24 .nil)))))))))))))))))))))))))⟩
  | _ => none
noncomputable def Try.c47bbaa : Code := partAt (Try.f47.body.getD .skip) [1, 1, 0, 0]
noncomputable def Try.x47 : XCode := (.seq (.region (.step .text ⟨some 4, .box 27 (.tmp 1), 0⟩ none
      (.step .text ⟨some 5, .box 33 (.tmp 2), 0⟩ none
      (.step .text ⟨some 6, .assign (.const (.bool false)), 4⟩ none
      .nil))))
    (.seq (.seq (.drawn (.step .pure ⟨some 8, .move (.tmp 0), 75⟩ none
      (.step .pure ⟨some 9, .binOp .eql 75 (.tmp 8) (.const (.pointer none)) 75, 4⟩ none
      (.step .pure ⟨some 10, .move (.tmp 9), 4⟩ none
      (.step .pure ⟨some 12, .move (.tmp 0), 75⟩ (some (some 10, false))
      (.step .pure ⟨some 13, .nilCheck (.tmp 12), 0⟩ (some (some 10, false))
      (.step .pure ⟨some 14, .fieldAddr 99 (.tmp 13) 0, 0⟩ (some (some 10, false))
      (.step .load ⟨some 11, .load 27 (.tmp 4), 27⟩ (some (some 10, false))
      (.step .load ⟨some 15, .load 3 (.tmp 14), 3⟩ (some (some 10, false))
      (.step .eff ⟨some 16, .call { callee := (.value (.func 57)), args := #[(.tmp 11), (.tmp 15)], argTypes := #[27, 3] }, 4⟩ (some (some 10, false))
      (.step .pure ⟨some 17, .unOp .not 4 (.tmp 16), 4⟩ (some (some 10, false))
      (.step .pure ⟨some 18, .pick (.tmp 10) (.const (.bool true)) (.tmp 17), 4⟩ none
      .nil))))))))))))
    (.cond (.tmp 18)
    (.seq (.region (.step .text ⟨some 6, .assign (.const (.bool false)), 4⟩ none
      .nil))
    .ret)
    .skip))
    (.seq (.block 0 (.code Try.c47bbaa))
    (.seq (.drawn (.step .pure ⟨some 61, .move (.tmp 0), 75⟩ none
      (.step .pure ⟨some 62, .fieldAddr 27 (.tmp 4) 0, 0⟩ none
      (.step .pure ⟨some 64, .nilCheck (.tmp 61), 0⟩ none
      (.step .pure ⟨some 65, .fieldAddr 99 (.tmp 64) 1, 0⟩ none
      (.step .pure ⟨some 68, .fieldAddr 27 (.tmp 4) 1, 0⟩ none
      (.step .pure ⟨some 71, .move (.tmp 0), 75⟩ none
      (.step .pure ⟨some 72, .fieldAddr 27 (.tmp 4) 0, 0⟩ none
      (.step .pure ⟨some 74, .nilCheck (.tmp 71), 0⟩ none
      (.step .pure ⟨some 75, .fieldAddr 99 (.tmp 74) 2, 0⟩ none
      (.step .pure ⟨some 78, .fieldAddr 27 (.tmp 4) 1, 0⟩ none
      (.step .load ⟨some 63, .load 3 (.tmp 62), 3⟩ none
      (.step .pure ⟨some 66, .indexAddr 96 (.tmp 65) (.tmp 63), 0⟩ none
      (.step .load ⟨some 67, .load 40 (.tmp 66), 40⟩ none
      (.step .load ⟨some 69, .load 3 (.tmp 68), 3⟩ none
      (.step .pure ⟨some 70, .binOp .sub 3 (.tmp 69) (.const (.int .i64 1)) 3, 3⟩ none
      (.step .load ⟨some 73, .load 3 (.tmp 72), 3⟩ none
      (.step .pure ⟨some 76, .indexAddr 97 (.tmp 75) (.tmp 73), 0⟩ none
      (.step .load ⟨some 77, .load 23 (.tmp 76), 23⟩ none
      (.step .weak ⟨some 79, .load 3 (.tmp 78), 3⟩ none
      (.step .pure ⟨some 80, .binOp .sub 3 (.tmp 79) (.const (.int .i64 1)) 3, 3⟩ none
      (.step .load ⟨some 81, .load 33 (.tmp 5), 33⟩ none
      (.step .pure ⟨some 82, .indexAddr 40 (.tmp 67) (.tmp 70), 0⟩ none
      (.step .late ⟨none, .store 33 (.tmp 82) (.tmp 81), 0⟩ none
      (.step .pure ⟨some 83, .indexAddr 23 (.tmp 77) (.tmp 80), 0⟩ none
      (.step .last ⟨none, .store 4 (.tmp 83) (.const (.bool true)), 0⟩ none
      .nil))))))))))))))))))))))))))
    (.seq (.region (.step .text ⟨some 6, .assign (.const (.bool true)), 4⟩ none
      .nil))
    .ret)))))
theorem Try.hx47 : compile Try.p47 (Try.f47.body.getD .skip) = Try.x47 := by kernel_rfl
theorem Try.ok47 : plansOk Try.p47 (Try.f47.body.getD .skip) = true := by kernel_rfl
noncomputable def Try.x47bbaal : XCode := (.seq (.seq (.drawn (.step .pure ⟨some 19, .move (.tmp 0), 75⟩ none
      (.step .pure ⟨some 20, .fieldAddr 27 (.tmp 4) 0, 0⟩ none
      (.step .pure ⟨some 22, .nilCheck (.tmp 19), 0⟩ none
      (.step .pure ⟨some 23, .fieldAddr 99 (.tmp 22) 1, 0⟩ none
      (.step .pure ⟨some 27, .fieldAddr 27 (.tmp 4) 1, 0⟩ none
      (.step .load ⟨some 21, .load 3 (.tmp 20), 3⟩ none
      (.step .pure ⟨some 24, .indexAddr 96 (.tmp 23) (.tmp 21), 0⟩ none
      (.step .load ⟨some 25, .load 40 (.tmp 24), 40⟩ none
      (.step .pure ⟨some 26, .call { callee := (.builtin .len), args := #[(.tmp 25)], argTypes := #[40] }, 3⟩ none
      (.step .load ⟨some 28, .load 3 (.tmp 27), 3⟩ none
      (.step .pure ⟨some 29, .binOp .lss 3 (.tmp 26) (.tmp 28) 3, 4⟩ none
      .nil))))))))))))
    (.cond (.tmp 29)
    .skip
    (.exit 0)))
    (.block 1 (.seq (.region (.step .text ⟨some 7, .alloc 33, 0⟩ none
      .nil))
    (.drawn (.step .pure ⟨some 30, .move (.tmp 0), 75⟩ none
      (.step .pure ⟨some 31, .fieldAddr 27 (.tmp 4) 0, 0⟩ none
      (.step .pure ⟨some 33, .move (.tmp 0), 75⟩ none
      (.step .pure ⟨some 34, .fieldAddr 27 (.tmp 4) 0, 0⟩ none
      (.step .pure ⟨some 36, .move (.tmp 0), 75⟩ none
      (.step .pure ⟨some 37, .fieldAddr 27 (.tmp 4) 0, 0⟩ none
      (.step .pure ⟨some 39, .nilCheck (.tmp 36), 0⟩ none
      (.step .pure ⟨some 40, .fieldAddr 99 (.tmp 39) 1, 0⟩ none
      (.step .pure ⟨some 46, .move (.tmp 0), 75⟩ none
      (.step .pure ⟨some 47, .fieldAddr 27 (.tmp 4) 0, 0⟩ none
      (.step .pure ⟨some 49, .nilCheck (.tmp 46), 0⟩ none
      (.step .pure ⟨some 50, .fieldAddr 99 (.tmp 49) 2, 0⟩ none
      (.step .pure ⟨some 55, .nilCheck (.tmp 30), 0⟩ none
      (.step .pure ⟨some 56, .fieldAddr 99 (.tmp 55) 1, 0⟩ none
      (.step .pure ⟨some 58, .nilCheck (.tmp 33), 0⟩ none
      (.step .pure ⟨some 59, .fieldAddr 99 (.tmp 58) 2, 0⟩ none
      (.step .weak ⟨some 32, .load 3 (.tmp 31), 3⟩ none
      (.step .weak ⟨some 35, .load 3 (.tmp 34), 3⟩ none
      (.step .load ⟨some 38, .load 3 (.tmp 37), 3⟩ none
      (.step .pure ⟨some 41, .indexAddr 96 (.tmp 40) (.tmp 38), 0⟩ none
      (.step .load ⟨some 42, .load 40 (.tmp 41), 40⟩ none
      (.step .load ⟨some 43, .load 33 (.tmp 7), 33⟩ none
      (.step .weak ⟨some 48, .load 3 (.tmp 47), 3⟩ none
      (.step .pure ⟨some 51, .indexAddr 97 (.tmp 50) (.tmp 48), 0⟩ none
      (.step .weak ⟨some 52, .load 23 (.tmp 51), 23⟩ none
      (.fork (.step .eff ⟨some 44, .buildSlice 40 1 #[(0, (.tmp 43))], 40⟩ none
      (.fork (.step .late ⟨some 45, .call { callee := (.builtin .append), args := #[(.tmp 42), (.tmp 44)], argTypes := #[40, 40] }, 40⟩ none
      (.step .eff ⟨some 53, .buildSlice 23 1 #[(0, (.const (.bool false)))], 23⟩ none
      (.step .late ⟨some 54, .call { callee := (.builtin .append), args := #[(.tmp 52), (.tmp 53)], argTypes := #[23, 23] }, 23⟩ none
      (.step .pure ⟨some 57, .indexAddr 96 (.tmp 56) (.tmp 32), 0⟩ none
      (.step .late ⟨none, .store 40 (.tmp 57) (.tmp 45), 0⟩ none
      (.step .pure ⟨some 60, .indexAddr 97 (.tmp 59) (.tmp 35), 0⟩ none
      (.step .last ⟨none, .store 23 (.tmp 60) (.tmp 54), 0⟩ none
      .nil)))))))
      (.step .eff ⟨some 53, .buildSlice 23 1 #[(0, (.const (.bool false)))], 23⟩ none
      (.step .late ⟨some 45, .call { callee := (.builtin .append), args := #[(.tmp 42), (.tmp 44)], argTypes := #[40, 40] }, 40⟩ none
      (.step .late ⟨some 54, .call { callee := (.builtin .append), args := #[(.tmp 52), (.tmp 53)], argTypes := #[23, 23] }, 23⟩ none
      (.step .pure ⟨some 57, .indexAddr 96 (.tmp 56) (.tmp 32), 0⟩ none
      (.step .late ⟨none, .store 40 (.tmp 57) (.tmp 45), 0⟩ none
      (.step .pure ⟨some 60, .indexAddr 97 (.tmp 59) (.tmp 35), 0⟩ none
      (.step .last ⟨none, .store 23 (.tmp 60) (.tmp 54), 0⟩ none
      .nil)))))))))
      (.step .eff ⟨some 53, .buildSlice 23 1 #[(0, (.const (.bool false)))], 23⟩ none
      (.step .eff ⟨some 44, .buildSlice 40 1 #[(0, (.tmp 43))], 40⟩ none
      (.step .late ⟨some 45, .call { callee := (.builtin .append), args := #[(.tmp 42), (.tmp 44)], argTypes := #[40, 40] }, 40⟩ none
      (.step .late ⟨some 54, .call { callee := (.builtin .append), args := #[(.tmp 52), (.tmp 53)], argTypes := #[23, 23] }, 23⟩ none
      (.step .pure ⟨some 57, .indexAddr 96 (.tmp 56) (.tmp 32), 0⟩ none
      (.step .late ⟨none, .store 40 (.tmp 57) (.tmp 45), 0⟩ none
      (.step .pure ⟨some 60, .indexAddr 97 (.tmp 59) (.tmp 35), 0⟩ none
      (.step .last ⟨none, .store 23 (.tmp 60) (.tmp 54), 0⟩ none
      .nil))))))))))))))))))))))))))))))))))))))
theorem Try.hx47bbaal : compile Try.p47 (part1 Try.c47bbaa 0) = Try.x47bbaal := by kernel_rfl
theorem Try.ok47bbaal : plansOk Try.p47 (part1 Try.c47bbaa 0) = true := by kernel_rfl
theorem Try.lp47bbaa : Try.c47bbaa = .loop (part1 Try.c47bbaa 0) := by kernel_rfl
theorem Try.fb47 : Try.f47.body = some (Try.f47.body.getD .skip) := by kernel_rfl
theorem Try.en47 : Enters Try.prog 47 := ⟨Try.f47, Try.func47, by kernel_rfl, by kernel_rfl⟩
/-- slices.pdqsortCmpFunc[caucus/api.Item] -/
def Try.p48 : Nat → Option Plan := fun i => match i with
  | 17 => some ⟨[], [], (.pure 0 (.pure 1 (.pure 2 (.pure 3 (.pure 4 (.pure 5 (.pure 6 (.pure 7 (.pure 9 (.pure 10 (.pure 11 (.load 8 [8] (.load 12 [12] (.eff 13 (.pure 14 (.pure 15 (.pure 16 .nil)))))))))))))))))⟩
  | _ => none
noncomputable def Try.c48bba : Code := partAt (Try.f48.body.getD .skip) [1, 1, 0]
noncomputable def Try.x48 : XCode := (.seq (.region (.step .text ⟨some 10, .assign (.const (.bool true)), 4⟩ none
      .nil))
    (.seq (.region (.step .text ⟨some 11, .assign (.const (.bool true)), 4⟩ none
      .nil))
    (.block 0 (.code Try.c48bba))))
theorem Try.hx48 : compile Try.p48 (Try.f48.body.getD .skip) = Try.x48 := by kernel_rfl
theorem Try.ok48 : plansOk Try.p48 (Try.f48.body.getD .skip) = true := by kernel_rfl
noncomputable def Try.x48bbal : XCode := (.block 1 (.seq (.region (.step .text ⟨some 21, .move (.tmp 2), 3⟩ none
      (.step .text ⟨some 22, .move (.tmp 1), 3⟩ none
      (.step .text ⟨some 23, .binOp .sub 3 (.tmp 21) (.tmp 22) 3, 3⟩ none
      (.step .text ⟨some 12, .assign (.tmp 23), 3⟩ none
      .nil)))))
    (.seq (.seq (.region (.step .text ⟨some 24, .move (.tmp 12), 3⟩ none
      (.step .text ⟨some 25, .binOp .leq 3 (.tmp 24) (.const (.int .i64 12)) 3, 4⟩ none
      .nil)))
    (.cond (.tmp 25)
    (.seq (.region (.step .text ⟨some 26, .move (.tmp 0), 39⟩ none
      (.step .text ⟨some 27, .move (.tmp 1), 3⟩ none
      (.step .text ⟨some 28, .move (.tmp 2), 3⟩ none
      (.step .text ⟨some 29, .move (.tmp 4), 64⟩ none
      (.step .text ⟨some 30, .call { callee := (.value (.func 58)), args := #[(.tmp 26), (.tmp 27), (.tmp 28), (.tmp 29)], argTypes := #[39, 3, 3, 64] }, 0⟩ none
      .nil))))))
    .ret)
    .skip))
    (.seq (.seq (.region (.step .text ⟨some 31, .move (.tmp 3), 3⟩ none
      (.step .text ⟨some 32, .binOp .eql 3 (.tmp 31) (.const (.int .i64 0)) 3, 4⟩ none
      .nil)))
    (.cond (.tmp 32)
    (.seq (.region (.step .text ⟨some 33, .move (.tmp 0), 39⟩ none
      (.step .text ⟨some 34, .move (.tmp 1), 3⟩ none
      (.step .text ⟨some 35, .move (.tmp 2), 3⟩ none
      (.step .text ⟨some 36, .move (.tmp 4), 64⟩ none
      (.step .text ⟨some 37, .call { callee := (.value (.func 59)), args := #[(.tmp 33), (.tmp 34), (.tmp 35), (.tmp 36)], argTypes := #[39, 3, 3, 64] }, 0⟩ none
      .nil))))))
    .ret)
    .skip))
    (.seq (.seq (.region (.step .text ⟨some 38, .move (.tmp 10), 4⟩ none
      (.step .text ⟨some 39, .unOp .not 4 (.tmp 38), 4⟩ none
      .nil)))
    (.cond (.tmp 39)
    (.seq (.region (.step .text ⟨some 40, .move (.tmp 0), 39⟩ none
      (.step .text ⟨some 41, .move (.tmp 1), 3⟩ none
      (.step .text ⟨some 42, .move (.tmp 2), 3⟩ none
      (.step .text ⟨some 43, .move (.tmp 4), 64⟩ none
      (.step .text ⟨some 44, .call { callee := (.value (.func 60)), args := #[(.tmp 40), (.tmp 41), (.tmp 42), (.tmp 43)], argTypes := #[39, 3, 3, 64] }, 0⟩ none
      .nil))))))
    (.region (.step .text ⟨some 45, .move (.tmp 3), 3⟩ none
      (.step .text ⟨some 46, .binOp .sub 3 (.tmp 45) (.const (.int .i64 1)) 3, 3⟩ none
      (.step .text ⟨some 3, .assign (.tmp 46), 3⟩ none
      .nil)))))
    .skip))
    (.seq (.region (.step .text ⟨some 48, .move (.tmp 0), 39⟩ none
      (.step .text ⟨some 49, .move (.tmp 1), 3⟩ none
      (.step .text ⟨some 50, .move (.tmp 2), 3⟩ none
      (.step .text ⟨some 51, .move (.tmp 4), 64⟩ none
      (.step .text ⟨some 52, .call { callee := (.value (.func 61)), args := #[(.tmp 48), (.tmp 49), (.tmp 50), (.tmp 51)], argTypes := #[39, 3, 3, 64] }, 104⟩ none
      (.step .text ⟨some 47, .move (.tmp 52), 104⟩ none
      (.step .text ⟨some 53, .extract (.tmp 47) 0, 3⟩ none
      (.step .text ⟨some 54, .extract (.tmp 47) 1, 103⟩ none
      (.step .text ⟨some 13, .assign (.tmp 53), 3⟩ none
      (.step .text ⟨some 14, .assign (.tmp 54), 103⟩ none
      .nil)))))))))))
    (.seq (.seq (.region (.step .text ⟨some 55, .move (.tmp 14), 103⟩ none
      (.step .text ⟨some 56, .binOp .eql 103 (.tmp 55) (.const (.int .i64 2)) 103, 4⟩ none
      .nil)))
    (.cond (.tmp 56)
    (.seq (.region (.step .text ⟨some 57, .move (.tmp 0), 39⟩ none
      (.step .text ⟨some 58, .move (.tmp 1), 3⟩ none
      (.step .text ⟨some 59, .move (.tmp 2), 3⟩ none
      (.step .text ⟨some 60, .move (.tmp 4), 64⟩ none
      (.step .text ⟨some 61, .call { callee := (.value (.func 62)), args := #[(.tmp 57), (.tmp 58), (.tmp 59), (.tmp 60)], argTypes := #[39, 3, 3, 64] }, 0⟩ none
      .nil))))))
    (.seq (.region (.step .text ⟨some 62, .move (.tmp 2), 3⟩ none
      (.step .text ⟨some 63, .binOp .sub 3 (.tmp 62) (.const (.int .i64 1)) 3, 3⟩ none
      (.step .text ⟨some 64, .move (.tmp 13), 3⟩ none
      (.step .text ⟨some 65, .move (.tmp 1), 3⟩ none
      (.step .text ⟨some 66, .binOp .sub 3 (.tmp 64) (.tmp 65) 3, 3⟩ none
      (.step .text ⟨some 67, .binOp .sub 3 (.tmp 63) (.tmp 66) 3, 3⟩ none
      (.step .text ⟨some 13, .assign (.tmp 67), 3⟩ none
      .nil))))))))
    (.region (.step .text ⟨some 14, .assign (.const (.int .i64 1)), 103⟩ none
      .nil))))
    .skip))
    (.seq (.seq (.region (.step .text ⟨some 68, .move (.tmp 10), 4⟩ none
      (.step .text ⟨some 69, .move (.tmp 68), 4⟩ none
      (.step .text ⟨some 70, .move (.tmp 11), 4⟩ (some (some 69, true))
      (.step .text ⟨some 71, .pick (.tmp 69) (.tmp 70) (.const (.bool false)), 4⟩ none
      (.step .text ⟨some 72, .move (.tmp 71), 4⟩ none
      (.step .text ⟨some 73, .move (.tmp 14), 103⟩ (some (some 72, true))
      (.step .text ⟨some 74, .binOp .eql 103 (.tmp 73) (.const (.int .i64 1)) 103, 4⟩ (some (some 72, true))
      (.step .text ⟨some 75, .pick (.tmp 72) (.tmp 74) (.const (.bool false)), 4⟩ none
      .nil)))))))))
    (.cond (.tmp 75)
    (.seq (.region (.step .text ⟨some 76, .move (.tmp 0), 39⟩ none
      (.step .text ⟨some 77, .move (.tmp 1), 3⟩ none
      (.step .text ⟨some 78, .move (.tmp 2), 3⟩ none
      (.step .text ⟨some 79, .move (.tmp 4), 64⟩ none
      (.step .text ⟨some 80, .call { callee := (.value (.func 63)), args := #[(.tmp 76), (.tmp 77), (.tmp 78), (.tmp 79)], argTypes := #[39, 3, 3, 64] }, 4⟩ none
      .nil))))))
    (.cond (.tmp 80)
    .ret
    .skip))
    .skip))
    (.seq (.seq (.drawn (.step .pure ⟨some 81, .move (.tmp 1), 3⟩ none
      (.step .pure ⟨some 82, .binOp .gtr 3 (.tmp 81) (.const (.int .i64 0)) 3, 4⟩ none
      (.step .pure ⟨some 83, .move (.tmp 82), 4⟩ none
      (.step .pure ⟨some 84, .move (.tmp 4), 64⟩ (some (some 83, true))
      (.step .pure ⟨some 85, .move (.tmp 0), 39⟩ (some (some 83, true))
      (.step .pure ⟨some 86, .move (.tmp 1), 3⟩ (some (some 83, true))
      (.step .pure ⟨some 87, .binOp .sub 3 (.tmp 86) (.const (.int .i64 1)) 3, 3⟩ (some (some 83, true))
      (.step .pure ⟨some 88, .indexAddr 39 (.tmp 85) (.tmp 87), 0⟩ (some (some 83, true))
      (.step .pure ⟨some 90, .move (.tmp 0), 39⟩ (some (some 83, true))
      (.step .pure ⟨some 91, .move (.tmp 13), 3⟩ (some (some 83, true))
      (.step .pure ⟨some 92, .indexAddr 39 (.tmp 90) (.tmp 91), 0⟩ (some (some 83, true))
      (.step .load ⟨some 89, .load 27 (.tmp 88), 27⟩ (some (some 83, true))
      (.step .load ⟨some 93, .load 27 (.tmp 92), 27⟩ (some (some 83, true))
      (.step .eff ⟨some 94, .call { callee := (.value (.tmp 84)), args := #[(.tmp 89), (.tmp 93)], argTypes := #[27, 27] }, 3⟩ (some (some 83, true))
      (.step .pure ⟨some 95, .binOp .lss 3 (.tmp 94) (.const (.int .i64 0)) 3, 4⟩ (some (some 83, true))
      (.step .pure ⟨some 96, .unOp .not 4 (.tmp 95), 4⟩ (some (some 83, true))
      (.step .pure ⟨some 97, .pick (.tmp 83) (.tmp 96) (.const (.bool false)), 4⟩ none
      .nil))))))))))))))))))
    (.cond (.tmp 97)
    (.seq (.region (.step .text ⟨some 98, .move (.tmp 0), 39⟩ none
      (.step .text ⟨some 99, .move (.tmp 1), 3⟩ none
      (.step .text ⟨some 100, .move (.tmp 2), 3⟩ none
      (.step .text ⟨some 101, .move (.tmp 13), 3⟩ none
      (.step .text ⟨some 102, .move (.tmp 4), 64⟩ none
      (.step .text ⟨some 103, .call { callee := (.value (.func 64)), args := #[(.tmp 98), (.tmp 99), (.tmp 100), (.tmp 101), (.tmp 102)], argTypes := #[39, 3, 3, 3, 64] }, 3⟩ none
      (.step .text ⟨some 15, .assign (.tmp 103), 3⟩ none
      .nil))))))))
    (.seq (.region (.step .text ⟨some 104, .move (.tmp 15), 3⟩ none
      (.step .text ⟨some 1, .assign (.tmp 104), 3⟩ none
      .nil)))
    (.exit 1)))
    .skip))
    (.seq (.region (.step .text ⟨some 106, .move (.tmp 0), 39⟩ none
      (.step .text ⟨some 107, .move (.tmp 1), 3⟩ none
      (.step .text ⟨some 108, .move (.tmp 2), 3⟩ none
      (.step .text ⟨some 109, .move (.tmp 13), 3⟩ none
      (.step .text ⟨some 110, .move (.tmp 4), 64⟩ none
      (.step .text ⟨some 111, .call { callee := (.value (.func 65)), args := #[(.tmp 106), (.tmp 107), (.tmp 108), (.tmp 109), (.tmp 110)], argTypes := #[39, 3, 3, 3, 64] }, 108⟩ none
      (.step .text ⟨some 105, .move (.tmp 111), 108⟩ none
      (.step .text ⟨some 112, .extract (.tmp 105) 0, 3⟩ none
      (.step .text ⟨some 113, .extract (.tmp 105) 1, 4⟩ none
      (.step .text ⟨some 16, .assign (.tmp 112), 3⟩ none
      (.step .text ⟨some 17, .assign (.tmp 113), 4⟩ none
      .nil))))))))))))
    (.seq (.region (.step .text ⟨some 114, .move (.tmp 17), 4⟩ none
      (.step .text ⟨some 11, .assign (.tmp 114), 4⟩ none
      .nil)))
    (.seq (.region (.step .text ⟨some 115, .move (.tmp 16), 3⟩ none
      (.step .text ⟨some 116, .move (.tmp 1), 3⟩ none
      (.step .text ⟨some 117, .binOp .sub 3 (.tmp 115) (.tmp 116) 3, 3⟩ none
      (.step .text ⟨some 118, .move (.tmp 2), 3⟩ none
      (.step .text ⟨some 119, .move (.tmp 16), 3⟩ none
      (.step .text ⟨some 120, .binOp .sub 3 (.tmp 118) (.tmp 119) 3, 3⟩ none
      (.step .text ⟨some 18, .assign (.tmp 117), 3⟩ none
      (.step .text ⟨some 19, .assign (.tmp 120), 3⟩ none
      .nil)))))))))
    (.seq (.region (.step .text ⟨some 121, .move (.tmp 12), 3⟩ none
      (.step .text ⟨some 122, .binOp .quo 3 (.tmp 121) (.const (.int .i64 8)) 3, 3⟩ none
      (.step .text ⟨some 20, .assign (.tmp 122), 3⟩ none
      .nil))))
    (.seq (.region (.step .text ⟨some 123, .move (.tmp 18), 3⟩ none
      (.step .text ⟨some 124, .move (.tmp 19), 3⟩ none
      (.step .text ⟨some 125, .binOp .lss 3 (.tmp 123) (.tmp 124) 3, 4⟩ none
      .nil))))
    (.cond (.tmp 125)
    (.seq (.region (.step .text ⟨some 126, .move (.tmp 18), 3⟩ none
      (.step .text ⟨some 127, .move (.tmp 20), 3⟩ none
      (.step .text ⟨some 128, .binOp .geq 3 (.tmp 126) (.tmp 127) 3, 4⟩ none
      (.step .text ⟨some 10, .assign (.tmp 128), 4⟩ none
      .nil)))))
    (.seq (.region (.step .text ⟨some 129, .move (.tmp 0), 39⟩ none
      (.step .text ⟨some 130, .move (.tmp 1), 3⟩ none
      (.step .text ⟨some 131, .move (.tmp 16), 3⟩ none
      (.step .text ⟨some 132, .move (.tmp 3), 3⟩ none
      (.step .text ⟨some 133, .move (.tmp 4), 64⟩ none
      (.step .text ⟨some 134, .call { callee := (.value (.func 48)), args := #[(.tmp 129), (.tmp 130), (.tmp 131), (.tmp 132), (.tmp 133)], argTypes := #[39, 3, 3, 3, 64] }, 0⟩ none
      .nil)))))))
    (.region (.step .text ⟨some 135, .move (.tmp 16), 3⟩ none
      (.step .text ⟨some 136, .binOp .add 3 (.tmp 135) (.const (.int .i64 1)) 3, 3⟩ none
      (.step .text ⟨some 1, .assign (.tmp 136), 3⟩ none
      .nil))))))
    (.seq (.region (.step .text ⟨some 137, .move (.tmp 19), 3⟩ none
      (.step .text ⟨some 138, .move (.tmp 20), 3⟩ none
      (.step .text ⟨some 139, .binOp .geq 3 (.tmp 137) (.tmp 138) 3, 4⟩ none
      (.step .text ⟨some 10, .assign (.tmp 139), 4⟩ none
      .nil)))))
    (.seq (.region (.step .text ⟨some 140, .move (.tmp 0), 39⟩ none
      (.step .text ⟨some 141, .move (.tmp 16), 3⟩ none
      (.step .text ⟨some 142, .binOp .add 3 (.tmp 141) (.const (.int .i64 1)) 3, 3⟩ none
      (.step .text ⟨some 143, .move (.tmp 2), 3⟩ none
      (.step .text ⟨some 144, .move (.tmp 3), 3⟩ none
      (.step .text ⟨some 145, .move (.tmp 4), 64⟩ none
      (.step .text ⟨some 146, .call { callee := (.value (.func 48)), args := #[(.tmp 140), (.tmp 142), (.tmp 143), (.tmp 144), (.tmp 145)], argTypes := #[39, 3, 3, 3, 64] }, 0⟩ none
      .nil))))))))
    (.region (.step .text ⟨some 147, .move (.tmp 16), 3⟩ none
      (.step .text ⟨some 2, .assign (.tmp 147), 3⟩ none
      .nil))))))))))))))))))))
theorem Try.hx48bbal : compile Try.p48 (part1 Try.c48bba 0) = Try.x48bbal := by kernel_rfl
theorem Try.ok48bbal : plansOk Try.p48 (part1 Try.c48bba 0) = true := by kernel_rfl
theorem Try.lp48bba : Try.c48bba = .loop (part1 Try.c48bba 0) := by kernel_rfl
theorem Try.fb48 : Try.f48.body = some (Try.f48.body.getD .skip) := by kernel_rfl
theorem Try.en48 : Enters Try.prog 48 := ⟨Try.f48, Try.func48, by kernel_rfl, by kernel_rfl⟩
theorem Try.en49 : Enters Try.prog 49 := ⟨Try.f49, Try.func49, by kernel_rfl, by kernel_rfl⟩
/-- (*caucus/graph.walk).push -/
def Try.p50 : Nat → Option Plan := fun i => match i with
  | 1 => some ⟨[20, 22], [23, 25], (.pure 0 (.pure 1 (.pure 2 (.pure 5 (.pure 6 (.pure 7 (.pure 10 (.pure 11 (.pure 12 (.pure 15 (.pure 16 (.pure 17 (.load 3 [3, 20, 21, 22, 23, 24, 25] (.load 4 [4, 20, 21, 22, 23, 24, 25] (.load 8 [8, 20, 21, 22, 23, 24, 25] (.weak 9 [9, 23, 24, 25] (.load 13 [13, 14, 19, 20, 21, 22, 23, 24, 25] (.load 14 [14, 19, 20, 21, 22, 23, 24, 25] (.load 18 [18, 19, 20, 21, 22, 23, 24, 25] (.load 19 [19, 20, 21, 22, 23, 24, 25] (.late 20 (.pure 21 (.late 22 (.last 23 (.pure 24 (.last 25 .nil))))))))))))))))))))))))))⟩
  | 2 => some ⟨[], [5], (.pure 0 (.pure 1 (.pure 2 (.load 3 [3, 5] (.load 4 [4, 5] (.last 5 .nil))))))⟩
  | 3 => some ⟨[], [7, 10], (.pure 0 (.pure 1 (.pure 2 (.pure 3 (.load 4 [4, 7, 8, 9, 10] (.load 5 [5, 6, 7, 8, 9, 10] (.eff 6 (.last 7 (.pure 8 (.pure 9 (.last 10 .nil)))))))))))⟩
  | 4 => some ⟨[], [11, 14], (.pure 0 (.pure 1 (.pure 2 (.pure 3 (.pure 6 (.load 4 [4, 11, 12, 13, 14] (.load 5 [5, 9, 10, 11, 12, 13, 14] (.load 7 [7, 8, 9, 10, 11, 12, 13, 14] (.eff 8 (.pure 9 (.eff 10 (.last 11 (.pure 12 (.pure 13 (.last 14 .nil)))))))))))))))⟩
  | _ => none
noncomputable def Try.x50 : XCode := (.seq (.region (.step .text ⟨some 3, .box 27 (.tmp 1), 0⟩ none
      .nil))
    (.seq (.drawn (.step .pure ⟨some 4, .move (.tmp 0), 84⟩ none
      (.step .pure ⟨some 5, .nilCheck (.tmp 4), 0⟩ none
      (.step .pure ⟨some 6, .fieldAddr 88 (.tmp 5) 1, 0⟩ none
      (.step .pure ⟨some 9, .move (.tmp 0), 84⟩ none
      (.step .pure ⟨some 10, .nilCheck (.tmp 9), 0⟩ none
      (.step .pure ⟨some 11, .fieldAddr 88 (.tmp 10) 2, 0⟩ none
      (.step .pure ⟨some 14, .move (.tmp 0), 84⟩ none
      (.step .pure ⟨some 15, .nilCheck (.tmp 14), 0⟩ none
      (.step .pure ⟨some 16, .fieldAddr 88 (.tmp 15) 1, 0⟩ none
      (.step .pure ⟨some 19, .move (.tmp 0), 84⟩ none
      (.step .pure ⟨some 20, .nilCheck (.tmp 19), 0⟩ none
      (.step .pure ⟨some 21, .fieldAddr 88 (.tmp 20) 1, 0⟩ none
      (.step .load ⟨some 7, .load 46 (.tmp 6), 46⟩ none
      (.step .load ⟨some 8, .load 27 (.tmp 3), 27⟩ none
      (.step .load ⟨some 12, .load 46 (.tmp 11), 46⟩ none
      (.step .weak ⟨some 13, .load 27 (.tmp 3), 27⟩ none
      (.step .load ⟨some 17, .load 46 (.tmp 16), 46⟩ none
      (.step .load ⟨some 18, .call { callee := (.builtin .len), args := #[(.tmp 17)], argTypes := #[46] }, 3⟩ none
      (.step .load ⟨some 22, .load 46 (.tmp 21), 46⟩ none
      (.step .load ⟨some 23, .call { callee := (.builtin .len), args := #[(.tmp 22)], argTypes := #[46] }, 3⟩ none
      (.step .late ⟨some 24, .mapEntry 46 (.tmp 7) (.tmp 8), 0⟩ none
      (.step .pure ⟨some 25, .extract (.tmp 24) 1, 3⟩ none
      (.step .late ⟨none, .entryStore 46 (.tmp 7) (.tmp 25) (.tmp 18), 0⟩ none
      (.step .last ⟨some 26, .mapEntry 46 (.tmp 12) (.tmp 13), 0⟩ none
      (.step .pure ⟨some 27, .extract (.tmp 26) 1, 3⟩ none
      (.step .last ⟨none, .entryStore 46 (.tmp 12) (.tmp 27) (.tmp 23), 0⟩ none
      .nil)))))))))))))))))))))))))))
    (.seq (.drawn (.step .pure ⟨some 28, .move (.tmp 0), 84⟩ none
      (.step .pure ⟨some 29, .nilCheck (.tmp 28), 0⟩ none
      (.step .pure ⟨some 30, .fieldAddr 88 (.tmp 29) 3, 0⟩ none
      (.step .load ⟨some 31, .load 85 (.tmp 30), 85⟩ none
      (.step .load ⟨some 32, .load 27 (.tmp 3), 27⟩ none
      (.step .last ⟨none, .mapUpdate 85 (.tmp 31) (.tmp 32) (.const (.bool true)), 0⟩ none
      .nil)))))))
    (.seq (.drawn (.step .pure ⟨some 33, .move (.tmp 0), 84⟩ none
      (.step .pure ⟨some 34, .move (.tmp 0), 84⟩ none
      (.step .pure ⟨some 35, .nilCheck (.tmp 34), 0⟩ none
      (.step .pure ⟨some 36, .fieldAddr 88 (.tmp 35) 4, 0⟩ none
      (.step .load ⟨some 37, .load 39 (.tmp 36), 39⟩ none
      (.step .load ⟨some 38, .load 27 (.tmp 3), 27⟩ none
      (.step .eff ⟨some 39, .buildSlice 39 1 #[(0, (.tmp 38))], 39⟩ none
      (.step .last ⟨some 40, .call { callee := (.builtin .append), args := #[(.tmp 37), (.tmp 39)], argTypes := #[39, 39] }, 39⟩ none
      (.step .pure ⟨some 41, .nilCheck (.tmp 33), 0⟩ none
      (.step .pure ⟨some 42, .fieldAddr 88 (.tmp 41) 4, 0⟩ none
      (.step .last ⟨none, .store 39 (.tmp 42) (.tmp 40), 0⟩ none
      .nil))))))))))))
    (.drawn (.step .pure ⟨some 43, .move (.tmp 0), 84⟩ none
      (.step .pure ⟨some 44, .move (.tmp 0), 84⟩ none
      (.step .pure ⟨some 45, .nilCheck (.tmp 44), 0⟩ none
      (.step .pure ⟨some 46, .fieldAddr 88 (.tmp 45) 5, 0⟩ none
      (.step .pure ⟨some 49, .move (.tmp 0), 84⟩ none
      (.step .load ⟨some 47, .load 86 (.tmp 46), 86⟩ none
      (.step .load ⟨some 48, .load 27 (.tmp 3), 27⟩ none
      (.step .load ⟨some 50, .load 27 (.tmp 3), 27⟩ none
      (.step .eff ⟨some 51, .call { callee := (.value (.func 68)), args := #[(.tmp 49), (.tmp 50)], argTypes := #[84, 27] }, 39⟩ none
      (.step .pure ⟨some 52, .build 115 #[(0, (.tmp 48)), (1, (.tmp 51))], 115⟩ none
      (.step .eff ⟨some 53, .buildSlice 86 1 #[(0, (.tmp 52))], 86⟩ none
      (.step .last ⟨some 54, .call { callee := (.builtin .append), args := #[(.tmp 47), (.tmp 53)], argTypes := #[86, 86] }, 86⟩ none
      (.step .pure ⟨some 55, .nilCheck (.tmp 43), 0⟩ none
      (.step .pure ⟨some 56, .fieldAddr 88 (.tmp 55) 5, 0⟩ none
      (.step .last ⟨none, .store 86 (.tmp 56) (.tmp 54), 0⟩ none
      .nil))))))))))))))))))))
theorem Try.hx50 : compile Try.p50 (Try.f50.body.getD .skip) = Try.x50 := by kernel_rfl
theorem Try.ok50 : plansOk Try.p50 (Try.f50.body.getD .skip) = true := by kernel_rfl
theorem Try.fb50 : Try.f50.body = some (Try.f50.body.getD .skip) := by kernel_rfl
theorem Try.en50 : Enters Try.prog 50 := ⟨Try.f50, Try.func50, by kernel_rfl, by kernel_rfl⟩
/-- (*caucus/graph.walk).step -/
def Try.p51 : Nat → Option Plan := fun i => match i with
  | 0 => some ⟨[], [], (.pure 0 (.pure 1 (.pure 2 (.pure 4 (.pure 5 (.pure 6 (.load 3 [3] (.load 7 [7] (.pure 8 (.pure 9 (.pure 10 (.pure 11 .nil))))))))))))⟩
  | 3 => some ⟨[], [14], (.pure 0 (.pure 1 (.pure 2 (.pure 3 (.pure 5 (.pure 6 (.pure 7 (.load 4 [4, 11, 12, 13, 14] (.load 8 [8, 9, 10, 11, 12, 13, 14] (.pure 9 (.pure 10 (.pure 11 (.pure 12 (.pure 13 (.last 14 .nil)))))))))))))))⟩
  | 5 => some ⟨[], [14], (.pure 0 (.pure 1 (.pure 2 (.pure 4 (.pure 5 (.pure 6 (.load 3 [3, 10, 11, 12, 14] (.load 7 [7, 8, 9, 10, 11, 12, 14] (.pure 8 (.pure 9 (.pure 10 (.pure 11 (.load 12 [12, 14] (.eff 13 (.last 14 .nil)))))))))))))))⟩
  | 6 => some ⟨[], [18], (.pure 0 (.pure 1 (.pure 2 (.pure 5 (.pure 6 (.pure 7 (.pure 11 (.pure 12 (.pure 13 (.load 3 [3, 18] (.load 4 [4, 18] (.load 8 [8, 10, 17, 18] (.load 9 [9, 10, 17, 18] (.load 10 [10, 17, 18] (.load 14 [14, 16, 17, 18] (.load 15 [15, 16, 17, 18] (.load 16 [16, 17, 18] (.pure 17 (.last 18 .nil)))))))))))))))))))⟩
  | 7 => some ⟨[], [], (.pure 0 (.pure 1 (.pure 2 (.pure 6 (.pure 7 (.pure 8 (.load 3 [3] (.load 4 [4] (.load 5 [5] (.load 9 [9] (.load 10 [10] (.load 11 [11] (.pure 12 .nil)))))))))))))⟩
  | 11 => some ⟨[], [], (.pure 0 (.pure 1 (.pure 2 (.load 3 [3] (.load 4 [4] (.load 5 [5] (.pure 6 (.pure 7 (.pure 8 (.pure 9 (.pure 10 .nil)))))))))))⟩
  | 12 => some ⟨[], [], (.pure 0 (.pure 1 (.pure 2 (.load 3 [3] (.load 4 [4] (.eff 5 (.pure 6 (.pure 7 .nil))))))))⟩
  | 13 => some ⟨[], [], (.pure 0 (.pure 1 (.pure 2 (.load 3 [3] (.load 4 [4] (.eff 5 (.pure 6 .nil)))))))⟩
  | 14 => some ⟨[], [7, 10], (.pure 0 (.pure 1 (.pure 2 (.pure 3 (.load 4 [4, 7, 8, 9, 10] (.load 5 [5, 6, 7, 8, 9, 10] (.eff 6 (.last 7 (.pure 8 (.pure 9 (.last 10 .nil)))))))))))⟩
  | 17 => some ⟨[], [], (.pure 0 (.pure 1 (.pure 2 (.load 3 [3] (.load 4 [4] (.load 5 [5] (.pure 6 .nil)))))))⟩
  | 18 => some ⟨[], [19], (.pure 0 (.pure 1 (.pure 2 (.pure 4 (.pure 5 (.pure 6 (.pure 8 (.pure 9 (.pure 10 (.pure 12 (.pure 13 (.pure 14 (.pure 17 (.load 3 [3, 19] (.load 7 [7, 19] (.load 11 [11, 16, 18, 19] (.load 15 [15, 16, 18, 19] (.load 16 [16, 18, 19] (.pure 18 (.last 19 .nil))))))))))))))))))))⟩
  | _ => none
noncomputable def Try.x51 : XCode := (.seq (.drawn (.step .pure ⟨some 8, .move (.tmp 0), 84⟩ none
      (.step .pure ⟨some 9, .nilCheck (.tmp 8), 0⟩ none
      (.step .pure ⟨some 10, .fieldAddr 88 (.tmp 9) 5, 0⟩ none
      (.step .pure ⟨some 12, .move (.tmp 0), 84⟩ none
      (.step .pure ⟨some 13, .nilCheck (.tmp 12), 0⟩ none
      (.step .pure ⟨some 14, .fieldAddr 88 (.tmp 13) 5, 0⟩ none
      (.step .load ⟨some 11, .load 86 (.tmp 10), 86⟩ none
      (.step .load ⟨some 15, .load 86 (.tmp 14), 86⟩ none
      (.step .pure ⟨some 16, .call { callee := (.builtin .len), args := #[(.tmp 15)], argTypes := #[86] }, 3⟩ none
      (.step .pure ⟨some 17, .binOp .sub 3 (.tmp 16) (.const (.int .i64 1)) 3, 3⟩ none
      (.step .pure ⟨some 18, .indexAddr 86 (.tmp 11) (.tmp 17), 0⟩ none
      (.step .pure ⟨some 2, .assign (.tmp 18), 116⟩ none
      .nil)))))))))))))
    (.seq (.seq (.region (.step .text ⟨some 19, .move (.tmp 2), 116⟩ none
      (.step .text ⟨some 20, .nilCheck (.tmp 19), 0⟩ none
      (.step .text ⟨some 21, .fieldAddr 115 (.tmp 20) 1, 0⟩ none
      (.step .text ⟨some 22, .load 39 (.tmp 21), 39⟩ none
      (.step .text ⟨some 23, .call { callee := (.builtin .len), args := #[(.tmp 22)], argTypes := #[39] }, 3⟩ none
      (.step .text ⟨some 24, .binOp .eql 3 (.tmp 23) (.const (.int .i64 0)) 3, 4⟩ none
      .nil)))))))
    (.cond (.tmp 24)
    (.seq (.region (.step .text ⟨some 25, .move (.tmp 2), 116⟩ none
      (.step .text ⟨some 26, .nilCheck (.tmp 25), 0⟩ none
      (.step .text ⟨some 27, .fieldAddr 115 (.tmp 26) 0, 0⟩ none
      (.step .text ⟨some 28, .load 27 (.tmp 27), 27⟩ none
      (.step .text ⟨some 3, .alloc 27, 0⟩ none
      (.step .text ⟨none, .store 27 (.tmp 3) (.tmp 28), 0⟩ none
      .nil)))))))
    (.seq (.drawn (.step .pure ⟨some 29, .move (.tmp 0), 84⟩ none
      (.step .pure ⟨some 30, .move (.tmp 0), 84⟩ none
      (.step .pure ⟨some 31, .nilCheck (.tmp 30), 0⟩ none
      (.step .pure ⟨some 32, .fieldAddr 88 (.tmp 31) 5, 0⟩ none
      (.step .pure ⟨some 34, .move (.tmp 0), 84⟩ none
      (.step .pure ⟨some 35, .nilCheck (.tmp 34), 0⟩ none
      (.step .pure ⟨some 36, .fieldAddr 88 (.tmp 35) 5, 0⟩ none
      (.step .load ⟨some 33, .load 86 (.tmp 32), 86⟩ none
      (.step .load ⟨some 37, .load 86 (.tmp 36), 86⟩ none
      (.step .pure ⟨some 38, .call { callee := (.builtin .len), args := #[(.tmp 37)], argTypes := #[86] }, 3⟩ none
      (.step .pure ⟨some 39, .binOp .sub 3 (.tmp 38) (.const (.int .i64 1)) 3, 3⟩ none
      (.step .pure ⟨some 40, .slice 86 (.tmp 33) none (some (.tmp 39)) none, 86⟩ none
      (.step .pure ⟨some 41, .nilCheck (.tmp 29), 0⟩ none
      (.step .pure ⟨some 42, .fieldAddr 88 (.tmp 41) 5, 0⟩ none
      (.step .last ⟨none, .store 86 (.tmp 42) (.tmp 40), 0⟩ none
      .nil))))))))))))))))
    (.seq (.seq (.region (.step .text ⟨some 43, .move (.tmp 0), 84⟩ none
      (.step .text ⟨some 44, .nilCheck (.tmp 43), 0⟩ none
      (.step .text ⟨some 45, .fieldAddr 88 (.tmp 44) 5, 0⟩ none
      (.step .text ⟨some 46, .load 86 (.tmp 45), 86⟩ none
      (.step .text ⟨some 47, .call { callee := (.builtin .len), args := #[(.tmp 46)], argTypes := #[86] }, 3⟩ none
      (.step .text ⟨some 48, .binOp .gtr 3 (.tmp 47) (.const (.int .i64 0)) 3, 4⟩ none
      .nil)))))))
    (.cond (.tmp 48)
    (.seq (.drawn (.step .pure ⟨some 49, .move (.tmp 0), 84⟩ none
      (.step .pure ⟨some 50, .nilCheck (.tmp 49), 0⟩ none
      (.step .pure ⟨some 51, .fieldAddr 88 (.tmp 50) 5, 0⟩ none
      (.step .pure ⟨some 53, .move (.tmp 0), 84⟩ none
      (.step .pure ⟨some 54, .nilCheck (.tmp 53), 0⟩ none
      (.step .pure ⟨some 55, .fieldAddr 88 (.tmp 54) 5, 0⟩ none
      (.step .load ⟨some 52, .load 86 (.tmp 51), 86⟩ none
      (.step .load ⟨some 56, .load 86 (.tmp 55), 86⟩ none
      (.step .pure ⟨some 57, .call { callee := (.builtin .len), args := #[(.tmp 56)], argTypes := #[86] }, 3⟩ none
      (.step .pure ⟨some 58, .binOp .sub 3 (.tmp 57) (.const (.int .i64 1)) 3, 3⟩ none
      (.step .pure ⟨some 59, .indexAddr 86 (.tmp 52) (.tmp 58), 0⟩ none
      (.step .pure ⟨some 60, .fieldAddr 115 (.tmp 59) 0, 0⟩ none
      (.step .load ⟨some 61, .load 27 (.tmp 60), 27⟩ none
      (.step .eff ⟨some 4, .alloc 27, 0⟩ none
      (.step .last ⟨none, .store 27 (.tmp 4) (.tmp 61), 0⟩ none
      .nil))))))))))))))))
    (.drawn (.step .pure ⟨some 62, .move (.tmp 0), 84⟩ none
      (.step .pure ⟨some 63, .nilCheck (.tmp 62), 0⟩ none
      (.step .pure ⟨some 64, .fieldAddr 88 (.tmp 63) 2, 0⟩ none
      (.step .pure ⟨some 67, .move (.tmp 0), 84⟩ none
      (.step .pure ⟨some 68, .nilCheck (.tmp 67), 0⟩ none
      (.step .pure ⟨some 69, .fieldAddr 88 (.tmp 68) 2, 0⟩ none
      (.step .pure ⟨some 73, .move (.tmp 0), 84⟩ none
      (.step .pure ⟨some 74, .nilCheck (.tmp 73), 0⟩ none
      (.step .pure ⟨some 75, .fieldAddr 88 (.tmp 74) 2, 0⟩ none
      (.step .load ⟨some 65, .load 46 (.tmp 64), 46⟩ none
      (.step .load ⟨some 66, .load 27 (.tmp 4), 27⟩ none
      (.step .load ⟨some 70, .load 46 (.tmp 69), 46⟩ none
      (.step .load ⟨some 71, .load 27 (.tmp 4), 27⟩ none
      (.step .load ⟨some 72, .lookup 46 (.tmp 70) (.tmp 71) false, 3⟩ none
      (.step .load ⟨some 76, .load 46 (.tmp 75), 46⟩ none
      (.step .load ⟨some 77, .load 27 (.tmp 3), 27⟩ none
      (.step .load ⟨some 78, .lookup 46 (.tmp 76) (.tmp 77) false, 3⟩ none
      (.step .pure ⟨some 79, .call { callee := (.builtin .min), args := #[(.tmp 72), (.tmp 78)], argTypes := #[3, 3] }, 3⟩ none
      (.step .last ⟨none, .mapUpdate 46 (.tmp 65) (.tmp 66) (.tmp 79), 0⟩ none
      .nil)))))))))))))))))))))
    .skip))
    (.seq (.seq (.drawn (.step .pure ⟨some 80, .move (.tmp 0), 84⟩ none
      (.step .pure ⟨some 81, .nilCheck (.tmp 80), 0⟩ none
      (.step .pure ⟨some 82, .fieldAddr 88 (.tmp 81) 2, 0⟩ none
      (.step .pure ⟨some 86, .move (.tmp 0), 84⟩ none
      (.step .pure ⟨some 87, .nilCheck (.tmp 86), 0⟩ none
      (.step .pure ⟨some 88, .fieldAddr 88 (.tmp 87) 1, 0⟩ none
      (.step .load ⟨some 83, .load 46 (.tmp 82), 46⟩ none
      (.step .load ⟨some 84, .load 27 (.tmp 3), 27⟩ none
      (.step .load ⟨some 85, .lookup 46 (.tmp 83) (.tmp 84) false, 3⟩ none
      (.step .load ⟨some 89, .load 46 (.tmp 88), 46⟩ none
      (.step .load ⟨some 90, .load 27 (.tmp 3), 27⟩ none
      (.step .load ⟨some 91, .lookup 46 (.tmp 89) (.tmp 90) false, 3⟩ none
      (.step .pure ⟨some 92, .binOp .eql 3 (.tmp 85) (.tmp 91) 3, 4⟩ none
      .nil))))))))))))))
    (.cond (.tmp 92)
    (.region (.step .text ⟨some 93, .move (.tmp 0), 84⟩ none
      (.step .text ⟨some 94, .load 27 (.tmp 3), 27⟩ none
      (.step .text ⟨some 95, .call { callee := (.value (.func 69)), args := #[(.tmp 93), (.tmp 94)], argTypes := #[84, 27] }, 0⟩ none
      .nil))))
    .skip))
    .ret))))
    .skip))
    (.seq (.region (.step .text ⟨some 96, .move (.tmp 2), 116⟩ none
      (.step .text ⟨some 97, .nilCheck (.tmp 96), 0⟩ none
      (.step .text ⟨some 98, .fieldAddr 115 (.tmp 97) 1, 0⟩ none
      (.step .text ⟨some 99, .load 39 (.tmp 98), 39⟩ none
      (.step .text ⟨some 100, .indexAddr 39 (.tmp 99) (.const (.int .i64 0)), 0⟩ none
      (.step .text ⟨some 101, .load 27 (.tmp 100), 27⟩ none
      (.step .text ⟨some 5, .alloc 27, 0⟩ none
      (.step .text ⟨none, .store 27 (.tmp 5) (.tmp 101), 0⟩ none
      .nil)))))))))
    (.seq (.region (.step .text ⟨some 102, .move (.tmp 2), 116⟩ none
      (.step .text ⟨some 103, .move (.tmp 2), 116⟩ none
      (.step .text ⟨some 104, .nilCheck (.tmp 103), 0⟩ none
      (.step .text ⟨some 105, .fieldAddr 115 (.tmp 104) 1, 0⟩ none
      (.step .text ⟨some 106, .load 39 (.tmp 105), 39⟩ none
      (.step .text ⟨some 107, .slice 39 (.tmp 106) (some (.const (.int .i64 1))) none none, 39⟩ none
      (.step .text ⟨some 108, .nilCheck (.tmp 102), 0⟩ none
      (.step .text ⟨some 109, .fieldAddr 115 (.tmp 108) 1, 0⟩ none
      (.step .text ⟨none, .store 39 (.tmp 109) (.tmp 107), 0⟩ none
      .nil))))))))))
    (.seq (.drawn (.step .pure ⟨some 111, .move (.tmp 0), 84⟩ none
      (.step .pure ⟨some 112, .nilCheck (.tmp 111), 0⟩ none
      (.step .pure ⟨some 113, .fieldAddr 88 (.tmp 112) 1, 0⟩ none
      (.step .load ⟨some 114, .load 46 (.tmp 113), 46⟩ none
      (.step .load ⟨some 115, .load 27 (.tmp 5), 27⟩ none
      (.step .load ⟨some 116, .lookup 46 (.tmp 114) (.tmp 115) true, 108⟩ none
      (.step .pure ⟨some 110, .move (.tmp 116), 108⟩ none
      (.step .pure ⟨some 117, .extract (.tmp 110) 0, 3⟩ none
      (.step .pure ⟨some 118, .extract (.tmp 110) 1, 4⟩ none
      (.step .pure ⟨some 6, .assign (.tmp 117), 3⟩ none
      (.step .pure ⟨some 7, .assign (.tmp 118), 4⟩ none
      .nil))))))))))))
    (.block 0 (.seq (.drawn (.step .pure ⟨some 120, .move (.tmp 0), 84⟩ none
      (.step .pure ⟨some 121, .nilCheck (.tmp 120), 0⟩ none
      (.step .pure ⟨some 122, .fieldAddr 88 (.tmp 121) 0, 0⟩ none
      (.step .load ⟨some 123, .load 59 (.tmp 122), 59⟩ none
      (.step .load ⟨some 124, .load 27 (.tmp 5), 27⟩ none
      (.step .eff ⟨some 125, .call { callee := (.value (.func 42)), args := #[(.tmp 123), (.tmp 124)], argTypes := #[59, 27] }, 4⟩ none
      (.step .pure ⟨some 126, .unOp .not 4 (.tmp 125), 4⟩ none
      (.step .pure ⟨some 119, .assign (.tmp 126), 4⟩ none
      .nil)))))))))
    (.cond (.tmp 119)
    (.seq (.drawn (.step .pure ⟨some 127, .move (.tmp 0), 84⟩ none
      (.step .pure ⟨some 128, .nilCheck (.tmp 127), 0⟩ none
      (.step .pure ⟨some 129, .fieldAddr 88 (.tmp 128) 7, 0⟩ none
      (.step .load ⟨some 130, .load 39 (.tmp 129), 39⟩ none
      (.step .load ⟨some 131, .load 27 (.tmp 5), 27⟩ none
      (.step .eff ⟨some 132, .call { callee := (.value (.func 32)), args := #[(.tmp 130), (.tmp 131)], argTypes := #[39, 27] }, 4⟩ none
      (.step .pure ⟨some 133, .unOp .not 4 (.tmp 132), 4⟩ none
      .nil))))))))
    (.cond (.tmp 133)
    (.drawn (.step .pure ⟨some 134, .move (.tmp 0), 84⟩ none
      (.step .pure ⟨some 135, .move (.tmp 0), 84⟩ none
      (.step .pure ⟨some 136, .nilCheck (.tmp 135), 0⟩ none
      (.step .pure ⟨some 137, .fieldAddr 88 (.tmp 136) 7, 0⟩ none
      (.step .load ⟨some 138, .load 39 (.tmp 137), 39⟩ none
      (.step .load ⟨some 139, .load 27 (.tmp 5), 27⟩ none
      (.step .eff ⟨some 140, .buildSlice 39 1 #[(0, (.tmp 139))], 39⟩ none
      (.step .last ⟨some 141, .call { callee := (.builtin .append), args := #[(.tmp 138), (.tmp 140)], argTypes := #[39, 39] }, 39⟩ none
      (.step .pure ⟨some 142, .nilCheck (.tmp 134), 0⟩ none
      (.step .pure ⟨some 143, .fieldAddr 88 (.tmp 142) 7, 0⟩ none
      (.step .last ⟨none, .store 39 (.tmp 143) (.tmp 141), 0⟩ none
      .nil))))))))))))
    .skip))
    (.seq (.region (.step .text ⟨some 145, .move (.tmp 7), 4⟩ none
      (.step .text ⟨some 146, .unOp .not 4 (.tmp 145), 4⟩ none
      (.step .text ⟨some 144, .assign (.tmp 146), 4⟩ none
      .nil))))
    (.cond (.tmp 144)
    (.region (.step .text ⟨some 147, .move (.tmp 0), 84⟩ none
      (.step .text ⟨some 148, .load 27 (.tmp 5), 27⟩ none
      (.step .text ⟨some 149, .call { callee := (.value (.func 50)), args := #[(.tmp 147), (.tmp 148)], argTypes := #[84, 27] }, 0⟩ none
      .nil))))
    (.seq (.drawn (.step .pure ⟨some 151, .move (.tmp 0), 84⟩ none
      (.step .pure ⟨some 152, .nilCheck (.tmp 151), 0⟩ none
      (.step .pure ⟨some 153, .fieldAddr 88 (.tmp 152) 3, 0⟩ none
      (.step .load ⟨some 154, .load 85 (.tmp 153), 85⟩ none
      (.step .load ⟨some 155, .load 27 (.tmp 5), 27⟩ none
      (.step .load ⟨some 156, .lookup 85 (.tmp 154) (.tmp 155) false, 4⟩ none
      (.step .pure ⟨some 150, .assign (.tmp 156), 4⟩ none
      .nil))))))))
    (.cond (.tmp 150)
    (.drawn (.step .pure ⟨some 157, .move (.tmp 0), 84⟩ none
      (.step .pure ⟨some 158, .nilCheck (.tmp 157), 0⟩ none
      (.step .pure ⟨some 159, .fieldAddr 88 (.tmp 158) 2, 0⟩ none
      (.step .pure ⟨some 161, .move (.tmp 2), 116⟩ none
      (.step .pure ⟨some 162, .nilCheck (.tmp 161), 0⟩ none
      (.step .pure ⟨some 163, .fieldAddr 115 (.tmp 162) 0, 0⟩ none
      (.step .pure ⟨some 165, .move (.tmp 0), 84⟩ none
      (.step .pure ⟨some 166, .nilCheck (.tmp 165), 0⟩ none
      (.step .pure ⟨some 167, .fieldAddr 88 (.tmp 166) 2, 0⟩ none
      (.step .pure ⟨some 169, .move (.tmp 2), 116⟩ none
      (.step .pure ⟨some 170, .nilCheck (.tmp 169), 0⟩ none
      (.step .pure ⟨some 171, .fieldAddr 115 (.tmp 170) 0, 0⟩ none
      (.step .pure ⟨some 174, .move (.tmp 6), 3⟩ none
      (.step .load ⟨some 160, .load 46 (.tmp 159), 46⟩ none
      (.step .load ⟨some 164, .load 27 (.tmp 163), 27⟩ none
      (.step .load ⟨some 168, .load 46 (.tmp 167), 46⟩ none
      (.step .load ⟨some 172, .load 27 (.tmp 171), 27⟩ none
      (.step .load ⟨some 173, .lookup 46 (.tmp 168) (.tmp 172) false, 3⟩ none
      (.step .pure ⟨some 175, .call { callee := (.builtin .min), args := #[(.tmp 173), (.tmp 174)], argTypes := #[3, 3] }, 3⟩ none
      (.step .last ⟨none, .mapUpdate 46 (.tmp 160) (.tmp 164) (.tmp 175), 0⟩ none
      .nil)))))))))))))))))))))
    .skip))))))))))))
theorem Try.hx51 : compile Try.p51 (Try.f51.body.getD .skip) = Try.x51 := by kernel_rfl
theorem Try.ok51 : plansOk Try.p51 (Try.f51.body.getD .skip) = true := by kernel_rfl
theorem Try.fb51 : Try.f51.body = some (Try.f51.body.getD .skip) := by kernel_rfl
theorem Try.en51 : Enters Try.prog 51 := ⟨Try.f51, Try.func51, by kernel_rfl, by kernel_rfl⟩
/-- slices.Index[[]caucus/api.Item,caucus/api.Item] -/
def Try.p52 : Nat → Option Plan := fun i => match i with
  | 4 => some ⟨[], [], (.pure 1 (.pure 2 (.pure 3 (.load 0 [0] (.load 4 [4] (.pure 5 .nil))))))⟩
  | _ => none
noncomputable def Try.c52baba : Code := partAt (Try.f52.body.getD .skip) [1, 0, 1, 0]
noncomputable def Try.x52 : XCode := (.seq (.region (.step .text ⟨some 3, .box 27 (.tmp 1), 0⟩ none
      (.step .text ⟨some 4, .assign (.const (.int .i64 0)), 3⟩ none
      .nil)))
    (.seq (.seq (.region (.step .text ⟨some 6, .move (.tmp 0), 39⟩ none
      (.step .text ⟨some 7, .call { callee := (.builtin .len), args := #[(.tmp 6)], argTypes := #[39] }, 3⟩ none
      (.step .text ⟨some 8, .move (.const (.int .i64 0)), 3⟩ none
      .nil))))
    (.block 0 (.code Try.c52baba)))
    (.seq (.region (.step .text ⟨some 4, .assign (.const (.int .i64 (-1))), 3⟩ none
      .nil))
    .ret)))
theorem Try.hx52 : compile Try.p52 (Try.f52.body.getD .skip) = Try.x52 := by kernel_rfl
theorem Try.ok52 : plansOk Try.p52 (Try.f52.body.getD .skip) = true := by kernel_rfl
noncomputable def Try.x52babal : XCode := (.seq (.region (.step .text ⟨some 9, .binOp .lss 3 (.tmp 8) (.tmp 7) 3, 0⟩ none
      .nil))
    (.seq (.cond (.tmp 9)
    .skip
    (.exit 0))
    (.seq (.block 1 (.seq (.region (.step .text ⟨some 10, .move (.tmp 8), 3⟩ none
      (.step .text ⟨some 5, .assign (.tmp 10), 3⟩ none
      .nil)))
    (.seq (.drawn (.step .pure ⟨some 12, .move (.tmp 0), 39⟩ none
      (.step .pure ⟨some 13, .move (.tmp 5), 3⟩ none
      (.step .pure ⟨some 14, .indexAddr 39 (.tmp 12) (.tmp 13), 0⟩ none
      (.step .load ⟨some 11, .load 27 (.tmp 3), 27⟩ none
      (.step .load ⟨some 15, .load 27 (.tmp 14), 27⟩ none
      (.step .pure ⟨some 16, .binOp .eql 27 (.tmp 11) (.tmp 15) 27, 4⟩ none
      .nil)))))))
    (.cond (.tmp 16)
    (.seq (.region (.step .text ⟨some 17, .move (.tmp 5), 3⟩ none
      (.step .text ⟨some 4, .assign (.tmp 17), 3⟩ none
      .nil)))
    .ret)
    .skip))))
    (.region (.step .text ⟨some 18, .binOp .add 3 (.tmp 8) (.const (.int .i64 1)) 3, 3⟩ none
      (.step .text ⟨some 8, .move (.tmp 18), 3⟩ none
      .nil))))))
theorem Try.hx52babal : compile Try.p52 (part1 Try.c52baba 0) = Try.x52babal := by kernel_rfl
theorem Try.ok52babal : plansOk Try.p52 (part1 Try.c52baba 0) = true := by kernel_rfl
theorem Try.lp52baba : Try.c52baba = .loop (part1 Try.c52baba 0) := by kernel_rfl
theorem Try.fb52 : Try.f52.body = some (Try.f52.body.getD .skip) := by kernel_rfl
theorem Try.en52 : Enters Try.prog 52 := ⟨Try.f52, Try.func52, by kernel_rfl, by kernel_rfl⟩
/-- (*caucus/graph.Graph).Done -/
def Try.p53 : Nat → Option Plan := fun i => match i with
  | 4 => some ⟨[], [5], (.pure 0 (.pure 1 (.pure 2 (.load 3 [3, 5] (.load 4 [4, 5] (.last 5 .nil))))))⟩
  | _ => none
noncomputable def Try.c53ba : Code := partAt (Try.f53.body.getD .skip) [1, 0]
noncomputable def Try.x53 : XCode := (.seq (.region (.step .text ⟨some 6, .move (.tmp 1), 39⟩ none
      (.step .text ⟨some 7, .call { callee := (.builtin .len), args := #[(.tmp 6)], argTypes := #[39] }, 3⟩ none
      (.step .text ⟨some 8, .move (.const (.int .i64 0)), 3⟩ none
      .nil))))
    (.block 0 (.code Try.c53ba)))
theorem Try.hx53 : compile Try.p53 (Try.f53.body.getD .skip) = Try.x53 := by kernel_rfl
theorem Try.ok53 : plansOk Try.p53 (Try.f53.body.getD .skip) = true := by kernel_rfl
noncomputable def Try.x53bal : XCode := (.seq (.region (.step .text ⟨some 9, .binOp .lss 3 (.tmp 8) (.tmp 7) 3, 0⟩ none
      .nil))
    (.seq (.cond (.tmp 9)
    .skip
    (.exit 0))
    (.seq (.block 1 (.seq (.region (.step .text ⟨some 10, .indexAddr 39 (.tmp 6) (.tmp 8), 0⟩ none
      (.step .text ⟨some 11, .load 27 (.tmp 10), 27⟩ none
      (.step .text ⟨some 5, .alloc 27, 0⟩ none
      (.step .text ⟨none, .store 27 (.tmp 5) (.tmp 11), 0⟩ none
      .nil)))))
    (.seq (.region (.step .text ⟨some 12, .move (.tmp 0), 59⟩ none
      (.step .text ⟨some 13, .binOp .neq 59 (.tmp 12) (.const (.pointer none)) 59, 4⟩ none
      .nil)))
    (.cond (.tmp 13)
    (.drawn (.step .pure ⟨some 14, .move (.tmp 0), 59⟩ none
      (.step .pure ⟨some 15, .nilCheck (.tmp 14), 0⟩ none
      (.step .pure ⟨some 16, .fieldAddr 80 (.tmp 15) 1, 0⟩ none
      (.step .load ⟨some 17, .load 77 (.tmp 16), 77⟩ none
      (.step .load ⟨some 18, .load 27 (.tmp 5), 27⟩ none
      (.step .last ⟨some 19, .call { callee := (.value (.func 70)), args := #[(.tmp 17), (.tmp 18), (.const (.bool true))], argTypes := #[77, 27, 4] }, 4⟩ none
      .nil)))))))
    .skip))))
    (.region (.step .text ⟨some 20, .binOp .add 3 (.tmp 8) (.const (.int .i64 1)) 3, 3⟩ none
      (.step .text ⟨some 8, .move (.tmp 20), 3⟩ none
      .nil))))))
theorem Try.hx53bal : compile Try.p53 (part1 Try.c53ba 0) = Try.x53bal := by kernel_rfl
theorem Try.ok53bal : plansOk Try.p53 (part1 Try.c53ba 0) = true := by kernel_rfl
theorem Try.lp53ba : Try.c53ba = .loop (part1 Try.c53ba 0) := by kernel_rfl
theorem Try.fb53 : Try.f53.body = some (Try.f53.body.getD .skip) := by kernel_rfl
theorem Try.en53 : Enters Try.prog 53 := ⟨Try.f53, Try.func53, by kernel_rfl, by kernel_rfl⟩
/-- slices.DeleteFunc[[]caucus/api.Item,caucus/api.Item] -/
def Try.p54 : Nat → Option Plan := fun i => match i with
  | _ => none
noncomputable def Try.c54bbbaba : Code := partAt (Try.f54.body.getD .skip) [1, 1, 1, 0, 1, 0]
noncomputable def Try.x54 : XCode := (.seq (.region (.step .text ⟨some 4, .assign (.const (.slice none 0 0)), 39⟩ none
      .nil))
    (.seq (.region (.step .text ⟨some 8, .move (.tmp 0), 39⟩ none
      (.step .text ⟨some 9, .move (.tmp 1), 54⟩ none
      (.step .text ⟨some 10, .call { callee := (.value (.func 71)), args := #[(.tmp 8), (.tmp 9)], argTypes := #[39, 54] }, 3⟩ none
      (.step .text ⟨some 5, .assign (.tmp 10), 3⟩ none
      .nil)))))
    (.seq (.seq (.region (.step .text ⟨some 11, .move (.tmp 5), 3⟩ none
      (.step .text ⟨some 12, .binOp .eql 3 (.tmp 11) (.const (.int .i64 (-1))) 3, 4⟩ none
      .nil)))
    (.cond (.tmp 12)
    (.seq (.region (.step .text ⟨some 13, .move (.tmp 0), 39⟩ none
      (.step .text ⟨some 4, .assign (.tmp 13), 39⟩ none
      .nil)))
    .ret)
    .skip))
    (.seq (.seq (.region (.step .text ⟨some 14, .move (.tmp 5), 3⟩ none
      (.step .text ⟨some 15, .binOp .add 3 (.tmp 14) (.const (.int .i64 1)) 3, 3⟩ none
      (.step .text ⟨some 6, .assign (.tmp 15), 3⟩ none
      .nil))))
    (.block 0 (.code Try.c54bbbaba)))
    (.seq (.region (.step .text ⟨some 36, .move (.tmp 0), 39⟩ none
      (.step .text ⟨some 37, .move (.tmp 5), 3⟩ none
      (.step .text ⟨some 38, .slice 39 (.tmp 36) (some (.tmp 37)) none none, 39⟩ none
      (.step .text ⟨none, .call { callee := (.builtin .clear), args := #[(.tmp 38)], argTypes := #[39] }, 0⟩ none
      .nil)))))
    (.seq (.region (.step .text ⟨some 39, .move (.tmp 0), 39⟩ none
      (.step .text ⟨some 40, .move (.tmp 5), 3⟩ none
      (.step .text ⟨some 41, .slice 39 (.tmp 39) none (some (.tmp 40)) none, 39⟩ none
      (.step .text ⟨some 4, .assign (.tmp 41), 39⟩ none
      .nil)))))
    .ret))))))
theorem Try.hx54 : compile Try.p54 (Try.f54.body.getD .skip) = Try.x54 := by kernel_rfl
theorem Try.ok54 : plansOk Try.p54 (Try.f54.body.getD .skip) = true := by kernel_rfl
noncomputable def Try.x54bbbabal : XCode := (.seq (.seq (.region (.step .text ⟨some 16, .move (.tmp 6), 3⟩ none
      (.step .text ⟨some 17, .move (.tmp 0), 39⟩ none
      (.step .text ⟨some 18, .call { callee := (.builtin .len), args := #[(.tmp 17)], argTypes := #[39] }, 3⟩ none
      (.step .text ⟨some 19, .binOp .lss 3 (.tmp 16) (.tmp 18) 3, 4⟩ none
      .nil)))))
    (.cond (.tmp 19)
    .skip
    (.exit 0)))
    (.seq (.block 1 (.seq (.region (.step .text ⟨some 22, .move (.tmp 0), 39⟩ none
      (.step .text ⟨some 23, .move (.tmp 6), 3⟩ none
      (.step .text ⟨some 24, .indexAddr 39 (.tmp 22) (.tmp 23), 0⟩ none
      (.step .text ⟨some 25, .load 27 (.tmp 24), 27⟩ none
      (.step .text ⟨some 7, .alloc 27, 0⟩ none
      (.step .text ⟨none, .store 27 (.tmp 7) (.tmp 25), 0⟩ none
      .nil)))))))
    (.seq (.region (.step .text ⟨some 26, .move (.tmp 1), 54⟩ none
      (.step .text ⟨some 27, .load 27 (.tmp 7), 27⟩ none
      (.step .text ⟨some 28, .call { callee := (.value (.tmp 26)), args := #[(.tmp 27)], argTypes := #[27] }, 4⟩ none
      (.step .text ⟨some 29, .unOp .not 4 (.tmp 28), 4⟩ none
      .nil)))))
    (.cond (.tmp 29)
    (.seq (.region (.step .text ⟨some 30, .move (.tmp 0), 39⟩ none
      (.step .text ⟨some 31, .move (.tmp 5), 3⟩ none
      (.step .text ⟨some 32, .load 27 (.tmp 7), 27⟩ none
      (.step .text ⟨some 33, .indexAddr 39 (.tmp 30) (.tmp 31), 0⟩ none
      (.step .text ⟨none, .store 27 (.tmp 33) (.tmp 32), 0⟩ none
      .nil))))))
    (.region (.step .text ⟨some 34, .move (.tmp 5), 3⟩ none
      (.step .text ⟨some 35, .binOp .add 3 (.tmp 34) (.const (.int .i64 1)) 3, 3⟩ none
      (.step .text ⟨some 5, .assign (.tmp 35), 3⟩ none
      .nil)))))
    .skip))))
    (.region (.step .text ⟨some 20, .move (.tmp 6), 3⟩ none
      (.step .text ⟨some 21, .binOp .add 3 (.tmp 20) (.const (.int .i64 1)) 3, 3⟩ none
      (.step .text ⟨some 6, .assign (.tmp 21), 3⟩ none
      .nil))))))
theorem Try.hx54bbbabal : compile Try.p54 (part1 Try.c54bbbaba 0) = Try.x54bbbabal := by kernel_rfl
theorem Try.ok54bbbabal : plansOk Try.p54 (part1 Try.c54bbbaba 0) = true := by kernel_rfl
theorem Try.lp54bbbaba : Try.c54bbbaba = .loop (part1 Try.c54bbbaba 0) := by kernel_rfl
theorem Try.fb54 : Try.f54.body = some (Try.f54.body.getD .skip) := by kernel_rfl
theorem Try.en54 : Enters Try.prog 54 := ⟨Try.f54, Try.func54, by kernel_rfl, by kernel_rfl⟩
/-- (*caucus/item.Rows[bool]).At -/
def Try.p56 : Nat → Option Plan := fun i => match i with
  | 2 => some ⟨[], [], (.pure 0 (.pure 1 (.pure 2 (.pure 4 (.pure 5 (.pure 6 (.load 3 [3] (.load 7 [7] (.eff 8 (.pure 9 (.pure 10 (.pure 11 (.pure 12 (.pure 14 (.pure 15 (.pure 17 (.pure 18 (.load 13 [13] (.load 16 [16] (.pure 19 (.load 20 [20] (.pure 21 (.pure 22 (.pure 23 (.pure 24 (.pure 25 (.pure 26 (.pure 28 (.pure 29 (.pure 32 (.load 27 [27] (.pure 30 (.load 31 [31] (.load 33 [33] (.pure 34 (.pure 35 (.load 36 [36] (.pure 37 (.pure 38 .nil)))))))))))))))))))))))))))))))))))))))⟩
  | 4 => some ⟨[], [], (.pure 0 (.pure 1 (.pure 3 (.pure 4 (.pure 7 (.load 2 [2] (.pure 5 (.load 6 [6] (.load 8 [8] (.pure 9 (.pure 10 (.load 11 [11] (.pure 12 (.pure 13 .nil))))))))))))))⟩
  | _ => none
noncomputable def Try.x56 : XCode := (.seq (.region (.step .text ⟨some 3, .box 27 (.tmp 1), 0⟩ none
      (.step .text ⟨some 4, .assign (.const (.bool false)), 4⟩ none
      (.step .text ⟨some 5, .assign (.const (.bool false)), 4⟩ none
      .nil))))
    (.seq (.region (.step .text ⟨some 6, .assign (.const (.bool false)), 4⟩ none
      .nil))
    (.seq (.seq (.drawn (.step .pure ⟨some 7, .move (.tmp 0), 77⟩ none
      (.step .pure ⟨some 8, .binOp .eql 77 (.tmp 7) (.const (.pointer none)) 77, 4⟩ none
      (.step .pure ⟨some 9, .move (.tmp 8), 4⟩ none
      (.step .pure ⟨some 11, .move (.tmp 0), 77⟩ (some (some 9, false))
      (.step .pure ⟨some 12, .nilCheck (.tmp 11), 0⟩ (some (some 9, false))
      (.step .pure ⟨some 13, .fieldAddr 101 (.tmp 12) 0, 0⟩ (some (some 9, false))
      (.step .load ⟨some 10, .load 27 (.tmp 3), 27⟩ (some (some 9, false))
      (.step .load ⟨some 14, .load 3 (.tmp 13), 3⟩ (some (some 9, false))
      (.step .eff ⟨some 15, .call { callee := (.value (.func 57)), args := #[(.tmp 10), (.tmp 14)], argTypes := #[27, 3] }, 4⟩ (some (some 9, false))
      (.step .pure ⟨some 16, .unOp .not 4 (.tmp 15), 4⟩ (some (some 9, false))
      (.step .pure ⟨some 17, .pick (.tmp 9) (.const (.bool true)) (.tmp 16), 4⟩ none
      (.step .pure ⟨some 18, .move (.tmp 17), 4⟩ none
      (.step .pure ⟨some 19, .fieldAddr 27 (.tmp 3) 1, 0⟩ (some (some 18, false))
      (.step .pure ⟨some 21, .move (.tmp 0), 77⟩ (some (some 18, false))
      (.step .pure ⟨some 22, .fieldAddr 27 (.tmp 3) 0, 0⟩ (some (some 18, false))
      (.step .pure ⟨some 24, .nilCheck (.tmp 21), 0⟩ (some (some 18, false))
      (.step .pure ⟨some 25, .fieldAddr 101 (.tmp 24) 1, 0⟩ (some (some 18, false))
      (.step .load ⟨some 20, .load 3 (.tmp 19), 3⟩ (some (some 18, false))
      (.step .load ⟨some 23, .load 3 (.tmp 22), 3⟩ (some (some 18, false))
      (.step .pure ⟨some 26, .indexAddr 97 (.tmp 25) (.tmp 23), 0⟩ (some (some 18, false))
      (.step .load ⟨some 27, .load 23 (.tmp 26), 23⟩ (some (some 18, false))
      (.step .pure ⟨some 28, .call { callee := (.builtin .len), args := #[(.tmp 27)], argTypes := #[23] }, 3⟩ (some (some 18, false))
      (.step .pure ⟨some 29, .binOp .gtr 3 (.tmp 20) (.tmp 28) 3, 4⟩ (some (some 18, false))
      (.step .pure ⟨some 30, .pick (.tmp 18) (.const (.bool true)) (.tmp 29), 4⟩ none
      (.step .pure ⟨some 31, .move (.tmp 30), 4⟩ none
      (.step .pure ⟨some 32, .move (.tmp 0), 77⟩ (some (some 31, false))
      (.step .pure ⟨some 33, .fieldAddr 27 (.tmp 3) 0, 0⟩ (some (some 31, false))
      (.step .pure ⟨some 35, .nilCheck (.tmp 32), 0⟩ (some (some 31, false))
      (.step .pure ⟨some 36, .fieldAddr 101 (.tmp 35) 2, 0⟩ (some (some 31, false))
      (.step .pure ⟨some 39, .fieldAddr 27 (.tmp 3) 1, 0⟩ (some (some 31, false))
      (.step .load ⟨some 34, .load 3 (.tmp 33), 3⟩ (some (some 31, false))
      (.step .pure ⟨some 37, .indexAddr 97 (.tmp 36) (.tmp 34), 0⟩ (some (some 31, false))
      (.step .load ⟨some 38, .load 23 (.tmp 37), 23⟩ (some (some 31, false))
      (.step .load ⟨some 40, .load 3 (.tmp 39), 3⟩ (some (some 31, false))
      (.step .pure ⟨some 41, .binOp .sub 3 (.tmp 40) (.const (.int .i64 1)) 3, 3⟩ (some (some 31, false))
      (.step .pure ⟨some 42, .indexAddr 23 (.tmp 38) (.tmp 41), 0⟩ (some (some 31, false))
      (.step .load ⟨some 43, .load 4 (.tmp 42), 4⟩ (some (some 31, false))
      (.step .pure ⟨some 44, .unOp .not 4 (.tmp 43), 4⟩ (some (some 31, false))
      (.step .pure ⟨some 45, .pick (.tmp 31) (.const (.bool true)) (.tmp 44), 4⟩ none
      .nil))))))))))))))))))))))))))))))))))))))))
    (.cond (.tmp 45)
    (.seq (.region (.step .text ⟨some 46, .move (.tmp 6), 4⟩ none
      (.step .text ⟨some 4, .assign (.tmp 46), 4⟩ none
      (.step .text ⟨some 5, .assign (.const (.bool false)), 4⟩ none
      .nil))))
    .ret)
    .skip))
    (.seq (.drawn (.step .pure ⟨some 47, .move (.tmp 0), 77⟩ none
      (.step .pure ⟨some 48, .fieldAddr 27 (.tmp 3) 0, 0⟩ none
      (.step .pure ⟨some 50, .nilCheck (.tmp 47), 0⟩ none
      (.step .pure ⟨some 51, .fieldAddr 101 (.tmp 50) 1, 0⟩ none
      (.step .pure ⟨some 54, .fieldAddr 27 (.tmp 3) 1, 0⟩ none
      (.step .load ⟨some 49, .load 3 (.tmp 48), 3⟩ none
      (.step .pure ⟨some 52, .indexAddr 97 (.tmp 51) (.tmp 49), 0⟩ none
      (.step .load ⟨some 53, .load 23 (.tmp 52), 23⟩ none
      (.step .load ⟨some 55, .load 3 (.tmp 54), 3⟩ none
      (.step .pure ⟨some 56, .binOp .sub 3 (.tmp 55) (.const (.int .i64 1)) 3, 3⟩ none
      (.step .pure ⟨some 57, .indexAddr 23 (.tmp 53) (.tmp 56), 0⟩ none
      (.step .load ⟨some 58, .load 4 (.tmp 57), 4⟩ none
      (.step .pure ⟨some 4, .assign (.tmp 58), 4⟩ none
      (.step .pure ⟨some 5, .assign (.const (.bool true)), 4⟩ none
      .nil)))))))))))))))
    .ret))))
theorem Try.hx56 : compile Try.p56 (Try.f56.body.getD .skip) = Try.x56 := by kernel_rfl
theorem Try.ok56 : plansOk Try.p56 (Try.f56.body.getD .skip) = true := by kernel_rfl
theorem Try.fb56 : Try.f56.body = some (Try.f56.body.getD .skip) := by kernel_rfl
theorem Try.en56 : Enters Try.prog 56 := ⟨Try.f56, Try.func56, by kernel_rfl, by kernel_rfl⟩
/-- caucus/item.Good -/
def Try.p57 : Nat → Option Plan := fun i => match i with
  | _ => none
noncomputable def Try.x57 : XCode := (.seq (.region (.step .text ⟨some 2, .box 27 (.tmp 0), 0⟩ none
      (.step .text ⟨some 4, .assign (.const (.bool false)), 4⟩ none
      .nil)))
    (.seq (.region (.step .text ⟨some 5, .fieldAddr 27 (.tmp 2) 0, 0⟩ none
      (.step .text ⟨some 6, .load 3 (.tmp 5), 3⟩ none
      (.step .text ⟨some 7, .binOp .geq 3 (.tmp 6) (.const (.int .i64 0)) 3, 4⟩ none
      (.step .text ⟨some 8, .move (.tmp 7), 4⟩ none
      (.step .text ⟨some 9, .fieldAddr 27 (.tmp 2) 0, 0⟩ (some (some 8, true))
      (.step .text ⟨some 10, .load 3 (.tmp 9), 3⟩ (some (some 8, true))
      (.step .text ⟨some 11, .move (.tmp 1), 3⟩ (some (some 8, true))
      (.step .text ⟨some 12, .binOp .lss 3 (.tmp 10) (.tmp 11) 3, 4⟩ (some (some 8, true))
      (.step .text ⟨some 13, .pick (.tmp 8) (.tmp 12) (.const (.bool false)), 4⟩ none
      (.step .text ⟨some 14, .move (.tmp 13), 4⟩ none
      (.step .text ⟨some 15, .fieldAddr 27 (.tmp 2) 1, 0⟩ (some (some 14, true))
      (.step .text ⟨some 16, .load 3 (.tmp 15), 3⟩ (some (some 14, true))
      (.step .text ⟨some 17, .binOp .geq 3 (.tmp 16) (.const (.int .i64 1)) 3, 4⟩ (some (some 14, true))
      (.step .text ⟨some 18, .pick (.tmp 14) (.tmp 17) (.const (.bool false)), 4⟩ none
      (.step .text ⟨some 19, .move (.tmp 18), 4⟩ none
      (.step .text ⟨some 20, .fieldAddr 27 (.tmp 2) 1, 0⟩ (some (some 19, true))
      (.step .text ⟨some 21, .load 3 (.tmp 20), 3⟩ (some (some 19, true))
      (.step .text ⟨some 22, .binOp .leq 3 (.tmp 21) (.const (.int .i64 64)) 3, 4⟩ (some (some 19, true))
      (.step .text ⟨some 23, .pick (.tmp 19) (.tmp 22) (.const (.bool false)), 4⟩ none
      (.step .text ⟨some 4, .assign (.tmp 23), 4⟩ none
      .nil)))))))))))))))))))))
    .ret))
theorem Try.hx57 : compile Try.p57 (Try.f57.body.getD .skip) = Try.x57 := by kernel_rfl
theorem Try.ok57 : plansOk Try.p57 (Try.f57.body.getD .skip) = true := by kernel_rfl
theorem Try.fb57 : Try.f57.body = some (Try.f57.body.getD .skip) := by kernel_rfl
theorem Try.en57 : Enters Try.prog 57 := ⟨Try.f57, Try.func57, by kernel_rfl, by kernel_rfl⟩
/-- slices.insertionSortCmpFunc[caucus/api.Item] -/
def Try.p58 : Nat → Option Plan := fun i => match i with
  | 4 => some ⟨[], [], (.pure 0 (.pure 1 (.pure 2 (.pure 3 (.pure 4 (.pure 5 (.pure 6 (.pure 7 (.pure 9 (.pure 10 (.pure 11 (.pure 12 (.load 8 [8] (.load 13 [13] (.eff 14 (.pure 15 (.pure 16 .nil)))))))))))))))))⟩
  | 6 => some ⟨[], [15, 17], (.pure 0 (.pure 1 (.pure 2 (.pure 3 (.pure 4 (.pure 5 (.pure 6 (.pure 7 (.pure 8 (.pure 10 (.pure 11 (.pure 12 (.load 9 [9, 14, 15, 16, 17] (.load 13 [13, 14, 15, 16, 17] (.pure 14 (.last 15 (.pure 16 (.last 17 .nil))))))))))))))))))⟩
  | _ => none
noncomputable def Try.c58ba : Code := partAt (Try.f58.body.getD .skip) [1, 0]
noncomputable def Try.c58balbaaba : Code := partAt (Try.f58.body.getD .skip) [1, 0, 0, 1, 0, 0, 1, 0]
noncomputable def Try.x58 : XCode := (.seq (.region (.step .text ⟨some 10, .move (.tmp 1), 3⟩ none
      (.step .text ⟨some 11, .binOp .add 3 (.tmp 10) (.const (.int .i64 1)) 3, 3⟩ none
      (.step .text ⟨some 8, .assign (.tmp 11), 3⟩ none
      .nil))))
    (.block 0 (.code Try.c58ba)))
theorem Try.hx58 : compile Try.p58 (Try.f58.body.getD .skip) = Try.x58 := by kernel_rfl
theorem Try.ok58 : plansOk Try.p58 (Try.f58.body.getD .skip) = true := by kernel_rfl
noncomputable def Try.x58bal : XCode := (.seq (.seq (.region (.step .text ⟨some 12, .move (.tmp 8), 3⟩ none
      (.step .text ⟨some 13, .move (.tmp 2), 3⟩ none
      (.step .text ⟨some 14, .binOp .lss 3 (.tmp 12) (.tmp 13) 3, 4⟩ none
      .nil))))
    (.cond (.tmp 14)
    .skip
    (.exit 0)))
    (.seq (.block 1 (.seq (.region (.step .text ⟨some 17, .move (.tmp 8), 3⟩ none
      (.step .text ⟨some 9, .assign (.tmp 17), 3⟩ none
      .nil)))
    (.block 2 (.code Try.c58balbaaba))))
    (.region (.step .text ⟨some 15, .move (.tmp 8), 3⟩ none
      (.step .text ⟨some 16, .binOp .add 3 (.tmp 15) (.const (.int .i64 1)) 3, 3⟩ none
      (.step .text ⟨some 8, .assign (.tmp 16), 3⟩ none
      .nil))))))
theorem Try.hx58bal : compile Try.p58 (part1 Try.c58ba 0) = Try.x58bal := by kernel_rfl
theorem Try.ok58bal : plansOk Try.p58 (part1 Try.c58ba 0) = true := by kernel_rfl
theorem Try.lp58ba : Try.c58ba = .loop (part1 Try.c58ba 0) := by kernel_rfl
noncomputable def Try.x58balbaabal : XCode := (.seq (.seq (.drawn (.step .pure ⟨some 18, .move (.tmp 9), 3⟩ none
      (.step .pure ⟨some 19, .move (.tmp 1), 3⟩ none
      (.step .pure ⟨some 20, .binOp .gtr 3 (.tmp 18) (.tmp 19) 3, 4⟩ none
      (.step .pure ⟨some 21, .move (.tmp 20), 4⟩ none
      (.step .pure ⟨some 22, .move (.tmp 3), 64⟩ (some (some 21, true))
      (.step .pure ⟨some 23, .move (.tmp 0), 39⟩ (some (some 21, true))
      (.step .pure ⟨some 24, .move (.tmp 9), 3⟩ (some (some 21, true))
      (.step .pure ⟨some 25, .indexAddr 39 (.tmp 23) (.tmp 24), 0⟩ (some (some 21, true))
      (.step .pure ⟨some 27, .move (.tmp 0), 39⟩ (some (some 21, true))
      (.step .pure ⟨some 28, .move (.tmp 9), 3⟩ (some (some 21, true))
      (.step .pure ⟨some 29, .binOp .sub 3 (.tmp 28) (.const (.int .i64 1)) 3, 3⟩ (some (some 21, true))
      (.step .pure ⟨some 30, .indexAddr 39 (.tmp 27) (.tmp 29), 0⟩ (some (some 21, true))
      (.step .load ⟨some 26, .load 27 (.tmp 25), 27⟩ (some (some 21, true))
      (.step .load ⟨some 31, .load 27 (.tmp 30), 27⟩ (some (some 21, true))
      (.step .eff ⟨some 32, .call { callee := (.value (.tmp 22)), args := #[(.tmp 26), (.tmp 31)], argTypes := #[27, 27] }, 3⟩ (some (some 21, true))
      (.step .pure ⟨some 33, .binOp .lss 3 (.tmp 32) (.const (.int .i64 0)) 3, 4⟩ (some (some 21, true))
      (.step .pure ⟨some 34, .pick (.tmp 21) (.tmp 33) (.const (.bool false)), 4⟩ none
      .nil))))))))))))))))))
    (.cond (.tmp 34)
    .skip
    (.exit 2)))
    (.seq (.block 3 (.drawn (.step .pure ⟨some 37, .move (.tmp 0), 39⟩ none
      (.step .pure ⟨some 38, .move (.tmp 9), 3⟩ none
      (.step .pure ⟨some 39, .move (.tmp 0), 39⟩ none
      (.step .pure ⟨some 40, .move (.tmp 9), 3⟩ none
      (.step .pure ⟨some 41, .binOp .sub 3 (.tmp 40) (.const (.int .i64 1)) 3, 3⟩ none
      (.step .pure ⟨some 42, .move (.tmp 0), 39⟩ none
      (.step .pure ⟨some 43, .move (.tmp 9), 3⟩ none
      (.step .pure ⟨some 44, .binOp .sub 3 (.tmp 43) (.const (.int .i64 1)) 3, 3⟩ none
      (.step .pure ⟨some 45, .indexAddr 39 (.tmp 42) (.tmp 44), 0⟩ none
      (.step .pure ⟨some 47, .move (.tmp 0), 39⟩ none
      (.step .pure ⟨some 48, .move (.tmp 9), 3⟩ none
      (.step .pure ⟨some 49, .indexAddr 39 (.tmp 47) (.tmp 48), 0⟩ none
      (.step .load ⟨some 46, .load 27 (.tmp 45), 27⟩ none
      (.step .load ⟨some 50, .load 27 (.tmp 49), 27⟩ none
      (.step .pure ⟨some 51, .indexAddr 39 (.tmp 37) (.tmp 38), 0⟩ none
      (.step .last ⟨none, .store 27 (.tmp 51) (.tmp 46), 0⟩ none
      (.step .pure ⟨some 52, .indexAddr 39 (.tmp 39) (.tmp 41), 0⟩ none
      (.step .last ⟨none, .store 27 (.tmp 52) (.tmp 50), 0⟩ none
      .nil))))))))))))))))))))
    (.region (.step .text ⟨some 35, .move (.tmp 9), 3⟩ none
      (.step .text ⟨some 36, .binOp .sub 3 (.tmp 35) (.const (.int .i64 1)) 3, 3⟩ none
      (.step .text ⟨some 9, .assign (.tmp 36), 3⟩ none
      .nil))))))
theorem Try.hx58balbaabal : compile Try.p58 (part1 Try.c58balbaaba 0) = Try.x58balbaabal := by kernel_rfl
theorem Try.ok58balbaabal : plansOk Try.p58 (part1 Try.c58balbaaba 0) = true := by kernel_rfl
theorem Try.lp58balbaaba : Try.c58balbaaba = .loop (part1 Try.c58balbaaba 0) := by kernel_rfl
theorem Try.fb58 : Try.f58.body = some (Try.f58.body.getD .skip) := by kernel_rfl
theorem Try.en58 : Enters Try.prog 58 := ⟨Try.f58, Try.func58, by kernel_rfl, by kernel_rfl⟩
/-- slices.heapSortCmpFunc[caucus/api.Item] -/
def Try.p59 : Nat → Option Plan := fun i => match i with
  | 10 => some ⟨[], [17, 19], (.pure 0 (.pure 1 (.pure 2 (.pure 3 (.pure 4 (.pure 5 (.pure 6 (.pure 7 (.pure 8 (.pure 9 (.pure 10 (.pure 12 (.pure 13 (.pure 14 (.load 11 [11, 16, 17, 18, 19] (.load 15 [15, 16, 17, 18, 19] (.pure 16 (.last 17 (.pure 18 (.last 19 .nil))))))))))))))))))))⟩
  | _ => none
noncomputable def Try.c59bbbaba : Code := partAt (Try.f59.body.getD .skip) [1, 1, 1, 0, 1, 0]
noncomputable def Try.c59bbbbba : Code := partAt (Try.f59.body.getD .skip) [1, 1, 1, 1, 1, 0]
noncomputable def Try.x59 : XCode := (.seq (.region (.step .text ⟨some 13, .move (.tmp 1), 3⟩ none
      (.step .text ⟨some 8, .assign (.tmp 13), 3⟩ none
      .nil)))
    (.seq (.region (.step .text ⟨some 9, .assign (.const (.int .i64 0)), 3⟩ none
      .nil))
    (.seq (.region (.step .text ⟨some 14, .move (.tmp 2), 3⟩ none
      (.step .text ⟨some 15, .move (.tmp 1), 3⟩ none
      (.step .text ⟨some 16, .binOp .sub 3 (.tmp 14) (.tmp 15) 3, 3⟩ none
      (.step .text ⟨some 10, .assign (.tmp 16), 3⟩ none
      .nil)))))
    (.seq (.seq (.region (.step .text ⟨some 17, .move (.tmp 10), 3⟩ none
      (.step .text ⟨some 18, .binOp .sub 3 (.tmp 17) (.const (.int .i64 1)) 3, 3⟩ none
      (.step .text ⟨some 19, .binOp .quo 3 (.tmp 18) (.const (.int .i64 2)) 3, 3⟩ none
      (.step .text ⟨some 11, .assign (.tmp 19), 3⟩ none
      .nil)))))
    (.block 0 (.code Try.c59bbbaba)))
    (.seq (.region (.step .text ⟨some 30, .move (.tmp 10), 3⟩ none
      (.step .text ⟨some 31, .binOp .sub 3 (.tmp 30) (.const (.int .i64 1)) 3, 3⟩ none
      (.step .text ⟨some 12, .assign (.tmp 31), 3⟩ none
      .nil))))
    (.block 2 (.code Try.c59bbbbba)))))))
theorem Try.hx59 : compile Try.p59 (Try.f59.body.getD .skip) = Try.x59 := by kernel_rfl
theorem Try.ok59 : plansOk Try.p59 (Try.f59.body.getD .skip) = true := by kernel_rfl
noncomputable def Try.x59bbbabal : XCode := (.seq (.seq (.region (.step .text ⟨some 20, .move (.tmp 11), 3⟩ none
      (.step .text ⟨some 21, .binOp .geq 3 (.tmp 20) (.const (.int .i64 0)) 3, 4⟩ none
      .nil)))
    (.cond (.tmp 21)
    .skip
    (.exit 0)))
    (.seq (.block 1 (.region (.step .text ⟨some 24, .move (.tmp 0), 39⟩ none
      (.step .text ⟨some 25, .move (.tmp 11), 3⟩ none
      (.step .text ⟨some 26, .move (.tmp 10), 3⟩ none
      (.step .text ⟨some 27, .move (.tmp 8), 3⟩ none
      (.step .text ⟨some 28, .move (.tmp 3), 64⟩ none
      (.step .text ⟨some 29, .call { callee := (.value (.func 72)), args := #[(.tmp 24), (.tmp 25), (.tmp 26), (.tmp 27), (.tmp 28)], argTypes := #[39, 3, 3, 3, 64] }, 0⟩ none
      .nil))))))))
    (.region (.step .text ⟨some 22, .move (.tmp 11), 3⟩ none
      (.step .text ⟨some 23, .binOp .sub 3 (.tmp 22) (.const (.int .i64 1)) 3, 3⟩ none
      (.step .text ⟨some 11, .assign (.tmp 23), 3⟩ none
      .nil))))))
theorem Try.hx59bbbabal : compile Try.p59 (part1 Try.c59bbbaba 0) = Try.x59bbbabal := by kernel_rfl
theorem Try.ok59bbbabal : plansOk Try.p59 (part1 Try.c59bbbaba 0) = true := by kernel_rfl
theorem Try.lp59bbbaba : Try.c59bbbaba = .loop (part1 Try.c59bbbaba 0) := by kernel_rfl
noncomputable def Try.x59bbbbbal : XCode := (.seq (.seq (.region (.step .text ⟨some 32, .move (.tmp 12), 3⟩ none
      (.step .text ⟨some 33, .binOp .geq 3 (.tmp 32) (.const (.int .i64 0)) 3, 4⟩ none
      .nil)))
    (.cond (.tmp 33)
    .skip
    (.exit 2)))
    (.seq (.block 3 (.seq (.drawn (.step .pure ⟨some 36, .move (.tmp 0), 39⟩ none
      (.step .pure ⟨some 37, .move (.tmp 8), 3⟩ none
      (.step .pure ⟨some 38, .move (.tmp 0), 39⟩ none
      (.step .pure ⟨some 39, .move (.tmp 8), 3⟩ none
      (.step .pure ⟨some 40, .move (.tmp 12), 3⟩ none
      (.step .pure ⟨some 41, .binOp .add 3 (.tmp 39) (.tmp 40) 3, 3⟩ none
      (.step .pure ⟨some 42, .move (.tmp 0), 39⟩ none
      (.step .pure ⟨some 43, .move (.tmp 8), 3⟩ none
      (.step .pure ⟨some 44, .move (.tmp 12), 3⟩ none
      (.step .pure ⟨some 45, .binOp .add 3 (.tmp 43) (.tmp 44) 3, 3⟩ none
      (.step .pure ⟨some 46, .indexAddr 39 (.tmp 42) (.tmp 45), 0⟩ none
      (.step .pure ⟨some 48, .move (.tmp 0), 39⟩ none
      (.step .pure ⟨some 49, .move (.tmp 8), 3⟩ none
      (.step .pure ⟨some 50, .indexAddr 39 (.tmp 48) (.tmp 49), 0⟩ none
      (.step .load ⟨some 47, .load 27 (.tmp 46), 27⟩ none
      (.step .load ⟨some 51, .load 27 (.tmp 50), 27⟩ none
      (.step .pure ⟨some 52, .indexAddr 39 (.tmp 36) (.tmp 37), 0⟩ none
      (.step .last ⟨none, .store 27 (.tmp 52) (.tmp 47), 0⟩ none
      (.step .pure ⟨some 53, .indexAddr 39 (.tmp 38) (.tmp 41), 0⟩ none
      (.step .last ⟨none, .store 27 (.tmp 53) (.tmp 51), 0⟩ none
      .nil)))))))))))))))))))))
    (.region (.step .text ⟨some 54, .move (.tmp 0), 39⟩ none
      (.step .text ⟨some 55, .move (.tmp 9), 3⟩ none
      (.step .text ⟨some 56, .move (.tmp 12), 3⟩ none
      (.step .text ⟨some 57, .move (.tmp 8), 3⟩ none
      (.step .text ⟨some 58, .move (.tmp 3), 64⟩ none
      (.step .text ⟨some 59, .call { callee := (.value (.func 72)), args := #[(.tmp 54), (.tmp 55), (.tmp 56), (.tmp 57), (.tmp 58)], argTypes := #[39, 3, 3, 3, 64] }, 0⟩ none
      .nil)))))))))
    (.region (.step .text ⟨some 34, .move (.tmp 12), 3⟩ none
      (.step .text ⟨some 35, .binOp .sub 3 (.tmp 34) (.const (.int .i64 1)) 3, 3⟩ none
      (.step .text ⟨some 12, .assign (.tmp 35), 3⟩ none
      .nil))))))
theorem Try.hx59bbbbbal : compile Try.p59 (part1 Try.c59bbbbba 0) = Try.x59bbbbbal := by kernel_rfl
theorem Try.ok59bbbbbal : plansOk Try.p59 (part1 Try.c59bbbbba 0) = true := by kernel_rfl
theorem Try.lp59bbbbba : Try.c59bbbbba = .loop (part1 Try.c59bbbbba 0) := by kernel_rfl
theorem Try.fb59 : Try.f59.body = some (Try.f59.body.getD .skip) := by kernel_rfl
theorem Try.en59 : Enters Try.prog 59 := ⟨Try.f59, Try.func59, by kernel_rfl, by kernel_rfl⟩
/-- slices.breakPatternsCmpFunc[caucus/api.Item] -/
def Try.p60 : Nat → Option Plan := fun i => match i with
  | 10 => some ⟨[], [17, 19], (.pure 0 (.pure 1 (.pure 2 (.pure 3 (.pure 4 (.pure 5 (.pure 6 (.pure 7 (.pure 8 (.pure 9 (.pure 10 (.pure 12 (.pure 13 (.pure 14 (.load 11 [11, 16, 17, 18, 19] (.load 15 [15, 16, 17, 18, 19] (.pure 16 (.last 17 (.pure 18 (.last 19 .nil))))))))))))))))))))⟩
  | _ => none
noncomputable def Try.c60bbabbba : Code := partAt (Try.f60.body.getD .skip) [1, 1, 0, 1, 1, 1, 0]
noncomputable def Try.x60 : XCode := (.seq (.region (.step .text ⟨some 13, .move (.tmp 2), 3⟩ none
      (.step .text ⟨some 14, .move (.tmp 1), 3⟩ none
      (.step .text ⟨some 15, .binOp .sub 3 (.tmp 13) (.tmp 14) 3, 3⟩ none
      (.step .text ⟨some 8, .assign (.tmp 15), 3⟩ none
      .nil)))))
    (.seq (.region (.step .text ⟨some 16, .move (.tmp 8), 3⟩ none
      (.step .text ⟨some 17, .binOp .geq 3 (.tmp 16) (.const (.int .i64 8)) 3, 4⟩ none
      .nil)))
    (.cond (.tmp 17)
    (.seq (.region (.step .text ⟨some 18, .move (.tmp 8), 3⟩ none
      (.step .text ⟨some 19, .convert 3 119 (.tmp 18), 119⟩ none
      (.step .text ⟨some 9, .alloc 119, 0⟩ none
      (.step .text ⟨none, .store 119 (.tmp 9) (.tmp 19), 0⟩ none
      .nil)))))
    (.seq (.region (.step .text ⟨some 20, .move (.tmp 8), 3⟩ none
      (.step .text ⟨some 21, .call { callee := (.value (.func 73)), args := #[(.tmp 20)], argTypes := #[3] }, 83⟩ none
      (.step .text ⟨some 10, .assign (.tmp 21), 83⟩ none
      .nil))))
    (.seq (.region (.step .text ⟨some 22, .move (.tmp 1), 3⟩ none
      (.step .text ⟨some 23, .move (.tmp 8), 3⟩ none
      (.step .text ⟨some 24, .binOp .quo 3 (.tmp 23) (.const (.int .i64 4)) 3, 3⟩ none
      (.step .text ⟨some 25, .binOp .mul 3 (.tmp 24) (.const (.int .i64 2)) 3, 3⟩ none
      (.step .text ⟨some 26, .binOp .add 3 (.tmp 22) (.tmp 25) 3, 3⟩ none
      (.step .text ⟨some 27, .binOp .sub 3 (.tmp 26) (.const (.int .i64 1)) 3, 3⟩ none
      (.step .text ⟨some 11, .assign (.tmp 27), 3⟩ none
      .nil))))))))
    (.block 0 (.code Try.c60bbabbba)))))
    .skip)))
theorem Try.hx60 : compile Try.p60 (Try.f60.body.getD .skip) = Try.x60 := by kernel_rfl
theorem Try.ok60 : plansOk Try.p60 (Try.f60.body.getD .skip) = true := by kernel_rfl
noncomputable def Try.x60bbabbbal : XCode := (.seq (.seq (.region (.step .text ⟨some 28, .move (.tmp 11), 3⟩ none
      (.step .text ⟨some 29, .move (.tmp 1), 3⟩ none
      (.step .text ⟨some 30, .move (.tmp 8), 3⟩ none
      (.step .text ⟨some 31, .binOp .quo 3 (.tmp 30) (.const (.int .i64 4)) 3, 3⟩ none
      (.step .text ⟨some 32, .binOp .mul 3 (.tmp 31) (.const (.int .i64 2)) 3, 3⟩ none
      (.step .text ⟨some 33, .binOp .add 3 (.tmp 29) (.tmp 32) 3, 3⟩ none
      (.step .text ⟨some 34, .binOp .add 3 (.tmp 33) (.const (.int .i64 1)) 3, 3⟩ none
      (.step .text ⟨some 35, .binOp .leq 3 (.tmp 28) (.tmp 34) 3, 4⟩ none
      .nil)))))))))
    (.cond (.tmp 35)
    .skip
    (.exit 0)))
    (.seq (.block 1 (.seq (.region (.step .text ⟨some 38, .call { callee := (.value (.func 74)), args := #[(.tmp 9)], argTypes := #[119] }, 113⟩ none
      (.step .text ⟨some 39, .move (.tmp 10), 83⟩ none
      (.step .text ⟨some 40, .binOp .sub 83 (.tmp 39) (.const (.int .u64 1)) 83, 83⟩ none
      (.step .text ⟨some 41, .binOp .and 83 (.tmp 38) (.tmp 40) 83, 83⟩ none
      (.step .text ⟨some 42, .convert 83 3 (.tmp 41), 3⟩ none
      (.step .text ⟨some 12, .assign (.tmp 42), 3⟩ none
      .nil)))))))
    (.seq (.seq (.region (.step .text ⟨some 43, .move (.tmp 12), 3⟩ none
      (.step .text ⟨some 44, .move (.tmp 8), 3⟩ none
      (.step .text ⟨some 45, .binOp .geq 3 (.tmp 43) (.tmp 44) 3, 4⟩ none
      .nil))))
    (.cond (.tmp 45)
    (.region (.step .text ⟨some 46, .move (.tmp 12), 3⟩ none
      (.step .text ⟨some 47, .move (.tmp 8), 3⟩ none
      (.step .text ⟨some 48, .binOp .sub 3 (.tmp 46) (.tmp 47) 3, 3⟩ none
      (.step .text ⟨some 12, .assign (.tmp 48), 3⟩ none
      .nil)))))
    .skip))
    (.drawn (.step .pure ⟨some 49, .move (.tmp 0), 39⟩ none
      (.step .pure ⟨some 50, .move (.tmp 11), 3⟩ none
      (.step .pure ⟨some 51, .move (.tmp 0), 39⟩ none
      (.step .pure ⟨some 52, .move (.tmp 1), 3⟩ none
      (.step .pure ⟨some 53, .move (.tmp 12), 3⟩ none
      (.step .pure ⟨some 54, .binOp .add 3 (.tmp 52) (.tmp 53) 3, 3⟩ none
      (.step .pure ⟨some 55, .move (.tmp 0), 39⟩ none
      (.step .pure ⟨some 56, .move (.tmp 1), 3⟩ none
      (.step .pure ⟨some 57, .move (.tmp 12), 3⟩ none
      (.step .pure ⟨some 58, .binOp .add 3 (.tmp 56) (.tmp 57) 3, 3⟩ none
      (.step .pure ⟨some 59, .indexAddr 39 (.tmp 55) (.tmp 58), 0⟩ none
      (.step .pure ⟨some 61, .move (.tmp 0), 39⟩ none
      (.step .pure ⟨some 62, .move (.tmp 11), 3⟩ none
      (.step .pure ⟨some 63, .indexAddr 39 (.tmp 61) (.tmp 62), 0⟩ none
      (.step .load ⟨some 60, .load 27 (.tmp 59), 27⟩ none
      (.step .load ⟨some 64, .load 27 (.tmp 63), 27⟩ none
      (.step .pure ⟨some 65, .indexAddr 39 (.tmp 49) (.tmp 50), 0⟩ none
      (.step .last ⟨none, .store 27 (.tmp 65) (.tmp 60), 0⟩ none
      (.step .pure ⟨some 66, .indexAddr 39 (.tmp 51) (.tmp 54), 0⟩ none
      (.step .last ⟨none, .store 27 (.tmp 66) (.tmp 64), 0⟩ none
      .nil))))))))))))))))))))))))
    (.region (.step .text ⟨some 36, .move (.tmp 11), 3⟩ none
      (.step .text ⟨some 37, .binOp .add 3 (.tmp 36) (.const (.int .i64 1)) 3, 3⟩ none
      (.step .text ⟨some 11, .assign (.tmp 37), 3⟩ none
      .nil))))))
theorem Try.hx60bbabbbal : compile Try.p60 (part1 Try.c60bbabbba 0) = Try.x60bbabbbal := by kernel_rfl
theorem Try.ok60bbabbbal : plansOk Try.p60 (part1 Try.c60bbabbba 0) = true := by kernel_rfl
theorem Try.lp60bbabbba : Try.c60bbabbba = .loop (part1 Try.c60bbabbba 0) := by kernel_rfl
theorem Try.fb60 : Try.f60.body = some (Try.f60.body.getD .skip) := by kernel_rfl
theorem Try.en60 : Enters Try.prog 60 := ⟨Try.f60, Try.func60, by kernel_rfl, by kernel_rfl⟩
/-- slices.choosePivotCmpFunc[caucus/api.Item] -/
def Try.p61 : Nat → Option Plan := fun i => match i with
  | _ => none
noncomputable def Try.x61 : XCode := (.seq (.region (.step .text ⟨some 8, .assign (.const (.int .i64 0)), 3⟩ none
      (.step .text ⟨some 9, .assign (.const (.int .i64 0)), 103⟩ none
      .nil)))
    (.seq (.region (.step .text ⟨some 15, .move (.tmp 2), 3⟩ none
      (.step .text ⟨some 16, .move (.tmp 1), 3⟩ none
      (.step .text ⟨some 17, .binOp .sub 3 (.tmp 15) (.tmp 16) 3, 3⟩ none
      (.step .text ⟨some 10, .assign (.tmp 17), 3⟩ none
      .nil)))))
    (.seq (.region (.step .text ⟨some 11, .alloc 3, 0⟩ none
      .nil))
    (.seq (.region (.step .text ⟨some 18, .move (.tmp 1), 3⟩ none
      (.step .text ⟨some 19, .move (.tmp 10), 3⟩ none
      (.step .text ⟨some 20, .binOp .quo 3 (.tmp 19) (.const (.int .i64 4)) 3, 3⟩ none
      (.step .text ⟨some 21, .binOp .mul 3 (.tmp 20) (.const (.int .i64 1)) 3, 3⟩ none
      (.step .text ⟨some 22, .binOp .add 3 (.tmp 18) (.tmp 21) 3, 3⟩ none
      (.step .text ⟨some 12, .assign (.tmp 22), 3⟩ none
      .nil)))))))
    (.seq (.region (.step .text ⟨some 23, .move (.tmp 1), 3⟩ none
      (.step .text ⟨some 24, .move (.tmp 10), 3⟩ none
      (.step .text ⟨some 25, .binOp .quo 3 (.tmp 24) (.const (.int .i64 4)) 3, 3⟩ none
      (.step .text ⟨some 26, .binOp .mul 3 (.tmp 25) (.const (.int .i64 2)) 3, 3⟩ none
      (.step .text ⟨some 27, .binOp .add 3 (.tmp 23) (.tmp 26) 3, 3⟩ none
      (.step .text ⟨some 13, .assign (.tmp 27), 3⟩ none
      .nil)))))))
    (.seq (.region (.step .text ⟨some 28, .move (.tmp 1), 3⟩ none
      (.step .text ⟨some 29, .move (.tmp 10), 3⟩ none
      (.step .text ⟨some 30, .binOp .quo 3 (.tmp 29) (.const (.int .i64 4)) 3, 3⟩ none
      (.step .text ⟨some 31, .binOp .mul 3 (.tmp 30) (.const (.int .i64 3)) 3, 3⟩ none
      (.step .text ⟨some 32, .binOp .add 3 (.tmp 28) (.tmp 31) 3, 3⟩ none
      (.step .text ⟨some 14, .assign (.tmp 32), 3⟩ none
      .nil)))))))
    (.seq (.seq (.region (.step .text ⟨some 33, .move (.tmp 10), 3⟩ none
      (.step .text ⟨some 34, .binOp .geq 3 (.tmp 33) (.const (.int .i64 8)) 3, 4⟩ none
      .nil)))
    (.cond (.tmp 34)
    (.seq (.seq (.region (.step .text ⟨some 35, .move (.tmp 10), 3⟩ none
      (.step .text ⟨some 36, .binOp .geq 3 (.tmp 35) (.const (.int .i64 50)) 3, 4⟩ none
      .nil)))
    (.cond (.tmp 36)
    (.seq (.region (.step .text ⟨some 37, .move (.tmp 0), 39⟩ none
      (.step .text ⟨some 38, .move (.tmp 12), 3⟩ none
      (.step .text ⟨some 39, .move (.tmp 3), 64⟩ none
      (.step .text ⟨some 40, .call { callee := (.value (.func 75)), args := #[(.tmp 37), (.tmp 38), (.tmp 11), (.tmp 39)], argTypes := #[39, 3, 123, 64] }, 3⟩ none
      (.step .text ⟨some 12, .assign (.tmp 40), 3⟩ none
      .nil))))))
    (.seq (.region (.step .text ⟨some 41, .move (.tmp 0), 39⟩ none
      (.step .text ⟨some 42, .move (.tmp 13), 3⟩ none
      (.step .text ⟨some 43, .move (.tmp 3), 64⟩ none
      (.step .text ⟨some 44, .call { callee := (.value (.func 75)), args := #[(.tmp 41), (.tmp 42), (.tmp 11), (.tmp 43)], argTypes := #[39, 3, 123, 64] }, 3⟩ none
      (.step .text ⟨some 13, .assign (.tmp 44), 3⟩ none
      .nil))))))
    (.region (.step .text ⟨some 45, .move (.tmp 0), 39⟩ none
      (.step .text ⟨some 46, .move (.tmp 14), 3⟩ none
      (.step .text ⟨some 47, .move (.tmp 3), 64⟩ none
      (.step .text ⟨some 48, .call { callee := (.value (.func 75)), args := #[(.tmp 45), (.tmp 46), (.tmp 11), (.tmp 47)], argTypes := #[39, 3, 123, 64] }, 3⟩ none
      (.step .text ⟨some 14, .assign (.tmp 48), 3⟩ none
      .nil))))))))
    .skip))
    (.region (.step .text ⟨some 49, .move (.tmp 0), 39⟩ none
      (.step .text ⟨some 50, .move (.tmp 12), 3⟩ none
      (.step .text ⟨some 51, .move (.tmp 13), 3⟩ none
      (.step .text ⟨some 52, .move (.tmp 14), 3⟩ none
      (.step .text ⟨some 53, .move (.tmp 3), 64⟩ none
      (.step .text ⟨some 54, .call { callee := (.value (.func 76)), args := #[(.tmp 49), (.tmp 50), (.tmp 51), (.tmp 52), (.tmp 11), (.tmp 53)], argTypes := #[39, 3, 3, 3, 123, 64] }, 3⟩ none
      (.step .text ⟨some 13, .assign (.tmp 54), 3⟩ none
      .nil)))))))))
    .skip))
    (.seq (.region (.step .text ⟨some 55, .load 3 (.tmp 11), 3⟩ none
      .nil))
    (.block 0 (.seq (.region (.step .text ⟨some 58, .binOp .eql 3 (.tmp 55) (.const (.int .i64 0)) 3, 4⟩ none
      (.step .text ⟨some 57, .assign (.tmp 58), 4⟩ none
      .nil)))
    (.cond (.tmp 57)
    (.seq (.region (.step .text ⟨some 59, .move (.tmp 13), 3⟩ none
      (.step .text ⟨some 8, .assign (.tmp 59), 3⟩ none
      (.step .text ⟨some 9, .assign (.const (.int .i64 1)), 103⟩ none
      .nil))))
    .ret)
    (.seq (.region (.step .text ⟨some 61, .binOp .eql 3 (.tmp 55) (.const (.int .i64 12)) 3, 4⟩ none
      (.step .text ⟨some 60, .assign (.tmp 61), 4⟩ none
      .nil)))
    (.cond (.tmp 60)
    (.seq (.region (.step .text ⟨some 62, .move (.tmp 13), 3⟩ none
      (.step .text ⟨some 8, .assign (.tmp 62), 3⟩ none
      (.step .text ⟨some 9, .assign (.const (.int .i64 2)), 103⟩ none
      .nil))))
    .ret)
    (.seq (.region (.step .text ⟨some 56, .move (.tmp 13), 3⟩ none
      (.step .text ⟨some 8, .assign (.tmp 56), 3⟩ none
      (.step .text ⟨some 9, .assign (.const (.int .i64 0)), 103⟩ none
      .nil))))
    .ret))))))))))))))
theorem Try.hx61 : compile Try.p61 (Try.f61.body.getD .skip) = Try.x61 := by kernel_rfl
theorem Try.ok61 : plansOk Try.p61 (Try.f61.body.getD .skip) = true := by kernel_rfl
theorem Try.fb61 : Try.f61.body = some (Try.f61.body.getD .skip) := by kernel_rfl
theorem Try.en61 : Enters Try.prog 61 := ⟨Try.f61, Try.func61, by kernel_rfl, by kernel_rfl⟩
/-- slices.reverseRangeCmpFunc[caucus/api.Item] -/
def Try.p62 : Nat → Option Plan := fun i => match i with
  | 3 => some ⟨[], [13, 15], (.pure 0 (.pure 1 (.pure 2 (.pure 3 (.pure 4 (.pure 5 (.pure 6 (.pure 8 (.pure 9 (.pure 10 (.load 7 [7, 12, 13, 14, 15] (.load 11 [11, 12, 13, 14, 15] (.pure 12 (.last 13 (.pure 14 (.last 15 .nil))))))))))))))))⟩
  | _ => none
noncomputable def Try.c62bba : Code := partAt (Try.f62.body.getD .skip) [1, 1, 0]
noncomputable def Try.x62 : XCode := (.seq (.region (.step .text ⟨some 10, .move (.tmp 1), 3⟩ none
      (.step .text ⟨some 8, .assign (.tmp 10), 3⟩ none
      .nil)))
    (.seq (.region (.step .text ⟨some 11, .move (.tmp 2), 3⟩ none
      (.step .text ⟨some 12, .binOp .sub 3 (.tmp 11) (.const (.int .i64 1)) 3, 3⟩ none
      (.step .text ⟨some 9, .assign (.tmp 12), 3⟩ none
      .nil))))
    (.block 0 (.code Try.c62bba))))
theorem Try.hx62 : compile Try.p62 (Try.f62.body.getD .skip) = Try.x62 := by kernel_rfl
theorem Try.ok62 : plansOk Try.p62 (Try.f62.body.getD .skip) = true := by kernel_rfl
noncomputable def Try.x62bbal : XCode := (.seq (.seq (.region (.step .text ⟨some 13, .move (.tmp 8), 3⟩ none
      (.step .text ⟨some 14, .move (.tmp 9), 3⟩ none
      (.step .text ⟨some 15, .binOp .lss 3 (.tmp 13) (.tmp 14) 3, 4⟩ none
      .nil))))
    (.cond (.tmp 15)
    .skip
    (.exit 0)))
    (.block 1 (.seq (.drawn (.step .pure ⟨some 16, .move (.tmp 0), 39⟩ none
      (.step .pure ⟨some 17, .move (.tmp 8), 3⟩ none
      (.step .pure ⟨some 18, .move (.tmp 0), 39⟩ none
      (.step .pure ⟨some 19, .move (.tmp 9), 3⟩ none
      (.step .pure ⟨some 20, .move (.tmp 0), 39⟩ none
      (.step .pure ⟨some 21, .move (.tmp 9), 3⟩ none
      (.step .pure ⟨some 22, .indexAddr 39 (.tmp 20) (.tmp 21), 0⟩ none
      (.step .pure ⟨some 24, .move (.tmp 0), 39⟩ none
      (.step .pure ⟨some 25, .move (.tmp 8), 3⟩ none
      (.step .pure ⟨some 26, .indexAddr 39 (.tmp 24) (.tmp 25), 0⟩ none
      (.step .load ⟨some 23, .load 27 (.tmp 22), 27⟩ none
      (.step .load ⟨some 27, .load 27 (.tmp 26), 27⟩ none
      (.step .pure ⟨some 28, .indexAddr 39 (.tmp 16) (.tmp 17), 0⟩ none
      (.step .last ⟨none, .store 27 (.tmp 28) (.tmp 23), 0⟩ none
      (.step .pure ⟨some 29, .indexAddr 39 (.tmp 18) (.tmp 19), 0⟩ none
      (.step .last ⟨none, .store 27 (.tmp 29) (.tmp 27), 0⟩ none
      .nil)))))))))))))))))
    (.seq (.region (.step .text ⟨some 30, .move (.tmp 8), 3⟩ none
      (.step .text ⟨some 31, .binOp .add 3 (.tmp 30) (.const (.int .i64 1)) 3, 3⟩ none
      (.step .text ⟨some 8, .assign (.tmp 31), 3⟩ none
      .nil))))
    (.region (.step .text ⟨some 32, .move (.tmp 9), 3⟩ none
      (.step .text ⟨some 33, .binOp .sub 3 (.tmp 32) (.const (.int .i64 1)) 3, 3⟩ none
      (.step .text ⟨some 9, .assign (.tmp 33), 3⟩ none
      .nil))))))))
theorem Try.hx62bbal : compile Try.p62 (part1 Try.c62bba 0) = Try.x62bbal := by kernel_rfl
theorem Try.ok62bbal : plansOk Try.p62 (part1 Try.c62bba 0) = true := by kernel_rfl
theorem Try.lp62bba : Try.c62bba = .loop (part1 Try.c62bba 0) := by kernel_rfl
theorem Try.fb62 : Try.f62.body = some (Try.f62.body.getD .skip) := by kernel_rfl
theorem Try.en62 : Enters Try.prog 62 := ⟨Try.f62, Try.func62, by kernel_rfl, by kernel_rfl⟩
/-- slices.partialInsertionSortCmpFunc[caucus/api.Item] -/
def Try.p63 : Nat → Option Plan := fun i => match i with
  | 5 => some ⟨[], [], (.pure 0 (.pure 1 (.pure 2 (.pure 3 (.pure 4 (.pure 5 (.pure 6 (.pure 7 (.pure 9 (.pure 10 (.pure 11 (.pure 12 (.load 8 [8] (.load 13 [13] (.eff 14 (.pure 15 (.pure 16 (.pure 17 .nil))))))))))))))))))⟩
  | 11 => some ⟨[], [15, 17], (.pure 0 (.pure 1 (.pure 2 (.pure 3 (.pure 4 (.pure 5 (.pure 6 (.pure 7 (.pure 8 (.pure 10 (.pure 11 (.pure 12 (.load 9 [9, 14, 15, 16, 17] (.load 13 [13, 14, 15, 16, 17] (.pure 14 (.last 15 (.pure 16 (.last 17 .nil))))))))))))))))))⟩
  | 16 => some ⟨[], [], (.pure 0 (.pure 1 (.pure 2 (.pure 3 (.pure 5 (.pure 6 (.pure 7 (.pure 8 (.load 4 [4] (.load 9 [9] (.eff 10 (.pure 11 (.pure 12 .nil)))))))))))))⟩
  | 17 => some ⟨[], [15, 17], (.pure 0 (.pure 1 (.pure 2 (.pure 3 (.pure 4 (.pure 5 (.pure 6 (.pure 7 (.pure 8 (.pure 10 (.pure 11 (.pure 12 (.load 9 [9, 14, 15, 16, 17] (.load 13 [13, 14, 15, 16, 17] (.pure 14 (.last 15 (.pure 16 (.last 17 .nil))))))))))))))))))⟩
  | 22 => some ⟨[], [], (.pure 0 (.pure 1 (.pure 2 (.pure 3 (.pure 5 (.pure 6 (.pure 7 (.pure 8 (.load 4 [4] (.load 9 [9] (.eff 10 (.pure 11 (.pure 12 .nil)))))))))))))⟩
  | 23 => some ⟨[], [15, 17], (.pure 0 (.pure 1 (.pure 2 (.pure 3 (.pure 4 (.pure 5 (.pure 6 (.pure 7 (.pure 8 (.pure 10 (.pure 11 (.pure 12 (.load 9 [9, 14, 15, 16, 17] (.load 13 [13, 14, 15, 16, 17] (.pure 14 (.last 15 (.pure 16 (.last 17 .nil))))))))))))))))))⟩
  | _ => none
noncomputable def Try.c63bbaba : Code := partAt (Try.f63.body.getD .skip) [1, 1, 0, 1, 0]
noncomputable def Try.c63bbabalbaaaa : Code := partAt (Try.f63.body.getD .skip) [1, 1, 0, 1, 0, 0, 1, 0, 0, 0, 0]
noncomputable def Try.c63bbabalbaabbbbababa : Code := partAt (Try.f63.body.getD .skip) [1, 1, 0, 1, 0, 0, 1, 0, 0, 1, 1, 1, 1, 0, 1, 0, 1, 0]
noncomputable def Try.c63bbabalbaabbbbbbaba : Code := partAt (Try.f63.body.getD .skip) [1, 1, 0, 1, 0, 0, 1, 0, 0, 1, 1, 1, 1, 1, 1, 0, 1, 0]
noncomputable def Try.x63 : XCode := (.seq (.region (.step .text ⟨some 8, .assign (.const (.bool false)), 4⟩ none
      .nil))
    (.seq (.region (.step .text ⟨some 13, .move (.tmp 1), 3⟩ none
      (.step .text ⟨some 14, .binOp .add 3 (.tmp 13) (.const (.int .i64 1)) 3, 3⟩ none
      (.step .text ⟨some 9, .assign (.tmp 14), 3⟩ none
      .nil))))
    (.seq (.seq (.region (.step .text ⟨some 10, .assign (.const (.int .i64 0)), 3⟩ none
      .nil))
    (.block 0 (.code Try.c63bbaba)))
    (.seq (.region (.step .text ⟨some 8, .assign (.const (.bool false)), 4⟩ none
      .nil))
    .ret))))
theorem Try.hx63 : compile Try.p63 (Try.f63.body.getD .skip) = Try.x63 := by kernel_rfl
theorem Try.ok63 : plansOk Try.p63 (Try.f63.body.getD .skip) = true := by kernel_rfl
noncomputable def Try.x63bbabal : XCode := (.seq (.seq (.region (.step .text ⟨some 15, .move (.tmp 10), 3⟩ none
      (.step .text ⟨some 16, .binOp .lss 3 (.tmp 15) (.const (.int .i64 5)) 3, 4⟩ none
      .nil)))
    (.cond (.tmp 16)
    .skip
    (.exit 0)))
    (.seq (.block 1 (.seq (.block 2 (.code Try.c63bbabalbaaaa))
    (.seq (.seq (.region (.step .text ⟨some 39, .move (.tmp 9), 3⟩ none
      (.step .text ⟨some 40, .move (.tmp 2), 3⟩ none
      (.step .text ⟨some 41, .binOp .eql 3 (.tmp 39) (.tmp 40) 3, 4⟩ none
      .nil))))
    (.cond (.tmp 41)
    (.seq (.region (.step .text ⟨some 8, .assign (.const (.bool true)), 4⟩ none
      .nil))
    .ret)
    .skip))
    (.seq (.seq (.region (.step .text ⟨some 42, .move (.tmp 2), 3⟩ none
      (.step .text ⟨some 43, .move (.tmp 1), 3⟩ none
      (.step .text ⟨some 44, .binOp .sub 3 (.tmp 42) (.tmp 43) 3, 3⟩ none
      (.step .text ⟨some 45, .binOp .lss 3 (.tmp 44) (.const (.int .i64 50)) 3, 4⟩ none
      .nil)))))
    (.cond (.tmp 45)
    (.seq (.region (.step .text ⟨some 8, .assign (.const (.bool false)), 4⟩ none
      .nil))
    .ret)
    .skip))
    (.seq (.drawn (.step .pure ⟨some 46, .move (.tmp 0), 39⟩ none
      (.step .pure ⟨some 47, .move (.tmp 9), 3⟩ none
      (.step .pure ⟨some 48, .move (.tmp 0), 39⟩ none
      (.step .pure ⟨some 49, .move (.tmp 9), 3⟩ none
      (.step .pure ⟨some 50, .binOp .sub 3 (.tmp 49) (.const (.int .i64 1)) 3, 3⟩ none
      (.step .pure ⟨some 51, .move (.tmp 0), 39⟩ none
      (.step .pure ⟨some 52, .move (.tmp 9), 3⟩ none
      (.step .pure ⟨some 53, .binOp .sub 3 (.tmp 52) (.const (.int .i64 1)) 3, 3⟩ none
      (.step .pure ⟨some 54, .indexAddr 39 (.tmp 51) (.tmp 53), 0⟩ none
      (.step .pure ⟨some 56, .move (.tmp 0), 39⟩ none
      (.step .pure ⟨some 57, .move (.tmp 9), 3⟩ none
      (.step .pure ⟨some 58, .indexAddr 39 (.tmp 56) (.tmp 57), 0⟩ none
      (.step .load ⟨some 55, .load 27 (.tmp 54), 27⟩ none
      (.step .load ⟨some 59, .load 27 (.tmp 58), 27⟩ none
      (.step .pure ⟨some 60, .indexAddr 39 (.tmp 46) (.tmp 47), 0⟩ none
      (.step .last ⟨none, .store 27 (.tmp 60) (.tmp 55), 0⟩ none
      (.step .pure ⟨some 61, .indexAddr 39 (.tmp 48) (.tmp 50), 0⟩ none
      (.step .last ⟨none, .store 27 (.tmp 61) (.tmp 59), 0⟩ none
      .nil)))))))))))))))))))
    (.seq (.seq (.region (.step .text ⟨some 62, .move (.tmp 9), 3⟩ none
      (.step .text ⟨some 63, .move (.tmp 1), 3⟩ none
      (.step .text ⟨some 64, .binOp .sub 3 (.tmp 62) (.tmp 63) 3, 3⟩ none
      (.step .text ⟨some 65, .binOp .geq 3 (.tmp 64) (.const (.int .i64 2)) 3, 4⟩ none
      .nil)))))
    (.cond (.tmp 65)
    (.seq (.region (.step .text ⟨some 66, .move (.tmp 9), 3⟩ none
      (.step .text ⟨some 67, .binOp .sub 3 (.tmp 66) (.const (.int .i64 1)) 3, 3⟩ none
      (.step .text ⟨some 11, .assign (.tmp 67), 3⟩ none
      .nil))))
    (.block 4 (.code Try.c63bbabalbaabbbbababa)))
    .skip))
    (.seq (.region (.step .text ⟨some 101, .move (.tmp 2), 3⟩ none
      (.step .text ⟨some 102, .move (.tmp 9), 3⟩ none
      (.step .text ⟨some 103, .binOp .sub 3 (.tmp 101) (.tmp 102) 3, 3⟩ none
      (.step .text ⟨some 104, .binOp .geq 3 (.tmp 103) (.const (.int .i64 2)) 3, 4⟩ none
      .nil)))))
    (.cond (.tmp 104)
    (.seq (.region (.step .text ⟨some 105, .move (.tmp 9), 3⟩ none
      (.step .text ⟨some 106, .binOp .add 3 (.tmp 105) (.const (.int .i64 1)) 3, 3⟩ none
      (.step .text ⟨some 12, .assign (.tmp 106), 3⟩ none
      .nil))))
    (.block 6 (.code Try.c63bbabalbaabbbbbbaba)))
    .skip))))))))
    (.region (.step .text ⟨some 17, .move (.tmp 10), 3⟩ none
      (.step .text ⟨some 18, .binOp .add 3 (.tmp 17) (.const (.int .i64 1)) 3, 3⟩ none
      (.step .text ⟨some 10, .assign (.tmp 18), 3⟩ none
      .nil))))))
theorem Try.hx63bbabal : compile Try.p63 (part1 Try.c63bbaba 0) = Try.x63bbabal := by kernel_rfl
theorem Try.ok63bbabal : plansOk Try.p63 (part1 Try.c63bbaba 0) = true := by kernel_rfl
theorem Try.lp63bbaba : Try.c63bbaba = .loop (part1 Try.c63bbaba 0) := by kernel_rfl
noncomputable def Try.x63bbabalbaaaal : XCode := (.seq (.seq (.drawn (.step .pure ⟨some 19, .move (.tmp 9), 3⟩ none
      (.step .pure ⟨some 20, .move (.tmp 2), 3⟩ none
      (.step .pure ⟨some 21, .binOp .lss 3 (.tmp 19) (.tmp 20) 3, 4⟩ none
      (.step .pure ⟨some 22, .move (.tmp 21), 4⟩ none
      (.step .pure ⟨some 23, .move (.tmp 3), 64⟩ (some (some 22, true))
      (.step .pure ⟨some 24, .move (.tmp 0), 39⟩ (some (some 22, true))
      (.step .pure ⟨some 25, .move (.tmp 9), 3⟩ (some (some 22, true))
      (.step .pure ⟨some 26, .indexAddr 39 (.tmp 24) (.tmp 25), 0⟩ (some (some 22, true))
      (.step .pure ⟨some 28, .move (.tmp 0), 39⟩ (some (some 22, true))
      (.step .pure ⟨some 29, .move (.tmp 9), 3⟩ (some (some 22, true))
      (.step .pure ⟨some 30, .binOp .sub 3 (.tmp 29) (.const (.int .i64 1)) 3, 3⟩ (some (some 22, true))
      (.step .pure ⟨some 31, .indexAddr 39 (.tmp 28) (.tmp 30), 0⟩ (some (some 22, true))
      (.step .load ⟨some 27, .load 27 (.tmp 26), 27⟩ (some (some 22, true))
      (.step .load ⟨some 32, .load 27 (.tmp 31), 27⟩ (some (some 22, true))
      (.step .eff ⟨some 33, .call { callee := (.value (.tmp 23)), args := #[(.tmp 27), (.tmp 32)], argTypes := #[27, 27] }, 3⟩ (some (some 22, true))
      (.step .pure ⟨some 34, .binOp .lss 3 (.tmp 33) (.const (.int .i64 0)) 3, 4⟩ (some (some 22, true))
      (.step .pure ⟨some 35, .unOp .not 4 (.tmp 34), 4⟩ (some (some 22, true))
      (.step .pure ⟨some 36, .pick (.tmp 22) (.tmp 35) (.const (.bool false)), 4⟩ none
      .nil)))))))))))))))))))
    (.cond (.tmp 36)
    .skip
    (.exit 2)))
    (.block 3 (.region (.step .text ⟨some 37, .move (.tmp 9), 3⟩ none
      (.step .text ⟨some 38, .binOp .add 3 (.tmp 37) (.const (.int .i64 1)) 3, 3⟩ none
      (.step .text ⟨some 9, .assign (.tmp 38), 3⟩ none
      .nil))))))
theorem Try.hx63bbabalbaaaal : compile Try.p63 (part1 Try.c63bbabalbaaaa 0) = Try.x63bbabalbaaaal := by kernel_rfl
theorem Try.ok63bbabalbaaaal : plansOk Try.p63 (part1 Try.c63bbabalbaaaa 0) = true := by kernel_rfl
theorem Try.lp63bbabalbaaaa : Try.c63bbabalbaaaa = .loop (part1 Try.c63bbabalbaaaa 0) := by kernel_rfl
noncomputable def Try.x63bbabalbaabbbbababal : XCode := (.seq (.seq (.region (.step .text ⟨some 68, .move (.tmp 11), 3⟩ none
      (.step .text ⟨some 69, .binOp .geq 3 (.tmp 68) (.const (.int .i64 1)) 3, 4⟩ none
      .nil)))
    (.cond (.tmp 69)
    .skip
    (.exit 4)))
    (.seq (.block 5 (.seq (.seq (.drawn (.step .pure ⟨some 72, .move (.tmp 3), 64⟩ none
      (.step .pure ⟨some 73, .move (.tmp 0), 39⟩ none
      (.step .pure ⟨some 74, .move (.tmp 11), 3⟩ none
      (.step .pure ⟨some 75, .indexAddr 39 (.tmp 73) (.tmp 74), 0⟩ none
      (.step .pure ⟨some 77, .move (.tmp 0), 39⟩ none
      (.step .pure ⟨some 78, .move (.tmp 11), 3⟩ none
      (.step .pure ⟨some 79, .binOp .sub 3 (.tmp 78) (.const (.int .i64 1)) 3, 3⟩ none
      (.step .pure ⟨some 80, .indexAddr 39 (.tmp 77) (.tmp 79), 0⟩ none
      (.step .load ⟨some 76, .load 27 (.tmp 75), 27⟩ none
      (.step .load ⟨some 81, .load 27 (.tmp 80), 27⟩ none
      (.step .eff ⟨some 82, .call { callee := (.value (.tmp 72)), args := #[(.tmp 76), (.tmp 81)], argTypes := #[27, 27] }, 3⟩ none
      (.step .pure ⟨some 83, .binOp .lss 3 (.tmp 82) (.const (.int .i64 0)) 3, 4⟩ none
      (.step .pure ⟨some 84, .unOp .not 4 (.tmp 83), 4⟩ none
      .nil))))))))))))))
    (.cond (.tmp 84)
    (.exit 4)
    .skip))
    (.drawn (.step .pure ⟨some 85, .move (.tmp 0), 39⟩ none
      (.step .pure ⟨some 86, .move (.tmp 11), 3⟩ none
      (.step .pure ⟨some 87, .move (.tmp 0), 39⟩ none
      (.step .pure ⟨some 88, .move (.tmp 11), 3⟩ none
      (.step .pure ⟨some 89, .binOp .sub 3 (.tmp 88) (.const (.int .i64 1)) 3, 3⟩ none
      (.step .pure ⟨some 90, .move (.tmp 0), 39⟩ none
      (.step .pure ⟨some 91, .move (.tmp 11), 3⟩ none
      (.step .pure ⟨some 92, .binOp .sub 3 (.tmp 91) (.const (.int .i64 1)) 3, 3⟩ none
      (.step .pure ⟨some 93, .indexAddr 39 (.tmp 90) (.tmp 92), 0⟩ none
      (.step .pure ⟨some 95, .move (.tmp 0), 39⟩ none
      (.step .pure ⟨some 96, .move (.tmp 11), 3⟩ none
      (.step .pure ⟨some 97, .indexAddr 39 (.tmp 95) (.tmp 96), 0⟩ none
      (.step .load ⟨some 94, .load 27 (.tmp 93), 27⟩ none
      (.step .load ⟨some 98, .load 27 (.tmp 97), 27⟩ none
      (.step .pure ⟨some 99, .indexAddr 39 (.tmp 85) (.tmp 86), 0⟩ none
      (.step .last ⟨none, .store 27 (.tmp 99) (.tmp 94), 0⟩ none
      (.step .pure ⟨some 100, .indexAddr 39 (.tmp 87) (.tmp 89), 0⟩ none
      (.step .last ⟨none, .store 27 (.tmp 100) (.tmp 98), 0⟩ none
      .nil)))))))))))))))))))))
    (.region (.step .text ⟨some 70, .move (.tmp 11), 3⟩ none
      (.step .text ⟨some 71, .binOp .sub 3 (.tmp 70) (.const (.int .i64 1)) 3, 3⟩ none
      (.step .text ⟨some 11, .assign (.tmp 71), 3⟩ none
      .nil))))))
theorem Try.hx63bbabalbaabbbbababal : compile Try.p63 (part1 Try.c63bbabalbaabbbbababa 0) = Try.x63bbabalbaabbbbababal := by kernel_rfl
theorem Try.ok63bbabalbaabbbbababal : plansOk Try.p63 (part1 Try.c63bbabalbaabbbbababa 0) = true := by kernel_rfl
theorem Try.lp63bbabalbaabbbbababa : Try.c63bbabalbaabbbbababa = .loop (part1 Try.c63bbabalbaabbbbababa 0) := by kernel_rfl
noncomputable def Try.x63bbabalbaabbbbbbabal : XCode := (.seq (.seq (.region (.step .text ⟨some 107, .move (.tmp 12), 3⟩ none
      (.step .text ⟨some 108, .move (.tmp 2), 3⟩ none
      (.step .text ⟨some 109, .binOp .lss 3 (.tmp 107) (.tmp 108) 3, 4⟩ none
      .nil))))
    (.cond (.tmp 109)
    .skip
    (.exit 6)))
    (.seq (.block 7 (.seq (.seq (.drawn (.step .pure ⟨some 112, .move (.tmp 3), 64⟩ none
      (.step .pure ⟨some 113, .move (.tmp 0), 39⟩ none
      (.step .pure ⟨some 114, .move (.tmp 12), 3⟩ none
      (.step .pure ⟨some 115, .indexAddr 39 (.tmp 113) (.tmp 114), 0⟩ none
      (.step .pure ⟨some 117, .move (.tmp 0), 39⟩ none
      (.step .pure ⟨some 118, .move (.tmp 12), 3⟩ none
      (.step .pure ⟨some 119, .binOp .sub 3 (.tmp 118) (.const (.int .i64 1)) 3, 3⟩ none
      (.step .pure ⟨some 120, .indexAddr 39 (.tmp 117) (.tmp 119), 0⟩ none
      (.step .load ⟨some 116, .load 27 (.tmp 115), 27⟩ none
      (.step .load ⟨some 121, .load 27 (.tmp 120), 27⟩ none
      (.step .eff ⟨some 122, .call { callee := (.value (.tmp 112)), args := #[(.tmp 116), (.tmp 121)], argTypes := #[27, 27] }, 3⟩ none
      (.step .pure ⟨some 123, .binOp .lss 3 (.tmp 122) (.const (.int .i64 0)) 3, 4⟩ none
      (.step .pure ⟨some 124, .unOp .not 4 (.tmp 123), 4⟩ none
      .nil))))))))))))))
    (.cond (.tmp 124)
    (.exit 6)
    .skip))
    (.drawn (.step .pure ⟨some 125, .move (.tmp 0), 39⟩ none
      (.step .pure ⟨some 126, .move (.tmp 12), 3⟩ none
      (.step .pure ⟨some 127, .move (.tmp 0), 39⟩ none
      (.step .pure ⟨some 128, .move (.tmp 12), 3⟩ none
      (.step .pure ⟨some 129, .binOp .sub 3 (.tmp 128) (.const (.int .i64 1)) 3, 3⟩ none
      (.step .pure ⟨some 130, .move (.tmp 0), 39⟩ none
      (.step .pure ⟨some 131, .move (.tmp 12), 3⟩ none
      (.step .pure ⟨some 132, .binOp .sub 3 (.tmp 131) (.const (.int .i64 1)) 3, 3⟩ none
      (.step .pure ⟨some 133, .indexAddr 39 (.tmp 130) (.tmp 132), 0⟩ none
      (.step .pure ⟨some 135, .move (.tmp 0), 39⟩ none
      (.step .pure ⟨some 136, .move (.tmp 12), 3⟩ none
      (.step .pure ⟨some 137, .indexAddr 39 (.tmp 135) (.tmp 136), 0⟩ none
      (.step .load ⟨some 134, .load 27 (.tmp 133), 27⟩ none
      (.step .load ⟨some 138, .load 27 (.tmp 137), 27⟩ none
      (.step .pure ⟨some 139, .indexAddr 39 (.tmp 125) (.tmp 126), 0⟩ none
      (.step .last ⟨none, .store 27 (.tmp 139) (.tmp 134), 0⟩ none
      (.step .pure ⟨some 140, .indexAddr 39 (.tmp 127) (.tmp 129), 0⟩ none
      (.step .last ⟨none, .store 27 (.tmp 140) (.tmp 138), 0⟩ none
      .nil)))))))))))))))))))))
    (.region (.step .text ⟨some 110, .move (.tmp 12), 3⟩ none
      (.step .text ⟨some 111, .binOp .add 3 (.tmp 110) (.const (.int .i64 1)) 3, 3⟩ none
      (.step .text ⟨some 12, .assign (.tmp 111), 3⟩ none
      .nil))))))
theorem Try.hx63bbabalbaabbbbbbabal : compile Try.p63 (part1 Try.c63bbabalbaabbbbbbaba 0) = Try.x63bbabalbaabbbbbbabal := by kernel_rfl
theorem Try.ok63bbabalbaabbbbbbabal : plansOk Try.p63 (part1 Try.c63bbabalbaabbbbbbaba 0) = true := by kernel_rfl
theorem Try.lp63bbabalbaabbbbbbaba : Try.c63bbabalbaabbbbbbaba = .loop (part1 Try.c63bbabalbaabbbbbbaba 0) := by kernel_rfl
theorem Try.fb63 : Try.f63.body = some (Try.f63.body.getD .skip) := by kernel_rfl
theorem Try.en63 : Enters Try.prog 63 := ⟨Try.f63, Try.func63, by kernel_rfl, by kernel_rfl⟩
/-- slices.partitionEqualCmpFunc[caucus/api.Item] -/
def Try.p64 : Nat → Option Plan := fun i => match i with
  | 1 => some ⟨[], [13, 15], (.pure 0 (.pure 1 (.pure 2 (.pure 3 (.pure 4 (.pure 5 (.pure 6 (.pure 8 (.pure 9 (.pure 10 (.load 7 [7, 12, 13, 14, 15] (.load 11 [11, 12, 13, 14, 15] (.pure 12 (.last 13 (.pure 14 (.last 15 .nil))))))))))))))))⟩
  | 3 => some ⟨[], [], (.pure 0 (.pure 1 (.pure 2 (.pure 3 (.pure 4 (.pure 5 (.pure 6 (.pure 7 (.pure 9 (.pure 10 (.pure 11 (.load 8 [8] (.load 12 [12] (.eff 13 (.pure 14 (.pure 15 (.pure 16 .nil)))))))))))))))))⟩
  | 5 => some ⟨[], [], (.pure 0 (.pure 1 (.pure 2 (.pure 3 (.pure 4 (.pure 5 (.pure 6 (.pure 7 (.pure 9 (.pure 10 (.pure 11 (.load 8 [8] (.load 12 [12] (.eff 13 (.pure 14 (.pure 15 .nil))))))))))))))))⟩
  | 8 => some ⟨[], [13, 15], (.pure 0 (.pure 1 (.pure 2 (.pure 3 (.pure 4 (.pure 5 (.pure 6 (.pure 8 (.pure 9 (.pure 10 (.load 7 [7, 12, 13, 14, 15] (.load 11 [11, 12, 13, 14, 15] (.pure 12 (.last 13 (.pure 14 (.last 15 .nil))))))))))))))))⟩
  | _ => none
noncomputable def Try.c64bbbaa : Code := partAt (Try.f64.body.getD .skip) [1, 1, 1, 0, 0]
noncomputable def Try.c64bbbaalaaa : Code := partAt (Try.f64.body.getD .skip) [1, 1, 1, 0, 0, 0, 0, 0, 0]
noncomputable def Try.c64bbbaalabaa : Code := partAt (Try.f64.body.getD .skip) [1, 1, 1, 0, 0, 0, 0, 1, 0, 0]
noncomputable def Try.x64 : XCode := (.seq (.region (.step .text ⟨some 10, .assign (.const (.int .i64 0)), 3⟩ none
      .nil))
    (.seq (.drawn (.step .pure ⟨some 13, .move (.tmp 0), 39⟩ none
      (.step .pure ⟨some 14, .move (.tmp 1), 3⟩ none
      (.step .pure ⟨some 15, .move (.tmp 0), 39⟩ none
      (.step .pure ⟨some 16, .move (.tmp 3), 3⟩ none
      (.step .pure ⟨some 17, .move (.tmp 0), 39⟩ none
      (.step .pure ⟨some 18, .move (.tmp 3), 3⟩ none
      (.step .pure ⟨some 19, .indexAddr 39 (.tmp 17) (.tmp 18), 0⟩ none
      (.step .pure ⟨some 21, .move (.tmp 0), 39⟩ none
      (.step .pure ⟨some 22, .move (.tmp 1), 3⟩ none
      (.step .pure ⟨some 23, .indexAddr 39 (.tmp 21) (.tmp 22), 0⟩ none
      (.step .load ⟨some 20, .load 27 (.tmp 19), 27⟩ none
      (.step .load ⟨some 24, .load 27 (.tmp 23), 27⟩ none
      (.step .pure ⟨some 25, .indexAddr 39 (.tmp 13) (.tmp 14), 0⟩ none
      (.step .last ⟨none, .store 27 (.tmp 25) (.tmp 20), 0⟩ none
      (.step .pure ⟨some 26, .indexAddr 39 (.tmp 15) (.tmp 16), 0⟩ none
      (.step .last ⟨none, .store 27 (.tmp 26) (.tmp 24), 0⟩ none
      .nil)))))))))))))))))
    (.seq (.region (.step .text ⟨some 27, .move (.tmp 1), 3⟩ none
      (.step .text ⟨some 28, .binOp .add 3 (.tmp 27) (.const (.int .i64 1)) 3, 3⟩ none
      (.step .text ⟨some 29, .move (.tmp 2), 3⟩ none
      (.step .text ⟨some 30, .binOp .sub 3 (.tmp 29) (.const (.int .i64 1)) 3, 3⟩ none
      (.step .text ⟨some 11, .assign (.tmp 28), 3⟩ none
      (.step .text ⟨some 12, .assign (.tmp 30), 3⟩ none
      .nil)))))))
    (.seq (.block 0 (.code Try.c64bbbaa))
    (.seq (.region (.step .text ⟨some 89, .move (.tmp 11), 3⟩ none
      (.step .text ⟨some 10, .assign (.tmp 89), 3⟩ none
      .nil)))
    .ret)))))
theorem Try.hx64 : compile Try.p64 (Try.f64.body.getD .skip) = Try.x64 := by kernel_rfl
theorem Try.ok64 : plansOk Try.p64 (Try.f64.body.getD .skip) = true := by kernel_rfl
noncomputable def Try.x64bbbaal : XCode := (.block 1 (.seq (.block 2 (.code Try.c64bbbaalaaa))
    (.seq (.block 4 (.code Try.c64bbbaalabaa))
    (.seq (.seq (.region (.step .text ⟨some 68, .move (.tmp 11), 3⟩ none
      (.step .text ⟨some 69, .move (.tmp 12), 3⟩ none
      (.step .text ⟨some 70, .binOp .gtr 3 (.tmp 68) (.tmp 69) 3, 4⟩ none
      .nil))))
    (.cond (.tmp 70)
    (.exit 0)
    .skip))
    (.seq (.drawn (.step .pure ⟨some 71, .move (.tmp 0), 39⟩ none
      (.step .pure ⟨some 72, .move (.tmp 11), 3⟩ none
      (.step .pure ⟨some 73, .move (.tmp 0), 39⟩ none
      (.step .pure ⟨some 74, .move (.tmp 12), 3⟩ none
      (.step .pure ⟨some 75, .move (.tmp 0), 39⟩ none
      (.step .pure ⟨some 76, .move (.tmp 12), 3⟩ none
      (.step .pure ⟨some 77, .indexAddr 39 (.tmp 75) (.tmp 76), 0⟩ none
      (.step .pure ⟨some 79, .move (.tmp 0), 39⟩ none
      (.step .pure ⟨some 80, .move (.tmp 11), 3⟩ none
      (.step .pure ⟨some 81, .indexAddr 39 (.tmp 79) (.tmp 80), 0⟩ none
      (.step .load ⟨some 78, .load 27 (.tmp 77), 27⟩ none
      (.step .load ⟨some 82, .load 27 (.tmp 81), 27⟩ none
      (.step .pure ⟨some 83, .indexAddr 39 (.tmp 71) (.tmp 72), 0⟩ none
      (.step .last ⟨none, .store 27 (.tmp 83) (.tmp 78), 0⟩ none
      (.step .pure ⟨some 84, .indexAddr 39 (.tmp 73) (.tmp 74), 0⟩ none
      (.step .last ⟨none, .store 27 (.tmp 84) (.tmp 82), 0⟩ none
      .nil)))))))))))))))))
    (.seq (.region (.step .text ⟨some 85, .move (.tmp 11), 3⟩ none
      (.step .text ⟨some 86, .binOp .add 3 (.tmp 85) (.const (.int .i64 1)) 3, 3⟩ none
      (.step .text ⟨some 11, .assign (.tmp 86), 3⟩ none
      .nil))))
    (.region (.step .text ⟨some 87, .move (.tmp 12), 3⟩ none
      (.step .text ⟨some 88, .binOp .sub 3 (.tmp 87) (.const (.int .i64 1)) 3, 3⟩ none
      (.step .text ⟨some 12, .assign (.tmp 88), 3⟩ none
      .nil))))))))))
theorem Try.hx64bbbaal : compile Try.p64 (part1 Try.c64bbbaa 0) = Try.x64bbbaal := by kernel_rfl
theorem Try.ok64bbbaal : plansOk Try.p64 (part1 Try.c64bbbaa 0) = true := by kernel_rfl
theorem Try.lp64bbbaa : Try.c64bbbaa = .loop (part1 Try.c64bbbaa 0) := by kernel_rfl
noncomputable def Try.x64bbbaalaaal : XCode := (.seq (.seq (.drawn (.step .pure ⟨some 31, .move (.tmp 11), 3⟩ none
      (.step .pure ⟨some 32, .move (.tmp 12), 3⟩ none
      (.step .pure ⟨some 33, .binOp .leq 3 (.tmp 31) (.tmp 32) 3, 4⟩ none
      (.step .pure ⟨some 34, .move (.tmp 33), 4⟩ none
      (.step .pure ⟨some 35, .move (.tmp 4), 64⟩ (some (some 34, true))
      (.step .pure ⟨some 36, .move (.tmp 0), 39⟩ (some (some 34, true))
      (.step .pure ⟨some 37, .move (.tmp 1), 3⟩ (some (some 34, true))
      (.step .pure ⟨some 38, .indexAddr 39 (.tmp 36) (.tmp 37), 0⟩ (some (some 34, true))
      (.step .pure ⟨some 40, .move (.tmp 0), 39⟩ (some (some 34, true))
      (.step .pure ⟨some 41, .move (.tmp 11), 3⟩ (some (some 34, true))
      (.step .pure ⟨some 42, .indexAddr 39 (.tmp 40) (.tmp 41), 0⟩ (some (some 34, true))
      (.step .load ⟨some 39, .load 27 (.tmp 38), 27⟩ (some (some 34, true))
      (.step .load ⟨some 43, .load 27 (.tmp 42), 27⟩ (some (some 34, true))
      (.step .eff ⟨some 44, .call { callee := (.value (.tmp 35)), args := #[(.tmp 39), (.tmp 43)], argTypes := #[27, 27] }, 3⟩ (some (some 34, true))
      (.step .pure ⟨some 45, .binOp .lss 3 (.tmp 44) (.const (.int .i64 0)) 3, 4⟩ (some (some 34, true))
      (.step .pure ⟨some 46, .unOp .not 4 (.tmp 45), 4⟩ (some (some 34, true))
      (.step .pure ⟨some 47, .pick (.tmp 34) (.tmp 46) (.const (.bool false)), 4⟩ none
      .nil))))))))))))))))))
    (.cond (.tmp 47)
    .skip
    (.exit 2)))
    (.block 3 (.region (.step .text ⟨some 48, .move (.tmp 11), 3⟩ none
      (.step .text ⟨some 49, .binOp .add 3 (.tmp 48) (.const (.int .i64 1)) 3, 3⟩ none
      (.step .text ⟨some 11, .assign (.tmp 49), 3⟩ none
      .nil))))))
theorem Try.hx64bbbaalaaal : compile Try.p64 (part1 Try.c64bbbaalaaa 0) = Try.x64bbbaalaaal := by kernel_rfl
theorem Try.ok64bbbaalaaal : plansOk Try.p64 (part1 Try.c64bbbaalaaa 0) = true := by kernel_rfl
theorem Try.lp64bbbaalaaa : Try.c64bbbaalaaa = .loop (part1 Try.c64bbbaalaaa 0) := by kernel_rfl
noncomputable def Try.x64bbbaalabaal : XCode := (.seq (.seq (.drawn (.step .pure ⟨some 50, .move (.tmp 11), 3⟩ none
      (.step .pure ⟨some 51, .move (.tmp 12), 3⟩ none
      (.step .pure ⟨some 52, .binOp .leq 3 (.tmp 50) (.tmp 51) 3, 4⟩ none
      (.step .pure ⟨some 53, .move (.tmp 52), 4⟩ none
      (.step .pure ⟨some 54, .move (.tmp 4), 64⟩ (some (some 53, true))
      (.step .pure ⟨some 55, .move (.tmp 0), 39⟩ (some (some 53, true))
      (.step .pure ⟨some 56, .move (.tmp 1), 3⟩ (some (some 53, true))
      (.step .pure ⟨some 57, .indexAddr 39 (.tmp 55) (.tmp 56), 0⟩ (some (some 53, true))
      (.step .pure ⟨some 59, .move (.tmp 0), 39⟩ (some (some 53, true))
      (.step .pure ⟨some 60, .move (.tmp 12), 3⟩ (some (some 53, true))
      (.step .pure ⟨some 61, .indexAddr 39 (.tmp 59) (.tmp 60), 0⟩ (some (some 53, true))
      (.step .load ⟨some 58, .load 27 (.tmp 57), 27⟩ (some (some 53, true))
      (.step .load ⟨some 62, .load 27 (.tmp 61), 27⟩ (some (some 53, true))
      (.step .eff ⟨some 63, .call { callee := (.value (.tmp 54)), args := #[(.tmp 58), (.tmp 62)], argTypes := #[27, 27] }, 3⟩ (some (some 53, true))
      (.step .pure ⟨some 64, .binOp .lss 3 (.tmp 63) (.const (.int .i64 0)) 3, 4⟩ (some (some 53, true))
      (.step .pure ⟨some 65, .pick (.tmp 53) (.tmp 64) (.const (.bool false)), 4⟩ none
      .nil)))))))))))))))))
    (.cond (.tmp 65)
    .skip
    (.exit 4)))
    (.block 5 (.region (.step .text ⟨some 66, .move (.tmp 12), 3⟩ none
      (.step .text ⟨some 67, .binOp .sub 3 (.tmp 66) (.const (.int .i64 1)) 3, 3⟩ none
      (.step .text ⟨some 12, .assign (.tmp 67), 3⟩ none
      .nil))))))
theorem Try.hx64bbbaalabaal : compile Try.p64 (part1 Try.c64bbbaalabaa 0) = Try.x64bbbaalabaal := by kernel_rfl
theorem Try.ok64bbbaalabaal : plansOk Try.p64 (part1 Try.c64bbbaalabaa 0) = true := by kernel_rfl
theorem Try.lp64bbbaalabaa : Try.c64bbbaalabaa = .loop (part1 Try.c64bbbaalabaa 0) := by kernel_rfl
theorem Try.fb64 : Try.f64.body = some (Try.f64.body.getD .skip) := by kernel_rfl
theorem Try.en64 : Enters Try.prog 64 := ⟨Try.f64, Try.func64, by kernel_rfl, by kernel_rfl⟩
/-- slices.partitionCmpFunc[caucus/api.Item] -/
def Try.p65 : Nat → Option Plan := fun i => match i with
  | 1 => some ⟨[], [13, 15], (.pure 0 (.pure 1 (.pure 2 (.pure 3 (.pure 4 (.pure 5 (.pure 6 (.pure 8 (.pure 9 (.pure 10 (.load 7 [7, 12, 13, 14, 15] (.load 11 [11, 12, 13, 14, 15] (.pure 12 (.last 13 (.pure 14 (.last 15 .nil))))))))))))))))⟩
  | 3 => some ⟨[], [], (.pure 0 (.pure 1 (.pure 2 (.pure 3 (.pure 4 (.pure 5 (.pure 6 (.pure 7 (.pure 9 (.pure 10 (.pure 11 (.load 8 [8] (.load 12 [12] (.eff 13 (.pure 14 (.pure 15 .nil))))))))))))))))⟩
  | 5 => some ⟨[], [], (.pure 0 (.pure 1 (.pure 2 (.pure 3 (.pure 4 (.pure 5 (.pure 6 (.pure 7 (.pure 9 (.pure 10 (.pure 11 (.load 8 [8] (.load 12 [12] (.eff 13 (.pure 14 (.pure 15 (.pure 16 .nil)))))))))))))))))⟩
  | 8 => some ⟨[], [13, 15], (.pure 0 (.pure 1 (.pure 2 (.pure 3 (.pure 4 (.pure 5 (.pure 6 (.pure 8 (.pure 9 (.pure 10 (.load 7 [7, 12, 13, 14, 15] (.load 11 [11, 12, 13, 14, 15] (.pure 12 (.last 13 (.pure 14 (.last 15 .nil))))))))))))))))⟩
  | 10 => some ⟨[], [13, 15], (.pure 0 (.pure 1 (.pure 2 (.pure 3 (.pure 4 (.pure 5 (.pure 6 (.pure 8 (.pure 9 (.pure 10 (.load 7 [7, 12, 13, 14, 15] (.load 11 [11, 12, 13, 14, 15] (.pure 12 (.last 13 (.pure 14 (.last 15 .nil))))))))))))))))⟩
  | 13 => some ⟨[], [], (.pure 0 (.pure 1 (.pure 2 (.pure 3 (.pure 4 (.pure 5 (.pure 6 (.pure 7 (.pure 9 (.pure 10 (.pure 11 (.load 8 [8] (.load 12 [12] (.eff 13 (.pure 14 (.pure 15 .nil))))))))))))))))⟩
  | 15 => some ⟨[], [], (.pure 0 (.pure 1 (.pure 2 (.pure 3 (.pure 4 (.pure 5 (.pure 6 (.pure 7 (.pure 9 (.pure 10 (.pure 11 (.load 8 [8] (.load 12 [12] (.eff 13 (.pure 14 (.pure 15 (.pure 16 .nil)))))))))))))))))⟩
  | 18 => some ⟨[], [13, 15], (.pure 0 (.pure 1 (.pure 2 (.pure 3 (.pure 4 (.pure 5 (.pure 6 (.pure 8 (.pure 9 (.pure 10 (.load 7 [7, 12, 13, 14, 15] (.load 11 [11, 12, 13, 14, 15] (.pure 12 (.last 13 (.pure 14 (.last 15 .nil))))))))))))))))⟩
  | 21 => some ⟨[], [13, 15], (.pure 0 (.pure 1 (.pure 2 (.pure 3 (.pure 4 (.pure 5 (.pure 6 (.pure 8 (.pure 9 (.pure 10 (.load 7 [7, 12, 13, 14, 15] (.load 11 [11, 12, 13, 14, 15] (.pure 12 (.last 13 (.pure 14 (.last 15 .nil))))))))))))))))⟩
  | _ => none
noncomputable def Try.c65bbbaa : Code := partAt (Try.f65.body.getD .skip) [1, 1, 1, 0, 0]
noncomputable def Try.c65bbbbaa : Code := partAt (Try.f65.body.getD .skip) [1, 1, 1, 1, 0, 0]
noncomputable def Try.c65bbbbbbbbbaa : Code := partAt (Try.f65.body.getD .skip) [1, 1, 1, 1, 1, 1, 1, 1, 1, 0, 0]
noncomputable def Try.c65bbbbbbbbbaalaaa : Code := partAt (Try.f65.body.getD .skip) [1, 1, 1, 1, 1, 1, 1, 1, 1, 0, 0, 0, 0, 0, 0]
noncomputable def Try.c65bbbbbbbbbaalabaa : Code := partAt (Try.f65.body.getD .skip) [1, 1, 1, 1, 1, 1, 1, 1, 1, 0, 0, 0, 0, 1, 0, 0]
noncomputable def Try.x65 : XCode := (.seq (.region (.step .text ⟨some 10, .assign (.const (.int .i64 0)), 3⟩ none
      (.step .text ⟨some 11, .assign (.const (.bool false)), 4⟩ none
      .nil)))
    (.seq (.drawn (.step .pure ⟨some 14, .move (.tmp 0), 39⟩ none
      (.step .pure ⟨some 15, .move (.tmp 1), 3⟩ none
      (.step .pure ⟨some 16, .move (.tmp 0), 39⟩ none
      (.step .pure ⟨some 17, .move (.tmp 3), 3⟩ none
      (.step .pure ⟨some 18, .move (.tmp 0), 39⟩ none
      (.step .pure ⟨some 19, .move (.tmp 3), 3⟩ none
      (.step .pure ⟨some 20, .indexAddr 39 (.tmp 18) (.tmp 19), 0⟩ none
      (.step .pure ⟨some 22, .move (.tmp 0), 39⟩ none
      (.step .pure ⟨some 23, .move (.tmp 1), 3⟩ none
      (.step .pure ⟨some 24, .indexAddr 39 (.tmp 22) (.tmp 23), 0⟩ none
      (.step .load ⟨some 21, .load 27 (.tmp 20), 27⟩ none
      (.step .load ⟨some 25, .load 27 (.tmp 24), 27⟩ none
      (.step .pure ⟨some 26, .indexAddr 39 (.tmp 14) (.tmp 15), 0⟩ none
      (.step .last ⟨none, .store 27 (.tmp 26) (.tmp 21), 0⟩ none
      (.step .pure ⟨some 27, .indexAddr 39 (.tmp 16) (.tmp 17), 0⟩ none
      (.step .last ⟨none, .store 27 (.tmp 27) (.tmp 25), 0⟩ none
      .nil)))))))))))))))))
    (.seq (.region (.step .text ⟨some 28, .move (.tmp 1), 3⟩ none
      (.step .text ⟨some 29, .binOp .add 3 (.tmp 28) (.const (.int .i64 1)) 3, 3⟩ none
      (.step .text ⟨some 30, .move (.tmp 2), 3⟩ none
      (.step .text ⟨some 31, .binOp .sub 3 (.tmp 30) (.const (.int .i64 1)) 3, 3⟩ none
      (.step .text ⟨some 12, .assign (.tmp 29), 3⟩ none
      (.step .text ⟨some 13, .assign (.tmp 31), 3⟩ none
      .nil)))))))
    (.seq (.block 0 (.code Try.c65bbbaa))
    (.seq (.block 2 (.code Try.c65bbbbaa))
    (.seq (.seq (.region (.step .text ⟨some 69, .move (.tmp 12), 3⟩ none
      (.step .text ⟨some 70, .move (.tmp 13), 3⟩ none
      (.step .text ⟨some 71, .binOp .gtr 3 (.tmp 69) (.tmp 70) 3, 4⟩ none
      .nil))))
    (.cond (.tmp 71)
    (.seq (.drawn (.step .pure ⟨some 72, .move (.tmp 0), 39⟩ none
      (.step .pure ⟨some 73, .move (.tmp 13), 3⟩ none
      (.step .pure ⟨some 74, .move (.tmp 0), 39⟩ none
      (.step .pure ⟨some 75, .move (.tmp 1), 3⟩ none
      (.step .pure ⟨some 76, .move (.tmp 0), 39⟩ none
      (.step .pure ⟨some 77, .move (.tmp 1), 3⟩ none
      (.step .pure ⟨some 78, .indexAddr 39 (.tmp 76) (.tmp 77), 0⟩ none
      (.step .pure ⟨some 80, .move (.tmp 0), 39⟩ none
      (.step .pure ⟨some 81, .move (.tmp 13), 3⟩ none
      (.step .pure ⟨some 82, .indexAddr 39 (.tmp 80) (.tmp 81), 0⟩ none
      (.step .load ⟨some 79, .load 27 (.tmp 78), 27⟩ none
      (.step .load ⟨some 83, .load 27 (.tmp 82), 27⟩ none
      (.step .pure ⟨some 84, .indexAddr 39 (.tmp 72) (.tmp 73), 0⟩ none
      (.step .last ⟨none, .store 27 (.tmp 84) (.tmp 79), 0⟩ none
      (.step .pure ⟨some 85, .indexAddr 39 (.tmp 74) (.tmp 75), 0⟩ none
      (.step .last ⟨none, .store 27 (.tmp 85) (.tmp 83), 0⟩ none
      .nil)))))))))))))))))
    (.seq (.region (.step .text ⟨some 86, .move (.tmp 13), 3⟩ none
      (.step .text ⟨some 10, .assign (.tmp 86), 3⟩ none
      (.step .text ⟨some 11, .assign (.const (.bool true)), 4⟩ none
      .nil))))
    .ret))
    .skip))
    (.seq (.drawn (.step .pure ⟨some 87, .move (.tmp 0), 39⟩ none
      (.step .pure ⟨some 88, .move (.tmp 12), 3⟩ none
      (.step .pure ⟨some 89, .move (.tmp 0), 39⟩ none
      (.step .pure ⟨some 90, .move (.tmp 13), 3⟩ none
      (.step .pure ⟨some 91, .move (.tmp 0), 39⟩ none
      (.step .pure ⟨some 92, .move (.tmp 13), 3⟩ none
      (.step .pure ⟨some 93, .indexAddr 39 (.tmp 91) (.tmp 92), 0⟩ none
      (.step .pure ⟨some 95, .move (.tmp 0), 39⟩ none
      (.step .pure ⟨some 96, .move (.tmp 12), 3⟩ none
      (.step .pure ⟨some 97, .indexAddr 39 (.tmp 95) (.tmp 96), 0⟩ none
      (.step .load ⟨some 94, .load 27 (.tmp 93), 27⟩ none
      (.step .load ⟨some 98, .load 27 (.tmp 97), 27⟩ none
      (.step .pure ⟨some 99, .indexAddr 39 (.tmp 87) (.tmp 88), 0⟩ none
      (.step .last ⟨none, .store 27 (.tmp 99) (.tmp 94), 0⟩ none
      (.step .pure ⟨some 100, .indexAddr 39 (.tmp 89) (.tmp 90), 0⟩ none
      (.step .last ⟨none, .store 27 (.tmp 100) (.tmp 98), 0⟩ none
      .nil)))))))))))))))))
    (.seq (.region (.step .text ⟨some 101, .move (.tmp 12), 3⟩ none
      (.step .text ⟨some 102, .binOp .add 3 (.tmp 101) (.const (.int .i64 1)) 3, 3⟩ none
      (.step .text ⟨some 12, .assign (.tmp 102), 3⟩ none
      .nil))))
    (.seq (.region (.step .text ⟨some 103, .move (.tmp 13), 3⟩ none
      (.step .text ⟨some 104, .binOp .sub 3 (.tmp 103) (.const (.int .i64 1)) 3, 3⟩ none
      (.step .text ⟨some 13, .assign (.tmp 104), 3⟩ none
      .nil))))
    (.seq (.block 4 (.code Try.c65bbbbbbbbbaa))
    (.seq (.drawn (.step .pure ⟨some 163, .move (.tmp 0), 39⟩ none
      (.step .pure ⟨some 164, .move (.tmp 13), 3⟩ none
      (.step .pure ⟨some 165, .move (.tmp 0), 39⟩ none
      (.step .pure ⟨some 166, .move (.tmp 1), 3⟩ none
      (.step .pure ⟨some 167, .move (.tmp 0), 39⟩ none
      (.step .pure ⟨some 168, .move (.tmp 1), 3⟩ none
      (.step .pure ⟨some 169, .indexAddr 39 (.tmp 167) (.tmp 168), 0⟩ none
      (.step .pure ⟨some 171, .move (.tmp 0), 39⟩ none
      (.step .pure ⟨some 172, .move (.tmp 13), 3⟩ none
      (.step .pure ⟨some 173, .indexAddr 39 (.tmp 171) (.tmp 172), 0⟩ none
      (.step .load ⟨some 170, .load 27 (.tmp 169), 27⟩ none
      (.step .load ⟨some 174, .load 27 (.tmp 173), 27⟩ none
      (.step .pure ⟨some 175, .indexAddr 39 (.tmp 163) (.tmp 164), 0⟩ none
      (.step .last ⟨none, .store 27 (.tmp 175) (.tmp 170), 0⟩ none
      (.step .pure ⟨some 176, .indexAddr 39 (.tmp 165) (.tmp 166), 0⟩ none
      (.step .last ⟨none, .store 27 (.tmp 176) (.tmp 174), 0⟩ none
      .nil)))))))))))))))))
    (.seq (.region (.step .text ⟨some 177, .move (.tmp 13), 3⟩ none
      (.step .text ⟨some 10, .assign (.tmp 177), 3⟩ none
      (.step .text ⟨some 11, .assign (.const (.bool false)), 4⟩ none
      .nil))))
    .ret))))))))))))
theorem Try.hx65 : compile Try.p65 (Try.f65.body.getD .skip) = Try.x65 := by kernel_rfl
theorem Try.ok65 : plansOk Try.p65 (Try.f65.body.getD .skip) = true := by kernel_rfl
noncomputable def Try.x65bbbaal : XCode := (.seq (.seq (.drawn (.step .pure ⟨some 32, .move (.tmp 12), 3⟩ none
      (.step .pure ⟨some 33, .move (.tmp 13), 3⟩ none
      (.step .pure ⟨some 34, .binOp .leq 3 (.tmp 32) (.tmp 33) 3, 4⟩ none
      (.step .pure ⟨some 35, .move (.tmp 34), 4⟩ none
      (.step .pure ⟨some 36, .move (.tmp 4), 64⟩ (some (some 35, true))
      (.step .pure ⟨some 37, .move (.tmp 0), 39⟩ (some (some 35, true))
      (.step .pure ⟨some 38, .move (.tmp 12), 3⟩ (some (some 35, true))
      (.step .pure ⟨some 39, .indexAddr 39 (.tmp 37) (.tmp 38), 0⟩ (some (some 35, true))
      (.step .pure ⟨some 41, .move (.tmp 0), 39⟩ (some (some 35, true))
      (.step .pure ⟨some 42, .move (.tmp 1), 3⟩ (some (some 35, true))
      (.step .pure ⟨some 43, .indexAddr 39 (.tmp 41) (.tmp 42), 0⟩ (some (some 35, true))
      (.step .load ⟨some 40, .load 27 (.tmp 39), 27⟩ (some (some 35, true))
      (.step .load ⟨some 44, .load 27 (.tmp 43), 27⟩ (some (some 35, true))
      (.step .eff ⟨some 45, .call { callee := (.value (.tmp 36)), args := #[(.tmp 40), (.tmp 44)], argTypes := #[27, 27] }, 3⟩ (some (some 35, true))
      (.step .pure ⟨some 46, .binOp .lss 3 (.tmp 45) (.const (.int .i64 0)) 3, 4⟩ (some (some 35, true))
      (.step .pure ⟨some 47, .pick (.tmp 35) (.tmp 46) (.const (.bool false)), 4⟩ none
      .nil)))))))))))))))))
    (.cond (.tmp 47)
    .skip
    (.exit 0)))
    (.block 1 (.region (.step .text ⟨some 48, .move (.tmp 12), 3⟩ none
      (.step .text ⟨some 49, .binOp .add 3 (.tmp 48) (.const (.int .i64 1)) 3, 3⟩ none
      (.step .text ⟨some 12, .assign (.tmp 49), 3⟩ none
      .nil))))))
theorem Try.hx65bbbaal : compile Try.p65 (part1 Try.c65bbbaa 0) = Try.x65bbbaal := by kernel_rfl
theorem Try.ok65bbbaal : plansOk Try.p65 (part1 Try.c65bbbaa 0) = true := by kernel_rfl
theorem Try.lp65bbbaa : Try.c65bbbaa = .loop (part1 Try.c65bbbaa 0) := by kernel_rfl
noncomputable def Try.x65bbbbaal : XCode := (.seq (.seq (.drawn (.step .pure ⟨some 50, .move (.tmp 12), 3⟩ none
      (.step .pure ⟨some 51, .move (.tmp 13), 3⟩ none
      (.step .pure ⟨some 52, .binOp .leq 3 (.tmp 50) (.tmp 51) 3, 4⟩ none
      (.step .pure ⟨some 53, .move (.tmp 52), 4⟩ none
      (.step .pure ⟨some 54, .move (.tmp 4), 64⟩ (some (some 53, true))
      (.step .pure ⟨some 55, .move (.tmp 0), 39⟩ (some (some 53, true))
      (.step .pure ⟨some 56, .move (.tmp 13), 3⟩ (some (some 53, true))
      (.step .pure ⟨some 57, .indexAddr 39 (.tmp 55) (.tmp 56), 0⟩ (some (some 53, true))
      (.step .pure ⟨some 59, .move (.tmp 0), 39⟩ (some (some 53, true))
      (.step .pure ⟨some 60, .move (.tmp 1), 3⟩ (some (some 53, true))
      (.step .pure ⟨some 61, .indexAddr 39 (.tmp 59) (.tmp 60), 0⟩ (some (some 53, true))
      (.step .load ⟨some 58, .load 27 (.tmp 57), 27⟩ (some (some 53, true))
      (.step .load ⟨some 62, .load 27 (.tmp 61), 27⟩ (some (some 53, true))
      (.step .eff ⟨some 63, .call { callee := (.value (.tmp 54)), args := #[(.tmp 58), (.tmp 62)], argTypes := #[27, 27] }, 3⟩ (some (some 53, true))
      (.step .pure ⟨some 64, .binOp .lss 3 (.tmp 63) (.const (.int .i64 0)) 3, 4⟩ (some (some 53, true))
      (.step .pure ⟨some 65, .unOp .not 4 (.tmp 64), 4⟩ (some (some 53, true))
      (.step .pure ⟨some 66, .pick (.tmp 53) (.tmp 65) (.const (.bool false)), 4⟩ none
      .nil))))))))))))))))))
    (.cond (.tmp 66)
    .skip
    (.exit 2)))
    (.block 3 (.region (.step .text ⟨some 67, .move (.tmp 13), 3⟩ none
      (.step .text ⟨some 68, .binOp .sub 3 (.tmp 67) (.const (.int .i64 1)) 3, 3⟩ none
      (.step .text ⟨some 13, .assign (.tmp 68), 3⟩ none
      .nil))))))
theorem Try.hx65bbbbaal : compile Try.p65 (part1 Try.c65bbbbaa 0) = Try.x65bbbbaal := by kernel_rfl
theorem Try.ok65bbbbaal : plansOk Try.p65 (part1 Try.c65bbbbaa 0) = true := by kernel_rfl
theorem Try.lp65bbbbaa : Try.c65bbbbaa = .loop (part1 Try.c65bbbbaa 0) := by kernel_rfl
noncomputable def Try.x65bbbbbbbbbaal : XCode := (.block 5 (.seq (.block 6 (.code Try.c65bbbbbbbbbaalaaa))
    (.seq (.block 8 (.code Try.c65bbbbbbbbbaalabaa))
    (.seq (.seq (.region (.step .text ⟨some 142, .move (.tmp 12), 3⟩ none
      (.step .text ⟨some 143, .move (.tmp 13), 3⟩ none
      (.step .text ⟨some 144, .binOp .gtr 3 (.tmp 142) (.tmp 143) 3, 4⟩ none
      .nil))))
    (.cond (.tmp 144)
    (.exit 4)
    .skip))
    (.seq (.drawn (.step .pure ⟨some 145, .move (.tmp 0), 39⟩ none
      (.step .pure ⟨some 146, .move (.tmp 12), 3⟩ none
      (.step .pure ⟨some 147, .move (.tmp 0), 39⟩ none
      (.step .pure ⟨some 148, .move (.tmp 13), 3⟩ none
      (.step .pure ⟨some 149, .move (.tmp 0), 39⟩ none
      (.step .pure ⟨some 150, .move (.tmp 13), 3⟩ none
      (.step .pure ⟨some 151, .indexAddr 39 (.tmp 149) (.tmp 150), 0⟩ none
      (.step .pure ⟨some 153, .move (.tmp 0), 39⟩ none
      (.step .pure ⟨some 154, .move (.tmp 12), 3⟩ none
      (.step .pure ⟨some 155, .indexAddr 39 (.tmp 153) (.tmp 154), 0⟩ none
      (.step .load ⟨some 152, .load 27 (.tmp 151), 27⟩ none
      (.step .load ⟨some 156, .load 27 (.tmp 155), 27⟩ none
      (.step .pure ⟨some 157, .indexAddr 39 (.tmp 145) (.tmp 146), 0⟩ none
      (.step .last ⟨none, .store 27 (.tmp 157) (.tmp 152), 0⟩ none
      (.step .pure ⟨some 158, .indexAddr 39 (.tmp 147) (.tmp 148), 0⟩ none
      (.step .last ⟨none, .store 27 (.tmp 158) (.tmp 156), 0⟩ none
      .nil)))))))))))))))))
    (.seq (.region (.step .text ⟨some 159, .move (.tmp 12), 3⟩ none
      (.step .text ⟨some 160, .binOp .add 3 (.tmp 159) (.const (.int .i64 1)) 3, 3⟩ none
      (.step .text ⟨some 12, .assign (.tmp 160), 3⟩ none
      .nil))))
    (.region (.step .text ⟨some 161, .move (.tmp 13), 3⟩ none
      (.step .text ⟨some 162, .binOp .sub 3 (.tmp 161) (.const (.int .i64 1)) 3, 3⟩ none
      (.step .text ⟨some 13, .assign (.tmp 162), 3⟩ none
      .nil))))))))))
theorem Try.hx65bbbbbbbbbaal : compile Try.p65 (part1 Try.c65bbbbbbbbbaa 0) = Try.x65bbbbbbbbbaal := by kernel_rfl
theorem Try.ok65bbbbbbbbbaal : plansOk Try.p65 (part1 Try.c65bbbbbbbbbaa 0) = true := by kernel_rfl
theorem Try.lp65bbbbbbbbbaa : Try.c65bbbbbbbbbaa = .loop (part1 Try.c65bbbbbbbbbaa 0) := by kernel_rfl
noncomputable def Try.x65bbbbbbbbbaalaaal : XCode := (.seq (.seq (.drawn (.step .pure ⟨some 105, .move (.tmp 12), 3⟩ none
      (.step .pure ⟨some 106, .move (.tmp 13), 3⟩ none
      (.step .pure ⟨some 107, .binOp .leq 3 (.tmp 105) (.tmp 106) 3, 4⟩ none
      (.step .pure ⟨some 108, .move (.tmp 107), 4⟩ none
      (.step .pure ⟨some 109, .move (.tmp 4), 64⟩ (some (some 108, true))
      (.step .pure ⟨some 110, .move (.tmp 0), 39⟩ (some (some 108, true))
      (.step .pure ⟨some 111, .move (.tmp 12), 3⟩ (some (some 108, true))
      (.step .pure ⟨some 112, .indexAddr 39 (.tmp 110) (.tmp 111), 0⟩ (some (some 108, true))
      (.step .pure ⟨some 114, .move (.tmp 0), 39⟩ (some (some 108, true))
      (.step .pure ⟨some 115, .move (.tmp 1), 3⟩ (some (some 108, true))
      (.step .pure ⟨some 116, .indexAddr 39 (.tmp 114) (.tmp 115), 0⟩ (some (some 108, true))
      (.step .load ⟨some 113, .load 27 (.tmp 112), 27⟩ (some (some 108, true))
      (.step .load ⟨some 117, .load 27 (.tmp 116), 27⟩ (some (some 108, true))
      (.step .eff ⟨some 118, .call { callee := (.value (.tmp 109)), args := #[(.tmp 113), (.tmp 117)], argTypes := #[27, 27] }, 3⟩ (some (some 108, true))
      (.step .pure ⟨some 119, .binOp .lss 3 (.tmp 118) (.const (.int .i64 0)) 3, 4⟩ (some (some 108, true))
      (.step .pure ⟨some 120, .pick (.tmp 108) (.tmp 119) (.const (.bool false)), 4⟩ none
      .nil)))))))))))))))))
    (.cond (.tmp 120)
    .skip
    (.exit 6)))
    (.block 7 (.region (.step .text ⟨some 121, .move (.tmp 12), 3⟩ none
      (.step .text ⟨some 122, .binOp .add 3 (.tmp 121) (.const (.int .i64 1)) 3, 3⟩ none
      (.step .text ⟨some 12, .assign (.tmp 122), 3⟩ none
      .nil))))))
theorem Try.hx65bbbbbbbbbaalaaal : compile Try.p65 (part1 Try.c65bbbbbbbbbaalaaa 0) = Try.x65bbbbbbbbbaalaaal := by kernel_rfl
theorem Try.ok65bbbbbbbbbaalaaal : plansOk Try.p65 (part1 Try.c65bbbbbbbbbaalaaa 0) = true := by kernel_rfl
theorem Try.lp65bbbbbbbbbaalaaa : Try.c65bbbbbbbbbaalaaa = .loop (part1 Try.c65bbbbbbbbbaalaaa 0) := by kernel_rfl
noncomputable def Try.x65bbbbbbbbbaalabaal : XCode := (.seq (.seq (.drawn (.step .pure ⟨some 123, .move (.tmp 12), 3⟩ none
      (.step .pure ⟨some 124, .move (.tmp 13), 3⟩ none
      (.step .pure ⟨some 125, .binOp .leq 3 (.tmp 123) (.tmp 124) 3, 4⟩ none
      (.step .pure ⟨some 126, .move (.tmp 125), 4⟩ none
      (.step .pure ⟨some 127, .move (.tmp 4), 64⟩ (some (some 126, true))
      (.step .pure ⟨some 128, .move (.tmp 0), 39⟩ (some (some 126, true))
      (.step .pure ⟨some 129, .move (.tmp 13), 3⟩ (some (some 126, true))
      (.step .pure ⟨some 130, .indexAddr 39 (.tmp 128) (.tmp 129), 0⟩ (some (some 126, true))
      (.step .pure ⟨some 132, .move (.tmp 0), 39⟩ (some (some 126, true))
      (.step .pure ⟨some 133, .move (.tmp 1), 3⟩ (some (some 126, true))
      (.step .pure ⟨some 134, .indexAddr 39 (.tmp 132) (.tmp 133), 0⟩ (some (some 126, true))
      (.step .load ⟨some 131, .load 27 (.tmp 130), 27⟩ (some (some 126, true))
      (.step .load ⟨some 135, .load 27 (.tmp 134), 27⟩ (some (some 126, true))
      (.step .eff ⟨some 136, .call { callee := (.value (.tmp 127)), args := #[(.tmp 131), (.tmp 135)], argTypes := #[27, 27] }, 3⟩ (some (some 126, true))
      (.step .pure ⟨some 137, .binOp .lss 3 (.tmp 136) (.const (.int .i64 0)) 3, 4⟩ (some (some 126, true))
      (.step .pure ⟨some 138, .unOp .not 4 (.tmp 137), 4⟩ (some (some 126, true))
      (.step .pure ⟨some 139, .pick (.tmp 126) (.tmp 138) (.const (.bool false)), 4⟩ none
      .nil))))))))))))))))))
    (.cond (.tmp 139)
    .skip
    (.exit 8)))
    (.block 9 (.region (.step .text ⟨some 140, .move (.tmp 13), 3⟩ none
      (.step .text ⟨some 141, .binOp .sub 3 (.tmp 140) (.const (.int .i64 1)) 3, 3⟩ none
      (.step .text ⟨some 13, .assign (.tmp 141), 3⟩ none
      .nil))))))
theorem Try.hx65bbbbbbbbbaalabaal : compile Try.p65 (part1 Try.c65bbbbbbbbbaalabaa 0) = Try.x65bbbbbbbbbaalabaal := by kernel_rfl
theorem Try.ok65bbbbbbbbbaalabaal : plansOk Try.p65 (part1 Try.c65bbbbbbbbbaalabaa 0) = true := by kernel_rfl
theorem Try.lp65bbbbbbbbbaalabaa : Try.c65bbbbbbbbbaalabaa = .loop (part1 Try.c65bbbbbbbbbaalabaa 0) := by kernel_rfl
theorem Try.fb65 : Try.f65.body = some (Try.f65.body.getD .skip) := by kernel_rfl
theorem Try.en65 : Enters Try.prog 65 := ⟨Try.f65, Try.func65, by kernel_rfl, by kernel_rfl⟩
/-- (*caucus/graph.walk).waits -/
def Try.p68 : Nat → Option Plan := fun i => match i with
  | 1 => some ⟨[], [13], (.load 0 [0, 1, 2, 3, 4, 5, 6, 8, 9, 10, 11, 13, 14] (.pure 1 (.pure 2 (.load 3 [3, 4, 5, 6, 8, 9, 10, 11, 13, 14] (.pure 4 (.pure 5 (.load 6 [6, 8, 9, 10, 11, 13, 14] (.load 7 [7, 8, 9, 10, 11, 13, 14] (.fork (.eff 8 (.pure 9 (.pure 10 (.pure 11 (.eff 12 (.last 13 (.pure 14 .nil))))))) (.eff 12 (.eff 8 (.pure 9 (.pure 10 (.pure 11 (.last 13 (.pure 14 .nil))))))))))))))))⟩
  | _ => none
noncomputable def Try.c68bbbaba : Code := partAt (Try.f68.body.getD .skip) [1, 1, 1, 0, 1, 0]
noncomputable def Try.x68 : XCode := (.seq (.region (.step .text ⟨some 2, .box 84 (.tmp 0), 0⟩ none
      (.step .text ⟨some 3, .box 27 (.tmp 1), 0⟩ none
      (.step .text ⟨some 4, .assign (.const (.slice none 0 0)), 39⟩ none
      .nil))))
    (.seq (.drawn (.step .load ⟨some 10, .load 84 (.tmp 2), 84⟩ none
      (.step .pure ⟨some 11, .nilCheck (.tmp 10), 0⟩ none
      (.step .pure ⟨some 12, .fieldAddr 88 (.tmp 11) 0, 0⟩ none
      (.step .load ⟨some 13, .load 59 (.tmp 12), 59⟩ none
      (.step .pure ⟨some 14, .nilCheck (.tmp 13), 0⟩ none
      (.step .pure ⟨some 15, .fieldAddr 80 (.tmp 14) 0, 0⟩ none
      (.step .load ⟨some 16, .load 75 (.tmp 15), 75⟩ none
      (.step .load ⟨some 17, .load 27 (.tmp 3), 27⟩ none
      (.fork (.step .eff ⟨some 18, .call { callee := (.value (.func 46)), args := #[(.tmp 16), (.tmp 17)], argTypes := #[75, 27] }, 71⟩ none
      (.step .pure ⟨some 9, .move (.tmp 18), 71⟩ none
      (.step .pure ⟨some 19, .extract (.tmp 9) 0, 33⟩ none
      (.step .pure ⟨some 20, .extract (.tmp 9) 1, 4⟩ none
      (.step .eff ⟨some 5, .alloc 33, 0⟩ none
      (.step .last ⟨none, .store 33 (.tmp 5) (.tmp 19), 0⟩ none
      (.step .pure ⟨some 6, .assign (.tmp 20), 4⟩ none
      .nil)))))))
      (.step .eff ⟨some 5, .alloc 33, 0⟩ none
      (.step .eff ⟨some 18, .call { callee := (.value (.func 46)), args := #[(.tmp 16), (.tmp 17)], argTypes := #[75, 27] }, 71⟩ none
      (.step .pure ⟨some 9, .move (.tmp 18), 71⟩ none
      (.step .pure ⟨some 19, .extract (.tmp 9) 0, 33⟩ none
      (.step .pure ⟨some 20, .extract (.tmp 9) 1, 4⟩ none
      (.step .last ⟨none, .store 33 (.tmp 5) (.tmp 19), 0⟩ none
      (.step .pure ⟨some 6, .assign (.tmp 20), 4⟩ none
      .nil)))))))))))))))))
    (.seq (.region (.step .text ⟨some 7, .alloc 39, 0⟩ none
      .nil))
    (.seq (.seq (.region (.step .text ⟨some 21, .fieldAddr 33 (.tmp 5) 1, 0⟩ none
      (.step .text ⟨some 22, .load 31 (.tmp 21), 31⟩ none
      (.step .text ⟨some 23, .call { callee := (.value (.func 77)), args := #[(.tmp 22)], argTypes := #[31] }, 126⟩ none
      .nil))))
    (.block 0 (.code Try.c68bbbaba)))
    (.seq (.region (.step .text ⟨some 41, .load 39 (.tmp 7), 39⟩ none
      (.step .text ⟨some 4, .assign (.tmp 41), 39⟩ none
      .nil)))
    .ret)))))
theorem Try.hx68 : compile Try.p68 (Try.f68.body.getD .skip) = Try.x68 := by kernel_rfl
theorem Try.ok68 : plansOk Try.p68 (Try.f68.body.getD .skip) = true := by kernel_rfl
theorem Try.fb68 : Try.f68.body = some (Try.f68.body.getD .skip) := by kernel_rfl
theorem Try.en68 : Enters Try.prog 68 := ⟨Try.f68, Try.func68, by kernel_rfl, by kernel_rfl⟩
/-- (*caucus/graph.walk).part -/
def Try.p69 : Nat → Option Plan := fun i => match i with
  | 1 => some ⟨[], [], (.pure 0 (.pure 1 (.pure 2 (.load 3 [3] (.load 4 [4] (.eff 5 (.pure 6 .nil)))))))⟩
  | 7 => some ⟨[], [5], (.pure 0 (.pure 1 (.pure 2 (.load 3 [3, 5] (.load 4 [4, 5] (.last 5 .nil))))))⟩
  | _ => none
noncomputable def Try.c69bbbbaba : Code := partAt (Try.f69.body.getD .skip) [1, 1, 1, 1, 0, 1, 0]
noncomputable def Try.x69 : XCode := (.seq (.region (.step .text ⟨some 3, .box 27 (.tmp 1), 0⟩ none
      .nil))
    (.seq (.drawn (.step .pure ⟨some 8, .move (.tmp 0), 84⟩ none
      (.step .pure ⟨some 9, .nilCheck (.tmp 8), 0⟩ none
      (.step .pure ⟨some 10, .fieldAddr 88 (.tmp 9) 4, 0⟩ none
      (.step .load ⟨some 11, .load 39 (.tmp 10), 39⟩ none
      (.step .load ⟨some 12, .load 27 (.tmp 3), 27⟩ none
      (.step .eff ⟨some 13, .call { callee := (.value (.func 52)), args := #[(.tmp 11), (.tmp 12)], argTypes := #[39, 27] }, 3⟩ none
      (.step .pure ⟨some 4, .assign (.tmp 13), 3⟩ none
      .nil))))))))
    (.seq (.region (.step .text ⟨some 14, .move (.tmp 0), 84⟩ none
      (.step .text ⟨some 15, .nilCheck (.tmp 14), 0⟩ none
      (.step .text ⟨some 16, .fieldAddr 88 (.tmp 15) 4, 0⟩ none
      (.step .text ⟨some 17, .load 39 (.tmp 16), 39⟩ none
      (.step .text ⟨some 18, .move (.tmp 4), 3⟩ none
      (.step .text ⟨some 19, .slice 39 (.tmp 17) (some (.tmp 18)) none none, 39⟩ none
      (.step .text ⟨some 20, .call { callee := (.value (.func 30)), args := #[(.tmp 19)], argTypes := #[39] }, 39⟩ none
      (.step .text ⟨some 5, .assign (.tmp 20), 39⟩ none
      .nil)))))))))
    (.seq (.region (.step .text ⟨some 21, .move (.tmp 0), 84⟩ none
      (.step .text ⟨some 22, .move (.tmp 0), 84⟩ none
      (.step .text ⟨some 23, .nilCheck (.tmp 22), 0⟩ none
      (.step .text ⟨some 24, .fieldAddr 88 (.tmp 23) 4, 0⟩ none
      (.step .text ⟨some 25, .load 39 (.tmp 24), 39⟩ none
      (.step .text ⟨some 26, .move (.tmp 4), 3⟩ none
      (.step .text ⟨some 27, .slice 39 (.tmp 25) none (some (.tmp 26)) none, 39⟩ none
      (.step .text ⟨some 28, .nilCheck (.tmp 21), 0⟩ none
      (.step .text ⟨some 29, .fieldAddr 88 (.tmp 28) 4, 0⟩ none
      (.step .text ⟨none, .store 39 (.tmp 29) (.tmp 27), 0⟩ none
      .nil)))))))))))
    (.seq (.seq (.region (.step .text ⟨some 30, .move (.tmp 5), 39⟩ none
      (.step .text ⟨some 31, .call { callee := (.builtin .len), args := #[(.tmp 30)], argTypes := #[39] }, 3⟩ none
      (.step .text ⟨some 32, .move (.const (.int .i64 0)), 3⟩ none
      .nil))))
    (.block 0 (.code Try.c69bbbbaba)))
    (.seq (.region (.step .text ⟨some 42, .move (.tmp 5), 39⟩ none
      (.step .text ⟨some 43, .move (.tmp 0), 84⟩ none
      (.step .text ⟨some 44, .nilCheck (.tmp 43), 0⟩ none
      (.step .text ⟨some 45, .fieldAddr 88 (.tmp 44) 0, 0⟩ none
      (.step .text ⟨some 46, .load 59 (.tmp 45), 59⟩ none
      (.step .text ⟨some 47, .makeFunc (.func 78) #[(.tmp 46)] #[], 64⟩ none
      (.step .text ⟨some 48, .call { callee := (.value (.func 27)), args := #[(.tmp 42), (.tmp 47)], argTypes := #[39, 64] }, 0⟩ none
      .nil))))))))
    (.region (.step .text ⟨some 49, .move (.tmp 0), 84⟩ none
      (.step .text ⟨some 50, .move (.tmp 0), 84⟩ none
      (.step .text ⟨some 51, .nilCheck (.tmp 50), 0⟩ none
      (.step .text ⟨some 52, .fieldAddr 88 (.tmp 51) 6, 0⟩ none
      (.step .text ⟨some 53, .load 66 (.tmp 52), 66⟩ none
      (.step .text ⟨some 54, .move (.tmp 5), 39⟩ none
      (.step .text ⟨some 55, .buildSlice 66 1 #[(0, (.tmp 54))], 66⟩ none
      (.step .text ⟨some 56, .call { callee := (.builtin .append), args := #[(.tmp 53), (.tmp 55)], argTypes := #[66, 66] }, 66⟩ none
      (.step .text ⟨some 57, .nilCheck (.tmp 49), 0⟩ none
      (.step .text ⟨some 58, .fieldAddr 88 (.tmp 57) 6, 0⟩ none
      (.step .text ⟨none, .store 66 (.tmp 58) (.tmp 56), 0⟩ none
      .nil))))))))))))))))))
theorem Try.hx69 : compile Try.p69 (Try.f69.body.getD .skip) = Try.x69 := by kernel_rfl
theorem Try.ok69 : plansOk Try.p69 (Try.f69.body.getD .skip) = true := by kernel_rfl
noncomputable def Try.x69bbbbabal : XCode := (.seq (.region (.step .text ⟨some 33, .binOp .lss 3 (.tmp 32) (.tmp 31) 3, 0⟩ none
      .nil))
    (.seq (.cond (.tmp 33)
    .skip
    (.exit 0))
    (.seq (.block 1 (.seq (.region (.step .text ⟨some 34, .indexAddr 39 (.tmp 30) (.tmp 32), 0⟩ none
      (.step .text ⟨some 35, .load 27 (.tmp 34), 27⟩ none
      (.step .text ⟨some 7, .alloc 27, 0⟩ none
      (.step .text ⟨none, .store 27 (.tmp 7) (.tmp 35), 0⟩ none
      .nil)))))
    (.drawn (.step .pure ⟨some 36, .move (.tmp 0), 84⟩ none
      (.step .pure ⟨some 37, .nilCheck (.tmp 36), 0⟩ none
      (.step .pure ⟨some 38, .fieldAddr 88 (.tmp 37) 3, 0⟩ none
      (.step .load ⟨some 39, .load 85 (.tmp 38), 85⟩ none
      (.step .load ⟨some 40, .load 27 (.tmp 7), 27⟩ none
      (.step .last ⟨none, .mapUpdate 85 (.tmp 39) (.tmp 40) (.const (.bool false)), 0⟩ none
      .nil)))))))))
    (.region (.step .text ⟨some 41, .binOp .add 3 (.tmp 32) (.const (.int .i64 1)) 3, 3⟩ none
      (.step .text ⟨some 32, .move (.tmp 41), 3⟩ none
      .nil))))))
theorem Try.hx69bbbbabal : compile Try.p69 (part1 Try.c69bbbbaba 0) = Try.x69bbbbabal := by kernel_rfl
theorem Try.ok69bbbbabal : plansOk Try.p69 (part1 Try.c69bbbbaba 0) = true := by kernel_rfl
theorem Try.lp69bbbbaba : Try.c69bbbbaba = .loop (part1 Try.c69bbbbaba 0) := by kernel_rfl
theorem Try.fb69 : Try.f69.body = some (Try.f69.body.getD .skip) := by kernel_rfl
theorem Try.en69 : Enters Try.prog 69 := ⟨Try.f69, Try.func69, by kernel_rfl, by kernel_rfl⟩
/-- (*caucus/item.Rows[bool]).Set -/
def Try.p70 : Nat → Option Plan := fun i => match i with
  | 1 => some ⟨[], [], (.pure 0 (.pure 1 (.pure 2 (.pure 4 (.pure 5 (.pure 6 (.load 3 [3] (.load 7 [7] (.eff 8 (.pure 9 (.pure 10 .nil)))))))))))⟩
  | 3 => some ⟨[], [], (.pure 0 (.pure 1 (.pure 3 (.pure 4 (.pure 8 (.load 2 [2] (.pure 5 (.load 6 [6] (.pure 7 (.load 9 [9] (.pure 10 .nil)))))))))))⟩
  | 5 => some ⟨[15, 24, 28], [32], (.pure 0 (.pure 1 (.pure 3 (.pure 4 (.pure 6 (.pure 7 (.pure 9 (.pure 10 (.pure 13 (.pure 16 (.pure 17 (.pure 19 (.pure 20 (.pure 25 (.pure 26 (.pure 29 (.pure 30 (.weak 2 [2, 27, 28, 31, 32] (.weak 5 [5, 31, 32] (.load 8 [8, 11, 12, 15, 24, 27, 28, 31, 32] (.pure 11 (.load 12 [12, 15, 24, 27, 28, 31, 32] (.weak 18 [18, 21, 22, 24, 27, 28, 31, 32] (.pure 21 (.weak 22 [22, 24, 27, 28, 31, 32] (.fork (.eff 14 (.fork (.late 15 (.eff 23 (.late 24 (.pure 27 (.late 28 (.pure 31 (.last 32 .nil))))))) (.eff 23 (.late 15 (.late 24 (.pure 27 (.late 28 (.pure 31 (.last 32 .nil))))))))) (.eff 23 (.eff 14 (.late 15 (.late 24 (.pure 27 (.late 28 (.pure 31 (.last 32 .nil))))))))))))))))))))))))))))))))))⟩
  | 6 => some ⟨[22], [24], (.pure 0 (.pure 1 (.pure 3 (.pure 4 (.pure 7 (.pure 10 (.pure 11 (.pure 13 (.pure 14 (.pure 17 (.pure 20 (.load 2 [2, 5, 6, 21, 22, 23, 24] (.pure 5 (.load 6 [6, 21, 22, 23, 24] (.load 8 [8, 9, 21, 22, 23, 24] (.pure 9 (.load 12 [12, 15, 16, 21, 22, 23, 24] (.pure 15 (.load 16 [16, 21, 22, 23, 24] (.pure 21 (.weak 18 [18, 19, 23, 24] (.pure 19 (.late 22 (.pure 23 (.last 24 .nil)))))))))))))))))))))))))⟩
  | _ => none
noncomputable def Try.c70bbaa : Code := partAt (Try.f70.body.getD .skip) [1, 1, 0, 0]
noncomputable def Try.x70 : XCode := (.seq (.region (.step .text ⟨some 4, .box 27 (.tmp 1), 0⟩ none
      (.step .text ⟨some 6, .assign (.const (.bool false)), 4⟩ none
      .nil)))
    (.seq (.seq (.drawn (.step .pure ⟨some 8, .move (.tmp 0), 77⟩ none
      (.step .pure ⟨some 9, .binOp .eql 77 (.tmp 8) (.const (.pointer none)) 77, 4⟩ none
      (.step .pure ⟨some 10, .move (.tmp 9), 4⟩ none
      (.step .pure ⟨some 12, .move (.tmp 0), 77⟩ (some (some 10, false))
      (.step .pure ⟨some 13, .nilCheck (.tmp 12), 0⟩ (some (some 10, false))
      (.step .pure ⟨some 14, .fieldAddr 101 (.tmp 13) 0, 0⟩ (some (some 10, false))
      (.step .load ⟨some 11, .load 27 (.tmp 4), 27⟩ (some (some 10, false))
      (.step .load ⟨some 15, .load 3 (.tmp 14), 3⟩ (some (some 10, false))
      (.step .eff ⟨some 16, .call { callee := (.value (.func 57)), args := #[(.tmp 11), (.tmp 15)], argTypes := #[27, 3] }, 4⟩ (some (some 10, false))
      (.step .pure ⟨some 17, .unOp .not 4 (.tmp 16), 4⟩ (some (some 10, false))
      (.step .pure ⟨some 18, .pick (.tmp 10) (.const (.bool true)) (.tmp 17), 4⟩ none
      .nil))))))))))))
    (.cond (.tmp 18)
    (.seq (.region (.step .text ⟨some 6, .assign (.const (.bool false)), 4⟩ none
      .nil))
    .ret)
    .skip))
    (.seq (.block 0 (.code Try.c70bbaa))
    (.seq (.drawn (.step .pure ⟨some 61, .move (.tmp 0), 77⟩ none
      (.step .pure ⟨some 62, .fieldAddr 27 (.tmp 4) 0, 0⟩ none
      (.step .pure ⟨some 64, .nilCheck (.tmp 61), 0⟩ none
      (.step .pure ⟨some 65, .fieldAddr 101 (.tmp 64) 1, 0⟩ none
      (.step .pure ⟨some 68, .fieldAddr 27 (.tmp 4) 1, 0⟩ none
      (.step .pure ⟨some 71, .move (.tmp 0), 77⟩ none
      (.step .pure ⟨some 72, .fieldAddr 27 (.tmp 4) 0, 0⟩ none
      (.step .pure ⟨some 74, .nilCheck (.tmp 71), 0⟩ none
      (.step .pure ⟨some 75, .fieldAddr 101 (.tmp 74) 2, 0⟩ none
      (.step .pure ⟨some 78, .fieldAddr 27 (.tmp 4) 1, 0⟩ none
      (.step .pure ⟨some 81, .move (.tmp 2), 4⟩ none
      (.step .load ⟨some 63, .load 3 (.tmp 62), 3⟩ none
      (.step .pure ⟨some 66, .indexAddr 97 (.tmp 65) (.tmp 63), 0⟩ none
      (.step .load ⟨some 67, .load 23 (.tmp 66), 23⟩ none
      (.step .load ⟨some 69, .load 3 (.tmp 68), 3⟩ none
      (.step .pure ⟨some 70, .binOp .sub 3 (.tmp 69) (.const (.int .i64 1)) 3, 3⟩ none
      (.step .load ⟨some 73, .load 3 (.tmp 72), 3⟩ none
      (.step .pure ⟨some 76, .indexAddr 97 (.tmp 75) (.tmp 73), 0⟩ none
      (.step .load ⟨some 77, .load 23 (.tmp 76), 23⟩ none
      (.step .pure ⟨some 82, .indexAddr 23 (.tmp 67) (.tmp 70), 0⟩ none
      (.step .weak ⟨some 79, .load 3 (.tmp 78), 3⟩ none
      (.step .pure ⟨some 80, .binOp .sub 3 (.tmp 79) (.const (.int .i64 1)) 3, 3⟩ none
      (.step .late ⟨none, .store 4 (.tmp 82) (.tmp 81), 0⟩ none
      (.step .pure ⟨some 83, .indexAddr 23 (.tmp 77) (.tmp 80), 0⟩ none
      (.step .last ⟨none, .store 4 (.tmp 83) (.const (.bool true)), 0⟩ none
      .nil))))))))))))))))))))))))))
    (.seq (.region (.step .text ⟨some 6, .assign (.const (.bool true)), 4⟩ none
      .nil))
    .ret)))))
theorem Try.hx70 : compile Try.p70 (Try.f70.body.getD .skip) = Try.x70 := by kernel_rfl
theorem Try.ok70 : plansOk Try.p70 (Try.f70.body.getD .skip) = true := by kernel_rfl
noncomputable def Try.x70bbaal : XCode := (.seq (.seq (.drawn (.step .pure ⟨some 19, .move (.tmp 0), 77⟩ none
      (.step .pure ⟨some 20, .fieldAddr 27 (.tmp 4) 0, 0⟩ none
      (.step .pure ⟨some 22, .nilCheck (.tmp 19), 0⟩ none
      (.step .pure ⟨some 23, .fieldAddr 101 (.tmp 22) 1, 0⟩ none
      (.step .pure ⟨some 27, .fieldAddr 27 (.tmp 4) 1, 0⟩ none
      (.step .load ⟨some 21, .load 3 (.tmp 20), 3⟩ none
      (.step .pure ⟨some 24, .indexAddr 97 (.tmp 23) (.tmp 21), 0⟩ none
      (.step .load ⟨some 25, .load 23 (.tmp 24), 23⟩ none
      (.step .pure ⟨some 26, .call { callee := (.builtin .len), args := #[(.tmp 25)], argTypes := #[23] }, 3⟩ none
      (.step .load ⟨some 28, .load 3 (.tmp 27), 3⟩ none
      (.step .pure ⟨some 29, .binOp .lss 3 (.tmp 26) (.tmp 28) 3, 4⟩ none
      .nil))))))))))))
    (.cond (.tmp 29)
    .skip
    (.exit 0)))
    (.block 1 (.seq (.region (.step .text ⟨some 7, .assign (.const (.bool false)), 4⟩ none
      .nil))
    (.drawn (.step .pure ⟨some 30, .move (.tmp 0), 77⟩ none
      (.step .pure ⟨some 31, .fieldAddr 27 (.tmp 4) 0, 0⟩ none
      (.step .pure ⟨some 33, .move (.tmp 0), 77⟩ none
      (.step .pure ⟨some 34, .fieldAddr 27 (.tmp 4) 0, 0⟩ none
      (.step .pure ⟨some 36, .move (.tmp 0), 77⟩ none
      (.step .pure ⟨some 37, .fieldAddr 27 (.tmp 4) 0, 0⟩ none
      (.step .pure ⟨some 39, .nilCheck (.tmp 36), 0⟩ none
      (.step .pure ⟨some 40, .fieldAddr 101 (.tmp 39) 1, 0⟩ none
      (.step .pure ⟨some 43, .move (.tmp 7), 4⟩ none
      (.step .pure ⟨some 46, .move (.tmp 0), 77⟩ none
      (.step .pure ⟨some 47, .fieldAddr 27 (.tmp 4) 0, 0⟩ none
      (.step .pure ⟨some 49, .nilCheck (.tmp 46), 0⟩ none
      (.step .pure ⟨some 50, .fieldAddr 101 (.tmp 49) 2, 0⟩ none
      (.step .pure ⟨some 55, .nilCheck (.tmp 30), 0⟩ none
      (.step .pure ⟨some 56, .fieldAddr 101 (.tmp 55) 1, 0⟩ none
      (.step .pure ⟨some 58, .nilCheck (.tmp 33), 0⟩ none
      (.step .pure ⟨some 59, .fieldAddr 101 (.tmp 58) 2, 0⟩ none
      (.step .weak ⟨some 32, .load 3 (.tmp 31), 3⟩ none
      (.step .weak ⟨some 35, .load 3 (.tmp 34), 3⟩ none
      (.step .load ⟨some 38, .load 3 (.tmp 37), 3⟩ none
      (.step .pure ⟨some 41, .indexAddr 97 (.tmp 40) (.tmp 38), 0⟩ none
      (.step .load ⟨some 42, .load 23 (.tmp 41), 23⟩ none
      (.step .weak ⟨some 48, .load 3 (.tmp 47), 3⟩ none
      (.step .pure ⟨some 51, .indexAddr 97 (.tmp 50) (.tmp 48), 0⟩ none
      (.step .weak ⟨some 52, .load 23 (.tmp 51), 23⟩ none
      (.fork (.step .eff ⟨some 44, .buildSlice 23 1 #[(0, (.tmp 43))], 23⟩ none
      (.fork (.step .late ⟨some 45, .call { callee := (.builtin .append), args := #[(.tmp 42), (.tmp 44)], argTypes := #[23, 23] }, 23⟩ none
      (.step .eff ⟨some 53, .buildSlice 23 1 #[(0, (.const (.bool false)))], 23⟩ none
      (.step .late ⟨some 54, .call { callee := (.builtin .append), args := #[(.tmp 52), (.tmp 53)], argTypes := #[23, 23] }, 23⟩ none
      (.step .pure ⟨some 57, .indexAddr 97 (.tmp 56) (.tmp 32), 0⟩ none
      (.step .late ⟨none, .store 23 (.tmp 57) (.tmp 45), 0⟩ none
      (.step .pure ⟨some 60, .indexAddr 97 (.tmp 59) (.tmp 35), 0⟩ none
      (.step .last ⟨none, .store 23 (.tmp 60) (.tmp 54), 0⟩ none
      .nil)))))))
      (.step .eff ⟨some 53, .buildSlice 23 1 #[(0, (.const (.bool false)))], 23⟩ none
      (.step .late ⟨some 45, .call { callee := (.builtin .append), args := #[(.tmp 42), (.tmp 44)], argTypes := #[23, 23] }, 23⟩ none
      (.step .late ⟨some 54, .call { callee := (.builtin .append), args := #[(.tmp 52), (.tmp 53)], argTypes := #[23, 23] }, 23⟩ none
      (.step .pure ⟨some 57, .indexAddr 97 (.tmp 56) (.tmp 32), 0⟩ none
      (.step .late ⟨none, .store 23 (.tmp 57) (.tmp 45), 0⟩ none
      (.step .pure ⟨some 60, .indexAddr 97 (.tmp 59) (.tmp 35), 0⟩ none
      (.step .last ⟨none, .store 23 (.tmp 60) (.tmp 54), 0⟩ none
      .nil)))))))))
      (.step .eff ⟨some 53, .buildSlice 23 1 #[(0, (.const (.bool false)))], 23⟩ none
      (.step .eff ⟨some 44, .buildSlice 23 1 #[(0, (.tmp 43))], 23⟩ none
      (.step .late ⟨some 45, .call { callee := (.builtin .append), args := #[(.tmp 42), (.tmp 44)], argTypes := #[23, 23] }, 23⟩ none
      (.step .late ⟨some 54, .call { callee := (.builtin .append), args := #[(.tmp 52), (.tmp 53)], argTypes := #[23, 23] }, 23⟩ none
      (.step .pure ⟨some 57, .indexAddr 97 (.tmp 56) (.tmp 32), 0⟩ none
      (.step .late ⟨none, .store 23 (.tmp 57) (.tmp 45), 0⟩ none
      (.step .pure ⟨some 60, .indexAddr 97 (.tmp 59) (.tmp 35), 0⟩ none
      (.step .last ⟨none, .store 23 (.tmp 60) (.tmp 54), 0⟩ none
      .nil))))))))))))))))))))))))))))))))))))))
theorem Try.hx70bbaal : compile Try.p70 (part1 Try.c70bbaa 0) = Try.x70bbaal := by kernel_rfl
theorem Try.ok70bbaal : plansOk Try.p70 (part1 Try.c70bbaa 0) = true := by kernel_rfl
theorem Try.lp70bbaa : Try.c70bbaa = .loop (part1 Try.c70bbaa 0) := by kernel_rfl
theorem Try.fb70 : Try.f70.body = some (Try.f70.body.getD .skip) := by kernel_rfl
theorem Try.en70 : Enters Try.prog 70 := ⟨Try.f70, Try.func70, by kernel_rfl, by kernel_rfl⟩
/-- slices.IndexFunc[[]caucus/api.Item,caucus/api.Item] -/
def Try.p71 : Nat → Option Plan := fun i => match i with
  | _ => none
noncomputable def Try.c71baba : Code := partAt (Try.f71.body.getD .skip) [1, 0, 1, 0]
noncomputable def Try.x71 : XCode := (.seq (.region (.step .text ⟨some 4, .assign (.const (.int .i64 0)), 3⟩ none
      .nil))
    (.seq (.seq (.region (.step .text ⟨some 6, .move (.tmp 0), 39⟩ none
      (.step .text ⟨some 7, .call { callee := (.builtin .len), args := #[(.tmp 6)], argTypes := #[39] }, 3⟩ none
      (.step .text ⟨some 8, .move (.const (.int .i64 0)), 3⟩ none
      .nil))))
    (.block 0 (.code Try.c71baba)))
    (.seq (.region (.step .text ⟨some 4, .assign (.const (.int .i64 (-1))), 3⟩ none
      .nil))
    .ret)))
theorem Try.hx71 : compile Try.p71 (Try.f71.body.getD .skip) = Try.x71 := by kernel_rfl
theorem Try.ok71 : plansOk Try.p71 (Try.f71.body.getD .skip) = true := by kernel_rfl
noncomputable def Try.x71babal : XCode := (.seq (.region (.step .text ⟨some 9, .binOp .lss 3 (.tmp 8) (.tmp 7) 3, 0⟩ none
      .nil))
    (.seq (.cond (.tmp 9)
    .skip
    (.exit 0))
    (.seq (.block 1 (.seq (.region (.step .text ⟨some 10, .move (.tmp 8), 3⟩ none
      (.step .text ⟨some 5, .assign (.tmp 10), 3⟩ none
      .nil)))
    (.seq (.region (.step .text ⟨some 11, .move (.tmp 1), 54⟩ none
      (.step .text ⟨some 12, .move (.tmp 0), 39⟩ none
      (.step .text ⟨some 13, .move (.tmp 5), 3⟩ none
      (.step .text ⟨some 14, .indexAddr 39 (.tmp 12) (.tmp 13), 0⟩ none
      (.step .text ⟨some 15, .load 27 (.tmp 14), 27⟩ none
      (.step .text ⟨some 16, .call { callee := (.value (.tmp 11)), args := #[(.tmp 15)], argTypes := #[27] }, 4⟩ none
      .nil)))))))
    (.cond (.tmp 16)
    (.seq (.region (.step .text ⟨some 17, .move (.tmp 5), 3⟩ none
      (.step .text ⟨some 4, .assign (.tmp 17), 3⟩ none
      .nil)))
    .ret)
    .skip))))
    (.region (.step .text ⟨some 18, .binOp .add 3 (.tmp 8) (.const (.int .i64 1)) 3, 3⟩ none
      (.step .text ⟨some 8, .move (.tmp 18), 3⟩ none
      .nil))))))
theorem Try.hx71babal : compile Try.p71 (part1 Try.c71baba 0) = Try.x71babal := by kernel_rfl
theorem Try.ok71babal : plansOk Try.p71 (part1 Try.c71baba 0) = true := by kernel_rfl
theorem Try.lp71baba : Try.c71baba = .loop (part1 Try.c71baba 0) := by kernel_rfl
theorem Try.fb71 : Try.f71.body = some (Try.f71.body.getD .skip) := by kernel_rfl
theorem Try.en71 : Enters Try.prog 71 := ⟨Try.f71, Try.func71, by kernel_rfl, by kernel_rfl⟩
/-- slices.siftDownCmpFunc[caucus/api.Item] -/
def Try.p72 : Nat → Option Plan := fun i => match i with
  | 3 => some ⟨[], [], (.pure 0 (.pure 1 (.pure 2 (.pure 3 (.pure 4 (.pure 5 (.pure 6 (.pure 7 (.pure 8 (.pure 9 (.pure 10 (.pure 12 (.pure 13 (.pure 14 (.pure 15 (.pure 16 (.pure 17 (.load 11 [11] (.load 18 [18] (.eff 19 (.pure 20 (.pure 21 .nil))))))))))))))))))))))⟩
  | 5 => some ⟨[], [], (.pure 0 (.pure 1 (.pure 2 (.pure 3 (.pure 4 (.pure 5 (.pure 7 (.pure 8 (.pure 9 (.pure 10 (.pure 11 (.load 6 [6] (.load 12 [12] (.eff 13 (.pure 14 (.pure 15 .nil))))))))))))))))⟩
  | 6 => some ⟨[], [21, 23], (.pure 0 (.pure 1 (.pure 2 (.pure 3 (.pure 4 (.pure 5 (.pure 6 (.pure 7 (.pure 8 (.pure 9 (.pure 10 (.pure 11 (.pure 12 (.pure 14 (.pure 15 (.pure 16 (.pure 17 (.pure 18 (.load 13 [13, 20, 21, 22, 23] (.load 19 [19, 20, 21, 22, 23] (.pure 20 (.last 21 (.pure 22 (.last 23 .nil))))))))))))))))))))))))⟩
  | _ => none
noncomputable def Try.c72ba : Code := partAt (Try.f72.body.getD .skip) [1, 0]
noncomputable def Try.x72 : XCode := (.seq (.region (.step .text ⟨some 12, .move (.tmp 1), 3⟩ none
      (.step .text ⟨some 10, .assign (.tmp 12), 3⟩ none
      .nil)))
    (.block 0 (.code Try.c72ba)))
theorem Try.hx72 : compile Try.p72 (Try.f72.body.getD .skip) = Try.x72 := by kernel_rfl
theorem Try.ok72 : plansOk Try.p72 (Try.f72.body.getD .skip) = true := by kernel_rfl
noncomputable def Try.x72bal : XCode := (.block 1 (.seq (.region (.step .text ⟨some 13, .move (.tmp 10), 3⟩ none
      (.step .text ⟨some 14, .binOp .mul 3 (.const (.int .i64 2)) (.tmp 13) 3, 3⟩ none
      (.step .text ⟨some 15, .binOp .add 3 (.tmp 14) (.const (.int .i64 1)) 3, 3⟩ none
      (.step .text ⟨some 11, .assign (.tmp 15), 3⟩ none
      .nil)))))
    (.seq (.seq (.region (.step .text ⟨some 16, .move (.tmp 11), 3⟩ none
      (.step .text ⟨some 17, .move (.tmp 2), 3⟩ none
      (.step .text ⟨some 18, .binOp .geq 3 (.tmp 16) (.tmp 17) 3, 4⟩ none
      .nil))))
    (.cond (.tmp 18)
    (.exit 0)
    .skip))
    (.seq (.seq (.drawn (.step .pure ⟨some 19, .move (.tmp 11), 3⟩ none
      (.step .pure ⟨some 20, .binOp .add 3 (.tmp 19) (.const (.int .i64 1)) 3, 3⟩ none
      (.step .pure ⟨some 21, .move (.tmp 2), 3⟩ none
      (.step .pure ⟨some 22, .binOp .lss 3 (.tmp 20) (.tmp 21) 3, 4⟩ none
      (.step .pure ⟨some 23, .move (.tmp 22), 4⟩ none
      (.step .pure ⟨some 24, .move (.tmp 4), 64⟩ (some (some 23, true))
      (.step .pure ⟨some 25, .move (.tmp 0), 39⟩ (some (some 23, true))
      (.step .pure ⟨some 26, .move (.tmp 3), 3⟩ (some (some 23, true))
      (.step .pure ⟨some 27, .move (.tmp 11), 3⟩ (some (some 23, true))
      (.step .pure ⟨some 28, .binOp .add 3 (.tmp 26) (.tmp 27) 3, 3⟩ (some (some 23, true))
      (.step .pure ⟨some 29, .indexAddr 39 (.tmp 25) (.tmp 28), 0⟩ (some (some 23, true))
      (.step .pure ⟨some 31, .move (.tmp 0), 39⟩ (some (some 23, true))
      (.step .pure ⟨some 32, .move (.tmp 3), 3⟩ (some (some 23, true))
      (.step .pure ⟨some 33, .move (.tmp 11), 3⟩ (some (some 23, true))
      (.step .pure ⟨some 34, .binOp .add 3 (.tmp 32) (.tmp 33) 3, 3⟩ (some (some 23, true))
      (.step .pure ⟨some 35, .binOp .add 3 (.tmp 34) (.const (.int .i64 1)) 3, 3⟩ (some (some 23, true))
      (.step .pure ⟨some 36, .indexAddr 39 (.tmp 31) (.tmp 35), 0⟩ (some (some 23, true))
      (.step .load ⟨some 30, .load 27 (.tmp 29), 27⟩ (some (some 23, true))
      (.step .load ⟨some 37, .load 27 (.tmp 36), 27⟩ (some (some 23, true))
      (.step .eff ⟨some 38, .call { callee := (.value (.tmp 24)), args := #[(.tmp 30), (.tmp 37)], argTypes := #[27, 27] }, 3⟩ (some (some 23, true))
      (.step .pure ⟨some 39, .binOp .lss 3 (.tmp 38) (.const (.int .i64 0)) 3, 4⟩ (some (some 23, true))
      (.step .pure ⟨some 40, .pick (.tmp 23) (.tmp 39) (.const (.bool false)), 4⟩ none
      .nil)))))))))))))))))))))))
    (.cond (.tmp 40)
    (.region (.step .text ⟨some 41, .move (.tmp 11), 3⟩ none
      (.step .text ⟨some 42, .binOp .add 3 (.tmp 41) (.const (.int .i64 1)) 3, 3⟩ none
      (.step .text ⟨some 11, .assign (.tmp 42), 3⟩ none
      .nil))))
    .skip))
    (.seq (.seq (.drawn (.step .pure ⟨some 43, .move (.tmp 4), 64⟩ none
      (.step .pure ⟨some 44, .move (.tmp 0), 39⟩ none
      (.step .pure ⟨some 45, .move (.tmp 3), 3⟩ none
      (.step .pure ⟨some 46, .move (.tmp 10), 3⟩ none
      (.step .pure ⟨some 47, .binOp .add 3 (.tmp 45) (.tmp 46) 3, 3⟩ none
      (.step .pure ⟨some 48, .indexAddr 39 (.tmp 44) (.tmp 47), 0⟩ none
      (.step .pure ⟨some 50, .move (.tmp 0), 39⟩ none
      (.step .pure ⟨some 51, .move (.tmp 3), 3⟩ none
      (.step .pure ⟨some 52, .move (.tmp 11), 3⟩ none
      (.step .pure ⟨some 53, .binOp .add 3 (.tmp 51) (.tmp 52) 3, 3⟩ none
      (.step .pure ⟨some 54, .indexAddr 39 (.tmp 50) (.tmp 53), 0⟩ none
      (.step .load ⟨some 49, .load 27 (.tmp 48), 27⟩ none
      (.step .load ⟨some 55, .load 27 (.tmp 54), 27⟩ none
      (.step .eff ⟨some 56, .call { callee := (.value (.tmp 43)), args := #[(.tmp 49), (.tmp 55)], argTypes := #[27, 27] }, 3⟩ none
      (.step .pure ⟨some 57, .binOp .lss 3 (.tmp 56) (.const (.int .i64 0)) 3, 4⟩ none
      (.step .pure ⟨some 58, .unOp .not 4 (.tmp 57), 4⟩ none
      .nil)))))))))))))))))
    (.cond (.tmp 58)
    .ret
    .skip))
    (.seq (.drawn (.step .pure ⟨some 59, .move (.tmp 0), 39⟩ none
      (.step .pure ⟨some 60, .move (.tmp 3), 3⟩ none
      (.step .pure ⟨some 61, .move (.tmp 10), 3⟩ none
      (.step .pure ⟨some 62, .binOp .add 3 (.tmp 60) (.tmp 61) 3, 3⟩ none
      (.step .pure ⟨some 63, .move (.tmp 0), 39⟩ none
      (.step .pure ⟨some 64, .move (.tmp 3), 3⟩ none
      (.step .pure ⟨some 65, .move (.tmp 11), 3⟩ none
      (.step .pure ⟨some 66, .binOp .add 3 (.tmp 64) (.tmp 65) 3, 3⟩ none
      (.step .pure ⟨some 67, .move (.tmp 0), 39⟩ none
      (.step .pure ⟨some 68, .move (.tmp 3), 3⟩ none
      (.step .pure ⟨some 69, .move (.tmp 11), 3⟩ none
      (.step .pure ⟨some 70, .binOp .add 3 (.tmp 68) (.tmp 69) 3, 3⟩ none
      (.step .pure ⟨some 71, .indexAddr 39 (.tmp 67) (.tmp 70), 0⟩ none
      (.step .pure ⟨some 73, .move (.tmp 0), 39⟩ none
      (.step .pure ⟨some 74, .move (.tmp 3), 3⟩ none
      (.step .pure ⟨some 75, .move (.tmp 10), 3⟩ none
      (.step .pure ⟨some 76, .binOp .add 3 (.tmp 74) (.tmp 75) 3, 3⟩ none
      (.step .pure ⟨some 77, .indexAddr 39 (.tmp 73) (.tmp 76), 0⟩ none
      (.step .load ⟨some 72, .load 27 (.tmp 71), 27⟩ none
      (.step .load ⟨some 78, .load 27 (.tmp 77), 27⟩ none
      (.step .pure ⟨some 79, .indexAddr 39 (.tmp 59) (.tmp 62), 0⟩ none
      (.step .last ⟨none, .store 27 (.tmp 79) (.tmp 72), 0⟩ none
      (.step .pure ⟨some 80, .indexAddr 39 (.tmp 63) (.tmp 66), 0⟩ none
      (.step .last ⟨none, .store 27 (.tmp 80) (.tmp 78), 0⟩ none
      .nil)))))))))))))))))))))))))
    (.region (.step .text ⟨some 81, .move (.tmp 11), 3⟩ none
      (.step .text ⟨some 10, .assign (.tmp 81), 3⟩ none
      .nil)))))))))
theorem Try.hx72bal : compile Try.p72 (part1 Try.c72ba 0) = Try.x72bal := by kernel_rfl
theorem Try.ok72bal : plansOk Try.p72 (part1 Try.c72ba 0) = true := by kernel_rfl
theorem Try.lp72ba : Try.c72ba = .loop (part1 Try.c72ba 0) := by kernel_rfl
theorem Try.fb72 : Try.f72.body = some (Try.f72.body.getD .skip) := by kernel_rfl
theorem Try.en72 : Enters Try.prog 72 := ⟨Try.f72, Try.func72, by kernel_rfl, by kernel_rfl⟩
theorem Try.en73 : Enters Try.prog 73 := ⟨Try.f73, Try.func73, by kernel_rfl, by kernel_rfl⟩
theorem Try.en74 : Enters Try.prog 74 := ⟨Try.f74, Try.func74, by kernel_rfl, by kernel_rfl⟩
/-- slices.medianAdjacentCmpFunc[caucus/api.Item] -/
def Try.p75 : Nat → Option Plan := fun i => match i with
  | _ => none
noncomputable def Try.x75 : XCode := (.seq (.region (.step .text ⟨some 8, .assign (.const (.int .i64 0)), 3⟩ none
      .nil))
    (.seq (.region (.step .text ⟨some 9, .move (.tmp 0), 39⟩ none
      (.step .text ⟨some 10, .move (.tmp 1), 3⟩ none
      (.step .text ⟨some 11, .binOp .sub 3 (.tmp 10) (.const (.int .i64 1)) 3, 3⟩ none
      (.step .text ⟨some 12, .move (.tmp 1), 3⟩ none
      (.step .text ⟨some 13, .move (.tmp 1), 3⟩ none
      (.step .text ⟨some 14, .binOp .add 3 (.tmp 13) (.const (.int .i64 1)) 3, 3⟩ none
      (.step .text ⟨some 15, .move (.tmp 2), 123⟩ none
      (.step .text ⟨some 16, .move (.tmp 3), 64⟩ none
      (.step .text ⟨some 17, .call { callee := (.value (.func 76)), args := #[(.tmp 9), (.tmp 11), (.tmp 12), (.tmp 14), (.tmp 15), (.tmp 16)], argTypes := #[39, 3, 3, 3, 123, 64] }, 3⟩ none
      (.step .text ⟨some 8, .assign (.tmp 17), 3⟩ none
      .nil)))))))))))
    .ret))
theorem Try.hx75 : compile Try.p75 (Try.f75.body.getD .skip) = Try.x75 := by kernel_rfl
theorem Try.ok75 : plansOk Try.p75 (Try.f75.body.getD .skip) = true := by kernel_rfl
theorem Try.fb75 : Try.f75.body = some (Try.f75.body.getD .skip) := by kernel_rfl
theorem Try.en75 : Enters Try.prog 75 := ⟨Try.f75, Try.func75, by kernel_rfl, by kernel_rfl⟩
/-- slices.medianCmpFunc[caucus/api.Item] -/
def Try.p76 : Nat → Option Plan := fun i => match i with
  | _ => none
noncomputable def Try.x76 : XCode := (.seq (.region (.step .text ⟨some 12, .assign (.const (.int .i64 0)), 3⟩ none
      .nil))
    (.seq (.region (.step .text ⟨some 14, .move (.tmp 0), 39⟩ none
      (.step .text ⟨some 15, .move (.tmp 1), 3⟩ none
      (.step .text ⟨some 16, .move (.tmp 2), 3⟩ none
      (.step .text ⟨some 17, .move (.tmp 4), 123⟩ none
      (.step .text ⟨some 18, .move (.tmp 5), 64⟩ none
      (.step .text ⟨some 19, .call { callee := (.value (.func 79)), args := #[(.tmp 14), (.tmp 15), (.tmp 16), (.tmp 17), (.tmp 18)], argTypes := #[39, 3, 3, 123, 64] }, 129⟩ none
      (.step .text ⟨some 13, .move (.tmp 19), 129⟩ none
      (.step .text ⟨some 20, .extract (.tmp 13) 0, 3⟩ none
      (.step .text ⟨some 21, .extract (.tmp 13) 1, 3⟩ none
      (.step .text ⟨some 1, .assign (.tmp 20), 3⟩ none
      (.step .text ⟨some 2, .assign (.tmp 21), 3⟩ none
      .nil))))))))))))
    (.seq (.region (.step .text ⟨some 23, .move (.tmp 0), 39⟩ none
      (.step .text ⟨some 24, .move (.tmp 2), 3⟩ none
      (.step .text ⟨some 25, .move (.tmp 3), 3⟩ none
      (.step .text ⟨some 26, .move (.tmp 4), 123⟩ none
      (.step .text ⟨some 27, .move (.tmp 5), 64⟩ none
      (.step .text ⟨some 28, .call { callee := (.value (.func 79)), args := #[(.tmp 23), (.tmp 24), (.tmp 25), (.tmp 26), (.tmp 27)], argTypes := #[39, 3, 3, 123, 64] }, 129⟩ none
      (.step .text ⟨some 22, .move (.tmp 28), 129⟩ none
      (.step .text ⟨some 29, .extract (.tmp 22) 0, 3⟩ none
      (.step .text ⟨some 30, .extract (.tmp 22) 1, 3⟩ none
      (.step .text ⟨some 2, .assign (.tmp 29), 3⟩ none
      (.step .text ⟨some 3, .assign (.tmp 30), 3⟩ none
      .nil))))))))))))
    (.seq (.region (.step .text ⟨some 32, .move (.tmp 0), 39⟩ none
      (.step .text ⟨some 33, .move (.tmp 1), 3⟩ none
      (.step .text ⟨some 34, .move (.tmp 2), 3⟩ none
      (.step .text ⟨some 35, .move (.tmp 4), 123⟩ none
      (.step .text ⟨some 36, .move (.tmp 5), 64⟩ none
      (.step .text ⟨some 37, .call { callee := (.value (.func 79)), args := #[(.tmp 32), (.tmp 33), (.tmp 34), (.tmp 35), (.tmp 36)], argTypes := #[39, 3, 3, 123, 64] }, 129⟩ none
      (.step .text ⟨some 31, .move (.tmp 37), 129⟩ none
      (.step .text ⟨some 38, .extract (.tmp 31) 0, 3⟩ none
      (.step .text ⟨some 39, .extract (.tmp 31) 1, 3⟩ none
      (.step .text ⟨some 1, .assign (.tmp 38), 3⟩ none
      (.step .text ⟨some 2, .assign (.tmp 39), 3⟩ none
      .nil))))))))))))
    (.seq (.region (.step .text ⟨some 40, .move (.tmp 2), 3⟩ none
      (.step .text ⟨some 12, .assign (.tmp 40), 3⟩ none
      .nil)))
    .ret)))))
theorem Try.hx76 : compile Try.p76 (Try.f76.body.getD .skip) = Try.x76 := by kernel_rfl
theorem Try.ok76 : plansOk Try.p76 (Try.f76.body.getD .skip) = true := by kernel_rfl
theorem Try.fb76 : Try.f76.body = some (Try.f76.body.getD .skip) := by kernel_rfl
theorem Try.en76 : Enters Try.prog 76 := ⟨Try.f76, Try.func76, by kernel_rfl, by kernel_rfl⟩
/-- caucus/deps.Items -/
def Try.p77 : Nat → Option Plan := fun i => match i with
  | _ => none
noncomputable def Try.x77 : XCode := (.seq (.region (.step .text ⟨some 1, .box 31 (.tmp 0), 0⟩ none
      (.step .text ⟨some 2, .assign (.const .nilFunc), 126⟩ none
      .nil)))
    (.seq (.region (.step .text ⟨some 3, .makeFunc (.func 80) #[] #[(.tmp 1)], 125⟩ none
      (.step .text ⟨some 2, .assign (.tmp 3), 126⟩ none
      .nil)))
    .ret))
theorem Try.hx77 : compile Try.p77 (Try.f77.body.getD .skip) = Try.x77 := by kernel_rfl
theorem Try.ok77 : plansOk Try.p77 (Try.f77.body.getD .skip) = true := by kernel_rfl
theorem Try.fb77 : Try.f77.body = some (Try.f77.body.getD .skip) := by kernel_rfl
theorem Try.en77 : Enters Try.prog 77 := ⟨Try.f77, Try.func77, by kernel_rfl, by kernel_rfl⟩
/-- (*caucus/graph.Graph).before -/
def Try.p78 : Nat → Option Plan := fun i => match i with
  | 1 => some ⟨[], [10], (.pure 0 (.pure 1 (.pure 2 (.load 3 [3, 5, 6, 7, 8, 10, 11] (.load 4 [4, 5, 6, 7, 8, 10, 11] (.fork (.eff 5 (.pure 6 (.pure 7 (.pure 8 (.eff 9 (.last 10 (.pure 11 .nil))))))) (.eff 9 (.eff 5 (.pure 6 (.pure 7 (.pure 8 (.last 10 (.pure 11 .nil)))))))))))))⟩
  | 2 => some ⟨[], [10], (.pure 0 (.pure 1 (.pure 2 (.load 3 [3, 5, 6, 7, 8, 10, 11] (.load 4 [4, 5, 6, 7, 8, 10, 11] (.fork (.eff 5 (.pure 6 (.pure 7 (.pure 8 (.eff 9 (.last 10 (.pure 11 .nil))))))) (.eff 9 (.eff 5 (.pure 6 (.pure 7 (.pure 8 (.last 10 (.pure 11 .nil)))))))))))))⟩
  | _ => none
noncomputable def Try.x78 : XCode := (.seq (.region (.step .text ⟨some 4, .box 27 (.tmp 1), 0⟩ none
      (.step .text ⟨some 5, .box 27 (.tmp 2), 0⟩ none
      (.step .text ⟨some 6, .assign (.const (.int .i64 0)), 3⟩ none
      .nil))))
    (.seq (.drawn (.step .pure ⟨some 12, .move (.tmp 0), 59⟩ none
      (.step .pure ⟨some 13, .nilCheck (.tmp 12), 0⟩ none
      (.step .pure ⟨some 14, .fieldAddr 80 (.tmp 13) 0, 0⟩ none
      (.step .load ⟨some 15, .load 75 (.tmp 14), 75⟩ none
      (.step .load ⟨some 16, .load 27 (.tmp 4), 27⟩ none
      (.fork (.step .eff ⟨some 17, .call { callee := (.value (.func 46)), args := #[(.tmp 15), (.tmp 16)], argTypes := #[75, 27] }, 71⟩ none
      (.step .pure ⟨some 11, .move (.tmp 17), 71⟩ none
      (.step .pure ⟨some 18, .extract (.tmp 11) 0, 33⟩ none
      (.step .pure ⟨some 19, .extract (.tmp 11) 1, 4⟩ none
      (.step .eff ⟨some 7, .alloc 33, 0⟩ none
      (.step .last ⟨none, .store 33 (.tmp 7) (.tmp 18), 0⟩ none
      (.step .pure ⟨some 8, .assign (.tmp 19), 4⟩ none
      .nil)))))))
      (.step .eff ⟨some 7, .alloc 33, 0⟩ none
      (.step .eff ⟨some 17, .call { callee := (.value (.func 46)), args := #[(.tmp 15), (.tmp 16)], argTypes := #[75, 27] }, 71⟩ none
      (.step .pure ⟨some 11, .move (.tmp 17), 71⟩ none
      (.step .pure ⟨some 18, .extract (.tmp 11) 0, 33⟩ none
      (.step .pure ⟨some 19, .extract (.tmp 11) 1, 4⟩ none
      (.step .last ⟨none, .store 33 (.tmp 7) (.tmp 18), 0⟩ none
      (.step .pure ⟨some 8, .assign (.tmp 19), 4⟩ none
      .nil))))))))))))))
    (.seq (.drawn (.step .pure ⟨some 21, .move (.tmp 0), 59⟩ none
      (.step .pure ⟨some 22, .nilCheck (.tmp 21), 0⟩ none
      (.step .pure ⟨some 23, .fieldAddr 80 (.tmp 22) 0, 0⟩ none
      (.step .load ⟨some 24, .load 75 (.tmp 23), 75⟩ none
      (.step .load ⟨some 25, .load 27 (.tmp 5), 27⟩ none
      (.fork (.step .eff ⟨some 26, .call { callee := (.value (.func 46)), args := #[(.tmp 24), (.tmp 25)], argTypes := #[75, 27] }, 71⟩ none
      (.step .pure ⟨some 20, .move (.tmp 26), 71⟩ none
      (.step .pure ⟨some 27, .extract (.tmp 20) 0, 33⟩ none
      (.step .pure ⟨some 28, .extract (.tmp 20) 1, 4⟩ none
      (.step .eff ⟨some 9, .alloc 33, 0⟩ none
      (.step .last ⟨none, .store 33 (.tmp 9) (.tmp 27), 0⟩ none
      (.step .pure ⟨some 10, .assign (.tmp 28), 4⟩ none
      .nil)))))))
      (.step .eff ⟨some 9, .alloc 33, 0⟩ none
      (.step .eff ⟨some 26, .call { callee := (.value (.func 46)), args := #[(.tmp 24), (.tmp 25)], argTypes := #[75, 27] }, 71⟩ none
      (.step .pure ⟨some 20, .move (.tmp 26), 71⟩ none
      (.step .pure ⟨some 27, .extract (.tmp 20) 0, 33⟩ none
      (.step .pure ⟨some 28, .extract (.tmp 20) 1, 4⟩ none
      (.step .last ⟨none, .store 33 (.tmp 9) (.tmp 27), 0⟩ none
      (.step .pure ⟨some 10, .assign (.tmp 28), 4⟩ none
      .nil))))))))))))))
    (.seq (.block 0 (.seq (.region (.step .text ⟨some 30, .load 27 (.tmp 4), 27⟩ none
      (.step .text ⟨some 31, .load 27 (.tmp 5), 27⟩ none
      (.step .text ⟨some 32, .binOp .eql 27 (.tmp 30) (.tmp 31) 27, 4⟩ none
      (.step .text ⟨some 29, .assign (.tmp 32), 4⟩ none
      .nil)))))
    (.cond (.tmp 29)
    (.seq (.region (.step .text ⟨some 6, .assign (.const (.int .i64 0)), 3⟩ none
      .nil))
    .ret)
    (.seq (.region (.step .text ⟨some 34, .fieldAddr 33 (.tmp 7) 2, 0⟩ none
      (.step .text ⟨some 35, .load 3 (.tmp 34), 3⟩ none
      (.step .text ⟨some 36, .fieldAddr 33 (.tmp 9) 2, 0⟩ none
      (.step .text ⟨some 37, .load 3 (.tmp 36), 3⟩ none
      (.step .text ⟨some 38, .binOp .lss 3 (.tmp 35) (.tmp 37) 3, 4⟩ none
      (.step .text ⟨some 39, .move (.tmp 38), 4⟩ none
      (.step .text ⟨some 40, .fieldAddr 33 (.tmp 7) 2, 0⟩ (some (some 39, false))
      (.step .text ⟨some 41, .load 3 (.tmp 40), 3⟩ (some (some 39, false))
      (.step .text ⟨some 42, .fieldAddr 33 (.tmp 9) 2, 0⟩ (some (some 39, false))
      (.step .text ⟨some 43, .load 3 (.tmp 42), 3⟩ (some (some 39, false))
      (.step .text ⟨some 44, .binOp .eql 3 (.tmp 41) (.tmp 43) 3, 4⟩ (some (some 39, false))
      (.step .text ⟨some 45, .move (.tmp 44), 4⟩ (some (some 39, false))
      (.step .text ⟨some 46, .load 27 (.tmp 4), 27⟩ (some (some 45, true))
      (.step .text ⟨some 47, .load 27 (.tmp 5), 27⟩ (some (some 45, true))
      (.step .text ⟨some 48, .call { callee := (.value (.func 29)), args := #[(.tmp 46), (.tmp 47)], argTypes := #[27, 27] }, 4⟩ (some (some 45, true))
      (.step .text ⟨some 49, .pick (.tmp 45) (.tmp 48) (.const (.bool false)), 4⟩ (some (some 39, false))
      (.step .text ⟨some 50, .pick (.tmp 39) (.const (.bool true)) (.tmp 49), 4⟩ none
      (.step .text ⟨some 33, .assign (.tmp 50), 4⟩ none
      .nil)))))))))))))))))))
    (.cond (.tmp 33)
    (.seq (.region (.step .text ⟨some 6, .assign (.const (.int .i64 (-1))), 3⟩ none
      .nil))
    .ret)
    .skip)))))
    (.seq (.region (.step .text ⟨some 6, .assign (.const (.int .i64 1)), 3⟩ none
      .nil))
    .ret)))))
theorem Try.hx78 : compile Try.p78 (Try.f78.body.getD .skip) = Try.x78 := by kernel_rfl
theorem Try.ok78 : plansOk Try.p78 (Try.f78.body.getD .skip) = true := by kernel_rfl
theorem Try.fb78 : Try.f78.body = some (Try.f78.body.getD .skip) := by kernel_rfl
theorem Try.en78 : Enters Try.prog 78 := ⟨Try.f78, Try.func78, by kernel_rfl, by kernel_rfl⟩
/-- slices.order2CmpFunc[caucus/api.Item] -/
def Try.p79 : Nat → Option Plan := fun i => match i with
  | 1 => some ⟨[], [], (.pure 0 (.pure 1 (.pure 2 (.pure 3 (.pure 5 (.pure 6 (.pure 7 (.load 4 [4] (.load 8 [8] (.eff 9 (.pure 10 .nil)))))))))))⟩
  | _ => none
noncomputable def Try.x79 : XCode := (.seq (.region (.step .text ⟨some 10, .assign (.const (.int .i64 0)), 3⟩ none
      (.step .text ⟨some 11, .assign (.const (.int .i64 0)), 3⟩ none
      .nil)))
    (.seq (.seq (.drawn (.step .pure ⟨some 12, .move (.tmp 4), 64⟩ none
      (.step .pure ⟨some 13, .move (.tmp 0), 39⟩ none
      (.step .pure ⟨some 14, .move (.tmp 2), 3⟩ none
      (.step .pure ⟨some 15, .indexAddr 39 (.tmp 13) (.tmp 14), 0⟩ none
      (.step .pure ⟨some 17, .move (.tmp 0), 39⟩ none
      (.step .pure ⟨some 18, .move (.tmp 1), 3⟩ none
      (.step .pure ⟨some 19, .indexAddr 39 (.tmp 17) (.tmp 18), 0⟩ none
      (.step .load ⟨some 16, .load 27 (.tmp 15), 27⟩ none
      (.step .load ⟨some 20, .load 27 (.tmp 19), 27⟩ none
      (.step .eff ⟨some 21, .call { callee := (.value (.tmp 12)), args := #[(.tmp 16), (.tmp 20)], argTypes := #[27, 27] }, 3⟩ none
      (.step .pure ⟨some 22, .binOp .lss 3 (.tmp 21) (.const (.int .i64 0)) 3, 4⟩ none
      .nil))))))))))))
    (.cond (.tmp 22)
    (.seq (.region (.step .text ⟨some 23, .move (.tmp 3), 123⟩ none
      (.step .text ⟨some 24, .nilCheck (.tmp 23), 0⟩ none
      (.step .text ⟨some 25, .load 3 (.tmp 24), 3⟩ none
      (.step .text ⟨some 26, .binOp .add 3 (.tmp 25) (.const (.int .i64 1)) 3, 3⟩ none
      (.step .text ⟨some 27, .nilCheck (.tmp 23), 0⟩ none
      (.step .text ⟨none, .store 3 (.tmp 27) (.tmp 26), 0⟩ none
      .nil)))))))
    (.seq (.region (.step .text ⟨some 28, .move (.tmp 2), 3⟩ none
      (.step .text ⟨some 29, .move (.tmp 1), 3⟩ none
      (.step .text ⟨some 10, .assign (.tmp 28), 3⟩ none
      (.step .text ⟨some 11, .assign (.tmp 29), 3⟩ none
      .nil)))))
    .ret))
    .skip))
    (.seq (.region (.step .text ⟨some 30, .move (.tmp 1), 3⟩ none
      (.step .text ⟨some 31, .move (.tmp 2), 3⟩ none
      (.step .text ⟨some 10, .assign (.tmp 30), 3⟩ none
      (.step .text ⟨some 11, .assign (.tmp 31), 3⟩ none
      .nil)))))
    .ret)))
theorem Try.hx79 : compile Try.p79 (Try.f79.body.getD .skip) = Try.x79 := by kernel_rfl
theorem Try.ok79 : plansOk Try.p79 (Try.f79.body.getD .skip) = true := by kernel_rfl
theorem Try.fb79 : Try.f79.body = some (Try.f79.body.getD .skip) := by kernel_rfl
theorem Try.en79 : Enters Try.prog 79 := ⟨Try.f79, Try.func79, by kernel_rfl, by kernel_rfl⟩
/-- caucus/deps.Items$1 -/
def Try.p80 : Nat → Option Plan := fun i => match i with
  | _ => none
noncomputable def Try.c80ba : Code := partAt (Try.f80.body.getD .skip) [1, 0]
noncomputable def Try.c80balbbaabba : Code := partAt (Try.f80.body.getD .skip) [1, 0, 0, 1, 1, 0, 0, 1, 1, 0]
noncomputable def Try.x80 : XCode := (.seq (.region (.step .text ⟨some 6, .load 31 (.tmp 1), 31⟩ none
      (.step .text ⟨some 7, .move (.const (.int .i64 0)), 3⟩ none
      .nil)))
    (.block 0 (.code Try.c80ba)))
theorem Try.hx80 : compile Try.p80 (Try.f80.body.getD .skip) = Try.x80 := by kernel_rfl
theorem Try.ok80 : plansOk Try.p80 (Try.f80.body.getD .skip) = true := by kernel_rfl
noncomputable def Try.x80bal : XCode := (.seq (.region (.step .text ⟨some 8, .binOp .lss 3 (.tmp 7) (.const (.int .i64 7)) 3, 0⟩ none
      .nil))
    (.seq (.cond (.tmp 8)
    .skip
    (.exit 0))
    (.seq (.block 1 (.seq (.region (.step .text ⟨some 9, .move (.tmp 7), 3⟩ none
      (.step .text ⟨some 10, .index 31 (.tmp 6) (.tmp 7), 3⟩ none
      (.step .text ⟨some 3, .assign (.tmp 9), 3⟩ none
      (.step .text ⟨some 4, .assign (.tmp 10), 3⟩ none
      .nil)))))
    (.seq (.region (.step .text ⟨some 5, .assign (.const (.int .i64 1)), 3⟩ none
      .nil))
    (.block 2 (.code Try.c80balbbaabba)))))
    (.region (.step .text ⟨some 22, .binOp .add 3 (.tmp 7) (.const (.int .i64 1)) 3, 3⟩ none
      (.step .text ⟨some 7, .move (.tmp 22), 3⟩ none
      .nil))))))
theorem Try.hx80bal : compile Try.p80 (part1 Try.c80ba 0) = Try.x80bal := by kernel_rfl
theorem Try.ok80bal : plansOk Try.p80 (part1 Try.c80ba 0) = true := by kernel_rfl
theorem Try.lp80ba : Try.c80ba = .loop (part1 Try.c80ba 0) := by kernel_rfl
noncomputable def Try.x80balbbaabbal : XCode := (.seq (.seq (.region (.step .text ⟨some 11, .move (.tmp 5), 3⟩ none
      (.step .text ⟨some 12, .move (.tmp 4), 3⟩ none
      (.step .text ⟨some 13, .binOp .leq 3 (.tmp 11) (.tmp 12) 3, 4⟩ none
      .nil))))
    (.cond (.tmp 13)
    .skip
    (.exit 2)))
    (.seq (.block 3 (.seq (.region (.step .text ⟨some 16, .move (.tmp 0), 54⟩ none
      (.step .text ⟨some 17, .move (.tmp 3), 3⟩ none
      (.step .text ⟨some 18, .move (.tmp 5), 3⟩ none
      (.step .text ⟨some 19, .build 27 #[(0, (.tmp 17)), (1, (.tmp 18))], 27⟩ none
      (.step .text ⟨some 20, .call { callee := (.value (.tmp 16)), args := #[(.tmp 19)], argTypes := #[27] }, 4⟩ none
      (.step .text ⟨some 21, .unOp .not 4 (.tmp 20), 4⟩ none
      .nil)))))))
    (.cond (.tmp 21)
    .ret
    .skip)))
    (.region (.step .text ⟨some 14, .move (.tmp 5), 3⟩ none
      (.step .text ⟨some 15, .binOp .add 3 (.tmp 14) (.const (.int .i64 1)) 3, 3⟩ none
      (.step .text ⟨some 5, .assign (.tmp 15), 3⟩ none
      .nil))))))
theorem Try.hx80balbbaabbal : compile Try.p80 (part1 Try.c80balbbaabba 0) = Try.x80balbbaabbal := by kernel_rfl
theorem Try.ok80balbbaabbal : plansOk Try.p80 (part1 Try.c80balbbaabba 0) = true := by kernel_rfl
theorem Try.lp80balbbaabba : Try.c80balbbaabba = .loop (part1 Try.c80balbbaabba 0) := by kernel_rfl
theorem Try.fb80 : Try.f80.body = some (Try.f80.body.getD .skip) := by kernel_rfl
theorem Try.en80 : Enters Try.prog 80 := ⟨Try.f80, Try.func80, by kernel_rfl, by kernel_rfl⟩
theorem Try.LK3 : loadKind Try.prog 3 = some none := by kernel_rfl
theorem Try.LK4 : loadKind Try.prog 4 = some none := by kernel_rfl
theorem Try.LK23 : loadKind Try.prog 23 = some none := by kernel_rfl
theorem Try.LK27 : loadKind Try.prog 27 = some (some 2) := by kernel_rfl
theorem Try.LK31 : loadKind Try.prog 31 = some (some 7) := by kernel_rfl
theorem Try.LK33 : loadKind Try.prog 33 = some (some 14) := by kernel_rfl
theorem Try.LK35 : loadKind Try.prog 35 = some (some 17) := by kernel_rfl
theorem Try.LK36 : loadKind Try.prog 36 = some none := by kernel_rfl
theorem Try.LK38 : loadKind Try.prog 38 = some none := by kernel_rfl
theorem Try.LK39 : loadKind Try.prog 39 = some none := by kernel_rfl
theorem Try.LK40 : loadKind Try.prog 40 = some none := by kernel_rfl
theorem Try.LK42 : loadKind Try.prog 42 = some (some 3) := by kernel_rfl
theorem Try.LK46 : loadKind Try.prog 46 = some none := by kernel_rfl
theorem Try.LK59 : loadKind Try.prog 59 = some none := by kernel_rfl
theorem Try.LK62 : loadKind Try.prog 62 = some (some 3) := by kernel_rfl
theorem Try.LK66 : loadKind Try.prog 66 = some none := by kernel_rfl
theorem Try.LK75 : loadKind Try.prog 75 = some none := by kernel_rfl
theorem Try.LK77 : loadKind Try.prog 77 = some none := by kernel_rfl
theorem Try.LK80 : loadKind Try.prog 80 = some (some 2) := by kernel_rfl
theorem Try.LK84 : loadKind Try.prog 84 = some none := by kernel_rfl
theorem Try.LK85 : loadKind Try.prog 85 = some none := by kernel_rfl
theorem Try.LK86 : loadKind Try.prog 86 = some none := by kernel_rfl
theorem Try.LK88 : loadKind Try.prog 88 = some (some 8) := by kernel_rfl
theorem Try.LK99 : loadKind Try.prog 99 = some (some 15) := by kernel_rfl
theorem Try.LK101 : loadKind Try.prog 101 = some (some 15) := by kernel_rfl
theorem Try.LK119 : loadKind Try.prog 119 = some none := by kernel_rfl
theorem Try.LK : loadKind Try.prog 3 = some none ∧ loadKind Try.prog 4 = some none ∧ loadKind Try.prog 23 = some none ∧ loadKind Try.prog 27 = some (some 2) ∧ loadKind Try.prog 31 = some (some 7) ∧ loadKind Try.prog 33 = some (some 14) ∧ loadKind Try.prog 35 = some (some 17) ∧ loadKind Try.prog 36 = some none ∧ loadKind Try.prog 38 = some none ∧ loadKind Try.prog 39 = some none ∧ loadKind Try.prog 40 = some none ∧ loadKind Try.prog 42 = some (some 3) ∧ loadKind Try.prog 46 = some none ∧ loadKind Try.prog 59 = some none ∧ loadKind Try.prog 62 = some (some 3) ∧ loadKind Try.prog 66 = some none ∧ loadKind Try.prog 75 = some none ∧ loadKind Try.prog 77 = some none ∧ loadKind Try.prog 80 = some (some 2) ∧ loadKind Try.prog 84 = some none ∧ loadKind Try.prog 85 = some none ∧ loadKind Try.prog 86 = some none ∧ loadKind Try.prog 88 = some (some 8) ∧ loadKind Try.prog 99 = some (some 15) ∧ loadKind Try.prog 101 = some (some 15) ∧ loadKind Try.prog 119 = some none := ⟨Try.LK3, Try.LK4, Try.LK23, Try.LK27, Try.LK31, Try.LK33, Try.LK35, Try.LK36, Try.LK38, Try.LK39, Try.LK40, Try.LK42, Try.LK46, Try.LK59, Try.LK62, Try.LK66, Try.LK75, Try.LK77, Try.LK80, Try.LK84, Try.LK85, Try.LK86, Try.LK88, Try.LK99, Try.LK101, Try.LK119⟩
theorem Try.FO27_0 : fieldOff Try.prog 27 0 = some 0 := by kernel_rfl
theorem Try.FO27_1 : fieldOff Try.prog 27 1 = some 1 := by kernel_rfl
theorem Try.FO33_1 : fieldOff Try.prog 33 1 = some 6 := by kernel_rfl
theorem Try.FO33_2 : fieldOff Try.prog 33 2 = some 13 := by kernel_rfl
theorem Try.FO35_0 : fieldOff Try.prog 35 0 = some 0 := by kernel_rfl
theorem Try.FO35_1 : fieldOff Try.prog 35 1 = some 2 := by kernel_rfl
theorem Try.FO35_2 : fieldOff Try.prog 35 2 = some 16 := by kernel_rfl
theorem Try.FO42_0 : fieldOff Try.prog 42 0 = some 0 := by kernel_rfl
theorem Try.FO42_1 : fieldOff Try.prog 42 1 = some 1 := by kernel_rfl
theorem Try.FO42_2 : fieldOff Try.prog 42 2 = some 2 := by kernel_rfl
theorem Try.FO62_0 : fieldOff Try.prog 62 0 = some 0 := by kernel_rfl
theorem Try.FO62_1 : fieldOff Try.prog 62 1 = some 1 := by kernel_rfl
theorem Try.FO62_2 : fieldOff Try.prog 62 2 = some 2 := by kernel_rfl
theorem Try.FO80_0 : fieldOff Try.prog 80 0 = some 0 := by kernel_rfl
theorem Try.FO80_1 : fieldOff Try.prog 80 1 = some 1 := by kernel_rfl
theorem Try.FO88_0 : fieldOff Try.prog 88 0 = some 0 := by kernel_rfl
theorem Try.FO88_1 : fieldOff Try.prog 88 1 = some 1 := by kernel_rfl
theorem Try.FO88_2 : fieldOff Try.prog 88 2 = some 2 := by kernel_rfl
theorem Try.FO88_3 : fieldOff Try.prog 88 3 = some 3 := by kernel_rfl
theorem Try.FO88_4 : fieldOff Try.prog 88 4 = some 4 := by kernel_rfl
theorem Try.FO88_5 : fieldOff Try.prog 88 5 = some 5 := by kernel_rfl
theorem Try.FO88_6 : fieldOff Try.prog 88 6 = some 6 := by kernel_rfl
theorem Try.FO88_7 : fieldOff Try.prog 88 7 = some 7 := by kernel_rfl
theorem Try.FO99_0 : fieldOff Try.prog 99 0 = some 0 := by kernel_rfl
theorem Try.FO99_1 : fieldOff Try.prog 99 1 = some 1 := by kernel_rfl
theorem Try.FO99_2 : fieldOff Try.prog 99 2 = some 8 := by kernel_rfl
theorem Try.FO101_0 : fieldOff Try.prog 101 0 = some 0 := by kernel_rfl
theorem Try.FO101_1 : fieldOff Try.prog 101 1 = some 1 := by kernel_rfl
theorem Try.FO101_2 : fieldOff Try.prog 101 2 = some 8 := by kernel_rfl
theorem Try.FO115_0 : fieldOff Try.prog 115 0 = some 0 := by kernel_rfl
theorem Try.FO115_1 : fieldOff Try.prog 115 1 = some 2 := by kernel_rfl
theorem Try.FO : fieldOff Try.prog 27 0 = some 0 ∧ fieldOff Try.prog 27 1 = some 1 ∧ fieldOff Try.prog 33 1 = some 6 ∧ fieldOff Try.prog 33 2 = some 13 ∧ fieldOff Try.prog 35 0 = some 0 ∧ fieldOff Try.prog 35 1 = some 2 ∧ fieldOff Try.prog 35 2 = some 16 ∧ fieldOff Try.prog 42 0 = some 0 ∧ fieldOff Try.prog 42 1 = some 1 ∧ fieldOff Try.prog 42 2 = some 2 ∧ fieldOff Try.prog 62 0 = some 0 ∧ fieldOff Try.prog 62 1 = some 1 ∧ fieldOff Try.prog 62 2 = some 2 ∧ fieldOff Try.prog 80 0 = some 0 ∧ fieldOff Try.prog 80 1 = some 1 ∧ fieldOff Try.prog 88 0 = some 0 ∧ fieldOff Try.prog 88 1 = some 1 ∧ fieldOff Try.prog 88 2 = some 2 ∧ fieldOff Try.prog 88 3 = some 3 ∧ fieldOff Try.prog 88 4 = some 4 ∧ fieldOff Try.prog 88 5 = some 5 ∧ fieldOff Try.prog 88 6 = some 6 ∧ fieldOff Try.prog 88 7 = some 7 ∧ fieldOff Try.prog 99 0 = some 0 ∧ fieldOff Try.prog 99 1 = some 1 ∧ fieldOff Try.prog 99 2 = some 8 ∧ fieldOff Try.prog 101 0 = some 0 ∧ fieldOff Try.prog 101 1 = some 1 ∧ fieldOff Try.prog 101 2 = some 8 ∧ fieldOff Try.prog 115 0 = some 0 ∧ fieldOff Try.prog 115 1 = some 2 := ⟨Try.FO27_0, Try.FO27_1, Try.FO33_1, Try.FO33_2, Try.FO35_0, Try.FO35_1, Try.FO35_2, Try.FO42_0, Try.FO42_1, Try.FO42_2, Try.FO62_0, Try.FO62_1, Try.FO62_2, Try.FO80_0, Try.FO80_1, Try.FO88_0, Try.FO88_1, Try.FO88_2, Try.FO88_3, Try.FO88_4, Try.FO88_5, Try.FO88_6, Try.FO88_7, Try.FO99_0, Try.FO99_1, Try.FO99_2, Try.FO101_0, Try.FO101_1, Try.FO101_2, Try.FO115_0, Try.FO115_1⟩
theorem Try.AO31 : arrayOf Try.prog 31 = some (7, 1) := by kernel_rfl
theorem Try.AO96 : arrayOf Try.prog 96 = some (7, 1) := by kernel_rfl
theorem Try.AO97 : arrayOf Try.prog 97 = some (7, 1) := by kernel_rfl
theorem Try.AO : arrayOf Try.prog 31 = some (7, 1) ∧ arrayOf Try.prog 96 = some (7, 1) ∧ arrayOf Try.prog 97 = some (7, 1) := ⟨Try.AO31, Try.AO96, Try.AO97⟩
def Try.z3 : Array Value := #[.int .i64 0]
def Try.z4 : Array Value := #[.bool false]
def Try.z27 : Array Value := #[.int .i64 0, .int .i64 0]
def Try.z31 : Array Value := #[.int .i64 0, .int .i64 0, .int .i64 0, .int .i64 0, .int .i64 0, .int .i64 0, .int .i64 0]
def Try.z33 : Array Value := #[.int .i64 0, .string ⟨#[]⟩, .string ⟨#[]⟩, .int .i64 0, .int .i64 0, .int .i64 0, .int .i64 0, .int .i64 0, .int .i64 0, .int .i64 0, .int .i64 0, .int .i64 0, .int .i64 0, .int .i64 0]
def Try.z35 : Array Value := #[.int .i64 0, .int .i64 0, .int .i64 0, .string ⟨#[]⟩, .string ⟨#[]⟩, .int .i64 0, .int .i64 0, .int .i64 0, .int .i64 0, .int .i64 0, .int .i64 0, .int .i64 0, .int .i64 0, .int .i64 0, .int .i64 0, .int .i64 0, .bool false]
def Try.z36 : Array Value := #[.pointer none]
def Try.z38 : Array Value := #[.pointer none]
def Try.z39 : Array Value := #[.slice none 0 0]
def Try.z119 : Array Value := #[.int .u64 0]
theorem Try.ZO3 : zeroOf Try.prog 3 = some Try.z3 := by kernel_rfl
end Go.Proofs.Ytjocklgihjbaiaa
end
