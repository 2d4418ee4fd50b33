/- The law ChartMore returns true for every input, and its arguments read afterwards as before. Part 1 of 6. -/
import Derived.Test.YthilemcdhkfhlaaRows
import Derived.ProofKit
import Derived.JoinedOf
import Derived.Test.YthilemcdhkfhlaaProg
import Derived.WalkKit
import Derived.Conc.LoneSelect
import Derived.Deep.Draws
import Derived.Orders
import Derived.Recover
import Derived.ChangeSlices
import Derived.OpenShut
import Derived.Laws.StructEq
import Derived.ShutString
import Derived.ChangeOld
import Derived.Below
import Derived.SizedLaws
set_option linter.unusedVariables false
set_option linter.unusedSimpArgs false
set_option maxRecDepth 100000
set_option maxHeartbeats 20000000
namespace Go.Proofs.Ythilemcdhkfhlaa
open Go Go.RowKit Go.Proofs
theorem own : ownKnob Try.prog.godebug = none := by kernel_rfl
theorem laidOut : laidOutB Try.prog = true := by kernel_rfl
theorem orderL : Try.prog.initOrder = String.ofList (List.map Char.ofNat [104, 97, 114, 110, 101, 115, 115, 32, 50, 55, 52, 100, 54, 100, 100, 102, 101, 50, 56, 102, 54, 99, 100, 98, 98, 57, 100, 53, 51, 50, 50, 55, 57, 48, 100, 52, 101, 101, 100, 100,
  99, 97, 49, 98, 48, 102, 55, 49, 98, 102, 54, 50, 100, 98, 54, 100, 102, 54, 56, 51, 100, 98, 51, 54, 101, 54, 57, 100, 57, 49, 102, 97, 32, 99, 117, 116, 32, 97, 116, 32, 116,
  111, 112, 105, 97, 114, 105, 115, 116, 47, 116, 111, 112, 105, 97, 114, 105, 115, 116, 108, 97, 119, 50, 52, 46, 67, 104, 97, 114, 116, 77, 111, 114, 101, 32, 116, 111, 112, 105,
  97, 114, 105, 115, 116, 47, 116, 111, 112, 105, 97, 114, 105, 115, 116, 108, 97, 119, 50, 52, 46, 67, 104, 97, 114, 116, 82, 111, 119, 115, 32, 116, 111, 112, 105, 97, 114, 105,
  115, 116, 47, 116, 111, 112, 105, 97, 114, 105, 115, 116, 108, 97, 119, 50, 52, 46, 67, 104, 97, 114, 116, 72, 111, 108, 100, 115, 32, 116, 111, 112, 105, 97, 114, 105, 115, 116,
  47, 116, 111, 112, 105, 97, 114, 105, 115, 116, 108, 97, 119, 50, 52, 46, 67, 104, 97, 114, 116, 69, 109, 112, 116, 121, 32, 116, 111, 112, 105, 97, 114, 105, 115, 116, 47, 116,
  111, 112, 105, 97, 114, 105, 115, 116, 108, 97, 119, 50, 53, 46, 70, 111, 114, 101, 115, 116, 84, 101, 108, 108, 115, 32, 116, 111, 112, 105, 97, 114, 105, 115, 116, 47, 116, 111,
  112, 105, 97, 114, 105, 115, 116, 108, 97, 119, 50, 53, 46, 70, 111, 114, 101, 115, 116, 72, 111, 108, 100, 115, 32, 116, 111, 112, 105, 97, 114, 105, 115, 116, 47, 116, 111, 112,
  105, 97, 114, 105, 115, 116, 108, 97, 119, 50, 53, 46, 70, 111, 114, 101, 115, 116, 67, 97, 112, 115, 32, 116, 111, 112, 105, 97, 114, 105, 115, 116, 47, 116, 111, 112, 105, 97,
  114, 105, 115, 116, 108, 97, 119, 50, 53, 46, 70, 111, 114, 101, 115, 116, 71, 111, 111, 100, 115, 32, 116, 111, 112, 105, 97, 114, 105, 115, 116, 47, 116, 111, 112, 105, 97, 114,
  105, 115, 116, 108, 97, 119, 50, 53, 46, 70, 111, 114, 101, 115, 116, 70, 105, 110, 100, 115, 32, 116, 111, 112, 105, 97, 114, 105, 115, 116, 47, 116, 111, 112, 105, 97, 114, 105,
  115, 116, 108, 97, 119, 50, 53, 46, 70, 111, 114, 101, 115, 116, 82, 111, 111, 116, 32, 116, 111, 112, 105, 97, 114, 105, 115, 116, 47, 116, 111, 112, 105, 97, 114, 105, 115, 116,
  108, 97, 119, 50, 54, 46, 67, 121, 99, 108, 101, 84, 101, 108, 108, 115, 32, 116, 111, 112, 105, 97, 114, 105, 115, 116, 47, 116, 111, 112, 105, 97, 114, 105, 115, 116, 108, 97,
  119, 50, 54, 46, 67, 121, 99, 108, 101, 79, 114, 100, 101, 114, 32, 116, 111, 112, 105, 97, 114, 105, 115, 116, 47, 116, 111, 112, 105, 97, 114, 105, 115, 116, 108, 97, 119, 50,
  54, 46, 67, 121, 99, 108, 101, 87, 111, 114, 100, 115, 32, 116, 111, 112, 105, 97, 114, 105, 115, 116, 47, 116, 111, 112, 105, 97, 114, 105, 115, 116, 108, 97, 119, 50, 54, 46, 67,
  121, 99, 108, 101, 82, 105, 110, 103, 115, 32, 116, 111, 112, 105, 97, 114, 105, 115, 116, 47, 116, 111, 112, 105, 97, 114, 105, 115, 116, 108, 97, 119, 50, 54, 46, 67, 121, 99,
  108, 101, 76, 101, 115, 115, 32, 116, 111, 112, 105, 97, 114, 105, 115, 116, 47, 116, 111, 112, 105, 97, 114, 105, 115, 116, 108, 97, 119, 48, 57, 46, 70, 111, 108, 108, 111, 119,
  84, 101, 108, 108, 115, 32, 116, 111, 112, 105, 97, 114, 105, 115, 116, 47, 116, 111, 112, 105, 97, 114, 105, 115, 116, 108, 97, 119, 48, 57, 46, 70, 111, 108, 108, 111, 119, 72,
  111, 108, 100, 115, 32, 116, 111, 112, 105, 97, 114, 105, 115, 116, 47, 116, 111, 112, 105, 97, 114, 105, 115, 116, 108, 97, 119, 48, 57, 46, 70, 111, 108, 108, 111, 119, 77, 111,
  114, 101, 32, 116, 111, 112, 105, 97, 114, 105, 115, 116, 47, 116, 111, 112, 105, 97, 114, 105, 115, 116, 108, 97, 119, 48, 57, 46, 70, 111, 108, 108, 111, 119, 76, 97, 115, 116,
  32, 116, 111, 112, 105, 97, 114, 105, 115, 116, 47, 116, 111, 112, 105, 97, 114, 105, 115, 116, 108, 97, 119, 50, 56, 46, 84, 114, 101, 101, 115, 77, 111, 115, 116, 32, 116, 111,
  112, 105, 97, 114, 105, 115, 116, 47, 116, 111, 112, 105, 97, 114, 105, 115, 116, 108, 97, 119, 50, 56, 46, 84, 114, 101, 101, 115, 70, 111, 114, 109, 115]) := by kernel_rfl
theorem orderT : Try.prog.initOrder.toList = List.map Char.ofNat [104, 97, 114, 110, 101, 115, 115, 32, 50, 55, 52, 100, 54, 100, 100, 102, 101, 50, 56, 102, 54, 99, 100, 98, 98, 57, 100, 53, 51, 50, 50, 55, 57, 48, 100, 52, 101, 101, 100, 100,
  99, 97, 49, 98, 48, 102, 55, 49, 98, 102, 54, 50, 100, 98, 54, 100, 102, 54, 56, 51, 100, 98, 51, 54, 101, 54, 57, 100, 57, 49, 102, 97, 32, 99, 117, 116, 32, 97, 116, 32, 116,
  111, 112, 105, 97, 114, 105, 115, 116, 47, 116, 111, 112, 105, 97, 114, 105, 115, 116, 108, 97, 119, 50, 52, 46, 67, 104, 97, 114, 116, 77, 111, 114, 101, 32, 116, 111, 112, 105,
  97, 114, 105, 115, 116, 47, 116, 111, 112, 105, 97, 114, 105, 115, 116, 108, 97, 119, 50, 52, 46, 67, 104, 97, 114, 116, 82, 111, 119, 115, 32, 116, 111, 112, 105, 97, 114, 105,
  115, 116, 47, 116, 111, 112, 105, 97, 114, 105, 115, 116, 108, 97, 119, 50, 52, 46, 67, 104, 97, 114, 116, 72, 111, 108, 100, 115, 32, 116, 111, 112, 105, 97, 114, 105, 115, 116,
  47, 116, 111, 112, 105, 97, 114, 105, 115, 116, 108, 97, 119, 50, 52, 46, 67, 104, 97, 114, 116, 69, 109, 112, 116, 121, 32, 116, 111, 112, 105, 97, 114, 105, 115, 116, 47, 116,
  111, 112, 105, 97, 114, 105, 115, 116, 108, 97, 119, 50, 53, 46, 70, 111, 114, 101, 115, 116, 84, 101, 108, 108, 115, 32, 116, 111, 112, 105, 97, 114, 105, 115, 116, 47, 116, 111,
  112, 105, 97, 114, 105, 115, 116, 108, 97, 119, 50, 53, 46, 70, 111, 114, 101, 115, 116, 72, 111, 108, 100, 115, 32, 116, 111, 112, 105, 97, 114, 105, 115, 116, 47, 116, 111, 112,
  105, 97, 114, 105, 115, 116, 108, 97, 119, 50, 53, 46, 70, 111, 114, 101, 115, 116, 67, 97, 112, 115, 32, 116, 111, 112, 105, 97, 114, 105, 115, 116, 47, 116, 111, 112, 105, 97,
  114, 105, 115, 116, 108, 97, 119, 50, 53, 46, 70, 111, 114, 101, 115, 116, 71, 111, 111, 100, 115, 32, 116, 111, 112, 105, 97, 114, 105, 115, 116, 47, 116, 111, 112, 105, 97, 114,
  105, 115, 116, 108, 97, 119, 50, 53, 46, 70, 111, 114, 101, 115, 116, 70, 105, 110, 100, 115, 32, 116, 111, 112, 105, 97, 114, 105, 115, 116, 47, 116, 111, 112, 105, 97, 114, 105,
  115, 116, 108, 97, 119, 50, 53, 46, 70, 111, 114, 101, 115, 116, 82, 111, 111, 116, 32, 116, 111, 112, 105, 97, 114, 105, 115, 116, 47, 116, 111, 112, 105, 97, 114, 105, 115, 116,
  108, 97, 119, 50, 54, 46, 67, 121, 99, 108, 101, 84, 101, 108, 108, 115, 32, 116, 111, 112, 105, 97, 114, 105, 115, 116, 47, 116, 111, 112, 105, 97, 114, 105, 115, 116, 108, 97,
  119, 50, 54, 46, 67, 121, 99, 108, 101, 79, 114, 100, 101, 114, 32, 116, 111, 112, 105, 97, 114, 105, 115, 116, 47, 116, 111, 112, 105, 97, 114, 105, 115, 116, 108, 97, 119, 50,
  54, 46, 67, 121, 99, 108, 101, 87, 111, 114, 100, 115, 32, 116, 111, 112, 105, 97, 114, 105, 115, 116, 47, 116, 111, 112, 105, 97, 114, 105, 115, 116, 108, 97, 119, 50, 54, 46, 67,
  121, 99, 108, 101, 82, 105, 110, 103, 115, 32, 116, 111, 112, 105, 97, 114, 105, 115, 116, 47, 116, 111, 112, 105, 97, 114, 105, 115, 116, 108, 97, 119, 50, 54, 46, 67, 121, 99,
  108, 101, 76, 101, 115, 115, 32, 116, 111, 112, 105, 97, 114, 105, 115, 116, 47, 116, 111, 112, 105, 97, 114, 105, 115, 116, 108, 97, 119, 48, 57, 46, 70, 111, 108, 108, 111, 119,
  84, 101, 108, 108, 115, 32, 116, 111, 112, 105, 97, 114, 105, 115, 116, 47, 116, 111, 112, 105, 97, 114, 105, 115, 116, 108, 97, 119, 48, 57, 46, 70, 111, 108, 108, 111, 119, 72,
  111, 108, 100, 115, 32, 116, 111, 112, 105, 97, 114, 105, 115, 116, 47, 116, 111, 112, 105, 97, 114, 105, 115, 116, 108, 97, 119, 48, 57, 46, 70, 111, 108, 108, 111, 119, 77, 111,
  114, 101, 32, 116, 111, 112, 105, 97, 114, 105, 115, 116, 47, 116, 111, 112, 105, 97, 114, 105, 115, 116, 108, 97, 119, 48, 57, 46, 70, 111, 108, 108, 111, 119, 76, 97, 115, 116,
  32, 116, 111, 112, 105, 97, 114, 105, 115, 116, 47, 116, 111, 112, 105, 97, 114, 105, 115, 116, 108, 97, 119, 50, 56, 46, 84, 114, 101, 101, 115, 77, 111, 115, 116, 32, 116, 111,
  112, 105, 97, 114, 105, 115, 116, 47, 116, 111, 112, 105, 97, 114, 105, 115, 116, 108, 97, 119, 50, 56, 46, 84, 114, 101, 101, 115, 70, 111, 114, 109, 115] := (congrArg String.toList orderL).trans String.toList_ofList
theorem words : ∃ rest, behindMainWord (wordsSigns Try.prog.initOrder.toList) = "cut".toList :: "at".toList :: rest := by
  rw [orderT]
  exact ⟨(behindMainWord (wordsSigns (List.map Char.ofNat [104, 97, 114, 110, 101, 115, 115, 32, 50, 55, 52, 100, 54, 100, 100, 102, 101, 50, 56, 102, 54, 99, 100, 98, 98, 57, 100, 53, 51, 50, 50, 55, 57, 48, 100, 52, 101, 101, 100, 100,
  99, 97, 49, 98, 48, 102, 55, 49, 98, 102, 54, 50, 100, 98, 54, 100, 102, 54, 56, 51, 100, 98, 51, 54, 101, 54, 57, 100, 57, 49, 102, 97, 32, 99, 117, 116, 32, 97, 116, 32, 116,
  111, 112, 105, 97, 114, 105, 115, 116, 47, 116, 111, 112, 105, 97, 114, 105, 115, 116, 108, 97, 119, 50, 52, 46, 67, 104, 97, 114, 116, 77, 111, 114, 101, 32, 116, 111, 112, 105,
  97, 114, 105, 115, 116, 47, 116, 111, 112, 105, 97, 114, 105, 115, 116, 108, 97, 119, 50, 52, 46, 67, 104, 97, 114, 116, 82, 111, 119, 115, 32, 116, 111, 112, 105, 97, 114, 105,
  115, 116, 47, 116, 111, 112, 105, 97, 114, 105, 115, 116, 108, 97, 119, 50, 52, 46, 67, 104, 97, 114, 116, 72, 111, 108, 100, 115, 32, 116, 111, 112, 105, 97, 114, 105, 115, 116,
  47, 116, 111, 112, 105, 97, 114, 105, 115, 116, 108, 97, 119, 50, 52, 46, 67, 104, 97, 114, 116, 69, 109, 112, 116, 121, 32, 116, 111, 112, 105, 97, 114, 105, 115, 116, 47, 116,
  111, 112, 105, 97, 114, 105, 115, 116, 108, 97, 119, 50, 53, 46, 70, 111, 114, 101, 115, 116, 84, 101, 108, 108, 115, 32, 116, 111, 112, 105, 97, 114, 105, 115, 116, 47, 116, 111,
  112, 105, 97, 114, 105, 115, 116, 108, 97, 119, 50, 53, 46, 70, 111, 114, 101, 115, 116, 72, 111, 108, 100, 115, 32, 116, 111, 112, 105, 97, 114, 105, 115, 116, 47, 116, 111, 112,
  105, 97, 114, 105, 115, 116, 108, 97, 119, 50, 53, 46, 70, 111, 114, 101, 115, 116, 67, 97, 112, 115, 32, 116, 111, 112, 105, 97, 114, 105, 115, 116, 47, 116, 111, 112, 105, 97,
  114, 105, 115, 116, 108, 97, 119, 50, 53, 46, 70, 111, 114, 101, 115, 116, 71, 111, 111, 100, 115, 32, 116, 111, 112, 105, 97, 114, 105, 115, 116, 47, 116, 111, 112, 105, 97, 114,
  105, 115, 116, 108, 97, 119, 50, 53, 46, 70, 111, 114, 101, 115, 116, 70, 105, 110, 100, 115, 32, 116, 111, 112, 105, 97, 114, 105, 115, 116, 47, 116, 111, 112, 105, 97, 114, 105,
  115, 116, 108, 97, 119, 50, 53, 46, 70, 111, 114, 101, 115, 116, 82, 111, 111, 116, 32, 116, 111, 112, 105, 97, 114, 105, 115, 116, 47, 116, 111, 112, 105, 97, 114, 105, 115, 116,
  108, 97, 119, 50, 54, 46, 67, 121, 99, 108, 101, 84, 101, 108, 108, 115, 32, 116, 111, 112, 105, 97, 114, 105, 115, 116, 47, 116, 111, 112, 105, 97, 114, 105, 115, 116, 108, 97,
  119, 50, 54, 46, 67, 121, 99, 108, 101, 79, 114, 100, 101, 114, 32, 116, 111, 112, 105, 97, 114, 105, 115, 116, 47, 116, 111, 112, 105, 97, 114, 105, 115, 116, 108, 97, 119, 50,
  54, 46, 67, 121, 99, 108, 101, 87, 111, 114, 100, 115, 32, 116, 111, 112, 105, 97, 114, 105, 115, 116, 47, 116, 111, 112, 105, 97, 114, 105, 115, 116, 108, 97, 119, 50, 54, 46, 67,
  121, 99, 108, 101, 82, 105, 110, 103, 115, 32, 116, 111, 112, 105, 97, 114, 105, 115, 116, 47, 116, 111, 112, 105, 97, 114, 105, 115, 116, 108, 97, 119, 50, 54, 46, 67, 121, 99,
  108, 101, 76, 101, 115, 115, 32, 116, 111, 112, 105, 97, 114, 105, 115, 116, 47, 116, 111, 112, 105, 97, 114, 105, 115, 116, 108, 97, 119, 48, 57, 46, 70, 111, 108, 108, 111, 119,
  84, 101, 108, 108, 115, 32, 116, 111, 112, 105, 97, 114, 105, 115, 116, 47, 116, 111, 112, 105, 97, 114, 105, 115, 116, 108, 97, 119, 48, 57, 46, 70, 111, 108, 108, 111, 119, 72,
  111, 108, 100, 115, 32, 116, 111, 112, 105, 97, 114, 105, 115, 116, 47, 116, 111, 112, 105, 97, 114, 105, 115, 116, 108, 97, 119, 48, 57, 46, 70, 111, 108, 108, 111, 119, 77, 111,
  114, 101, 32, 116, 111, 112, 105, 97, 114, 105, 115, 116, 47, 116, 111, 112, 105, 97, 114, 105, 115, 116, 108, 97, 119, 48, 57, 46, 70, 111, 108, 108, 111, 119, 76, 97, 115, 116,
  32, 116, 111, 112, 105, 97, 114, 105, 115, 116, 47, 116, 111, 112, 105, 97, 114, 105, 115, 116, 108, 97, 119, 50, 56, 46, 84, 114, 101, 101, 115, 77, 111, 115, 116, 32, 116, 111,
  112, 105, 97, 114, 105, 115, 116, 47, 116, 111, 112, 105, 97, 114, 105, 115, 116, 108, 97, 119, 50, 56, 46, 84, 114, 101, 101, 115, 70, 111, 114, 109, 115]))).tail.tail, by kernel_rfl⟩
theorem lifts_of (P : Program) (rest : List (List Char)) (h : behindMainWord (wordsSigns P.initOrder.toList) = "cut".toList :: "at".toList :: rest) : P.liftsFinal = false := by
  unfold Program.liftsFinal Program.headLifts
  rw [h]
  kernel_rfl
theorem lifts : Try.prog.liftsFinal = false := words.elim fun rest h => lifts_of Try.prog rest h
theorem made_of (P : Program) (rest : List (List Char)) (h : behindMainWord (wordsSigns P.initOrder.toList) = "cut".toList :: "at".toList :: rest) : P.make = some .cut := by
  unfold Program.make
  rw [h]
  simp
theorem made : Try.prog.make = some .cut := words.elim fun rest h => made_of Try.prog rest h
theorem lays : Try.prog.laysLater = false := by kernel_rfl
theorem bears : Try.prog.bearsReflect = false := by kernel_rfl
theorem doors : Try.prog.doorRows = [] := by kernel_rfl
theorem enters_of (P : Program) (rest : List (List Char)) (h : behindMainWord (wordsSigns P.initOrder.toList) = "cut".toList :: "at".toList :: rest) (h1 : P.laysLater = false) (h2 : P.bearsReflect = false) (h3 : P.doorRows = []) : P.mayEnter = true := by
  unfold Program.mayEnter Program.doorFits
  rw [h, h1, h2, h3]
  kernel_rfl
theorem enters : Try.prog.mayEnter = true := words.elim fun rest h => enters_of Try.prog rest h lays bears doors
end Go.Proofs.Ythilemcdhkfhlaa
namespace Go.Gc
open Go Go.RowKit
abbrev Own := Nat → Nat
abbrev L (o : Own) (i : Nat) : Nat → Prop := fun b => o b = i
structure Tr (F : Nat → Prop) (w : World) (o : Own) (w' : World) (o' : Own) : Prop where
  os : w'.os = w.os
  tape : w'.tape = w.tape
  output : w'.output = w.output
  size : w.heap.size ≤ w'.heap.size
  block : ∀ b, b < w.heap.size → ¬ F b → w'.heap[b]? = w.heap[b]?
  lab : ∀ b, b < w.heap.size → o' b = o b
abbrev No : Nat → Prop := fun _ => False
theorem Tr.refl (F : Nat → Prop) (w : World) (o : Own) : Tr F w o w o := ⟨rfl, rfl, rfl, Nat.le_refl _, fun _ _ _ => rfl, fun _ _ => rfl⟩
theorem Tr.trans {F F' : Nat → Prop} {w w1 w2 : World} {o o1 o2 : Own} (h : Tr F w o w1 o1) (k : Tr F' w1 o1 w2 o2) (hs : ∀ b, b < w.heap.size → F' b → F b) : Tr F w o w2 o2 :=
  ⟨k.os.trans h.os, k.tape.trans h.tape, k.output.trans h.output, Nat.le_trans h.size k.size,
   fun b hb hf => (k.block b (Nat.lt_of_lt_of_le hb h.size) (fun hf' => hf (hs b hb hf'))).trans (h.block b hb hf),
   fun b hb => (k.lab b (Nat.lt_of_lt_of_le hb h.size)).trans (h.lab b hb)⟩
theorem Tr.mono {F F' : Nat → Prop} {w w1 : World} {o o1 : Own} (h : Tr F w o w1 o1) (hs : ∀ b, b < w.heap.size → F b → F' b) : Tr F' w o w1 o1 :=
  ⟨h.os, h.tape, h.output, h.size, fun b hb hf => h.block b hb (fun x => hf (hs b hb x)), h.lab⟩
theorem Tr.below {w w1 : World} {o o1 : Own} (h : Tr No w o w1 o1) : Below w.heap.size w w1 :=
  ⟨h.os, h.tape, h.output, h.size, fun b hb => h.block b hb (fun x => x)⟩
theorem Tr.step {F : Nat → Prop} {w w1 w2 : World} {o o1 o2 : Own} {k : Nat} (h : Tr F w o w1 o1) (s : Tr (L o1 k) w1 o1 w2 o2) (hk : ∀ b, o b = k → F b) : Tr F w o w2 o2 :=
  h.trans s (fun b hb (e : o1 b = k) => hk b (by rw [← h.lab b hb]; exact e))
theorem Tr.stepNo {F : Nat → Prop} {w w1 w2 : World} {o o1 o2 : Own} (h : Tr F w o w1 o1) (s : Tr No w1 o1 w2 o2) : Tr F w o w2 o2 :=
  h.trans s (fun b hb e => e.elim)
theorem Tr.stepF {F F' : Nat → Prop} {w w1 w2 : World} {o o1 o2 : Own} (h : Tr F w o w1 o1) (s : Tr F' w1 o1 w2 o2) (hs : ∀ b, o1 b = o b → F' b → F b) : Tr F w o w2 o2 :=
  h.trans s (fun b hb e => hs b (h.lab b hb) e)
def Same (w : World) (F : Nat → Prop) (w' : World) (F' : Nat → Prop) : Prop := ∀ b, b < w.heap.size → F b → F' b ∧ w'.heap[b]? = w.heap[b]?
theorem Tr.same {F : Nat → Prop} {w w' : World} {o o' : Own} (t : Tr F w o w' o') {i : Nat} (hd : ∀ b, o b = i → ¬ F b) : Same w (L o i) w' (L o' i) :=
  fun b hb (e : o b = i) => ⟨(t.lab b hb).trans e, t.block b hb (hd b e)⟩
theorem Tr.sameK {k : Nat} {w w' : World} {o o' : Own} (t : Tr (L o k) w o w' o') {i : Nat} (hd : i ≠ k) : Same w (L o i) w' (L o' i) :=
  t.same (fun b e (e' : o b = k) => hd (e.symm.trans e'))
theorem Tr.sameNo {w w' : World} {o o' : Own} (t : Tr No w o w' o') {i : Nat} : Same w (L o i) w' (L o' i) := t.same (fun _ _ e => e)
theorem Same.cell {w w' : World} {F F' : Nat → Prop} (h : Same w F w' F') {a : Addr} (hf : F a.block) {u : Value} (hc : w.cell? a = some u) : w'.cell? a = some u :=
  (World.cell?_of_block (h a.block (World.block_lt_of_cell? w a hc) hf).2).trans hc
theorem Same.lab {w w' : World} {F F' : Nat → Prop} (h : Same w F w' F') {a : Addr} (hf : F a.block) {u : Value} (hc : w.cell? a = some u) : F' a.block :=
  (h a.block (World.block_lt_of_cell? w a hc) hf).1
theorem Same.blk {w w' : World} {F F' : Nat → Prop} (h : Same w F w' F') {b : Nat} (hf : F b) {x : Obj} (hc : w.heap[b]? = some x) : F' b ∧ w'.heap[b]? = some x :=
  let ⟨h1, h2⟩ := h b (Array.getElem?_eq_some_iff.1 hc).1 hf; ⟨h1, h2.trans hc⟩
theorem Same.relab {w : World} {F F' : Nat → Prop} (h : ∀ b, F b → F' b) : Same w F w F' := fun b _ hf => ⟨h b hf, rfl⟩
structure Ty (α : Type) where
  sz : Nat
  im : World → (Nat → Prop) → α → List Value → Prop
  loc : ∀ {w w' : World} {F F' : Nat → Prop} {x : α} {cs : List Value}, Same w F w' F' → im w F x cs → im w' F' x cs
  len : ∀ {w : World} {F : Nat → Prop} {x : α} {cs : List Value}, im w F x cs → cs.length = sz
  one : ∀ {w : World} {F : Nat → Prop} {x : α} {cs : List Value}, im w F x cs → ∀ u ∈ cs, u.oneCell' = true
def tInt (k : IntKind) : Ty Int where
  sz := 1
  im := fun _ _ x cs => cs = [.int k x]
  loc := fun _ h => h
  len := fun h => by rw [h]; rfl
  one := fun h u hu => by subst h; simp at hu; subst hu; rfl
def tBool : Ty Bool where
  sz := 1
  im := fun _ _ x cs => cs = [.bool x]
  loc := fun _ h => h
  len := fun h => by rw [h]; rfl
  one := fun h u hu => by subst h; simp at hu; subst hu; rfl
def tStr : Ty ByteArray where
  sz := 1
  im := fun _ _ x cs => cs = [.string x]
  loc := fun _ h => h
  len := fun h => by rw [h]; rfl
  one := fun h u hu => by subst h; simp at hu; subst hu; rfl
def tPair {α β : Type} (A : Ty α) (B : Ty β) : Ty (α × β) where
  sz := A.sz + B.sz
  im := fun w F p cs => ∃ c1 c2, cs = c1 ++ c2 ∧ A.im w F p.1 c1 ∧ B.im w F p.2 c2
  loc := fun h ⟨c1, c2, e, h1, h2⟩ => ⟨c1, c2, e, A.loc h h1, B.loc h h2⟩
  len := fun ⟨c1, c2, e, h1, h2⟩ => by rw [e, List.length_append, A.len h1, B.len h2]
  one := fun ⟨c1, c2, e, h1, h2⟩ u hu => by
    subst e
    rcases List.mem_append.1 hu with h | h
    · exact A.one h1 u h
    · exact B.one h2 u h
def tIso {α β : Type} (T : Ty β) (f : α → β) : Ty α where
  sz := T.sz
  im := fun w F x cs => T.im w F (f x) cs
  loc := fun h h1 => T.loc h h1
  len := fun h => T.len h
  one := fun h => T.one h
def Flat {α : Type} (E : Ty α) (w : World) (F : Nat → Prop) : List α → List Value → Prop
  | [], xs => xs = []
  | x :: l, xs => ∃ ds ys, xs = ds ++ ys ∧ E.im w F x ds ∧ Flat E w F l ys
section
variable {α : Type} {E : Ty α} {w w' : World} {F F' : Nat → Prop}
theorem Flat.length : ∀ {l : List α} {xs : List Value}, Flat E w F l xs → xs.length = l.length * E.sz
  | [], xs, h => by
    have h' : xs = [] := h
    subst h'; simp
  | x :: l, xs, ⟨ds, ys, e, h1, h2⟩ => by rw [e, List.length_append, E.len h1, Flat.length h2, List.length_cons, Nat.add_mul, Nat.one_mul, Nat.add_comm]
theorem Flat.loc (hs : Same w F w' F') : ∀ {l : List α} {xs : List Value}, Flat E w F l xs → Flat E w' F' l xs
  | [], xs, h => h
  | x :: l, xs, ⟨ds, ys, e, h1, h2⟩ => ⟨ds, ys, e, E.loc hs h1, Flat.loc hs h2⟩
theorem Flat.one : ∀ {l : List α} {xs : List Value}, Flat E w F l xs → ∀ u ∈ xs, u.oneCell' = true
  | [], xs, h => by
    have h' : xs = [] := h
    subst h'; simp
  | x :: l, xs, ⟨ds, ys, e, h1, h2⟩ => fun u hu => by
    subst e
    rcases List.mem_append.1 hu with h | h
    · exact E.one h1 u h
    · exact Flat.one h2 u h
theorem Flat.append : ∀ {l m : List α} {xs ys : List Value}, Flat E w F l xs → Flat E w F m ys → Flat E w F (l ++ m) (xs ++ ys)
  | [], m, xs, ys, h, k => by
    have h' : xs = [] := h
    subst h'; exact k
  | x :: l, m, xs, ys, ⟨ds, zs, e, h1, h2⟩, k => ⟨ds, zs ++ ys, by rw [e, List.append_assoc], h1, Flat.append h2 k⟩
theorem Flat.split : ∀ {l m : List α} {xs : List Value}, Flat E w F (l ++ m) xs → ∃ a b, xs = a ++ b ∧ Flat E w F l a ∧ Flat E w F m b
  | [], m, xs, h => ⟨[], xs, rfl, rfl, h⟩
  | x :: l, m, xs, ⟨ds, zs, e, h1, h2⟩ => by
    obtain ⟨a, b, e', h3, h4⟩ := Flat.split (l := l) (m := m) h2
    exact ⟨ds ++ a, b, by rw [e, e', List.append_assoc], ⟨ds, a, rfl, h1, h3⟩, h4⟩
theorem Flat.single {x : α} {ds : List Value} (h : E.im w F x ds) : Flat E w F [x] ds := ⟨ds, [], by simp, h, rfl⟩
theorem Flat.at_ {l : List α} {xs : List Value} (h : Flat E w F l xs) {j : Nat} {x : α} (hx : l[j]? = some x) :
    ∃ ds, E.im w F x ds ∧ ∀ n u, ds[n]? = some u → xs[j * E.sz + n]? = some u := by
  obtain ⟨hj, rfl⟩ := List.getElem?_eq_some_iff.1 hx
  have e : l = l.take j ++ (l[j] :: l.drop (j + 1)) := by rw [← List.drop_eq_getElem_cons hj, List.take_append_drop]
  rw [e] at h
  obtain ⟨a, b, rfl, h1, ⟨ds, ys, rfl, h2, h3⟩⟩ := Flat.split h
  refine ⟨ds, h2, fun n u hu => ?_⟩
  have hl : a.length = j * E.sz := by rw [Flat.length h1, List.length_take, Nat.min_eq_left (Nat.le_of_lt hj)]
  rw [List.getElem?_append_right (by omega), hl, Nat.add_sub_cancel_left]
  rw [List.getElem?_append_left (List.getElem?_eq_some_iff.1 hu).1]
  exact hu
theorem Flat.set {l : List α} {xs : List Value} (h : Flat E w F l xs) {j : Nat} {x y : α} (hx : l[j]? = some x) {n : Nat} {u : Value}
    (hy : ∀ ds, E.im w F x ds → E.im w F y (ds.set n u)) (hn : n < E.sz) : Flat E w F (l.set j y) (xs.set (j * E.sz + n) u) := by
  obtain ⟨hj, rfl⟩ := List.getElem?_eq_some_iff.1 hx
  have e : l = l.take j ++ (l[j] :: l.drop (j + 1)) := by rw [← List.drop_eq_getElem_cons hj, List.take_append_drop]
  have e2 : l.set j y = l.take j ++ (y :: l.drop (j + 1)) := by
    rw [List.set_eq_take_append_cons_drop, if_pos hj]
  rw [e] at h
  obtain ⟨a, b, rfl, h1, ⟨ds, ys, rfl, h2, h3⟩⟩ := Flat.split h
  have hl : a.length = j * E.sz := by rw [Flat.length h1, List.length_take, Nat.min_eq_left (Nat.le_of_lt hj)]
  rw [e2]
  have hd : ds.length = E.sz := E.len h2
  have e3 : (a ++ (ds ++ ys)).set (j * E.sz + n) u = a ++ (ds.set n u ++ ys) := by
    rw [List.set_append_right _ _ (by omega), hl, Nat.add_sub_cancel_left, List.set_append_left _ _ (by omega)]
  rw [e3]
  exact Flat.append h1 ⟨_, _, rfl, hy ds h2, h3⟩
end
def Lies (w : World) (g f : Nat) (xs : List Value) : Prop := ∀ n u, xs[n]? = some u → w.cell? ⟨g, f + n, none⟩ = some u
def SlOk {α : Type} (E : Ty α) (w : World) (F : Nat → Prop) (A : Option Addr) (l : List α) : Prop :=
  0 < l.length → ∃ g f xs, A = some ⟨g, f, none⟩ ∧ F g ∧ Flat E w F l xs ∧ Lies w g f xs
theorem Flat.head {α : Type} {E : Ty α} (hE : 0 < E.sz) {w : World} {F : Nat → Prop} {l : List α} {xs : List Value} (h : Flat E w F l xs) (hp : 0 < l.length) : ∃ u, xs[0]? = some u :=
  ⟨xs[0]'(by rw [h.length]; exact Nat.mul_pos hp hE), by simp⟩
def tSlice {α : Type} (e : Nat) (E : Ty α) (hE : 0 < E.sz) : Ty (List α) where
  sz := 1
  im := fun w F l cs => ∃ A c, cs = [.slice A l.length c] ∧ l.length ≤ c ∧ c ≤ maxLen ∧ SlOk E w F A l
  loc := fun {w w' F F' x cs} h ⟨A, c, e, h1, h2, h3⟩ => ⟨A, c, e, h1, h2, fun hp => by
    obtain ⟨g, f, xs, ha, hg, hx, hl⟩ := h3 hp
    obtain ⟨u, hu⟩ := hx.head hE hp
    exact ⟨g, f, xs, ha, h.lab (a := ⟨g, _, none⟩) hg (hl 0 u hu), hx.loc h, fun n u hu => h.cell (a := ⟨g, _, none⟩) hg (hl n u hu)⟩⟩
  len := fun ⟨A, c, e, _⟩ => by rw [e]; rfl
  one := fun ⟨A, c, e, _⟩ u hu => by subst e; simp at hu; subst hu; rfl
theorem keepIm {α : Type} {T : Ty α} {w w' : World} {o o' : Own} {x : α} {cs : List Value} {k : Nat} (h : T.im w (L o 0) x cs) (t : Tr (L o k) w o w' o') (hk : 0 ≠ k) : T.im w' (L o' 0) x cs := T.loc (t.sameK hk) h
theorem keepImNo {α : Type} {T : Ty α} {w w' : World} {o o' : Own} {x : α} {cs : List Value} (h : T.im w (L o 0) x cs) (t : Tr No w o w' o') : T.im w' (L o' 0) x cs := T.loc t.sameNo h
def Box (w : World) (o : Own) (i g t : Nat) (cs : Array Value) : Prop := o g = i ∧ w.heap[g]? = some (.cells cs t (0, 0))
section
variable {w w' : World} {o o' : Own} {i k g t : Nat} {cs : Array Value}
theorem Box.keep_ (h : Box w o i g t cs) {j : Nat} (s : Same w (L o i) w' (L o' j)) : Box w' o' j g t cs := s.blk h.1 h.2
theorem Box.keep (h : Box w o i g t cs) (s : Tr (L o k) w o w' o') (hk : i ≠ k) : Box w' o' i g t cs := h.keep_ (s.sameK hk)
theorem Box.keepNo (h : Box w o i g t cs) (s : Tr No w o w' o') : Box w' o' i g t cs := h.keep_ s.sameNo
theorem Box.cell (h : Box w o i g t cs) {n : Nat} {u : Value} (hu : cs[n]? = some u) : w.cell? ⟨g, n, none⟩ = some u := by
  simp [World.cell?, h.2, hu]
theorem Box.free (h : Box w o i g t cs) (n : Nat) : w.frozen? ⟨g, n, none⟩ = false := by
  simp [World.frozen?, h.2]
end
def Row {α : Type} (E : Ty α) (e : Nat) (w : World) (o : Own) (i : Nat) (v : Value) (l : List α) : Prop :=
  (v = .slice none 0 0 ∧ l = []) ∨ ∃ g f c cur xs, v = .slice (some ⟨g, f, none⟩) l.length c ∧ o g = i ∧ w.heap[g]? = some (.cells cur e (0, 0)) ∧ l.length ≤ c ∧ c ≤ maxLen ∧ f + c * E.sz ≤ cur.size ∧
    Flat E w (L o 0) l xs ∧ ∀ n u, xs[n]? = some u → cur[f + n]? = some u
section
variable {α : Type} {E : Ty α} {e : Nat} {w w' : World} {o o' : Own} {i k : Nat} {v : Value} {l : List α}
theorem Row.nil (E : Ty α) (e : Nat) (w : World) (o : Own) (i : Nat) : Row E e w o i (.slice none 0 0) ([] : List α) := .inl ⟨rfl, rfl⟩
theorem Row.keep_ (h : Row E e w o i v l) {j : Nat} (s1 : Same w (L o i) w' (L o' j)) (s0 : Same w (L o 0) w' (L o' 0)) : Row E e w' o' j v l := by
  rcases h with h | ⟨g, f, c, cur, xs, h1, h2, h3, h4, h5, h6, h7, h8⟩
  · exact .inl h
  · obtain ⟨h2', h3'⟩ := s1.blk h2 h3
    exact .inr ⟨g, f, c, cur, xs, h1, h2', h3', h4, h5, h6, h7.loc s0, h8⟩
theorem Row.keep (h : Row E e w o i v l) (s : Tr (L o k) w o w' o') (hk : i ≠ k) (h0 : 0 ≠ k) : Row E e w' o' i v l := h.keep_ (s.sameK hk) (s.sameK h0)
theorem Row.keepNo (h : Row E e w o i v l) (s : Tr No w o w' o') : Row E e w' o' i v l := h.keep_ s.sameNo s.sameNo
theorem Row.form (h : Row E e w o i v l) : ∃ A c, v = .slice A l.length c ∧ l.length ≤ c := by
  rcases h with ⟨rfl, rfl⟩ | ⟨g, f, c, cur, xs, rfl, _, _, h4, _⟩
  · exact ⟨none, 0, rfl, Nat.le_refl _⟩
  · exact ⟨_, c, rfl, h4⟩
theorem Row.cells {g f : Nat} {cur : Array Value} {xs : List Value} (h3 : w.heap[g]? = some (.cells cur e (0, 0))) (h8 : ∀ n u, xs[n]? = some u → cur[f + n]? = some u) : Lies w g f xs :=
  fun n u hu => by simp [World.cell?, h3, h8 n u hu]
theorem Row.im (h : Row E e w o i v l) (hE : 0 < E.sz) (hi : ∀ b, o b = i → o' b = 0) (h0 : ∀ b, o b = 0 → o' b = 0) : (tSlice e E hE).im w (L o' 0) l [v] := by
  rcases h with ⟨rfl, rfl⟩ | ⟨g, f, c, cur, xs, rfl, h2, h3, h4, h5, h6, h7, h8⟩
  · exact ⟨none, 0, rfl, Nat.le_refl _, by simp [maxLen], fun h => absurd h (by simp)⟩
  · exact ⟨some ⟨g, f, none⟩, c, rfl, h4, h5, fun _ => ⟨g, f, xs, rfl, hi g h2, h7.loc (Same.relab h0), Row.cells h3 h8⟩⟩
end
def upd (o : Own) (n k : Nat) : Own := fun b => if b = n then k else o b
theorem upd_new (o : Own) (n k : Nat) : upd o n k n = k := by simp [upd]
theorem tr_alloc (w : World) (o : Own) (ob : Obj) (k : Nat) : Tr No w o (w.alloc ob) (upd o w.heap.size k) :=
  ⟨rfl, rfl, rfl, by simp, fun b hb _ => heap_alloc_old w ob hb, fun b hb => by simp [upd, Nat.ne_of_lt hb]⟩
theorem tr_drew (w : World) (o : Own) : Tr No w o w.drew o := ⟨rfl, rfl, rfl, Nat.le_refl _, fun _ _ _ => rfl, fun _ _ => rfl⟩
theorem tr_setCell {w : World} {o : Own} {i : Nat} {a : Addr} (h : o a.block = i) (u : Value) : Tr (L o i) w o (w.setCell a u) o :=
  ⟨rfl, rfl, rfl, by simp [World.setCell], fun b hb hf => Below.heap_setCell w a u b (fun e => hf (by rw [e]; exact h)), fun _ _ => rfl⟩
theorem tr_setRow {w : World} {o : Own} {i g : Nat} (h : o g = i) (cs : Array Value) : Tr (L o i) w o (w.setRow g cs) o :=
  ⟨rfl, rfl, rfl, by simp [World.setRow], fun b hb hf => setRow_other w g b cs (fun e => hf (by rw [e]; exact h)), fun _ _ => rfl⟩
theorem Box.new (w : World) (o : Own) (k t : Nat) (cs : Array Value) : Box (w.alloc (.cells cs t)) (upd o w.heap.size k) k w.heap.size t cs := ⟨upd_new _ _ _, heap_alloc_new w _⟩
theorem heap_setCell_same {w : World} {g n t : Nat} {cs : Array Value} {fr : Nat × Nat} (h : w.heap[g]? = some (.cells cs t fr)) (u : Value) :
    (w.setCell ⟨g, n, none⟩ u).heap[g]? = some (.cells (cs.setIfInBounds n u) t fr) := by
  simp [World.setCell, Array.getElem?_modify, h]
theorem Box.set {w : World} {o : Own} {i g t : Nat} {cs : Array Value} (h : Box w o i g t cs) (n : Nat) (u : Value) :
    Box (w.setCell ⟨g, n, none⟩ u) o i g t (cs.setIfInBounds n u) := ⟨h.1, heap_setCell_same h.2 u⟩
section
variable {α : Type} {E : Ty α} {e : Nat} {w w' : World} {o o' : Own} {i k : Nat} {v : Value} {l : List α}
theorem Row.set (h : Row E e w o i v l) (hi0 : i ≠ 0) {j : Nat} {x y : α} (hx : l[j]? = some x) {n : Nat} {u : Value} (hn : n < E.sz)
    (hy : ∀ ds, E.im w (L o 0) x ds → E.im w (L o 0) y (ds.set n u)) :
    ∃ g f c, v = .slice (some ⟨g, f, none⟩) l.length c ∧ o g = i ∧ (∃ u', w.cell? ⟨g, f + (j * E.sz + n), none⟩ = some u') ∧ w.frozen? ⟨g, f + (j * E.sz + n), none⟩ = false ∧
      Row E e (w.setCell ⟨g, f + (j * E.sz + n), none⟩ u) o i v (l.set j y) := by
  rcases h with ⟨rfl, rfl⟩ | ⟨g, f, c, cur, xs, rfl, h2, h3, h4, h5, h6, h7, h8⟩
  · simp at hx
  · obtain ⟨ds, hd1, hd2⟩ := h7.at_ hx
    obtain ⟨u', hu'⟩ : ∃ u', ds[n]? = some u' := ⟨ds[n]'(by rw [E.len hd1]; exact hn), by simp⟩
    have hc := h8 _ _ (hd2 n u' hu')
    refine ⟨g, f, c, rfl, h2, ⟨u', by simp [World.cell?, h3, hc]⟩, by simp [World.frozen?, h3], .inr ⟨g, f, c, cur.setIfInBounds (f + (j * E.sz + n)) u, xs.set (j * E.sz + n) u, by rw [List.length_set], h2, heap_setCell_same h3 u, by rw [List.length_set]; exact h4, h5, by simpa using h6, ?_, ?_⟩⟩
    · exact (h7.set hx hy hn).loc (Tr.sameK (k := i) (tr_setCell (a := ⟨g, _, none⟩) h2 u) (Ne.symm hi0))
    · intro m u2 hm
      rw [List.getElem?_set] at hm
      by_cases he : j * E.sz + n = m
      · subst he
        rw [if_pos rfl] at hm
        split at hm
        · injection hm with hm; subst hm
          rw [Array.getElem?_setIfInBounds_self_of_lt (Array.getElem?_eq_some_iff.1 hc).1]
        · cases hm
      · rw [if_neg he] at hm
        rw [Array.getElem?_setIfInBounds_ne (by omega)]
        exact h8 _ _ hm
theorem Row.at_ (h : Row E e w o i v l) {j : Nat} {x : α} (hx : l[j]? = some x) :
    ∃ g f c ds, v = .slice (some ⟨g, f, none⟩) l.length c ∧ o g = i ∧ E.im w (L o 0) x ds ∧ ∀ n u, ds[n]? = some u → w.cell? ⟨g, f + (j * E.sz + n), none⟩ = some u := by
  rcases h with ⟨rfl, rfl⟩ | ⟨g, f, c, cur, xs, rfl, h2, h3, h4, h5, h6, h7, h8⟩
  · simp at hx
  · obtain ⟨ds, hd1, hd2⟩ := h7.at_ hx
    exact ⟨g, f, c, ds, rfl, h2, hd1, fun n u hu => Row.cells h3 h8 _ _ (hd2 n u hu)⟩
theorem im_form {hE : 0 < E.sz} {F : Nat → Prop} (h : (tSlice e E hE).im w F l [v]) : ∃ A c, v = .slice A l.length c ∧ l.length ≤ c := by
  obtain ⟨A, c, he, h1, h2, h3⟩ := h
  simp only [List.cons.injEq, and_true] at he
  exact ⟨A, c, he, h1⟩
theorem im_cut {hE : 0 < E.sz} {F : Nat → Prop} {A : Option Addr} {c : Nat} (h : (tSlice e E hE).im w F l [.slice A l.length c]) {a b : Nat} (hab : a ≤ b) (hb : b ≤ l.length) :
    (tSlice e E hE).im w F ((l.drop a).take (b - a)) [.slice (if c = a then A else A.map (·.add (a * E.sz))) (b - a) (c - a)] := by
  obtain ⟨A', c', he, h1, h2, h3⟩ := h
  simp only [List.cons.injEq, and_true, Value.slice.injEq, true_and] at he
  obtain ⟨rfl, rfl⟩ := he
  have hlen : ((l.drop a).take (b - a)).length = b - a := by rw [List.length_take, List.length_drop]; omega
  refine ⟨_, c - a, by rw [hlen], by rw [hlen]; omega, by omega, fun hp => ?_⟩
  rw [hlen] at hp
  obtain ⟨g, f, xs, rfl, hg, hx, hl⟩ := h3 (by omega)
  have e1 : l = l.take a ++ ((l.drop a).take (b - a) ++ (l.drop a).drop (b - a)) := by rw [List.take_append_drop, List.take_append_drop]
  rw [e1] at hx
  obtain ⟨xa, xr, rfl, q1, q2⟩ := hx.split
  obtain ⟨xb, xc, rfl, q3, q4⟩ := q2.split
  have hla : xa.length = a * E.sz := by rw [q1.length, List.length_take, Nat.min_eq_left (by omega)]
  rw [if_neg (by omega)]
  refine ⟨g, f + a * E.sz, xb, by simp [Addr.add_lit], hg, q3, fun n u hu => ?_⟩
  have := hl (a * E.sz + n) u (by rw [List.getElem?_append_right (by omega), hla, Nat.add_sub_cancel_left, List.getElem?_append_left (List.getElem?_eq_some_iff.1 hu).1]; exact hu)
  rw [Nat.add_assoc]
  exact this
theorem Row.cut {A : Option Addr} {c : Nat} (h : Row E e w o i (.slice A l.length c) l) {a b : Nat} (hab : a ≤ b) (hb : b ≤ l.length) :
    Row E e w o i (.slice (if c = a then A else A.map (·.add (a * E.sz))) (b - a) (c - a)) ((l.drop a).take (b - a)) := by
  rcases h with ⟨he, rfl⟩ | ⟨g, f, c', cur, xs, he, h2, h3, h4, h5, h6, h7, h8⟩
  · simp only [Value.slice.injEq] at he
    obtain ⟨rfl, h1, rfl⟩ := he
    have ha : a = 0 := by simp at hb; omega
    have hb' : b = 0 := by simpa using hb
    subst ha; subst hb'
    exact .inl ⟨by simp, by simp⟩
  · simp only [Value.slice.injEq, true_and] at he
    obtain ⟨rfl, rfl⟩ := he
    have hlen : ((l.drop a).take (b - a)).length = b - a := by rw [List.length_take, List.length_drop]; omega
    have e1 : l = l.take a ++ ((l.drop a).take (b - a) ++ (l.drop a).drop (b - a)) := by rw [List.take_append_drop, List.take_append_drop]
    rw [e1] at h7
    obtain ⟨xa, xr, rfl, q1, q2⟩ := h7.split
    obtain ⟨xb, xc, rfl, q3, q4⟩ := q2.split
    have hla : xa.length = a * E.sz := by rw [q1.length, List.length_take, Nat.min_eq_left (by omega)]
    by_cases hca : c = a
    · have hba : b - a = 0 := by omega
      rw [if_pos hca]
      have hxb : xb = [] := List.eq_nil_of_length_eq_zero (by rw [q3.length, hlen, hba, Nat.zero_mul])
      subst hxb
      refine .inr ⟨g, f, c - a, cur, [], by rw [hlen], h2, h3, by rw [hlen]; omega, by omega, ?_, q3, fun n u hu => by simp at hu⟩
      have : (c - a) * E.sz ≤ c * E.sz := Nat.mul_le_mul_right _ (Nat.sub_le _ _)
      omega
    · rw [if_neg hca]
      refine .inr ⟨g, f + a * E.sz, c - a, cur, xb, by rw [hlen]; simp [Addr.add_lit], h2, h3, by rw [hlen]; omega, by omega, ?_, q3, fun n u hu => ?_⟩
      · have : (c - a) * E.sz + a * E.sz = c * E.sz := by rw [← Nat.add_mul]; congr 1; omega
        omega
      · have := h8 (a * E.sz + n) u (by rw [List.getElem?_append_right (by omega), hla, Nat.add_sub_cancel_left, List.getElem?_append_left (List.getElem?_eq_some_iff.1 hu).1]; exact hu)
        rw [Nat.add_assoc]
        exact this
end
structure Elem {α : Type} (P : Program) (E : Ty α) (e : Nat) (z : α) : Prop where
  pos : 0 < E.sz
  info : ∃ i zv, P.info? e = some i ∧ i.zero = some zv ∧ i.size = E.sz ∧ i.bytes ≤ 4096 ∧ zv.cells.size = E.sz ∧ ∀ w F, E.im w F z zv.cells.toList
theorem room_cells {cur xs xs0 r : List Value} {f q n : Nat} {u : Value} (hq : xs.length = q) (hfit : f + q ≤ cur.length) (h8 : ∀ n u, xs[n]? = some u → cur[f + n]? = some u) (hu : (xs ++ xs0)[n]? = some u) :
    (cur.take (f + q) ++ (xs0 ++ r))[f + n]? = some u := by
  have htk : (cur.take (f + q)).length = f + q := by rw [List.length_take]; omega
  rcases Nat.lt_or_ge n xs.length with hlt | hge
  · rw [List.getElem?_append_left hlt] at hu
    rw [List.getElem?_append_left (by omega), List.getElem?_take, if_pos (by omega)]
    exact h8 n u hu
  · rw [List.getElem?_append_right hge] at hu
    rw [List.getElem?_append_right (by omega), htk, List.getElem?_append_left (by have := (List.getElem?_eq_some_iff.1 hu).1; omega), show f + n - (f + q) = n - xs.length by omega]
    exact hu
theorem bytes_fit {n b : Nat} (hn : n ≤ 1000000000) (hb : b ≤ 4096) : n * b ≤ 140737488355328 :=
  Nat.le_trans (Nat.mul_le_mul hn hb) (by decide)
def Src {α : Type} (E : Ty α) (w : World) (o : Own) (m : List α) (x : Value) : Prop :=
  ∃ A c, x = .slice A m.length c ∧ (0 < m.length → ∃ g f xs, A = some ⟨g, f, none⟩ ∧ Flat E w (L o 0) m xs ∧ Lies w g f xs)
theorem Src.im {α : Type} {E : Ty α} {e : Nat} {hE : 0 < E.sz} {w : World} {o : Own} {m : List α} {x : Value} (h : (tSlice e E hE).im w (L o 0) m [x]) : Src E w o m x := by
  obtain ⟨A, c, he, h1, h2, h3⟩ := h
  simp only [List.cons.injEq, and_true] at he
  exact ⟨A, c, he, fun hp => by
    obtain ⟨g, f, xs, ha, _, hf, hl⟩ := h3 hp
    exact ⟨g, f, xs, ha, hf, hl⟩⟩
theorem Src.row {α : Type} {E : Ty α} {e : Nat} {w : World} {o : Own} {i : Nat} {m : List α} {x : Value} (h : Row E e w o i x m) : Src E w o m x := by
  rcases h with ⟨rfl, rfl⟩ | ⟨g, f, c, cur, xs, rfl, h2, h3, h4, h5, h6, h7, h8⟩
  · exact ⟨none, 0, rfl, fun h => absurd h (by simp)⟩
  · exact ⟨_, c, rfl, fun _ => ⟨g, f, xs, rfl, h7, Row.cells h3 h8⟩⟩
section
variable {α : Type} {P : Program} {E : Ty α} {e : Nat} {w w' : World} {o o' : Own} {i k : Nat} {v x : Value} {l m : List α} {z : α}
theorem run_append (hE : Elem P E e z) {t : Nat} (ht : P.underlying t = some (.slice e)) (ty : TypeId) (h : Row E e w o i v l) (hi : i ≠ 0)
    (hx : Src E w o m x) (hn : l.length + m.length ≤ 1000000000) :
    ∃ v' w' o', (Builtin.append_ #[t, t] ty #[v, x]).run P w = .ok v' w' ∧ Row E e w' o' i v' (l ++ m) ∧ Tr (L o i) w o w' o' := by
  obtain ⟨inf, zv, q1, q2, q3, q4, q5, q6⟩ := hE.info
  obtain ⟨A, c, rfl, hx3⟩ := hx
  have hmax : (1000000000 : Nat) ≤ maxLen := by simp [maxLen]
  by_cases hm : m.length = 0
  ·
    have hm' : m = [] := List.eq_nil_of_length_eq_zero hm
    subst hm'
    rw [List.append_nil]
    obtain ⟨B, cb, rfl, hb⟩ := h.form
    refine ⟨_, w, o, ?_, h, Tr.refl _ _ _⟩
    cases A <;> cases B <;> simp [Builtin.append_, run_underlying ht, sizeOf, typeInfo, q1, Builtin.lenOf, Builtin.firstCells, loadCells, loadCellsFrom, storeCells, hb]
  · obtain ⟨g0, f0, xs0, rfl, hfl0, hl0⟩ := hx3 (by omega)
    have hnews : ∀ j u, xs0[j]? = some u → w.cell? ((⟨g0, f0, none⟩ : Addr).add j) = some u := fun j u hu => by rw [Addr.add_lit]; exact hl0 j u hu
    have hlen0 : xs0.length = m.length * inf.size := by rw [q3]; exact hfl0.length
    have grow : ∀ (olds : List Value) (cp : Nat), Flat E w (L o 0) l olds → l.length + m.length ≤ cp → cp ≤ maxLen →
        Row E e (w.drew.alloc (.cells (olds.toArray ++ xs0.toArray ++ Builtin.zeroCells zv.cells (cp - (l.length + m.length))) e)) (upd o w.heap.size i) i (.slice (some ⟨w.heap.size, 0, none⟩) (l.length + m.length) cp) (l ++ m) ∧
        Tr (L o i) w o (w.drew.alloc (.cells (olds.toArray ++ xs0.toArray ++ Builtin.zeroCells zv.cells (cp - (l.length + m.length))) e)) (upd o w.heap.size i) := by
      intro olds cp hol h1 h2
      have ht : Tr No w o (w.drew.alloc (.cells (olds.toArray ++ xs0.toArray ++ Builtin.zeroCells zv.cells (cp - (l.length + m.length))) e)) (upd o w.heap.size i) := (tr_drew w o).stepNo (tr_alloc w.drew o _ i)
      have ht' := ht.mono (F' := L o i) (fun _ _ e => e.elim)
      refine ⟨.inr ⟨w.heap.size, 0, cp, _, olds ++ xs0, by rw [List.length_append], upd_new _ _ _, heap_alloc_new w.drew _, by rw [List.length_append]; exact h1, h2, ?_, (hol.loc ht.sameNo).append (hfl0.loc (ht'.sameK (Ne.symm hi))), ?_⟩, ht'⟩
      · rw [Nat.zero_add]
        simp only [Array.size_append, List.size_toArray, size_zeroCells, hol.length, hfl0.length, q5, ← Nat.add_mul]
        exact Nat.mul_le_mul_right _ (by omega)
      · intro n u hu
        rw [Nat.zero_add]
        rw [Array.getElem?_append_left (by simpa using (List.getElem?_eq_some_iff.1 hu).1)]
        simpa using hu
    rcases h with ⟨rfl, rfl⟩ | ⟨g, f, cp, cur, xs, rfl, h2, h3, h4, h5, h6, h7, h8⟩
    · have hr := run_append_nil (P := P) w t ty e inf zv ht q1 q2 ⟨g0, f0, none⟩ m.length c xs0 hlen0 hnews (by omega) (by omega) (by have := bytes_fit (n := m.length) (by simpa using hn) q4; omega)
      have := grow [] (grownCap w m.length 0 e) rfl (by simpa using grownCap_ge w m.length 0 e) (grownCap_le_maxLen w _ _ _ (by simp at hn; omega))
      simp only [List.length_nil, Nat.zero_add, List.nil_append] at this
      simp only [Array.empty_append, List.nil_append] at this hr ⊢
      exact ⟨_, _, _, hr, this⟩
    · have hlies := Row.cells h3 h8
      by_cases hroom : l.length + m.length ≤ cp
      · have hf := run_firstCells_some (P := P) w inf.size m.length ⟨g0, f0, none⟩ m.length c xs0 hlen0 hnews
        have hst := run_storeCells_at P g (f + l.length * inf.size) e xs0 0 cur w h3 (by
            rw [hlen0, q3, Nat.add_zero, Nat.add_assoc, ← Nat.add_mul]
            exact Nat.le_trans (Nat.add_le_add_left (Nat.mul_le_mul_right _ hroom) _) h6) hfl0.one
        have hrun : (Builtin.append_ #[t, t] ty #[.slice (some ⟨g, f, none⟩) l.length cp, .slice (some ⟨g0, f0, none⟩) m.length c]).run P w =
            .ok (.slice (some ⟨g, f, none⟩) (l.length + m.length) cp) (w.setRow g (cur.toList.take (f + l.length * inf.size) ++ xs0 ++ cur.toList.drop (f + l.length * inf.size + xs0.length)).toArray) := by
          simp only [Nat.add_zero] at hst
          simp [Builtin.append_, run_underlying ht, sizeOf, typeInfo, q1, Builtin.lenOf, hroom, hf, Addr.add_lit, hst]
        have htr := tr_setRow (w := w) (o := o) (i := i) h2 (cur.toList.take (f + l.length * inf.size) ++ xs0 ++ cur.toList.drop (f + l.length * inf.size + xs0.length)).toArray
        have hsz : f + l.length * inf.size + xs0.length ≤ cur.size := by
          rw [hlen0, q3, Nat.add_assoc, ← Nat.add_mul]
          exact Nat.le_trans (Nat.add_le_add_left (Nat.mul_le_mul_right _ hroom) _) h6
        have hfit' : f + l.length * inf.size ≤ cur.toList.length := by
          have : cur.toList.length = cur.size := Array.length_toList
          omega
        refine ⟨_, _, _, hrun, .inr ⟨g, f, cp, _, xs ++ xs0, by rw [List.length_append], h2, setRow_heap w g cur _ e _ h3, by rw [List.length_append]; exact hroom, h5, ?_, (h7.loc (htr.sameK (Ne.symm hi))).append (hfl0.loc (htr.sameK (Ne.symm hi))), ?_⟩, htr⟩
        · simp only [List.size_toArray, List.length_append, List.length_take, List.length_drop, Array.length_toList]
          omega
        · intro n u hu
          have hxl : xs.length = l.length * inf.size := by rw [q3]; exact h7.length
          rw [List.getElem?_toArray, List.append_assoc]
          exact room_cells hxl hfit' (fun n u h => by simpa using h8 n u h) hu
      · have hr := run_append_grow (P := P) w t ty e inf zv ht q1 q2 ⟨g, f, none⟩ l.length cp xs (by rw [q3]; exact h7.length) (fun j u hu => by rw [Addr.add_lit]; exact hlies j u hu) ⟨g0, f0, none⟩ m.length c xs0 hlen0 hnews (by omega) (by omega) (growslice_fits (by omega) (bytes_fit hn q4))
        have := grow xs (grownCap w (l.length + m.length) cp e) h7 (grownCap_ge w _ _ e) (grownCap_le_maxLen w _ _ _ (by omega))
        exact ⟨_, _, _, hr, this⟩
end
section
variable {α : Type} {P : Program} {E : Ty α} {e : Nat} {w w' : World} {o o' : Own} {i k : Nat} {v x : Value} {l m : List α} {z : α}
theorem madeCells_succ (zc : Array Value) (n : Nat) (hz : 0 < zc.size) : (madeCells zc ((n + 1) * zc.size)).toList = zc.toList ++ (madeCells zc (n * zc.size)).toList := by
  apply List.ext_getElem?
  intro j
  simp only [madeCells, Array.toList_map, Array.toList_range, List.getElem?_map]
  rcases Nat.lt_or_ge j zc.size with h | h
  · rw [List.getElem?_append_left (by simpa using h), List.getElem?_range (by rw [Nat.add_mul, Nat.one_mul]; omega)]
    simp [Nat.mod_eq_of_lt h, h]
  · rw [List.getElem?_append_right (by simpa using h)]
    simp only [Array.length_toList, List.getElem?_map]
    rcases Nat.lt_or_ge j ((n + 1) * zc.size) with h2 | h2
    · rw [List.getElem?_range h2, List.getElem?_range (by rw [Nat.add_mul, Nat.one_mul] at h2; omega)]
      simp only [Option.map_some, Option.some.injEq]
      rw [Nat.mod_eq_sub_mod h]
    · rw [List.getElem?_eq_none (by simpa using h2), List.getElem?_eq_none (by rw [Nat.add_mul, Nat.one_mul] at h2; simp; omega)]
theorem flat_zero {zc : Array Value} (hz : 0 < zc.size) (h : ∀ w F, E.im w F z zc.toList) (w : World) (F : Nat → Prop) : ∀ n, Flat E w F (List.replicate n z) (madeCells zc (n * zc.size)).toList
  | 0 => by
    show _ = _
    simp [madeCells, Array.range_zero']
  | n + 1 => by
    rw [List.replicate_succ]
    exact ⟨zc.toList, _, madeCells_succ zc n hz, h w F, flat_zero hz h w F n⟩
theorem run_make_row (hE : Elem P E e z) {t : Nat} (ht : P.underlying t = some (.slice e)) (w : World) (o : Own) (k : Nat) (kl kc : IntKind) (n : Int) (h0 : 0 ≤ n) (hn : n ≤ 1000000000) :
    ∃ v w' o', (Instr.makeSlice t (.int kl n) (.int kc n)).run P w = .ok v w' ∧ Row E e w' o' k v (List.replicate n.toNat z) ∧ Tr No w o w' o' := by
  obtain ⟨inf, zv, q1, q2, q3, q4, q5, q6⟩ := hE.info
  have hb : (inf.bytes : Int) * n ≤ 281474976710656 := by
    obtain ⟨q, hq⟩ : ∃ q, q = n.toNat * inf.bytes := ⟨_, rfl⟩
    have h1 : q ≤ 140737488355328 := by rw [hq]; exact bytes_fit (by omega) q4
    have h2 : (q : Int) = (inf.bytes : Int) * n := by rw [hq, Int.natCast_mul, Int.toNat_of_nonneg h0, Int.mul_comm]
    rw [← h2]
    omega
  have hmax : (1000000000 : Nat) ≤ maxLen := by simp [maxLen]
  have hr := run_make (P := P) w t e inf zv ht q1 q2 kl kc n n h0 (Int.le_refl _) hb (by omega)
  refine ⟨_, _, upd o w.heap.size k, hr, .inr ⟨w.heap.size, 0, n.toNat, _, (madeCells zv.cells (n.toNat * inf.size)).toList, by rw [List.length_replicate], upd_new _ _ _, heap_alloc_new w _, by rw [List.length_replicate]; exact Nat.le_refl _, by omega, ?_, ?_, fun j u hu => ?_⟩, tr_alloc w o _ k⟩
  · rw [size_madeCells, q3]; omega
  · rw [q3, ← q5]
    exact flat_zero (by rw [q5]; exact hE.pos) q6 _ _ _
  · rw [Nat.zero_add]
    simpa using hu
end
end Go.Gc
namespace Go.Gc
open Go Go.RowKit
def at_ (a : Act) (t : Nat) : Value := a.tmps.getD t undef
structure Fr (a : Act) (n : Nat) (ds : List Deferred) : Prop where
  size : a.tmps.size = n
  defers : a.defers = ds
structure Put (a a' : Act) (d : Nat) (v : Value) : Prop where
  new : at_ a' d = v
  old : ∀ t, t ≠ d → at_ a' t = at_ a t
  size : a'.tmps.size = a.tmps.size
  defers : a'.defers = a.defers
theorem put_put {a : Act} {d : Nat} {v : Value} (h : d < a.tmps.size) : Put a (a.put (some d) v) d v where
  new := by simp [at_, Act.put, h]
  old := fun t ht => by simp [at_, Act.put, Array.getElem?_setIfInBounds_ne (Ne.symm ht)]
  size := by simp [Act.put]
  defers := rfl
theorem Put.fr {a a' : Act} {d n : Nat} {v : Value} {ds : List Deferred} (p : Put a a' d v) (f : Fr a n ds) : Fr a' n ds := ⟨p.size.trans f.size, p.defers.trans f.defers⟩
theorem yielded_of {ops : Array Oper} {a : Act} {j d : Nat} {b : Bool} (hj : (ops[j]?).bind (·.dst) = some d) (h : at_ a d = .bool b) : yielded ops a.tmps j = some b := by
  have hd : d < a.tmps.size := by
    apply Decidable.byContradiction
    intro hn
    simp [at_, undef, Array.getElem?_eq_none (Nat.le_of_not_lt hn)] at h
  have : a.tmps[d]? = some (.bool b) := by
    simp only [at_, Array.getD_eq_getD_getElem?, Array.getElem?_eq_getElem hd, Option.getD_some] at h
    rw [Array.getElem?_eq_getElem hd, h]
  simp [yielded, hj, this]
theorem wanted_yes {ops : Array Oper} {a : Act} {o : Oper} {j d : Nat} {b : Bool} (hg : o.guard = some (j, b)) (hj : (ops[j]?).bind (·.dst) = some d) (h : at_ a d = .bool b) : Region.wanted o (yielded ops a.tmps) = true := by
  simp [Region.wanted, hg, yielded_of hj h]
theorem wanted_no {ops : Array Oper} {a : Act} {o : Oper} {j d : Nat} {b c : Bool} (hg : o.guard = some (j, b)) (hj : (ops[j]?).bind (·.dst) = some d) (h : at_ a d = .bool c) (hne : c ≠ b) : Region.wanted o (yielded ops a.tmps) = false := by
  simp [Region.wanted, hg, yielded_of hj h, hne]
theorem wanted_undef {ops : Array Oper} {a : Act} {o : Oper} {j d : Nat} {b : Bool} (hg : o.guard = some (j, b)) (hj : (ops[j]?).bind (·.dst) = some d) (h : at_ a d = undef) : Region.wanted o (yielded ops a.tmps) = false := by
  have hy : yielded ops a.tmps j = none := by
    simp only [yielded, hj, Option.bind_some]
    cases hq : a.tmps[d]? with
    | none => rfl
    | some v =>
      have : v = undef := by
        simp only [at_, Array.getD_eq_getD_getElem?, hq, Option.getD_some] at h
        exact h
      rw [this]; rfl
  simp [Region.wanted, hg, hy]
theorem wanted_plain {ops : Array Oper} {a : Act} {o : Oper} (hg : o.guard = none) : Region.wanted o (yielded ops a.tmps) = true := by simp [Region.wanted, hg]
def Reach (P : Program) (Q : Exit → Act → World → Prop) (m : Machine) (b : Frame) (k : List Item) (cs : List Frame) : Prop := ∃ e a' w', Q e a' w' ∧ Arrives P m b k cs e a' w'
def wpX (P : Program) (ops : Array Oper) (Q : Exit → Act → World → Prop) (i : Nat) (a : Act) (w : World) : Prop :=
  ∀ (b : Frame) (k : List Item) (cs : List Frame), Reach P Q (lone (b.at a (.inRegion ops (List.range' i (ops.size - i)) :: k)) cs w) b k cs
def opS (P : Program) (ops : Array Oper) (Q : Exit → Act → World → Prop) (i : Nat) (K : Act → World → Prop) (a : Act) (w : World) : Prop :=
  ∀ (rest : List Nat) (b : Frame) (k : List Item) (cs : List Frame), (∀ a w, K a w → Reach P Q (lone (b.at a (.inRegion ops rest :: k)) cs w) b k cs) →
    Reach P Q (lone (b.at a (.inRegion ops (i :: rest) :: k)) cs w) b k cs
theorem Reach.steps {P : Program} {Q : Exit → Act → World → Prop} {m m1 : Machine} {b : Frame} {k : List Item} {cs : List Frame} (h : Steps P m m1) (h' : Reach P Q m1 b k cs) : Reach P Q m b k cs :=
  let ⟨e, a, w, q, r⟩ := h'; ⟨e, a, w, q, .of_steps h r⟩
section
variable {P : Program} {ops : Array Oper} {Q : Exit → Act → World → Prop} {i : Nat} {K : Act → World → Prop} {o : Oper} {a : Act} {w w' : World} {v : Value} {d n : Nat} {ds : List Deferred}
theorem x_next (hi : i < ops.size) (h : opS P ops Q i (wpX P ops Q (i + 1)) a w) : wpX P ops Q i a w := by
  intro b k cs
  have e : List.range' i (ops.size - i) = i :: List.range' (i + 1) (ops.size - (i + 1)) := by
    rw [show ops.size - i = (ops.size - (i + 1)) + 1 by omega, List.range'_succ]
  rw [e]
  exact h _ b k cs fun a w hk => hk b k cs
theorem x_end (hi : ops.size = i) (h : Q .normal a w) : wpX P ops Q i a w := by
  intro b k cs
  rw [hi, Nat.sub_self]
  exact ⟨.normal, a, w, h, .one step_region_end⟩
theorem o_value (ho : ops[i]? = some o) (hw : Region.wanted o (yielded ops a.tmps) = true) (hr : (execOp a.eval o).run P w = .ok (.value v) w') (k : K (a.put o.dst v) w') : opS P ops Q i K a w := by
  intro rest b kk cs hK
  have hg := stepG_op (P := P) (b := b) (k := kk) (cs := cs) (w := w) (rest := rest) ho hw
  have hfin : (b.at a (.inRegion ops (i :: rest) :: kk)).finish v = b.at (a.put o.dst v) (.inRegion ops rest :: kk) := by rw [Frame.finish_at, ho]; rfl
  refine .steps (.one (step_lone_go ?_)) (hK _ _ k)
  rw [hg, ← hfin]; simp [stepG.apply, hr]
theorem o_val (ho : ops[i]? = some o) (hw : Region.wanted o (yielded ops a.tmps) = true) (hd : o.dst = some d) (hf : Fr a n ds) (hz : d < n) (hr : (execOp a.eval o).run P w = .ok (.value v) w')
    (k : ∀ a', Put a a' d v → K a' w') : opS P ops Q i K a w :=
  o_value ho hw hr (by rw [hd]; exact k _ (put_put (by rw [hf.size]; exact hz)))
theorem o_skip (ho : ops[i]? = some o) (hw : Region.wanted o (yielded ops a.tmps) = true) (hd : o.dst = none) (hr : (execOp a.eval o).run P w = .ok .skip w') (k : K a w') : opS P ops Q i K a w := by
  intro rest b kk cs hK
  have hg := stepG_op (P := P) (b := b) (k := kk) (cs := cs) (w := w) (rest := rest) ho hw
  have hfin : (b.at a (.inRegion ops (i :: rest) :: kk)).finish undef = b.at a (.inRegion ops rest :: kk) := by rw [Frame.finish_at, ho]; simp [hd, Act.put]
  refine .steps (.one (step_lone_go ?_)) (hK _ _ k)
  rw [hg, ← hfin]; simp [stepG.apply, hr]
theorem o_off_ (ho : ops[i]? = some o) (hw : Region.wanted o (yielded ops a.tmps) = false) (k : K (a.put o.dst undef) w) : opS P ops Q i K a w := by
  intro rest b kk cs hK
  have hs := step_op_skip (P := P) (b := b) (a := a) (k := kk) (cs := cs) (w := w) (ops := ops) (i := i) (rest := rest) (by simp [ho, hw])
  simp only [ho, Option.bind_some] at hs
  exact .steps (.one hs) (hK _ _ k)
theorem o_off (ho : ops[i]? = some o) (hw : Region.wanted o (yielded ops a.tmps) = false) (hd : o.dst = some d) (hf : Fr a n ds) (hz : d < n) (k : ∀ a', Put a a' d undef → K a' w) : opS P ops Q i K a w :=
  o_off_ ho hw (by rw [hd]; exact k _ (put_put (by rw [hf.size]; exact hz)))
theorem o_enter {f : FuncId} {args : Array Value} {R : Ending → World → Prop} (ho : ops[i]? = some o) (hw : Region.wanted o (yielded ops a.tmps) = true)
    (hr : (execOp a.eval o).run P w = .ok (.enter f args) w) (hc : Calls P f args w R) (k : ∀ e w', R e w' → ∃ v, e = .returned v ∧ K (a.put o.dst v) w') : opS P ops Q i K a w := by
  intro rest b kk cs hK
  have hg := stepG_op (P := P) (b := b) (k := kk) (cs := cs) (w := w) (rest := rest) ho hw
  obtain ⟨e, w'', fr, hR, hsteps, _, hleave⟩ := hc (b.at a (.inRegion ops (i :: rest) :: kk) :: cs)
  have henter : step P (lone (b.at a (.inRegion ops (i :: rest) :: kk)) cs w) = .next (lone (Frame.enter P f args .normal) (b.at a (.inRegion ops (i :: rest) :: kk) :: cs) w) :=
    step_lone_go (by rw [hg]; simp [stepG.apply, hr, Frame.at])
  obtain ⟨v, rfl, hk⟩ := k e w'' hR
  have hfin : (b.at a (.inRegion ops (i :: rest) :: kk)).finish v = b.at (a.put o.dst v) (.inRegion ops rest :: kk) := by rw [Frame.finish_at, ho]; rfl
  refine .steps (Steps.head henter (hsteps.trans (.one (step_leave_returned hleave)))) ?_
  rw [hfin]
  exact hK _ _ hk
theorem o_call {f : FuncId} {args : Array Value} {R : Ending → World → Prop} (ho : ops[i]? = some o) (hw : Region.wanted o (yielded ops a.tmps) = true) (hd : o.dst = some d) (hf : Fr a n ds) (hz : d < n)
    (hr : (execOp a.eval o).run P w = .ok (.enter f args) w) (hc : Calls P f args w R) (k : ∀ e w', R e w' → ∃ v, e = .returned v ∧ ∀ a', Put a a' d v → K a' w') : opS P ops Q i K a w :=
  o_enter ho hw hr hc fun e w' h => by
    obtain ⟨v, he, hk⟩ := k e w' h
    exact ⟨v, he, by rw [hd]; exact hk _ (put_put (by rw [hf.size]; exact hz))⟩
theorem o_comm {cases : Array CommCase} {blocking : Bool} {shape : CommShape} (ho : ops[i]? = some o) (hw : Region.wanted o (yielded ops a.tmps) = true)
    (hr : (execOp a.eval o).run P w = .ok (.comm cases blocking shape) w)
    (hst : ∀ fr cs es, stepG P true (Conc.G fr cs) w = .comm (Conc.G fr cs) cases blocking shape w es → step P (Conc.solo (Conc.G fr cs) w) = .next (Conc.solo (Conc.G (fr.finish v) cs) w'))
    (k : K (a.put o.dst v) w') : opS P ops Q i K a w := by
  intro rest b kk cs hK
  have hg := stepG_op (P := P) (b := b) (k := kk) (cs := cs) (w := w) (rest := rest) ho hw
  have hfin : (b.at a (.inRegion ops (i :: rest) :: kk)).finish v = b.at (a.put o.dst v) (.inRegion ops rest :: kk) := by rw [Frame.finish_at, ho]; rfl
  have hes : ∃ es, stepG P true (Conc.G (b.at a (.inRegion ops (i :: rest) :: kk)) cs) w = .comm (Conc.G (b.at a (.inRegion ops (i :: rest) :: kk)) cs) cases blocking shape w es := by
    show ∃ es, stepG P true { frame := b.at a (.inRegion ops (i :: rest) :: kk), callers := cs, status := .running, dying := none } w = _
    rw [hg]
    simp only [stepG.apply, Sem.runT_eq, hr, if_true]
    exact ⟨_, rfl⟩
  obtain ⟨es, hes⟩ := hes
  have h1 := hst _ _ _ hes
  rw [hfin] at h1
  exact .steps (.one h1) (hK _ _ k)
end
def RV (P : Program) (a : Act) (w : World) : ResultVar → Value → Prop
  | .tmp t, v => at_ a t = v
  | .cell t T, v => ∃ ad, at_ a t = .pointer (some ad) ∧ (loadVar T ad).run P w = .ok v w
section
variable {P : Program} {a : Act} {w : World} {fn : Func} {r r' r'' : ResultVar} {v v' v'' : Value}
theorem rv_tmp {t : Nat} (e : at_ a t = v) : RV P a w (.tmp t) v := e
theorem rv_cell {t T : Nat} {ad : Addr} (hl : ∀ (ad : Addr) (w : World) (v : Value), w.cell? ad = some v → (Instr.loadAt T (.pointer (some ad))).run P w = .ok v w) (e : at_ a t = .pointer (some ad)) (hc : w.cell? ad = some v) : RV P a w (.cell t T) v :=
  ⟨ad, e, hl ad w v hc⟩
theorem rv_cellN {t T g o : Nat} {cs : Array Value} (hl : ∀ (g o : Nat) (w : World), (∀ j u, cs[j]? = some u → w.cell? ⟨g, o + j, none⟩ = some u) → (Instr.loadAt T (.pointer (some ⟨g, o, none⟩))).run P w = .ok (.agg cs) w)
    (e : at_ a t = .pointer (some ⟨g, o, none⟩)) (hc : ∀ j u, cs[j]? = some u → w.cell? ⟨g, o + j, none⟩ = some u) : RV P a w (.cell t T) (.agg cs) :=
  ⟨_, e, hl g o w hc⟩
theorem res0 (h : fn.results = #[]) : (results fn a.tmps).run P w = .ok (.tuple #[]) w := by simp [results, h]
theorem res1 (h : fn.results = #[r]) (h1 : RV P a w r v) : (results fn a.tmps).run P w = .ok v w := by
  cases r with
  | tmp t =>
    have e : a.tmps.getD t undef = v := h1
    rw [Array.getD_eq_getD_getElem?] at e
    simp [results, h, e]
  | cell t T =>
    obtain ⟨ad, e, hl⟩ := h1
    have e : a.tmps.getD t undef = .pointer (some ad) := e
    rw [Array.getD_eq_getD_getElem?] at e
    simp [results, h, e, asAddr, hl]
theorem res2 (h : fn.results = #[r, r']) (h1 : RV P a w r v) (h2 : RV P a w r' v') : (results fn a.tmps).run P w = .ok (.tuple #[v, v']) w := by
  cases r with
  | tmp t =>
    have e : a.tmps.getD t undef = v := h1
    rw [Array.getD_eq_getD_getElem?] at e
    cases r' with
    | tmp t' =>
      have e' : a.tmps.getD t' undef = v' := h2
      rw [Array.getD_eq_getD_getElem?] at e'
      simp [results, h, e, e']
    | cell t' T' =>
      obtain ⟨ad', e', hl'⟩ := h2
      have e' : a.tmps.getD t' undef = .pointer (some ad') := e'
      rw [Array.getD_eq_getD_getElem?] at e'
      simp [results, h, e, e', asAddr, hl']
  | cell t T =>
    obtain ⟨ad, e, hl⟩ := h1
    have e : a.tmps.getD t undef = .pointer (some ad) := e
    rw [Array.getD_eq_getD_getElem?] at e
    cases r' with
    | tmp t' =>
      have e' : a.tmps.getD t' undef = v' := h2
      rw [Array.getD_eq_getD_getElem?] at e'
      simp [results, h, e, e', asAddr, hl]
    | cell t' T' =>
      obtain ⟨ad', e', hl'⟩ := h2
      have e' : a.tmps.getD t' undef = .pointer (some ad') := e'
      rw [Array.getD_eq_getD_getElem?] at e'
      simp [results, h, e, e', asAddr, hl, hl']
end
section
variable {P : Program} {Q : Exit → Act → World → Prop} {a : Act} {w : World}
theorem c_seq {x y : Code} (h : x.wp P (Exit.then (y.wp P Q) Q) a w) : (x.seq y).wp P Q a w := wp_seq h
theorem c_reg {id : Nat} {ops : Array Oper} (h : wpX P ops Q 0 a w) : (Code.region id ops false).wp P Q a w := by
  intro b k cs
  refine Reach.steps (.one step_region) ?_
  have := h b k cs
  rw [Nat.sub_zero, ← List.range_eq_range'] at this
  exact this
theorem c_true {c : Operand} {x y : Code} (hc : a.eval c = .bool true) (h : x.wp P Q a w) : (Code.cond c x y).wp P Q a w := wp_cond_true hc h
theorem c_false {c : Operand} {x y : Code} (hc : a.eval c = .bool false) (h : y.wp P Q a w) : (Code.cond c x y).wp P Q a w := wp_cond_false hc h
theorem q_then {next : Act → World → Prop} (h : next a w) : Exit.then next Q .normal a w := h
theorem q_then_ret {next : Act → World → Prop} (h : Q .ret a w) : Exit.then next Q .ret a w := h
theorem q_then_exit {next : Act → World → Prop} {i : Nat} (h : Q (.exit i) a w) : Exit.then next Q (.exit i) a w := h
theorem q_blk {id : Nat} (h : Q .normal a w) : Exit.inBlock id Q .normal a w := h
theorem q_blk_ret {id : Nat} (h : Q .ret a w) : Exit.inBlock id Q .ret a w := h
theorem q_blk_here {id : Nat} (h : Q .normal a w) : Exit.inBlock id Q (.exit id) a w := by simp only [Exit.inBlock, if_true]; exact h
theorem calls_start {f : FuncId} {fn : Func} {c : Code} {args : Array Value} {R : Ending → World → Prop} {n : Nat} (hf : P.funcs[f]? = some fn) (hb : fn.body = some c) (hn : fn.ntmps = n) (hle : args.size ≤ n)
    (h : ∀ a0 : Act, Fr a0 n [] → (∀ j v, args[j]? = some v → at_ a0 j = v) → c.wp P (bodyPost P fn R) a0 w) : Calls P f args w R := by
  refine calls_of_wp hf hb (h _ ⟨?_, rfl⟩ fun j v hj => ?_)
  · simp only [Array.size_append, Array.size_replicate, hn]; omega
  · have hlt : j < args.size := (Array.getElem?_eq_some_iff.1 hj).1
    simp [at_, Array.getElem?_append_left hlt, hj]
def iter {S X : Type} (body : S → Option (S ⊕ X)) : Nat → S → Option X
  | 0, _ => none
  | n + 1, s => (body s).bind fun y => match y with | .inl s' => iter body n s' | .inr x => some x
def LQ {S X : Type} (I : S → Act → World → Prop) (O : X → Exit → Act → World → Prop) : (S ⊕ X) → Exit → Act → World → Prop
  | .inl s, e, a, w => e = .normal ∧ I s a w
  | .inr x, e, a, w => e ≠ .normal ∧ O x e a w
theorem lq_next {S X : Type} {I : S → Act → World → Prop} {O : X → Exit → Act → World → Prop} {s : S} (h : I s a w) : LQ I O (.inl s) .normal a w := ⟨rfl, h⟩
theorem lq_exit {S X : Type} {I : S → Act → World → Prop} {O : X → Exit → Act → World → Prop} {x : X} {i : Nat} (h : O x (.exit i) a w) : LQ I O (.inr x) (.exit i) a w := ⟨by simp, h⟩
theorem lq_ret {S X : Type} {I : S → Act → World → Prop} {O : X → Exit → Act → World → Prop} {x : X} (h : O x .ret a w) : LQ I O (.inr x) .ret a w := ⟨by simp, h⟩
theorem loop_iter {S X : Type} {c : Code} (body : S → Option (S ⊕ X)) (I : S → Act → World → Prop) (O : X → Exit → Act → World → Prop)
    (hb : ∀ s a w y, I s a w → body s = some y → c.wp P (LQ I O y) a w) {j : Nat} {s : S} {x : X} (hx : iter body j s = some x) (hI : I s a w)
    (hq : ∀ e a w, O x e a w → Q e a w) : (Code.loop c).wp P Q a w := by
  intro b k cs
  have key : ∀ (j : Nat) (s : S) (a : Act) (w : World), iter body j s = some x → I s a w →
      ∃ e a' w', O x e a' w' ∧ Arrives P (lone (b.at a (.code c :: .inLoop c :: k)) cs w) b k cs e a' w' := by
    intro j
    induction j with
    | zero => intro s a w h; exact absurd h (by simp [iter])
    | succ j ih =>
      intro s a w h hI
      simp only [iter] at h
      obtain ⟨y, hy, h⟩ := Option.bind_eq_some_iff.1 h
      obtain ⟨e, a₁, w₁, hq₁, harr⟩ := hb s a w y hI hy b (.inLoop c :: k) cs
      cases y with
      | inl s' =>
        obtain ⟨rfl, hI'⟩ := hq₁
        obtain ⟨e₂, a₂, w₂, hq₂, harr₂⟩ := ih s' a₁ w₁ h hI'
        exact ⟨e₂, a₂, w₂, hq₂, .of_steps (Steps.trans harr (.one step_inLoop)) harr₂⟩
      | inr x' =>
        simp only [Option.some.injEq] at h
        subst h
        obtain ⟨hne, hO⟩ := hq₁
        cases e with
        | normal => exact absurd rfl hne
        | exit id => exact ⟨_, a₁, w₁, hO, .pass (x := .inLoop c) rfl (fun _ _ => .inl (by simp)) harr⟩
        | goto l => exact ⟨_, a₁, w₁, hO, .pass (x := .inLoop c) rfl (fun _ _ => .inl (by simp)) harr⟩
        | ret => exact ⟨_, a₁, w₁, hO, .pass (x := .inLoop c) rfl (fun _ _ => .inl (by simp)) harr⟩
        | panic ch => exact ⟨_, a₁, w₁, hO, .pass (x := .inLoop c) rfl (fun _ _ => .inl (by simp)) harr⟩
        | outgrown => exact ⟨_, a₁, w₁, hO, .pass (x := .inLoop c) rfl (fun _ _ => .inl (by simp)) harr⟩
  obtain ⟨e, a', w', hO, harr⟩ := key j s a w hx hI
  exact ⟨e, a', w', hq _ _ _ hO, .of_steps (.one step_loop) harr⟩
end
theorem countP_lt_of {α : Type} {p q : α → Bool} : ∀ {l : List α}, (∀ x ∈ l, p x = true → q x = true) → ∀ {i : α}, i ∈ l → p i = false → q i = true → l.countP p < l.countP q
  | [], _, i, hi, _, _ => by simp at hi
  | x :: l, hpq, i, hi, hp, hq => by
    have hle : l.countP p ≤ l.countP q := List.countP_mono_left fun y hy h => hpq y (by simp [hy]) h
    rcases List.mem_cons.1 hi with rfl | hi'
    · rw [List.countP_cons_of_neg (by simp [hp]), List.countP_cons_of_pos (by simp [hq])]; omega
    · have ih := countP_lt_of (p := p) (q := q) (fun y hy => hpq y (by simp [hy])) hi' hp hq
      simp only [List.countP_cons]
      have := hpq x (by simp)
      by_cases h1 : p x = true
      · simp [h1, this h1]; exact ih
      · by_cases h2 : q x = true
        · simp [h1, h2]; omega
        · simp [h1, h2]; exact ih
def chk (ops : Array Oper) (ancs : List (List Nat)) : Bool :=
  ancs.length == ops.size && (List.range ops.size).all fun i =>
    match ops[i]? with
    | none => true
    | some o =>
      (o.after.toList.all fun e => !Region.binds .any e || (decide (e.on < i) && (ancs.getD i []).contains e.on && (ancs.getD e.on []).all fun j => (ancs.getD i []).contains j)) &&
      (ancs.getD i []).all fun j => o.after.toList.any fun e => Region.binds .any e && (e.on == j || (ancs.getD e.on []).contains j)
def add (L : Nat → Bool) (i : Nat) : Nat → Bool := fun j => if j = i then true else L j
theorem add_self (L : Nat → Bool) (i : Nat) : add L i i = true := by simp [add]
theorem add_other {L : Nat → Bool} {i j : Nat} (h : j ≠ i) : add L i j = L j := by simp [add, h]
section
variable {P : Program} {ops : Array Oper} {Q : Exit → Act → World → Prop}
def downTo (ops : Array Oper) (ancs : List (List Nat)) (listed : Array Bool) : Prop := listed.size = ops.size ∧ ∀ i, listed.getD i false = true → ∀ j ∈ ancs.getD i [], listed.getD j false = true
theorem lin_inv {ancs : List (List Nat)} (hc : chk ops ancs = true) (Inv : (Nat → Bool) → Act → World → Prop)
    (hstep : ∀ (L : Nat → Bool) (i : Nat) (a : Act) (w : World), i < ops.size → L i = false → (∀ j ∈ ancs.getD i [], L j = true) → (∀ j, i ∈ ancs.getD j [] → L j = false) → Inv L a w →
      opS P ops Q i (Inv (add L i)) a w)
    (hend : ∀ (L : Nat → Bool) (a : Act) (w : World), (∀ i, i < ops.size → L i = true) → Inv L a w → Q .normal a w) :
    ∀ (fuel t : Nat) (listed : Array Bool) (a : Act) (w : World), downTo ops ancs listed → (List.range ops.size).countP (fun i => !listed.getD i false) ≤ fuel →
      (∀ L : Nat → Bool, (∀ i, L i = listed.getD i false) → Inv L a w) → ∀ (b : Frame) (k : List Item) (cs : List Frame),
        Reach P Q (lone (b.at a (.inRegion ops (Region.linearise.go .any ops fuel t listed []) :: k)) cs w) b k cs := by
  simp only [chk, Bool.and_eq_true, beq_iff_eq, List.all_eq_true, List.mem_range] at hc
  obtain ⟨hlen, hc⟩ := hc
  have hedge : ∀ i o, ops[i]? = some o → ∀ e ∈ o.after.toList, Region.binds .any e = true → e.on < i ∧ e.on ∈ ancs.getD i [] := by
    intro i o ho e he hb
    have hi : i < ops.size := (Array.getElem?_eq_some_iff.1 ho).1
    have h1 := hc i hi
    simp only [ho, Bool.and_eq_true, List.all_eq_true] at h1
    have h2 := h1.1 e he
    simp only [hb, Bool.not_true, Bool.false_or, Bool.and_eq_true, decide_eq_true_eq, List.contains_iff_mem] at h2
    exact ⟨h2.1.1, by simpa using h2.1.2⟩
  have hanc : ∀ i o, ops[i]? = some o → ∀ j ∈ ancs.getD i [], ∃ e ∈ o.after.toList, Region.binds .any e = true ∧ (e.on = j ∨ j ∈ ancs.getD e.on []) := by
    intro i o ho j hj
    have hi : i < ops.size := (Array.getElem?_eq_some_iff.1 ho).1
    have h1 := hc i hi
    simp only [ho, Bool.and_eq_true, List.all_eq_true] at h1
    have h2 := h1.2 j hj
    simp only [List.any_eq_true, Bool.and_eq_true, Bool.or_eq_true, beq_iff_eq] at h2
    obtain ⟨e, he, hb, h3⟩ := h2
    exact ⟨e, he, hb, h3.imp id (fun h => by simpa using h)⟩
  have hready : ∀ listed : Array Bool, listed.size = ops.size → Region.ready .any ops listed = [] → ∀ i, i < ops.size → listed.getD i false = true := by
    intro listed hsz hnil i
    induction i using Nat.strongRecOn with
    | _ i ih =>
      intro hi
      apply Decidable.byContradiction
      intro hn
      have hm : i ∈ Region.ready .any ops listed := by
        simp only [Region.ready, List.mem_filter, List.mem_range]
        refine ⟨hi, ?_⟩
        simp only [Bool.and_eq_true]
        refine ⟨?_, ?_⟩
        · rw [Array.getD_eq_getD_getElem?] at hn ⊢
          rw [Array.getElem?_eq_getElem (by omega)] at hn ⊢
          simpa using hn
        · rw [Array.getElem?_eq_getElem hi]
          simp only [Option.map_some, Option.getD_some]
          rw [Array.all_eq_true']
          intro e he
          by_cases hb : Region.binds .any e = true
          · have := hedge i ops[i] (Array.getElem?_eq_getElem hi) e (Array.mem_toList_iff.2 he) hb
            simp [hb, ih e.on this.1 (by omega)]
          · simp [hb]
      rw [hnil] at hm
      simp at hm
  intro fuel
  induction fuel with
  | zero =>
    intro t listed a w hd hcnt hI b k cs
    have hall : ∀ i, i < ops.size → listed.getD i false = true := by
      intro i hi
      have h0 := Nat.le_zero.1 hcnt
      rw [List.countP_eq_zero] at h0
      have := h0 i (List.mem_range.2 hi)
      simpa using this
    simp only [Region.linearise.go, List.reverse_nil]
    exact ⟨.normal, a, w, hend (fun i => listed.getD i false) a w (fun i hi => hall i hi) (hI _ (fun _ => rfl)), .one step_region_end⟩
  | succ fuel ih =>
    intro t listed a w hd hcnt hI b k cs
    simp only [Region.linearise.go]
    change Reach P Q (lone (b.at a (.inRegion ops (match (Region.ready .any ops listed)[t % (Region.ready .any ops listed).length]? with
      | some i => Region.linearise.go .any ops fuel (t / (Region.ready .any ops listed).length) (listed.setIfInBounds i true) [i]
      | none => [].reverse) :: k)) cs w) b k cs
    cases hri : (Region.ready .any ops listed)[t % (Region.ready .any ops listed).length]? with
    | none =>
      have hnil : Region.ready .any ops listed = [] := by
        cases hr : Region.ready .any ops listed with
        | nil => rfl
        | cons x xs =>
          rw [hr] at hri
          have hlt : t % (x :: xs).length < (x :: xs).length := Nat.mod_lt _ (by simp)
          simp at hri
          simp at hlt
          omega
      simp only [List.reverse_nil]
      exact ⟨.normal, a, w, hend (fun i => listed.getD i false) a w (fun i hi => hready listed hd.1 hnil i hi) (hI _ (fun _ => rfl)), .one step_region_end⟩
    | some i =>
    simp only []
    rw [linearise_go_acc, List.reverse_singleton, List.singleton_append]
    have hi := List.mem_of_getElem? hri
    simp only [Region.ready, List.mem_filter, List.mem_range, Bool.and_eq_true] at hi
    obtain ⟨hlt, hun, hpre⟩ := hi
    have hun' : listed.getD i false = false := by
      rw [Array.getD_eq_getD_getElem?, Array.getElem?_eq_getElem (by rw [hd.1]; exact hlt)] at hun ⊢
      simpa using hun
    rw [Array.getElem?_eq_getElem hlt] at hpre
    simp only [Option.map_some, Option.getD_some, Array.all_eq_true'] at hpre
    have hdir : ∀ e ∈ (ops[i]'hlt).after.toList, Region.binds .any e = true → listed.getD e.on false = true := by
      intro e he hb
      have := hpre e (Array.mem_toList_iff.1 he)
      simpa [hb] using this
    have hA : ∀ j ∈ ancs.getD i [], listed.getD j false = true := by
      intro j hj
      obtain ⟨e, he, hb, h3⟩ := hanc i ops[i] (Array.getElem?_eq_getElem hlt) j hj
      have h4 := hdir e he hb
      rcases h3 with rfl | h3
      · exact h4
      · exact hd.2 _ h4 j h3
    have hD : ∀ j, i ∈ ancs.getD j [] → listed.getD j false = false := by
      intro j hj
      apply Decidable.byContradiction
      intro hn
      have h5 := hd.2 j (by simpa using hn) i hj
      rw [hun'] at h5
      cases h5
    have hs := hstep (fun j => listed.getD j false) i a w hlt hun' hA hD (hI _ (fun _ => rfl))
    have hset : ∀ j, (listed.setIfInBounds i true).getD j false = add (fun j => listed.getD j false) i j := by
      intro j
      by_cases hj : j = i
      · subst hj
        simp [add, hd.1, hlt]
      · simp [add, hj, Array.getElem?_setIfInBounds_ne (Ne.symm hj)]
    refine hs _ b k cs (fun a' w' hI' => ih _ _ a' w' ⟨by simpa using hd.1, ?_⟩ ?_ ?_ b k cs)
    · intro j hj k hk
      rw [hset] at hj ⊢
      by_cases hki : k = i
      · subst hki; exact add_self _ _
      · rw [add_other hki]
        by_cases hji : j = i
        · subst hji; exact hA k hk
        · rw [add_other hji] at hj
          exact hd.2 j hj k hk
    · have hlt2 : (List.range ops.size).countP (fun j => !(listed.setIfInBounds i true).getD j false) < (List.range ops.size).countP (fun j => !listed.getD j false) := by
        refine countP_lt_of ?_ (List.mem_range.2 hlt) ?_ ?_
        · intro j _ hj
          rw [hset] at hj
          by_cases hji : j = i
          · subst hji; simp [add_self] at hj
          · rw [add_other hji] at hj; exact hj
        · rw [hset, add_self]; rfl
        · rw [hun']; rfl
      omega
    · intro L hL
      have : L = add (fun j => listed.getD j false) i := funext fun j => (hL j).trans (hset j)
      rw [this]
      exact hI'
theorem c_draw {id : Nat} {a : Act} {w : World} (hm : P.follows .mixedOrders = true) (ancs : List (List Nat)) (hc : chk ops ancs = true) (Inv : (Nat → Bool) → Act → World → Prop)
    (h0 : Inv (fun _ => false) a w.drew)
    (hstep : ∀ (L : Nat → Bool) (i : Nat) (a : Act) (w : World), i < ops.size → L i = false → (∀ j ∈ ancs.getD i [], L j = true) → (∀ j, i ∈ ancs.getD j [] → L j = false) → Inv L a w →
      opS P ops Q i (Inv (add L i)) a w)
    (hend : ∀ (L : Nat → Bool) (a : Act) (w : World), (∀ i, i < ops.size → L i = true) → Inv L a w → Q .normal a w) :
    (Code.region id ops true).wp P Q a w := by
  intro b k cs
  refine Reach.steps (.one step_region_draw) ?_
  simp only [Region.schedule, hm, Bool.true_or, if_true, Region.linearise]
  refine lin_inv hc Inv hstep hend _ _ _ a _ ⟨by simp, ?_⟩ ?_ ?_ b k cs
  · intro i hi
    simp only [Array.getD_eq_getD_getElem?, Array.getElem?_replicate] at hi
    split at hi <;> simp at hi
  · exact Nat.le_trans (List.countP_le_length) (by simp)
  · intro L hL
    have : L = fun _ => false := funext fun i => by
      rw [hL i, Array.getD_eq_getD_getElem?, Array.getElem?_replicate]
      split <;> rfl
    rw [this]
    exact h0
end
end Go.Gc
namespace Go.Gc
open Go Go.RowKit Go.Conc
def seq (x y : ByteArray) : Bool := x.data.toList == y.data.toList
theorem seq_eq (x y : ByteArray) : (x.toList == y.toList) = seq x y := by
  unfold seq
  rw [ByteArray.toList_eq, ByteArray.toList_eq]
section
variable {P : Program} {a : Act} {w w' : World} {dst : Option Tmp} {ty : TypeId} {pos : String} {af : Array Edge} {gd : Option (Nat × Bool)}
theorem e_tmp {t : Nat} {v : Value} (h : at_ a t = v) : a.eval (.tmp t) = v := h
theorem e_const {v : Value} : a.eval (.const v) = v := rfl
theorem e_func {f : Nat} : a.eval (.func f) = .func (.func f) #[] #[] := rfl
theorem x_move {x : Operand} {v : Value} (h : a.eval x = v) : (execOp a.eval ⟨dst, .move x, ty, pos, af, gd⟩).run P w = .ok (.value v) w := by rw [← h]; rfl
theorem x_assign {x : Operand} {v : Value} (h : a.eval x = v) : (execOp a.eval ⟨dst, .assign x, ty, pos, af, gd⟩).run P w = .ok (.value v) w := by rw [← h]; rfl
theorem x_nilCheck {x : Operand} {ad : Addr} (h : a.eval x = .pointer (some ad)) : (execOp a.eval ⟨dst, .nilCheck x, ty, pos, af, gd⟩).run P w = .ok (.value (.pointer (some ad))) w := by
  simp [execOp, h]
theorem ok_bind {s : Sem Value} {v : Value} (h : s.run P w = .ok v w') : (do pure (Next.value (← s)) : Sem Next).run P w = .ok (.value v) w' := by
  simp [h]
theorem x_fieldAddr {S f k m g o : Nat} {x : Operand} (hf : ∀ (ad : Addr) (w : World), (Instr.fieldAt S (.pointer (some ad)) f).run P w = .ok (.pointer (some (ad.add k))) w)
    (h : a.eval x = .pointer (some ⟨g, o, none⟩)) (hm : o + k = m) : (execOp a.eval ⟨dst, .fieldAddr S x f, ty, pos, af, gd⟩).run P w = .ok (.value (.pointer (some ⟨g, m, none⟩))) w := by
  subst hm
  have := hf ⟨g, o, none⟩ w
  rw [Addr.add_lit] at this
  exact ok_bind (by rw [h]; exact this)
theorem x_load {T : Nat} {x : Operand} {ad : Addr} {v : Value} (hl : ∀ (ad : Addr) (w : World) (v : Value), w.cell? ad = some v → (Instr.loadAt T (.pointer (some ad))).run P w = .ok v w)
    (h : a.eval x = .pointer (some ad)) (hc : w.cell? ad = some v) : (execOp a.eval ⟨dst, .load T x, ty, pos, af, gd⟩).run P w = .ok (.value v) w :=
  ok_bind (by rw [h]; exact hl _ _ _ hc)
theorem x_loadN {T g o : Nat} {x : Operand} {cs : Array Value} (hl : ∀ (g o : Nat) (w : World), (∀ j u, cs[j]? = some u → w.cell? ⟨g, o + j, none⟩ = some u) → (Instr.loadAt T (.pointer (some ⟨g, o, none⟩))).run P w = .ok (.agg cs) w)
    (h : a.eval x = .pointer (some ⟨g, o, none⟩)) (hc : ∀ j u, cs[j]? = some u → w.cell? ⟨g, o + j, none⟩ = some u) : (execOp a.eval ⟨dst, .load T x, ty, pos, af, gd⟩).run P w = .ok (.value (.agg cs)) w :=
  ok_bind (by rw [h]; exact hl _ _ _ hc)
theorem x_store {T : Nat} {x y : Operand} {ad : Addr} {v u : Value} (hl : ∀ (ad : Addr) (w : World) (v u : Value), w.cell? ad = some u → w.frozen? ad = false → v.oneCell' = true → v.cells = #[v] → (Instr.storeAt T (.pointer (some ad)) v).run P w = .ok () (w.setCell ad v))
    (h : a.eval x = .pointer (some ad)) (hy : a.eval y = v) (hc : w.cell? ad = some u) (hf : w.frozen? ad = false) (h1 : v.oneCell' = true) (h2 : v.cells = #[v]) :
    (execOp a.eval ⟨dst, .store T x y, ty, pos, af, gd⟩).run P w = .ok .skip (w.setCell ad v) := by
  have := hl ad w v u hc hf h1 h2
  simp only [execOp, h, hy, Sem.run_bind, this, Result.andThen_ok, Sem.run_pure]
theorem x_box {T : Nat} {x : Operand} {v : Value} (h : a.eval x = v) : (execOp a.eval ⟨dst, .box T x, ty, pos, af, gd⟩).run P w = .ok (.value (.pointer (some ⟨w.heap.size, 0, none⟩))) (w.alloc (.cells v.cells T)) := by
  subst h; rfl
theorem x_alloc {T : Nat} {v : Value} (hz : ∀ w : World, (zeroValue T).run P w = .ok v w) : (execOp a.eval ⟨dst, .alloc T, ty, pos, af, gd⟩).run P w = .ok (.value (.pointer (some ⟨w.heap.size, 0, none⟩))) (w.alloc (.cells v.cells T)) := by
  refine ok_bind ?_
  simp only [Instr.alloc, Sem.run_bind, hz, Result.andThen_ok]
  rfl
section
variable {x y : Operand} {T T' : TypeId} {k : IntKind} {m n : Int}
theorem x_add (h : a.eval x = .int k m) (h' : a.eval y = .int k n) : (execOp a.eval ⟨dst, .binOp .add T x y T', ty, pos, af, gd⟩).run P w = .ok (.value (.int k (k.wrap (m + n)))) w := by
  simp [execOp, eqGuard, binOp, Op.intArith, h, h']
theorem x_sub (h : a.eval x = .int k m) (h' : a.eval y = .int k n) : (execOp a.eval ⟨dst, .binOp .sub T x y T', ty, pos, af, gd⟩).run P w = .ok (.value (.int k (k.wrap (m - n)))) w := by
  simp [execOp, eqGuard, binOp, Op.intArith, h, h']
theorem x_mul (h : a.eval x = .int k m) (h' : a.eval y = .int k n) : (execOp a.eval ⟨dst, .binOp .mul T x y T', ty, pos, af, gd⟩).run P w = .ok (.value (.int k (k.wrap (m * n)))) w := by
  simp [execOp, eqGuard, binOp, Op.intArith, h, h']
theorem x_eql (h : a.eval x = .int k m) (h' : a.eval y = .int k n) : (execOp a.eval ⟨dst, .binOp .eql T x y T', ty, pos, af, gd⟩).run P w = .ok (.value (.bool (m == n))) w := by
  simp [execOp, eqGuard, binOp, Op.intCmp, h, h']
theorem x_neq (h : a.eval x = .int k m) (h' : a.eval y = .int k n) : (execOp a.eval ⟨dst, .binOp .neq T x y T', ty, pos, af, gd⟩).run P w = .ok (.value (.bool (m != n))) w := by
  simp [execOp, eqGuard, binOp, Op.intCmp, h, h']
theorem x_lss (h : a.eval x = .int k m) (h' : a.eval y = .int k n) : (execOp a.eval ⟨dst, .binOp .lss T x y T', ty, pos, af, gd⟩).run P w = .ok (.value (.bool (decide (m < n)))) w := by
  simp [execOp, eqGuard, binOp, Op.intCmp, h, h']
theorem x_leq (h : a.eval x = .int k m) (h' : a.eval y = .int k n) : (execOp a.eval ⟨dst, .binOp .leq T x y T', ty, pos, af, gd⟩).run P w = .ok (.value (.bool (decide (m ≤ n)))) w := by
  simp [execOp, eqGuard, binOp, Op.intCmp, h, h']
theorem x_gtr (h : a.eval x = .int k m) (h' : a.eval y = .int k n) : (execOp a.eval ⟨dst, .binOp .gtr T x y T', ty, pos, af, gd⟩).run P w = .ok (.value (.bool (decide (n < m)))) w := by
  simp [execOp, eqGuard, binOp, Op.intCmp, h, h']
theorem x_geq (h : a.eval x = .int k m) (h' : a.eval y = .int k n) : (execOp a.eval ⟨dst, .binOp .geq T x y T', ty, pos, af, gd⟩).run P w = .ok (.value (.bool (decide (n ≤ m)))) w := by
  simp [execOp, eqGuard, binOp, Op.intCmp, h, h']
theorem x_rem (h : a.eval x = .int k m) (h' : a.eval y = .int k n) (hn : n ≠ 0) : (execOp a.eval ⟨dst, .binOp .rem T x y T', ty, pos, af, gd⟩).run P w = .ok (.value (.int k (m.tmod n))) w := by
  simp [execOp, eqGuard, binOp, Op.intDiv, h, h', hn]
theorem x_not {b : Bool} (h : a.eval x = .bool b) : (execOp a.eval ⟨dst, .unOp .not T x, ty, pos, af, gd⟩).run P w = .ok (.value (.bool (!b))) w := by
  simp [execOp, Op.unary, h]
theorem x_conv {k' : IntKind} {S D : TypeId} (hs : (P.underlying S).isSome = true) (hd : P.underlying D = some (.int k')) (h : a.eval x = .int k m) :
    (execOp a.eval ⟨dst, .convert S D x, ty, pos, af, gd⟩).run P w = .ok (.value (.int k' (k'.wrap m))) w := by
  obtain ⟨d, hd'⟩ := Option.isSome_iff_exists.mp hs
  refine ok_bind ?_
  simp [convert, run_underlying hd', run_underlying hd, Conv.intToInt, h]
theorem x_bne {b c : Bool} (hT : P.underlying T = some .bool) (h : a.eval x = .bool b) (h' : a.eval y = .bool c) : (execOp a.eval ⟨dst, .binOp .neq T x y T', ty, pos, af, gd⟩).run P w = .ok (.value (.bool (!(b == c)))) w := by
  refine ok_bind ?_
  simp only [h, h', eqGuard, Sem.run_bind]
  simp [run_neq_bool w T b c hT]
theorem x_seq {s t : ByteArray} (h : a.eval x = .string s) (h' : a.eval y = .string t) : (execOp a.eval ⟨dst, .binOp .eql T x y T', ty, pos, af, gd⟩).run P w = .ok (.value (.bool (seq s t))) w := by
  simp [execOp, eqGuard, binOp, Op.stringOp, h, h', ← seq_eq]
theorem x_pick {c : Operand} {b : Bool} {u v : Value} (hc : a.eval c = .bool b) (h : a.eval x = u) (h' : a.eval y = v) : (execOp a.eval ⟨dst, .pick c x y, ty, pos, af, gd⟩).run P w = .ok (.value (if b then u else v)) w := by
  cases b <;> simp [execOp, asBool, hc, h, h']
theorem x_pick0 {c : Nat} {u : Value} (hc : at_ a c = .bool false) (h : a.eval x = u) : (execOp a.eval ⟨dst, .pick (.tmp c) y x, ty, pos, af, gd⟩).run P w = .ok (.value u) w := by
  simp [execOp, asBool, e_tmp hc, h]
theorem x_extract {vs : Array Value} {i : Nat} {v : Value} (h : a.eval x = .tuple vs) (hv : vs[i]? = some v) : (execOp a.eval ⟨dst, .extract x i, ty, pos, af, gd⟩).run P w = .ok (.value v) w := by
  refine ok_bind ?_
  simp [Instr.extract, h, hv]
theorem x_lenSlice {A : Option Addr} {l c : Nat} {e : TypeId} (hT : P.underlying T = some (.slice e)) (h : a.eval x = .slice A l c) :
    (execOp a.eval ⟨dst, .call { callee := .builtin .len, args := #[x], argTypes := #[T] }, ty, pos, af, gd⟩).run P w = .ok (.value (.int .i64 (l : Int))) w := by
  simp [execOp, resolve, invoke, builtin, Builtin.len_, run_underlying hT, h, goInt]
theorem x_lenStr {s : ByteArray} (hT : P.underlying T = some .string) (h : a.eval x = .string s) :
    (execOp a.eval ⟨dst, .call { callee := .builtin .len, args := #[x], argTypes := #[T] }, ty, pos, af, gd⟩).run P w = .ok (.value (.int .i64 (s.size : Int))) w := by
  simp [execOp, resolve, invoke, builtin, Builtin.len_, run_underlying hT, h, goInt]
theorem x_min {k' : IntKind} {A : Array TypeId} (h : a.eval x = .int k m) (h' : a.eval y = .int k' n) :
    (execOp a.eval ⟨dst, .call { callee := .builtin .min, args := #[x, y], argTypes := A }, ty, pos, af, gd⟩).run P w = .ok (.value (.int k (if n < m then n else m))) w := by
  simp [execOp, resolve, invoke, builtin, Builtin.min_, Builtin.min2, h, h']
end
theorem x_indexAddr {T e sz : Nat} {x y : Operand} {g f l c : Nat} {k : IntKind} {i : Int} (hT : P.underlying T = some (.slice e)) (hs : ∀ w : World, (sizeOf e).run P w = .ok sz w)
    (h : a.eval x = .slice (some ⟨g, f, none⟩) l c) (h' : a.eval y = .int k i) (h0 : 0 ≤ i) (h1 : i < l) :
    (execOp a.eval ⟨dst, .indexAddr T x y, ty, pos, af, gd⟩).run P w = .ok (.value (.pointer (some ⟨g, f + i.toNat * sz, none⟩))) w := by
  refine ok_bind ?_
  simp only [h, h']
  simp [Instr.indexAt, run_underlying hT, asIntOf, h0, h1, hs, Addr.add_lit]
theorem x_index {T : Nat} {x y : Operand} {s : ByteArray} {k : IntKind} {i : Int} {b : UInt8} (hT : P.underlying T = some .string) (h : a.eval x = .string s) (h' : a.eval y = .int k i) (h0 : 0 ≤ i) (hb : s.data.toList[i.toNat]? = some b) :
    (execOp a.eval ⟨dst, .index T x y, ty, pos, af, gd⟩).run P w = .ok (.value (.int .u8 (b.toNat : Int))) w := by
  refine ok_bind ?_
  have hb' : s[i.toNat]? = some b := by
    obtain ⟨hl, hv⟩ := List.getElem?_eq_some_iff.1 hb
    have hl' : i.toNat < s.size := by simpa using hl
    rw [getElem?_pos s i.toNat hl']
    rw [← hv]; rfl
  simp only [h, h']
  simp [Instr.index, run_underlying hT, asIntOf, h0, hb']
theorem x_makeSlice {T : Nat} {x y : Operand} {k k' : IntKind} {m n : Int} {v : Value} (h : a.eval x = .int k m) (h' : a.eval y = .int k' n) (hr : (Instr.makeSlice T (.int k m) (.int k' n)).run P w = .ok v w') :
    (execOp a.eval ⟨dst, .makeSlice T x y, ty, pos, af, gd⟩).run P w = .ok (.value v) w' := ok_bind (by rw [h, h']; exact hr)
theorem x_append {x y : Operand} {T T' : TypeId} {u v r : Value} (h : a.eval x = u) (h' : a.eval y = v) (hr : (Builtin.append_ #[T, T'] ty #[u, v]).run P w = .ok r w') :
    (execOp a.eval ⟨dst, .call { callee := .builtin .append, args := #[x, y], argTypes := #[T, T'] }, ty, pos, af, gd⟩).run P w = .ok (.value r) w' := by
  simp only [execOp, resolve, invoke, builtin, Sem.run_bind, Sem.run_pure, Result.andThen_ok, List.map_toArray, List.map_cons, List.map_nil, h, h', hr]
theorem x_cutL {T e sz : Nat} {x y : Operand} {A : Option Addr} {l c : Nat} {k : IntKind} {i : Int} (hT : P.underlying T = some (.slice e)) (hs : ∀ w : World, (sizeOf e).run P w = .ok sz w)
    (h : a.eval x = .slice A l c) (h' : a.eval y = .int k i) (h0 : 0 ≤ i) (h1 : i ≤ l) :
    (execOp a.eval ⟨dst, .slice T x (some y) none none, ty, pos, af, gd⟩).run P w = .ok (.value (.slice (if c = i.toNat then A else A.map (·.add (i.toNat * sz))) (l - i.toNat) (c - i.toNat))) w := by
  refine ok_bind ?_
  simp only [Option.map_some, Option.map_none, h, h']
  simp [Instr.sliceAt, run_underlying hT, Instr.slice, Instr.sliceBounds, Instr.sliceBound, asIntOf, h0, h1, hs]
theorem x_cutH {T e sz : Nat} {x z : Operand} {A : Option Addr} {l c : Nat} {k' : IntKind} {j : Int} (hT : P.underlying T = some (.slice e)) (hs : ∀ w : World, (sizeOf e).run P w = .ok sz w)
    (h : a.eval x = .slice A l c) (h'' : a.eval z = .int k' j) (h1 : 0 ≤ j) (h2 : j ≤ c) :
    (execOp a.eval ⟨dst, .slice T x none (some z) none, ty, pos, af, gd⟩).run P w = .ok (.value (.slice A j.toNat c)) w := by
  refine ok_bind ?_
  simp only [Option.map_some, Option.map_none, h, h'']
  cases A <;> simp [Instr.sliceAt, run_underlying hT, Instr.slice, Instr.sliceBounds, Instr.sliceBound, asIntOf, h1, h2, hs, Addr.add]
theorem run_callFunc {f : FuncId} {fn : Func} (hf : P.funcs[f]? = some fn) (hn : (fn.name == "runtime.NumGoroutine") = false) (hb : fn.body.isNone = false) (w : World) (xs : Array Value) : (callFunc f xs).run P w = .ok (.enter f xs) w := by
  simp only [callFunc, Sem.run_bind, run_program, Result.andThen_ok, hf, hn, hb, Bool.false_eq_true, if_false, Sem.run_pure]
theorem x_call {f : FuncId} {xs : Array Operand} {vs : Array Value} {ats : Array TypeId} (hc : ∀ (w : World) (vs : Array Value), (callFunc f vs).run P w = .ok (.enter f vs) w) (hx : xs.map a.eval = vs) :
    (execOp a.eval ⟨dst, .call { callee := .value (.func f), args := xs, argTypes := ats }, ty, pos, af, gd⟩).run P w = .ok (.enter f vs) w := by
  subst hx
  show (callFunc f (#[] ++ xs.map a.eval ++ #[])).run P w = _
  rw [Array.empty_append, Array.append_empty]
  exact hc _ _
theorem x_callv {f : FuncId} {t : Operand} {xs : Array Operand} {vs cap : Array Value} {ats : Array TypeId} (hc : ∀ (w : World) (vs : Array Value), (callFunc f vs).run P w = .ok (.enter f vs) w) (ht : a.eval t = .func (.func f) #[] cap) (hx : xs.map a.eval = vs) :
    (execOp a.eval ⟨dst, .call { callee := .value t, args := xs, argTypes := ats }, ty, pos, af, gd⟩).run P w = .ok (.enter f (vs ++ cap)) w := by
  subst hx
  simp only [execOp, resolve, ht, Deferred.ofValue, Sem.run_bind, Sem.run_pure, Result.andThen_ok, invoke]
  rw [Array.empty_append]
  exact hc _ _
theorem x_makeFunc {fn : Fn} {xs ys : Array Operand} {us vs : Array Value} (hx : xs.map a.eval = us) (hy : ys.map a.eval = vs) : (execOp a.eval ⟨dst, .makeFunc fn xs ys, ty, pos, af, gd⟩).run P w = .ok (.value (.func fn us vs)) w := by
  subst hx; subst hy; rfl
end
def Chan (w : World) (o : Own) (i c cap : Nat) (buf : List Value) : Prop := o c = i ∧ ∃ s r, w.heap[c]? = some (.chan cap buf.toArray false s r false)
section
variable {w w' : World} {o o' : Own} {i k c cap : Nat} {buf : List Value}
theorem Chan.keep_ (h : Chan w o i c cap buf) {j : Nat} (s : Same w (L o i) w' (L o' j)) : Chan w' o' j c cap buf :=
  let ⟨h1, a, b, h2⟩ := h; let ⟨h3, h4⟩ := s.blk h1 h2; ⟨h3, a, b, h4⟩
theorem Chan.keep (h : Chan w o i c cap buf) (s : Tr (L o k) w o w' o') (hk : i ≠ k) : Chan w' o' i c cap buf := h.keep_ (s.sameK hk)
theorem Chan.keepNo (h : Chan w o i c cap buf) (s : Tr No w o w' o') : Chan w' o' i c cap buf := h.keep_ s.sameNo
theorem tr_setChan (h : o c = i) (w : World) (cap : Nat) (buf : Array Value) (cl : Bool) (s r : Nat) (tm : Bool) : Tr (L o i) w o (w.setChan c cap buf cl s r tm) o :=
  ⟨rfl, rfl, rfl, by simp [World.setChan], fun b hb hf => by
    simp only [World.setChan]
    rw [Array.getElem?_setIfInBounds_ne (fun e => hf (by rw [← e]; exact h))], fun _ _ => rfl⟩
variable {P : Program} {ops : Array Oper} {Q : Exit → Act → World → Prop} {K : Act → World → Prop} {a : Act} {dst : Option Tmp} {ty : TypeId} {pos : String} {af : Array Edge} {gd : Option (Nat × Bool)} {q d n : Nat} {ds : List Deferred}
theorem x_makeChan {T e : Nat} {dir : ChanDir} {x : Operand} {kd : IntKind} {m : Int} (hT : P.underlying T = some (.chan dir e)) (hi : ∃ f, P.info? e = some f ∧ f.bytes ≤ 4096) (h : a.eval x = .int kd m) (h0 : 0 ≤ m) (h1 : m ≤ 1000000000) (j : Nat) :
    (execOp a.eval ⟨dst, .makeChan T x, ty, pos, af, gd⟩).run P w = .ok (.value (.chan (some w.heap.size))) (w.alloc (.chan m.toNat #[] false 0 0 false)) ∧
    Chan (w.alloc (.chan m.toNat #[] false 0 0 false)) (upd o w.heap.size j) j w.heap.size m.toNat [] := by
  obtain ⟨f, hf, hb⟩ := hi
  refine ⟨ok_bind ?_, upd_new _ _ _, 0, 0, heap_alloc_new w _⟩
  have hb2 : ((f.bytes : Int) * m) ≤ 4096 * 1000000000 := Int.mul_le_mul (by omega) h1 h0 (by omega)
  have n1 : ¬ (m < 0) := by omega
  have n2 : ¬ (9223372036854775807 < m) := by omega
  have n3 : ¬ ((2:Int) ^ 48 - 112 < (f.bytes : Int) * m) := by
    have : ((2:Int) ^ 48 - 112) = 281474976710544 := by decide
    omega
  simp only [h]
  simp [Instr.makeChan, asInt, asIntOf, run_underlying hT, typeInfo, hf, n1, n2]
  intro h9
  exact absurd h9 (by omega)
theorem o_send {x y : Operand} {v : Value} (ho : ops[q]? = some ⟨none, .send x y, ty, pos, af, gd⟩) (hw : Region.wanted ⟨none, .send x y, ty, pos, af, gd⟩ (yielded ops a.tmps) = true)
    (hx : a.eval x = .chan (some c)) (hy : a.eval y = v) (hc : Chan w o i c cap buf) (hroom : buf.length < cap)
    (k : ∀ w', Chan w' o i c cap (buf ++ [v]) → Tr (L o i) w o w' o → K a w') : opS P ops Q q K a w := by
  obtain ⟨h1, s, r, h2⟩ := hc
  refine o_comm (v := undef) (cases := #[scase c v (.tuple #[])]) (blocking := true) (shape := .send) ho hw (by simp [execOp, hx, hy, scase]) (fun fr cs es hst => step_lone_send_room hst h2 (by simpa using hroom)) ?_
  refine k _ ⟨h1, s + 1, r, ?_⟩ (tr_setChan h1 w _ _ _ _ _ _)
  rw [heap_setChan w c cap _ false _ _ false (Array.getElem?_eq_some_iff.1 h2).1]
  simp
theorem o_recv {x : Operand} {z v : Value} {rest : List Value} {e : TypeId} (ho : ops[q]? = some ⟨some d, .select #[⟨x, none, e⟩] false, ty, pos, af, gd⟩) (hw : Region.wanted ⟨some d, .select #[⟨x, none, e⟩] false, ty, pos, af, gd⟩ (yielded ops a.tmps) = true)
    (hf : Fr a n ds) (hd : d < n) (hx : a.eval x = .chan (some c)) (hz : ∀ w : World, (zeroValue e).run P w = .ok z w) (hc : Chan w o i c cap (v :: rest))
    (k : ∀ a' w', Put a a' d (.tuple #[.int .i64 0, .bool true, v]) → Chan w' o i c cap rest → Tr (L o i) w o w' o → K a' w') : opS P ops Q q K a w := by
  obtain ⟨h1, s, r, h2⟩ := hc
  refine o_comm (v := .tuple #[goInt 0, .bool true, v]) (cases := #[rcase c z]) (blocking := false) (shape := .select) ho hw (by simp [execOp, hx, hz, rcase]) (fun fr cs es hst => step_lone_select_recv_buf hst h2 (by simp)) ?_
  refine k _ _ (put_put (by rw [hf.size]; exact hd)) ⟨h1, s, r + 1, ?_⟩ (tr_setChan h1 w _ _ _ _ _ _)
  rw [heap_setChan w c cap _ false _ _ false (Array.getElem?_eq_some_iff.1 h2).1]
  simp
theorem o_default {x : Operand} {z : Value} {e : TypeId} (ho : ops[q]? = some ⟨some d, .select #[⟨x, none, e⟩] false, ty, pos, af, gd⟩) (hw : Region.wanted ⟨some d, .select #[⟨x, none, e⟩] false, ty, pos, af, gd⟩ (yielded ops a.tmps) = true)
    (hf : Fr a n ds) (hd : d < n) (hx : a.eval x = .chan (some c)) (hz : ∀ w : World, (zeroValue e).run P w = .ok z w) (hc : Chan w o i c cap [])
    (k : ∀ a', Put a a' d (.tuple #[.int .i64 (-1), .bool false, z]) → K a' w) : opS P ops Q q K a w := by
  obtain ⟨h1, s, r, h2⟩ := hc
  exact o_comm (v := .tuple #[goInt (-1), .bool false, z]) (cases := #[rcase c z]) (blocking := false) (shape := .select) ho hw (by simp [execOp, hx, hz, rcase]) (fun fr cs es hst => step_lone_select_default hst h2) (k _ (put_put (by rw [hf.size]; exact hd)))
end
def at? {α : Type} (l : List α) (i : Int) : Option α := if 0 ≤ i then l[i.toNat]? else none
theorem at_some {α : Type} {l : List α} {i : Int} {x : α} (h : at? l i = some x) : 0 ≤ i ∧ l[i.toNat]? = some x ∧ i < (l.length : Int) := by
  unfold at? at h
  split at h
  · refine ⟨by assumption, h, ?_⟩
    have := (List.getElem?_eq_some_iff.1 h).1
    omega
  · cases h
theorem bind_some {α β : Type} {x : Option α} {f : α → Option β} {r : β} (h : x.bind f = some r) : ∃ y, x = some y ∧ f y = some r := Option.bind_eq_some_iff.1 h
theorem bt {v : Value} {b c : Bool} (h : v = .bool b) (hb : b = c) : v = .bool c := h.trans (congrArg Value.bool hb)
theorem im_nil {α : Type} {E : Ty α} {e : Nat} {hE : 0 < E.sz} {w : World} {F : Nat → Prop} : (tSlice e E hE).im w F ([] : List α) [.slice none 0 0] :=
  ⟨none, 0, rfl, Nat.le_refl _, by simp [maxLen], fun h => absurd h (by simp)⟩
theorem nott {b : Bool} (h : ¬ b = true) : b = false := by simpa using h
def ElemAt (w : World) (o : Own) (i g f j sz : Nat) (ds : List Value) : Prop := o g = i ∧ ∀ n u, ds[n]? = some u → w.cell? ⟨g, f + (j * sz + n), none⟩ = some u
section
variable {w w' : World} {o o' : Own} {i k g f j sz : Nat} {ds : List Value}
theorem ElemAt.keep_ (h : ElemAt w o i g f j sz ds) (hp : 0 < ds.length) (s : Same w (L o i) w' (L o' i)) : ElemAt w' o' i g f j sz ds := by
  obtain ⟨u, hu⟩ : ∃ u, ds[0]? = some u := ⟨ds[0], by simp⟩
  exact ⟨s.lab (a := ⟨g, _, none⟩) h.1 (h.2 0 u hu), fun n u hu => s.cell (a := ⟨g, _, none⟩) h.1 (h.2 n u hu)⟩
theorem ElemAt.keep (h : ElemAt w o i g f j sz ds) (hp : 0 < ds.length) (s : Tr (L o k) w o w' o') (hk : i ≠ k) : ElemAt w' o' i g f j sz ds := h.keep_ hp (s.sameK hk)
theorem ElemAt.keepNo (h : ElemAt w o i g f j sz ds) (hp : 0 < ds.length) (s : Tr No w o w' o') : ElemAt w' o' i g f j sz ds := h.keep_ hp s.sameNo
theorem ElemAt.all (h : ElemAt w o i g f j sz ds) : ∀ n u, ds.toArray[n]? = some u → w.cell? ⟨g, (f + j * sz) + n, none⟩ = some u := fun n u hu => by
  rw [Nat.add_assoc]; exact h.2 n u (by simpa using hu)
end
section
variable {α : Type} {E : Ty α} {e : Nat} {w w' : World} {o o' : Own} {i k : Nat} {v : Value} {l : List α}
theorem im_form1 {hE : 0 < E.sz} {F : Nat → Prop} {ds : List Value} (h : (tSlice e E hE).im w F l ds) : ∃ A c, ds = [.slice A l.length c] ∧ l.length ≤ c := by
  obtain ⟨A, c, he, h1, _⟩ := h
  exact ⟨A, c, he, h1⟩
theorem im_elem {hE : 0 < E.sz} (h : (tSlice e E hE).im w (L o 0) l [v]) {j : Nat} {x : α} (hx : l[j]? = some x) :
    ∃ g f c ds, v = .slice (some ⟨g, f, none⟩) l.length c ∧ E.im w (L o 0) x ds ∧ ElemAt w o 0 g f j E.sz ds := by
  obtain ⟨A, c, he, h1, h2, h3⟩ := h
  obtain ⟨g, f, xs, rfl, hg, hx', hl⟩ := h3 (Nat.lt_of_le_of_lt (Nat.zero_le _) (List.getElem?_eq_some_iff.1 hx).1)
  obtain ⟨ds, hd1, hd2⟩ := hx'.at_ hx
  simp only [List.cons.injEq, and_true] at he
  exact ⟨g, f, c, ds, he, hd1, hg, fun n u hu => hl _ _ (hd2 n u hu)⟩
theorem Row.elem (h : Row E e w o i v l) {j : Nat} {x : α} (hx : l[j]? = some x) :
    ∃ g f c ds, v = .slice (some ⟨g, f, none⟩) l.length c ∧ E.im w (L o 0) x ds ∧ ElemAt w o i g f j E.sz ds := by
  obtain ⟨g, f, c, ds, h1, h2, h3, h4⟩ := h.at_ hx
  exact ⟨g, f, c, ds, h1, h3, h2, h4⟩
theorem Row.put (h : Row E e w o i v l) (hi0 : i ≠ 0) {g f n c : Nat} (hv : v = .slice (some ⟨g, f, none⟩) n c) {j : Nat} {x y : α} (hx : l[j]? = some x) {m : Nat} {u : Value} (hn : m < E.sz)
    (hy : ∀ ds, E.im w (L o 0) x ds → E.im w (L o 0) y (ds.set m u)) :
    (∃ u', w.cell? ⟨g, f + (j * E.sz + m), none⟩ = some u') ∧ w.frozen? ⟨g, f + (j * E.sz + m), none⟩ = false ∧
      Row E e (w.setCell ⟨g, f + (j * E.sz + m), none⟩ u) o i v (l.set j y) ∧ Tr (L o i) w o (w.setCell ⟨g, f + (j * E.sz + m), none⟩ u) o := by
  obtain ⟨g', f', c', h1, h2, h3, h4, h5⟩ := h.set hi0 hx hn hy
  have he := hv.symm.trans h1
  simp only [Value.slice.injEq, Option.some.injEq, Addr.mk.injEq] at he
  obtain ⟨⟨rfl, rfl, _⟩, _, _⟩ := he
  exact ⟨h3, h4, h5, tr_setCell h2 u⟩
theorem Row.lit (hE : 0 < E.sz) (w : World) (o : Own) (k : Nat) {cs : List Value} (h : Flat E w (L o 0) l cs) (hn : l.length ≤ 1000000) :
    Row E e (w.alloc (.cells cs.toArray e)) (upd o w.heap.size k) k (.slice (some ⟨w.heap.size, 0, none⟩) l.length l.length) l ∧ Tr No w o (w.alloc (.cells cs.toArray e)) (upd o w.heap.size k) := by
  have ht := tr_alloc w o (.cells cs.toArray e) k
  have hmax : (1000000 : Nat) ≤ maxLen := by simp [maxLen]
  exact ⟨.inr ⟨w.heap.size, 0, l.length, _, cs, rfl, upd_new _ _ _, heap_alloc_new w _, Nat.le_refl _, by omega, by simp [h.length], h.loc ht.sameNo, fun n u hu => by simpa using hu⟩, ht⟩
end
section
variable {P : Program} {a : Act} {w w' : World} {o : Own}
theorem b_box {T : Nat} {x : Operand} {v : Value} (h : a.eval x = v) (w : World) (o : Own) (k : Nat) :
    ∃ g w' o', (∀ dst ty pos af gd, (execOp a.eval ⟨dst, .box T x, ty, pos, af, gd⟩).run P w = .ok (.value (.pointer (some ⟨g, 0, none⟩))) w') ∧ Box w' o' k g T v.cells ∧ Tr No w o w' o' :=
  ⟨_, _, _, fun _ _ _ _ _ => x_box h, Box.new w o k T _, tr_alloc w o _ k⟩
theorem b_alloc {T : Nat} {v : Value} (hz : ∀ w : World, (zeroValue T).run P w = .ok v w) (a : Act) (w : World) (o : Own) (k : Nat) :
    ∃ g w' o', (∀ dst ty pos af gd, (execOp a.eval ⟨dst, .alloc T, ty, pos, af, gd⟩).run P w = .ok (.value (.pointer (some ⟨g, 0, none⟩))) w') ∧ Box w' o' k g T v.cells ∧ Tr No w o w' o' :=
  ⟨_, _, _, fun _ _ _ _ _ => x_alloc hz, Box.new w o k T _, tr_alloc w o _ k⟩
theorem Box.part {i g t n : Nat} {all cs : Array Value} (h : Box w o i g t all) (hs : ∀ j u, cs[j]? = some u → all[n + j]? = some u) : ∀ j u, cs[j]? = some u → w.cell? ⟨g, n + j, none⟩ = some u :=
  fun j u hu => h.cell (hs j u hu)
theorem b_store {T i g t n : Nat} {x y : Operand} {v : Value} {cs : Array Value} (hl : ∀ (ad : Addr) (w : World) (v u : Value), w.cell? ad = some u → w.frozen? ad = false → v.oneCell' = true → v.cells = #[v] → (Instr.storeAt T (.pointer (some ad)) v).run P w = .ok () (w.setCell ad v))
    (h : a.eval x = .pointer (some ⟨g, n, none⟩)) (hy : a.eval y = v) (hb : Box w o i g t cs) (hn : n < cs.size) (h1 : v.oneCell' = true) (h2 : v.cells = #[v]) :
    ∃ w', (∀ dst ty pos af gd, (execOp a.eval ⟨dst, .store T x y, ty, pos, af, gd⟩).run P w = .ok .skip w') ∧ Box w' o i g t (cs.setIfInBounds n v) ∧ Tr (L o i) w o w' o :=
  ⟨_, fun _ _ _ _ _ => x_store hl h hy (hb.cell (u := cs[n]) (by simp)) (hb.free n) h1 h2, hb.set n v, tr_setCell (a := ⟨g, n, none⟩) hb.1 v⟩
theorem b_storeN {T i g t n : Nat} {x y : Operand} {cs all all' : Array Value} (hT : P.info? T = none ∨ True) (hagg : ∀ (w : World) (g n : Nat) (all : Array Value) (t : Nat), w.heap[g]? = some (.cells all t (0, 0)) → n + cs.size ≤ all.size → (∀ v ∈ cs.toList, v.oneCell' = true) →
      (Instr.storeAt T (.pointer (some ⟨g, n, none⟩)) (.agg cs)).run P w = .ok () (w.setRow g (all.toList.take n ++ cs.toList ++ all.toList.drop (n + cs.size)).toArray))
    (h : a.eval x = .pointer (some ⟨g, n, none⟩)) (hy : a.eval y = .agg cs) (hb : Box w o i g t all) (hn : n + cs.size ≤ all.size) (h1 : ∀ v ∈ cs.toList, v.oneCell' = true) (he : (all.toList.take n ++ cs.toList ++ all.toList.drop (n + cs.size)).toArray = all') :
    ∃ w', (∀ dst ty pos af gd, (execOp a.eval ⟨dst, .store T x y, ty, pos, af, gd⟩).run P w = .ok .skip w') ∧ Box w' o i g t all' ∧ Tr (L o i) w o w' o := by
  subst he
  refine ⟨_, fun _ _ _ _ _ => ?_, ⟨hb.1, setRow_heap w g all _ t _ hb.2⟩, tr_setRow hb.1 _⟩
  have := hagg w g n all t hb.2 hn h1
  simp only [execOp, h, hy, Sem.run_bind, this, Result.andThen_ok, Sem.run_pure]
theorem x_build {T : Nat} {ps : Array (Nat × Operand)} {vs : Array (Nat × Value)} {v : Value} {dst : Option Tmp} {ty : TypeId} {pos : String} {af : Array Edge} {gd : Option (Nat × Bool)} (hp : (ps.map fun p => (p.1, a.eval p.2)) = vs) (hb : ∀ w : World, (Instr.build T vs).run P w = .ok v w) :
    (execOp a.eval ⟨dst, .build T ps, ty, pos, af, gd⟩).run P w = .ok (.value v) w := by
  subst hp
  exact ok_bind (hb w)
theorem x_buildSlice {T n : Nat} {ps : Array (Nat × Operand)} {vs : Array (Nat × Value)} {v : Value} {dst : Option Tmp} {ty : TypeId} {pos : String} {af : Array Edge} {gd : Option (Nat × Bool)} (hp : (ps.map fun p => (p.1, a.eval p.2)) = vs) (hb : (Instr.buildSlice T n vs).run P w = .ok v w') :
    (execOp a.eval ⟨dst, .buildSlice T n ps, ty, pos, af, gd⟩).run P w = .ok (.value v) w' := by
  subst hp
  exact ok_bind hb
end
theorem Tr.relab {F : Nat → Prop} {w0 w : World} {o0 o : Own} (h : Tr F w0 o0 w o) (hown : ∀ b, ¬ (50 ≤ o0 b ∧ o0 b < 1000)) (ρ : Nat → Nat) (hρ : ∀ n, ¬ (50 ≤ n ∧ n < 1000) → ρ n = n) : Tr F w0 o0 w (fun b => ρ (o b)) :=
  ⟨h.os, h.tape, h.output, h.size, h.block, fun b hb => by rw [h.lab b hb]; exact hρ _ (hown b)⟩
def merge (s : Nat) (o oc : Own) : Own := fun b => if b < s then o b else oc b
theorem Tr.merged {Fc F : Nat → Prop} {w w' : World} {o oc : Own} {σ τ : Nat → Nat} (h : Tr Fc w (fun b => σ (o b)) w' oc) (hF : ∀ b, b < w.heap.size → Fc b → F b) : Tr F w o w' (merge w.heap.size o (fun b => τ (oc b))) :=
  ⟨h.os, h.tape, h.output, h.size, fun b hb hf => h.block b hb (fun x => hf (hF b hb x)), fun b hb => by simp [merge, hb]⟩
theorem same_merged {Fc : Nat → Prop} {w w' : World} {o oc : Own} {σ τ : Nat → Nat} (h : Tr Fc w (fun b => σ (o b)) w' oc) {i j : Nat} (hσ : ∀ n, σ n = j → n = i) (hτ : τ j = i) : Same w' (L oc j) w' (L (merge w.heap.size o (fun b => τ (oc b))) i) := by
  intro b _ hj
  refine ⟨?_, rfl⟩
  show merge _ _ _ b = i
  unfold merge
  split
  · rename_i hb
    exact hσ _ ((h.lab b hb).symm.trans hj)
  · show τ (oc b) = i
    rw [show oc b = j from hj]; exact hτ
theorem same_sub {w : World} {o : Own} {σ : Nat → Nat} {i j : Nat} (hσ : σ i = j) : Same w (L o i) w (L (fun b => σ (o b)) j) := Same.relab (fun b (h : o b = i) => by show σ (o b) = j; rw [h]; exact hσ)
section
variable {P : Program} {T : Nat}
theorem store1 (h : (P.info? T).map (·.size) = some 1) (ad : Addr) (w : World) (v u : Value) (hc : w.cell? ad = some u) (hf : w.frozen? ad = false) (h1 : v.oneCell' = true) (h2 : v.cells = #[v]) : (Instr.storeAt T (.pointer (some ad)) v).run P w = .ok () (w.setCell ad v) := by
  obtain ⟨i, hi, hs⟩ := Option.map_eq_some_iff.1 h
  simp [Instr.storeAt, Instr.sureAddr, storeVar, sizeOf, typeInfo, hi, hs, h2, storeCells, run_store P w ad v _ h1, hc, hf, Addr.add]
theorem loadN {fs : Array Field} {n g o : Nat} {w : World} {cs : Array Value} (ht : P.underlying T = some (.struct fs)) (h : (P.info? T).map (·.size) = some n) (hn : cs.size = n) (hc : ∀ j u, cs[j]? = some u → w.cell? ⟨g, o + j, none⟩ = some u) : (Instr.loadAt T (.pointer (some ⟨g, o, none⟩))).run P w = .ok (.agg cs) w := by
  obtain ⟨i, hi, hs⟩ := Option.map_eq_some_iff.1 h
  have hl := run_loadCells_list (P := P) (w := w) ⟨g, o, none⟩ cs.toList (fun j v hv => by rw [Addr.add_lit]; exact hc j v (by simpa using hv))
  have hz : cs.toList.length = i.size := by rw [hs, ← hn]; exact Array.length_toList
  rw [hz] at hl
  simp [Instr.loadAt, Instr.sureAddr, loadVar, isAgg, run_underlying ht, sizeOf, typeInfo, hi, hl]
theorem storeN {k : Nat} {cs : Array Value} (h : (P.info? T).map (·.size) = some k) (hk : cs.size = k) (w : World) (g n : Nat) (all : Array Value) (t : Nat) (hb : w.heap[g]? = some (.cells all t (0, 0))) (hs : n + cs.size ≤ all.size) (h1 : ∀ v ∈ cs.toList, v.oneCell' = true) :
    (Instr.storeAt T (.pointer (some ⟨g, n, none⟩)) (.agg cs)).run P w = .ok () (w.setRow g (all.toList.take n ++ cs.toList ++ all.toList.drop (n + cs.size)).toArray) := by
  obtain ⟨i, hi, hz⟩ := Option.map_eq_some_iff.1 h
  have hl := run_storeCells_at P g n t cs.toList 0 all w hb (by simpa using hs) h1
  simp only [Nat.add_zero, Array.length_toList] at hl
  have e : cs.size = i.size := by rw [hk, hz]
  simp [Instr.storeAt, Instr.sureAddr, storeVar, sizeOf, typeInfo, hi, Value.cells, e]
  rw [e] at hl
  simpa using hl
theorem zero_of {v : Value} (h : (P.info? T).map (·.zero) = some (some v)) (w : World) : (zeroValue T).run P w = .ok v w := by
  obtain ⟨i, hi, hz⟩ := Option.map_eq_some_iff.1 h
  simp [zeroValue, typeInfo, hi, hz]
theorem size_of {n : Nat} (h : (P.info? T).map (·.size) = some n) (w : World) : (sizeOf T).run P w = .ok n w := by
  obtain ⟨i, hi, hz⟩ := Option.map_eq_some_iff.1 h
  simp [sizeOf, typeInfo, hi, hz]
theorem elem_of {α : Type} {E : Ty α} {z : α} {zv : Value} (hp : 0 < E.sz) (h : (P.info? T).map (fun i => (i.zero, i.size, decide (i.bytes ≤ 4096))) = some (some zv, E.sz, true)) (hc : zv.cells.size = E.sz) (hm : ∀ w F, E.im w F z zv.cells.toList) : Elem P E T z := by
  obtain ⟨i, hi, hz⟩ := Option.map_eq_some_iff.1 h
  simp only [Prod.mk.injEq, decide_eq_true_eq] at hz
  exact ⟨hp, i, zv, hi, hz.1, hz.2.1, hz.2.2, hc, hm⟩
theorem Elem.bytes {α : Type} {E : Ty α} {z : α} (h : Elem P E T z) : ∃ f, P.info? T = some f ∧ f.bytes ≤ 4096 := by
  obtain ⟨i, zv, h1, _, _, h2, _⟩ := h.info
  exact ⟨i, h1, h2⟩
theorem b_chan {a : Act} {t e : Nat} {dir : ChanDir} {x : Operand} {kd : IntKind} {m : Int} (hT : P.underlying t = some (.chan dir e)) (hi : ∃ f, P.info? e = some f ∧ f.bytes ≤ 4096) (h : a.eval x = .int kd m) (h0 : 0 ≤ m) (h1 : m ≤ 1000000000) (w : World) (o : Own) (j : Nat) :
    ∃ g w' o', (∀ dst ty pos af gd, (execOp a.eval ⟨dst, .makeChan t x, ty, pos, af, gd⟩).run P w = .ok (.value (.chan (some g))) w') ∧ Chan w' o' j g m.toNat [] ∧ Tr No w o w' o' :=
  ⟨_, _, _, fun _ _ _ _ _ => (x_makeChan (w := w) (o := o) hT hi h h0 h1 j).1, (x_makeChan (w := w) (o := o) (dst := none) (ty := 0) (pos := "") (af := #[]) (gd := none) hT hi h h0 h1 j).2, tr_alloc w o _ j⟩
end
section
variable {w : World} {o : Own} {σ : Nat → Nat} {i j : Nat}
theorem subIm {α : Type} {T : Ty α} {x : α} {cs : List Value} (h : T.im w (L o 0) x cs) (hσ : σ 0 = 0) : T.im w (L (fun b => σ (o b)) 0) x cs := T.loc (same_sub hσ) h
theorem subBox {g t : Nat} {cs : Array Value} (h : Box w o i g t cs) (hσ : σ i = j) : Box w (fun b => σ (o b)) j g t cs := h.keep_ (same_sub hσ)
theorem subRow {α : Type} {E : Ty α} {e : Nat} {v : Value} {l : List α} (h : Row E e w o i v l) (hσ : σ i = j) (h0 : σ 0 = 0) : Row E e w (fun b => σ (o b)) j v l := h.keep_ (same_sub hσ) (same_sub h0)
theorem lendRow {α : Type} {E : Ty α} {e : Nat} {hE : 0 < E.sz} {v : Value} {l : List α} (h : Row E e w o i v l) (hσ : σ i = 0) (h0 : σ 0 = 0) : (tSlice e E hE).im w (L (fun b => σ (o b)) 0) l [v] :=
  h.im hE (fun b e => by show σ (o b) = 0; rw [e]; exact hσ) (fun b e => by show σ (o b) = 0; rw [e]; exact h0)
theorem subChan {g cap : Nat} {b : List Value} (h : Chan w o i g cap b) (hσ : σ i = j) : Chan w (fun b => σ (o b)) j g cap b := h.keep_ (same_sub hσ)
end
end Go.Gc
namespace Go.Gc
open Go Go.RowKit
theorem ne {a b : Nat} (h : Nat.beq a b = false) : a ≠ b := Nat.ne_of_beq_eq_false h
theorem lt {a b : Nat} (h : Nat.ble (a + 1) b = true) : a < b := Nat.le_of_ble_eq_true h
theorem ifs {α : Type} {c : Prop} [Decidable c] {x : Option α} {r : α} (h : (if c then x else none) = some r) : c ∧ x = some r := by
  by_cases hc : c
  · rw [if_pos hc] at h; exact ⟨hc, h⟩
  · rw [if_neg hc] at h; cases h
theorem ifn {α : Type} {c : Prop} [Decidable c] {x : Option α} {r : α} (h : (if c then none else x) = some r) : ¬ c ∧ x = some r := by
  by_cases hc : c
  · rw [if_pos hc] at h; cases h
  · rw [if_neg hc] at h; exact ⟨hc, h⟩
def mem : List Nat → Nat → Bool
  | [], _ => false
  | x :: l, n => bif Nat.beq x n then true else mem l n
def Tab (T : List (Nat × Nat × Value)) (U : Nat → Bool) (a : Act) : Prop := ∀ x ∈ T, U x.1 = true → at_ a x.2.1 = x.2.2
def Bas (T : List (Nat × Value)) (a : Act) : Prop := ∀ x ∈ T, at_ a x.1 = x.2
def others : List (Nat × Nat × Value) → Nat → Nat → Bool
  | [], _, _ => true
  | x :: T, i, d => bif Nat.beq x.1 i then false else bif Nat.beq x.2.1 d then false else others T i d
def sep : List (Nat × Nat × Value) → Nat → Nat → Nat → Bool
  | [], _, _, _ => true
  | _ :: T, 0, i, d => others T i d
  | x :: T, q + 1, i, d => bif Nat.beq x.1 i then false else bif Nat.beq x.2.1 d then false else sep T q i d
def idle : List (Nat × Nat × Value) → Nat → Bool
  | [], _ => true
  | x :: T, i => bif Nat.beq x.1 i then false else idle T i
def basOff : List (Nat × Value) → Nat → Bool
  | [], _ => true
  | x :: T, d => bif Nat.beq x.1 d then false else basOff T d
def waits (ancs : List (List Nat)) (i : Nat) : List (Nat × Nat × Value) → Option Nat → Bool
  | [], _ => true
  | _ :: T, some 0 => waits ancs i T none
  | x :: T, some (q + 1) => bif mem (ancs.getD x.1 []) i then bif Nat.beq x.1 i then false else waits ancs i T (some q) else false
  | x :: T, none => bif mem (ancs.getD x.1 []) i then bif Nat.beq x.1 i then false else waits ancs i T none else false
section
variable {T : List (Nat × Nat × Value)} {B : List (Nat × Value)} {U : Nat → Bool} {a a' : Act} {i d j : Nat} {v : Value}
theorem Tab.get (h : Tab T U a) (q : Nat) (hq : T[q]? = some (j, d, v)) (hU : U j = true) : at_ a d = v := h (j, d, v) (List.mem_of_getElem? hq) hU
theorem Tab.cons {x : Nat × Nat × Value} (h : U x.1 = true → at_ a x.2.1 = x.2.2) (t : Tab T U a) : Tab (x :: T) U a := fun y hy => by
  rcases List.mem_cons.1 hy with rfl | hy
  · exact h
  · exact t y hy
theorem Tab.head {x : Nat × Nat × Value} (t : Tab (x :: T) U a) : U x.1 = true → at_ a x.2.1 = x.2.2 := t x List.mem_cons_self
theorem Tab.tail {x : Nat × Nat × Value} (t : Tab (x :: T) U a) : Tab T U a := fun y hy => t y (List.mem_cons_of_mem _ hy)
theorem Tab.nil : Tab [] U a := fun y hy => absurd hy (by simp)
theorem Bas.nil : Bas [] a := fun y hy => absurd hy (by simp)
theorem Bas.cons (h : at_ a d = v) (t : Bas B a) : Bas ((d, v) :: B) a := fun y hy => by
  rcases List.mem_cons.1 hy with rfl | hy
  · exact h
  · exact t y hy
theorem Tab.start : Tab T (fun _ => false) a := fun y hy h => by cases h
theorem Tab.other : ∀ {T : List (Nat × Nat × Value)}, Tab T U a → Put a a' d v → others T i d = true → Tab T (add U i) a'
  | [], _, _, _ => Tab.nil
  | x :: T, h, p, hs => by
    simp only [others] at hs
    cases h1 : Nat.beq x.1 i
    · cases h2 : Nat.beq x.2.1 d
      · rw [h1, h2] at hs
        refine Tab.cons (fun hU => ?_) (Tab.other h.tail p hs)
        rw [add_other (ne h1)] at hU
        rw [p.old _ (ne h2)]
        exact h.head hU
      · rw [h1, h2] at hs; cases hs
    · rw [h1] at hs; cases hs
theorem Tab.step : ∀ {T : List (Nat × Nat × Value)} (h : Tab T U a) (p : Put a a' d v) (q : Nat) (hq : T[q]? = some (i, d, v)) (hs : sep T q i d = true), Tab T (add U i) a'
  | [], h, p, q, hq, hs => Tab.nil
  | x :: T, h, p, 0, hq, hs => by
    have hx : x = (i, d, v) := by simpa using hq
    subst hx
    exact Tab.cons (fun _ => p.new) (Tab.other h.tail p hs)
  | x :: T, h, p, q + 1, hq, hs => by
    simp only [sep] at hs
    cases h1 : Nat.beq x.1 i
    · cases h2 : Nat.beq x.2.1 d
      · rw [h1, h2] at hs
        refine Tab.cons (fun hU => ?_) (Tab.step h.tail p q (by simpa using hq) hs)
        rw [add_other (ne h1)] at hU
        rw [p.old _ (ne h2)]
        exact h.head hU
      · rw [h1, h2] at hs; cases hs
    · rw [h1] at hs; cases hs
theorem Tab.idle : ∀ {T : List (Nat × Nat × Value)}, Tab T U a → idle T i = true → Tab T (add U i) a
  | [], _, _ => Tab.nil
  | x :: T, h, hs => by
    simp only [Go.Gc.idle] at hs
    cases h1 : Nat.beq x.1 i
    · rw [h1] at hs
      refine Tab.cons (fun hU => ?_) (Tab.idle h.tail hs)
      rw [add_other (ne h1)] at hU
      exact h.head hU
    · rw [h1] at hs; cases hs
theorem Tab.wait {ancs : List (List Nat)} (hD : ∀ j, mem (ancs.getD j []) i = true → U j = false) : ∀ {T : List (Nat × Nat × Value)}, waits ancs i T none = true → Tab T (add U i) a
  | [], _ => Tab.nil
  | x :: T, hs => by
    simp only [waits] at hs
    cases h1 : mem (ancs.getD x.1 []) i
    · rw [h1] at hs; cases hs
    · cases h2 : Nat.beq x.1 i
      · rw [h1, h2] at hs
        refine Tab.cons (fun hU => ?_) (Tab.wait hD hs)
        rw [add_other (ne h2), hD _ h1] at hU
        cases hU
      · rw [h1, h2] at hs; cases hs
theorem Tab.made {ancs : List (List Nat)} (hD : ∀ j, mem (ancs.getD j []) i = true → U j = false) (p : Put a a' d v) : ∀ {T : List (Nat × Nat × Value)} (q : Nat), T[q]? = some (i, d, v) → waits ancs i T (some q) = true → Tab T (add U i) a'
  | [], _, _, _ => Tab.nil
  | x :: T, 0, hq, hs => by
    have hx : x = (i, d, v) := by simpa using hq
    subst hx
    exact Tab.cons (fun _ => p.new) (Tab.wait hD hs)
  | x :: T, q + 1, hq, hs => by
    simp only [waits] at hs
    cases h1 : mem (ancs.getD x.1 []) i
    · rw [h1] at hs; cases hs
    · cases h2 : Nat.beq x.1 i
      · rw [h1, h2] at hs
        refine Tab.cons (fun hU => ?_) (Tab.made hD p q (by simpa using hq) hs)
        rw [add_other (ne h2), hD _ h1] at hU
        cases hU
      · rw [h1, h2] at hs; cases hs
theorem Bas.step : ∀ {B : List (Nat × Value)}, Bas B a → Put a a' d v → basOff B d = true → Bas B a'
  | [], _, _, _ => Bas.nil
  | x :: B, h, p, hs => by
    simp only [basOff] at hs
    cases h1 : Nat.beq x.1 d
    · rw [h1] at hs
      exact Bas.cons ((p.old _ (ne h1)).trans (h x List.mem_cons_self)) (Bas.step (fun y hy => h y (List.mem_cons_of_mem _ hy)) p hs)
    · rw [h1] at hs; cases hs
end
def FL (M : List (Nat × Nat)) (oS : Own) (U : Nat → Bool) : Nat → Prop := fun b => ∃ x ∈ M, U x.1 = true ∧ oS b = x.2
def Off : List (Nat × Nat) → Nat → (Nat → Bool) → Prop
  | [], _, _ => True
  | x :: M, l, U => (x.2 = l → U x.1 = false) ∧ Off M l U
theorem Off.not : ∀ {M : List (Nat × Nat)} {l : Nat} {U : Nat → Bool}, Off M l U → ∀ x ∈ M, x.2 = l → U x.1 = false
  | [], _, _, _, x, hx, _ => absurd hx (by simp)
  | y :: M, l, U, h, x, hx, e => by
    rcases List.mem_cons.1 hx with rfl | hx
    · exact h.1 e
    · exact Off.not h.2 x hx e
section
variable {M : List (Nat × Nat)} {wS w w' : World} {oS o o' : Own} {U : Nat → Bool} {i k l : Nat} {F : Nat → Prop}
theorem FL.same (h : Tr (FL M oS U) wS oS w o) (hn : Off M l U) : Same wS (L oS l) w (L o l) :=
  h.same (fun b hb ⟨x, hx, hU, e⟩ => by rw [hn.not x hx (e.symm.trans hb)] at hU; cases hU)
theorem FL.up {b : Nat} (h : FL M oS U b) : FL M oS (add U i) b := by
  obtain ⟨x, hx, hU, e⟩ := h
  refine ⟨x, hx, ?_, e⟩
  unfold add
  split
  · rfl
  · exact hU
theorem FL.start (t : Tr No wS oS w o) : Tr (FL M oS (fun _ => false)) wS oS w o := t.mono (fun b _ h => h.elim)
theorem FL.idle (h : Tr (FL M oS U) wS oS w o) : Tr (FL M oS (add U i)) wS oS w o := h.mono (fun b _ hf => FL.up hf)
theorem FL.stepF (h : Tr (FL M oS U) wS oS w o) (t : Tr F w o w' o') (hs : ∀ b, o b = oS b → F b → FL M oS (add U i) b) : Tr (FL M oS (add U i)) wS oS w' o' :=
  (FL.idle (i := i) h).stepF t hs
theorem FL.stepNo (h : Tr (FL M oS U) wS oS w o) (t : Tr No w o w' o') : Tr (FL M oS (add U i)) wS oS w' o' := FL.stepF h t (fun b _ h => h.elim)
theorem FL.stepK (h : Tr (FL M oS U) wS oS w o) (t : Tr (L o k) w o w' o') (hm : (i, k) ∈ M) : Tr (FL M oS (add U i)) wS oS w' o' :=
  FL.stepF h t (fun b hl (hb : o b = k) => ⟨(i, k), hm, add_self _ _, hl.symm.trans hb⟩)
end
end Go.Gc
namespace Go.Gc
open Go Go.RowKit
def cutl {α : Type} (l : List α) (i j : Nat) : List α := (l.drop i).take (j - i)
theorem cutl_len {α : Type} {l : List α} {i j : Nat} (h : i ≤ j) (h' : j ≤ l.length) : (cutl l i j).length = j - i := by
  rw [cutl, List.length_take, List.length_drop]; omega
section
variable {α : Type} {P : Program} {E : Ty α} {e T sz : Nat} {a : Act} {w : World} {o : Own} {k k' : IntKind} {lb : Nat} {l : List α} {A : Option Addr} {c : Nat} {x y z : Operand} {i j : Int}
theorem map_add0 (A : Option Addr) (s : Nat) : A.map (·.add (0 * s)) = A := by
  cases A with
  | none => rfl
  | some ad => simp [Addr.add]
theorem b_cut_ {R : Value → Prop} (hR : R (.slice (if c = i.toNat then A else A.map (·.add (i.toNat * sz))) (j.toNat - i.toNat) (c - i.toNat))) (hc : 0 ≤ i ∧ i ≤ j ∧ j ≤ (l.length : Int)) :
    ∃ A' c', (.slice (if c = i.toNat then A else A.map (·.add (i.toNat * sz))) (j.toNat - i.toNat) (c - i.toNat) : Value) = .slice A' (cutl l i.toNat j.toNat).length c' ∧ R (.slice A' (cutl l i.toNat j.toNat).length c') := by
  have e : j.toNat - i.toNat = (cutl l i.toNat j.toNat).length := by rw [cutl_len (by omega) (by omega)]
  exact ⟨_, _, by rw [← e], by rw [← e]; exact hR⟩
theorem b_cutL (hT : P.underlying T = some (.slice e)) (hs : ∀ w : World, (sizeOf e).run P w = .ok sz w) (h : a.eval x = .slice A l.length c) (h' : a.eval y = .int k i) (hlc : l.length ≤ c) (hc : 0 ≤ i ∧ i ≤ (l.length : Int) ∧ (l.length : Int) ≤ (l.length : Int))
    {R : Value → Prop} (hR : R (.slice (if c = i.toNat then A else A.map (·.add (i.toNat * sz))) ((l.length : Int).toNat - i.toNat) (c - i.toNat))) :
    ∃ A' c', (∀ dst ty pos af gd, (execOp a.eval ⟨dst, .slice T x (some y) none none, ty, pos, af, gd⟩).run P w = .ok (.value (.slice A' (cutl l i.toNat (l.length : Int).toNat).length c')) w) ∧ R (.slice A' (cutl l i.toNat (l.length : Int).toNat).length c') := by
  obtain ⟨A', c', e, r⟩ := b_cut_ (l := l) hR hc
  exact ⟨A', c', fun _ _ _ _ _ => by rw [← e]; exact x_cutL hT hs h h' hc.1 hc.2.1, r⟩
theorem b_cutH (hT : P.underlying T = some (.slice e)) (hs : ∀ w : World, (sizeOf e).run P w = .ok sz w) (h : a.eval x = .slice A l.length c) (h'' : a.eval z = .int k' j) (hlc : l.length ≤ c) (hc : 0 ≤ (0 : Int) ∧ 0 ≤ j ∧ j ≤ (l.length : Int))
    {R : Value → Prop} (hR : R (.slice (if c = (0 : Int).toNat then A else A.map (·.add ((0 : Int).toNat * sz))) (j.toNat - (0 : Int).toNat) (c - (0 : Int).toNat))) :
    ∃ A' c', (∀ dst ty pos af gd, (execOp a.eval ⟨dst, .slice T x none (some z) none, ty, pos, af, gd⟩).run P w = .ok (.value (.slice A' (cutl l (0 : Int).toNat j.toNat).length c')) w) ∧ R (.slice A' (cutl l (0 : Int).toNat j.toNat).length c') := by
  obtain ⟨A', c', e, r⟩ := b_cut_ (l := l) hR hc
  refine ⟨A', c', fun _ _ _ _ _ => ?_, r⟩
  rw [← e]
  have e1 : (if c = (0 : Int).toNat then A else A.map (·.add ((0 : Int).toNat * sz))) = A := by
    split
    · rfl
    · exact map_add0 A sz
  rw [e1, show j.toNat - (0 : Int).toNat = j.toNat from rfl, show c - (0 : Int).toNat = c from rfl]
  exact x_cutH hT hs h h'' hc.2.1 (show j ≤ (c : Int) by omega)
theorem cutIm {hE : 0 < E.sz} {F : Nat → Prop} (f : (tSlice e E hE).im w F l [.slice A l.length c]) (hc : 0 ≤ i ∧ i ≤ j ∧ j ≤ (l.length : Int)) :
    (fun v => (tSlice e E hE).im w F (cutl l i.toNat j.toNat) [v]) (.slice (if c = i.toNat then A else A.map (·.add (i.toNat * E.sz))) (j.toNat - i.toNat) (c - i.toNat)) := im_cut f (by omega) (by omega)
theorem cutRow (f : Row E e w o lb (.slice A l.length c) l) (hc : 0 ≤ i ∧ i ≤ j ∧ j ≤ (l.length : Int)) :
    (fun v => Row E e w o lb v (cutl l i.toNat j.toNat)) (.slice (if c = i.toNat then A else A.map (·.add (i.toNat * E.sz))) (j.toNat - i.toNat) (c - i.toNat)) := f.cut (by omega) (by omega)
theorem im_cap {hE : 0 < E.sz} {F : Nat → Prop} {n : Nat} (f : (tSlice e E hE).im w F l [.slice A n c]) : n ≤ c := by
  obtain ⟨A', c', he, h1, _⟩ := f
  simp only [List.cons.injEq, and_true, Value.slice.injEq] at he
  omega
theorem Row.cap {n : Nat} (f : Row E e w o lb (.slice A n c) l) : n ≤ c := by
  obtain ⟨A', c', he, h1⟩ := f.form
  simp only [Value.slice.injEq] at he
  omega
end
section
variable {P : Program} {a : Act} {w : World} {dst : Option Tmp} {ty : TypeId} {pos : String} {af : Array Edge} {gd : Option (Nat × Bool)} {T : Nat} {k k' : IntKind} {x y z : Operand} {i j : Int} {s : ByteArray}
def cuts (s : ByteArray) (i j : Int) : ByteArray := s.extract i.toNat j.toNat
theorem x_cutsLH (hT : P.underlying T = some .string) (h : a.eval x = .string s) (h' : a.eval y = .int k i) (h'' : a.eval z = .int k' j) (hc : 0 ≤ i ∧ i ≤ j ∧ j ≤ (s.size : Int)) :
    (execOp a.eval ⟨dst, .slice T x (some y) (some z) none, ty, pos, af, gd⟩).run P w = .ok (.value (.string (cuts s i j))) w := by
  refine ok_bind ?_
  have h3 : i ≤ (j.toNat : Int) := by omega
  have h4 : ¬ (max j 0 < i) := by omega
  simp only [Option.map_some, Option.map_none, h, h', h'']
  simp [Instr.sliceAt, run_underlying hT, Instr.slice, Instr.sliceBounds, Instr.sliceBound, asIntOf, hc.1, hc.2.2, Int.le_trans hc.1 hc.2.1, h3, cuts]
  try omega
theorem x_cutsL (hT : P.underlying T = some .string) (h : a.eval x = .string s) (h' : a.eval y = .int k i) (hc : 0 ≤ i ∧ i ≤ (s.size : Int) ∧ (s.size : Int) ≤ (s.size : Int)) :
    (execOp a.eval ⟨dst, .slice T x (some y) none none, ty, pos, af, gd⟩).run P w = .ok (.value (.string (cuts s i (s.size : Int)))) w := by
  refine ok_bind ?_
  simp only [Option.map_some, Option.map_none, h, h']
  simp [Instr.sliceAt, run_underlying hT, Instr.slice, Instr.sliceBounds, Instr.sliceBound, asIntOf, hc.1, hc.2.1, cuts]
theorem x_cutsH (hT : P.underlying T = some .string) (h : a.eval x = .string s) (h'' : a.eval z = .int k' j) (hc : 0 ≤ (0 : Int) ∧ 0 ≤ j ∧ j ≤ (s.size : Int)) :
    (execOp a.eval ⟨dst, .slice T x none (some z) none, ty, pos, af, gd⟩).run P w = .ok (.value (.string (cuts s (0 : Int) j))) w := by
  refine ok_bind ?_
  simp only [Option.map_some, Option.map_none, h, h'']
  simp [Instr.sliceAt, run_underlying hT, Instr.slice, Instr.sliceBounds, Instr.sliceBound, asIntOf, hc.2.1, hc.2.2, cuts]
end
def lcase {α β : Type} (l : List α) (x : β) (f : α → List α → β) : β := match l with | [] => x | a :: r => f a r
theorem lcase_nil {α β : Type} {l : List α} {x : β} {f : α → List α → β} (h : l = []) : lcase l x f = x := by subst h; rfl
theorem lcase_cons {α β : Type} {l r : List α} {a : α} {x : β} {f : α → List α → β} (h : l = a :: r) : lcase l x f = f a r := by subst h; rfl
theorem list_cases {α : Type} (l : List α) : l = [] ∨ ∃ a r, l = a :: r := by
  cases l with
  | nil => exact .inl rfl
  | cons a r => exact .inr ⟨a, r, rfl⟩
def scase {α β γ : Type} (x : α ⊕ β) (f : α → γ) (g : β → γ) : γ := match x with | .inl a => f a | .inr b => g b
theorem scase_l {α β γ : Type} (a : α) (f : α → γ) (g : β → γ) : scase (.inl a) f g = f a := rfl
theorem scase_r {α β γ : Type} (a : β) (f : α → γ) (g : β → γ) : scase (.inr a) f g = g a := rfl
end Go.Gc
namespace Go.Gc
open Go Go.RowKit
section
variable {P : Program} {a : Act} {w : World} {n d : Nat} {ds : List Deferred} {cs : List Frame}
theorem s_recover {Q : Exit → Act → List Frame → World → Prop} {ops : Array Oper} {id : Nat} {ats : Array TypeId} {ty : TypeId} {pos : String} {af : Array Edge}
    (ho : ops[0]? = some ⟨some d, .call { callee := .builtin .recover, args := #[], argTypes := ats }, ty, pos, af, none⟩) (hr : recoverD cs = none) (hf : Fr a n ds) (hd : d < n)
    (k : ∀ a', Put a a' d .nilIface → wpX P ops (fun e a' w' => Q e a' cs w') 1 a' w) : (Code.region id ops false).wpS P Q a cs w := by
  intro b kk hb hro
  have hsz : 0 < ops.size := by
    apply Decidable.byContradiction
    intro hn
    rw [Array.getElem?_eq_none (by omega)] at ho
    cases ho
  have h1 := k _ (put_put (v := .nilIface) (by rw [hf.size]; exact hd)) b kk cs
  obtain ⟨e, a', w', q, r⟩ := h1
  refine ⟨e, a', cs, w', q, .of_steps (.one step_region) ?_⟩
  have e1 : List.range ops.size = 0 :: List.range' 1 (ops.size - 1) := by
    rw [List.range_eq_range', show ops.size = (ops.size - 1) + 1 by omega, List.range'_succ, Nat.add_sub_cancel]
  rw [e1]
  have hw : Region.wanted ⟨some d, .call { callee := .builtin .recover, args := #[], argTypes := ats }, ty, pos, af, none⟩ (yielded ops a.tmps) = true := wanted_plain rfl
  have hg := stepG_op (P := P) (b := b) (k := kk) (cs := cs) (w := w) (rest := List.range' 1 (ops.size - 1)) ho hw
  have hfin : (b.at a (.inRegion ops (0 :: List.range' 1 (ops.size - 1)) :: kk)).finish .nilIface = b.at (a.put (some d) .nilIface) (.inRegion ops (List.range' 1 (ops.size - 1)) :: kk) := by rw [Frame.finish_at, ho]; rfl
  have hk : (b.at a (.inRegion ops (0 :: List.range' 1 (ops.size - 1)) :: kk)).kind = .deferred := hb
  have htr := tryRecover_deferred hk cs
  refine .of_steps (.one (step_lone_go ?_)) r
  rw [hg, ← hfin]
  have hrun : (execOp a.eval ⟨some d, .call { callee := .builtin .recover, args := #[], argTypes := ats }, ty, pos, af, none⟩).run P w = .ok .recover w := by
    simp [execOp, resolve, invoke, builtin]
  simp only [Frame.at] at htr ⊢
  simp [stepG.apply, hrun, htr, hr]
def Idles (P : Program) (f : FuncId) (args : Array Value) : Prop := ∀ w : World, CallsD P f args .returning w fun e u w' => (∃ v, e = .returned v) ∧ u = .returning ∧ w' = w
theorem idles_start {f : FuncId} {fn : Func} {c : Code} {args : Array Value} {n : Nat} (hf : P.funcs[f]? = some fn) (hb : fn.body = some c) (hn : fn.ntmps = n) (hle : args.size ≤ n) (hres : fn.results = #[])
    (h : ∀ (a0 : Act) (cs : List Frame) (w : World), recoverD cs = none → Fr a0 n [] → c.wpS P (fun e a cs' w' => (e = .normal ∨ e = .ret) ∧ a.defers = [] ∧ cs' = cs ∧ w' = w) a0 cs w) : Idles P f args := by
  intro w
  refine callsD_of_wpS hf hb (fun c0 cs hu => ?_)
  have hr : recoverD (c0 :: cs) = none := by simp [recoverD, hu]
  intro b k hb' hro
  obtain ⟨e, a', cs', w', q, r⟩ := h { tmps := args ++ Array.replicate (fn.ntmps - args.size) undef, defers := [] } (c0 :: cs) w hr ⟨by simp only [Array.size_append, Array.size_replicate, hn]; omega, rfl⟩ b k hb' hro
  refine ⟨e, a', cs', w', ?_, r⟩
  obtain ⟨he, hd, rfl, rfl⟩ := q
  have hm : ({ c0 with mode := .returning } : Frame) = c0 := by rw [← hu]
  rcases he with rfl | rfl
  · exact ⟨hd, .returning, by rw [hm], _, res0 hres, ⟨_, rfl⟩, rfl, rfl⟩
  · exact ⟨hd, .returning, by rw [hm], _, res0 hres, ⟨_, rfl⟩, rfl, rfl⟩
theorem calls_start_d {f : FuncId} {fn : Func} {c : Code} {args : Array Value} {R : Ending → World → Prop} {n : Nat} (hf : P.funcs[f]? = some fn) (hb : fn.body = some c) (hn : fn.ntmps = n) (hle : args.size ≤ n)
    (h : ∀ a0 : Act, Fr a0 n [] → (∀ j v, args[j]? = some v → at_ a0 j = v) → c.wp P (bodyPostD P fn R) a0 w) : Calls P f args w R := by
  refine calls_of_wp_defers hf hb (h _ ⟨?_, rfl⟩ fun j v hj => ?_)
  · simp only [Array.size_append, Array.size_replicate, hn]; omega
  · have hlt : j < args.size := (Array.getElem?_eq_some_iff.1 hj).1
    simp [at_, Array.getElem?_append_left hlt, hj]
theorem leave_one {fn : Func} {tmps : Array Value} {R : Ending → World → Prop} {f : FuncId} {vs cap : Array Value} {v : Value} (hc : ∀ (w : World) (vs : Array Value), (callFunc f vs).run P w = .ok (.enter f vs) w)
    (hi : Idles P f (vs ++ cap)) (hr : (results fn tmps).run P w = .ok v w) (hR : R (.returned v) w) : Leaves P fn tmps R [⟨.fn (.func f) cap, vs⟩] .returning w := by
  refine ⟨by simp, .func f, cap, f, vs ++ cap, rfl, ?_, fun c cs hm => ?_⟩
  · simp only [invoke]
    have := hc w (vs ++ cap)
    simpa using this
  · obtain ⟨e, u', w', fr, ⟨⟨v', rfl⟩, rfl, rfl⟩, hs, hk, hg⟩ := hi w c cs hm
    refine ⟨.returned v', .returning, _, fr, ?_, hs, hk, hg⟩
    exact ⟨v, hr, hR⟩
end
section
variable {P : Program} {ops : Array Oper} {Q : Exit → Act → World → Prop} {K : Act → World → Prop} {a : Act} {w : World} {dst : Option Tmp} {ty T T' : TypeId} {pos : String} {af : Array Edge} {gd : Option (Nat × Bool)} {q n : Nat} {ds : List Deferred} {x y : Operand}
theorem o_defer {f : FuncId} {t : Operand} {cap : Array Value} {ats : Array TypeId} (ho : ops[q]? = some ⟨none, .defer { callee := .value t, args := #[], argTypes := ats }, ty, pos, af, gd⟩) (hw : Region.wanted ⟨none, .defer { callee := .value t, args := #[], argTypes := ats }, ty, pos, af, gd⟩ (yielded ops a.tmps) = true)
    (ht : a.eval t = .func (.func f) #[] cap) (hf : Fr a n ds) (k : ∀ a', Fr a' n (⟨.fn (.func f) cap, #[]⟩ :: ds) → (∀ t, at_ a' t = at_ a t) → K a' w) : opS P ops Q q K a w := by
  intro rest b kk cs hK
  have hr : (execOp a.eval ⟨none, .defer { callee := .value t, args := #[], argTypes := ats }, ty, pos, af, gd⟩).run P w = .ok (.defer ⟨.fn (.func f) cap, #[]⟩) w := by
    simp [execOp, resolve, ht, Deferred.ofValue]
  have hg := stepG_op (P := P) (b := b) (k := kk) (cs := cs) (w := w) (rest := rest) ho hw
  refine .steps (.one (step_lone_go ?_)) (hK _ _ (k { a with defers := ⟨.fn (.func f) cap, #[]⟩ :: a.defers } ⟨hf.size, by rw [hf.defers]⟩ (fun t => rfl)))
  have hfin : ({ b.at a (.inRegion ops (q :: rest) :: kk) with defers := ⟨.fn (.func f) cap, #[]⟩ :: a.defers } : Frame).finish undef = b.at { a with defers := ⟨.fn (.func f) cap, #[]⟩ :: a.defers } (.inRegion ops rest :: kk) := by
    have := Frame.finish_at b { a with defers := ⟨.fn (.func f) cap, #[]⟩ :: a.defers } ops q rest kk undef
    rw [ho] at this; exact this
  rw [hg]; simp only [stepG.apply, Sem.runT_eq, hr, GStep.bare_after]
  exact congrArg (fun fr => GStep.go { frame := fr, callers := cs, status := .running, dying := none } w) hfin
theorem x_nilneq {ms : Array (String × TypeId)} (hT : P.underlying T = some (.interface ms)) (h : a.eval x = .nilIface) (_ : a.eval (.const .nilIface) = .nilIface) : (execOp a.eval ⟨dst, .binOp .neq T x (.const .nilIface) T', ty, pos, af, gd⟩).run P w = .ok (.value (.bool false)) w := by
  refine ok_bind ?_
  have hT' : P.underlying T = some (.interface (P.methodsAt T)) := by simp [Program.methodsAt, hT]
  have := run_neq_nil_nil w T hT'
  simp [h, e_const, eqGuard, this]
theorem x_eqlpn {e : TypeId} {p : Option Addr} (hT : P.underlying T = some (.pointer e)) (h : a.eval x = .pointer p) : (execOp a.eval ⟨dst, .binOp .eql T x (.const (.pointer none)) T', ty, pos, af, gd⟩).run P w = .ok (.value (.bool p.isNone)) w := by
  refine ok_bind ?_
  have hT' : P.underlying T = some (.pointer (P.pointee T)) := by simp [Program.pointee, hT]
  have := run_eql_pointer_nil w T p hT'
  simp [h, e_const, eqGuard, this]
theorem x_neqpn {e : TypeId} {p : Option Addr} (hT : P.underlying T = some (.pointer e)) (h : a.eval x = .pointer p) : (execOp a.eval ⟨dst, .binOp .neq T x (.const (.pointer none)) T', ty, pos, af, gd⟩).run P w = .ok (.value (.bool (!p.isNone))) w := by
  refine ok_bind ?_
  have hT' : P.underlying T = some (.pointer (P.pointee T)) := by simp [Program.pointee, hT]
  have := run_neq_pointer_nil w T p hT'
  simp [h, e_const, eqGuard, this]
end
theorem Same.trans {w w1 w2 : World} {F F1 F2 : Nat → Prop} (h : Same w F w1 F1) (k : Same w1 F1 w2 F2) : Same w F w2 F2 := fun b hb hf => by
  obtain ⟨h1, h2⟩ := h b hb hf
  have hb1 : b < w1.heap.size := by
    apply Decidable.byContradiction
    intro hn
    rw [Array.getElem?_eq_none (by omega), Array.getElem?_eq_getElem hb] at h2
    cases h2
  obtain ⟨h3, h4⟩ := k b hb1 h1
  exact ⟨h3, h4.trans h2⟩
theorem Flat.turnF {α : Type} {E : Ty α} {w w' : World} {F F' : Nat → Prop} (hf : ∀ w F w' F' x cs, E.im w F x cs → E.im w' F' x cs) : ∀ {l : List α} {xs : List Value}, Flat E w F l xs → Flat E w' F' l xs
  | [], xs, h => h
  | x :: l, xs, ⟨ds, ys, e, h1, h2⟩ => ⟨ds, ys, e, hf _ _ _ _ _ _ h1, Flat.turnF hf h2⟩
theorem Row.keepF {α : Type} {E : Ty α} {e : Nat} {w w' : World} {o o' : Own} {i j : Nat} {v : Value} {l : List α} (h : Row E e w o i v l) (hf : ∀ w F w' F' x cs, E.im w F x cs → E.im w' F' x cs) (s1 : Same w (L o i) w' (L o' j)) : Row E e w' o' j v l := by
  rcases h with h | ⟨g, f, c, cur, xs, h1, h2, h3, h4, h5, h6, h7, h8⟩
  · exact .inl h
  · obtain ⟨h2', h3'⟩ := s1.blk h2 h3
    exact .inr ⟨g, f, c, cur, xs, h1, h2', h3', h4, h5, h6, h7.turnF hf, h8⟩
end Go.Gc
namespace Go.Gc
open Go Go.RowKit Go.ChangeShapes Go.WideShapes
abbrev all0 : Own := fun _ => 0
structure Opn {α : Type} (P : Program) (t : TypeId) (T : Ty α) (ok : α → Prop) : Prop where
  cells : P.cellsOf t = T.sz
  opn : ∀ {H : Type} {enc : TypeId × Value → H} {w : World} {base : Nat} {sp : Nat → Bool} {held : Bool} {fuel : Nat} {cs : List Value} {y : DataW H × List MemPlace},
    DataW.trod enc P w base sp held fuel t cs = some y → ∃ x, T.im w (L all0 0) x cs ∧ ok x
section
variable {P : Program} {t e : TypeId}
theorem opn_int {k : IntKind} (ht : P.underlying t = some (.int k)) (hc : P.cellsOf t = 1) : Opn P t (tInt k) (fun x => (Lit.int k x).wf = true) :=
  ⟨hc, fun h => by obtain ⟨n, rfl, _, hw⟩ := DataW.trod_int ht h; exact ⟨n, rfl, hw⟩⟩
theorem opn_str (ht : P.underlying t = some .string) (hc : P.cellsOf t = 1) : Opn P t tStr (fun s => s.size ≤ maxLen) :=
  ⟨hc, fun h => by obtain ⟨s, rfl, _, hs⟩ := DataW.trod_string ht h; exact ⟨s, rfl, hs⟩⟩
theorem opn_cells {α : Type} {E : Ty α} {ok : α → Prop} {w : World} {F : Nat → Prop} {g f : Nat} : ∀ {n : Nat}, (∀ i, i < n → ∃ x cs, E.im w F x cs ∧ ok x ∧ ∀ j u, cs[j]? = some u → w.cell? ⟨g, f + (i * E.sz + j), none⟩ = some u) →
    ∃ l xs, l.length = n ∧ (∀ x ∈ l, ok x) ∧ Flat E w F l xs ∧ Lies w g f xs
  | 0, _ => ⟨[], [], rfl, by simp, rfl, fun n u h => by simp at h⟩
  | n + 1, h => by
    obtain ⟨l, xs, h1, h2, h3, h4⟩ := opn_cells (n := n) (fun i hi => h i (by omega))
    obtain ⟨x, cs, k1, k2, k3⟩ := h n (by omega)
    have hl : xs.length = n * E.sz := by rw [h3.length, h1]
    refine ⟨l ++ [x], xs ++ cs, by simp [h1], fun y hy => ?_, h3.append (.single k1), fun j u hu => ?_⟩
    · rcases List.mem_append.1 hy with hy | hy
      · exact h2 y hy
      · rw [List.mem_singleton.1 hy]; exact k2
    · rcases Nat.lt_or_ge j xs.length with hj | hj
      · rw [List.getElem?_append_left hj] at hu; exact h4 j u hu
      · rw [List.getElem?_append_right hj] at hu
        have := k3 _ _ hu
        rw [hl] at hj this
        rw [show f + j = f + (n * E.sz + (j - n * E.sz)) by omega]
        exact this
theorem opn_slice {α : Type} {E : Ty α} {hE : 0 < E.sz} {ok : α → Prop} (ht : P.underlying t = some (.slice e)) (hc : P.cellsOf t = 1) (h : Opn P e E ok) : Opn P t (tSlice e E hE) (fun l => l.length ≤ maxLen ∧ ∀ x ∈ l, ok x) := by
  refine ⟨hc, fun {H enc w base sp held fuel cs y} hy => ?_⟩
  rcases DataW.trod_slice ht hy with ⟨rfl, _⟩ | ⟨a, len, cap, elems, rest, n, _, rfl, _, hb, hl, hm, hlen, hel, _, _⟩
  · exact ⟨[], im_nil, by simp [maxLen], by simp⟩
  have each : ∀ i, i < len → ∃ cs', w.cells? base (a.add (i * E.sz)) E.sz = some cs' ∧ ∃ x, E.im w (L all0 0) x cs' ∧ ok x := by
    intro i hi
    have h1 := hel i hi
    rw [h.cells] at h1
    rw [List.getElem?_eq_getElem (by omega), Option.bind_eq_some_iff] at h1
    obtain ⟨cs', h2, h3⟩ := h1
    exact ⟨cs', h2, h.opn h3⟩
  obtain ⟨g, f, spot⟩ := a
  by_cases h0 : len = 0
  · subst h0
    exact ⟨[], ⟨_, cap, rfl, by simp, hm, fun h => absurd h (by simp)⟩, by simp [maxLen], by simp⟩
  have hspot : spot = none := by
    obtain ⟨cs', h1, x, h2, _⟩ := each 0 (by omega)
    obtain ⟨_, hz, hcell⟩ := World.cells?_some h1
    have g0 := hcell 0 hE
    obtain ⟨c0, hc0⟩ : ∃ c0, cs'[0]? = some c0 := ⟨cs'[0]'(by rw [hz]; exact hE), by simp⟩
    rw [hc0] at g0
    simpa [Addr.add] using World.cell?_spot g0
  subst hspot
  obtain ⟨l, xs, h1, h2, h3, h4⟩ := opn_cells (E := E) (ok := ok) (w := w) (F := L all0 0) (g := g) (f := f) (n := len) (fun i hi => by
    obtain ⟨cs', h1, x, h2, h3⟩ := each i hi
    obtain ⟨_, hz, hcell⟩ := World.cells?_some h1
    refine ⟨x, cs', h2, h3, fun j u hu => ?_⟩
    have hj : j < cs'.length := (List.getElem?_eq_some_iff.1 hu).1
    have := hcell j (by omega)
    rw [add_plain, add_plain, Nat.add_assoc, hu] at this
    exact this)
  exact ⟨l, ⟨_, cap, by rw [h1], by omega, hm, fun _ => ⟨g, f, xs, rfl, rfl, h3, h4⟩⟩, by rw [h1]; omega, h2⟩
structure OpnL {α : Type} (P : Program) (fs : List Field) (n : Nat) (T : Ty α) (ok : α → Prop) : Prop where
  opn : ∀ {H : Type} {enc : TypeId × Value → H} {w : World} {base : Nat} {sp : Nat → Bool} {held : Bool} {fuel : Nat} {cs pre : List Value} {ys : List (DataW H × List MemPlace)}, pre.length = n → cs.length = T.sz →
    (∀ (i : Nat) (f : Field), fs[i]? = some f → DataW.trod enc P w base sp held fuel f.type (((pre ++ cs).drop f.offset).take (P.cellsOf f.type)) = ys[i]?) → ys.length = fs.length → ∃ x, T.im w (L all0 0) x cs ∧ ok x
theorem opnL_one {α : Type} {T : Ty α} {ok : α → Prop} {f : Field} {n : Nat} (h : Opn P f.type T ok) (ho : f.offset = n) : OpnL P [f] n T ok := by
  refine ⟨fun {H enc w base sp held fuel cs pre ys} hp hc hf hy => ?_⟩
  have h0 := hf 0 f rfl
  rw [ho, ← hp, List.drop_left, h.cells, ← hc, List.take_length] at h0
  rw [List.getElem?_eq_getElem (by rw [hy]; simp)] at h0
  exact h.opn h0
theorem opnL_cons {α β : Type} {A : Ty α} {B : Ty β} {okA : α → Prop} {okB : β → Prop} {f : Field} {fs : List Field} {n m : Nat} (h : Opn P f.type A okA) (ho : f.offset = n) (hm : n + A.sz = m) (hs : OpnL P fs m B okB) :
    OpnL P (f :: fs) n (tPair A B) (fun p => okA p.1 ∧ okB p.2) := by
  refine ⟨fun {H enc w base sp held fuel cs pre ys} hp hc hf hy => ?_⟩
  have hc' : cs.length = A.sz + B.sz := hc
  have h0 := hf 0 f rfl
  rw [ho, ← hp, List.drop_left, h.cells] at h0
  rw [List.getElem?_eq_getElem (by rw [hy]; simp)] at h0
  obtain ⟨x, hx1, hx2⟩ := h.opn h0
  have e : pre ++ cs = (pre ++ cs.take A.sz) ++ cs.drop A.sz := by rw [List.append_assoc, List.take_append_drop]
  obtain ⟨z, hz1, hz2⟩ := hs.opn (H := H) (enc := enc) (w := w) (base := base) (sp := sp) (held := held) (fuel := fuel) (cs := cs.drop A.sz) (pre := pre ++ cs.take A.sz) (ys := ys.drop 1) (by rw [List.length_append, List.length_take]; omega) (by rw [List.length_drop]; omega) (fun i g hg => by
    have := hf (i + 1) g hg
    rw [← e, this]
    simp [Nat.add_comm]) (by rw [List.length_drop, hy]; simp)
  exact ⟨(x, z), ⟨_, _, (List.take_append_drop A.sz cs).symm, hx1, hz1⟩, hx2, hz2⟩
theorem opn_struct {α β : Type} {T : Ty β} {ok : β → Prop} {fs : Array Field} (to : α → β) (from_ : β → α) (hi : ∀ y, to (from_ y) = y) (ht : P.underlying t = some (.struct fs)) (hc : P.cellsOf t = T.sz) (h : OpnL P fs.toList 0 T ok) :
    Opn P t (tIso T to) (fun x => ok (to x)) := by
  refine ⟨hc, fun {H enc w base sp held fuel cs y} hy => ?_⟩
  obtain ⟨xs, n, _, _, hl, hlen, hf⟩ := DataW.trod_struct ht hy
  obtain ⟨x, h1, h2⟩ := h.opn (H := H) (enc := enc) (w := w) (base := base) (sp := sp) (held := held) (fuel := n) (cs := cs) (pre := []) (ys := xs) rfl (by rw [hl, hc]) (fun i f hif => hf i f (by simpa using hif)) (by simpa using hlen)
  refine ⟨from_ x, ?_, ?_⟩
  · show T.im w _ (to (from_ x)) cs
    rw [hi]; exact h1
  · show ok (to (from_ x))
    rw [hi]; exact h2
theorem Opn.arg {α : Type} {T : Ty α} {ok : α → Prop} (h : Opn P t T ok) {H : Type} {enc : TypeId × Value → H} {w : World} {base : Nat} {sp : Nat → Bool} {held : Bool} {v : Value} {d : DataW H} {ps : List MemPlace} (hd : DataW.Trod enc P w base sp held t v d ps) :
    ∃ x, T.im w (L all0 0) x v.cells.toList ∧ ok x := by
  obtain ⟨fuel, hf⟩ := hd
  exact h.opn hf
end
end Go.Gc
namespace Go.Gc
open Go Go.RowKit
theorem size_of_get {ops : Array Oper} {i : Nat} {o : Oper} (h : ops[i]? = some o) : i < ops.size := (Array.getElem?_eq_some_iff.1 h).1
section
variable {P : Program} {ops : Array Oper} {Q : Exit → Act → World → Prop} {i : Nat} {a : Act} {w w' : World} {v : Value} {o : Oper}
theorem os (ho : ops[i]? = some o) (hw : Region.wanted o (yielded ops a.tmps) = true) (hd : o.dst = none) (hr : (execOp a.eval o).run P w = .ok .skip w') (k : wpX P ops Q (i + 1) a w') : wpX P ops Q i a w :=
  x_next (size_of_get ho) (o_skip ho hw hd hr k)
theorem wp0 (hg : o.guard = none) : Region.wanted o (yielded ops a.tmps) = true := wanted_plain hg
end
def lk : List (Nat × Nat) → Nat → Nat
  | [], _ => 1000
  | x :: T, n => bif Nat.beq n x.1 then x.2 else lk T n
def lr : List (Nat × Nat) → Nat → Nat
  | [], n => n
  | x :: T, n => bif Nat.beq n x.1 then x.2 else lr T n
def lko (T : List (Nat × Nat)) (o : Own) : Own := fun b => lk T (o b)
def lro (T : List (Nat × Nat)) (o : Own) : Own := fun b => lr T (o b)
def own (n : Nat) : Bool := Nat.ble 50 n && Nat.ble n 999
def Hown (o : Own) : Prop := ∀ b, own (o b) = false
def noOwn : List (Nat × Nat) → Bool
  | [] => true
  | x :: T => bif own x.2 then false else noOwn T
theorem lk_own : ∀ {T : List (Nat × Nat)}, noOwn T = true → ∀ n, own (lk T n) = false
  | [], _, n => rfl
  | x :: T, h, n => by
    simp only [noOwn] at h
    simp only [lk]
    cases hx : own x.2
    · rw [hx] at h
      cases Nat.beq n x.1
      · exact lk_own h n
      · exact hx
    · rw [hx] at h; cases h
theorem lko_own {T : List (Nat × Nat)} {o : Own} (h : noOwn T = true) : Hown (lko T o) := fun b => lk_own h (o b)
theorem hown_all0 : Hown all0 := fun _ => rfl
abbrev Ls (o : Own) (M : List Nat) : Nat → Prop := fun b => mem M (o b) = true
theorem mem_not {M : List Nat} {i : Nat} (h : mem M i = false) {o : Own} {b : Nat} (hb : o b = i) : ¬ Ls o M b := fun e => by
  have e' : mem M (o b) = true := e
  rw [hb, h] at e'; cases e'
section
variable {w w' w1 w2 w0 : World} {o o' o1 o2 o0 : Own} {i k g t f j sz cap n : Nat} {cs : Array Value} {M M0 M' : List Nat}
theorem sameM (s : Tr (Ls o M) w o w' o') {i : Nat} (h : mem M i = false) : Same w (L o i) w' (L o' i) := s.same (fun b hb => mem_not h hb)
theorem Box.kn (h : Box w o i g t cs) (s : Tr No w o w' o') : Box w' o' i g t cs := h.keepNo s
theorem Box.kk (h : Box w o i g t cs) (s : Tr (L o k) w o w' o') (hk : Nat.beq i k = false) : Box w' o' i g t cs := h.keep s (ne hk)
theorem Box.km (h : Box w o i g t cs) (s : Tr (Ls o M) w o w' o') (hk : mem M i = false) : Box w' o' i g t cs := h.keep_ (sameM s hk)
theorem Chan.kn {buf : List Value} (h : Chan w o i g cap buf) (s : Tr No w o w' o') : Chan w' o' i g cap buf := h.keepNo s
theorem Chan.kk {buf : List Value} (h : Chan w o i g cap buf) (s : Tr (L o k) w o w' o') (hk : Nat.beq i k = false) : Chan w' o' i g cap buf := h.keep s (ne hk)
section
variable {α : Type} {E : Ty α} {e : Nat} {v : Value} {l : List α}
theorem Row.kn (h : Row E e w o i v l) (s : Tr No w o w' o') : Row E e w' o' i v l := h.keepNo s
theorem Row.kk (h : Row E e w o i v l) (s : Tr (L o k) w o w' o') (hk : Nat.beq i k = false) (h0 : Nat.beq 0 k = false) : Row E e w' o' i v l := h.keep s (ne hk) (ne h0)
theorem iN {T : Ty α} {x : α} {cs : List Value} (h : T.im w (L o 0) x cs) (s : Tr No w o w' o') : T.im w' (L o' 0) x cs := keepImNo h s
theorem iK {T : Ty α} {x : α} {cs : List Value} (h : T.im w (L o 0) x cs) (s : Tr (L o k) w o w' o') (hk : Nat.beq 0 k = false) : T.im w' (L o' 0) x cs := keepIm h s (ne hk)
theorem iM {T : Ty α} {x : α} {cs : List Value} (h : T.im w (L o 0) x cs) (s : Tr (Ls o M) w o w' o') (hk : mem M 0 = false) : T.im w' (L o' 0) x cs := T.loc (sameM s hk) h
end
theorem ElemAt.kn {d : Value} {ds : List Value} (h : ElemAt w o i g f j sz (d :: ds)) (s : Tr No w o w' o') : ElemAt w' o' i g f j sz (d :: ds) := h.keepNo (Nat.succ_pos _) s
theorem Tr.kn (h : Tr (Ls o0 M0) w0 o0 w o) (s : Tr No w o w' o') : Tr (Ls o0 M0) w0 o0 w' o' := h.stepNo s
theorem Tr.kk (h : Tr (Ls o0 M0) w0 o0 w o) (s : Tr (L o k) w o w' o') (hown : Hown o0) (hk : (mem M0 k || own k) = true) : Tr (Ls o0 M0) w0 o0 w' o' :=
  h.step s (fun b e => by
    show mem M0 (o0 b) = true
    have hb := hown b
    rw [e] at hb ⊢
    rw [hb, Bool.or_false] at hk
    exact hk)
def subM (M0 : List Nat) : List Nat → Bool
  | [] => true
  | x :: M => bif (mem M0 x || own x) then subM M0 M else false
theorem subM_of : ∀ {M : List Nat}, subM M0 M = true → ∀ {n}, mem M n = true → own n = false → mem M0 n = true
  | [], _, n, h, _ => by simp [mem] at h
  | x :: M, hs, n, h, ho => by
    simp only [subM] at hs
    simp only [mem] at h
    cases hx : (mem M0 x || own x)
    · rw [hx] at hs; cases hs
    · rw [hx] at hs
      cases hb : Nat.beq x n
      · rw [hb] at h; exact subM_of hs h ho
      · have := Nat.eq_of_beq_eq_true hb
        subst this
        rw [ho, Bool.or_false] at hx; exact hx
theorem Tr.km (h : Tr (Ls o0 M0) w0 o0 w o) (s : Tr (Ls o M) w o w' o') (hown : Hown o0) (hk : subM M0 M = true) : Tr (Ls o0 M0) w0 o0 w' o' :=
  h.stepF s (fun b hl (hb : mem M (o b) = true) => by
    show mem M0 (o0 b) = true
    rw [hl] at hb
    exact subM_of hk hb (hown b))
variable {T : List (Nat × Nat)}
theorem sL {α : Type} {U : Ty α} {x : α} {cs : List Value} (h : U.im w (L o 0) x cs) (hσ : Nat.beq (lk T 0) 0 = true) : U.im w (L (lko T o) 0) x cs := subIm (σ := lk T) h (Nat.eq_of_beq_eq_true hσ)
theorem Box.l (h : Box w o i g t cs) (hσ : Nat.beq (lk T i) j = true) : Box w (lko T o) j g t cs := subBox (σ := lk T) h (Nat.eq_of_beq_eq_true hσ)
theorem Row.l {α : Type} {E : Ty α} {e : Nat} {v : Value} {l : List α} (h : Row E e w o i v l) (hσ : Nat.beq (lk T i) j = true) (h0 : Nat.beq (lk T 0) 0 = true) : Row E e w (lko T o) j v l := subRow (σ := lk T) h (Nat.eq_of_beq_eq_true hσ) (Nat.eq_of_beq_eq_true h0)
theorem Row.lend {α : Type} {E : Ty α} {e : Nat} {hE : 0 < E.sz} {v : Value} {l : List α} (h : Row E e w o i v l) (hσ : Nat.beq (lk T i) 0 = true) (h0 : Nat.beq (lk T 0) 0 = true) : (tSlice e E hE).im w (L (lko T o) 0) l [v] := lendRow (σ := lk T) h (Nat.eq_of_beq_eq_true hσ) (Nat.eq_of_beq_eq_true h0)
theorem Chan.l {b : List Value} (h : Chan w o i g cap b) (hσ : Nat.beq (lk T i) j = true) : Chan w (lko T o) j g cap b := subChan (σ := lk T) h (Nat.eq_of_beq_eq_true hσ)
variable {oc : Own} {U : List (Nat × Nat)} {Mc : List Nat} {Fc : Nat → Prop}
def mrg (w : World) (o : Own) (U : List (Nat × Nat)) (oc : Own) : Own := merge w.heap.size o (fun b => lk U (oc b))
theorem ex {α : Type} (x : α) : ∃ y, y = x := ⟨x, rfl⟩
def backM : List (Nat × Nat) → List Nat → List Nat → Bool
  | [], _, _ => true
  | x :: T, Mc, M => bif mem Mc x.2 then (bif mem M x.1 then backM T Mc M else false) else backM T Mc M
theorem backM_of : ∀ {T : List (Nat × Nat)} {n : Nat}, backM T Mc M = true → mem Mc 1000 = false → mem Mc (lk T n) = true → mem M n = true
  | [], n, _, h0, h => by
    simp only [lk] at h
    rw [h0] at h; cases h
  | x :: T, n, hb, h0, h => by
    simp only [backM] at hb
    simp only [lk] at h
    cases hn : Nat.beq n x.1
    · rw [hn] at h
      refine backM_of ?_ h0 h
      cases hm : mem Mc x.2
      · rw [hm] at hb; exact hb
      · rw [hm] at hb
        cases hm2 : mem M x.1
        · rw [hm2] at hb; cases hb
        · rw [hm2] at hb; exact hb
    · rw [hn] at h
      have e := Nat.eq_of_beq_eq_true hn
      subst e
      have h' : mem Mc x.2 = true := h
      rw [h'] at hb
      cases hm2 : mem M x.1
      · rw [hm2] at hb; cases hb
      · rfl
theorem Tr.r (h : Tr (Ls (lko T o) Mc) w (lko T o) w' oc) (ho : o' = mrg w o U oc) (M : List Nat) (h0 : mem Mc 1000 = false) (hb : backM T Mc M = true) : Tr (Ls o M) w o w' o' := by
  subst ho
  exact Tr.merged (σ := lk T) (τ := lk U) h (fun b _ hf => backM_of hb h0 hf)
theorem Tr.r0 (h : Tr (Ls (lko T o) []) w (lko T o) w' oc) (ho : o' = mrg w o U oc) : Tr No w o w' o' := by
  subst ho
  exact Tr.merged (σ := lk T) (τ := lk U) h (fun b _ hf => by cases hf)
theorem Tr.r1 (h : Tr (Ls (lko T o) Mc) w (lko T o) w' oc) (ho : o' = mrg w o U oc) (k : Nat) (h0 : mem Mc 1000 = false) (hb : backM T Mc [k] = true) : Tr (L o k) w o w' o' := by
  subst ho
  exact Tr.merged (σ := lk T) (τ := lk U) h (fun b _ hf => by
    have := backM_of hb h0 hf
    simp only [mem] at this
    cases hx : Nat.beq k (o b)
    · rw [hx] at this; cases this
    · exact (Nat.eq_of_beq_eq_true hx).symm)
def onlyJ : List (Nat × Nat) → Nat → Nat → Bool
  | [], j, _ => !Nat.beq j 1000
  | x :: T, j, i => bif Nat.beq x.2 j then (bif Nat.beq x.1 i then onlyJ T j i else false) else onlyJ T j i
theorem onlyJ_of : ∀ {T : List (Nat × Nat)} {n : Nat}, onlyJ T j i = true → lk T n = j → n = i
  | [], n, h, e => by
    simp only [lk] at e
    subst e
    simp [onlyJ] at h
  | x :: T, n, h, e => by
    simp only [onlyJ] at h
    simp only [lk] at e
    cases hn : Nat.beq n x.1
    · rw [hn] at e
      refine onlyJ_of (T := T) ?_ e
      cases h1 : Nat.beq x.2 j
      · rw [h1] at h; exact h
      · rw [h1] at h
        cases h2 : Nat.beq x.1 i
        · rw [h2] at h; cases h
        · rw [h2] at h; exact h
    · rw [hn] at e
      have e1 : x.2 = j := e
      have e2 := Nat.eq_of_beq_eq_true hn
      rw [e1, Nat.beq_refl] at h
      cases h2 : Nat.beq x.1 i
      · rw [h2] at h; cases h
      · exact e2.trans (Nat.eq_of_beq_eq_true h2)
theorem sameR (h : Tr (Ls (lko T o) Mc) w (lko T o) w' oc) (ho : o' = mrg w o U oc) (h1 : onlyJ T j i = true) (h2 : Nat.beq (lk U j) i = true) : Same w' (L oc j) w' (L o' i) := by
  subst ho
  exact same_merged (σ := lk T) (τ := lk U) h (fun n e => onlyJ_of h1 e) (Nat.eq_of_beq_eq_true h2)
theorem Box.r (q : Box w' oc j g t cs) (h : Tr (Ls (lko T o) Mc) w (lko T o) w' oc) (ho : o' = mrg w o U oc) (i : Nat) (h1 : onlyJ T j i = true) (h2 : Nat.beq (lk U j) i = true) : Box w' o' i g t cs := q.keep_ (sameR h ho h1 h2)
theorem Chan.r {b : List Value} (q : Chan w' oc j g cap b) (h : Tr (Ls (lko T o) Mc) w (lko T o) w' oc) (ho : o' = mrg w o U oc) (i : Nat) (h1 : onlyJ T j i = true) (h2 : Nat.beq (lk U j) i = true) : Chan w' o' i g cap b := q.keep_ (sameR h ho h1 h2)
theorem Row.r {α : Type} {E : Ty α} {e : Nat} {v : Value} {l : List α} (q : Row E e w' oc j v l) (h : Tr (Ls (lko T o) Mc) w (lko T o) w' oc) (ho : o' = mrg w o U oc) (i : Nat) (h1 : onlyJ T j i = true) (h2 : Nat.beq (lk U j) i = true) (h3 : onlyJ T 0 0 = true) (h4 : Nat.beq (lk U 0) 0 = true) : Row E e w' o' i v l :=
  q.keep_ (sameR h ho h1 h2) (sameR h ho h3 h4)
theorem Row.rF {α : Type} {E : Ty α} {e : Nat} {v : Value} {l : List α} (q : Row E e w' oc j v l) (hf : ∀ w F w' F' x cs, E.im w F x cs → E.im w' F' x cs) (h : Tr (Ls (lko T o) Mc) w (lko T o) w' oc) (ho : o' = mrg w o U oc) (i : Nat) (h1 : onlyJ T j i = true) (h2 : Nat.beq (lk U j) i = true) : Row E e w' o' i v l :=
  q.keepF hf (sameR h ho h1 h2)
theorem iR {α : Type} {V : Ty α} {x : α} {cs : List Value} (q : V.im w' (L oc 0) x cs) (h : Tr (Ls (lko T o) Mc) w (lko T o) w' oc) (ho : o' = mrg w o U oc) (h1 : onlyJ T 0 0 = true) (h2 : Nat.beq (lk U 0) 0 = true) : V.im w' (L o' 0) x cs := V.loc (sameR h ho h1 h2) q
def onlyOwn : List (Nat × Nat) → Bool
  | [] => true
  | x :: T => bif own x.1 then onlyOwn T else false
theorem lr_other : ∀ {T : List (Nat × Nat)} {n : Nat}, onlyOwn T = true → own n = false → lr T n = n
  | [], _, _, _ => rfl
  | x :: T, n, h, hn => by
    simp only [onlyOwn] at h
    simp only [lr]
    cases hx : own x.1
    · rw [hx] at h; cases h
    · rw [hx] at h
      cases hb : Nat.beq n x.1
      · exact lr_other h hn
      · have := Nat.eq_of_beq_eq_true hb
        subst this
        rw [hn] at hx; cases hx
theorem Tr.kw (h : Tr (Ls o0 M0) w0 o0 w o) (hown : Hown o0) (ho : o' = lro T o) (ht : onlyOwn T = true) : Tr (Ls o0 M0) w0 o0 w o' := by
  subst ho
  exact ⟨h.os, h.tape, h.output, h.size, h.block, fun b hb => by
    show lr T (o b) = o0 b
    rw [h.lab b hb]; exact lr_other ht (hown b)⟩
theorem sameW (ho : o' = lro T o) (h : Nat.beq (lr T i) j = true) : Same w (L o i) w (L o' j) := by
  subst ho
  exact Same.relab (fun b (hb : o b = i) => by
    show lr T (o b) = j
    rw [hb]; exact Nat.eq_of_beq_eq_true h)
theorem Box.kw (q : Box w o i g t cs) (ho : o' = lro T o) (j : Nat) (h : Nat.beq (lr T i) j = true) : Box w o' j g t cs := q.keep_ (sameW ho h)
theorem Chan.kw {b : List Value} (q : Chan w o i g cap b) (ho : o' = lro T o) (j : Nat) (h : Nat.beq (lr T i) j = true) : Chan w o' j g cap b := q.keep_ (sameW ho h)
theorem Row.kw {α : Type} {E : Ty α} {e : Nat} {v : Value} {l : List α} (q : Row E e w o i v l) (ho : o' = lro T o) (j : Nat) (h : Nat.beq (lr T i) j = true) (h0 : Nat.beq (lr T 0) 0 = true) : Row E e w o' j v l := q.keep_ (sameW ho h) (sameW ho h0)
theorem iW {α : Type} {V : Ty α} {x : α} {cs : List Value} (q : V.im w (L o 0) x cs) (ho : o' = lro T o) (h0 : Nat.beq (lr T 0) 0 = true) : V.im w (L o' 0) x cs := V.loc (sameW ho h0) q
theorem Row.kz {α : Type} {E : Ty α} {e : Nat} {hE : 0 < E.sz} {v : Value} {l : List α} (q : Row E e w o i v l) (ho : o' = lro T o) (h : Nat.beq (lr T i) 0 = true) (h0 : Nat.beq (lr T 0) 0 = true) : (tSlice e E hE).im w (L o' 0) l [v] := by
  subst ho
  refine q.im hE (fun b hb => ?_) (fun b hb => ?_)
  · show lr T (o b) = 0
    rw [hb]; exact Nat.eq_of_beq_eq_true h
  · show lr T (o b) = 0
    rw [hb]; exact Nat.eq_of_beq_eq_true h0
def cl (live : List Nat) (n : Nat) : Nat := bif own n then (bif mem live n then n else 1000) else n
def clo (live : List Nat) (o : Own) : Own := fun b => cl live (o b)
def Hcl (live : List Nat) (o : Own) : Prop := ∀ b, own (o b) = true → mem live (o b) = true
theorem cl_plain {live : List Nat} {n : Nat} (h : own n = false) : cl live n = n := by
  unfold cl
  rw [h]; rfl
theorem hcl {live : List Nat} (ho : o' = clo live o) : Hcl live o' := fun b h => by
  subst ho
  have h' : own (cl live (o b)) = true := h
  show mem live (cl live (o b)) = true
  unfold cl at h' ⊢
  cases h1 : own (o b)
  · rw [h1] at h'
    have : own (o b) = true := h'
    rw [h1] at this; cases this
  · rw [h1] at h'
    cases h2 : mem live (o b)
    · rw [h2] at h'; cases h'
    · exact h2
theorem Tr.kc {live : List Nat} (h : Tr (Ls o0 M0) w0 o0 w o) (hown : Hown o0) (ho : o' = clo live o) : Tr (Ls o0 M0) w0 o0 w o' := by
  subst ho
  exact ⟨h.os, h.tape, h.output, h.size, h.block, fun b hb => by
    show cl live (o b) = o0 b
    rw [h.lab b hb]; exact cl_plain (hown b)⟩
theorem sameC {live : List Nat} (ho : o' = clo live o) (h : Nat.beq (cl live i) i = true) : Same w (L o i) w (L o' i) := by
  subst ho
  exact Same.relab (fun b (hb : o b = i) => by
    show cl live (o b) = i
    rw [hb]; exact Nat.eq_of_beq_eq_true h)
theorem Box.kc {live : List Nat} (q : Box w o i g t cs) (ho : o' = clo live o) (h : Nat.beq (cl live i) i = true) : Box w o' i g t cs := q.keep_ (sameC ho h)
theorem Chan.kc {live : List Nat} {b : List Value} (q : Chan w o i g cap b) (ho : o' = clo live o) (h : Nat.beq (cl live i) i = true) : Chan w o' i g cap b := q.keep_ (sameC ho h)
theorem Row.kc {live : List Nat} {α : Type} {E : Ty α} {e : Nat} {v : Value} {l : List α} (q : Row E e w o i v l) (ho : o' = clo live o) (h : Nat.beq (cl live i) i = true) : Row E e w o' i v l := q.keep_ (sameC ho h) (sameC ho rfl)
theorem iC {live : List Nat} {α : Type} {V : Ty α} {x : α} {cs : List Value} (q : V.im w (L o 0) x cs) (ho : o' = clo live o) : V.im w (L o' 0) x cs := V.loc (sameC ho rfl) q
def notIn (live : List Nat) : List (Nat × Nat) → Bool
  | [] => true
  | x :: T => bif own x.1 then (bif mem live x.1 then false else notIn live T) else false
theorem lr_notIn : ∀ {T : List (Nat × Nat)} {live : List Nat} {n : Nat}, notIn live T = true → (own n = true → mem live n = true) → lr T n = n
  | [], _, _, _, _ => rfl
  | x :: T, live, n, h, hn => by
    simp only [notIn] at h
    simp only [lr]
    cases hx : own x.1
    · rw [hx] at h; cases h
    · rw [hx] at h
      cases hm : mem live x.1
      · rw [hm] at h
        cases hb : Nat.beq n x.1
        · exact lr_notIn h hn
        · have := Nat.eq_of_beq_eq_true hb
          subst this
          rw [hn hx] at hm; cases hm
      · rw [hm] at h; cases h
theorem FL.kw {live : List Nat} {T : List (Nat × Nat)} {M : List (Nat × Nat)} {wS : World} {oS : Own} {U : Nat → Bool} (h : Tr (FL M oS U) wS oS w o) (hc : Hcl live oS) (ho : o' = lro T o) (ht : notIn live T = true) : Tr (FL M oS U) wS oS w o' := by
  subst ho
  exact ⟨h.os, h.tape, h.output, h.size, h.block, fun b hb => by
    show lr T (o b) = oS b
    rw [h.lab b hb]; exact lr_notIn ht (hc b)⟩
def inM : List (Nat × Nat) → Nat → Nat → Bool
  | [], _, _ => false
  | x :: M, i, k => bif Nat.beq x.1 i then (bif Nat.beq x.2 k then true else inM M i k) else inM M i k
theorem inM_of : ∀ {M : List (Nat × Nat)} {i k : Nat}, inM M i k = true → (i, k) ∈ M
  | [], _, _, h => by simp [inM] at h
  | x :: M, i, k, h => by
    simp only [inM] at h
    cases h1 : Nat.beq x.1 i
    · rw [h1] at h; exact List.mem_cons_of_mem _ (inM_of h)
    · rw [h1] at h
      cases h2 : Nat.beq x.2 k
      · rw [h2] at h; exact List.mem_cons_of_mem _ (inM_of h)
      · have e1 := Nat.eq_of_beq_eq_true h1
        have e2 := Nat.eq_of_beq_eq_true h2
        obtain ⟨x1, x2⟩ := x
        simp only at e1 e2
        subst e1; subst e2
        exact List.mem_cons_self
def allM (M : List (Nat × Nat)) (i : Nat) : List Nat → Bool
  | [] => true
  | k :: ks => bif inM M i k then allM M i ks else false
theorem allM_of {M : List (Nat × Nat)} {i : Nat} : ∀ {ks : List Nat} {k : Nat}, allM M i ks = true → mem ks k = true → (i, k) ∈ M
  | [], k, _, h => by simp [mem] at h
  | x :: ks, k, h, hm => by
    simp only [allM] at h
    simp only [mem] at hm
    cases h1 : inM M i x
    · rw [h1] at h; cases h
    · rw [h1] at h
      cases h2 : Nat.beq x k
      · rw [h2] at hm; exact allM_of h hm
      · have := Nat.eq_of_beq_eq_true h2
        subst this
        exact inM_of h1
section
variable {M : List (Nat × Nat)} {wS : World} {oS : Own} {U : Nat → Bool} {ks : List Nat}
theorem FL.stk (h : Tr (FL M oS U) wS oS w o) (t : Tr (L o k) w o w' o') (hm : inM M i k = true) : Tr (FL M oS (add U i)) wS oS w' o' := FL.stepK h t (inM_of hm)
theorem FL.stm (h : Tr (FL M oS U) wS oS w o) (t : Tr (Ls o ks) w o w' o') (hm : allM M i ks = true) : Tr (FL M oS (add U i)) wS oS w' o' :=
  FL.stepF h t (fun b hl (hb : mem ks (o b) = true) => ⟨(i, o b), allM_of hm hb, add_self _ _, hl.symm⟩)
def subF (M0 : List Nat) : List (Nat × Nat) → Bool
  | [] => true
  | x :: M => bif (mem M0 x.2 || own x.2) then subF M0 M else false
theorem subF_of : ∀ {M : List (Nat × Nat)} {x : Nat × Nat}, subF M0 M = true → x ∈ M → own x.2 = false → mem M0 x.2 = true
  | [], x, _, h, _ => by simp at h
  | y :: M, x, hs, h, ho => by
    simp only [subF] at hs
    cases hy : (mem M0 y.2 || own y.2)
    · rw [hy] at hs; cases hs
    · rw [hy] at hs
      rcases List.mem_cons.1 h with rfl | h
      · rw [ho, Bool.or_false] at hy; exact hy
      · exact subF_of hs h ho
theorem Tr.kf (h : Tr (Ls o0 M0) w0 o0 wS oS) (t : Tr (FL M oS U) wS oS w o) (hown : Hown o0) (hm : subF M0 M = true) : Tr (Ls o0 M0) w0 o0 w o :=
  h.stepF t (fun b hl ⟨x, hx, _, e⟩ => by
    show mem M0 (o0 b) = true
    rw [← hl, e]
    refine subF_of hm hx ?_
    rw [← e, hl]; exact hown b)
end
end
end Go.Gc
namespace Go.Gc
open Go Go.RowKit
theorem cut_c {P : Program} {Q : Exit → Act → World → Prop} {a : Act} {w : World} {X : Type} {c : Code} (O : X → Exit → Act → World → Prop) (x : X) (h : c.wp P (O x) a w) (hq : ∀ e a w, O x e a w → Q e a w) : c.wp P Q a w := by
  intro b k cs
  obtain ⟨e, a', w', q, r⟩ := h b k cs
  exact ⟨e, a', w', hq _ _ _ q, r⟩
section
variable {P : Program} {d : Nat} {xs ys : Array Value} {f : Field} {fs : List Field} {s : Bool} {w w' : World}
theorem sf_nil : (Op.eqFields d xs ys []).run P w = .ok true w := by simp [Op.eqFields]
theorem sf_int {k k' : IntKind} {a b : Int} (hn : (f.name == "_") = false) (ht : P.underlying f.type = some (.int k')) (ha : (part f.type xs f.offset).run P w = .ok (.int k a) w) (hb : (part f.type ys f.offset).run P w = .ok (.int k b) w)
    (hr : (Op.eqFields (d + 1) xs ys fs).run P w = .ok s w) : (Op.eqFields (d + 1) xs ys (f :: fs)).run P w = .ok ((a == b) && s) w := by
  have hn' : f.name ≠ "_" := by simpa using hn
  rw [Op.eqFields, if_pos hn']
  simp only [Sem.run_bind, ha, hb, run_equalIn_int w d f.type k k' a b ht, Result.andThen_ok]
  cases h : (a == b)
  · simp
  · simpa using hr
theorem sf_of {t : TypeId} {fs : Array Field} (hu : P.underlying t = some (.struct fs)) (hp : P.stoodInHeld t = false) (h : (Op.eqFields 9999 xs ys fs.toList).run P w = .ok s w) : (Op.equalIn 10000 t (.agg xs) (.agg ys)).run P w = .ok s w := by
  have hf : P.fieldsOf t = fs := by simp [Program.fieldsOf, hu]
  rw [run_equalIn_struct (P := P) w 9999 t xs ys (by rw [hf]; exact hu) hp, hf]
  exact h
variable {a : Act} {dst : Option Tmp} {ty T T' : TypeId} {pos : String} {af : Array Edge} {gd : Option (Nat × Bool)} {x y : Operand} {c : Bool}
theorem x_aggeq (he : ∀ w : World, (Op.equalIn 10000 T (.agg xs) (.agg ys)).run P w = .ok c w) (hg : P.eqGuardType P.depth T = false) (h : a.eval x = .agg xs) (h' : a.eval y = .agg ys) : (execOp a.eval ⟨dst, .binOp .eql T x y T', ty, pos, af, gd⟩).run P w = .ok (.value (.bool c)) w := by
  refine ok_bind ?_
  simp only [h, h', Sem.run_bind, run_eqGuard_agg w .eql T x y xs ys hg, Result.andThen_ok, run_eql_struct, he]
end
theorem sj {α : Type} {a b : α} (h : some a = some b) : a = b := Option.some.inj h
theorem Tr.below0 {w w1 : World} {o o1 : Own} (h : Tr (Ls o []) w o w1 o1) : Below w.heap.size w w1 :=
  Tr.below (h.mono (F' := No) (fun b _ e => by cases e))
section
variable {a : Act} {x1 x2 x3 x4 x5 x6 x7 : Operand} {v1 v2 v3 v4 v5 v6 v7 : Value} {n1 n2 n3 n4 n5 n6 n7 : Nat}
theorem m0 : (#[] : Array Operand).map a.eval = #[] := by simp
theorem m1 (h1 : a.eval x1 = v1) : (#[x1] : Array Operand).map a.eval = #[v1] := by simp [h1]
theorem m2 (h1 : a.eval x1 = v1) (h2 : a.eval x2 = v2) : (#[x1, x2] : Array Operand).map a.eval = #[v1, v2] := by simp [h1, h2]
theorem m3 (h1 : a.eval x1 = v1) (h2 : a.eval x2 = v2) (h3 : a.eval x3 = v3) : (#[x1, x2, x3] : Array Operand).map a.eval = #[v1, v2, v3] := by simp [h1, h2, h3]
theorem m4 (h1 : a.eval x1 = v1) (h2 : a.eval x2 = v2) (h3 : a.eval x3 = v3) (h4 : a.eval x4 = v4) : (#[x1, x2, x3, x4] : Array Operand).map a.eval = #[v1, v2, v3, v4] := by simp [h1, h2, h3, h4]
theorem l0 : (#[] : Array (Nat × Operand)).map (fun p => (p.1, a.eval p.2)) = #[] := by simp
theorem l1 (h1 : a.eval x1 = v1) : (#[(n1, x1)] : Array (Nat × Operand)).map (fun p => (p.1, a.eval p.2)) = #[(n1, v1)] := by simp [h1]
theorem l2 (h1 : a.eval x1 = v1) (h2 : a.eval x2 = v2) : (#[(n1, x1), (n2, x2)] : Array (Nat × Operand)).map (fun p => (p.1, a.eval p.2)) = #[(n1, v1), (n2, v2)] := by simp [h1, h2]
theorem l3 (h1 : a.eval x1 = v1) (h2 : a.eval x2 = v2) (h3 : a.eval x3 = v3) : (#[(n1, x1), (n2, x2), (n3, x3)] : Array (Nat × Operand)).map (fun p => (p.1, a.eval p.2)) = #[(n1, v1), (n2, v2), (n3, v3)] := by simp [h1, h2, h3]
theorem l4 (h1 : a.eval x1 = v1) (h2 : a.eval x2 = v2) (h3 : a.eval x3 = v3) (h4 : a.eval x4 = v4) : (#[(n1, x1), (n2, x2), (n3, x3), (n4, x4)] : Array (Nat × Operand)).map (fun p => (p.1, a.eval p.2)) = #[(n1, v1), (n2, v2), (n3, v3), (n4, v4)] := by simp [h1, h2, h3, h4]
end
structure MB (n : Nat) (ds : List Deferred) (L : List (Nat × Value)) (a : Act) : Prop where
  f : Fr a n ds
  b : Bas L a
def nth {α : Type} : List α → Nat → Option α
  | [], _ => none
  | x :: _, 0 => some x
  | _ :: l, k + 1 => nth l k
theorem nth_mem {α : Type} {x : α} : ∀ {l : List α} {k : Nat}, nth l k = some x → x ∈ l
  | [], _, h => by simp [nth] at h
  | y :: l, 0, h => by
    simp only [nth, Option.some.injEq] at h
    subst h; exact List.mem_cons_self
  | y :: l, k + 1, h => List.mem_cons_of_mem _ (nth_mem (l := l) (k := k) h)
def inL : List (Nat × Value) → Nat → Bool
  | [], _ => false
  | x :: K, d => bif Nat.beq x.1 d then true else inL K d
theorem inL_off : ∀ {K : List (Nat × Value)} {d : Nat}, inL K d = false → basOff K d = true
  | [], _, _ => rfl
  | x :: K, d, h => by
    simp only [inL] at h
    simp only [basOff]
    cases hx : Nat.beq x.1 d
    · rw [hx] at h; exact inL_off h
    · rw [hx] at h; cases h
def ck (n : Nat) (L : List (Nat × Value)) (d : Nat) : Bool := bif Nat.ble (d + 1) n then !inL L d else false
theorem ck_of {n d : Nat} {L : List (Nat × Value)} (h : ck n L d = true) : Nat.ble (d + 1) n = true ∧ basOff L d = true := by
  unfold ck at h
  cases h1 : Nat.ble (d + 1) n
  · rw [h1] at h; cases h
  · rw [h1] at h
    refine ⟨rfl, inL_off ?_⟩
    cases h2 : inL L d
    · rfl
    · rw [h2] at h; cases h
def pks (L : List (Nat × Value)) : List Nat → List (Nat × Value)
  | [] => []
  | k :: ks => (match nth L k with | some x => x | none => (0, undef)) :: pks L ks
def okP {α : Type} : List α → List Nat → Bool
  | _, [] => true
  | L, k :: ks => bif Nat.ble (k + 1) L.length then okP L ks else false
section
variable {n d k : Nat} {ds ds' : List Deferred} {L : List (Nat × Value)} {a a' : Act} {v : Value}
theorem MB.t (M : MB n ds L a) (k : Nat) (h : nth L k = some (d, v)) : at_ a d = v := M.b (d, v) (nth_mem h)
theorem MB.e (M : MB n ds L a) (k : Nat) (h : nth L k = some (d, v)) : a.eval (.tmp d) = v := M.b (d, v) (nth_mem h)
theorem MB.put (M : MB n ds L a) (p : Put a a' d v) (hc : ck n L d = true) : MB n ds ((d, v) :: L) a' := ⟨p.fr M.f, Bas.cons p.new (Bas.step M.b p (ck_of hc).2)⟩
theorem MB.st (M : MB n ds L a) (p : Put a a' d v) (hc : ck n L d = true) : MB n ds L a' := ⟨p.fr M.f, Bas.step M.b p (ck_of hc).2⟩
theorem MB.ad (M : MB n ds L a) (h : at_ a d = v) : MB n ds ((d, v) :: L) a := ⟨M.f, Bas.cons h M.b⟩
theorem MB.df (M : MB n ds L a) (f : Fr a' n ds') (he : ∀ t, at_ a' t = at_ a t) : MB n ds' L a' := ⟨f, fun x hx => (he x.1).trans (M.b x hx)⟩
theorem nth_some {α : Type} : ∀ {l : List α} {k : Nat}, Nat.ble (k + 1) l.length = true → ∃ x, nth l k = some x
  | [], k, h => by
    have := Nat.le_of_ble_eq_true h
    simp at this
  | x :: l, 0, h => ⟨x, rfl⟩
  | x :: l, k + 1, h => nth_some (l := l) (k := k) (Nat.ble_eq_true_of_le (by have := Nat.le_of_ble_eq_true h; simp at this; omega))
theorem bas_pks (hb : Bas L a) : ∀ {ks : List Nat}, okP L ks = true → Bas (pks L ks) a
  | [], _ => Bas.nil
  | k :: ks, h => by
    simp only [okP] at h
    cases h1 : Nat.ble (k + 1) L.length
    · rw [h1] at h; cases h
    · rw [h1] at h
      obtain ⟨x, hx⟩ := nth_some h1
      simp only [pks, hx]
      exact Bas.cons (hb x (nth_mem hx)) (bas_pks hb h)
theorem MB.pk (M : MB n ds L a) (ks : List Nat) (h : okP L ks = true) : MB n ds (pks L ks) a := ⟨M.f, bas_pks M.b h⟩
def tabA : List Value → Nat → List (Nat × Value)
  | [], _ => []
  | v :: l, i => (i, v) :: tabA l (i + 1)
theorem bas_tabA : ∀ {l : List Value} {i : Nat}, (∀ j v, nth l j = some v → at_ a (i + j) = v) → Bas (tabA l i) a
  | [], _, _ => Bas.nil
  | v :: l, i, h => Bas.cons (h 0 v rfl) (bas_tabA (l := l) (i := i + 1) fun j u hj => by
    have := h (j + 1) u hj
    rw [← this]; congr 1; omega)
theorem nth_get {α : Type} {x : α} : ∀ {l : List α} {k : Nat}, nth l k = some x → l[k]? = some x
  | [], _, h => by simp [nth] at h
  | y :: l, 0, h => by simpa [nth] using h
  | y :: l, k + 1, h => by
    have := nth_get (l := l) (k := k) h
    simpa using this
end
section
variable {P : Program} {fn : Func} {f : FuncId} {c : Code} {args : Array Value} {R : Ending → World → Prop} {n : Nat} {w : World}
theorem startM (hf : P.funcs[f]? = some fn) (hb : fn.body = some c) (hn : fn.ntmps = n) (hle : args.size ≤ n) (h : ∀ a : Act, MB n [] (tabA args.toList 0) a → c.wp P (bodyPost P fn R) a w) : Calls P f args w R :=
  calls_start hf hb hn hle fun a f0 ha => h a ⟨f0, bas_tabA fun j v hj => by
    have := nth_get hj
    rw [Nat.zero_add]
    exact ha j v (by simpa using this)⟩
theorem startM_d (hf : P.funcs[f]? = some fn) (hb : fn.body = some c) (hn : fn.ntmps = n) (hle : args.size ≤ n) (h : ∀ a : Act, MB n [] (tabA args.toList 0) a → c.wp P (bodyPostD P fn R) a w) : Calls P f args w R :=
  calls_start_d hf hb hn hle fun a f0 ha => h a ⟨f0, bas_tabA fun j v hj => by
    have := nth_get hj
    rw [Nat.zero_add]
    exact ha j v (by simpa using this)⟩
end
section
variable {P : Program} {ops : Array Oper} {Q : Exit → Act → World → Prop} {i : Nat} {a : Act} {w w' : World} {v : Value} {d n j e : Nat} {ds : List Deferred} {op : Op} {ty : TypeId} {pos : String} {af : Array Edge} {o : Oper} {b : Bool} {L : List (Nat × Value)}
theorem ov (ho : ops[i]? = some ⟨some d, op, ty, pos, af, none⟩) (hc : ck n L d = true) (M : MB n ds L a) (hr : (execOp a.eval ⟨some d, op, ty, pos, af, none⟩).run P w = .ok (.value v) w')
    (k : ∀ a', MB n ds ((d, v) :: L) a' → wpX P ops Q (i + 1) a' w') : wpX P ops Q i a w :=
  x_next (size_of_get ho) (o_val ho (wanted_plain rfl) rfl M.f (lt (ck_of hc).1) hr fun a' p => k a' (M.put p hc))
theorem ow (ho : ops[i]? = some o) (hw : Region.wanted o (yielded ops a.tmps) = true) (hd : o.dst = some d) (hc : ck n L d = true) (M : MB n ds L a) (hr : (execOp a.eval o).run P w = .ok (.value v) w')
    (k : ∀ a', MB n ds ((d, v) :: L) a' → wpX P ops Q (i + 1) a' w') : wpX P ops Q i a w :=
  x_next (size_of_get ho) (o_val ho hw hd M.f (lt (ck_of hc).1) hr fun a' p => k a' (M.put p hc))
theorem oo (ho : ops[i]? = some o) (hw : Region.wanted o (yielded ops a.tmps) = false) (hd : o.dst = some d) (hc : ck n L d = true) (M : MB n ds L a)
    (k : ∀ a', MB n ds ((d, undef) :: L) a' → wpX P ops Q (i + 1) a' w) : wpX P ops Q i a w :=
  x_next (size_of_get ho) (o_off ho hw hd M.f (lt (ck_of hc).1) fun a' p => k a' (M.put p hc))
theorem oc {f : FuncId} {args : Array Value} {R : Ending → World → Prop} (ho : ops[i]? = some o) (hw : Region.wanted o (yielded ops a.tmps) = true) (hd : o.dst = some d) (hc : ck n L d = true) (M : MB n ds L a)
    (hr : (execOp a.eval o).run P w = .ok (.enter f args) w) (hC : Calls P f args w R) (k : ∀ e w', R e w' → ∃ v, e = .returned v ∧ ∀ a', MB n ds ((d, v) :: L) a' → wpX P ops Q (i + 1) a' w') : wpX P ops Q i a w :=
  x_next (size_of_get ho) (o_call ho hw hd M.f (lt (ck_of hc).1) hr hC fun e w' h => by
    obtain ⟨v, he, hk⟩ := k e w' h
    exact ⟨v, he, fun a' p => hk a' (M.put p hc)⟩)
theorem dv {K : Act → World → Prop} (ho : ops[i]? = some ⟨some d, op, ty, pos, af, none⟩) (hc : ck n L d = true) (M : MB n ds L a) (hr : (execOp a.eval ⟨some d, op, ty, pos, af, none⟩).run P w = .ok (.value v) w')
    (k : ∀ a', Put a a' d v → K a' w') : opS P ops Q i K a w := o_val ho (wanted_plain rfl) rfl M.f (lt (ck_of hc).1) hr k
theorem dw {K : Act → World → Prop} (ho : ops[i]? = some o) (hw : Region.wanted o (yielded ops a.tmps) = true) (hd : o.dst = some d) (hc : ck n L d = true) (M : MB n ds L a) (hr : (execOp a.eval o).run P w = .ok (.value v) w')
    (k : ∀ a', Put a a' d v → K a' w') : opS P ops Q i K a w := o_val ho hw hd M.f (lt (ck_of hc).1) hr k
theorem dc {K : Act → World → Prop} {f : FuncId} {args : Array Value} {R : Ending → World → Prop} (ho : ops[i]? = some o) (hw : Region.wanted o (yielded ops a.tmps) = true) (hd : o.dst = some d) (hc : ck n L d = true) (M : MB n ds L a)
    (hr : (execOp a.eval o).run P w = .ok (.enter f args) w) (hC : Calls P f args w R) (k : ∀ e w', R e w' → ∃ v, e = .returned v ∧ ∀ a', Put a a' d v → K a' w') : opS P ops Q i K a w :=
  o_call ho hw hd M.f (lt (ck_of hc).1) hr hC k
end
def gdst (ops : Array Oper) (g : Nat) : Option Nat := match ops[g]? with | some o => o.dst | none => none
section
variable {P : Program} {ops : Array Oper} {Q : Exit → Act → World → Prop} {w : World} {n : Nat} {ds : List Deferred}
end
def AllTo (p : Nat → Prop) : Nat → Nat → Prop
  | 0, _ => True
  | n + 1, i => p i ∧ AllTo p n (i + 1)
theorem AllTo.get {p : Nat → Prop} : ∀ {n i : Nat}, AllTo p n i → ∀ j, i ≤ j → j < i + n → p j
  | 0, i, _, j, h1, h2 => by omega
  | n + 1, i, h, j, h1, h2 => by
    by_cases e : j = i
    · subst e; exact h.1
    · exact h.2.get j (by omega) (by omega)
def bit (m : List Nat) (i j : Nat) : Bool := Nat.testBit (m.getD i 0) j
def unm (n : Nat) (m : List Nat) : List (List Nat) := m.map fun x => (List.range n).filter fun j => Nat.testBit x j
theorem bit_unm {n : Nat} {m : List Nat} {i j : Nat} (hj : j < n) (h : bit m i j = true) : j ∈ (unm n m).getD i [] := by
  unfold bit at h
  unfold unm
  rw [List.getD_eq_getElem?_getD, List.getElem?_map]
  rw [List.getD_eq_getElem?_getD] at h
  cases hm : m[i]? with
  | none => rw [hm] at h; simp at h
  | some x =>
    rw [hm] at h
    simp only [Option.getD_some] at h
    simp only [Option.map_some, Option.getD_some, List.mem_filter, List.mem_range]
    exact ⟨hj, h⟩
def below (n : Nat) (m : List Nat) : Bool := m.all fun x => Nat.ble (x + 1) (2 ^ n)
theorem below_lt {n : Nat} {m : List Nat} (hb : below n m = true) {i j : Nat} (h : bit m i j = true) : j < n := by
  unfold bit at h
  rw [List.getD_eq_getElem?_getD] at h
  cases hm : m[i]? with
  | none => rw [hm] at h; simp at h
  | some x =>
    rw [hm] at h
    simp only [Option.getD_some] at h
    have hx := List.all_eq_true.1 hb x (List.mem_of_getElem? hm)
    have hx2 : x < 2 ^ n := Nat.le_of_ble_eq_true hx
    apply Decidable.byContradiction
    intro hn
    have : Nat.testBit x j = false := Nat.testBit_lt_two_pow (Nat.lt_of_lt_of_le hx2 (Nat.pow_le_pow_right (by omega) (by omega)))
    rw [this] at h; cases h
section
variable {P : Program} {ops : Array Oper} {Q : Exit → Act → World → Prop} {wS : World} {oS : Own} {aS : Act} {n : Nat} {ds : List Deferred} {L : List (Nat × Value)}
theorem draw_m {id : Nat} (hm : P.follows .mixedOrders = true) (m : List Nat) (hc : chk ops (unm ops.size m) = true) (hb : below ops.size m = true) (M : MB n ds L aS) (Inv : (Nat → Bool) → Act → World → Prop)
    (h0 : Inv (fun _ => false) aS wS.drew)
    (hstep : AllTo (fun i => ∀ (U : Nat → Bool) (a : Act) (w : World), MB n ds L a → U i = false → (∀ j, bit m i j = true → U j = true) → (∀ j, bit m j i = true → U j = false) → Inv U a w →
      opS P ops Q i (fun a' w' => MB n ds L a' ∧ Inv (add U i) a' w') a w) ops.size 0)
    (hend : ∀ (U : Nat → Bool) (a : Act) (w : World), MB n ds L a → (∀ i, Nat.ble (i + 1) ops.size = true → U i = true) → Inv U a w → Q .normal a w) :
    (Code.region id ops true).wp P Q aS wS := by
  refine c_draw hm (unm ops.size m) hc (fun U a w => MB n ds L a ∧ Inv U a w) ⟨M, h0⟩ ?_ ?_
  · rintro U i a w hi hU hA hD ⟨M', hI⟩
    exact AllTo.get hstep i (Nat.zero_le _) (by omega) U a w M' hU (fun j hj => hA j (bit_unm (below_lt hb hj) hj)) (fun j hj => hD j (bit_unm hi hj)) hI
  · rintro U a w hA ⟨M', hI⟩
    exact hend U a w M' (fun i hi => hA i (Nat.le_of_ble_eq_true hi)) hI
def QT (T : List (Nat × Value)) (x : Nat) (a : Act) : Prop := ∀ j d v, nth T j = some (d, v) → Nat.testBit x j = true → at_ a d = v
theorem QT.t {T : List (Nat × Value)} {x : Nat} {a : Act} (G : QT T x a) (j : Nat) {d : Nat} {v : Value} (h : nth T j = some (d, v)) (hx : Nat.testBit x j = true) : at_ a d = v := G j d v h hx
theorem QT.e {T : List (Nat × Value)} {x : Nat} {a : Act} (G : QT T x a) (j : Nat) {d : Nat} {v : Value} (h : nth T j = some (d, v)) (hx : Nat.testBit x j = true) : a.eval (.tmp d) = v := G j d v h hx
def qsep (L : List (Nat × Value)) : List (Nat × Value) → List Nat → Bool
  | [], _ => true
  | x :: T, l => bif mem l x.1 then false else bif inL L x.1 then false else qsep L T (x.1 :: l)
theorem qsep_off {B : List (Nat × Value)} : ∀ {T : List (Nat × Value)} {l : List Nat}, qsep B T l = true → ∀ {i : Nat} {d : Nat} {v : Value}, nth T i = some (d, v) → basOff B d = true ∧ mem l d = false
  | [], _, _, i, d, v, h => by simp [nth] at h
  | x :: T, l, hq, i, d, v, h => by
    simp only [qsep] at hq
    cases h1 : mem l x.1
    case true => rw [h1] at hq; cases hq
    rw [h1] at hq
    cases h2 : inL B x.1
    case true => rw [h2] at hq; cases hq
    rw [h2] at hq
    simp only [cond_false] at hq
    cases i with
    | zero =>
      simp only [nth, Option.some.injEq] at h
      subst h
      exact ⟨inL_off h2, h1⟩
    | succ i =>
      have := qsep_off hq (i := i) h
      refine ⟨this.1, ?_⟩
      have h3 := this.2
      simp only [mem] at h3
      cases hb : Nat.beq x.1 d
      · rw [hb] at h3; exact h3
      · rw [hb] at h3; cases h3
theorem qsep_ne {B : List (Nat × Value)} : ∀ {T : List (Nat × Value)} {l : List Nat}, qsep B T l = true → ∀ {i j : Nat} {d e : Nat} {v u : Value}, nth T i = some (d, v) → nth T j = some (e, u) → i ≠ j → d ≠ e
  | [], _, _, i, j, d, e, v, u, h, _, _ => by simp [nth] at h
  | x :: T, l, hq, i, j, d, e, v, u, h, k, hne => by
    simp only [qsep] at hq
    cases h1 : mem l x.1
    case true => rw [h1] at hq; cases hq
    rw [h1] at hq
    cases h2 : inL B x.1
    case true => rw [h2] at hq; cases hq
    rw [h2] at hq
    simp only [cond_false] at hq
    have far : ∀ {m : Nat} {d : Nat} {v : Value}, nth T m = some (d, v) → x.1 ≠ d := fun hm => by
      have := (qsep_off hq hm).2
      simp only [mem] at this
      intro e
      rw [e, Nat.beq_refl] at this
      cases this
    cases i with
    | zero =>
      simp only [nth, Option.some.injEq] at h
      subst h
      cases j with
      | zero => exact absurd rfl hne
      | succ j => exact far (m := j) k
    | succ i =>
      cases j with
      | zero =>
        simp only [nth, Option.some.injEq] at k
        subst k
        exact fun e => far (m := i) h e.symm
      | succ j => exact qsep_ne hq (i := i) (j := j) h k (by omega)
theorem nth_lt {α : Type} {x : α} : ∀ {l : List α} {k : Nat}, nth l k = some x → k < l.length := fun h => (List.getElem?_eq_some_iff.1 (nth_get h)).1
theorem bas_all {a : Act} {L : List (Nat × Value)} (hb : Bas L a) : ∀ {T : List (Nat × Value)}, (∀ i d v, nth T i = some (d, v) → at_ a d = v) → Bas (T ++ L) a
  | [], _ => hb
  | x :: T, h => Bas.cons (h 0 x.1 x.2 rfl) (bas_all hb (T := T) fun i d v hi => h (i + 1) d v hi)
def QK (T : List (Nat × Value)) (i : Nat) (a : Act) (w : World) (o : Own) (a' : Act) (w' : World) : Prop := ∃ (o' : Own) (d : Nat) (v : Value), nth T i = some (d, v) ∧ Put a a' d v ∧ Tr No w o w' o'
theorem draw_q {id : Nat} (hm : P.follows .mixedOrders = true) (m : List Nat) (hc : chk ops (unm ops.size m) = true) (hb : below ops.size m = true) (M : MB n ds L aS) (T : List (Nat × Value)) (hn : Nat.beq T.length ops.size = true) (hT : qsep L T [] = true) (oS : Own)
    (hstep : AllTo (fun i => ∀ (a : Act) (w : World) (o : Own), MB n ds L a → QT T (m.getD i 0) a → Tr No wS oS w o → opS P ops Q i (QK T i a w o) a w) ops.size 0)
    (hend : ∀ (a : Act) (w : World) (o : Own), MB n ds (T ++ L) a → Tr No wS oS w o → Q .normal a w) :
    (Code.region id ops true).wp P Q aS wS := by
  have hlen : T.length = ops.size := Nat.eq_of_beq_eq_true hn
  refine c_draw hm (unm ops.size m) hc (fun U a w => ∃ o : Own, MB n ds L a ∧ (∀ (i d : Nat) (v : Value), nth T i = some (d, v) → U i = true → at_ a d = v) ∧ Tr No wS oS w o) ?_ ?_ ?_
  · exact ⟨oS, M, fun (i d : Nat) (v : Value) _ (h : false = true) => Bool.noConfusion h, tr_drew _ _⟩
  · rintro U i a w hi hU hA hD ⟨o, M', g, t⟩
    intro rest bb kk cs hK
    refine AllTo.get hstep i (Nat.zero_le _) (by omega) a w o M' (fun j d v hj hx => g j d v hj (hA j (bit_unm (below_lt hb (i := i) hx) hx))) t rest bb kk cs (fun a' w' ⟨o', d, v, hd, p, t'⟩ => hK a' w' ⟨o', ⟨p.fr M'.f, ?_⟩, ?_, t.stepNo t'⟩)
    · exact Bas.step M'.b p (qsep_off hT hd).1
    · intro j e u hj hU'
      by_cases hij : j = i
      · subst hij
        rw [hd] at hj
        simp only [Option.some.injEq, Prod.mk.injEq] at hj
        obtain ⟨rfl, rfl⟩ := hj
        exact p.new
      · rw [add_other hij] at hU'
        rw [p.old e (qsep_ne hT hj hd hij)]
        exact g j e u hj hU'
  · rintro U a w hA ⟨o, M', g, t⟩
    exact hend a w o ⟨M'.f, bas_all M'.b fun i d v hi => g i d v hi (hA i (by rw [← hlen]; exact nth_lt hi))⟩ t
variable {i d : Nat} {a : Act} {w : World} {o : Own} {v : Value} {op : Op} {ty : TypeId} {pos : String} {af : Array Edge} {x : Oper} {T : List (Nat × Value)}
theorem qv (ho : ops[i]? = some ⟨some d, op, ty, pos, af, none⟩) (hc : ck n L d = true) (M : MB n ds L a) (hT : nth T i = some (d, v)) (hr : (execOp a.eval ⟨some d, op, ty, pos, af, none⟩).run P w = .ok (.value v) w) : opS P ops Q i (QK T i a w o) a w :=
  dv ho hc M hr fun a' p => ⟨o, d, v, hT, p, Tr.refl _ _ _⟩
theorem qw (ho : ops[i]? = some x) (hw : Region.wanted x (yielded ops a.tmps) = true) (hd : x.dst = some d) (hc : ck n L d = true) (M : MB n ds L a) (hT : nth T i = some (d, v)) (hr : (execOp a.eval x).run P w = .ok (.value v) w) : opS P ops Q i (QK T i a w o) a w :=
  dw ho hw hd hc M hr fun a' p => ⟨o, d, v, hT, p, Tr.refl _ _ _⟩
end
section
variable {T : List (Nat × Nat × Value)} {U : Nat → Bool} {a a' : Act} {i d j : Nat} {v : Value} {m : List Nat} {C : Prop}
theorem ab (h0 : U j = false) (hn : Nat.beq j i = false) (h : add U i j = true) : C := by
  rw [add_other (ne hn), h0] at h; cases h
theorem ac (h0 : U j = true) (hn : Nat.beq j i = false) (h : add U i j = false) : C := by
  rw [add_other (ne hn), h0] at h; cases h
def waitN (m : List Nat) (i : Nat) : List (Nat × Nat × Value) → Bool
  | [] => true
  | (j, _, _) :: T => bif bit m j i then (bif Nat.beq j i then false else waitN m i T) else false
def waitS (m : List Nat) (i : Nat) : List (Nat × Nat × Value) → Nat → Bool
  | [], _ => true
  | (j, _, _) :: T, q => match q with
    | 0 => waitN m i T
    | q + 1 => bif bit m j i then (bif Nat.beq j i then false else waitS m i T q) else false
theorem Tab.wt (hD : ∀ j, bit m j i = true → U j = false) : ∀ {T : List (Nat × Nat × Value)}, waitN m i T = true → Tab T (add U i) a
  | [], _ => Tab.nil
  | x :: T, hs => by
    simp only [waitN] at hs
    cases h1 : bit m x.1 i
    · rw [h1] at hs; cases hs
    · cases h2 : Nat.beq x.1 i
      · rw [h1, h2] at hs
        refine Tab.cons (fun hU => ?_) (Tab.wt hD hs)
        rw [add_other (ne h2), hD _ h1] at hU
        cases hU
      · rw [h1, h2] at hs; cases hs
theorem Tab.mk (hD : ∀ j, bit m j i = true → U j = false) (p : Put a a' d v) : ∀ {T : List (Nat × Nat × Value)} (q : Nat), T[q]? = some (i, d, v) → waitS m i T q = true → Tab T (add U i) a'
  | [], _, _, _ => Tab.nil
  | x :: T, 0, hq, hs => by
    have hx : x = (i, d, v) := by simpa using hq
    subst hx
    exact Tab.cons (fun _ => p.new) (Tab.wt hD hs)
  | x :: T, q + 1, hq, hs => by
    simp only [waitS] at hs
    cases h1 : bit m x.1 i
    · rw [h1] at hs; cases hs
    · cases h2 : Nat.beq x.1 i
      · rw [h1, h2] at hs
        refine Tab.cons (fun hU => ?_) (Tab.mk hD p q (by simpa using hq) hs)
        rw [add_other (ne h2), hD _ h1] at hU
        cases hU
      · rw [h1, h2] at hs; cases hs
end
theorem Box.sub {w : World} {o : Own} {i g t : Nat} {all cs : Array Value} (h : Box w o i g t all) (n : Nat) (hc : (all.toList.drop n).take cs.size = cs.toList) : ∀ (j : Nat) (u : Value), cs[j]? = some u → w.cell? ⟨g, n + j, none⟩ = some u := by
  intro j u hu
  refine h.cell ?_
  have hj : j < cs.size := (Array.getElem?_eq_some_iff.1 hu).1
  have h1 : cs.toList[j]? = some u := by simpa using hu
  rw [← hc, List.getElem?_take, if_pos hj, List.getElem?_drop] at h1
  simpa using h1
end Go.Gc
namespace Go.Gc
open Go Go.RowKit
structure Env (P : Program) where
  tt : List (Nat × TypeDesc)
  fo : List (Nat × Nat × Nat)
  ht : ∀ x ∈ tt, P.underlying x.1 = some x.2
  hf : ∀ x ∈ fo, ∀ (ad : Addr) (w : World), (Instr.fieldAt x.1 (.pointer (some ad)) x.2.1).run P w = .ok (.pointer (some (ad.add x.2.2))) w
def AllT (P : Program) : List (Nat × TypeDesc) → Prop
  | [] => True
  | x :: l => P.underlying x.1 = some x.2 ∧ AllT P l
theorem AllT.mem {P : Program} : ∀ {l : List (Nat × TypeDesc)}, AllT P l → ∀ x ∈ l, P.underlying x.1 = some x.2
  | [], _, x, hx => by simp at hx
  | y :: l, h, x, hx => by
    rcases List.mem_cons.1 hx with rfl | hx
    · exact h.1
    · exact h.2.mem x hx
def AllF (P : Program) : List (Nat × Nat × Nat) → Prop
  | [] => True
  | x :: l => (∀ (ad : Addr) (w : World), (Instr.fieldAt x.1 (.pointer (some ad)) x.2.1).run P w = .ok (.pointer (some (ad.add x.2.2))) w) ∧ AllF P l
theorem AllF.mem {P : Program} : ∀ {l : List (Nat × Nat × Nat)}, AllF P l → ∀ x ∈ l, ∀ (ad : Addr) (w : World), (Instr.fieldAt x.1 (.pointer (some ad)) x.2.1).run P w = .ok (.pointer (some (ad.add x.2.2))) w
  | [], _, x, hx => by simp at hx
  | y :: l, h, x, hx => by
    rcases List.mem_cons.1 hx with rfl | hx
    · exact h.1
    · exact h.2.mem x hx
theorem putb {a a' : Act} {d : Nat} {b c : Bool} (p : Put a a' d (.bool b)) (h : b = c) : Put a a' d (.bool c) := by subst h; exact p
def tyOf : List (Nat × TypeDesc) → Nat → Option TypeDesc
  | [], _ => none
  | x :: l, t => bif Nat.beq x.1 t then some x.2 else tyOf l t
def offOf : List (Nat × Nat × Nat) → Nat → Nat → Option Nat
  | [], _, _ => none
  | x :: l, t, f => bif Nat.beq x.1 t then (bif Nat.beq x.2.1 f then some x.2.2 else offOf l t f) else offOf l t f
theorem tyOf_mem : ∀ {l : List (Nat × TypeDesc)} {t : Nat} {d : TypeDesc}, tyOf l t = some d → (t, d) ∈ l
  | [], _, _, h => by simp [tyOf] at h
  | x :: l, t, d, h => by
    simp only [tyOf] at h
    cases hb : Nat.beq x.1 t
    · rw [hb] at h; exact List.mem_cons_of_mem _ (tyOf_mem h)
    · rw [hb] at h
      have e := Nat.eq_of_beq_eq_true hb
      obtain ⟨x1, x2⟩ := x
      simp only [cond_true, Option.some.injEq] at h e
      subst h; subst e
      exact List.mem_cons_self
theorem offOf_mem : ∀ {l : List (Nat × Nat × Nat)} {t f k : Nat}, offOf l t f = some k → (t, f, k) ∈ l
  | [], _, _, _, h => by simp [offOf] at h
  | x :: l, t, f, k, h => by
    simp only [offOf] at h
    cases hb : Nat.beq x.1 t
    · rw [hb] at h; exact List.mem_cons_of_mem _ (offOf_mem h)
    · cases hc : Nat.beq x.2.1 f
      · rw [hb, hc] at h; exact List.mem_cons_of_mem _ (offOf_mem h)
      · rw [hb, hc] at h
        have e := Nat.eq_of_beq_eq_true hb
        have e2 := Nat.eq_of_beq_eq_true hc
        obtain ⟨x1, x2, x3⟩ := x
        simp only [cond_true, Option.some.injEq] at h e e2
        subst h; subst e; subst e2
        exact List.mem_cons_self
def lkp : List (Nat × Value) → Nat → Option Value
  | [], _ => none
  | (d, v) :: L, t => bif Nat.beq d t then some v else lkp L t
theorem lkp_mem : ∀ {L : List (Nat × Value)} {t : Nat} {v : Value}, lkp L t = some v → (t, v) ∈ L
  | [], _, _, h => by simp [lkp] at h
  | (d, u) :: L, t, v, h => by
    simp only [lkp] at h
    cases hb : Nat.beq d t
    · rw [hb] at h; exact List.mem_cons_of_mem _ (lkp_mem h)
    · rw [hb] at h
      have e := Nat.eq_of_beq_eq_true hb
      simp only [cond_true, Option.some.injEq] at h
      subst h; subst e
      exact List.mem_cons_self
def evO (L : Nat → Option Value) : Operand → Option Value
  | .tmp t => L t
  | .const v => some v
  | _ => none
def Lok (L : Nat → Option Value) (a : Act) : Prop := ∀ t v, L t = some v → at_ a t = v
theorem Bas.lok {L : List (Nat × Value)} {a : Act} (hb : Bas L a) : Lok (lkp L) a := fun t v h => hb (t, v) (lkp_mem h)
theorem evO_of {L : Nat → Option Value} {a : Act} (hb : Lok L a) : ∀ {x : Operand} {v : Value}, evO L x = some v → a.eval x = v
  | .tmp t, v, h => hb t v h
  | .const u, v, h => by
    simp only [evO, Option.some.injEq] at h
    subst h; rfl
  | .func _, v, h => by simp [evO] at h
  | .global _, v, h => by simp [evO] at h
section
variable {P : Program} (E : Env P) (L : Nat → Option Value)
def isInt (t : Nat) : Option IntKind := match tyOf E.tt t with | some (.int k) => some k | _ => none
def isLen (t : Nat) : Nat := match tyOf E.tt t with | some (.slice _) => 1 | some .string => 2 | _ => 0
def isPtr (t : Nat) : Bool := match tyOf E.tt t with | some (.pointer _) => true | _ => false
def has (t : Nat) : Bool := match tyOf E.tt t with | some _ => true | none => false
def keq (j k : IntKind) : Bool := decide (j = k)
def binI (b : BinOp) (k : IntKind) (m n : Int) : Option Value :=
  match b with
  | .add => some (.int k (k.wrap (m + n)))
  | .sub => some (.int k (k.wrap (m - n)))
  | .mul => some (.int k (k.wrap (m * n)))
  | .eql => some (.bool (m == n))
  | .neq => some (.bool (m != n))
  | .lss => some (.bool (decide (m < n)))
  | .leq => some (.bool (decide (m ≤ n)))
  | .gtr => some (.bool (decide (n < m)))
  | .geq => some (.bool (decide (n ≤ m)))
  | _ => none
def ptrV (b : BinOp) (T : Nat) (p : Option Addr) (y : Operand) : Option Value :=
  match y with
  | .const (.pointer none) => bif isPtr E T then (match b with | .eql => some (.bool p.isNone) | .neq => some (.bool (!p.isNone)) | _ => none) else none
  | _ => none
def binV (b : BinOp) (T : Nat) (x y : Operand) : Option Value :=
  match evO L x with
  | some (.int j m) => (match evO L y with
    | some (.int k n) => bif keq j k then binI b j m n else none
    | _ => none)
  | some (.pointer p) => ptrV E b T p y
  | _ => none
def convV (S D : Nat) (x : Operand) : Option Value :=
  match evO L x with
  | some (.int _ m) => bif has E S then (match isInt E D with | some k => some (.int k (k.wrap m)) | none => none) else none
  | _ => none
def lenV (c : Call) : Option Value :=
  match c.callee, c.args.toList, c.argTypes.toList with
  | .builtin .len, [x], [T] => (match evO L x with
    | some (.slice _ l _) => bif Nat.beq (isLen E T) 1 then some (.int .i64 (l : Int)) else none
    | some (.string s) => bif Nat.beq (isLen E T) 2 then some (.int .i64 (s.size : Int)) else none
    | _ => none)
  | _, _, _ => none
def fldV (S f : Nat) (x : Operand) : Option Value :=
  match evO L x with
  | some (.pointer (some ⟨g, o, none⟩)) => (match offOf E.fo S f with | some k => some (.pointer (some ⟨g, o + k, none⟩)) | none => none)
  | _ => none
def pureV : Op → Option Value
  | .move x => evO L x
  | .assign x => evO L x
  | .nilCheck x => match evO L x with
    | some (.pointer (some ad)) => some (.pointer (some ad))
    | _ => none
  | .fieldAddr S x f => fldV E L S f x
  | .binOp b T x y _ => binV E L b T x y
  | .unOp u _ x => match u with
    | .not => (match evO L x with
      | some (.bool b) => some (.bool (!b))
      | _ => none)
    | _ => none
  | .pick c x y => match evO L c with
    | some (.bool true) => evO L x
    | some (.bool false) => evO L y
    | _ => none
  | .extract x i => match evO L x with
    | some (.tuple vs) => vs[i]?
    | _ => none
  | .convert S D x => convV E L S D x
  | .call c => lenV E L c
  | _ => none
end
section
variable {P : Program} {E : Env P} {L : Nat → Option Value} {a : Act} {w : World} {dst : Option Tmp} {ty : TypeId} {pos : String} {af : Array Edge} {gd : Option (Nat × Bool)}
theorem keq_of {j k : IntKind} (h : keq j k = true) : j = k := of_decide_eq_true h
theorem isInt_of {t : Nat} {k : IntKind} (h : isInt E t = some k) : P.underlying t = some (.int k) := by
  unfold isInt at h
  split at h
  · rename_i q hq
    simp only [Option.some.injEq] at h
    subst h
    exact E.ht _ (tyOf_mem hq)
  · cases h
theorem has_of {t : Nat} (h : has E t = true) : (P.underlying t).isSome = true := by
  unfold has at h
  split at h
  · rename_i q hq
    have := E.ht _ (tyOf_mem hq)
    simp only at this
    rw [this]; rfl
  · cases h
theorem isPtr_of {t : Nat} (h : isPtr E t = true) : ∃ e, P.underlying t = some (.pointer e) := by
  unfold isPtr at h
  split at h
  · rename_i q hq
    exact ⟨_, E.ht _ (tyOf_mem hq)⟩
  · cases h
theorem isLen1_of {t : Nat} (h : isLen E t = 1) : ∃ e, P.underlying t = some (.slice e) := by
  unfold isLen at h
  split at h
  · rename_i q hq
    exact ⟨_, E.ht _ (tyOf_mem hq)⟩
  · cases h
  · cases h
theorem isLen2_of {t : Nat} (h : isLen E t = 2) : P.underlying t = some .string := by
  unfold isLen at h
  split at h
  · cases h
  · rename_i hq
    exact E.ht _ (tyOf_mem hq)
  · cases h
theorem binI_run {b : BinOp} {k : IntKind} {m n : Int} {v : Value} {T T' : TypeId} {x y : Operand} (h : binI b k m n = some v) (hx : a.eval x = .int k m) (hy : a.eval y = .int k n) : (execOp a.eval ⟨dst, .binOp b T x y T', ty, pos, af, gd⟩).run P w = .ok (.value v) w := by
  cases b <;> simp only [binI, Option.some.injEq] at h <;> first | (cases h; done) | (subst h; first | exact x_add hx hy | exact x_sub hx hy | exact x_mul hx hy | exact x_eql hx hy | exact x_neq hx hy | exact x_lss hx hy | exact x_leq hx hy | exact x_gtr hx hy | exact x_geq hx hy)
theorem ptrV_run {b : BinOp} {T : Nat} {T' : TypeId} {p : Option Addr} {x y : Operand} {v : Value} (h : ptrV E b T p y = some v) (hx : a.eval x = .pointer p) : (execOp a.eval ⟨dst, .binOp b T x y T', ty, pos, af, gd⟩).run P w = .ok (.value v) w := by
  unfold ptrV at h
  split at h
  · cases hp : isPtr E T
    · rw [hp] at h; cases h
    · rw [hp] at h
      obtain ⟨e, he⟩ := isPtr_of hp
      simp only [cond_true] at h
      split at h
      · simp only [Option.some.injEq] at h
        subst h
        exact x_eqlpn he hx
      · simp only [Option.some.injEq] at h
        subst h
        exact x_neqpn he hx
      · cases h
  · cases h
theorem binV_run (hb : Lok L a) {b : BinOp} {T : Nat} {T' : TypeId} {x y : Operand} {v : Value} (h : binV E L b T x y = some v) : (execOp a.eval ⟨dst, .binOp b T x y T', ty, pos, af, gd⟩).run P w = .ok (.value v) w := by
  unfold binV at h
  split at h
  · rename_i j m hx
    split at h
    · rename_i k n hy
      cases hk : keq j k
      · rw [hk] at h; cases h
      · rw [hk] at h
        have e := keq_of hk
        subst e
        exact binI_run h (evO_of hb hx) (evO_of hb hy)
    · cases h
  · rename_i p hx
    exact ptrV_run h (evO_of hb hx)
  · cases h
theorem convV_run (hb : Lok L a) {S D : Nat} {x : Operand} {v : Value} (h : convV E L S D x = some v) : (execOp a.eval ⟨dst, .convert S D x, ty, pos, af, gd⟩).run P w = .ok (.value v) w := by
  unfold convV at h
  split at h
  · rename_i j m he
    cases hs : has E S
    · rw [hs] at h; cases h
    · rw [hs] at h
      simp only [cond_true] at h
      split at h
      · rename_i k hk
        simp only [Option.some.injEq] at h
        subst h
        exact x_conv (has_of hs) (isInt_of hk) (evO_of hb he)
      · cases h
  · cases h
theorem lenV_run (hb : Lok L a) {c : Call} {v : Value} (h : lenV E L c = some v) : (execOp a.eval ⟨dst, .call c, ty, pos, af, gd⟩).run P w = .ok (.value v) w := by
  obtain ⟨callee, ⟨args⟩, ⟨ats⟩⟩ := c
  unfold lenV at h
  simp only at h
  split at h
  · rename_i x T
    split at h
    · rename_i A l c he
      cases hl : Nat.beq (isLen E T) 1
      · rw [hl] at h; cases h
      · rw [hl] at h
        obtain ⟨e, hT⟩ := isLen1_of (Nat.eq_of_beq_eq_true hl)
        simp only [cond_true, Option.some.injEq] at h
        subst h
        exact x_lenSlice hT (evO_of hb he)
    · rename_i s he
      cases hl : Nat.beq (isLen E T) 2
      · rw [hl] at h; cases h
      · rw [hl] at h
        simp only [cond_true, Option.some.injEq] at h
        subst h
        exact x_lenStr (isLen2_of (Nat.eq_of_beq_eq_true hl)) (evO_of hb he)
    · cases h
  · cases h
theorem fldV_run (hb : Lok L a) {S f : Nat} {x : Operand} {v : Value} (h : fldV E L S f x = some v) : (execOp a.eval ⟨dst, .fieldAddr S x f, ty, pos, af, gd⟩).run P w = .ok (.value v) w := by
  unfold fldV at h
  split at h
  · rename_i g o he
    split at h
    · rename_i k hk
      simp only [Option.some.injEq] at h
      subst h
      exact x_fieldAddr (E.hf _ (offOf_mem hk)) (evO_of hb he) rfl
    · cases h
  · cases h
theorem pureV_run (hb : Lok L a) : ∀ {op : Op} {v : Value}, pureV E L op = some v → (execOp a.eval ⟨dst, op, ty, pos, af, gd⟩).run P w = .ok (.value v) w := by
  intro op v h
  unfold pureV at h
  split at h
  · exact x_move (evO_of hb h)
  · exact x_assign (evO_of hb h)
  · split at h
    · rename_i ad he
      simp only [Option.some.injEq] at h
      subst h
      exact x_nilCheck (evO_of hb he)
    · cases h
  · exact fldV_run hb h
  · exact binV_run hb h
  · split at h
    · split at h
      · rename_i b he
        simp only [Option.some.injEq] at h
        subst h
        exact x_not (evO_of hb he)
      · cases h
    · cases h
  · split at h
    · rename_i he
      exact x_pick (b := true) (evO_of hb he) (evO_of hb h) rfl
    · rename_i he
      exact x_pick (b := false) (evO_of hb he) rfl (evO_of hb h)
    · cases h
  · split at h
    · rename_i vs he
      exact x_extract (evO_of hb he) h
    · cases h
  · exact convV_run hb h
  · exact lenV_run hb h
  · cases h
end
section
variable {P : Program} (E : Env P) (ops : Array Oper) (n : Nat)
def wantO (L : Nat → Option Value) (o : Oper) : Option Bool :=
  match o.guard with
  | none => some true
  | some (g, b) =>
    match gdst ops g with
    | none => none
    | some e =>
      match L e with
      | some (.bool true) => some b
      | some (.bool false) => some (!b)
      | some (.tuple vs) => bif Nat.beq vs.size 0 then some false else none
      | _ => none
def pureN : Nat → Nat → List (Nat × Value) → Option (List (Nat × Value))
  | 0, _, L => some L
  | m + 1, i, L =>
    match ops[i]? with
    | none => none
    | some o =>
      match o.dst with
      | none => none
      | some d => bif ck n L d then
          (match wantO ops (lkp L) o with
          | some true => (match pureV E (lkp L) o.op with | some v => pureN m (i + 1) ((d, v) :: L) | none => none)
          | some false => pureN m (i + 1) ((d, undef) :: L)
          | none => none)
        else none
end
section
variable {P : Program} {E : Env P} {ops : Array Oper} {n : Nat} {Q : Exit → Act → World → Prop} {w : World} {ds : List Deferred}
theorem wantO_of {L : Nat → Option Value} {a : Act} {o : Oper} {b : Bool} (hb : Lok L a) (h : wantO ops L o = some b) : Region.wanted o (yielded ops a.tmps) = b := by
  unfold wantO at h
  split at h
  · rename_i hg
    simp only [Option.some.injEq] at h
    subst h
    exact wanted_plain hg
  · rename_i g c hg
    split at h
    · cases h
    · rename_i e he
      have hgd : (ops[g]?).bind (·.dst) = some e := by
        unfold gdst at he
        cases hh : ops[g]? with
        | none => rw [hh] at he; cases he
        | some o' => rw [hh] at he; simpa using he
      split at h
      · rename_i hl
        have ha := hb _ _ hl
        simp only [Option.some.injEq] at h
        subst h
        cases c
        · exact wanted_no hg hgd ha (by decide)
        · exact wanted_yes hg hgd ha
      · rename_i hl
        have ha := hb _ _ hl
        simp only [Option.some.injEq] at h
        subst h
        cases c
        · exact wanted_yes hg hgd ha
        · exact wanted_no hg hgd ha (by decide)
      · rename_i vs hl
        have ha := hb _ _ hl
        cases hz : Nat.beq vs.size 0
        · rw [hz] at h; cases h
        · rw [hz] at h
          simp only [cond_true, Option.some.injEq] at h
          subst h
          have : vs = #[] := Array.eq_empty_of_size_eq_zero (Nat.eq_of_beq_eq_true hz)
          subst this
          exact wanted_undef hg hgd ha
      · cases h
theorem pureN_wp : ∀ {m i : Nat} {L L' : List (Nat × Value)} {a : Act}, MB n ds L a → pureN E ops n m i L = some L' → (∀ a', MB n ds L' a' → wpX P ops Q (i + m) a' w) → wpX P ops Q i a w
  | 0, i, L, L', a, M, h, k => by
    simp only [pureN, Option.some.injEq] at h
    subst h
    exact k a M
  | m + 1, i, L, L', a, M, h, k => by
    simp only [pureN] at h
    split at h
    · cases h
    · rename_i o ho
      split at h
      · cases h
      · rename_i d hd
        cases hc : ck n L d
        · rw [hc] at h; cases h
        · rw [hc] at h
          simp only [cond_true] at h
          have k' : ∀ a', MB n ds L' a' → wpX P ops Q (i + 1 + m) a' w := fun a' M' => by
            have := k a' M'
            rwa [show i + (m + 1) = i + 1 + m by omega] at this
          split at h
          · rename_i hw
            split at h
            · rename_i v hv
              refine ow ho (wantO_of M.b.lok hw) hd hc M ?_ fun a' M' => pureN_wp M' h k'
              exact pureV_run M.b.lok hv
            · cases h
          · rename_i hw
            exact oo ho (wantO_of M.b.lok hw) hd hc M fun a' M' => pureN_wp M' h k'
          · cases h
theorem pn (E : Env P) (m : Nat) {i j : Nat} {L L' : List (Nat × Value)} {a : Act} (M : MB n ds L a) (h : pureN E ops n m i L = some L') (hj : Nat.beq (i + m) j = true) (k : ∀ a', MB n ds L' a' → wpX P ops Q j a' w) : wpX P ops Q i a w :=
  pureN_wp M h (fun a' M' => by
    rw [Nat.eq_of_beq_eq_true hj]
    exact k a' M')
theorem MB.h {L : List (Nat × Value)} {a : Act} {d : Nat} {v : Value} (M : MB n ds L a) (h : lkp L d = some v) : at_ a d = v := M.b (d, v) (lkp_mem h)
def setB (L : List (Nat × Value)) (d : Nat) (c : Bool) : List (Nat × Value) := match L with
  | [] => []
  | (e, v) :: L => bif Nat.beq e d then (e, .bool c) :: setB L d c else (e, v) :: setB L d c
theorem setB_bas {a : Act} {d : Nat} {c : Bool} (hd : at_ a d = .bool c) : ∀ {L : List (Nat × Value)}, Bas L a → Bas (setB L d c) a
  | [], _ => Bas.nil
  | (e, v) :: L, hb => by
    have h1 : at_ a e = v := hb (e, v) List.mem_cons_self
    have h2 := setB_bas hd (L := L) (fun y hy => hb y (List.mem_cons_of_mem _ hy))
    simp only [setB]
    cases hx : Nat.beq e d
    · exact Bas.cons h1 h2
    · have e' := Nat.eq_of_beq_eq_true hx
      subst e'
      exact Bas.cons hd h2
theorem MB.k {L : List (Nat × Value)} {a : Act} {b c : Bool} (M : MB n ds L a) (d : Nat) (h : lkp L d = some (.bool b)) (hb : b = c) : MB n ds (setB L d c) a := ⟨M.f, setB_bas (by rw [← hb]; exact M.h h) M.b⟩
end
section
variable {P : Program} (E : Env P) (ops : Array Oper) (n : Nat) (L : List (Nat × Value)) (m : List Nat) (V : List (Nat × Value))
def lkM : List (Nat × Value) → Nat → Nat → Nat → Option Value
  | [], _, _, t => lkp L t
  | (d, v) :: A, x, j, t => bif Nat.beq d t then (bif Nat.testBit x (Nat.pred j) then some v else none) else lkM A x (Nat.pred j) t
def revK : List (Nat × Value) → List (Nat × Value) → Option (List (Nat × Value))
  | [], B => some B
  | y :: A, B => revK A (y :: B)
def pureT : Nat → Nat → List (Nat × Value) → Option (List (Nat × Value))
  | 0, _, A => revK A []
  | c + 1, i, A =>
    match ops[i]? with
    | none => none
    | some o =>
      match o.dst with
      | none => none
      | some d => match lkp V i with
        | some v => pureT c (i + 1) ((d, v) :: A)
        | none => (match wantO ops (lkM L A (m.getD i 0) i) o with
          | some true => (match pureV E (lkM L A (m.getD i 0) i) o.op with | some v => pureT c (i + 1) ((d, v) :: A) | none => none)
          | some false => pureT c (i + 1) ((d, undef) :: A)
          | none => none)
end
section
variable {P : Program} {E : Env P} {ops : Array Oper} {n : Nat} {L : List (Nat × Value)} {m : List Nat} {V : List (Nat × Value)}
theorem revK_eq : ∀ {A B T : List (Nat × Value)}, revK A B = some T → T = A.reverse ++ B
  | [], B, T, h => by
    simp only [revK, Option.some.injEq] at h
    simp [h]
  | y :: A, B, T, h => by
    have := revK_eq (A := A) h
    simp [this]
theorem pureT_pre : ∀ {c i : Nat} {A T : List (Nat × Value)}, pureT E ops L m V c i A = some T → ∃ S, T = A.reverse ++ S ∧ S.length = c
  | 0, i, A, T, h => ⟨[], by simpa using revK_eq h, rfl⟩
  | c + 1, i, A, T, h => by
    simp only [pureT] at h
    have go : ∀ y, pureT E ops L m V c (i + 1) (y :: A) = some T → ∃ S, T = A.reverse ++ S ∧ S.length = c + 1 := fun y hy => by
      obtain ⟨S, e, hl⟩ := pureT_pre hy
      exact ⟨y :: S, by rw [e]; simp, by simp [hl]⟩
    split at h
    · cases h
    · split at h
      · cases h
      · split at h
        · exact go _ h
        · split at h
          · split at h
            · exact go _ h
            · cases h
          · exact go _ h
          · cases h
theorem nth_append {α : Type} {x : α} : ∀ {l r : List α} {k : Nat}, nth l k = some x → nth (l ++ r) k = some x
  | [], _, _, h => by simp [nth] at h
  | y :: l, r, 0, h => h
  | y :: l, r, k + 1, h => nth_append (l := l) (r := r) (k := k) h
theorem nth_last {α : Type} {x : α} : ∀ {l r : List α}, nth (l ++ x :: r) l.length = some x
  | [], _ => rfl
  | y :: l, r => nth_last (l := l) (r := r)
theorem lkM_ok {a : Act} {x : Nat} (hL : Bas L a) : ∀ {A : List (Nat × Value)} {j : Nat}, A.length = j → (∀ k d v, nth A.reverse k = some (d, v) → Nat.testBit x k = true → at_ a d = v) → Lok (lkM L A x j) a
  | [], j, _, _ => fun t v h => hL.lok t v h
  | (d, u) :: A, j, hj, h => fun t v ht => by
    obtain ⟨j, rfl⟩ : ∃ i, j = i + 1 := ⟨A.length, by simp at hj; omega⟩
    have hl : A.length = j := by simpa using hj
    simp only [lkM, Nat.pred_succ] at ht
    cases hb : Nat.beq d t
    · rw [hb] at ht
      refine lkM_ok hL hl (fun k e y hk hx => h k e y ?_ hx) t v ht
      rw [List.reverse_cons]
      exact nth_append hk
    · rw [hb] at ht
      cases hx : Nat.testBit x j
      · rw [hx] at ht; cases ht
      · rw [hx] at ht
        simp only [cond_true, Option.some.injEq] at ht
        subst ht
        rw [← Nat.eq_of_beq_eq_true hb]
        refine h j d u ?_ hx
        rw [List.reverse_cons]
        have := nth_last (l := A.reverse) (x := (d, u)) (r := [])
        rwa [List.length_reverse, hl] at this
theorem pureT_each : ∀ {c i : Nat} {A T : List (Nat × Value)}, A.length = i → pureT E ops L m V c i A = some T → ∀ j, i ≤ j → j < i + c →
    ∃ o d v, ops[j]? = some o ∧ o.dst = some d ∧ nth T j = some (d, v) ∧ ((lkp V j = some v) ∨ ∀ (a : Act), Bas L a → QT T (m.getD j 0) a → (Region.wanted o (yielded ops a.tmps) = true ∧ ∀ w, (execOp a.eval o).run P w = .ok (.value v) w) ∨ (Region.wanted o (yielded ops a.tmps) = false ∧ v = undef))
  | 0, i, A, T, _, _, j, h1, h2 => by omega
  | c + 1, i, A, T, hl, h, j, h1, h2 => by
    simp only [pureT] at h
    split at h
    · cases h
    · rename_i o ho
      split at h
      · cases h
      · rename_i d hd
        have here : ∀ v, pureT E ops L m V c (i + 1) ((d, v) :: A) = some T → nth T i = some (d, v) := fun v hv => by
          obtain ⟨S, e, _⟩ := pureT_pre hv
          rw [e, List.reverse_cons, List.append_assoc]
          have := nth_last (l := A.reverse) (x := (d, v)) (r := S)
          rw [List.length_reverse, hl] at this
          exact this
        have low : ∀ y, pureT E ops L m V c (i + 1) (y :: A) = some T → ∀ k d v, nth A.reverse k = some (d, v) → nth T k = some (d, v) := fun y hy k d v hk => by
          obtain ⟨S, e, _⟩ := pureT_pre hy
          rw [e, List.reverse_cons, List.append_assoc]
          exact nth_append hk
        by_cases hj : j = i
        · subst hj
          split at h
          · rename_i v hv
            exact ⟨o, d, v, ho, hd, here v h, .inl hv⟩
          · split at h
            · rename_i hw
              split at h
              · rename_i v hv
                refine ⟨o, d, v, ho, hd, here v h, .inr fun a hb hq => .inl ?_⟩
                have hr : Lok (lkM L A (m.getD j 0) j) a := lkM_ok hb hl fun k d v hk hx => hq k d v (low _ h k d v hk) hx
                exact ⟨wantO_of hr hw, fun w => by
                  obtain ⟨od, oop, oty, opos, oaf, og⟩ := o
                  exact pureV_run hr hv⟩
              · cases h
            · rename_i hw
              refine ⟨o, d, undef, ho, hd, here undef h, .inr fun a hb hq => .inr ⟨?_, rfl⟩⟩
              have hr : Lok (lkM L A (m.getD j 0) j) a := lkM_ok hb hl fun k d v hk hx => hq k d v (low _ h k d v hk) hx
              exact wantO_of hr hw
            · cases h
        · have rest : ∀ y, pureT E ops L m V c (i + 1) (y :: A) = some T → _ := fun y hy => pureT_each (c := c) (i := i + 1) (A := y :: A) (by simp [hl]) hy j (by omega) (by omega)
          split at h
          · exact rest _ h
          · split at h
            · split at h
              · exact rest _ h
              · cases h
            · exact rest _ h
            · cases h
def AllV (p : Nat → Prop) : List (Nat × Value) → Prop
  | [] => True
  | (i, _) :: V => p i ∧ AllV p V
theorem AllV.get {p : Nat → Prop} : ∀ {V : List (Nat × Value)}, AllV p V → ∀ {j : Nat} {v : Value}, lkp V j = some v → p j
  | [], _, j, v, h => by simp [lkp] at h
  | x :: V, hp, j, v, h => by
    obtain ⟨x1, x2⟩ := x
    simp only [lkp] at h
    cases hb : Nat.beq x1 j
    · rw [hb] at h; exact hp.2.get h
    · rw [← Nat.eq_of_beq_eq_true hb]; exact hp.1
variable {Q : Exit → Act → World → Prop} {wS : World} {oS : Own} {aS : Act} {ds : List Deferred}
theorem draw_p {id : Nat} (E : Env P) (hm : P.follows .mixedOrders = true) (m : List Nat) (hc : chk ops (unm ops.size m) = true) (hb : below ops.size m = true) (M : MB n ds L aS) (V : List (Nat × Value)) {T : List (Nat × Value)} (hp : pureT E ops L m V ops.size 0 [] = some T) (hT : qsep L T [] = true) (hz : (T.all fun x => Nat.ble (x.1 + 1) n) = true) (oS : Own)
    (hstep : AllV (fun i => ∀ (a : Act) (w : World) (o : Own), MB n ds L a → QT T (m.getD i 0) a → Tr No wS oS w o → opS P ops Q i (QK T i a w o) a w) V)
    (hend : ∀ (a : Act) (w : World) (o : Own), MB n ds (T ++ L) a → Tr No wS oS w o → Q .normal a w) :
    (Code.region id ops true).wp P Q aS wS := by
  have hlen : T.length = ops.size := by
    obtain ⟨S, e, hl⟩ := pureT_pre hp
    rw [e]; simpa using hl
  refine draw_q hm m hc hb M T (by rw [hlen]; exact Nat.beq_refl _) hT oS ?_ hend
  have each : ∀ i, i < ops.size → ∀ (a : Act) (w : World) (o : Own), MB n ds L a → QT T (m.getD i 0) a → Tr No wS oS w o → opS P ops Q i (QK T i a w o) a w := by
    intro i hi a w o M' G r
    obtain ⟨ox, d, v, ho, hd, hn, hor⟩ := pureT_each (by rfl) hp i (Nat.zero_le _) (by omega)
    have hzd : d < n := by
      have := List.all_eq_true.1 hz (d, v) (nth_mem hn)
      exact Nat.le_of_ble_eq_true this
    rcases hor with hv | hx
    · exact hstep.get hv a w o M' G r
    · rcases hx a M'.b G with ⟨hw, hr⟩ | ⟨hw, rfl⟩
      · exact o_val ho hw hd M'.f hzd (hr w) fun a' p => ⟨o, d, v, hn, p, Tr.refl _ _ _⟩
      · exact o_off ho hw hd M'.f hzd fun a' p => ⟨o, d, undef, hn, p, Tr.refl _ _ _⟩
  have all : ∀ (k i : Nat), i + k = ops.size → AllTo (fun i => ∀ (a : Act) (w : World) (o : Own), MB n ds L a → QT T (m.getD i 0) a → Tr No wS oS w o → opS P ops Q i (QK T i a w o) a w) k i := by
    intro k
    induction k with
    | zero => intro i _; trivial
    | succ k ih => intro i hk; exact ⟨each i (by omega), ih (i + 1) (by omega)⟩
  exact all ops.size 0 (by omega)
end
end Go.Gc
namespace Go.Proofs.Ythilemcdhkfhlaa
open Go Go.RowKit Go.Gc Go.Proofs
structure Rule where
  left : Int
  right : List Int
def zRule : Rule := ⟨(0 : Int), ([] : List Int)⟩
instance : Inhabited Rule := ⟨zRule⟩
def tyRule : Ty Rule := tIso (tPair (tInt .i64) (tSlice 3 (tInt .i64) (by decide))) (fun x => (x.left, x.right))
theorem Rule_open {w : World} {F : Nat → Prop} {x : Rule} {ds : List Value} (h : tyRule.im w F x ds) : ∃ (A1 : Option Addr) (c1 : Nat), ds = [.int .i64 x.left, .slice A1 x.right.length c1] ∧ ((tSlice 3 (tInt .i64) (by decide))).im w F x.right [.slice A1 x.right.length c1] := by
  have h : ((tPair (tInt .i64) (tSlice 3 (tInt .i64) (by decide)))).im w F (x.left, x.right) ds := h
  obtain ⟨d0, e0, rfl, h0, g0⟩ := h
  obtain rfl : _ = _ := h0
  obtain ⟨A1, c1, rfl, -⟩ := im_form1 g0
  have i1 := g0
  exact ⟨A1, c1, rfl, i1⟩
theorem Rule_mk' (w : World) (F : Nat → Prop) (x : Rule) {v1 : Value} (h1 : ((tSlice 3 (tInt .i64) (by decide))).im w F x.right [v1]) : tyRule.im w F x [.int .i64 x.left, v1] := ⟨[.int .i64 x.left], _, rfl, rfl, h1⟩
theorem Rule_mk (w : World) (o : Own) (x : Rule) {v1 : Value} (h1 : ((tSlice 3 (tInt .i64) (by decide))).im w (L o 0) x.right [v1]) : tyRule.im w (L o 0) x [.int .i64 x.left, v1] := Rule_mk' w (L o 0) x h1
structure Grammar where
  terms : List ByteArray
  names : List ByteArray
  rules : List Rule
def zGrammar : Grammar := ⟨([] : List ByteArray), ([] : List ByteArray), ([] : List Rule)⟩
instance : Inhabited Grammar := ⟨zGrammar⟩
def tyGrammar : Ty Grammar := tIso (tPair (tSlice 9 tStr (by decide)) (tPair (tSlice 9 tStr (by decide)) (tSlice 28 tyRule (by decide)))) (fun x => (x.terms, x.names, x.rules))
theorem Grammar_open {w : World} {F : Nat → Prop} {x : Grammar} {ds : List Value} (h : tyGrammar.im w F x ds) : ∃ (A0 : Option Addr) (c0 : Nat), ∃ (A1 : Option Addr) (c1 : Nat), ∃ (A2 : Option Addr) (c2 : Nat), ds = [.slice A0 x.terms.length c0, .slice A1 x.names.length c1, .slice A2 x.rules.length c2] ∧ ((tSlice 9 tStr (by decide))).im w F x.terms [.slice A0 x.terms.length c0] ∧ ((tSlice 9 tStr (by decide))).im w F x.names [.slice A1 x.names.length c1] ∧ ((tSlice 28 tyRule (by decide))).im w F x.rules [.slice A2 x.rules.length c2] := by
  have h : ((tPair (tSlice 9 tStr (by decide)) (tPair (tSlice 9 tStr (by decide)) (tSlice 28 tyRule (by decide))))).im w F (x.terms, x.names, x.rules) ds := h
  obtain ⟨d0, e0, rfl, h0, g0⟩ := h
  obtain ⟨A0, c0, rfl, -⟩ := im_form1 h0
  have i0 := h0
  obtain ⟨d1, e1, rfl, h1, g1⟩ := g0
  obtain ⟨A1, c1, rfl, -⟩ := im_form1 h1
  have i1 := h1
  obtain ⟨A2, c2, rfl, -⟩ := im_form1 g1
  have i2 := g1
  exact ⟨A0, c0, A1, c1, A2, c2, rfl, i0, i1, i2⟩
structure Token where
  kind : Int
  text : ByteArray
  at_ : Int
def zToken : Token := ⟨(0 : Int), (ByteArray.mk #[]), (0 : Int)⟩
instance : Inhabited Token := ⟨zToken⟩
def tyToken : Ty Token := tIso (tPair (tInt .i64) (tPair tStr (tInt .i64))) (fun x => (x.kind, x.text, x.at_))
theorem Token_open {w : World} {F : Nat → Prop} {x : Token} {ds : List Value} (h : tyToken.im w F x ds) : ds = [.int .i64 x.kind, .string x.text, .int .i64 x.at_] := by
  have h : ((tPair (tInt .i64) (tPair tStr (tInt .i64)))).im w F (x.kind, x.text, x.at_) ds := h
  obtain ⟨d0, e0, rfl, h0, g0⟩ := h
  obtain rfl : _ = _ := h0
  obtain ⟨d1, e1, rfl, h1, g1⟩ := g0
  obtain rfl : _ = _ := h1
  obtain rfl : _ = _ := g1
  rfl
theorem Token_mk' (w : World) (F : Nat → Prop) (x : Token) : tyToken.im w F x [.int .i64 x.kind, .string x.text, .int .i64 x.at_] := ⟨[.int .i64 x.kind], _, rfl, rfl, ⟨[.string x.text], _, rfl, rfl, rfl⟩⟩
theorem Token_mk (w : World) (o : Own) (x : Token) : tyToken.im w (L o 0) x [.int .i64 x.kind, .string x.text, .int .i64 x.at_] := Token_mk' w (L o 0) x
structure Fault where
  e : Int
  at_ : Int
def zFault : Fault := ⟨(0 : Int), (0 : Int)⟩
instance : Inhabited Fault := ⟨zFault⟩
structure Alt where
  left : Token
  right : List Token
def zAlt : Alt := ⟨(zToken), ([] : List Token)⟩
instance : Inhabited Alt := ⟨zAlt⟩
def tyAlt : Ty Alt := tIso (tPair tyToken (tSlice 183 tyToken (by decide))) (fun x => (x.left, x.right))
theorem Alt_open {w : World} {F : Nat → Prop} {x : Alt} {ds : List Value} (h : tyAlt.im w F x ds) : ∃ (A3 : Option Addr) (c3 : Nat), ds = [.int .i64 x.left.kind, .string x.left.text, .int .i64 x.left.at_, .slice A3 x.right.length c3] ∧ ((tSlice 183 tyToken (by decide))).im w F x.right [.slice A3 x.right.length c3] := by
  have h : ((tPair tyToken (tSlice 183 tyToken (by decide)))).im w F (x.left, x.right) ds := h
  obtain ⟨d0, e0, rfl, h0, g0⟩ := h
  obtain ⟨rfl⟩ := Token_open h0
  obtain ⟨A3, c3, rfl, -⟩ := im_form1 g0
  have i3 := g0
  exact ⟨A3, c3, rfl, i3⟩
theorem Alt_mk' (w : World) (F : Nat → Prop) (x : Alt) {v3 : Value} (h3 : ((tSlice 183 tyToken (by decide))).im w F x.right [v3]) : tyAlt.im w F x [.int .i64 x.left.kind, .string x.left.text, .int .i64 x.left.at_, v3] := ⟨[.int .i64 x.left.kind, .string x.left.text, .int .i64 x.left.at_], _, rfl, (Token_mk' _ _ _), h3⟩
theorem Alt_mk (w : World) (o : Own) (x : Alt) {v3 : Value} (h3 : ((tSlice 183 tyToken (by decide))).im w (L o 0) x.right [v3]) : tyAlt.im w (L o 0) x [.int .i64 x.left.kind, .string x.left.text, .int .i64 x.left.at_, v3] := Alt_mk' w (L o 0) x h3
structure Part where
  rule : Int
  dot : Int
  i : Int
  j : Int
def zPart : Part := ⟨(0 : Int), (0 : Int), (0 : Int), (0 : Int)⟩
instance : Inhabited Part := ⟨zPart⟩
def tyPart : Ty Part := tIso (tPair (tInt .i64) (tPair (tInt .i64) (tPair (tInt .i64) (tInt .i64)))) (fun x => (x.rule, x.dot, x.i, x.j))
theorem Part_open {w : World} {F : Nat → Prop} {x : Part} {ds : List Value} (h : tyPart.im w F x ds) : ds = [.int .i64 x.rule, .int .i64 x.dot, .int .i64 x.i, .int .i64 x.j] := by
  have h : ((tPair (tInt .i64) (tPair (tInt .i64) (tPair (tInt .i64) (tInt .i64))))).im w F (x.rule, x.dot, x.i, x.j) ds := h
  obtain ⟨d0, e0, rfl, h0, g0⟩ := h
  obtain rfl : _ = _ := h0
  obtain ⟨d1, e1, rfl, h1, g1⟩ := g0
  obtain rfl : _ = _ := h1
  obtain ⟨d2, e2, rfl, h2, g2⟩ := g1
  obtain rfl : _ = _ := h2
  obtain rfl : _ = _ := g2
  rfl
theorem Part_mk' (w : World) (F : Nat → Prop) (x : Part) : tyPart.im w F x [.int .i64 x.rule, .int .i64 x.dot, .int .i64 x.i, .int .i64 x.j] := ⟨[.int .i64 x.rule], _, rfl, rfl, ⟨[.int .i64 x.dot], _, rfl, rfl, ⟨[.int .i64 x.i], _, rfl, rfl, rfl⟩⟩⟩
theorem Part_mk (w : World) (o : Own) (x : Part) : tyPart.im w (L o 0) x [.int .i64 x.rule, .int .i64 x.dot, .int .i64 x.i, .int .i64 x.j] := Part_mk' w (L o 0) x
structure Span where
  sym : Int
  i : Int
  j : Int
def zSpan : Span := ⟨(0 : Int), (0 : Int), (0 : Int)⟩
instance : Inhabited Span := ⟨zSpan⟩
def tySpan : Ty Span := tIso (tPair (tInt .i64) (tPair (tInt .i64) (tInt .i64))) (fun x => (x.sym, x.i, x.j))
theorem Span_open {w : World} {F : Nat → Prop} {x : Span} {ds : List Value} (h : tySpan.im w F x ds) : ds = [.int .i64 x.sym, .int .i64 x.i, .int .i64 x.j] := by
  have h : ((tPair (tInt .i64) (tPair (tInt .i64) (tInt .i64)))).im w F (x.sym, x.i, x.j) ds := h
  obtain ⟨d0, e0, rfl, h0, g0⟩ := h
  obtain rfl : _ = _ := h0
  obtain ⟨d1, e1, rfl, h1, g1⟩ := g0
  obtain rfl : _ = _ := h1
  obtain rfl : _ = _ := g1
  rfl
theorem Span_mk' (w : World) (F : Nat → Prop) (x : Span) : tySpan.im w F x [.int .i64 x.sym, .int .i64 x.i, .int .i64 x.j] := ⟨[.int .i64 x.sym], _, rfl, rfl, ⟨[.int .i64 x.i], _, rfl, rfl, rfl⟩⟩
theorem Span_mk (w : World) (o : Own) (x : Span) : tySpan.im w (L o 0) x [.int .i64 x.sym, .int .i64 x.i, .int .i64 x.j] := Span_mk' w (L o 0) x
theorem fa_25_0 (ad : Addr) (w : World) : (Instr.fieldAt 25 (.pointer (some ad)) 0).run Try.prog w = .ok (.pointer (some (ad.add 0))) w := by go_simp
theorem fa_25_1 (ad : Addr) (w : World) : (Instr.fieldAt 25 (.pointer (some ad)) 1).run Try.prog w = .ok (.pointer (some (ad.add 1))) w := by go_simp
theorem fa_25_2 (ad : Addr) (w : World) : (Instr.fieldAt 25 (.pointer (some ad)) 2).run Try.prog w = .ok (.pointer (some (ad.add 2))) w := by go_simp
theorem fa_28_0 (ad : Addr) (w : World) : (Instr.fieldAt 28 (.pointer (some ad)) 0).run Try.prog w = .ok (.pointer (some (ad.add 0))) w := by go_simp
theorem fa_28_1 (ad : Addr) (w : World) : (Instr.fieldAt 28 (.pointer (some ad)) 1).run Try.prog w = .ok (.pointer (some (ad.add 1))) w := by go_simp
theorem fa_42_0 (ad : Addr) (w : World) : (Instr.fieldAt 42 (.pointer (some ad)) 0).run Try.prog w = .ok (.pointer (some (ad.add 0))) w := by go_simp
theorem fa_42_1 (ad : Addr) (w : World) : (Instr.fieldAt 42 (.pointer (some ad)) 1).run Try.prog w = .ok (.pointer (some (ad.add 1))) w := by go_simp
theorem fa_42_2 (ad : Addr) (w : World) : (Instr.fieldAt 42 (.pointer (some ad)) 2).run Try.prog w = .ok (.pointer (some (ad.add 2))) w := by go_simp
theorem fa_46_0 (ad : Addr) (w : World) : (Instr.fieldAt 46 (.pointer (some ad)) 0).run Try.prog w = .ok (.pointer (some (ad.add 0))) w := by go_simp
theorem fa_46_1 (ad : Addr) (w : World) : (Instr.fieldAt 46 (.pointer (some ad)) 1).run Try.prog w = .ok (.pointer (some (ad.add 1))) w := by go_simp
theorem fa_46_2 (ad : Addr) (w : World) : (Instr.fieldAt 46 (.pointer (some ad)) 2).run Try.prog w = .ok (.pointer (some (ad.add 2))) w := by go_simp
theorem fa_46_3 (ad : Addr) (w : World) : (Instr.fieldAt 46 (.pointer (some ad)) 3).run Try.prog w = .ok (.pointer (some (ad.add 3))) w := by go_simp
theorem fa_108_0 (ad : Addr) (w : World) : (Instr.fieldAt 108 (.pointer (some ad)) 0).run Try.prog w = .ok (.pointer (some (ad.add 0))) w := by go_simp
theorem fa_114_0 (ad : Addr) (w : World) : (Instr.fieldAt 114 (.pointer (some ad)) 0).run Try.prog w = .ok (.pointer (some (ad.add 0))) w := by go_simp
theorem fa_114_1 (ad : Addr) (w : World) : (Instr.fieldAt 114 (.pointer (some ad)) 1).run Try.prog w = .ok (.pointer (some (ad.add 1))) w := by go_simp
theorem fa_116_0 (ad : Addr) (w : World) : (Instr.fieldAt 116 (.pointer (some ad)) 0).run Try.prog w = .ok (.pointer (some (ad.add 0))) w := by go_simp
theorem fa_116_1 (ad : Addr) (w : World) : (Instr.fieldAt 116 (.pointer (some ad)) 1).run Try.prog w = .ok (.pointer (some (ad.add 3))) w := by go_simp
theorem fa_116_2 (ad : Addr) (w : World) : (Instr.fieldAt 116 (.pointer (some ad)) 2).run Try.prog w = .ok (.pointer (some (ad.add 4))) w := by go_simp
theorem fa_116_3 (ad : Addr) (w : World) : (Instr.fieldAt 116 (.pointer (some ad)) 3).run Try.prog w = .ok (.pointer (some (ad.add 5))) w := by go_simp
theorem fa_116_4 (ad : Addr) (w : World) : (Instr.fieldAt 116 (.pointer (some ad)) 4).run Try.prog w = .ok (.pointer (some (ad.add 6))) w := by go_simp
theorem fa_116_5 (ad : Addr) (w : World) : (Instr.fieldAt 116 (.pointer (some ad)) 5).run Try.prog w = .ok (.pointer (some (ad.add 7))) w := by go_simp
theorem fa_183_0 (ad : Addr) (w : World) : (Instr.fieldAt 183 (.pointer (some ad)) 0).run Try.prog w = .ok (.pointer (some (ad.add 0))) w := by go_simp
theorem fa_183_1 (ad : Addr) (w : World) : (Instr.fieldAt 183 (.pointer (some ad)) 1).run Try.prog w = .ok (.pointer (some (ad.add 1))) w := by go_simp
theorem fa_185_0 (ad : Addr) (w : World) : (Instr.fieldAt 185 (.pointer (some ad)) 0).run Try.prog w = .ok (.pointer (some (ad.add 0))) w := by go_simp
theorem fa_185_1 (ad : Addr) (w : World) : (Instr.fieldAt 185 (.pointer (some ad)) 1).run Try.prog w = .ok (.pointer (some (ad.add 3))) w := by go_simp
theorem fa_220_0 (ad : Addr) (w : World) : (Instr.fieldAt 220 (.pointer (some ad)) 0).run Try.prog w = .ok (.pointer (some (ad.add 0))) w := by go_simp
theorem fa_220_2 (ad : Addr) (w : World) : (Instr.fieldAt 220 (.pointer (some ad)) 2).run Try.prog w = .ok (.pointer (some (ad.add 2))) w := by go_simp
def E : Env Try.prog := ⟨[(9, .string), (22, .slice 9), (23, .slice 28), (26, .slice 3), (34, .pointer 116), (38, .slice 42), (112, .slice 46), (175, .slice 183), (179, .slice 185)], [(25, 0, 0), (25, 1, 1), (25, 2, 2), (28, 0, 0), (28, 1, 1), (42, 0, 0), (42, 1, 1), (42, 2, 2), (46, 0, 0), (46, 1, 1), (46, 2, 2), (46, 3, 3), (108, 0, 0), (114, 0, 0), (114, 1, 1), (116, 0, 0), (116, 1, 3), (116, 2, 4), (116, 3, 5), (116, 4, 6), (116, 5, 7), (183, 0, 0), (183, 1, 1), (185, 0, 0), (185, 1, 3), (220, 0, 0), (220, 2, 2)], AllT.mem ⟨Try.underlying9, Try.underlying22, Try.underlying23, Try.underlying26, Try.underlying34, Try.underlying38, Try.underlying112, Try.underlying175, Try.underlying179, trivial⟩, AllF.mem ⟨fa_25_0, fa_25_1, fa_25_2, fa_28_0, fa_28_1, fa_42_0, fa_42_1, fa_42_2, fa_46_0, fa_46_1, fa_46_2, fa_46_3, fa_108_0, fa_114_0, fa_114_1, fa_116_0, fa_116_1, fa_116_2, fa_116_3, fa_116_4, fa_116_5, fa_183_0, fa_183_1, fa_185_0, fa_185_1, fa_220_0, fa_220_2, trivial⟩⟩
theorem ld_3 (ad : Addr) (w : World) (v : Value) (h : w.cell? ad = some v) : (Instr.loadAt 3 (.pointer (some ad))).run Try.prog w = .ok v w := by
  simp [Instr.loadAt, Instr.sureAddr, loadVar, isAgg, run_underlying Try.underlying3, h]
theorem ld_4 (ad : Addr) (w : World) (v : Value) (h : w.cell? ad = some v) : (Instr.loadAt 4 (.pointer (some ad))).run Try.prog w = .ok v w := by
  simp [Instr.loadAt, Instr.sureAddr, loadVar, isAgg, run_underlying Try.underlying4, h]
theorem ld_9 (ad : Addr) (w : World) (v : Value) (h : w.cell? ad = some v) : (Instr.loadAt 9 (.pointer (some ad))).run Try.prog w = .ok v w := by
  simp [Instr.loadAt, Instr.sureAddr, loadVar, isAgg, run_underlying Try.underlying9, h]
theorem ld_22 (ad : Addr) (w : World) (v : Value) (h : w.cell? ad = some v) : (Instr.loadAt 22 (.pointer (some ad))).run Try.prog w = .ok v w := by
  simp [Instr.loadAt, Instr.sureAddr, loadVar, isAgg, run_underlying Try.underlying22, h]
theorem ld_23 (ad : Addr) (w : World) (v : Value) (h : w.cell? ad = some v) : (Instr.loadAt 23 (.pointer (some ad))).run Try.prog w = .ok v w := by
  simp [Instr.loadAt, Instr.sureAddr, loadVar, isAgg, run_underlying Try.underlying23, h]
theorem ld_26 (ad : Addr) (w : World) (v : Value) (h : w.cell? ad = some v) : (Instr.loadAt 26 (.pointer (some ad))).run Try.prog w = .ok v w := by
  simp [Instr.loadAt, Instr.sureAddr, loadVar, isAgg, run_underlying Try.underlying26, h]
theorem ld_35 (ad : Addr) (w : World) (v : Value) (h : w.cell? ad = some v) : (Instr.loadAt 35 (.pointer (some ad))).run Try.prog w = .ok v w := by
  simp [Instr.loadAt, Instr.sureAddr, loadVar, isAgg, run_underlying Try.underlying35, h]
theorem ld_48 (ad : Addr) (w : World) (v : Value) (h : w.cell? ad = some v) : (Instr.loadAt 48 (.pointer (some ad))).run Try.prog w = .ok v w := by
  simp [Instr.loadAt, Instr.sureAddr, loadVar, isAgg, run_underlying Try.underlying48, h]
theorem ld_111 (ad : Addr) (w : World) (v : Value) (h : w.cell? ad = some v) : (Instr.loadAt 111 (.pointer (some ad))).run Try.prog w = .ok v w := by
  simp [Instr.loadAt, Instr.sureAddr, loadVar, isAgg, run_underlying Try.underlying111, h]
theorem ld_112 (ad : Addr) (w : World) (v : Value) (h : w.cell? ad = some v) : (Instr.loadAt 112 (.pointer (some ad))).run Try.prog w = .ok v w := by
  simp [Instr.loadAt, Instr.sureAddr, loadVar, isAgg, run_underlying Try.underlying112, h]
theorem ld_175 (ad : Addr) (w : World) (v : Value) (h : w.cell? ad = some v) : (Instr.loadAt 175 (.pointer (some ad))).run Try.prog w = .ok v w := by
  simp [Instr.loadAt, Instr.sureAddr, loadVar, isAgg, run_underlying Try.underlying175, h]
theorem ld_179 (ad : Addr) (w : World) (v : Value) (h : w.cell? ad = some v) : (Instr.loadAt 179 (.pointer (some ad))).run Try.prog w = .ok v w := by
  simp [Instr.loadAt, Instr.sureAddr, loadVar, isAgg, run_underlying Try.underlying179, h]
theorem st_3 (ad : Addr) (w : World) (v u : Value) (hc : w.cell? ad = some u) (hf : w.frozen? ad = false) (h1 : v.oneCell' = true) (h2 : v.cells = #[v]) : (Instr.storeAt 3 (.pointer (some ad)) v).run Try.prog w = .ok () (w.setCell ad v) := store1 (by kernel_rfl) ad w v u hc hf h1 h2
theorem st_4 (ad : Addr) (w : World) (v u : Value) (hc : w.cell? ad = some u) (hf : w.frozen? ad = false) (h1 : v.oneCell' = true) (h2 : v.cells = #[v]) : (Instr.storeAt 4 (.pointer (some ad)) v).run Try.prog w = .ok () (w.setCell ad v) := store1 (by kernel_rfl) ad w v u hc hf h1 h2
theorem st_22 (ad : Addr) (w : World) (v u : Value) (hc : w.cell? ad = some u) (hf : w.frozen? ad = false) (h1 : v.oneCell' = true) (h2 : v.cells = #[v]) : (Instr.storeAt 22 (.pointer (some ad)) v).run Try.prog w = .ok () (w.setCell ad v) := store1 (by kernel_rfl) ad w v u hc hf h1 h2
theorem st_23 (ad : Addr) (w : World) (v u : Value) (hc : w.cell? ad = some u) (hf : w.frozen? ad = false) (h1 : v.oneCell' = true) (h2 : v.cells = #[v]) : (Instr.storeAt 23 (.pointer (some ad)) v).run Try.prog w = .ok () (w.setCell ad v) := store1 (by kernel_rfl) ad w v u hc hf h1 h2
theorem st_26 (ad : Addr) (w : World) (v u : Value) (hc : w.cell? ad = some u) (hf : w.frozen? ad = false) (h1 : v.oneCell' = true) (h2 : v.cells = #[v]) : (Instr.storeAt 26 (.pointer (some ad)) v).run Try.prog w = .ok () (w.setCell ad v) := store1 (by kernel_rfl) ad w v u hc hf h1 h2
theorem st_48 (ad : Addr) (w : World) (v u : Value) (hc : w.cell? ad = some u) (hf : w.frozen? ad = false) (h1 : v.oneCell' = true) (h2 : v.cells = #[v]) : (Instr.storeAt 48 (.pointer (some ad)) v).run Try.prog w = .ok () (w.setCell ad v) := store1 (by kernel_rfl) ad w v u hc hf h1 h2
theorem st_112 (ad : Addr) (w : World) (v u : Value) (hc : w.cell? ad = some u) (hf : w.frozen? ad = false) (h1 : v.oneCell' = true) (h2 : v.cells = #[v]) : (Instr.storeAt 112 (.pointer (some ad)) v).run Try.prog w = .ok () (w.setCell ad v) := store1 (by kernel_rfl) ad w v u hc hf h1 h2
theorem st_175 (ad : Addr) (w : World) (v u : Value) (hc : w.cell? ad = some u) (hf : w.frozen? ad = false) (h1 : v.oneCell' = true) (h2 : v.cells = #[v]) : (Instr.storeAt 175 (.pointer (some ad)) v).run Try.prog w = .ok () (w.setCell ad v) := store1 (by kernel_rfl) ad w v u hc hf h1 h2
theorem st_179 (ad : Addr) (w : World) (v u : Value) (hc : w.cell? ad = some u) (hf : w.frozen? ad = false) (h1 : v.oneCell' = true) (h2 : v.cells = #[v]) : (Instr.storeAt 179 (.pointer (some ad)) v).run Try.prog w = .ok () (w.setCell ad v) := store1 (by kernel_rfl) ad w v u hc hf h1 h2
theorem ldn_25 (cs : Array Value) (hn : cs.size = 3) (g o : Nat) (w : World) (h : ∀ j u, cs[j]? = some u → w.cell? ⟨g, o + j, none⟩ = some u) : (Instr.loadAt 25 (.pointer (some ⟨g, o, none⟩))).run Try.prog w = .ok (.agg cs) w := loadN Try.underlying25 (by kernel_rfl) hn h
theorem ldn_28 (cs : Array Value) (hn : cs.size = 2) (g o : Nat) (w : World) (h : ∀ j u, cs[j]? = some u → w.cell? ⟨g, o + j, none⟩ = some u) : (Instr.loadAt 28 (.pointer (some ⟨g, o, none⟩))).run Try.prog w = .ok (.agg cs) w := loadN Try.underlying28 (by kernel_rfl) hn h
theorem ldn_42 (cs : Array Value) (hn : cs.size = 3) (g o : Nat) (w : World) (h : ∀ j u, cs[j]? = some u → w.cell? ⟨g, o + j, none⟩ = some u) : (Instr.loadAt 42 (.pointer (some ⟨g, o, none⟩))).run Try.prog w = .ok (.agg cs) w := loadN Try.underlying42 (by kernel_rfl) hn h
theorem ldn_46 (cs : Array Value) (hn : cs.size = 4) (g o : Nat) (w : World) (h : ∀ j u, cs[j]? = some u → w.cell? ⟨g, o + j, none⟩ = some u) : (Instr.loadAt 46 (.pointer (some ⟨g, o, none⟩))).run Try.prog w = .ok (.agg cs) w := loadN Try.underlying46 (by kernel_rfl) hn h
theorem ldn_108 (cs : Array Value) (hn : cs.size = 2) (g o : Nat) (w : World) (h : ∀ j u, cs[j]? = some u → w.cell? ⟨g, o + j, none⟩ = some u) : (Instr.loadAt 108 (.pointer (some ⟨g, o, none⟩))).run Try.prog w = .ok (.agg cs) w := loadN Try.underlying108 (by kernel_rfl) hn h
theorem ldn_183 (cs : Array Value) (hn : cs.size = 3) (g o : Nat) (w : World) (h : ∀ j u, cs[j]? = some u → w.cell? ⟨g, o + j, none⟩ = some u) : (Instr.loadAt 183 (.pointer (some ⟨g, o, none⟩))).run Try.prog w = .ok (.agg cs) w := loadN Try.underlying183 (by kernel_rfl) hn h
theorem ldn_185 (cs : Array Value) (hn : cs.size = 4) (g o : Nat) (w : World) (h : ∀ j u, cs[j]? = some u → w.cell? ⟨g, o + j, none⟩ = some u) : (Instr.loadAt 185 (.pointer (some ⟨g, o, none⟩))).run Try.prog w = .ok (.agg cs) w := loadN Try.underlying185 (by kernel_rfl) hn h
theorem stn_25 (cs : Array Value) (hn : cs.size = 3) (w : World) (g n : Nat) (all : Array Value) (t : Nat) (hb : w.heap[g]? = some (.cells all t (0, 0))) (hs : n + cs.size ≤ all.size) (h1 : ∀ v ∈ cs.toList, v.oneCell' = true) : (Instr.storeAt 25 (.pointer (some ⟨g, n, none⟩)) (.agg cs)).run Try.prog w = .ok () (w.setRow g (all.toList.take n ++ cs.toList ++ all.toList.drop (n + cs.size)).toArray) := storeN (by kernel_rfl) hn w g n all t hb hs h1
theorem stn_28 (cs : Array Value) (hn : cs.size = 2) (w : World) (g n : Nat) (all : Array Value) (t : Nat) (hb : w.heap[g]? = some (.cells all t (0, 0))) (hs : n + cs.size ≤ all.size) (h1 : ∀ v ∈ cs.toList, v.oneCell' = true) : (Instr.storeAt 28 (.pointer (some ⟨g, n, none⟩)) (.agg cs)).run Try.prog w = .ok () (w.setRow g (all.toList.take n ++ cs.toList ++ all.toList.drop (n + cs.size)).toArray) := storeN (by kernel_rfl) hn w g n all t hb hs h1
theorem stn_42 (cs : Array Value) (hn : cs.size = 3) (w : World) (g n : Nat) (all : Array Value) (t : Nat) (hb : w.heap[g]? = some (.cells all t (0, 0))) (hs : n + cs.size ≤ all.size) (h1 : ∀ v ∈ cs.toList, v.oneCell' = true) : (Instr.storeAt 42 (.pointer (some ⟨g, n, none⟩)) (.agg cs)).run Try.prog w = .ok () (w.setRow g (all.toList.take n ++ cs.toList ++ all.toList.drop (n + cs.size)).toArray) := storeN (by kernel_rfl) hn w g n all t hb hs h1
theorem stn_46 (cs : Array Value) (hn : cs.size = 4) (w : World) (g n : Nat) (all : Array Value) (t : Nat) (hb : w.heap[g]? = some (.cells all t (0, 0))) (hs : n + cs.size ≤ all.size) (h1 : ∀ v ∈ cs.toList, v.oneCell' = true) : (Instr.storeAt 46 (.pointer (some ⟨g, n, none⟩)) (.agg cs)).run Try.prog w = .ok () (w.setRow g (all.toList.take n ++ cs.toList ++ all.toList.drop (n + cs.size)).toArray) := storeN (by kernel_rfl) hn w g n all t hb hs h1
theorem stn_108 (cs : Array Value) (hn : cs.size = 2) (w : World) (g n : Nat) (all : Array Value) (t : Nat) (hb : w.heap[g]? = some (.cells all t (0, 0))) (hs : n + cs.size ≤ all.size) (h1 : ∀ v ∈ cs.toList, v.oneCell' = true) : (Instr.storeAt 108 (.pointer (some ⟨g, n, none⟩)) (.agg cs)).run Try.prog w = .ok () (w.setRow g (all.toList.take n ++ cs.toList ++ all.toList.drop (n + cs.size)).toArray) := storeN (by kernel_rfl) hn w g n all t hb hs h1
theorem stn_183 (cs : Array Value) (hn : cs.size = 3) (w : World) (g n : Nat) (all : Array Value) (t : Nat) (hb : w.heap[g]? = some (.cells all t (0, 0))) (hs : n + cs.size ≤ all.size) (h1 : ∀ v ∈ cs.toList, v.oneCell' = true) : (Instr.storeAt 183 (.pointer (some ⟨g, n, none⟩)) (.agg cs)).run Try.prog w = .ok () (w.setRow g (all.toList.take n ++ cs.toList ++ all.toList.drop (n + cs.size)).toArray) := storeN (by kernel_rfl) hn w g n all t hb hs h1
theorem stn_185 (cs : Array Value) (hn : cs.size = 4) (w : World) (g n : Nat) (all : Array Value) (t : Nat) (hb : w.heap[g]? = some (.cells all t (0, 0))) (hs : n + cs.size ≤ all.size) (h1 : ∀ v ∈ cs.toList, v.oneCell' = true) : (Instr.storeAt 185 (.pointer (some ⟨g, n, none⟩)) (.agg cs)).run Try.prog w = .ok () (w.setRow g (all.toList.take n ++ cs.toList ++ all.toList.drop (n + cs.size)).toArray) := storeN (by kernel_rfl) hn w g n all t hb hs h1
theorem zv_3 (w : World) : (zeroValue 3).run Try.prog w = .ok (.int .i64 0) w := zero_of (by kernel_rfl) w
theorem zv_25 (w : World) : (zeroValue 25).run Try.prog w = .ok (.agg #[.slice none 0 0, .slice none 0 0, .slice none 0 0]) w := zero_of (by kernel_rfl) w
theorem zv_28 (w : World) : (zeroValue 28).run Try.prog w = .ok (.agg #[.int .i64 0, .slice none 0 0]) w := zero_of (by kernel_rfl) w
theorem zv_42 (w : World) : (zeroValue 42).run Try.prog w = .ok (.agg #[.int .i64 0, .int .i64 0, .int .i64 0]) w := zero_of (by kernel_rfl) w
theorem zv_46 (w : World) : (zeroValue 46).run Try.prog w = .ok (.agg #[.int .i64 0, .int .i64 0, .int .i64 0, .int .i64 0]) w := zero_of (by kernel_rfl) w
theorem zv_108 (w : World) : (zeroValue 108).run Try.prog w = .ok (.agg #[.int .i64 0, .int .i64 0]) w := zero_of (by kernel_rfl) w
theorem zv_175 (w : World) : (zeroValue 175).run Try.prog w = .ok (.slice none 0 0) w := zero_of (by kernel_rfl) w
theorem zv_179 (w : World) : (zeroValue 179).run Try.prog w = .ok (.slice none 0 0) w := zero_of (by kernel_rfl) w
theorem zv_183 (w : World) : (zeroValue 183).run Try.prog w = .ok (.agg #[.int .i64 0, .string ⟨#[]⟩, .int .i64 0]) w := zero_of (by kernel_rfl) w
theorem zv_185 (w : World) : (zeroValue 185).run Try.prog w = .ok (.agg #[.int .i64 0, .string ⟨#[]⟩, .int .i64 0, .slice none 0 0]) w := zero_of (by kernel_rfl) w
theorem sz_3 (w : World) : (sizeOf 3).run Try.prog w = .ok 1 w := size_of (by kernel_rfl) w
theorem sz_4 (w : World) : (sizeOf 4).run Try.prog w = .ok 1 w := size_of (by kernel_rfl) w
theorem sz_9 (w : World) : (sizeOf 9).run Try.prog w = .ok 1 w := size_of (by kernel_rfl) w
theorem sz_28 (w : World) : (sizeOf 28).run Try.prog w = .ok 2 w := size_of (by kernel_rfl) w
theorem sz_42 (w : World) : (sizeOf 42).run Try.prog w = .ok 3 w := size_of (by kernel_rfl) w
theorem sz_46 (w : World) : (sizeOf 46).run Try.prog w = .ok 4 w := size_of (by kernel_rfl) w
theorem sz_183 (w : World) : (sizeOf 183).run Try.prog w = .ok 3 w := size_of (by kernel_rfl) w
theorem sz_185 (w : World) : (sizeOf 185).run Try.prog w = .ok 4 w := size_of (by kernel_rfl) w
theorem el_3 : Elem Try.prog (tInt .i64) 3 (0 : Int) := elem_of (zv := .int .i64 0) (by decide) (by kernel_rfl) rfl (fun w F => rfl)
theorem el_4 : Elem Try.prog tBool 4 false := elem_of (zv := .bool false) (by decide) (by kernel_rfl) rfl (fun w F => rfl)
theorem el_9 : Elem Try.prog tStr 9 (ByteArray.mk #[]) := elem_of (zv := .string ⟨#[]⟩) (by decide) (by kernel_rfl) rfl (fun w F => rfl)
theorem el_28 : Elem Try.prog tyRule 28 (zRule) := elem_of (zv := .agg #[.int .i64 0, .slice none 0 0]) (by decide) (by kernel_rfl) rfl (fun w F => Rule_mk' _ _ _ im_nil)
theorem el_42 : Elem Try.prog tySpan 42 (zSpan) := elem_of (zv := .agg #[.int .i64 0, .int .i64 0, .int .i64 0]) (by decide) (by kernel_rfl) rfl (fun w F => Span_mk' _ _ _)
theorem el_46 : Elem Try.prog tyPart 46 (zPart) := elem_of (zv := .agg #[.int .i64 0, .int .i64 0, .int .i64 0, .int .i64 0]) (by decide) (by kernel_rfl) rfl (fun w F => Part_mk' _ _ _)
theorem el_183 : Elem Try.prog tyToken 183 (zToken) := elem_of (zv := .agg #[.int .i64 0, .string ⟨#[]⟩, .int .i64 0]) (by decide) (by kernel_rfl) rfl (fun w F => Token_mk' _ _ _)
theorem el_185 : Elem Try.prog tyAlt 185 (zAlt) := elem_of (zv := .agg #[.int .i64 0, .string ⟨#[]⟩, .int .i64 0, .slice none 0 0]) (by decide) (by kernel_rfl) rfl (fun w F => Alt_mk' _ _ _ im_nil)
theorem eq_42 (x0 : Int) (x1 : Int) (x2 : Int) (y0 : Int) (y1 : Int) (y2 : Int) (w : World) : (Op.equalIn 10000 42 (.agg #[.int .i64 x0, .int .i64 x1, .int .i64 x2]) (.agg #[.int .i64 y0, .int .i64 y1, .int .i64 y2])).run Try.prog w = .ok ((x0 == y0) && ((x1 == y1) && ((x2 == y2) && true))) w := sf_of Try.underlying42 (by kernel_rfl) (sf_int rfl Try.underlying3 (by first | (go_simp; done) | (go_simp; rfl)) (by first | (go_simp; done) | (go_simp; rfl)) (sf_int rfl Try.underlying3 (by first | (go_simp; done) | (go_simp; rfl)) (by first | (go_simp; done) | (go_simp; rfl)) (sf_int rfl Try.underlying3 (by first | (go_simp; done) | (go_simp; rfl)) (by first | (go_simp; done) | (go_simp; rfl)) sf_nil)))
theorem ge_42 : Try.prog.eqGuardType Try.prog.depth 42 = false := by kernel_rfl
theorem cf_24 (w : World) (vs : Array Value) : (callFunc 24 vs).run Try.prog w = .ok (.enter 24 vs) w := run_callFunc Try.func24 (by kernel_rfl) (by kernel_rfl) w vs
theorem cf_25 (w : World) (vs : Array Value) : (callFunc 25 vs).run Try.prog w = .ok (.enter 25 vs) w := run_callFunc Try.func25 (by kernel_rfl) (by kernel_rfl) w vs
theorem cf_26 (w : World) (vs : Array Value) : (callFunc 26 vs).run Try.prog w = .ok (.enter 26 vs) w := run_callFunc Try.func26 (by kernel_rfl) (by kernel_rfl) w vs
theorem cf_27 (w : World) (vs : Array Value) : (callFunc 27 vs).run Try.prog w = .ok (.enter 27 vs) w := run_callFunc Try.func27 (by kernel_rfl) (by kernel_rfl) w vs
theorem cf_28 (w : World) (vs : Array Value) : (callFunc 28 vs).run Try.prog w = .ok (.enter 28 vs) w := run_callFunc Try.func28 (by kernel_rfl) (by kernel_rfl) w vs
theorem cf_29 (w : World) (vs : Array Value) : (callFunc 29 vs).run Try.prog w = .ok (.enter 29 vs) w := run_callFunc Try.func29 (by kernel_rfl) (by kernel_rfl) w vs
theorem cf_30 (w : World) (vs : Array Value) : (callFunc 30 vs).run Try.prog w = .ok (.enter 30 vs) w := run_callFunc Try.func30 (by kernel_rfl) (by kernel_rfl) w vs
theorem cf_31 (w : World) (vs : Array Value) : (callFunc 31 vs).run Try.prog w = .ok (.enter 31 vs) w := run_callFunc Try.func31 (by kernel_rfl) (by kernel_rfl) w vs
theorem cf_32 (w : World) (vs : Array Value) : (callFunc 32 vs).run Try.prog w = .ok (.enter 32 vs) w := run_callFunc Try.func32 (by kernel_rfl) (by kernel_rfl) w vs
theorem cf_34 (w : World) (vs : Array Value) : (callFunc 34 vs).run Try.prog w = .ok (.enter 34 vs) w := run_callFunc Try.func34 (by kernel_rfl) (by kernel_rfl) w vs
theorem cf_40 (w : World) (vs : Array Value) : (callFunc 40 vs).run Try.prog w = .ok (.enter 40 vs) w := run_callFunc Try.func40 (by kernel_rfl) (by kernel_rfl) w vs
theorem cf_56 (w : World) (vs : Array Value) : (callFunc 56 vs).run Try.prog w = .ok (.enter 56 vs) w := run_callFunc Try.func56 (by kernel_rfl) (by kernel_rfl) w vs
theorem cf_74 (w : World) (vs : Array Value) : (callFunc 74 vs).run Try.prog w = .ok (.enter 74 vs) w := run_callFunc Try.func74 (by kernel_rfl) (by kernel_rfl) w vs
theorem cf_75 (w : World) (vs : Array Value) : (callFunc 75 vs).run Try.prog w = .ok (.enter 75 vs) w := run_callFunc Try.func75 (by kernel_rfl) (by kernel_rfl) w vs
theorem cf_76 (w : World) (vs : Array Value) : (callFunc 76 vs).run Try.prog w = .ok (.enter 76 vs) w := run_callFunc Try.func76 (by kernel_rfl) (by kernel_rfl) w vs
theorem cf_77 (w : World) (vs : Array Value) : (callFunc 77 vs).run Try.prog w = .ok (.enter 77 vs) w := run_callFunc Try.func77 (by kernel_rfl) (by kernel_rfl) w vs
theorem cf_78 (w : World) (vs : Array Value) : (callFunc 78 vs).run Try.prog w = .ok (.enter 78 vs) w := run_callFunc Try.func78 (by kernel_rfl) (by kernel_rfl) w vs
theorem cf_79 (w : World) (vs : Array Value) : (callFunc 79 vs).run Try.prog w = .ok (.enter 79 vs) w := run_callFunc Try.func79 (by kernel_rfl) (by kernel_rfl) w vs
theorem cf_80 (w : World) (vs : Array Value) : (callFunc 80 vs).run Try.prog w = .ok (.enter 80 vs) w := run_callFunc Try.func80 (by kernel_rfl) (by kernel_rfl) w vs
theorem cf_81 (w : World) (vs : Array Value) : (callFunc 81 vs).run Try.prog w = .ok (.enter 81 vs) w := run_callFunc Try.func81 (by kernel_rfl) (by kernel_rfl) w vs
theorem cf_82 (w : World) (vs : Array Value) : (callFunc 82 vs).run Try.prog w = .ok (.enter 82 vs) w := run_callFunc Try.func82 (by kernel_rfl) (by kernel_rfl) w vs
theorem cf_83 (w : World) (vs : Array Value) : (callFunc 83 vs).run Try.prog w = .ok (.enter 83 vs) w := run_callFunc Try.func83 (by kernel_rfl) (by kernel_rfl) w vs
theorem cf_84 (w : World) (vs : Array Value) : (callFunc 84 vs).run Try.prog w = .ok (.enter 84 vs) w := run_callFunc Try.func84 (by kernel_rfl) (by kernel_rfl) w vs
theorem cf_85 (w : World) (vs : Array Value) : (callFunc 85 vs).run Try.prog w = .ok (.enter 85 vs) w := run_callFunc Try.func85 (by kernel_rfl) (by kernel_rfl) w vs
theorem cf_86 (w : World) (vs : Array Value) : (callFunc 86 vs).run Try.prog w = .ok (.enter 86 vs) w := run_callFunc Try.func86 (by kernel_rfl) (by kernel_rfl) w vs
theorem cf_87 (w : World) (vs : Array Value) : (callFunc 87 vs).run Try.prog w = .ok (.enter 87 vs) w := run_callFunc Try.func87 (by kernel_rfl) (by kernel_rfl) w vs
theorem cf_111 (w : World) (vs : Array Value) : (callFunc 111 vs).run Try.prog w = .ok (.enter 111 vs) w := run_callFunc Try.func111 (by kernel_rfl) (by kernel_rfl) w vs
theorem cf_120 (w : World) (vs : Array Value) : (callFunc 120 vs).run Try.prog w = .ok (.enter 120 vs) w := run_callFunc Try.func120 (by kernel_rfl) (by kernel_rfl) w vs
theorem cf_121 (w : World) (vs : Array Value) : (callFunc 121 vs).run Try.prog w = .ok (.enter 121 vs) w := run_callFunc Try.func121 (by kernel_rfl) (by kernel_rfl) w vs
theorem cf_122 (w : World) (vs : Array Value) : (callFunc 122 vs).run Try.prog w = .ok (.enter 122 vs) w := run_callFunc Try.func122 (by kernel_rfl) (by kernel_rfl) w vs
theorem cf_123 (w : World) (vs : Array Value) : (callFunc 123 vs).run Try.prog w = .ok (.enter 123 vs) w := run_callFunc Try.func123 (by kernel_rfl) (by kernel_rfl) w vs
theorem cf_124 (w : World) (vs : Array Value) : (callFunc 124 vs).run Try.prog w = .ok (.enter 124 vs) w := run_callFunc Try.func124 (by kernel_rfl) (by kernel_rfl) w vs
theorem cf_125 (w : World) (vs : Array Value) : (callFunc 125 vs).run Try.prog w = .ok (.enter 125 vs) w := run_callFunc Try.func125 (by kernel_rfl) (by kernel_rfl) w vs
theorem cf_126 (w : World) (vs : Array Value) : (callFunc 126 vs).run Try.prog w = .ok (.enter 126 vs) w := run_callFunc Try.func126 (by kernel_rfl) (by kernel_rfl) w vs
theorem cf_127 (w : World) (vs : Array Value) : (callFunc 127 vs).run Try.prog w = .ok (.enter 127 vs) w := run_callFunc Try.func127 (by kernel_rfl) (by kernel_rfl) w vs
theorem cf_128 (w : World) (vs : Array Value) : (callFunc 128 vs).run Try.prog w = .ok (.enter 128 vs) w := run_callFunc Try.func128 (by kernel_rfl) (by kernel_rfl) w vs
theorem cf_129 (w : World) (vs : Array Value) : (callFunc 129 vs).run Try.prog w = .ok (.enter 129 vs) w := run_callFunc Try.func129 (by kernel_rfl) (by kernel_rfl) w vs
theorem cf_130 (w : World) (vs : Array Value) : (callFunc 130 vs).run Try.prog w = .ok (.enter 130 vs) w := run_callFunc Try.func130 (by kernel_rfl) (by kernel_rfl) w vs
theorem cf_131 (w : World) (vs : Array Value) : (callFunc 131 vs).run Try.prog w = .ok (.enter 131 vs) w := run_callFunc Try.func131 (by kernel_rfl) (by kernel_rfl) w vs
theorem cf_132 (w : World) (vs : Array Value) : (callFunc 132 vs).run Try.prog w = .ok (.enter 132 vs) w := run_callFunc Try.func132 (by kernel_rfl) (by kernel_rfl) w vs
theorem cf_133 (w : World) (vs : Array Value) : (callFunc 133 vs).run Try.prog w = .ok (.enter 133 vs) w := run_callFunc Try.func133 (by kernel_rfl) (by kernel_rfl) w vs
theorem cf_134 (w : World) (vs : Array Value) : (callFunc 134 vs).run Try.prog w = .ok (.enter 134 vs) w := run_callFunc Try.func134 (by kernel_rfl) (by kernel_rfl) w vs
theorem cf_135 (w : World) (vs : Array Value) : (callFunc 135 vs).run Try.prog w = .ok (.enter 135 vs) w := run_callFunc Try.func135 (by kernel_rfl) (by kernel_rfl) w vs
theorem cf_150 (w : World) (vs : Array Value) : (callFunc 150 vs).run Try.prog w = .ok (.enter 150 vs) w := run_callFunc Try.func150 (by kernel_rfl) (by kernel_rfl) w vs
theorem cf_160 (w : World) (vs : Array Value) : (callFunc 160 vs).run Try.prog w = .ok (.enter 160 vs) w := run_callFunc Try.func160 (by kernel_rfl) (by kernel_rfl) w vs
theorem cf_161 (w : World) (vs : Array Value) : (callFunc 161 vs).run Try.prog w = .ok (.enter 161 vs) w := run_callFunc Try.func161 (by kernel_rfl) (by kernel_rfl) w vs
theorem cf_162 (w : World) (vs : Array Value) : (callFunc 162 vs).run Try.prog w = .ok (.enter 162 vs) w := run_callFunc Try.func162 (by kernel_rfl) (by kernel_rfl) w vs
theorem cf_163 (w : World) (vs : Array Value) : (callFunc 163 vs).run Try.prog w = .ok (.enter 163 vs) w := run_callFunc Try.func163 (by kernel_rfl) (by kernel_rfl) w vs
theorem cf_164 (w : World) (vs : Array Value) : (callFunc 164 vs).run Try.prog w = .ok (.enter 164 vs) w := run_callFunc Try.func164 (by kernel_rfl) (by kernel_rfl) w vs
theorem cf_165 (w : World) (vs : Array Value) : (callFunc 165 vs).run Try.prog w = .ok (.enter 165 vs) w := run_callFunc Try.func165 (by kernel_rfl) (by kernel_rfl) w vs
theorem cf_166 (w : World) (vs : Array Value) : (callFunc 166 vs).run Try.prog w = .ok (.enter 166 vs) w := run_callFunc Try.func166 (by kernel_rfl) (by kernel_rfl) w vs
theorem cf_167 (w : World) (vs : Array Value) : (callFunc 167 vs).run Try.prog w = .ok (.enter 167 vs) w := run_callFunc Try.func167 (by kernel_rfl) (by kernel_rfl) w vs
theorem cf_168 (w : World) (vs : Array Value) : (callFunc 168 vs).run Try.prog w = .ok (.enter 168 vs) w := run_callFunc Try.func168 (by kernel_rfl) (by kernel_rfl) w vs
theorem cf_169 (w : World) (vs : Array Value) : (callFunc 169 vs).run Try.prog w = .ok (.enter 169 vs) w := run_callFunc Try.func169 (by kernel_rfl) (by kernel_rfl) w vs
theorem cf_170 (w : World) (vs : Array Value) : (callFunc 170 vs).run Try.prog w = .ok (.enter 170 vs) w := run_callFunc Try.func170 (by kernel_rfl) (by kernel_rfl) w vs
theorem cf_171 (w : World) (vs : Array Value) : (callFunc 171 vs).run Try.prog w = .ok (.enter 171 vs) w := run_callFunc Try.func171 (by kernel_rfl) (by kernel_rfl) w vs
theorem cf_172 (w : World) (vs : Array Value) : (callFunc 172 vs).run Try.prog w = .ok (.enter 172 vs) w := run_callFunc Try.func172 (by kernel_rfl) (by kernel_rfl) w vs
theorem cf_173 (w : World) (vs : Array Value) : (callFunc 173 vs).run Try.prog w = .ok (.enter 173 vs) w := run_callFunc Try.func173 (by kernel_rfl) (by kernel_rfl) w vs
theorem cf_174 (w : World) (vs : Array Value) : (callFunc 174 vs).run Try.prog w = .ok (.enter 174 vs) w := run_callFunc Try.func174 (by kernel_rfl) (by kernel_rfl) w vs
theorem cf_175 (w : World) (vs : Array Value) : (callFunc 175 vs).run Try.prog w = .ok (.enter 175 vs) w := run_callFunc Try.func175 (by kernel_rfl) (by kernel_rfl) w vs
theorem cf_186 (w : World) (vs : Array Value) : (callFunc 186 vs).run Try.prog w = .ok (.enter 186 vs) w := run_callFunc Try.func186 (by kernel_rfl) (by kernel_rfl) w vs
theorem cf_187 (w : World) (vs : Array Value) : (callFunc 187 vs).run Try.prog w = .ok (.enter 187 vs) w := run_callFunc Try.func187 (by kernel_rfl) (by kernel_rfl) w vs
theorem cf_188 (w : World) (vs : Array Value) : (callFunc 188 vs).run Try.prog w = .ok (.enter 188 vs) w := run_callFunc Try.func188 (by kernel_rfl) (by kernel_rfl) w vs
theorem cf_189 (w : World) (vs : Array Value) : (callFunc 189 vs).run Try.prog w = .ok (.enter 189 vs) w := run_callFunc Try.func189 (by kernel_rfl) (by kernel_rfl) w vs
theorem cf_190 (w : World) (vs : Array Value) : (callFunc 190 vs).run Try.prog w = .ok (.enter 190 vs) w := run_callFunc Try.func190 (by kernel_rfl) (by kernel_rfl) w vs
theorem cf_191 (w : World) (vs : Array Value) : (callFunc 191 vs).run Try.prog w = .ok (.enter 191 vs) w := run_callFunc Try.func191 (by kernel_rfl) (by kernel_rfl) w vs
theorem cf_192 (w : World) (vs : Array Value) : (callFunc 192 vs).run Try.prog w = .ok (.enter 192 vs) w := run_callFunc Try.func192 (by kernel_rfl) (by kernel_rfl) w vs
def cv_46 (x : Part) : Value := .agg #[.int .i64 x.rule, .int .i64 x.dot, .int .i64 x.i, .int .i64 x.j]
theorem idles_122 (x0 : Value) (x1 : Value) : Idles Try.prog 122 (#[] ++ #[x0, x1]) := by
 refine idles_start Try.func122 rfl Try.ntmps122 (show 2 ≤ 18 by decide) Try.results122 (fun a cs w hr f => ?_)
 have M : MB 18 [] [] a := ⟨f, Bas.nil⟩
 refine wpS_seq (s_recover rfl hr M.f (lt rfl) (fun a p => ?_))
 have M := M.put p rfl
 refine pn (j := 2) E 1 M rfl rfl fun a M => x_end rfl <| wpS_of_wp <| c_seq <| c_reg <| pn (j := 1) E 1 M rfl rfl fun a M => ov rfl rfl M (x_nilneq Try.underlying20 (M.e 0 rfl) (e_const (v := .nilIface))) fun a M => x_end rfl <| q_then <| c_false (M.e 0 rfl) <| wp_skip ?_
 exact ⟨.inl rfl, M.f.defers, rfl, rfl⟩
theorem idles_160 (x0 : Value) (x1 : Value) : Idles Try.prog 160 (#[] ++ #[x0, x1]) := by
 refine idles_start Try.func160 rfl Try.ntmps160 (show 2 ≤ 19 by decide) Try.results160 (fun a cs w hr f => ?_)
 have M : MB 19 [] [] a := ⟨f, Bas.nil⟩
 refine wpS_seq (s_recover rfl hr M.f (lt rfl) (fun a p => ?_))
 have M := M.put p rfl
 refine pn (j := 2) E 1 M rfl rfl fun a M => x_end rfl <| wpS_of_wp <| c_seq <| c_reg <| pn (j := 1) E 1 M rfl rfl fun a M => ov rfl rfl M (x_nilneq Try.underlying20 (M.e 0 rfl) (e_const (v := .nilIface))) fun a M => x_end rfl <| q_then <| c_false (M.e 0 rfl) <| wp_skip ?_
 exact ⟨.inl rfl, M.f.defers, rfl, rfl⟩
theorem idles_163 (x0 : Value) (x1 : Value) : Idles Try.prog 163 (#[] ++ #[x0, x1]) := by
 refine idles_start Try.func163 rfl Try.ntmps163 (show 2 ≤ 17 by decide) Try.results163 (fun a cs w hr f => ?_)
 have M : MB 17 [] [] a := ⟨f, Bas.nil⟩
 refine wpS_seq (s_recover rfl hr M.f (lt rfl) (fun a p => ?_))
 have M := M.put p rfl
 refine pn (j := 2) E 1 M rfl rfl fun a M => x_end rfl <| wpS_of_wp <| c_seq <| c_reg <| pn (j := 1) E 1 M rfl rfl fun a M => ov rfl rfl M (x_nilneq Try.underlying20 (M.e 0 rfl) (e_const (v := .nilIface))) fun a M => x_end rfl <| q_then <| c_false (M.e 0 rfl) <| wp_skip ?_
 exact ⟨.inl rfl, M.f.defers, rfl, rfl⟩
theorem mixed : Try.prog.follows .mixedOrders = true := by kernel_rfl
end Go.Proofs.Ythilemcdhkfhlaa
namespace Go.Proofs.Ythilemcdhkfhlaa
open Go Go.RowKit Go.Gc Go.Proofs
def okRule (x : Rule) : Prop := (Lit.int .i64 x.left).wf = true ∧ (x.right.length ≤ maxLen ∧ ∀ y ∈ x.right, (Lit.int .i64 y).wf = true)
theorem opn_28 : Opn Try.prog 28 tyRule okRule := opn_struct (ok := fun p : Int × (List Int) => (Lit.int .i64 p.1).wf = true ∧ (p.2.length ≤ maxLen ∧ ∀ y ∈ p.2, (Lit.int .i64 y).wf = true)) (fun x : Rule => (x.left, x.right)) (fun p => ⟨p.1, p.2⟩) (fun _ => rfl) Try.underlying28 (by kernel_rfl) (opnL_cons (opn_int Try.underlying3 (by kernel_rfl)) rfl rfl (opnL_one (opn_slice (hE := by decide) Try.underlying26 (by kernel_rfl) (opn_int Try.underlying3 (by kernel_rfl))) rfl))
def okGrammar (x : Grammar) : Prop := (x.terms.length ≤ maxLen ∧ ∀ y ∈ x.terms, y.size ≤ maxLen) ∧ (x.names.length ≤ maxLen ∧ ∀ y ∈ x.names, y.size ≤ maxLen) ∧ (x.rules.length ≤ maxLen ∧ ∀ y ∈ x.rules, okRule y)
theorem opn_25 : Opn Try.prog 25 tyGrammar okGrammar := opn_struct (ok := fun p : (List ByteArray) × (List ByteArray) × (List Rule) => (p.1.length ≤ maxLen ∧ ∀ y ∈ p.1, y.size ≤ maxLen) ∧ (p.2.1.length ≤ maxLen ∧ ∀ y ∈ p.2.1, y.size ≤ maxLen) ∧ (p.2.2.length ≤ maxLen ∧ ∀ y ∈ p.2.2, okRule y)) (fun x : Grammar => (x.terms, x.names, x.rules)) (fun p => ⟨p.1, p.2.1, p.2.2⟩) (fun _ => rfl) Try.underlying25 (by kernel_rfl) (opnL_cons (opn_slice (hE := by decide) Try.underlying22 (by kernel_rfl) (opn_str Try.underlying9 (by kernel_rfl))) rfl rfl (opnL_cons (opn_slice (hE := by decide) Try.underlying22 (by kernel_rfl) (opn_str Try.underlying9 (by kernel_rfl))) rfl rfl (opnL_one (opn_slice (hE := by decide) Try.underlying23 (by kernel_rfl) opn_28) rfl)))
end Go.Proofs.Ythilemcdhkfhlaa
namespace Go.Proofs.Ythilemcdhkfhlaa
open Go Go.RowKit Go.Gc Go.Proofs
def chart_Chart_at (k : Nat) (p1 : Int) (p2 : Int) (p3 : Int) (p5 : List ByteArray) (p9 : List ByteArray) (p13 : List Rule) (p17 : Int) (p20 : List Bool) (p23 : List Bool) (p26 : List Int) (p29 : List Part) (c32 : Nat) (p33 : List Part) : Option Unit :=
  some ()
theorem chart_Chart_at_calls {k : Nat} {p1 : Int} {p2 : Int} {p3 : Int} {g4 : Nat} {p5 : List ByteArray} {v6 : Value} {p9 : List ByteArray} {v10 : Value} {p13 : List Rule} {v14 : Value} {p17 : Int} {v19 : Value} {p20 : List Bool} {v22 : Value} {p23 : List Bool} {v25 : Value} {p26 : List Int} {v28 : Value} {p29 : List Part} {g31 : Nat} {c32 : Nat} {p33 : List Part} {r : Unit} (h : chart_Chart_at k p1 p2 p3 p5 p9 p13 p17 p20 p23 p26 p29 c32 p33 = some r) {w0 : World} {o0 : Own} (hown : Hown o0)
    (i8 : ((tSlice 9 tStr (by decide))).im w0 (L o0 0) p5 [v6])
    (i12 : ((tSlice 9 tStr (by decide))).im w0 (L o0 0) p9 [v10])
    (i16 : ((tSlice 28 tyRule (by decide))).im w0 (L o0 0) p13 [v14])
    (q18 : Box w0 o0 1 g4 116 #[v6, v10, v14, .int .i64 p17, v19, v22, v25, v28, .chan (some g31)])
    (q21 : Row tBool 4 w0 o0 2 v19 p20)
    (q24 : Row tBool 4 w0 o0 3 v22 p23)
    (q27 : Row (tInt .i64) 3 w0 o0 4 v25 p26)
    (q30 : Row tyPart 46 w0 o0 5 v28 p29)
    (q34 : Chan w0 o0 6 g31 c32 (p33.map cv_46)) :
    Calls Try.prog 81 #[.pointer (some ⟨g4, 0, none⟩), .int .i64 p1, .int .i64 p2, .int .i64 p3] w0 (fun e w => ∃ (o53 : Own), e = .returned (.int .i64 (IntKind.wrap .i64 ((IntKind.wrap .i64 ((IntKind.wrap .i64 ((IntKind.wrap .i64 (p1 * (IntKind.wrap .i64 (p17 + (1 : Int))))) + p2)) * (IntKind.wrap .i64 (p17 + (1 : Int))))) + p3))) ∧ Tr (Ls o0 []) w0 o0 w o53) := by
 unfold chart_Chart_at at h
 refine startM Try.func81 rfl Try.ntmps81 (show 4 ≤ 26 by decide) fun a M => ?_
 have M : MB 26 [] [(0, .pointer (some ⟨g4, 0, none⟩)), (1, .int .i64 p1), (2, .int .i64 p2), (3, .int .i64 p3)] a := M
 obtain ⟨A35, c36, hzc36, -⟩ := q21.form
 subst hzc36
 obtain ⟨A37, c38, hzc38, -⟩ := q24.form
 subst hzc38
 obtain ⟨A39, c40, hzc40, -⟩ := q27.form
 subst hzc40
 obtain ⟨A41, c42, hzc42, -⟩ := q30.form
 subst hzc42
 obtain ⟨A43, c44, hzc44, -⟩ := im_form i8
 subst hzc44
 obtain ⟨A45, c46, hzc46, -⟩ := im_form i12
 subst hzc46
 obtain ⟨A47, c48, hzc48, -⟩ := im_form i16
 subst hzc48
 have T0 : Tr (Ls o0 []) w0 o0 w0 o0 := Tr.refl _ _ _
 refine c_seq <| c_reg <| pn (j := 1) E 1 M rfl rfl fun a M => x_end rfl <| q_then <| c_seq ?_
 have M := M.pk [1, 2, 3, 4] rfl
 refine draw_p E mixed [0, 0, 2, 6, 14, 30, 63, 0, 255, 0, 512, 1536, 3584, 7680, 16383, 0, 65535, 131071] (by kernel_rfl) rfl M [(4, .int .i64 p17), (12, .int .i64 p17)] rfl rfl rfl o0 ⟨fun a w o M G r => qv rfl rfl M rfl (x_load ld_3 (G.e 3 rfl rfl) ((q18.kn r).cell (n := 3) rfl)),
   fun a w o M G r => qv rfl rfl M rfl (x_load ld_3 (G.e 11 rfl rfl) ((q18.kn r).cell (n := 3) rfl)),
   trivial⟩ ?_
 intro a w50 o51 M t52
 refine q_then <| wp_ret ?_
 have u1 := T0.kn t52
 obtain rfl := sj h
 exact ⟨M.f.defers, _, (res1 Try.results81 (rv_tmp (M.t 17 rfl))), ⟨o51, rfl, u1⟩⟩
end Go.Proofs.Ythilemcdhkfhlaa
namespace Go.Proofs.Ythilemcdhkfhlaa
open Go Go.RowKit Go.Gc Go.Proofs
def chart_Chart_in (k : Nat) (p1 : Int) (p2 : Int) (p4 : List ByteArray) (p8 : List ByteArray) (p12 : List Rule) (p16 : Int) (p19 : List Bool) (p22 : List Bool) (p25 : List Int) (p28 : List Part) (c31 : Nat) (p32 : List Part) : Option Bool :=
  if (decide ((0 : Int) ≤ p1)) = true then (if (decide ((0 : Int) ≤ p2)) = true then (if (decide (p1 ≤ p16)) = true then (some (decide (p2 ≤ p16))) else (some false)) else (some false)) else (some false)
theorem chart_Chart_in_calls {k : Nat} {p1 : Int} {p2 : Int} {g3 : Nat} {p4 : List ByteArray} {v5 : Value} {p8 : List ByteArray} {v9 : Value} {p12 : List Rule} {v13 : Value} {p16 : Int} {v18 : Value} {p19 : List Bool} {v21 : Value} {p22 : List Bool} {v24 : Value} {p25 : List Int} {v27 : Value} {p28 : List Part} {g30 : Nat} {c31 : Nat} {p32 : List Part} {r : Bool} (h : chart_Chart_in k p1 p2 p4 p8 p12 p16 p19 p22 p25 p28 c31 p32 = some r) {w0 : World} {o0 : Own} (hown : Hown o0)
    (i7 : ((tSlice 9 tStr (by decide))).im w0 (L o0 0) p4 [v5])
    (i11 : ((tSlice 9 tStr (by decide))).im w0 (L o0 0) p8 [v9])
    (i15 : ((tSlice 28 tyRule (by decide))).im w0 (L o0 0) p12 [v13])
    (q17 : Box w0 o0 1 g3 116 #[v5, v9, v13, .int .i64 p16, v18, v21, v24, v27, .chan (some g30)])
    (q20 : Row tBool 4 w0 o0 2 v18 p19)
    (q23 : Row tBool 4 w0 o0 3 v21 p22)
    (q26 : Row (tInt .i64) 3 w0 o0 4 v24 p25)
    (q29 : Row tyPart 46 w0 o0 5 v27 p28)
    (q33 : Chan w0 o0 6 g30 c31 (p32.map cv_46)) :
    Calls Try.prog 85 #[.pointer (some ⟨g3, 0, none⟩), .int .i64 p1, .int .i64 p2] w0 (fun e w => ∃ (o48 : Own), e = .returned (.bool r) ∧ Tr (Ls o0 []) w0 o0 w o48) := by
 unfold chart_Chart_in at h
 refine startM Try.func85 rfl Try.ntmps85 (show 3 ≤ 29 by decide) fun a M => ?_
 have M : MB 29 [] [(0, .pointer (some ⟨g3, 0, none⟩)), (1, .int .i64 p1), (2, .int .i64 p2)] a := M
 obtain ⟨A34, c35, hzc35, -⟩ := q20.form
 subst hzc35
 obtain ⟨A36, c37, hzc37, -⟩ := q23.form
 subst hzc37
 obtain ⟨A38, c39, hzc39, -⟩ := q26.form
 subst hzc39
 obtain ⟨A40, c41, hzc41, -⟩ := q29.form
 subst hzc41
 obtain ⟨A42, c43, hzc43, -⟩ := im_form i7
 subst hzc43
 obtain ⟨A44, c45, hzc45, -⟩ := im_form i11
 subst hzc45
 obtain ⟨A46, c47, hzc47, -⟩ := im_form i15
 subst hzc47
 have T0 : Tr (Ls o0 []) w0 o0 w0 o0 := Tr.refl _ _ _
 refine c_seq <| c_reg <| pn (j := 1) E 1 M rfl rfl fun a M => x_end rfl <| q_then <| c_seq <| c_reg <| pn (j := 3) E 3 M rfl rfl fun a M => ?_
 by_cases hk1 : (decide ((0 : Int) ≤ p1)) = true
 ·rw [if_pos hk1] at h
  have M := M.k 9 rfl hk1
  refine pn (j := 7) E 4 M rfl rfl fun a M => ?_
  by_cases hk2 : (decide ((0 : Int) ≤ p2)) = true
  ·rw [if_pos hk2] at h
   have M := M.k 13 rfl hk2
   refine pn (j := 11) E 4 M rfl rfl fun a M => ow rfl (wanted_yes rfl rfl (M.t 4 rfl)) rfl rfl M (x_load ld_3 (M.e 0 rfl) (q17.cell (n := 3) rfl)) fun a M => pn (j := 15) E 3 M rfl rfl fun a M => ?_
   by_cases hk3 : (decide (p1 ≤ p16)) = true
   ·rw [if_pos hk3] at h
    have M := M.k 21 rfl hk3
    refine pn (j := 19) E 4 M rfl rfl fun a M => ow rfl (wanted_yes rfl rfl (M.t 4 rfl)) rfl rfl M (x_load ld_3 (M.e 0 rfl) (q17.cell (n := 3) rfl)) fun a M => pn (j := 22) E 2 M rfl rfl fun a M => ?_
    have M := M.pk [0, 1, 2, 3, 4, 5, 6, 7, 8, 9, 10, 11, 12, 13, 14, 15, 16, 17, 18, 19, 20, 21, 23, 24, 25] rfl
    refine pn (j := 23) E 1 M rfl rfl fun a M => x_end rfl <| q_then <| wp_ret ?_
    obtain rfl := sj h
    exact ⟨M.f.defers, _, (res1 Try.results85 (rv_tmp (M.t 0 rfl))), ⟨o0, rfl, T0⟩⟩
   rw [if_neg hk3] at h
   have hk3 := nott hk3
   have M := M.k 21 rfl hk3
   refine pn (j := 22) E 7 M rfl rfl fun a M => ?_
   have M := M.pk [0, 1, 2, 3, 4, 5, 6, 7, 8, 9, 10, 11, 12, 13, 14, 15, 16, 17, 18, 19, 20, 21, 23, 24, 25] rfl
   refine pn (j := 23) E 1 M rfl rfl fun a M => x_end rfl <| q_then <| wp_ret ?_
   obtain rfl := sj h
   exact ⟨M.f.defers, _, (res1 Try.results85 (rv_tmp (M.t 0 rfl))), ⟨o0, rfl, T0⟩⟩
  rw [if_neg hk2] at h
  have hk2 := nott hk2
  have M := M.k 13 rfl hk2
  refine pn (j := 22) E 15 M rfl rfl fun a M => ?_
  have M := M.pk [0, 1, 2, 3, 4, 5, 6, 7, 8, 9, 10, 11, 12, 13, 14, 15, 16, 17, 18, 19, 20, 21, 23, 24, 25] rfl
  refine pn (j := 23) E 1 M rfl rfl fun a M => x_end rfl <| q_then <| wp_ret ?_
  obtain rfl := sj h
  exact ⟨M.f.defers, _, (res1 Try.results85 (rv_tmp (M.t 0 rfl))), ⟨o0, rfl, T0⟩⟩
 rw [if_neg hk1] at h
 have hk1 := nott hk1
 have M := M.k 9 rfl hk1
 refine pn (j := 22) E 19 M rfl rfl fun a M => ?_
 have M := M.pk [0, 1, 2, 3, 4, 5, 6, 7, 8, 9, 10, 11, 12, 13, 14, 15, 16, 17, 18, 19, 20, 21, 23, 24, 25] rfl
 refine pn (j := 23) E 1 M rfl rfl fun a M => x_end rfl <| q_then <| wp_ret ?_
 obtain rfl := sj h
 exact ⟨M.f.defers, _, (res1 Try.results85 (rv_tmp (M.t 0 rfl))), ⟨o0, rfl, T0⟩⟩
end Go.Proofs.Ythilemcdhkfhlaa
namespace Go.Proofs.Ythilemcdhkfhlaa
open Go Go.RowKit Go.Gc Go.Proofs
def grammar_Name (k : Nat) (p1 : Grammar) (p11 : Int) : Option (ByteArray × Bool) :=
  if (decide (p11 < (0 : Int))) = true then (some ((ByteArray.mk #[]), false)) else (if (decide ((IntKind.wrap .i64 ((p1.terms.length : Int) + (p1.names.length : Int))) ≤ p11)) = true then (some ((ByteArray.mk #[]), false)) else (if (decide (p11 < (p1.terms.length : Int))) = true then ((at? p1.terms p11).bind fun x24 => some (x24, true)) else ((at? p1.names (IntKind.wrap .i64 (p11 - (p1.terms.length : Int)))).bind fun x34 => some (x34, true))))
theorem grammar_Name_calls {k : Nat} {p1 : Grammar} {v2 : Value} {v5 : Value} {v8 : Value} {p11 : Int} {r : (ByteArray × Bool)} (h : grammar_Name k p1 p11 = some r) {w0 : World} {o0 : Own} (hown : Hown o0)
    (i4 : ((tSlice 9 tStr (by decide))).im w0 (L o0 0) p1.terms [v2])
    (i7 : ((tSlice 9 tStr (by decide))).im w0 (L o0 0) p1.names [v5])
    (i10 : ((tSlice 28 tyRule (by decide))).im w0 (L o0 0) p1.rules [v8]) :
    Calls Try.prog 86 #[.agg #[v2, v5, v8], .int .i64 p11] w0 (fun e w => ∃ (o44 : Own), e = .returned (.tuple #[.string r.1, .bool r.2]) ∧ Tr (Ls o0 []) w0 o0 w o44) := by
 unfold grammar_Name at h
 refine startM Try.func86 rfl Try.ntmps86 (show 2 ≤ 38 by decide) fun a M => ?_
 have M : MB 38 [] [(0, .agg #[v2, v5, v8]), (1, .int .i64 p11)] a := M
 obtain ⟨A12, c13, hzc13, -⟩ := im_form i4
 subst hzc13
 obtain ⟨A14, c15, hzc15, -⟩ := im_form i7
 subst hzc15
 obtain ⟨A16, c17, hzc17, -⟩ := im_form i10
 subst hzc17
 have T0 : Tr (Ls o0 []) w0 o0 w0 o0 := Tr.refl _ _ _
 refine c_seq <| c_reg ?_
 obtain ⟨g18, w19, o20, r21, b22, t23⟩ := b_box (P := Try.prog) (T := 25) (M.e 0 rfl) w0 o0 100
 refine ov rfl rfl M (r21 _ _ _ _ _) fun a M => pn (j := 3) E 2 M rfl rfl fun a M => x_end rfl <| q_then <| c_seq <| c_reg <| pn (j := 1) E 1 M rfl rfl fun a M => ov rfl rfl M (x_load ld_22 (M.e 0 rfl) (b22.cell (n := 0) rfl)) fun a M => pn (j := 4) E 2 M rfl rfl fun a M => x_end rfl <| q_then <| wp_block <| c_seq <| c_reg <| pn (j := 3) E 3 M rfl rfl fun a M => ?_
 by_cases hk2 : (decide (p11 < (0 : Int))) = true
 ·rw [if_pos hk2] at h
  have M := M.k 20 rfl hk2
  refine pn (j := 12) E 9 M rfl rfl fun a M => x_end rfl <| q_then <| c_true (M.e 0 rfl) <| c_seq <| c_reg ?_
  have M := M.pk [] rfl
  refine pn (j := 2) E 2 M rfl rfl fun a M => x_end rfl <| q_then <| wp_ret <| q_blk_ret ?_
  have u3 := T0.kn t23
  obtain rfl := sj h
  exact ⟨M.f.defers, _, (res2 Try.results86 (rv_tmp (M.t 1 rfl)) (rv_tmp (M.t 0 rfl))), ⟨o20, rfl, u3⟩⟩
 rw [if_neg hk2] at h
 have hk2 := nott hk2
 have M := M.k 20 rfl hk2
 refine pn (j := 6) E 3 M rfl rfl fun a M => ow rfl (wanted_yes rfl rfl (M.t 3 rfl)) rfl rfl M (x_load ld_22 (M.e 0 rfl) (b22.cell (n := 1) rfl)) fun a M => pn (j := 12) E 5 M rfl rfl fun a M => x_end rfl <| q_then ?_
 by_cases hk4 : (decide ((IntKind.wrap .i64 ((p1.terms.length : Int) + (p1.names.length : Int))) ≤ p11)) = true
 ·rw [if_pos hk4] at h
  have M := M.k 17 rfl hk4
  refine c_true (M.e 0 rfl) <| c_seq <| c_reg ?_
  have M := M.pk [] rfl
  refine pn (j := 2) E 2 M rfl rfl fun a M => x_end rfl <| q_then <| wp_ret <| q_blk_ret ?_
  have u5 := T0.kn t23
  obtain rfl := sj h
  exact ⟨M.f.defers, _, (res2 Try.results86 (rv_tmp (M.t 1 rfl)) (rv_tmp (M.t 0 rfl))), ⟨o20, rfl, u5⟩⟩
 rw [if_neg hk4] at h
 have hk4 := nott hk4
 have M := M.k 17 rfl hk4
 refine c_false (M.e 0 rfl) <| c_seq <| c_reg <| pn (j := 4) E 4 M rfl rfl fun a M => x_end rfl <| q_then ?_
 by_cases hk6 : (decide (p11 < (p1.terms.length : Int))) = true
 ·rw [if_pos hk6] at h
  have M := M.k 29 rfl hk6
  refine c_true (M.e 0 rfl) <| c_seq <| c_reg <| pn (j := 1) E 1 M rfl rfl fun a M => ov rfl rfl M (x_load ld_22 (M.e 0 rfl) (b22.cell (n := 0) rfl)) fun a M => pn (j := 3) E 1 M rfl rfl fun a M => ?_
  obtain ⟨x24, hx25, h⟩ := bind_some h
  obtain ⟨hx250, hx251, hx252⟩ := at_some hx25
  obtain ⟨g26, f27, c28, ds29, hv30, hd31, he32⟩ := im_elem (iN i4 t23) hx251
  have hsds29 : ds29 = [.string x24] := hd31
  subst hsds29
  have he32 : ElemAt w19 o20 0 g26 f27 (p11).toNat 1 [.string x24] := he32
  refine ov rfl rfl M (x_indexAddr Try.underlying22 sz_9 ((M.e 1 rfl).trans hv30) (M.e 0 rfl) hx250 hx252) fun a M => ov rfl rfl M (x_load ld_9 (M.e 0 rfl) (he32.2 0 _ rfl)) fun a M => ?_
  have M := M.pk [0, 1, 2, 3, 4, 27, 29] rfl
  refine pn (j := 7) E 2 M rfl rfl fun a M => x_end rfl <| q_then <| wp_ret <| q_blk_ret ?_
  have u7 := T0.kn t23
  obtain rfl := sj h
  exact ⟨M.f.defers, _, (res2 Try.results86 (rv_tmp (M.t 1 rfl)) (rv_tmp (M.t 0 rfl))), ⟨o20, rfl, u7⟩⟩
 rw [if_neg hk6] at h
 have hk6 := nott hk6
 have M := M.k 29 rfl hk6
 refine c_false (M.e 0 rfl) <| c_seq <| c_reg <| pn (j := 1) E 1 M rfl rfl fun a M => ov rfl rfl M (x_load ld_22 (M.e 0 rfl) (b22.cell (n := 1) rfl)) fun a M => pn (j := 5) E 3 M rfl rfl fun a M => ?_
 obtain ⟨x34, hx35, h⟩ := bind_some h
 obtain ⟨hx350, hx351, hx352⟩ := at_some hx35
 obtain ⟨g36, f37, c38, ds39, hv40, hd41, he42⟩ := im_elem (iN i7 t23) hx351
 have hsds39 : ds39 = [.string x34] := hd41
 subst hsds39
 have he42 : ElemAt w19 o20 0 g36 f37 (IntKind.wrap .i64 (p11 - (p1.terms.length : Int))).toNat 1 [.string x34] := he42
 refine ov rfl rfl M (x_indexAddr Try.underlying22 sz_9 ((M.e 3 rfl).trans hv40) (M.e 0 rfl) hx350 hx352) fun a M => ov rfl rfl M (x_load ld_9 (M.e 0 rfl) (he42.2 0 _ rfl)) fun a M => ?_
 have M := M.pk [0, 1, 2, 3, 4, 5, 6, 23, 29, 31] rfl
 refine pn (j := 9) E 2 M rfl rfl fun a M => x_end rfl <| q_then <| wp_ret <| q_blk_ret ?_
 have u8 := T0.kn t23
 obtain rfl := sj h
 exact ⟨M.f.defers, _, (res2 Try.results86 (rv_tmp (M.t 1 rfl)) (rv_tmp (M.t 0 rfl))), ⟨o20, rfl, u8⟩⟩
end Go.Proofs.Ythilemcdhkfhlaa
namespace Go.Proofs.Ythilemcdhkfhlaa
open Go Go.RowKit Go.Gc Go.Proofs
def chart_Chart_Sym (k : Nat) (p1 : Span) (p3 : List ByteArray) (p7 : List ByteArray) (p11 : List Rule) (p15 : Int) (p18 : List Bool) (p21 : List Bool) (p24 : List Int) (p27 : List Part) (c30 : Nat) (p31 : List Part) : Option Bool :=
  (chart_Chart_in k p1.i p1.j p3 p7 p11 p15 p18 p21 p24 p27 c30 p31).bind fun r73 => if (!r73) = true then (some false) else ((grammar_Name k (⟨p3, p7, p11⟩ : Grammar) p1.sym).bind fun r84 => if r84.2 = true then ((chart_Chart_at k p1.sym p1.i p1.j p3 p7 p11 p15 p18 p21 p24 p27 c30 p31).bind fun r98 => (at? p18 (IntKind.wrap .i64 ((IntKind.wrap .i64 ((IntKind.wrap .i64 ((IntKind.wrap .i64 (p1.sym * (IntKind.wrap .i64 (p15 + (1 : Int))))) + p1.i)) * (IntKind.wrap .i64 (p15 + (1 : Int))))) + p1.j))).bind fun x108 => some x108) else (some false))
theorem chart_Chart_Sym_calls {k : Nat} {p1 : Span} {g2 : Nat} {p3 : List ByteArray} {v4 : Value} {p7 : List ByteArray} {v8 : Value} {p11 : List Rule} {v12 : Value} {p15 : Int} {v17 : Value} {p18 : List Bool} {v20 : Value} {p21 : List Bool} {v23 : Value} {p24 : List Int} {v26 : Value} {p27 : List Part} {g29 : Nat} {c30 : Nat} {p31 : List Part} {r : Bool} (h : chart_Chart_Sym k p1 p3 p7 p11 p15 p18 p21 p24 p27 c30 p31 = some r) {w0 : World} {o0 : Own} (hown : Hown o0)
    (i6 : ((tSlice 9 tStr (by decide))).im w0 (L o0 0) p3 [v4])
    (i10 : ((tSlice 9 tStr (by decide))).im w0 (L o0 0) p7 [v8])
    (i14 : ((tSlice 28 tyRule (by decide))).im w0 (L o0 0) p11 [v12])
    (q16 : Box w0 o0 1 g2 116 #[v4, v8, v12, .int .i64 p15, v17, v20, v23, v26, .chan (some g29)])
    (q19 : Row tBool 4 w0 o0 2 v17 p18)
    (q22 : Row tBool 4 w0 o0 3 v20 p21)
    (q25 : Row (tInt .i64) 3 w0 o0 4 v23 p24)
    (q28 : Row tyPart 46 w0 o0 5 v26 p27)
    (q32 : Chan w0 o0 6 g29 c30 (p31.map cv_46)) :
    Calls Try.prog 31 #[.pointer (some ⟨g2, 0, none⟩), .agg #[.int .i64 p1.sym, .int .i64 p1.i, .int .i64 p1.j]] w0 (fun e w => ∃ (o124 : Own), e = .returned (.bool r) ∧ Tr (Ls o0 []) w0 o0 w o124) := by
 unfold chart_Chart_Sym at h
 refine startM Try.func31 rfl Try.ntmps31 (show 2 ≤ 45 by decide) fun a M => ?_
 have M : MB 45 [] [(0, .pointer (some ⟨g2, 0, none⟩)), (1, .agg #[.int .i64 p1.sym, .int .i64 p1.i, .int .i64 p1.j])] a := M
 obtain ⟨A33, c34, hzc34, -⟩ := q19.form
 subst hzc34
 obtain ⟨A35, c36, hzc36, -⟩ := q22.form
 subst hzc36
 obtain ⟨A37, c38, hzc38, -⟩ := q25.form
 subst hzc38
 obtain ⟨A39, c40, hzc40, -⟩ := q28.form
 subst hzc40
 obtain ⟨A41, c42, hzc42, -⟩ := im_form i6
 subst hzc42
 obtain ⟨A43, c44, hzc44, -⟩ := im_form i10
 subst hzc44
 obtain ⟨A45, c46, hzc46, -⟩ := im_form i14
 subst hzc46
 have T0 : Tr (Ls o0 []) w0 o0 w0 o0 := Tr.refl _ _ _
 refine c_seq <| c_reg ?_
 obtain ⟨g47, w48, o49, r50, b51, t52⟩ := b_box (P := Try.prog) (T := 42) (M.e 1 rfl) w0 o0 100
 refine ov rfl rfl M (r50 _ _ _ _ _) fun a M => pn (j := 2) E 1 M rfl rfl fun a M => x_end rfl <| q_then <| c_seq <| c_seq <| c_reg <| pn (j := 5) E 5 M rfl rfl fun a M => ow rfl (wanted_yes rfl rfl (M.t 2 rfl)) rfl rfl M (x_load ld_3 (M.e 0 rfl) (b51.cell (n := 1) rfl)) fun a M => pn (j := 7) E 1 M rfl rfl fun a M => ow rfl (wanted_yes rfl rfl (M.t 4 rfl)) rfl rfl M (x_load ld_3 (M.e 0 rfl) (b51.cell (n := 2) rfl)) fun a M => ?_
 obtain ⟨r73, hr74, h⟩ := bind_some h
 refine oc rfl (wanted_yes rfl rfl (M.t 5 rfl)) rfl rfl M (x_call cf_85 (m3 (M.e 4 rfl) (M.e 2 rfl) (M.e 0 rfl))) (chart_Chart_in_calls hr74 (lko_own (T := [(0, 0), (1, 1), (2, 2), (3, 3), (4, 4), (5, 5), (6, 6)]) (o := o49) rfl) (sL (iN i6 t52) rfl) (sL (iN i10 t52) rfl) (sL (iN i14 t52) rfl) ((q16.kn t52).l rfl) ((q19.kn t52).l rfl rfl) ((q22.kn t52).l rfl rfl) ((q25.kn t52).l rfl rfl) ((q28.kn t52).l rfl rfl) ((q32.kn t52).l rfl)) (fun e4 w75 hp76 => ?_)
 obtain ⟨o77, he78, T79⟩ := hp76
 obtain ⟨o80, ho81⟩ := ex (mrg w48 o49 [(0, 0), (1, 1), (2, 2), (3, 3), (4, 4), (5, 5), (6, 6)] o77)
 have t82 := T79.r0 ho81
 refine ⟨_, he78, fun a M => ?_⟩
 refine pn (j := 11) E 2 M rfl rfl fun a M => x_end rfl <| q_then ?_
 by_cases hk5 : (!r73) = true
 ·rw [if_pos hk5] at h
  have M := M.k 17 rfl hk5
  refine c_true (M.e 0 rfl) <| c_seq <| c_reg ?_
  have M := M.pk [] rfl
  refine pn (j := 1) E 1 M rfl rfl fun a M => x_end rfl <| q_then <| wp_ret <| q_then_ret ?_
  have u6 := (T0.kn t52).kn t82
  obtain rfl := sj h
  exact ⟨M.f.defers, _, (res1 Try.results31 (rv_tmp (M.t 0 rfl))), ⟨o80, rfl, u6⟩⟩
 rw [if_neg hk5] at h
 have hk5 := nott hk5
 have M := M.k 17 rfl hk5
 refine c_false (M.e 0 rfl) <| wp_skip <| q_then <| c_seq ?_
 obtain ⟨r84, hr85, h⟩ := bind_some h
 refine draw_p E mixed [0, 1, 3, 7, 0, 16, 63, 127, 255, 255, 511, 2047] (by kernel_rfl) rfl M [(3, .agg #[.slice A41 p3.length c42, .slice A43 p7.length c44, .slice A45 p11.length c46]), (5, .int .i64 p1.sym), (6, .tuple #[.string r84.1, .bool r84.2])] rfl rfl rfl o80 ⟨fun a w o M G r => qv rfl rfl M rfl (x_loadN (ldn_25 _ rfl) (G.e 2 rfl rfl) ((((q16.kn t52).kn t82).kn r).sub (cs := #[.slice A41 p3.length c42, .slice A43 p7.length c44, .slice A45 p11.length c46]) 0 rfl)),
   fun a w o M G r => qv rfl rfl M rfl (x_load ld_3 (G.e 4 rfl rfl) (((b51.kn t82).kn r).cell (n := 0) rfl)),
   ?_,
   trivial⟩ ?_
 ·intro a w o M G r
  refine dc rfl (wp0 rfl) rfl rfl M (x_call cf_86 (m2 (G.e 3 rfl rfl) (G.e 5 rfl rfl))) (grammar_Name_calls hr85 (lko_own (T := [(0, 0)]) (o := o) rfl) (sL (iN (iN (iN i6 t52) t82) r) rfl) (sL (iN (iN (iN i10 t52) t82) r) rfl) (sL (iN (iN (iN i14 t52) t82) r) rfl)) (fun e9 w86 hp87 => ?_)
  obtain ⟨o88, he89, T90⟩ := hp87
  obtain ⟨o91, ho92⟩ := ex (mrg w o [(0, 0)] o88)
  have t93 := T90.r0 ho92
  refine ⟨_, he89, fun a' p => ?_⟩
  exact ⟨o91, _, _, rfl, p, t93⟩
 intro a w94 o95 M t96
 refine q_then <| c_seq ?_
 have M := M.pk [11, 24, 25] rfl
 by_cases hk21 : r84.2 = true
 ·rw [if_pos hk21] at h
  have u22 := ((q16.kn t52).kn t82).kn t96
  have u23 := iN (iN (iN i6 t52) t82) t96
  have u24 := iN (iN (iN i10 t52) t82) t96
  have u25 := iN (iN (iN i14 t52) t82) t96
  have u26 := ((q19.kn t52).kn t82).kn t96
  have u27 := ((q22.kn t52).kn t82).kn t96
  have u28 := ((q25.kn t52).kn t82).kn t96
  have u29 := ((q28.kn t52).kn t82).kn t96
  have u30 := ((q32.kn t52).kn t82).kn t96
  obtain ⟨r98, hr99, h⟩ := bind_some h
  obtain ⟨x108, hx109, h⟩ := bind_some h
  obtain ⟨hx1090, hx1091, hx1092⟩ := at_some hx109
  obtain ⟨g110, f111, c112, ds113, hv114, hd115, he116⟩ := Row.elem u26 hx1091
  have hsds113 : ds113 = [.bool x108] := hd115
  subst hsds113
  have he116 : ElemAt w94 o95 2 g110 f111 (IntKind.wrap .i64 ((IntKind.wrap .i64 ((IntKind.wrap .i64 ((IntKind.wrap .i64 (p1.sym * (IntKind.wrap .i64 (p15 + (1 : Int))))) + p1.i)) * (IntKind.wrap .i64 (p15 + (1 : Int))))) + p1.j)).toNat 1 [.bool x108] := he116
  have M := M.k 6 rfl hk21
  have u32 := ((q16.kn t52).kn t82).kn t96
  have u33 := ((q19.kn t52).kn t82).kn t96
  have u34 := ((q22.kn t52).kn t82).kn t96
  have u35 := ((q25.kn t52).kn t82).kn t96
  have u36 := ((q28.kn t52).kn t82).kn t96
  have u37 := ((q32.kn t52).kn t82).kn t96
  have u38 := iN (iN (iN i6 t52) t82) t96
  have u39 := iN (iN (iN i10 t52) t82) t96
  have u40 := iN (iN (iN i14 t52) t82) t96
  refine draw_p E mixed [0, 1, 3, 7, 15, 31, 3, 3, 131, 3, 515, 3, 2051, 8131, 16383, 32767, 65535, 131071] (by kernel_rfl) rfl M [(5, .slice A33 p18.length c34), (8, .int .i64 p1.sym), (10, .int .i64 p1.i), (12, .int .i64 p1.j), (13, .int .i64 (IntKind.wrap .i64 ((IntKind.wrap .i64 ((IntKind.wrap .i64 ((IntKind.wrap .i64 (p1.sym * (IntKind.wrap .i64 (p15 + (1 : Int))))) + p1.i)) * (IntKind.wrap .i64 (p15 + (1 : Int))))) + p1.j))), (14, .pointer (some ⟨g110, f111 + (IntKind.wrap .i64 ((IntKind.wrap .i64 ((IntKind.wrap .i64 ((IntKind.wrap .i64 (p1.sym * (IntKind.wrap .i64 (p15 + (1 : Int))))) + p1.i)) * (IntKind.wrap .i64 (p15 + (1 : Int))))) + p1.j)).toNat * 1, none⟩)), (15, .bool x108)] rfl rfl rfl o95 ⟨fun a w o M G r => qw rfl (wanted_yes rfl rfl (G.t 1 rfl rfl)) rfl rfl M rfl (x_load ld_48 (G.e 4 rfl rfl) ((u32.kn r).cell (n := 4) rfl)),
   fun a w o M G r => qw rfl (wanted_yes rfl rfl (G.t 1 rfl rfl)) rfl rfl M rfl (x_load ld_3 (G.e 7 rfl rfl) ((((b51.kn t82).kn t96).kn r).cell (n := 0) rfl)),
   fun a w o M G r => qw rfl (wanted_yes rfl rfl (G.t 1 rfl rfl)) rfl rfl M rfl (x_load ld_3 (G.e 9 rfl rfl) ((((b51.kn t82).kn t96).kn r).cell (n := 1) rfl)),
   fun a w o M G r => qw rfl (wanted_yes rfl rfl (G.t 1 rfl rfl)) rfl rfl M rfl (x_load ld_3 (G.e 11 rfl rfl) ((((b51.kn t82).kn t96).kn r).cell (n := 2) rfl)),
   ?_,
   fun a w o M G r => qw rfl (wanted_yes rfl rfl (G.t 1 rfl rfl)) rfl rfl M rfl (x_indexAddr Try.underlying48 sz_4 ((G.e 5 rfl rfl).trans hv114) (G.e 13 rfl rfl) hx1090 hx1092),
   fun a w o M G r => qw rfl (wanted_yes rfl rfl (G.t 1 rfl rfl)) rfl rfl M rfl (x_load ld_4 (G.e 14 rfl rfl) ((he116.kn r).2 0 _ rfl)),
   trivial⟩ ?_
  ·intro a w o M G r
   refine dc rfl (wanted_yes rfl rfl (G.t 1 rfl rfl)) rfl rfl M (x_call cf_81 (m4 (G.e 6 rfl rfl) (G.e 8 rfl rfl) (G.e 10 rfl rfl) (G.e 12 rfl rfl))) (chart_Chart_at_calls hr99 (lko_own (T := [(0, 0), (1, 1), (2, 2), (3, 3), (4, 4), (5, 5), (6, 6)]) (o := o) rfl) (sL (iN u38 r) rfl) (sL (iN u39 r) rfl) (sL (iN u40 r) rfl) ((u32.kn r).l rfl) ((u33.kn r).l rfl rfl) ((u34.kn r).l rfl rfl) ((u35.kn r).l rfl rfl) ((u36.kn r).l rfl rfl) ((u37.kn r).l rfl)) (fun e41 w100 hp101 => ?_)
   obtain ⟨o102, he103, T104⟩ := hp101
   obtain ⟨o105, ho106⟩ := ex (mrg w o [(0, 0), (1, 1), (2, 2), (3, 3), (4, 4), (5, 5), (6, 6)] o102)
   have t107 := T104.r0 ho106
   refine ⟨_, he103, fun a' p => ?_⟩
   exact ⟨o105, _, _, rfl, p, t107⟩
  intro a w118 o119 M t120
  refine q_then <| wp_ret ?_
  have u42 := (((T0.kn t52).kn t82).kn t96).kn t120
  obtain rfl := sj h
  exact ⟨M.f.defers, _, (res1 Try.results31 (rv_tmp (M.t 17 rfl))), ⟨o119, rfl, u42⟩⟩
 rw [if_neg hk21] at h
 have hk21 := nott hk21
 have M := M.k 6 rfl hk21
 refine draw_p E mixed [0, 1, 3, 7, 15, 31, 3, 3, 131, 3, 515, 3, 2051, 8131, 16383, 32767, 65535, 131071] (by kernel_rfl) rfl M [] rfl rfl rfl o95 trivial ?_
 intro a w121 o122 M t123
 refine q_then <| wp_ret ?_
 have u43 := (((T0.kn t52).kn t82).kn t96).kn t123
 obtain rfl := sj h
 exact ⟨M.f.defers, _, (res1 Try.results31 (rv_tmp (M.t 17 rfl))), ⟨o122, rfl, u43⟩⟩
end Go.Proofs.Ythilemcdhkfhlaa
