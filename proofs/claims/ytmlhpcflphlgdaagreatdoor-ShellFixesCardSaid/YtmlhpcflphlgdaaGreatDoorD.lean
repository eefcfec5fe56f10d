/- The function with a deferred closure. PRINTED by a program of this repo. -/
import Derived.Test.YtmlhpcflphlgdaaGreatDoorN
import Derived.Test.YtmlhpcflphlgdaaGreatDoorM
import Derived.Test.YtmlhpcflphlgdaaGreatDoorEv5
set_option maxRecDepth 100000
namespace Go.Proofs.YtmlhpcflphlgdaaGreatDoor
open Go Go.Ev
def rPre : List EC := [(.region [⟨(some 1), .box 177 (.t 0), none⟩,
 ⟨(some 2), .mov (.c (.bool false)), none⟩]),
(.region [⟨(some 7), .load none (.t 1), none⟩,
 ⟨(some 8), .nilCheck (.t 7), none⟩,
 ⟨(some 9), .fieldAddr 14 (.t 8), none⟩,
 ⟨(some 10), .load (some 7) (.t 9), none⟩,
 ⟨(some 3), .new 179 [.nils, .nils, (I 0), (I 0), .nils, .nils, .nils], none⟩,
 ⟨none, .store 7 (.t 3) (.t 10), none⟩]),
(.seq (.region [⟨(some 11), .fieldAddr 1 (.t 3), none⟩,
 ⟨(some 12), .load none (.t 11), none⟩,
 ⟨(some 13), .lenSl (.t 12), none⟩,
 ⟨(some 14), .bin .eql .no (.t 13) (.c (I 0)), none⟩]) (.cond (.t 14) (.seq (.region [⟨(some 2), .mov (.c (.bool false)), none⟩]) .ret) .skip)),
(.region [⟨(some 16), .fieldAddr 0 (.t 3), none⟩,
 ⟨(some 17), .load none (.t 16), none⟩,
 ⟨(some 18), .fieldAddr 1 (.t 3), none⟩,
 ⟨(some 19), .load none (.t 18), none⟩,
 ⟨(some 20), .callF 68 [(.t 17), (.t 19)], none⟩,
 ⟨(some 15), .mov (.t 20), none⟩,
 ⟨(some 21), .extract 0 (.t 15), none⟩,
 ⟨(some 22), .extract 1 (.t 15), none⟩,
 ⟨(some 4), .mov (.t 21), none⟩,
 ⟨(some 5), .mov (.t 22), none⟩]),
(.seq (.region [⟨(some 23), .mov (.t 5), none⟩,
 ⟨(some 24), .bin .neq .no (.t 23) (.c (I 0)), none⟩]) (.cond (.t 24) (.seq (.region [⟨(some 2), .mov (.c (.bool false)), none⟩]) .ret) .skip)),
(.region [⟨(some 26), .load none (.t 1), none⟩,
 ⟨(some 27), .mov (.t 4), none⟩,
 ⟨(some 28), .callF 121 [(.t 26), (.t 27)], none⟩,
 ⟨(some 25), .mov (.t 28), none⟩,
 ⟨(some 29), .extract 0 (.t 25), none⟩,
 ⟨(some 30), .extract 1 (.t 25), none⟩,
 ⟨(some 6), .new 179 [.nils, .nils, (I 0), (I 0), .nils, .nils, .nils], none⟩,
 ⟨none, .store 7 (.t 6) (.t 29), none⟩,
 ⟨(some 5), .mov (.t 30), none⟩]),
(.seq (.region [⟨(some 31), .mov (.t 5), none⟩,
 ⟨(some 32), .bin .neq .no (.t 31) (.c (I 0)), none⟩,
 ⟨(some 33), .mov (.t 32), none⟩,
 ⟨(some 34), .load none (.t 1), (some (33, false))⟩,
 ⟨(some 35), .load (some 7) (.t 6), (some (33, false))⟩,
 ⟨(some 36), .callF 214 [(.t 34), (.t 35)], (some (33, false))⟩,
 ⟨(some 37), .un .not (.t 36), (some (33, false))⟩,
 ⟨(some 38), .pick (.t 33) (.c (.bool true)) (.t 37), none⟩]) (.cond (.t 38) (.seq (.region [⟨(some 2), .mov (.c (.bool false)), none⟩]) .ret) .skip))]
def rMk : EOper := ⟨(some 39), .mkFunc 215 [] [(.t 1), (.t 3)], none⟩
def rPost : EC := (.seq (.region [⟨(some 40), .load none (.t 1), none⟩,
 ⟨(some 41), .load (some 7) (.t 6), none⟩,
 ⟨(some 42), .nilCheck (.t 40), none⟩,
 ⟨(some 43), .fieldAddr 14 (.t 42), none⟩,
 ⟨none, .store 7 (.t 43) (.t 41), none⟩]) (.seq (.region [⟨(some 2), .mov (.c (.bool true)), none⟩]) .ret))
def rBody2 : EC := (.draw [⟨(some 2), .load none (.t 0), none⟩,
 ⟨(some 3), .load none (.t 0), none⟩,
 ⟨(some 4), .nilCheck (.t 3), none⟩,
 ⟨(some 5), .fieldAddr 21 (.t 4), none⟩,
 ⟨(some 6), .load none (.t 5), none⟩,
 ⟨(some 7), .fieldAddr 1 (.t 1), none⟩,
 ⟨(some 8), .load none (.t 7), none⟩,
 ⟨(some 9), .callF 216 [(.t 8)], none⟩,
 ⟨(some 10), .fieldAddr 2 (.t 1), none⟩,
 ⟨(some 11), .load none (.t 10), none⟩,
 ⟨(some 12), .fieldAddr 3 (.t 1), none⟩,
 ⟨(some 13), .load none (.t 12), none⟩,
 ⟨(some 14), .load none (.t 0), none⟩,
 ⟨(some 15), .nilCheck (.t 14), none⟩,
 ⟨(some 16), .fieldAddr 14 (.t 15), none⟩,
 ⟨(some 17), .fieldAddr 2 (.t 16), none⟩,
 ⟨(some 18), .load none (.t 17), none⟩,
 ⟨(some 19), .load none (.t 0), none⟩,
 ⟨(some 20), .nilCheck (.t 19), none⟩,
 ⟨(some 21), .fieldAddr 14 (.t 20), none⟩,
 ⟨(some 22), .fieldAddr 3 (.t 21), none⟩,
 ⟨(some 23), .load none (.t 22), none⟩,
 ⟨(some 24), .build [.nils, (I 0), (I 0), (I 0), (I 0)] [(0, 1, (.t 9)), (1, 1, (.t 11)), (2, 1, (.t 13)), (3, 1, (.t 18)), (4, 1, (.t 23))], none⟩,
 ⟨(some 25), .buildSlice 187 5 1 [.nils, (I 0), (I 0), (I 0), (I 0)] [(0, 5, (.t 24))], none⟩,
 ⟨(some 26), .append 187 5 56 [.nils, (I 0), (I 0), (I 0), (I 0)] (.t 6) (.t 25), none⟩,
 ⟨(some 27), .nilCheck (.t 2), none⟩,
 ⟨(some 28), .fieldAddr 21 (.t 27), none⟩,
 ⟨none, .store 1 (.t 28) (.t 26), none⟩] [0, 0, 2, 6, 14, 0, 32, 96, 0, 256, 0, 1024, 0, 4096, 12288, 28672, 61440, 0, 131072, 393216, 917504, 1966080, 4194272, 8388576, 16777214, 33554431, 67108863, 134217727])
noncomputable def roundF : FS := fun n call vs h => cond (Nat.beq vs.length 1) (deferF [(2, none)] rPre rMk 39 rPost 215 2 rBody2 n call vs h) none
def splitC : Nat → Code → List Code × Code
  | k + 1, .seq a b => (a :: (splitC k b).1, (splitC k b).2)
  | _, c => ([], c)
noncomputable def rCode : Code := Tryz.f122.body.getD .skip
noncomputable def rTail : Code := (splitC 7 rCode).2
def opsR : Code → Array Oper
  | .seq (.region _ ops _) _ => ops
  | _ => #[]
def idR : Code → Nat
  | .seq (.region i _ _) _ => i
  | _ => 0
def postR : Code → Code
  | .seq _ p => p
  | _ => .skip
noncomputable def rMkO : Oper := (opsR rTail)[0]?.getD default
noncomputable def rDfO : Oper := (opsR rTail)[1]?.getD default
def callR : Op → Call
  | .defer c => c
  | _ => default
theorem round_ok : FnOK Tryz.prog n_fix_fixer_round roundF :=
  defer_ok (prec := (splitC 7 rCode).1) (mk := rMkO) (df := rDfO) (tm := 39) (cd := callR rDfO.op) (id := idR rTail) (postc := postR rTail) (bodyc2 := Tryz.f215.body.getD .skip) mixed Tryz.func122 (by kernel_rfl) (by decide) (by kernel_rfl) (by kernel_rfl) (by kernel_rfl) (by kernel_rfl) (by kernel_rfl) (by kernel_rfl) (by kernel_rfl) (by kernel_rfl) (by kernel_rfl) (by decide) Tryz.func215 (by kernel_rfl) (by kernel_rfl) (by kernel_rfl) 1 2 (by decide) (by decide)
end Go.Proofs.YtmlhpcflphlgdaaGreatDoor
