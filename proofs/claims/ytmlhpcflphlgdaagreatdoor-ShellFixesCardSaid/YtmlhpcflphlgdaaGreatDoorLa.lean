import Derived.RangeFuncNested
import Derived.RangeFuncBound
import Derived.RangeFuncCalls
import Derived.RangeFuncLeaves
import Derived.RangeFuncWrites
import Derived.Shelf.Abstract
import Derived.WalkKit
import Derived.OwnWalkIn
import Derived.TacticsInMore
import Derived.LoopNIn
import Derived.LoopIn
import Derived.Lib.Hide
import Derived.Test.YtmlhpcflphlgdaaGreatDoorProg
namespace Go.Proofs.YtmlhpcflphlgdaaGreatDoor
open Go.RowKit Go.Shelf
attribute [local go_sem] Oper.semAt_some
def upto {α : Type} (f : Nat → α) (k : Nat) : List α := (List.range k).map f
theorem upto_succ {α : Type} (f : Nat → α) (k : Nat) : upto f (k + 1) = upto f k ++ [f k] := by simp [upto, List.range_succ]
theorem upto_length {α : Type} (f : Nat → α) (k : Nat) : (upto f k).length = k := by simp [upto]
set_option maxRecDepth 100000 in
set_option maxHeartbeats 2000000 in
theorem back1_in (F : Fence) (n : Nat) (h7 : F.fn 330) (hro : F.round = none) (hn : 1 ≤ n) (l Bs n₀ b off len cap : Nat) (V : Nat → Nat → Value) (hreach : len ≤ 4611686018427387904) (hb : b < n₀) (hBs0 : Bs < n₀) (J Jx : List Nat → World → Prop)
    (hY : ∀ (pre : List Nat) (x : Nat) (W : World), J pre W → pre.length < len → YieldAt F (n - 1) Tryz.prog l #[.int .i64 (x : Int), .agg #[V x 0, V x 1, V x 2]] W fun e W' =>
      (e = .returned (.bool true) ∧ J (pre ++ [x]) W' ∧ Below n₀ W W') ∨ (e = .returned (.bool false) ∧ Jx (pre ++ [x]) W'))
    (W : World) (hBs : W.cell? ⟨Bs, 0, none⟩ = some (.slice (some ⟨b, off, none⟩) len cap)) (hc : ∀ j c, j < len → c < 3 → W.cell? ⟨b, off + j * 3 + c, none⟩ = some (V j c)) (h0 : J [] W) :
    CallsIn F n Tryz.prog 330 #[.func (.yield l) #[] #[], .pointer (some ⟨Bs, 0, none⟩)] W fun e W' => (∃ v, e = .returned v) ∧
      ((∃ ys, ys = upto (fun j => len - 1 - j) len ∧ J ys W') ∨ (∃ pre, (∃ k, k ≤ len ∧ pre = upto (fun j => len - 1 - j) k) ∧ Jx pre W')) := by
  refine callsIn_of_wp Tryz.func330 rfl h7 ?_ hro
  simp only [Tryz.ntmps330, List.size_toArray, List.length_cons, List.length_nil, Nat.reduceAdd, Nat.reduceSub, Array.replicate_succ, Array.replicate_zero, List.push_toArray, List.append_toArray, List.nil_append, List.cons_append]
  gi_wp2
  gi_loopw [3] (fun i wr => ∃ r : Nat, r ≤ len ∧ i = .int .i64 ((r : Int) - 1) ∧ J (upto (fun j => len - 1 - j) (len - r)) wr ∧ Below n₀ W wr)
    (fun i _ => (intOf i + 1).toNat)
  case atStart => exact ⟨len, Nat.le_refl _, rfl, by rw [Nat.sub_self]; exact h0, Below.refl _ _⟩
  case round =>
    obtain ⟨r, hr, rfl, hJs, hnx⟩ := hrel
    have hbs := (hnx.cell (p := ⟨Bs, 0, none⟩) hBs0).trans hBs
    cases r with
    | succ m =>
      rw [show (((m + 1 : Nat) : Int) - 1) = (m : Int) by omega]
      have hm : len - 1 - (len - (m + 1)) = m := by omega
      obtain ⟨fn, tmps, assign, body, hy, hR⟩ := hY _ m wr hJs (by rw [upto_length]; omega)
      have c0 := (hnx.cell (p := ⟨b, off + m * 3, none⟩) hb).trans (hc m 0 (by omega) (by omega))
      have c1 := (hnx.cell (p := ⟨b, off + m * 3 + 1, none⟩) hb).trans (hc m 1 (by omega) (by omega))
      have c2 := (hnx.cell (p := ⟨b, off + m * 3 + 2, none⟩) hb).trans (hc m 2 (by omega) (by omega))
      have hnext : upto (fun j => len - 1 - j) (len - (m + 1)) ++ [m] = upto (fun j => len - 1 - j) (len - m) := by
        rw [show len - m = (len - (m + 1)) + 1 by omega, upto_succ, hm]
      have HN := Lib.hid hnext
      clear hm hnext
      gi_wp2
      refine hR.mono ?_
      rintro e W3 (⟨rfl, hJ3, hk3⟩ | ⟨rfl, hJx3⟩)
      · gi_wp2
        go_roundw
        case rel => exact ⟨m, by omega, rfl, by rw [← HN.out]; exact hJ3, hnx.trans hk3⟩
        case measure => simp [intOf]
      · gi_wp2
        refine bodyPost_ret (results_none rfl _ _ _) rfl ?_
        exact ⟨⟨_, rfl⟩, .inr ⟨_, ⟨len - m, by omega, HN.out⟩, hJx3⟩⟩
    | zero =>
      gi_wp2
      go_end0
      exact ⟨⟨_, rfl⟩, .inl ⟨_, rfl, by simpa using hJs⟩⟩

set_option maxRecDepth 100000 in
set_option maxHeartbeats 1000000 in
theorem back1_nil_in (F : Fence) (n : Nat) (h7 : F.fn 330) (hro : F.round = none) (l Bs : Nat) (base : Option Addr) (cap : Nat) (J : List Nat → World → Prop) (W : World) (hBs : W.cell? ⟨Bs, 0, none⟩ = some (.slice base 0 cap)) (h0 : J [] W) :
    CallsIn F n Tryz.prog 330 #[.func (.yield l) #[] #[], .pointer (some ⟨Bs, 0, none⟩)] W fun e W' => (∃ v, e = .returned v) ∧ J [] W' := by
  refine callsIn_of_wp Tryz.func330 rfl h7 ?_ hro
  simp only [Tryz.ntmps330, List.size_toArray, List.length_cons, List.length_nil, Nat.reduceAdd, Nat.reduceSub, Array.replicate_succ, Array.replicate_zero, List.push_toArray, List.append_toArray, List.nil_append, List.cons_append]
  gi_wp2
  gi_loopw [3] (fun i wr => i = .int .i64 (-1) ∧ J [] wr) (fun _ _ => 0)
  case atStart => exact ⟨rfl, h0⟩
  case round =>
    obtain ⟨rfl, hJs⟩ := hrel
    gi_wp2
    go_end0
    exact ⟨⟨_, rfl⟩, hJs⟩

set_option maxHeartbeats 1000000 in
theorem backward_in (F : Fence) (n : Nat) (h5 : F.fn 299) (hro : F.round = none) (a : Option Addr) (len cap : Nat) (w : World) :
    CallsIn F n Tryz.prog 299 #[.slice a len cap] w fun e w' => e = .returned (.func (.func 330) #[] #[.pointer (some ⟨w.heap.size, 0, none⟩)]) ∧ w' = w.alloc (.cells #[.slice a len cap] 89) := by
  refine callsIn_of_wp Tryz.func299 rfl h5 ?_ hro
  simp only [Tryz.ntmps299, List.size_toArray, List.length_cons, List.length_nil, Nat.reduceAdd, Nat.reduceSub, Array.replicate_succ, Array.replicate_zero, List.push_toArray, List.append_toArray, List.nil_append, List.cons_append]
  gi_wp2
  go_ret
  exact ⟨rfl, rfl⟩

/-- The iterator: all, from the last on; or a part. -/
theorem back_stops (F : Fence) (n : Nat) (h7 : F.fn 330) (hro : F.round = none) (hn : 1 ≤ n) (Bs n₀ : Nat) (base : Option Addr) (len cap : Nat) (V : Nat → Nat → Value) (hreach : len ≤ 4611686018427387904) (w : World) (hBs : Bs < n₀) (hn₀ : n₀ ≤ w.heap.size)
    (hc : w.cell? ⟨Bs, 0, none⟩ = some (.slice base len cap)) (hI : len = 0 ∨ ∃ b off, base = some ⟨b, off, none⟩ ∧ b < n₀ ∧ ∀ j c, j < len → c < 3 → w.cell? ⟨b, off + j * 3 + c, none⟩ = some (V j c)) :
    SeqStopsK F n Tryz.prog 330 #[.pointer (some ⟨Bs, 0, none⟩)] (fun x : Nat => #[Value.int .i64 (x : Int), .agg #[V x 0, V x 1, V x 2]]) (Below n₀) (fun ys => ys = upto (fun j => len - 1 - j) len) (fun pre => ∃ k, k ≤ len ∧ pre = upto (fun j => len - 1 - j) k) len w := fun l J Jx W hW _ _ hY h0 => by
  have hc' := (hW.cell (p := ⟨Bs, 0, none⟩) (Nat.lt_of_lt_of_le hBs hn₀)).trans hc
  rcases hI with rfl | ⟨b, off, rfl, hb, hcs⟩
  · exact (back1_nil_in F n h7 hro l Bs base cap J W hc' h0).mono fun e W' ⟨he, hj⟩ => ⟨he, .inl ⟨_, rfl, hj⟩⟩
  · have hcs' : ∀ j c, j < len → c < 3 → W.cell? ⟨b, off + j * 3 + c, none⟩ = some (V j c) := fun j c h1 h2 => (hW.cell (p := ⟨b, off + j * 3 + c, none⟩) (Nat.lt_of_lt_of_le hb hn₀)).trans (hcs j c h1 h2)
    refine (back1_in F n h7 hro hn l Bs n₀ b off len cap V hreach hb hBs J Jx hY W hc' hcs' h0).mono ?_
    rintro e W' ⟨he, ⟨ys, rfl, hj⟩ | ⟨pre, hp, hj⟩⟩
    · exact ⟨he, .inl ⟨_, rfl, hj⟩⟩
    · exact ⟨he, .inr ⟨_, hp, hj⟩⟩

/-- What came first of those that it is asked for. -/
def NoHit (K : Nat → Int) (kk : Int) (pre : List Nat) : Prop := ∀ x ∈ pre, K x ≠ kk

set_option maxRecDepth 100000 in
set_option maxHeartbeats 2000000 in
theorem last_in (F : Fence) (n : Nat) (hF : F = Fence.wide) (hn : 3 ≤ n) (p0 : Option Addr) (base : Option Addr) (len cap : Nat) (kk : Int) (Z : Nat → Nat → Int) (T : Nat → ByteArray) (hreach : len ≤ 4611686018427387904) (w : World)
    (hI : len = 0 ∨ ∃ b off, base = some ⟨b, off, none⟩ ∧ b < w.heap.size ∧ ∀ j c, j < len → c < 3 → w.cell? ⟨b, off + j * 3 + c, none⟩ = some (.int .i64 (Z j c)))
    (hT : ∀ x W, Z x 0 = kk → Below w.heap.size w W → Calls Tryz.prog 253 #[.pointer p0, .agg #[.int .i64 (Z x 0), .int .i64 (Z x 1), .int .i64 (Z x 2)]] W fun e W' => e = .returned (.string (T x)) ∧ Below W.heap.size W W') :
    CallsIn F n Tryz.prog 247 #[.pointer p0, .slice base len cap, .int .i64 kk] w fun e W' => Below w.heap.size w W' ∧
      ((e = .returned (.tuple #[.string ⟨#[]⟩, .bool false]) ∧ NoHit (fun x => Z x 0) kk (upto (fun j => len - 1 - j) len)) ∨
       (∃ k, k < len ∧ NoHit (fun x => Z x 0) kk (upto (fun j => len - 1 - j) k) ∧ Z (len - 1 - k) 0 = kk ∧ e = .returned (.tuple #[.string (T (len - 1 - k)), .bool true]))) := by
  subst hF
  have h1 : 1 ≤ n := by omega
  refine callsIn_of_wp_marks Tryz.func247 rfl trivial ?_ rfl
  simp only [Tryz.ntmps247, List.size_toArray, List.length_cons, List.length_nil, Nat.reduceAdd, Nat.reduceSub, Array.replicate_succ, Array.replicate_zero, List.push_toArray, List.append_toArray, List.nil_append, List.cons_append]
  gi_wp2_with (refine ⟨trivial, ?_⟩; gi_at_call 299; refine (backward_in Fence.wide (n - 1) trivial rfl _ _ _ _).mono ?_; rintro e w' ⟨rfl, rfl⟩)
  obtain ⟨W0, hW0⟩ : ∃ W0, ((((w.alloc (Obj.cells #[Value.pointer p0] 159)).alloc (Obj.cells #[Value.int IntKind.i64 kk] 3)).alloc (Obj.cells #[Value.string { data := #[] }] 9)).alloc (Obj.cells #[Value.bool false] 4)).alloc (Obj.cells #[Value.slice base len cap] 89) = W0 := ⟨_, rfl⟩
  have hb0 : Below w.heap.size w W0 := by
    rw [← hW0]
    exact (((((Below.refl _ w).alloc (Nat.le_refl _) _).alloc (by simp) _).alloc (by simp; omega) _).alloc (by simp; omega) _).alloc (by simp; omega) _
  have hz0 : W0.heap.size = w.heap.size + 5 := by rw [← hW0]; simp
  have e0 : W0.cell? ⟨w.heap.size, 0, none⟩ = some (.pointer p0) := by rw [← hW0]; simp [go_sem]
  have e1 : W0.cell? ⟨w.heap.size + 1, 0, none⟩ = some (.int .i64 kk) := by rw [← hW0]; simp [go_sem]
  have e2 : W0.cell? ⟨w.heap.size + 1 + 1, 0, none⟩ = some (.string ⟨#[]⟩) := by rw [← hW0]; simp [go_sem]
  have e3 : W0.cell? ⟨w.heap.size + 1 + 1 + 1, 0, none⟩ = some (.bool false) := by rw [← hW0]; simp [go_sem]
  have f2 : W0.frozen? ⟨w.heap.size + 1 + 1, 0, none⟩ = false := by rw [← hW0]; simp [go_sem]
  have f3 : W0.frozen? ⟨w.heap.size + 1 + 1 + 1, 0, none⟩ = false := by rw [← hW0]; simp [go_sem]
  have e4 : W0.cell? ⟨w.heap.size + 1 + 1 + 1 + 1, 0, none⟩ = some (.slice base len cap) := by rw [← hW0]; simp [go_sem]
  have hI0 : len = 0 ∨ ∃ b off, base = some ⟨b, off, none⟩ ∧ b < W0.heap.size ∧ ∀ j c, j < len → c < 3 → W0.cell? ⟨b, off + j * 3 + c, none⟩ = some (.int .i64 (Z j c)) := by
    rcases hI with h | ⟨b, off, h1, h2, h3⟩
    · exact .inl h
    · exact .inr ⟨b, off, h1, by omega, fun j c q1 q2 => (hb0.cell (p := ⟨b, off + j * 3 + c, none⟩) h2).trans (h3 j c q1 q2)⟩
  rw [hW0]
  have HW0 := Lib.hid hW0
  clear hW0 hI
  refine wpIn_rangeFunc_ownH rfl h1 (gf := 330) (lb := #[.pointer (some ⟨w.heap.size + 1 + 1 + 1 + 1, 0, none⟩)]) rfl trivial (enters_of Tryz.func330 (by kernel_rfl) rfl)
    (back_stops Fence.wide (n - 1) trivial rfl (by omega) (w.heap.size + 1 + 1 + 1 + 1) W0.heap.size base len cap (fun j c => .int .i64 (Z j c)) hreach W0 (by omega) (Nat.le_refl _) e4 hI0) belowK_t (belowK_b (Nat.le_refl _)) (Below.refl _ _) (fun _ => rfl)
    (fun pre W => NoHit (fun x => Z x 0) kk pre ∧ Below W0.heap.size W0 W)
    (fun c pre W => c = .ret ∧ (∃ p x, pre = p ++ [x] ∧ NoHit (fun x => Z x 0) kk p ∧ Z x 0 = kk ∧ W.cell? ⟨w.heap.size + 1 + 1, 0, none⟩ = some (.string (T x))) ∧ W.cell? ⟨w.heap.size + 1 + 1 + 1, 0, none⟩ = some (.bool true) ∧ Below w.heap.size w W)
    (OwnFrom.and (ownFrom_pure _ _) (ownFrom_below (Nat.le_refl _) (Nat.le_refl _)))
    (fun c s X Y row hs hg hr => ?hix)
    ⟨fun x hx => (by cases hx), Below.refl _ _⟩
    (fun x a' W => ∃ Bt, W0.heap.size ≤ Bt ∧ W.heap[Bt]? = some (.cells #[.int .i64 (Z x 0), .int .i64 (Z x 1), .int .i64 (Z x 2)] 92 (0, 0)) ∧ a' = { tmps := #[.pointer p0, .slice base len cap, .int .i64 kk, .pointer (some ⟨w.heap.size, 0, none⟩), undef, .pointer (some ⟨w.heap.size + 1, 0, none⟩), .pointer (some ⟨w.heap.size + 1 + 1, 0, none⟩), .pointer (some ⟨w.heap.size + 1 + 1 + 1, 0, none⟩), undef, .pointer (some ⟨Bt, 0, none⟩), .slice base len cap, .func (.func 330) #[] #[.pointer (some ⟨w.heap.size + 1 + 1 + 1 + 1, 0, none⟩)], .int .i64 (x : Int), .agg #[.int .i64 (Z x 0), .int .i64 (Z x 1), .int .i64 (Z x 2)], undef, undef, undef, undef, undef, undef, undef], defers := [] })
    (fun x a' s X Y row hs hg hr => ?hax) ?assign ?body ?done ?stop
  case hix =>
    obtain ⟨q1, ⟨p, x, q2, q3, q4, q5⟩, q6, q7⟩ := hs
    exact ⟨q1, ⟨p, x, q2, q3, q4, cell_kept q5 hg (fun r e => (hr r e).2)⟩, cell_kept q6 hg (fun r e => (hr r e).2), q7.grown hg q7.size (fun k e => Nat.le_trans hb0.size (hr k e).1)⟩
  case hax =>
    obtain ⟨Bt, q1, q2, q3⟩ := hs
    refine ⟨Bt, q1, (hg.block Bt (Array.getElem?_eq_some_iff.1 q2).1 (fun e => ?_)).trans q2, q3⟩
    obtain ⟨_, o, ho, hc⟩ := hr Bt e.symm
    rw [q2] at ho; cases ho; cases hc
  case assign =>
    rintro l pre x W K' ⟨hN, hB⟩ hK
    gi_wp2
    have hBW := hB.size
    exact hK _ _ ((KeepsOthers.alloc _ _).from _) ((Below.refl _ W).alloc hBW _) ⟨hN, hB.alloc hBW _⟩ ⟨W.heap.size, hBW, World.alloc_heap_new W _, rfl⟩
  case body =>
    rintro l pre x a' W hl ⟨r, hr⟩ ⟨hN, hB⟩ ⟨Bt, hBt, hbt, rfl⟩ hlt
    have c0 : W.cell? ⟨Bt, 0, none⟩ = some (.int .i64 (Z x 0)) := by simp [World.cell?, hbt]
    have c1 : W.cell? ⟨Bt, 1, none⟩ = some (.int .i64 (Z x 1)) := by simp [World.cell?, hbt]
    have c2 : W.cell? ⟨Bt, 2, none⟩ = some (.int .i64 (Z x 2)) := by simp [World.cell?, hbt]
    have d0 := (hB.cell (p := ⟨w.heap.size, 0, none⟩) (by show w.heap.size < _; omega)).trans e0
    have d1 := (hB.cell (p := ⟨w.heap.size + 1, 0, none⟩) (by show w.heap.size + 1 < _; omega)).trans e1
    have d2 := (hB.cell (p := ⟨w.heap.size + 1 + 1, 0, none⟩) (by show w.heap.size + 1 + 1 < _; omega)).trans e2
    have d3 := (hB.cell (p := ⟨w.heap.size + 1 + 1 + 1, 0, none⟩) (by show w.heap.size + 1 + 1 + 1 < _; omega)).trans e3
    have g2 := (hB.frozen (p := ⟨w.heap.size + 1 + 1, 0, none⟩) (by show w.heap.size + 1 + 1 < _; omega)).trans f2
    have g3 := (hB.frozen (p := ⟨w.heap.size + 1 + 1 + 1, 0, none⟩) (by show w.heap.size + 1 + 1 + 1 < _; omega)).trans f3
    have hTx := hT x W
    clear hT
    by_cases hk : Z x 0 = kk
    · have hTx' := hTx hk (hb0.trans (hB.mono hb0.size))
      have hk1 : ((Z x 0) == kk) = true := by simp [hk]
      have hk2 : decide (Z x 0 = kk) = true := by simp [hk]
      have HK := Lib.hid hk
      clear hk hTx
      have h1' : 1 ≤ n - 1 - 1 := by omega
      have hsW := hB.size
      have l2 : w.heap.size + 1 + 1 < W.heap.size := by omega
      have l3 : w.heap.size + 1 + 1 + 1 < W.heap.size := by omega
      gi_wp2_with (refine ⟨trivial, ?_⟩; gi_at_call 253; refine (CallsIn.inRound l (callsIn_wide.2 hTx')).mono ?_; rintro e W' ⟨rfl, hbW⟩; have m2 := (hbW.cell (p := ⟨w.heap.size + 1 + 1, 0, none⟩) l2).trans d2; have m3 := (hbW.cell (p := ⟨w.heap.size + 1 + 1 + 1, 0, none⟩) l3).trans d3; have k2 := (hbW.frozen (p := ⟨w.heap.size + 1 + 1, 0, none⟩) l2).trans g2; have k3 := (hbW.frozen (p := ⟨w.heap.size + 1 + 1 + 1, 0, none⟩) l3).trans g3)
      have hkf : KeepsFrom W0.heap.size W W' := ⟨hbW.size, fun k o _ hk _ => (hbW.block k (Array.getElem?_eq_some_iff.1 hk).1).trans hk⟩
      have n2 : (W'.setCell ⟨w.heap.size + 1 + 1, 0, none⟩ (Value.string (T x))).cell? ⟨w.heap.size + 1 + 1, 0, none⟩ = some (.string (T x)) := World.cell?_setCell_same' _ _ _ (by rw [m2]; rfl)
      have n3 : (W'.setCell ⟨w.heap.size + 1 + 1, 0, none⟩ (Value.string (T x))).cell? ⟨w.heap.size + 1 + 1 + 1, 0, none⟩ = some (.bool false) := by simp [go_sem, m3]
      refine ⟨hkf.trans (((KeepsOthers.setCell _ _ _).trans (KeepsOthers.setCell _ _ _)).from _), rfl, ⟨pre, x, rfl, hN, HK.out, ?_⟩, World.cell?_setCell_same' _ _ _ (by rw [n3]; rfl), ?_⟩
      · simp [go_sem, n2]
      · have q0 : Below w.heap.size w W' := (hb0.trans (hB.mono hb0.size)).trans (hbW.mono (by omega))
        exact (q0.setCell (p := ⟨w.heap.size + 1 + 1, 0, none⟩) (show w.heap.size ≤ w.heap.size + 1 + 1 by omega) _).setCell (p := ⟨w.heap.size + 1 + 1 + 1, 0, none⟩) (show w.heap.size ≤ w.heap.size + 1 + 1 + 1 by omega) _
    · have hk1 : ((Z x 0) == kk) = false := by simp [hk]
      have hk2 : decide (Z x 0 = kk) = false := by simp [hk]
      have HK := Lib.hid hk
      clear hk hTx
      gi_wp2
      refine ⟨(KeepsOthers.refl W).from _, Below.refl _ _, ?_, hB⟩
      intro y hy
      simp only [List.mem_append, List.mem_singleton] at hy
      rcases hy with hy | rfl
      · exact hN y hy
      · exact HK.out
  case done =>
    rintro D xs W hD rfl ⟨hN, hB⟩ hK
    have d2 := (hB.cell (p := ⟨w.heap.size + 1 + 1, 0, none⟩) (by show w.heap.size + 1 + 1 < _; omega)).trans e2
    have d3 := (hB.cell (p := ⟨w.heap.size + 1 + 1 + 1, 0, none⟩) (by show w.heap.size + 1 + 1 + 1 < _; omega)).trans e3
    have g2 := (hB.frozen (p := ⟨w.heap.size + 1 + 1, 0, none⟩) (by show w.heap.size + 1 + 1 < _; omega)).trans f2
    have g3 := (hB.frozen (p := ⟨w.heap.size + 1 + 1 + 1, 0, none⟩) (by show w.heap.size + 1 + 1 + 1 < _; omega)).trans f3
    gi_wp2
    have hK2 := ((KeepsOthers.setCell W ⟨w.heap.size + 1 + 1, 0, none⟩ (Value.string ⟨#[]⟩)).trans (KeepsOthers.setCell _ ⟨w.heap.size + 1 + 1 + 1, 0, none⟩ (Value.bool false))).same D _ hK rfl
    refine ⟨by simp, .inl ⟨_, _, rfl, run_takeDeferred hK2, ?_⟩⟩
    have q0 : Below w.heap.size w W := hb0.trans (hB.mono hb0.size)
    have q1 := (q0.setCell (p := ⟨w.heap.size + 1 + 1, 0, none⟩) (show w.heap.size ≤ w.heap.size + 1 + 1 by omega) (Value.string ⟨#[]⟩)).setCell (p := ⟨w.heap.size + 1 + 1 + 1, 0, none⟩) (show w.heap.size ≤ w.heap.size + 1 + 1 + 1 by omega) (Value.bool false)
    have n2 : (W.setCell ⟨w.heap.size + 1 + 1, 0, none⟩ (Value.string ⟨#[]⟩)).cell? ⟨w.heap.size + 1 + 1, 0, none⟩ = some (.string ⟨#[]⟩) := World.cell?_setCell_same' _ _ _ (by rw [d2]; rfl)
    have n3 : (W.setCell ⟨w.heap.size + 1 + 1, 0, none⟩ (Value.string ⟨#[]⟩)).cell? ⟨w.heap.size + 1 + 1 + 1, 0, none⟩ = some (.bool false) := by simp [go_sem, d3]
    have o2 := cell_kept (W := (W.setCell ⟨w.heap.size + 1 + 1, 0, none⟩ (Value.string ⟨#[]⟩)).setCell ⟨w.heap.size + 1 + 1 + 1, 0, none⟩ (Value.bool false)) (a := ⟨w.heap.size + 1 + 1, 0, none⟩) (v := .string ⟨#[]⟩) (by simp [go_sem, n2]) (grownBy_putObj' _ D (.deferred none)) (fun r e => by cases e; exact ⟨_, hK2, rfl⟩)
    have o3 := cell_kept (W := (W.setCell ⟨w.heap.size + 1 + 1, 0, none⟩ (Value.string ⟨#[]⟩)).setCell ⟨w.heap.size + 1 + 1 + 1, 0, none⟩ (Value.bool false)) (a := ⟨w.heap.size + 1 + 1 + 1, 0, none⟩) (v := .bool false) (World.cell?_setCell_same' _ _ _ (by rw [n3]; rfl)) (grownBy_putObj' _ D (.deferred none)) (fun r e => by cases e; exact ⟨_, hK2, rfl⟩)
    refine ⟨.tuple #[.string ⟨#[]⟩, .bool false], by simp [results, Tryz.results247, go_sem, o2, o3], q1.trans (belowK_b (w := w) (Nat.le_refl _) _ D _ _ (by omega) hK2 rfl rfl), .inl ⟨rfl, hN⟩⟩
  case stop =>
    rintro D c pre W hD ⟨k, hk, hpre⟩ ⟨rfl, ⟨p, x, q2, q3, q4, q5⟩, q6, q7⟩ hK
    gi_wp2
    refine ⟨by simp, .inl ⟨_, _, rfl, run_takeDeferred hK, ?_⟩⟩
    have o2 := cell_kept (W := W) (a := ⟨w.heap.size + 1 + 1, 0, none⟩) q5 (grownBy_putObj' _ D (.deferred none)) (fun r e => by cases e; exact ⟨_, hK, rfl⟩)
    have o3 := cell_kept (W := W) (a := ⟨w.heap.size + 1 + 1 + 1, 0, none⟩) q6 (grownBy_putObj' _ D (.deferred none)) (fun r e => by cases e; exact ⟨_, hK, rfl⟩)
    have hk0 : ∃ k', k = k' + 1 := by
      cases k with
      | zero => simp [upto] at hpre; rw [hpre] at q2; simp at q2
      | succ k' => exact ⟨k', rfl⟩
    obtain ⟨k', rfl⟩ := hk0
    rw [upto_succ] at hpre
    rw [hpre] at q2
    have q2' := List.append_inj' q2 rfl
    obtain ⟨r1, r2⟩ := q2'
    simp only [List.cons.injEq, and_true] at r2
    subst r2
    refine ⟨.tuple #[.string (T (len - 1 - k')), .bool true], by simp [results, Tryz.results247, go_sem, o2, o3], q7.trans (belowK_b (w := w) (Nat.le_refl _) W D _ _ (by omega) hK rfl rfl), .inr ⟨k', by omega, by rw [r1]; exact q3, q4, rfl⟩⟩
end Go.Proofs.YtmlhpcflphlgdaaGreatDoor
