import Derived.Test.YtmlhpcflphlgdaaGreatDoorLa
import Derived.Test.YtmlhpcflphlgdaaGreatDoorF0
import Derived.Test.YtmlhpcflphlgdaaGreatDoorF1
import Derived.Test.YtmlhpcflphlgdaaGreatDoorF2
import Derived.Test.YtmlhpcflphlgdaaGreatDoorF3
import Derived.Test.YtmlhpcflphlgdaaGreatDoorF4
import Derived.Test.YtmlhpcflphlgdaaGreatDoorF5
import Derived.Test.YtmlhpcflphlgdaaGreatDoorF6
import Derived.Test.YtmlhpcflphlgdaaGreatDoorF7
import Derived.Test.YtmlhpcflphlgdaaGreatDoorF8
import Derived.Test.YtmlhpcflphlgdaaGreatDoorF9
import Derived.Test.YtmlhpcflphlgdaaGreatDoorF10
import Derived.Test.YtmlhpcflphlgdaaGreatDoorF11
set_option linter.unusedVariables false
set_option linter.unusedSimpArgs false
namespace Go.Ev
/-! ### heaps where nothing may be written -/
def frO : Option AO → Option AO
  | some (.cells l e _) => some (.cells l e true)
  | _ => none
noncomputable def frT (t : HT) : HT := HT.rec (motive := fun _ => HT) .e (fun _ x _ l r => .n l (frO x) r) t
theorem get_frT : ∀ (t : HT) (k : Nat), (frT t).get k = frO (t.get k)
  | .e, _ => rfl
  | .n l x r, k => by
    show (HT.n (frT l) (frO x) (frT r)).get k = _
    rw [HT.get_n, HT.get_n, get_frT l, get_frT r]
    cases Nat.beq k 1 <;> cases Nat.beq (Nat.land k 1) 0 <;> rfl
noncomputable def frH (h : AH) : AH := ⟨frT h.objs, h.next⟩
theorem get_frH (h : AH) (b : Nat) : (frH h).get b = frO (h.get b) := get_frT _ _
theorem frO_some {x : Option AO} {o : AO} (h : frO x = some o) : ∃ l e fz, x = some (.cells l e fz) ∧ o = .cells l e true := by
  cases x with
  | none => cases h
  | some y =>
    cases y with
    | cells l e fz => simp only [frO, Option.some.injEq] at h; exact ⟨l, e, fz, rfl, h.symm⟩
    | map es c => cases h
    | iter s p => cases h
theorem Sim.frozen {g : Gh} {h : AH} {w : World} (s : Sim g h w) : Sim g (frH h) w := by
  refine ⟨?_, ?_, s.dom⟩
  · intro b o hb
    rw [get_frH] at hb
    obtain ⟨l, e, fz, hx, rfl⟩ := frO_some hb
    obtain ⟨x, n, ob, h1, h2, vs, rest, lo, hi, h3, h4, h5, h6⟩ := s.obj b _ hx
    exact ⟨x, n, ob, h1, h2, vs, rest, lo, hi, h3, h4, h5, fun q => by cases q⟩
  · intro b b' x n n' h1 h2 h3 h4
    rw [get_frH] at h1 h2
    refine s.inj b b' x n n' (fun q => h1 (by rw [q]; rfl)) (fun q => h2 (by rw [q]; rfl)) h3 h4
theorem own_frozen {g : Gh} {h : AH} {x : Nat} : ¬ Own g (frH h) x := by
  rintro ⟨b, n, o, h1, h2, h3⟩
  rw [get_frH] at h1
  obtain ⟨l, e, fz, hx, rfl⟩ := frO_some h1
  simp [AO.loose] at h2
theorem Stp.toBelow {g g' : Gh} {h h' : AH} {w w' : World} (st : Stp g (frH h) w g' h' w') : Go.RowKit.Below w.heap.size w w' :=
  ⟨st.os, st.tape, st.out, st.size, fun k hk => st.fr k hk own_frozen⟩
/-- A token's three numbers. -/
def row3 (l : Option (List AV)) : Option (Int × Int × Int) := match l with
  | some [.int .i64 k, .int .i64 f, .int .i64 t] => some (k, f, t)
  | _ => none
/-- The last of a kind, from a place down: what it says; every row ahead is looked at. -/
noncomputable def lastT (tx : AV → Option AV) (b off : Nat) (kk : Int) (h : AH) : Nat → Option (Option (List UInt8))
  | 0 => some none
  | m + 1 => match row3 (getCells h b (off + m * 3) 3) with
    | some (k, f, t) => (match lastT tx b off kk h m with
      | some r => cond (ieq k kk) (match tx (.agg [.int .i64 k, .int .i64 f, .int .i64 t]) with
        | some (.str s) => some (some s)
        | _ => none) (some r)
      | none => none)
    | none => none
theorem row3_some {l : Option (List AV)} {k f t : Int} (h : row3 l = some (k, f, t)) : l = some [.int .i64 k, .int .i64 f, .int .i64 t] := by
  unfold row3 at h
  split at h
  · simp only [Option.some.injEq, Prod.mk.injEq] at h; obtain ⟨rfl, rfl, rfl⟩ := h; rfl
  · cases h
theorem lastT_rows {tx : AV → Option AV} {b off : Nat} {kk : Int} {h : AH} : ∀ {m : Nat} {r : Option (List UInt8)}, lastT tx b off kk h m = some r → ∀ j, j < m → ∃ k f t, row3 (getCells h b (off + j * 3) 3) = some (k, f, t) ∧ (k = kk → ∃ s, tx (.agg [.int .i64 k, .int .i64 f, .int .i64 t]) = some (.str s))
  | 0, _, _, j, hj => by omega
  | m + 1, r, he, j, hj => by
    simp only [lastT] at he
    split at he
    · rename_i k f t hr
      split at he
      · rename_i r' hm
        by_cases h1 : j < m
        · exact lastT_rows hm j h1
        · obtain rfl : j = m := by omega
          refine ⟨k, f, t, hr, fun hk => ?_⟩
          have : ieq k kk = true := by rw [ieq_eq]; simp [hk]
          rw [this, cond_true] at he
          split at he
          · rename_i s hs; exact ⟨s, hs⟩
          · cases he
      · cases he
    · cases he
theorem lastT_some {tx : AV → Option AV} {b off : Nat} {kk : Int} {h : AH} : ∀ {m : Nat} {r : Option (List UInt8)}, lastT tx b off kk h m = some r →
    (r = none ∧ ∀ j, j < m → ∀ k f t, row3 (getCells h b (off + j * 3) 3) = some (k, f, t) → k ≠ kk) ∨
    (∃ j s k f t, j < m ∧ r = some s ∧ row3 (getCells h b (off + j * 3) 3) = some (k, f, t) ∧ k = kk ∧ tx (.agg [.int .i64 k, .int .i64 f, .int .i64 t]) = some (.str s) ∧ ∀ i, j < i → i < m → ∀ k f t, row3 (getCells h b (off + i * 3) 3) = some (k, f, t) → k ≠ kk)
  | 0, r, he => by simp [lastT] at he; exact .inl ⟨he.symm, fun j hj => by omega⟩
  | m + 1, r, he => by
    simp only [lastT] at he
    split at he
    · rename_i k f t hr
      split at he
      · rename_i r' hm
        cases hk : ieq k kk with
        | true =>
          rw [hk, cond_true] at he
          split at he
          · rename_i s hs
            simp only [Option.some.injEq] at he
            subst he
            rw [ieq_eq] at hk
            exact .inr ⟨m, s, k, f, t, by omega, rfl, hr, by simpa using hk, hs, fun i h1 h2 => by omega⟩
          · cases he
        | false =>
          rw [hk, cond_false] at he
          simp only [Option.some.injEq] at he
          subst he
          rw [ieq_eq] at hk
          have hk' : k ≠ kk := by simpa using hk
          have hstep : ∀ i, i = m → ∀ k' f' t', row3 (getCells h b (off + i * 3) 3) = some (k', f', t') → k' ≠ kk := by
            rintro i rfl k' f' t' hr'
            rw [hr] at hr'
            simp only [Option.some.injEq, Prod.mk.injEq] at hr'
            rw [← hr'.1]; exact hk'
          rcases lastT_some hm with ⟨rfl, hno⟩ | ⟨j, s, k1, f1, t1, h1, h2, h3, h4, h5, h6⟩
          · refine .inl ⟨rfl, fun j hj => ?_⟩
            by_cases h1 : j < m
            · exact hno j h1
            · exact hstep j (by omega)
          · refine .inr ⟨j, s, k1, f1, t1, by omega, h2, h3, h4, h5, fun i hi1 hi2 => ?_⟩
            by_cases h7 : i < m
            · exact h6 i hi1 h7
            · exact hstep i (by omega)
      · cases he
    · cases he
end Go.Ev
namespace Go.Proofs.YtmlhpcflphlgdaaGreatDoor
open Go.Ev Go.RowKit
noncomputable def textV (n : Nat) (call : Caller) (x0 : AV) (h : AH) : AV → Option AV := fun t => match f_graph_composer_text n call x0 t (frH h) with
  | some (v, _) => some v
  | none => none
noncomputable def lastF (n : Nat) (call : Caller) (x0 x1 x2 : AV) (h : AH) : Ans := match x0, x1, x2 with
  | .ptr _ _, .slice b off len sz _, .int .i64 kk => cond (Nat.beq sz 3 && Nat.ble len 1000000) (match lastT (textV n call x0 h) b off kk h len with
    | some none => some (.tup [.str [], .bool false], h)
    | some (some s) => some (.tup [.str s, .bool true], h)
    | none => none) none
  | .ptr _ _, .nils, .int .i64 _ => some (.tup [.str [], .bool false], h)
  | .ptr _ _, .empt, .int .i64 _ => some (.tup [.str [], .bool false], h)
  | _, _, _ => none
/-- The row's number, or what is not asked for. -/
noncomputable def zOf (h : AH) (b off len : Nat) (kk : Int) (j c : Nat) : Int := if j < len then (match row3 (getCells h b (off + j * 3) 3) with
  | some (k, f, t) => (match c with | 0 => k | 1 => f | _ => t)
  | none => 0) else kk + 1
theorem last_ok : FnOK Tryz.prog 247 (a3 lastF) := by
  intro n call hcall vs h v h' he
  refine ⟨⟨_, Tryz.func247, rfl, by decide⟩, ?_⟩
  intro g w args hs hv
  unfold a3 at he
  split at he
  · rename_i x0 x1 x2
    rw [VRL] at hv
    obtain ⟨v0, ws0, rfl, hv0, hv⟩ := hv
    rw [VRL] at hv
    obtain ⟨v1, ws1, rfl, hv1, hv⟩ := hv
    rw [VRL] at hv
    obtain ⟨v2, ws2, rfl, hv2, hv⟩ := hv
    rw [VRL] at hv
    subst hv
    -- no row at all
    have hnil : ∀ (base : Option Addr) (cap : Nat) (p0 : Option Addr) (kk : Int), v = .tup [.str [], .bool false] → h' = h → Calls Tryz.prog 247 #[.pointer p0, .slice base 0 cap, .int .i64 kk] w fun e w' => ∃ vc g', e = .returned vc ∧ VR g' v vc ∧ Sim g' h' w' ∧ Stp g h w g' h' w' := by
      rintro base cap p0 kk rfl rfl
      refine (callsIn_wide (n := 3)).1 ((last_in Fence.wide 3 rfl (by omega) p0 base 0 cap kk (fun _ _ => kk + 1) (fun _ => ⟨#[]⟩) (by omega) w (.inl rfl) (fun x W hx _ => by omega)).mono ?_)
      rintro e W' ⟨hb, ⟨rfl, _⟩ | ⟨k, hk, _⟩⟩
      · exact ⟨_, g, rfl, ⟨[.string ⟨#[]⟩, .bool false], rfl, ⟨_, _, rfl, rfl, _, _, rfl, rfl, rfl⟩⟩, hs.below hb, Stp.below hb⟩
      · omega
    unfold lastF at he
    split at he
    · rename_i cb co b off len sz cap kk
      cases hc : (Nat.beq sz 3 && Nat.ble len 1000000) with
      | false => simp [hc] at he
      | true =>
        rw [hc, cond_true] at he
        simp only [Bool.and_eq_true] at hc
        have hsz := Nat.eq_of_beq_eq_true hc.1
        have hlen : len ≤ 1000000 := by simpa using hc.2
        subst hsz
        simp only [VR] at hv0 hv1 hv2
        obtain ⟨cx, cn, hcφ, rfl⟩ := hv0
        obtain ⟨x, nn, c, hφ, rfl, hle1, hle2, _⟩ := hv1
        subst hv2
        cases hr : lastT (textV n call (.ptr cb co) h) b off kk h len with
        | none => simp [hr] at he
        | some r =>
          have hrows := lastT_rows hr
          have hz : ∀ j, j < len → row3 (getCells h b (off + j * 3) 3) = some (zOf h b off len kk j 0, zOf h b off len kk j 1, zOf h b off len kk j 2) := by
            intro j hj
            obtain ⟨k, f, t, h1, _⟩ := hrows j hj
            simp only [zOf, if_pos hj, h1]
          have hcell : len = 0 ∨ ∃ b' off', (some (⟨x, off, none⟩ : Addr)) = some ⟨b', off', none⟩ ∧ b' < w.heap.size ∧ ∀ j c, j < len → c < 3 → w.cell? ⟨b', off' + j * 3 + c, none⟩ = some (.int .i64 (zOf h b off len kk j c)) := by
            refine .inr ⟨x, off, rfl, (hs.dom _ _ _ hφ).2, ?_⟩
            intro j c hj hc3
            have h1 := row3_some (hz j hj)
            obtain ⟨us, h2, h3, h4⟩ := hs.cells_of hφ h1
            simp only [VRL, VR] at h2
            obtain ⟨_, _, rfl, rfl, _, _, rfl, rfl, _, _, rfl, rfl, rfl⟩ := h2
            have h5 := h4 c (.int .i64 (zOf h b off len kk j c)) (by
              rcases c with _ | _ | _ | c
              · rfl
              · rfl
              · rfl
              · omega)
            cases c with
            | zero => exact h5
            | succ c => exact h5
          have hT : ∀ y W, zOf h b off len kk y 0 = kk → Below w.heap.size w W → Calls Tryz.prog 253 #[.pointer (some ⟨cx, co, none⟩), .agg #[.int .i64 (zOf h b off len kk y 0), .int .i64 (zOf h b off len kk y 1), .int .i64 (zOf h b off len kk y 2)]] W fun e W' =>
              e = .returned (.string (match textV n call (.ptr cb co) h (.agg [.int .i64 (zOf h b off len kk y 0), .int .i64 (zOf h b off len kk y 1), .int .i64 (zOf h b off len kk y 2)]) with | some (.str s) => ⟨s.toArray⟩ | _ => ⟨#[]⟩)) ∧ Below W.heap.size W W' := by
            intro y W hy hB
            have hyl : y < len := by
              rcases Nat.lt_or_ge y len with q | q
              · exact q
              · simp only [zOf, if_neg (Nat.not_lt.2 q)] at hy; omega
            obtain ⟨k, f, t, h1, h2⟩ := hrows y hyl
            rw [hz y hyl] at h1
            simp only [Option.some.injEq, Prod.mk.injEq] at h1
            obtain ⟨e1, e2, e3⟩ := h1
            obtain ⟨s, h3⟩ := h2 (by rw [← e1]; exact hy)
            rw [← e1, ← e2, ← e3] at h3
            rw [h3]
            have h4 := h3
            unfold textV at h4
            split at h4
            · rename_i v' h1' hft
              simp only [Option.some.injEq] at h4
              subst h4
              have hsW := hs.below hB
              have hcalls := (o_graph_composer_text n call hcall [.ptr cb co, .agg [.int .i64 (zOf h b off len kk y 0), .int .i64 (zOf h b off len kk y 1), .int .i64 (zOf h b off len kk y 2)]] (frH h) (.str s) h1' hft).2 g W
                [.pointer (some ⟨cx, co, none⟩), .agg #[.int .i64 (zOf h b off len kk y 0), .int .i64 (zOf h b off len kk y 1), .int .i64 (zOf h b off len kk y 2)]] hsW.frozen
                ⟨_, _, rfl, ⟨cx, cn, hcφ, rfl⟩, _, _, rfl, ⟨[_, _, _], rfl, ⟨_, _, rfl, rfl, _, _, rfl, rfl, _, _, rfl, rfl, rfl⟩⟩, rfl⟩
              refine hcalls.mono ?_
              rintro e W' ⟨vc, g', rfl, hvc, _, hst⟩
              simp only [VR] at hvc
              subst hvc
              exact ⟨rfl, hst.toBelow⟩
            · cases h4
          refine (callsIn_wide (n := 3)).1 ((last_in Fence.wide 3 rfl (by omega) (some ⟨cx, co, none⟩) (some ⟨x, off, none⟩) len c kk (zOf h b off len kk) _ (by omega) w hcell hT).mono ?_)
          rintro e W' ⟨hb, hcase⟩
          simp only [hr] at he
          rcases lastT_some hr with ⟨rfl, hno⟩ | ⟨j, s, k1, f1, t1, h1, rfl, h3, h4, h5, h6⟩
          · simp only [Option.some.injEq, Prod.mk.injEq] at he
            obtain ⟨rfl, rfl⟩ := he
            rcases hcase with ⟨rfl, _⟩ | ⟨k, hk, _, hkk, _⟩
            · exact ⟨_, g, rfl, ⟨[.string ⟨#[]⟩, .bool false], rfl, ⟨_, _, rfl, rfl, _, _, rfl, rfl, rfl⟩⟩, hs.below hb, Stp.below hb⟩
            · exact absurd hkk (hno _ (by omega) _ _ _ (hz _ (by omega)))
          · simp only [Option.some.injEq, Prod.mk.injEq] at he
            obtain ⟨rfl, rfl⟩ := he
            have hz3 := hz j h1
            rw [h3] at hz3
            simp only [Option.some.injEq, Prod.mk.injEq] at hz3
            obtain ⟨e1, e2, e3⟩ := hz3
            rcases hcase with ⟨rfl, hnh⟩ | ⟨k, hk, hnh, hkk, rfl⟩
            · have := hnh j (by simp only [upto, List.mem_map, List.mem_range]; exact ⟨len - 1 - j, by omega, by omega⟩)
              exact absurd (show zOf h b off len kk j 0 = kk by rw [← e1]; exact h4) this
            · have hjk : len - 1 - k = j := by
                rcases Nat.lt_trichotomy (len - 1 - k) j with q | q | q
                · have := hnh j (by simp only [upto, List.mem_map, List.mem_range]; exact ⟨len - 1 - j, by omega, by omega⟩)
                  exact absurd (show zOf h b off len kk j 0 = kk by rw [← e1]; exact h4) this
                · exact q
                · exact absurd hkk (h6 _ q (by omega) _ _ _ (hz _ (by omega)))
              rw [hjk]
              refine ⟨_, g, rfl, ⟨[_, .bool true], rfl, ⟨_, _, rfl, ?_, _, _, rfl, rfl, rfl⟩⟩, hs.below hb, Stp.below hb⟩
              rw [← e1, ← e2, ← e3, h5]
              rfl
    · simp only [VR] at hv0 hv1 hv2
      obtain ⟨cx, cn, hcφ, rfl⟩ := hv0
      subst hv1; subst hv2
      simp only [Option.some.injEq, Prod.mk.injEq] at he
      exact hnil _ _ _ _ he.1.symm he.2.symm
    · simp only [VR] at hv0 hv1 hv2
      obtain ⟨cx, cn, hcφ, rfl⟩ := hv0
      obtain ⟨a1, c1, rfl⟩ := hv1
      subst hv2
      simp only [Option.some.injEq, Prod.mk.injEq] at he
      exact hnil _ _ _ _ he.1.symm he.2.symm
    · cases he
  · cases he
end Go.Proofs.YtmlhpcflphlgdaaGreatDoor
