/- An evaluator of the model's programs over abstract values, proved sound: part 2. -/
import Derived.Test.YtmlhpcflphlgdaaGreatDoorEv1
import Derived.Lib.MakeNoZero
import Derived.Lib.UnsafeStr
import Derived.Lib.Bytealg
/- What makes or writes memory is sound: the steps of heaps. -/
section PEvS7
set_option linter.unusedSimpArgs false
namespace Go.Ev
variable {P : Program} {g : Gh} {h : AH} {w : World}

def Gh.put (g : Gh) (b : Nat) (p : Nat × Nat) : Gh := ⟨fun c => if c = b then some p else g.φ c⟩

theorem Sim.fresh (s : Sim g h w) : g.φ h.next = none := by
  cases e : g.φ h.next with
  | none => rfl
  | some p => exact absurd (s.dom _ p.1 p.2 e).1 (by omega)

theorem Sim.le_put (s : Sim g h w) (p : Nat × Nat) : g.le (g.put h.next p) := by
  intro b q e
  have : b ≠ h.next := by intro hb; subst hb; rw [s.fresh] at e; cases e
  simp [Gh.put, this, e]

theorem push_old {x : Nat} (ob : Obj) (hx : x < w.heap.size) : (w.alloc ob).heap[x]? = w.heap[x]? := by
  show (w.heap.push ob)[x]? = _
  rw [Array.getElem?_push, if_neg (Nat.ne_of_lt hx)]
theorem push_new (ob : Obj) : (w.alloc ob).heap[w.heap.size]? = some ob := by
  show (w.heap.push ob)[w.heap.size]? = _
  simp

/-- A new block. -/
theorem Sim.alloc (s : Sim g h w) {o : AO} {ob : Obj} {n : Nat} (hor : OR (g.put h.next (w.heap.size, n)) n o ob) :
    Sim (g.put h.next (w.heap.size, n)) (h.new o) (w.alloc ob) ∧ Stp g h w (g.put h.next (w.heap.size, n)) (h.new o) (w.alloc ob) := by
  have hle := s.le_put (w.heap.size, n)
  have hold : ∀ b x m, g.φ b = some (x, m) → (w.alloc ob).heap[x]? = w.heap[x]? := fun b x m e => push_old ob (s.dom b x m e).2
  have hφ : ∀ b x m, b ≠ h.next → (g.put h.next (w.heap.size, n)).φ b = some (x, m) → g.φ b = some (x, m) := fun b x m hb e => by
    simpa [Gh.put, hb] using e
  have hφn : ∀ x m, (g.put h.next (w.heap.size, n)).φ h.next = some (x, m) → x = w.heap.size ∧ m = n := fun x m e => by
    simp [Gh.put] at e; exact ⟨e.1.symm, e.2.symm⟩
  refine ⟨⟨?_, ?_, ?_⟩, ⟨hle, by simp, ?_, ?_, rfl, rfl, rfl, by simp [AH.new], ?_, ?_⟩⟩
  · intro b o' hb
    rw [AH.get_new] at hb
    split at hb
    · rename_i e
      simp at hb; subst hb; subst e
      exact ⟨w.heap.size, n, ob, by simp [Gh.put], push_new ob, hor⟩
    · obtain ⟨x, m, ob', h1, h2, h3⟩ := s.obj b o' hb
      exact ⟨x, m, ob', hle _ _ h1, by rw [hold b x m h1]; exact h2, h3.mono hle⟩
  · intro b b' x m m' hb hb' h1 h2
    rw [AH.get_new] at hb hb'
    by_cases e1 : b = h.next <;> by_cases e2 : b' = h.next
    · rw [e1, e2]
    · subst e1
      obtain ⟨rfl, _⟩ := hφn _ _ h1
      exact absurd (s.dom _ _ _ (hφ _ _ _ e2 h2)).2 (by omega)
    · subst e2
      obtain ⟨rfl, _⟩ := hφn _ _ h2
      exact absurd (s.dom _ _ _ (hφ _ _ _ e1 h1)).2 (by omega)
    · rw [if_neg (Ne.symm e1)] at hb
      rw [if_neg (Ne.symm e2)] at hb'
      exact s.inj b b' x m m' hb hb' (hφ _ _ _ e1 h1) (hφ _ _ _ e2 h2)
  · intro b x m e
    by_cases e1 : b = h.next
    · subst e1
      obtain ⟨rfl, _⟩ := hφn _ _ e
      simp [AH.new]
    · have := s.dom b x m (hφ _ _ _ e1 e)
      simp [AH.new]; omega
  · intro x hx _
    exact push_old ob hx
  · intro x hx ⟨b, m, o', h1, h2, h3⟩
    by_cases e1 : b = h.next
    · subst e1
      obtain ⟨rfl, _⟩ := hφn _ _ h3
      omega
    · rw [AH.get_new, if_neg (Ne.symm e1)] at h1
      exact ⟨b, m, o', h1, h2, hφ _ _ _ e1 h3⟩
  · intro x hx ⟨b, m, o', h1, h3⟩
    by_cases e1 : b = h.next
    · subst e1
      obtain ⟨rfl, _⟩ := hφn _ _ h3
      omega
    · rw [AH.get_new, if_neg (Ne.symm e1)] at h1
      exact ⟨b, m, o', h1, hφ _ _ _ e1 h3⟩
  · intro b hb
    simp [Gh.put, Nat.ne_of_lt hb]

def setBlk (w : World) (x : Nat) (o : Obj) : World := { w with heap := w.heap.setIfInBounds x o }

theorem setBlk_setBlk (w : World) (x : Nat) (o o' : Obj) : setBlk (setBlk w x o) x o' = setBlk w x o' := by
  simp only [setBlk]
  congr 1
  apply Array.ext'
  simp
theorem get_setBlk_same {x : Nat} {o : Obj} (hx : x < w.heap.size) : (setBlk w x o).heap[x]? = some o := by
  simp [setBlk, hx]
theorem get_setBlk_ne {x y : Nat} {o : Obj} (h : x ≠ y) : (setBlk w x o).heap[y]? = w.heap[y]? := by
  simp [setBlk, Array.getElem?_setIfInBounds_ne h]

/-- A block that may be written is. -/
theorem Sim.upd (s : Sim g h w) {b x n : Nat} {old o : AO} {ob : Obj} (hb : h.get b = some old) (hl : old.loose = true) (hx : g.φ b = some (x, n)) (hor : OR g n o ob) :
    Sim g (h.put b o) (setBlk w x ob) ∧ Stp g h w g (h.put b o) (setBlk w x ob) := by
  have hxs := (s.dom _ _ _ hx).2
  refine ⟨⟨?_, ?_, ?_⟩, ⟨g.le_refl, by simp [setBlk], ?_, ?_, rfl, rfl, rfl, by simp [AH.put], ?_, fun _ _ => rfl⟩⟩
  · intro b' o' hb'
    rw [AH.get_put] at hb'
    split at hb'
    · rename_i e
      simp at hb'; subst hb'; subst e
      exact ⟨x, n, ob, hx, get_setBlk_same hxs, hor⟩
    · rename_i e
      obtain ⟨x', m, ob', h1, h2, h3⟩ := s.obj b' o' hb'
      have hne : x ≠ x' := by
        intro he; subst he
        exact e (s.inj b b' x n m (by rw [hb]; simp) (by rw [hb']; simp) hx h1)
      exact ⟨x', m, ob', h1, by rw [get_setBlk_ne hne]; exact h2, h3⟩
  · intro b1 b2 x' m m' h1 h2 e1 e2
    rw [AH.get_put] at h1 h2
    refine s.inj b1 b2 x' m m' ?_ ?_ e1 e2
    · by_cases e : b = b1
      · subst e; rw [hb]; simp
      · rwa [if_neg e] at h1
    · by_cases e : b = b2
      · subst e; rw [hb]; simp
      · rwa [if_neg e] at h2
  · intro b' x' m e
    have := s.dom b' x' m e
    simpa [AH.put, setBlk] using this
  · intro x' hx' hno
    refine get_setBlk_ne ?_
    intro e; subst e
    exact hno ⟨b, n, old, hb, hl, hx⟩
  · intro x' hx' ⟨b', m, o', h1, h2, h3⟩
    rw [AH.get_put] at h1
    by_cases e : b = b'
    · subst e; exact ⟨b, m, old, hb, hl, h3⟩
    · rw [if_neg e] at h1; exact ⟨b', m, o', h1, h2, h3⟩
  · intro x' hx' ⟨b', m, o', h1, h3⟩
    rw [AH.get_put] at h1
    by_cases e : b = b'
    · subst e; exact ⟨b, m, old, hb, h3⟩
    · rw [if_neg e] at h1; exact ⟨b', m, o', h1, h3⟩

theorem modify_eq {α : Type} (a : Array α) (x : Nat) (f : α → α) (v : α) (hx : a[x]? = some v) : a.modify x f = a.setIfInBounds x (f v) := by
  apply Array.ext_getElem?
  intro i
  rw [Array.getElem?_modify, Array.getElem?_setIfInBounds]
  by_cases h : x = i
  · subst h
    have hlt : x < a.size := by
      rcases Nat.lt_or_ge x a.size with h | h
      · exact h
      · rw [Array.getElem?_eq_none h] at hx; cases hx
    rw [Array.getElem?_eq_getElem hlt] at hx
    simp at hx
    simp [hlt, hx]
  · simp [h]

theorem setCell_eq {x off : Nat} {c : Array Value} {e : TypeId} {f : Nat × Nat} (hx : w.heap[x]? = some (.cells c e f)) (v : Value) : w.setCell ⟨x, off, none⟩ v = setBlk w x (.cells (c.setIfInBounds off v) e f) := by
  simp only [World.setCell, setBlk]
  rw [modify_eq _ _ _ _ hx]
  rfl

theorem run_storeCells {x off : Nat} {e : TypeId} {lo hi : Nat} : ∀ (vs : List Value) (i : Nat) (w : World) (c : Array Value), w.heap[x]? = some (.cells c e (lo, hi)) → (∀ v ∈ vs, v.oneCell' = true) → off + i + vs.length ≤ c.size →
    (∀ j, j < c.size → ¬ (lo ≤ j ∧ j < hi)) → (storeCells ⟨x, off, none⟩ vs i).run P w = .ok () (if vs = [] then w else setBlk w x (.cells (c.toList.take (off + i) ++ vs ++ c.toList.drop (off + i + vs.length)).toArray e (lo, hi)))
  | [], i, w, c, _, _, _, _ => by simp [storeCells]
  | v :: vs, i, w, c, hx, h1, hle, hf => by
    have hlt : off + i < c.size := by simp at hle; omega
    have hxs : x < w.heap.size := by
      rcases Nat.lt_or_ge x w.heap.size with h | h
      · exact h
      · rw [Array.getElem?_eq_none h] at hx; cases hx
    have hcell : w.cell? ⟨x, off + i, none⟩ = some c[off + i] := by simp [World.cell?, hx, hlt]
    have hfz : w.frozen? ⟨x, off + i, none⟩ = false := by
      have := hf (off + i) hlt
      simp [World.frozen?, hx]; omega
    have hst : (store (Addr.add ⟨x, off, none⟩ i) v).run P w = .ok () (setBlk w x (.cells (c.setIfInBounds (off + i) v) e (lo, hi))) := by
      rw [addr_add, run_store P w _ v _ (h1 v (by simp)), hcell]
      simp only [hfz, Bool.false_eq_true, if_false]
      rw [setCell_eq hx]
    have hx' : (setBlk w x (.cells (c.setIfInBounds (off + i) v) e (lo, hi))).heap[x]? = some (.cells (c.setIfInBounds (off + i) v) e (lo, hi)) := get_setBlk_same hxs
    have ih := run_storeCells (off := off) vs (i + 1) _ (c.setIfInBounds (off + i) v) hx' (fun u hu => h1 u (by simp [hu])) (by simp at hle ⊢; omega) (fun j hj => hf j (by simpa using hj))
    simp only [storeCells, Sem.run_bind, hst, Result.andThen_ok, ih]
    congr 1
    have hne : ¬ (v :: vs = []) := by simp
    rw [if_neg hne]
    have e1 : (c.setIfInBounds (off + i) v).toList.take (off + (i + 1)) = c.toList.take (off + i) ++ [v] := by
      rw [show off + (i + 1) = (off + i) + 1 by omega, List.take_succ_eq_append_getElem (by simpa using hlt)]
      simp [List.take_set_of_le]
    by_cases hvs : vs = []
    · subst hvs
      rw [if_pos rfl]
      congr 1
      congr 1
      apply Array.ext'
      simp only [List.length_cons, List.length_nil, Nat.zero_add, List.append_assoc]
      rw [Array.toList_setIfInBounds, List.set_eq_take_append_cons_drop, if_pos (by simpa using hlt)]
      simp
    · rw [if_neg hvs, setBlk_setBlk]
      congr 1
      congr 1
      rw [e1]
      have e2 : (c.setIfInBounds (off + i) v).toList.drop (off + (i + 1) + vs.length) = c.toList.drop (off + i + (vs.length + 1)) := by
        rw [Array.toList_setIfInBounds, List.drop_set_of_lt (by omega)]
        congr 1; omega
      rw [e2]
      simp

/-- Several cells of one block, stored. -/
theorem Sim.store (s : Sim g h w) {b x n off : Nat} {vs : List AV} {h' : AH} {ws : List Value} (hx : g.φ b = some (x, n)) (he : setCells h b off vs = some h') (hv : VRL g vs ws) :
    ∃ w', (storeCells ⟨x, off, none⟩ ws).run P w = .ok () w' ∧ Sim g h' w' ∧ Stp g h w g h' w' := by
  unfold setCells at he
  split at he
  · rename_i l e hb
    cases hc : (Nat.ble (off + vs.length) l.length && vs.all AV.one) with
    | false => simp [hc] at he
    | true =>
      simp [hc] at he; subst he
      simp only [Bool.and_eq_true, Nat.ble_eq] at hc
      obtain ⟨us, rest, lo, hi, m1, m2, m3, m4⟩ := s.cells_at hb hx
      have hlu := m2.length
      have hlv := hv.length
      have hone : ∀ v ∈ ws, v.oneCell' = true := by
        intro v hvm
        obtain ⟨j, hj⟩ := List.mem_iff_getElem?.1 hvm
        have hjl : j < vs.length := by
          rcases Nat.lt_or_ge j ws.length with h | h
          · omega
          · rw [List.getElem?_eq_none h] at hj; cases hj
        obtain ⟨a, ha⟩ : ∃ a, vs[j]? = some a := ⟨vs[j], by simp [hjl]⟩
        obtain ⟨v', hv', hr⟩ := hv.get ha
        rw [hj] at hv'; simp at hv'; subst hv'
        exact hr.one (List.all_eq_true.1 hc.2 a (List.mem_of_getElem? ha))
      have hsz : (us ++ rest).toArray.size = n := by simpa using m3
      have hrun := run_storeCells (P := P) (off := off) ws 0 w _ m1 hone (by simp; omega) (by rw [hsz]; intro j hj hh; rcases m4 rfl with h | h <;> omega)
      refine ⟨_, hrun, ?_⟩
      have hsplit : (us ++ rest).take (off + 0) ++ ws ++ (us ++ rest).drop (off + 0 + ws.length) = (us.take off ++ ws ++ us.drop (off + ws.length)) ++ rest := by
        rw [Nat.add_zero, List.take_append_of_le_length (by omega), List.drop_append_of_le_length (by omega)]
        simp
      have hor : OR g n (.cells (splice l off vs) e false) (.cells ((us.take off ++ ws ++ us.drop (off + ws.length)) ++ rest).toArray e (lo, hi)) := by
        refine ⟨_, rest, lo, hi, rfl, m2.splice off hv, ?_, m4⟩
        simp at m3 ⊢
        omega
      by_cases hws : ws = []
      · subst hws
        rw [if_pos rfl]
        have hvs : vs = [] := by cases vs <;> simp at hlv ⊢
        subst hvs
        have hself : setBlk w x (.cells ((us.take off ++ [] ++ us.drop (off + ([] : List Value).length)) ++ rest).toArray e (lo, hi)) = w := by
          have : us.take off ++ [] ++ us.drop (off + ([] : List Value).length) = us := by simp
          rw [this]
          simp only [setBlk]
          have hh : w.heap.setIfInBounds x (.cells (us ++ rest).toArray e (lo, hi)) = w.heap := by
            apply Array.ext_getElem?
            intro i
            rw [Array.getElem?_setIfInBounds]
            split
            · rename_i e1; subst e1
              split
              · rw [m1]
              · rename_i h2; rw [Array.getElem?_eq_none (by omega)]
            · rfl
          rw [hh]
        have := s.upd hb rfl hx hor
        rwa [hself] at this
      · rw [if_neg hws]
        simp only [List.toList_toArray] at hrun ⊢
        rw [hsplit]
        exact s.upd hb rfl hx hor
  · simp at he

end Go.Ev
end PEvS7
/- What makes or writes memory is sound: the operations. -/
section PEvS8
set_option linter.unusedSimpArgs false
namespace Go.Ev
variable {P : Program} {g : Gh} {h : AH} {w : World}

def WOK (P : Program) (o : Oper) (e : EOp) : Prop :=
  ∀ (g : Gh) (h : AH) (w : World) (a : Env) (ac : Act) (v : AV) (h' : AH), Sim g h w → AR g a ac → evW e a h = some (v, h') →
    ∃ vc g' w', ((execOp ac.eval o).run P w = .ok (.value vc) w' ∨ ((execOp ac.eval o).run P w = .ok .skip w' ∧ vc = undef)) ∧ VR g' v vc ∧ Sim g' h' w' ∧ Stp g h w g' h' w'

theorem VR_undef : VR g .undef undef := ⟨[], rfl, rfl⟩

theorem put_self (g : Gh) (b : Nat) (p : Nat × Nat) : (g.put b p).φ b = some p := by simp [Gh.put]

theorem or_cells (g' : Gh) {l : List AV} {c : Array Value} {e : TypeId} (hl : VRL g' l c.toList) : OR g' c.size (.cells l e false) (.cells c e (0, 0)) :=
  ⟨c.toList, [], 0, 0, by simp, hl, by simp, fun _ => .inl rfl⟩

/-- What hangs on operands alone and makes one block, by that block. -/
def FOK (P : Program) (o : Oper) (e : EOp) : Prop :=
  ∀ (g : Gh) (w : World) (a : Env) (ac : Act) (mk : Option (Nat × Nat × Option Nat)) (ob : AO), AR g a ac → evF e a = some (mk, ob) →
    ∃ vc obc n k, (execOp ac.eval o).run P w = .ok (.value vc) (World.alloc { w with drawn := w.drawn + k } obc) ∧ OR g n ob obc ∧ ∀ (g' : Gh) (b : Nat), g'.φ b = some (w.heap.size, n) → VR g' (mkF mk b) vc

theorem FOK.wok {o : Oper} {e : EOp} (hf : FOK P o e) (he : ∀ (a : Env) (h : AH) (v : AV) (h' : AH), evW e a h = some (v, h') → ∃ mk ob, evF e a = some (mk, ob) ∧ v = mkF mk h.next ∧ h' = h.new ob) : WOK P o e := by
  intro g h w a ac v h' s ha hev
  obtain ⟨mk, ob, h1, rfl, rfl⟩ := he a h v h' hev
  obtain ⟨vc, obc, n, k, hr, hor, hv⟩ := hf g w a ac mk ob ha h1
  have s1 : Sim g h { w with drawn := w.drawn + k } := ⟨s.obj, s.inj, s.dom⟩
  have st1 : Stp g h w g h { w with drawn := w.drawn + k } := ⟨g.le_refl, Nat.le_refl _, fun _ _ _ => rfl, fun _ _ h => h, rfl, rfl, rfl, Nat.le_refl _, fun _ _ h => h, fun _ _ => rfl⟩
  obtain ⟨s', st⟩ := s1.alloc (o := ob) (ob := obc) (n := n) (hor.mono (s1.le_put _))
  exact ⟨vc, _, _, .inl hr, hv _ _ (put_self _ _ _), s', st1.trans st⟩

theorem f_new {o : Oper} {t : TypeId} {i : TI} (ho : o.op = .alloc t) (ht : tinfo P t = some i) : FOK P o (.new t i.zero.cells) := by
  intro g w a ac mk ob ha he
  obtain ⟨ti, z, h1, h2, h3, _, h4, _⟩ := tinfo_some ht
  simp only [evF, Option.some.injEq, Prod.mk.injEq] at he
  obtain ⟨rfl, rfl⟩ := he
  have hz : VRL g i.zero.cells z.cells.toList := (absV_sound 9 h4).cells
  refine ⟨.pointer (some ⟨w.heap.size, 0, none⟩), .cells z.cells t (0, 0), z.cells.size, 0, ?_, or_cells _ hz, fun g' b hb => ⟨_, _, hb, rfl⟩⟩
  show (execOp ac.eval o).run P w = .ok (.value (.pointer (some ⟨w.heap.size, 0, none⟩))) (w.alloc (.cells z.cells t (0, 0)))
  simp [execOp, ho, Instr.alloc, run_zeroValue h1 h2, newVar, newRow]
theorem w_new {o : Oper} {t : TypeId} {i : TI} (ho : o.op = .alloc t) (ht : tinfo P t = some i) : WOK P o (.new t i.zero.cells) :=
  (f_new ho ht).wok fun a h v h' he => by
    simp only [evW, newCells, Option.some.injEq, Prod.mk.injEq] at he
    exact ⟨_, _, rfl, he.1.symm, he.2.symm⟩

theorem f_box {o : Oper} {t : TypeId} {x : Operand} {x' : Od} (ho : o.op = .box t x) (hx : cOd x = some x') : FOK P o (.box t x') := by
  intro g w a ac mk ob ha he
  simp only [evF] at he
  split at he
  · rename_i u hu
    simp only [Option.some.injEq, Prod.mk.injEq] at he
    obtain ⟨rfl, rfl⟩ := he
    have hz := (od_sound ha hx hu).cells
    refine ⟨.pointer (some ⟨w.heap.size, 0, none⟩), .cells (ac.eval x).cells t (0, 0), (ac.eval x).cells.size, 0, ?_, or_cells _ hz, fun g' b hb => ⟨_, _, hb, rfl⟩⟩
    show (execOp ac.eval o).run P w = .ok (.value (.pointer (some ⟨w.heap.size, 0, none⟩))) (w.alloc (.cells (ac.eval x).cells t (0, 0)))
    simp [execOp, ho, Instr.box, newVar, newRow]
  · simp at he
theorem w_box {o : Oper} {t : TypeId} {x : Operand} {x' : Od} (ho : o.op = .box t x) (hx : cOd x = some x') : WOK P o (.box t x') :=
  (f_box ho hx).wok fun a h v h' he => by
    simp only [evW] at he
    split at he
    · rename_i u hu
      simp only [newCells, Option.some.injEq, Prod.mk.injEq] at he
      exact ⟨none, .cells u.cells t false, by simp [evF, hu], he.1.symm, he.2.symm⟩
    · simp at he

theorem w_store {o : Oper} {t : TypeId} {i : TypeInfo} {x v : Operand} {x' v' : Od} (ho : o.op = .store t x v) (ht : P.info? t = some i) (hx : cOd x = some x') (hv : cOd v = some v') : WOK P o (.store i.size x' v') := by
  intro g h w a ac r h' s ha he
  simp only [evW] at he
  split at he
  · rename_i b off u h1 h2
    cases hc : Nat.beq u.cells.length i.size with
    | false => simp [hc] at he
    | true =>
      simp only [hc, cond_true] at he
      split at he
      · rename_i h1' hst
        simp only [Option.some.injEq, Prod.mk.injEq] at he
        obtain ⟨rfl, rfl⟩ := he
        obtain ⟨x0, n, hφ, ev⟩ := od_sound ha hx h1
        have hu := (od_sound ha hv h2).cells
        obtain ⟨w', r1, s', st⟩ := s.store (P := P) hφ hst hu
        refine ⟨undef, g, w', .inr ⟨?_, rfl⟩, VR_undef, s', st⟩
        have hsz : (ac.eval v).cells.size = i.size := by
          have := hu.length
          simp at this
          simp at hc
          omega
        simp [execOp, ho, Instr.storeAt, Instr.sureAddr, ev, storeVar, run_sizeOf ht, hsz, r1]
      · simp at he
  · simp at he

/-! ### rows of zeros -/
def zerosV (z : List Value) : Nat → List Value
  | 0 => []
  | n + 1 => z ++ zerosV z n
theorem VRL_zeros {zc : List AV} {z : List Value} (hz : VRL g zc z) : ∀ n, VRL g (zeros zc n) (zerosV z n)
  | 0 => rfl
  | n + 1 => hz.append (VRL_zeros hz n)
theorem zerosV_length (z : List Value) : ∀ n, (zerosV z n).length = n * z.length
  | 0 => by simp [zerosV]
  | n + 1 => by simp [zerosV, zerosV_length z n, Nat.add_mul]; omega

theorem zerosV_eq (z : Array Value) : ∀ n, (List.range (n * z.size)).map (fun k => z[k % z.size]!) = zerosV z.toList n
  | 0 => by simp [zerosV]
  | n + 1 => by
    have ih := zerosV_eq z n
    rw [show (n + 1) * z.size = z.size + n * z.size by rw [Nat.add_mul]; omega, List.range_add, List.map_append]
    simp only [zerosV]
    congr 1
    · apply List.ext_getElem?
      intro i
      by_cases hi : i < z.size
      · simp [hi, Nat.mod_eq_of_lt hi]
      · simp [hi, Nat.le_of_not_lt hi]
    · rw [List.map_map, ← ih]
      apply List.map_congr_left
      intro k _
      simp

theorem zerosA_eq (z : Array Value) (n m : Nat) (hm : m = n * z.size) : ((Array.range m).map (fun k => z[k % z.size]!)).toList = zerosV z.toList n := by
  subst hm
  rw [Array.toList_map, Array.toList_range, zerosV_eq]

theorem zerosA_nil (n m : Nat) (z : Array Value) (hm : m = 0) (hz : n * z.size = 0) : ((Array.range m).map (fun k => (#[] : Array Value)[k % (#[] : Array Value).size]!)).toList = zerosV z.toList n := by
  subst hm
  have : (zerosV z.toList n).length = 0 := by rw [zerosV_length]; simpa using hz
  rw [List.length_eq_zero_iff.1 this]
  simp

theorem f_buildSlice {o : Oper} {t e : TypeId} {len : Nat} {parts : Array (Nat × Operand)} {i : TI} {fl : List (Nat × Nat × Od)} (ho : o.op = .buildSlice t len parts) (ht : P.underlying t = some (.slice e)) (hi : tinfo P e = some i)
    (hle : len * i.size ≤ 1000) (hc : cFills i.size parts.toList = some fl) : FOK P o (.buildSlice e i.size len (zeros i.zero.cells len) fl) := by
  intro g w a ac mk ob ha he
  obtain ⟨ti, z, h1, h2, h3, _, h4, h5⟩ := tinfo_some hi
  simp only [evF] at he
  split at he
  · rename_i fs hfs
    split at he
    · rename_i cs hcs
      simp only [Option.some.injEq, Prod.mk.injEq] at he
      obtain ⟨rfl, rfl⟩ := he
      obtain ⟨hl, hp⟩ := cFills_sound ha hc hfs
      have hzc : VRL g i.zero.cells z.cells.toList := (absV_sound 9 h4).cells
      have hzs : z.cells.size = i.size := by have := hzc.length; simp at this; omega
      let row : Array Value := if len * i.size = 0 then (Array.range (len * i.size)).map (fun k => (#[] : Array Value)[k % (#[] : Array Value).size]!) else (Array.range (len * i.size)).map (fun k => z.cells[k % z.cells.size]!)
      have hrow : row.toList = zerosV z.cells.toList len := by
        show (if len * i.size = 0 then (Array.range (len * i.size)).map (fun k => (#[] : Array Value)[k % (#[] : Array Value).size]!) else (Array.range (len * i.size)).map (fun k => z.cells[k % z.cells.size]!)).toList = _
        split
        · rename_i h0; exact zerosA_nil _ _ _ h0 (by rw [hzs]; exact h0)
        · exact zerosA_eq _ _ _ (by rw [hzs])
      obtain ⟨cs', e1, e2⟩ := fill_sound (place := fun j => some (j * i.size, i.size)) (ps := parts.toList.map fun (j, x) => (j, ac.eval x)) (cs := row) hp hl (by rw [hrow]; exact VRL_zeros hzc len) hcs
      have hcsz : cs.length = len * i.size := by
        have hfill : ∀ (fs : List (Nat × Nat × AV)) (l r : List AV), fill l fs = some r → r.length = l.length := by
          intro fs
          induction fs with
          | nil => intro l r hf; simp [fill] at hf; rw [hf]
          | cons f fs ih =>
            intro l r hf
            obtain ⟨off, size, v⟩ := f
            simp only [fill] at hf
            cases hb : (Nat.beq v.cells.length size && Nat.ble (off + size) l.length) with
            | false => simp [hb] at hf
            | true =>
              simp only [hb, cond_true] at hf
              rw [ih _ _ hf]
              simp only [Bool.and_eq_true, Nat.beq_eq, Nat.ble_eq] at hb
              simp [splice]
              omega
        rw [hfill _ _ _ hcs]
        have := (VRL_zeros hzc len).length
        rw [zerosV_length] at this
        simp at this
        rw [← this, hzs]
      have hcs' : cs'.size = len * i.size := by have := e2.length; simp at this; omega
      refine ⟨.slice (some ⟨w.heap.size, 0, none⟩) len len, .cells cs' e (0, 0), cs'.size, 0, ?_, or_cells _ e2, fun g' b hb => ⟨w.heap.size, cs'.size, len, hb, rfl, Nat.le_refl _, by omega, fun c' hc' => by simpa using hc'⟩⟩
      show (execOp ac.eval o).run P w = .ok (.value (.slice (some ⟨w.heap.size, 0, none⟩) len len)) (w.alloc (.cells cs' e (0, 0)))
      have e1' : Instr.fill (fun j => some (j * i.size, i.size)) row (parts.map fun (j, x) => (j, ac.eval x)).toList = some cs' := by rw [Array.toList_map]; exact e1
      have hti : (sizeOf e).run P w = .ok i.size w := by rw [run_sizeOf h1, h3]
      have hbig : ¬ len * i.size > 2 ^ 24 := by omega
      simp only [execOp, ho, Instr.buildSlice, Sem.run_bind, run_underlying ht, Result.andThen_ok, hti]
      rw [if_neg hbig]
      by_cases h0 : len * i.size = 0
      · have hr : row = (Array.range (len * i.size)).map (fun k => (#[] : Array Value)[k % (#[] : Array Value).size]!) := if_pos h0
        simp only [h0, if_true, Sem.run_bind, Sem.run_pure, Result.andThen_ok]
        rw [hr, h0] at e1'
        simp only [e1', newRow, Sem.run_bind, run_newObj, Result.andThen_ok, Sem.run_pure]
        rfl
      · have hr : row = (Array.range (len * i.size)).map (fun k => z.cells[k % z.cells.size]!) := if_neg h0
        simp only [h0, if_false, Sem.run_bind, run_zeroValue h1 h2, Sem.run_pure, Result.andThen_ok]
        rw [hr] at e1'
        simp only [e1', newRow, Sem.run_bind, run_newObj, Result.andThen_ok, Sem.run_pure]
        rfl
    · simp at he
  · simp at he

theorem w_buildSlice {o : Oper} {t e : TypeId} {len : Nat} {parts : Array (Nat × Operand)} {i : TI} {fl : List (Nat × Nat × Od)} (ho : o.op = .buildSlice t len parts) (ht : P.underlying t = some (.slice e)) (hi : tinfo P e = some i)
    (hle : len * i.size ≤ 1000) (hc : cFills i.size parts.toList = some fl) : WOK P o (.buildSlice e i.size len (zeros i.zero.cells len) fl) :=
  (f_buildSlice ho ht hi hle hc).wok fun a h v h' he => by
    simp only [evW] at he
    split at he
    · rename_i fs hfs
      split at he
      · rename_i cs hcs
        simp only [Option.some.injEq, Prod.mk.injEq] at he
        exact ⟨some (len, i.size, some len), .cells cs e false, by simp [evF, hfs, hcs], he.1.symm, he.2.symm⟩
      · simp at he
    · simp at he

theorem w_mkMap {o : Oper} {t : TypeId} (ho : o.op = .makeMap t none) : WOK P o .mkMap := by
  intro g h w a ac v h' s ha he
  simp only [evW, Option.some.injEq, Prod.mk.injEq] at he
  obtain ⟨rfl, rfl⟩ := he
  obtain ⟨s', st⟩ := s.alloc (o := .map [] 0) (ob := .map #[] 0) (n := 0) ⟨[], rfl, rfl, rfl, rfl⟩
  refine ⟨.map (some w.heap.size), _, _, .inl ?_, ⟨_, _, put_self _ _ _, rfl⟩, s', st⟩
  simp [execOp, ho, Instr.makeMap]

theorem wrap_small {n : Nat} (hn : n ≤ most) : IntKind.i64.wrap (Int.ofNat n) = Int.ofNat n := by
  apply wrap_self <;> simp [IntKind.min, IntKind.max, IntKind.bits, IntKind.signed] <;> unfold most at hn <;> omega

theorem w_mkSlice {o : Oper} {t e : TypeId} {l c : Operand} {l' c' : Od} {i : TI} (ho : o.op = .makeSlice t l c) (ht : P.underlying t = some (.slice e)) (hi : tinfo P e = some i) (hl : cOd l = some l') (hc : cOd c = some c') :
    WOK P o (.mkSlice e i.size i.bytes i.zero.cells l' c') := by
  intro g h w a ac v h' s ha he
  obtain ⟨ti, z, h1, h2, h3, h3', h4, h5⟩ := tinfo_some hi
  simp only [evW] at he
  split at he
  · rename_i u v0 hu hv0
    split at he
    · rename_i n m hn hm
      cases hb : (Nat.ble n m && Nat.ble (m * i.bytes) most && Nat.ble m most) with
      | false => simp [hb] at he
      | true =>
        simp only [hb, cond_true, Option.some.injEq, Prod.mk.injEq] at he
        obtain ⟨rfl, rfl⟩ := he
        simp only [Bool.and_eq_true, Nat.ble_eq] at hb
        obtain ⟨⟨hnm, hmb⟩, hmm⟩ := hb
        obtain ⟨kn, rfl⟩ := natOf_some hn
        obtain ⟨km, rfl⟩ := natOf_some hm
        have el := od_sound ha hl hu
        have ec := od_sound ha hc hv0
        rw [VR] at el ec
        have hzc : VRL g i.zero.cells z.cells.toList := (absV_sound 9 h4).cells
        have hzs : z.cells.size = i.size := by have := hzc.length; simp at this; omega
        let row : Array Value := if m * i.size = 0 then (Array.range (m * i.size)).map (fun k => (#[] : Array Value)[k % (#[] : Array Value).size]!) else (Array.range (m * i.size)).map (fun k => z.cells[k % z.cells.size]!)
        have hrow : row.toList = zerosV z.cells.toList m := by
          show (if m * i.size = 0 then (Array.range (m * i.size)).map (fun k => (#[] : Array Value)[k % (#[] : Array Value).size]!) else (Array.range (m * i.size)).map (fun k => z.cells[k % z.cells.size]!)).toList = _
          split
          · rename_i h0; exact zerosA_nil _ _ _ h0 (by rw [hzs]; exact h0)
          · exact zerosA_eq _ _ _ (by rw [hzs])
        have hrs : row.size = m * i.size := by
          have := congrArg List.length hrow
          rw [zerosV_length] at this
          simp at this
          rw [this, hzs]
        obtain ⟨s', st⟩ := s.alloc (o := .cells (zeros i.zero.cells m) e false) (ob := .cells row e (0, 0)) (n := row.size) (or_cells _ (by rw [hrow]; exact (VRL_zeros hzc m).mono (s.le_put _)))
        refine ⟨.slice (some ⟨w.heap.size, 0, none⟩) n m, _, _, .inl ?_, ⟨w.heap.size, row.size, m, put_self _ _ _, rfl, hnm, by omega, fun c' hc' => by simpa using hc'⟩, s', st⟩
        have hti : (sizeOf e).run P w = .ok i.size w := by rw [run_sizeOf h1, h3]
        have ww : (Int.ofNat m).toNat = m := rfl
        have wn : (Int.ofNat n).toNat = n := rfl
        have hneg : ((decide (Int.ofNat m < 0) || decide ((ti.bytes : Int) * Int.ofNat m > 2 ^ 48)) || decide (Int.ofNat n < 0) || decide (Int.ofNat n > Int.ofNat m)) = false := by
          have hb2 : ti.bytes * m ≤ 68719476736 := by rw [h3', Nat.mul_comm]; exact hmb
          have hb3 : (ti.bytes : Int) * Int.ofNat m = ((ti.bytes * m : Nat) : Int) := by simp
          rw [hb3]
          simp only [Bool.or_eq_false_iff, decide_eq_false_iff_not]
          refine ⟨⟨⟨by simp, by omega⟩, by simp⟩, by simp; omega⟩
        simp only [execOp, ho, Instr.makeSlice, Sem.run_bind, run_underlying ht, Result.andThen_ok, el, ec, asInt, asIntOf, Sem.run_pure, run_typeInfo h1, wrap_small (Nat.le_trans hnm hmm), wrap_small hmm, hneg]
        simp only [Bool.false_eq_true, if_false, Sem.run_bind, run_askRoom, Result.andThen_ok, ww, wn, hti]
        by_cases h0 : m * i.size = 0
        · have hr : row = (Array.range (m * i.size)).map (fun k => (#[] : Array Value)[k % (#[] : Array Value).size]!) := if_pos h0
          simp only [h0, if_true, Sem.run_bind, Sem.run_pure, Result.andThen_ok]
          rw [hr, h0]
          simp only [newRow, Sem.run_bind, run_newObj, Result.andThen_ok, Sem.run_pure]
          rfl
        · have hr : row = (Array.range (m * i.size)).map (fun k => z.cells[k % z.cells.size]!) := if_neg h0
          simp only [h0, if_false, Sem.run_bind, run_zeroValue h1 h2, Sem.run_pure, Result.andThen_ok]
          rw [hr]
          simp only [newRow, Sem.run_bind, run_newObj, Result.andThen_ok, Sem.run_pure]
          rfl
    · simp at he
  · simp at he

end Go.Ev
end PEvS8
/- What makes or writes memory is sound: maps, iterators, bytes, append, copy. -/
section PEvS9
set_option linter.unusedSimpArgs false
namespace Go.Ev
variable {P : Program} {g : Gh} {h : AH} {w : World}

theorem setObj_run {x : Nat} {o old : Obj} (hx : w.heap[x]? = some old) (hold : ∀ c e f, old ≠ .cells c e f) : (setObj x o).run P w = .ok () (setBlk w x o) := by
  simp only [setObj, Sem.run, hx]
  cases old <;> first | (exact absurd rfl (hold _ _ _)) | rfl

/-! ### maps -/
theorem keyThatStays_same {old new : Value} (he : Instr.sameBits 10000 old new = true) (w : World) : (Instr.keyThatStays old new).run P w = .ok new w := by
  simp [Instr.keyThatStays, he]

theorem sameBits_of {fk : FK} {a b : AV} {x y : Value} (he : eqK fk a b = some true) (ha : VR g a x) (hb : VR g b y) : Instr.sameBits 10000 y x = true := by
  unfold eqK at he
  split at he
  · rename_i k m k' n
    simp only [VR] at ha hb; subst ha; subst hb
    cases hk : kbeq k k' with
    | false => simp [hk] at he
    | true =>
      simp [hk, ieq_eq] at he; subst he
      have := kbeq_eq hk; subst this
      simp [Instr.sameBits]
  · simp only [VR] at ha hb; subst ha; subst hb
    simp [beqB_eq] at he; subst he
    simp [Instr.sameBits, beq_toListBytes]
  · rename_i p q
    simp only [VR] at ha hb; subst ha; subst hb
    cases p <;> cases q <;> simp at he <;> rfl
  · rename_i n l m
    simp only [VR] at ha hb
    obtain ⟨vs, rfl, h1⟩ := ha
    obtain ⟨us, rfl, h2⟩ := hb
    have key : ∀ (l m : List AV) (vs us : List Value), eqInts l m = some true → VRL g l vs → VRL g m us → us.length = vs.length ∧ (us.zip vs).all (fun p => Instr.sameBits 9999 p.1 p.2) = true := by
      intro l
      induction l with
      | nil =>
        intro m vs us he h1 h2
        cases m with
        | nil => rw [VRL] at h1 h2; subst h1; subst h2; exact ⟨rfl, rfl⟩
        | cons _ _ => simp [eqInts] at he
      | cons a l ih =>
        intro m vs us he h1 h2
        cases m with
        | nil => cases a <;> simp [eqInts] at he
        | cons b m =>
          unfold eqInts at he
          split at he
          · rename_i e1 _; cases e1
          · rename_i k a' l' k' b' m' e1 e2
            simp only [List.cons.injEq] at e1 e2
            obtain ⟨rfl, rfl⟩ := e1
            obtain ⟨rfl, rfl⟩ := e2
            rw [VRL] at h1 h2
            obtain ⟨v, ws, rfl, hv, hw⟩ := h1
            obtain ⟨u, ys, rfl, hu, hy⟩ := h2
            simp only [VR] at hv hu
            subst hv; subst hu
            cases hkb : kbeq k k' with
            | false => simp [hkb] at he
            | true =>
              simp only [hkb, cond_true] at he
              cases hi : ieq a' b' with
              | false => simp [hi] at he
              | true =>
                simp only [hi, cond_true] at he
                obtain ⟨r1, r2⟩ := ih _ _ _ he hw hy
                have := kbeq_eq hkb; subst this
                rw [ieq_eq] at hi
                have hi' : a' = b' := by simpa using hi
                subst hi'
                exact ⟨by simp [r1], by simp only [List.zip_cons_cons, List.all_cons, r2, Bool.and_true]; simp [Instr.sameBits]⟩
          · cases he
    cases hb : (Nat.beq l.length n && Nat.beq m.length n) with
    | false => simp [hb] at he
    | true =>
      simp only [hb, cond_true] at he
      obtain ⟨r1, r2⟩ := key l m vs us he h1 h2
      rw [show (10000 : Nat) = 9999 + 1 from rfl]
      simp only [Instr.sameBits, Bool.and_eq_true, beq_iff_eq]
      refine ⟨by simpa using r1, by simpa using r2⟩
  · simp at he

theorem upd_sound {fk : FK} {kt : TypeId} (hm : mkOf P kt = some fk) {key val : AV} {kv vv : Value} (hk : VR g key kv) (hv : VR g val vv) (clock : Nat) (w : World) (find : List MapEntry → Nat → Sem (Option (Nat × Value))) (f0 : ∀ i, (find [] i).run P w = .ok none w)
    (f1 : ∀ (k : AV) (e : MapEntry) es i, VR g k e.key → eqK fk key k = some true → (find (e :: es) i).run P w = .ok (some (i, e.val)) w) (f2 : ∀ (k : AV) (e : MapEntry) es i, VR g k e.key → eqK fk key k = some false → (find (e :: es) i).run P w = (find es (i + 1)).run P w) : ∀ (ents : List (AV × AV × Nat)) (es : List MapEntry) (i : Nat) (ents' : List (AV × AV × Nat)) (grew : Bool),
    evW.upd fk key val clock ents = some (ents', grew) → VRL g (ents.map (·.1)) (es.map (·.key)) → VRL g (ents.map (·.2.1)) (es.map (·.val)) → ents.map (·.2.2) = es.map (·.born) →
    (grew = true ∧ (find es i).run P w = .ok none w ∧ ents' = ents ++ [(key, val, clock)]) ∨
    (grew = false ∧ ∃ j vc e, (find es i).run P w = .ok (some (i + j, vc)) w ∧ es[j]? = some e ∧ Instr.sameBits 10000 e.key kv = true ∧
      VRL g (ents'.map (·.1)) ((es.set j { e with key := kv, val := vv }).map (·.key)) ∧ VRL g (ents'.map (·.2.1)) ((es.set j { e with key := kv, val := vv }).map (·.val)) ∧ ents'.map (·.2.2) = (es.set j { e with key := kv, val := vv }).map (·.born))
  | [], es, i, ents', grew, he, h1, _, _ => by
    simp [evW.upd] at he
    obtain ⟨rfl, rfl⟩ := he
    simp [VRL] at h1; subst h1
    exact .inl ⟨rfl, f0 i, rfl⟩
  | (k, v, _) :: ents, es, i, ents', grew, he, h1, h2, h3 => by
    cases es with
    | nil => simp [VRL] at h1
    | cons e es =>
      simp only [List.map_cons, VRL, List.cons.injEq] at h1 h2 h3
      obtain ⟨_, _, ⟨rfl, rfl⟩, hk1, h1'⟩ := h1
      obtain ⟨_, _, ⟨rfl, rfl⟩, hv1, h2'⟩ := h2
      obtain ⟨hb, h3'⟩ := h3
      simp only [evW.upd] at he
      split at he
      · rename_i hek
        simp at he
        obtain ⟨rfl, rfl⟩ := he
        refine .inr ⟨rfl, 0, e.val, e, f1 k e es i hk1 hek, rfl, sameBits_of hek hk hk1, ?_, ?_, ?_⟩
        · exact ⟨_, _, rfl, hk, h1'⟩
        · exact ⟨_, _, rfl, hv, h2'⟩
        · simp [hb, h3']
      · rename_i hek
        have hn := f2 k e es i hk1 hek
        split at he
        · rename_i r' gr hr
          simp at he
          obtain ⟨rfl, rfl⟩ := he
          rcases upd_sound hm hk hv clock w find f0 f1 f2 ents es (i + 1) r' gr hr h1' h2' h3' with ⟨rfl, f, rfl⟩ | ⟨rfl, j, vc, e', f, ej, sb, q1, q2, q3⟩
          · exact .inl ⟨rfl, by rw [hn, f], rfl⟩
          · refine .inr ⟨rfl, j + 1, vc, e', by rw [hn, f]; congr 3; omega, by simpa using ej, sb, ?_, ?_, ?_⟩
            · exact ⟨_, _, rfl, hk1, q1⟩
            · exact ⟨_, _, rfl, hv1, q2⟩
            · simpa [hb] using q3
        · simp at he
      · simp at he

theorem upd_run {fk : FK} {kt : TypeId} (hm : mkOf P kt = some fk) {key val : AV} {kv vv : Value} (hk : VR g key kv) (hv : VR g val vv) (clock : Nat) (w : World) (ents : List (AV × AV × Nat)) (es : List MapEntry) (ents' : List (AV × AV × Nat)) (grew : Bool)
    (he : evW.upd fk key val clock ents = some (ents', grew)) (h1 : VRL g (ents.map (·.1)) (es.map (·.key))) (h2 : VRL g (ents.map (·.2.1)) (es.map (·.val))) (h3 : ents.map (·.2.2) = es.map (·.born)) :
    (grew = true ∧ (Instr.findKey kt kv es).run P w = .ok none w ∧ ents' = ents ++ [(key, val, clock)]) ∨
    (grew = false ∧ ∃ j vc e, (Instr.findKey kt kv es).run P w = .ok (some (j, vc)) w ∧ es[j]? = some e ∧ Instr.sameBits 10000 e.key kv = true ∧
      VRL g (ents'.map (·.1)) ((es.set j { e with key := kv, val := vv }).map (·.key)) ∧ VRL g (ents'.map (·.2.1)) ((es.set j { e with key := kv, val := vv }).map (·.val)) ∧ ents'.map (·.2.2) = (es.set j { e with key := kv, val := vv }).map (·.born)) := by
  rcases mkOf_cases hm with hfk | ⟨fs, ks, hu, hs, hks, hi, rfl⟩
  · obtain ⟨d, hd, hfd⟩ := fkOf_desc hfk
    let find : List MapEntry → Nat → Sem (Option (Nat × Value)) := fun es i => match Instr.findNow d kv es i with | some r => pure r | none => stuck ""
    rcases upd_sound (P := P) hm hk hv clock w find (fun i => by simp [find, Instr.findNow]) (fun k e es i hk1 hek => by simp [find, Instr.findNow, eqK_now hfd hek hk hk1])
        (fun k e es i hk1 hek => by simp [find, Instr.findNow, eqK_now hfd hek hk hk1]) ents es 0 ents' grew he h1 h2 h3 with ⟨q1, q2, q3⟩ | ⟨q1, j, vc, e, q2, q3⟩
    · refine .inl ⟨q1, ?_, q3⟩
      simp only [find] at q2
      simp only [Instr.findKey, Sem.run_bind, run_underlying hd, Result.andThen_ok]
      cases hx : Instr.findNow d kv es 0 with
      | none => rw [hx] at q2; simp [stuck] at q2
      | some r => rw [hx] at q2; exact q2
    · refine .inr ⟨q1, j, vc, e, ?_, q3⟩
      simp only [find] at q2
      simp only [Instr.findKey, Sem.run_bind, run_underlying hd, Result.andThen_ok]
      cases hx : Instr.findNow d kv es 0 with
      | none => rw [hx] at q2; simp [stuck] at q2
      | some r => rw [hx] at q2; simpa using q2
  · have hask : ∀ (k : AV) (e : MapEntry) q, VR g k e.key → eqK (.is ks.length) key k = some q → (Op.equal kt kv e.key).run P w = .ok q w := by
      intro k e q hk1 hq
      exact equal_is hu hs hks hi hk hk1 hq w
    rcases upd_sound (P := P) hm hk hv clock w (fun es i => Instr.findAsking kt kv es i) (fun i => by simp [Instr.findAsking]) (fun k e es i hk1 hek => by simp [Instr.findAsking, hask k e _ hk1 hek])
        (fun k e es i hk1 hek => by simp [Instr.findAsking, hask k e _ hk1 hek]) ents es 0 ents' grew he h1 h2 h3 with ⟨q1, q2, q3⟩ | ⟨q1, j, vc, e, q2, q3⟩
    · refine .inl ⟨q1, ?_, q3⟩
      cases es with
      | nil => simp [Instr.findKey, run_underlying hu, Instr.findNow]
      | cons e es =>
        have hn : Instr.findNow (.struct fs) kv (e :: es) 0 = none := by simp [Instr.findNow, sameNow_struct]
        simp only [Instr.findKey, Sem.run_bind, run_underlying hu, Result.andThen_ok, hn]
        exact q2
    · refine .inr ⟨q1, j, vc, e, ?_, q3⟩
      cases es with
      | nil => simp [Instr.findAsking] at q2
      | cons e es =>
        have hn : Instr.findNow (.struct fs) kv (e :: es) 0 = none := by simp [Instr.findNow, sameNow_struct]
        simp only [Instr.findKey, Sem.run_bind, run_underlying hu, Result.andThen_ok, hn]
        simpa using q2

theorem w_mapUpd {o : Oper} {t kt et : TypeId} {x k v : Operand} {x' k' v' : Od} {fk : FK} (ho : o.op = .mapUpdate t x k v) (ht : P.underlying t = some (.map kt et)) (hfk : mkOf P kt = some fk) (hx : cOd x = some x') (hk : cOd k = some k') (hv : cOd v = some v') :
    WOK P o (.mapUpd fk x' k' v') := by
  intro g h w a ac r h' s ha he
  simp only [evW] at he
  split at he
  · rename_i b key val h1 h2 h3
    obtain ⟨x0, n, hφ, ev⟩ := od_sound ha hx h1
    have ek := od_sound ha hk h2
    have eval := od_sound ha hv h3
    split at he
    · rename_i es clock hb
      obtain ⟨ms, m1, m2, m3, m4⟩ := s.map_at hb hφ
      cases hfit : keyFits fk key with
      | false => simp [hfit] at he
      | true =>
      simp only [hfit, cond_true] at he
      have hck := fun em => checkKey_run hfk ek hfit em w
      split at he
      · rename_i es' grew hu
        simp only [Option.some.injEq, Prod.mk.injEq] at he
        obtain ⟨rfl, rfl⟩ := he
        have hne : ∀ c e f, Obj.map ms.toArray clock ≠ .cells c e f := by intro c e f hh; cases hh
        rcases upd_run hfk ek eval clock w es ms es' grew hu m2 m3 m4 with ⟨rfl, hfind, rfl⟩ | ⟨rfl, j, vc, e, hfind, ej, sb, q1, q2, q3⟩
        · obtain ⟨s', st⟩ := s.upd (o := .map (es ++ [(key, val, clock)]) (clock + 1)) (ob := .map (ms ++ [({ key := ac.eval k, val := ac.eval v, born := clock } : MapEntry)]).toArray (clock + 1)) hb rfl hφ
            ⟨_, rfl, by simpa using m2.append (l' := [key]) (vs' := [ac.eval k]) ⟨_, _, rfl, ek, rfl⟩, by simpa using m3.append (l' := [val]) (vs' := [ac.eval v]) ⟨_, _, rfl, eval, rfl⟩, by simpa using m4⟩
          refine ⟨undef, g, _, .inr ⟨?_, rfl⟩, VR_undef, s', st⟩
          simp only [execOp, ho, Instr.mapUpdate, Sem.run_bind, run_underlying ht, Result.andThen_ok, ev, run_getObj_map m1, hck, hfind]
          rw [setObj_run m1 hne]
          simp
        · obtain ⟨s', st⟩ := s.upd (o := .map es' clock) (ob := .map (ms.set j { e with key := ac.eval k, val := ac.eval v }).toArray clock) hb rfl hφ ⟨_, rfl, q1, q2, q3⟩
          refine ⟨undef, g, _, .inr ⟨?_, rfl⟩, VR_undef, s', st⟩
          have hj : ms.toArray[j]? = some e := by simpa using ej
          simp only [execOp, ho, Instr.mapUpdate, Sem.run_bind, run_underlying ht, Result.andThen_ok, ev, run_getObj_map m1, hck, hfind]
          simp only [hj, Option.map_some, Option.getD_some, keyThatStays_same sb, Result.andThen_ok]
          rw [modify_eq _ _ _ _ hj, setObj_run m1 hne]
          simp
      · simp at he
    · simp at he
  · simp at he

theorem w_insert {o : Oper} {t kt et : TypeId} {x k v : Operand} {x' k' v' : Od} {fk : FK} (ho : o.op = .insert t x k v) (ht : P.underlying t = some (.map kt et)) (hfk : mkOf P kt = some fk) (hx : cOd x = some x') (hk : cOd k = some k') (hv : cOd v = some v') :
    WOK P o (.mapUpd fk x' k' v') := by
  have key := w_mapUpd (o := { o with op := .mapUpdate t x k v }) rfl ht hfk hx hk hv
  intro g h w a ac r h' s ha he
  have := key g h w a ac r h' s ha he
  rw [show execOp ac.eval o = execOp ac.eval { o with op := .mapUpdate t x k v } from by simp only [execOp, ho]]
  exact this

/-! ### a string's signs -/
theorem w_range {o : Oper} {t : TypeId} {x : Operand} {x' : Od} (ho : o.op = .range t x) (ht : P.underlying t = some .string) (hx : cOd x = some x') : WOK P o (.rangeS x') := by
  intro g h w a ac v h' s ha he
  simp only [evW] at he
  split at he
  · rename_i str h1
    have ev := od_sound ha hx h1
    rw [VR] at ev
    simp only [Option.some.injEq, Prod.mk.injEq] at he
    obtain ⟨rfl, rfl⟩ := he
    obtain ⟨s', st⟩ := s.alloc (o := .iter str 0) (ob := .stringIter ⟨str.toArray⟩ 0) (n := 0) rfl
    refine ⟨.pointer (some ⟨w.heap.size, 0, none⟩), _, _, .inl ?_, ⟨_, _, put_self _ _ _, rfl⟩, s', st⟩
    simp [execOp, ho, Instr.range, run_underlying ht, ev]
  · simp at he

theorem w_next {o : Oper} {x : Operand} {x' : Od} (ho : o.op = .next x true) (hx : cOd x = some x') : WOK P o (.nextS x') := by
  intro g h w a ac v h' s ha he
  simp only [evW] at he
  split at he
  · rename_i b h1
    obtain ⟨x0, n, hφ, ev⟩ := od_sound ha hx h1
    split at he
    · rename_i str pos hb
      obtain ⟨x', n', ob, g1, g2, g3⟩ := s.obj _ _ hb
      rw [hφ] at g1; simp at g1; obtain ⟨rfl, rfl⟩ := g1
      have g3' : ob = .stringIter ⟨str.toArray⟩ pos := g3
      subst g3'
      have hget : (getObj x0).run P w = .ok (.stringIter ⟨str.toArray⟩ pos) w := by simp [getObj, Sem.run, g2]
      cases hp : Nat.blt pos str.length with
      | true =>
        have hlt := blt_true hp
        simp only [hp, cond_true, Option.some.injEq, Prod.mk.injEq] at he
        obtain ⟨rfl, rfl⟩ := he
        obtain ⟨s', st⟩ := s.upd (o := .iter str (pos + (Utf8.decode ⟨str.toArray⟩ pos).2)) (ob := .stringIter ⟨str.toArray⟩ (pos + (Utf8.decode ⟨str.toArray⟩ pos).2)) hb rfl hφ rfl
        refine ⟨.tuple #[.bool true, .int .i64 pos, .int .i32 (Utf8.decode ⟨str.toArray⟩ pos).1], g, _, .inl ?_, ⟨[_, _, _], rfl, _, _, rfl, rfl, _, _, rfl, rfl, _, _, rfl, rfl, rfl⟩, s', st⟩
        simp only [execOp, ho, Instr.next, ev, Sem.run_bind, hget, Result.andThen_ok]
        rw [if_pos (by rw [str_size]; exact hlt)]
        simp only [Sem.run_bind, setObj_run g2 (fun c e f hh => by cases hh), Result.andThen_ok, Sem.run_pure]
        rfl
      | false =>
        have hge := blt_false hp
        simp only [hp, cond_false, Option.some.injEq, Prod.mk.injEq] at he
        obtain ⟨rfl, rfl⟩ := he
        refine ⟨.tuple #[.bool false], g, w, .inl ?_, ⟨[_], rfl, _, _, rfl, rfl, rfl⟩, s, Stp.refl _ _ _⟩
        simp only [execOp, ho, Instr.next, ev, Sem.run_bind, hget, Result.andThen_ok]
        rw [if_neg (by rw [str_size]; exact hge)]
        rfl
    · simp at he
  · simp at he

/-! ### bytes of strings, and back -/
theorem VRL_u8 : ∀ (str : List UInt8), VRL g (str.map AV.u8) (str.map fun b => Value.int .u8 b.toNat)
  | [] => rfl
  | _ :: l => ⟨_, _, rfl, rfl, VRL_u8 l⟩

theorem cap_ge (need old : Nat) (elem : TypeId) (t : Nat) : need ≤ (Question.appendCap need old elem).cut t := by
  simp only [Question.cut]; omega

theorem freeze_new {c : Array Value} {e : TypeId} {lo hi : Nat} (k m : Nat) (hm : m ≠ 0) :
    (w.alloc (.cells c e (lo, hi))).freeze { block := w.heap.size, off := k } m = w.alloc (.cells c e (if lo == hi then (k, k + m) else (min lo k, max hi (k + m)))) := by
  simp only [World.freeze]
  rw [if_neg hm]
  show ({ w with heap := (w.heap.push (.cells c e (lo, hi))).modify w.heap.size _ } : World) = { w with heap := w.heap.push _ }
  congr 1
  rw [modify_eq _ _ _ (.cells c e (lo, hi)) (by simp)]
  apply Array.ext'
  simp

theorem f_s2b {o : Oper} {t u e : TypeId} {x : Operand} {x' : Od} (ho : o.op = .convert t u x) (ht : P.underlying t = some .string) (hu : P.underlying u = some (.slice e)) (he0 : P.underlying e = some (.int .u8)) (hx : cOd x = some x') : FOK P o (.s2b e x') := by
  intro g w a ac mk ob ha he
  simp only [evF] at he
  split at he
  · rename_i str h1
    have ev := od_sound ha hx h1
    rw [VR] at ev
    simp only [Option.some.injEq, Prod.mk.injEq] at he
    obtain ⟨rfl, rfl⟩ := he
    let w1 : World := { w with drawn := w.drawn + 1 }
    let cap := (Question.appendCap str.length 0 e).cut (w.tape w.drawn (.appendCap str.length 0 e))
    have hcap : str.length ≤ cap := cap_ge _ _ _ _
    let vs : List Value := str.map fun b => Value.int .u8 b.toNat
    let rest : List Value := List.replicate (cap - str.length) (.int .u8 0)
    have hn : (vs ++ rest).length = cap := by simp [vs, rest]; omega
    refine ⟨.slice (some ⟨w.heap.size, 0, none⟩) str.length cap, .cells (vs ++ rest).toArray e (cap, cap + 1), cap, 1, ?_, ⟨vs, rest, _, _, rfl, VRL_u8 str, hn, fun _ => .inr (Nat.le_refl _)⟩,
      fun g' b hb => ⟨w.heap.size, cap, cap, hb, rfl, hcap, by omega, fun c' hc' => by simp at hc'⟩⟩
    have hz : (⟨str.toArray⟩ : ByteArray).size = str.length := str_size str
    have hmap : ((⟨str.toArray⟩ : ByteArray).data.map fun b => Value.int .u8 b.toNat) ++ Array.replicate (cap - str.length) (.int .u8 0) = (vs ++ rest).toArray := by
      apply Array.ext'; simp [vs, rest]
    have hforced : (Question.appendCap str.length 0 e).forced = false := rfl
    simp only [execOp, ho, ev, Sem.run_bind]
    simp only [convert, Sem.run_bind, run_underlying ht, run_underlying hu, Result.andThen_ok, run_underlying he0]
    simp only [Conv.stringToBytes, Sem.run_bind, hz, run_choose, hforced, Bool.false_eq_true, if_false, Result.andThen_ok, newRow, run_newObj, Sem.run_pure]
    show Result.andThen (Result.andThen ((markStringish ⟨w.heap.size, 0, none⟩).run P (w1.alloc (.cells _ e (0, 0)))) _) _ = _
    rw [hmap]
    have hsh : (w1.alloc (.cells (vs ++ rest).toArray e (0, 0))).shape? w.heap.size = some (e, cap) := by
      rw [shape_of (c := (vs ++ rest).toArray) (e := e) (f := (0, 0)) (push_new (w := w1) _)]
      simp only [List.size_toArray, hn]
    simp only [markStringish, Sem.run_bind, run_shape, hsh, Result.andThen_ok, run_freeze]
    rw [show (⟨w.heap.size, cap, none⟩ : Addr) = { block := w1.heap.size, off := cap } from rfl, freeze_new cap 1 (by omega)]
    simp
    exact ⟨rfl, rfl⟩
  · simp at he
theorem w_s2b {o : Oper} {t u e : TypeId} {x : Operand} {x' : Od} (ho : o.op = .convert t u x) (ht : P.underlying t = some .string) (hu : P.underlying u = some (.slice e)) (he0 : P.underlying e = some (.int .u8)) (hx : cOd x = some x') : WOK P o (.s2b e x') :=
  (f_s2b ho ht hu he0 hx).wok fun a h v h' he => by
    simp only [evW] at he
    split at he
    · rename_i str h1
      simp only [Option.some.injEq, Prod.mk.injEq] at he
      exact ⟨some (str.length, 1, none), _, by simp only [evF, h1], he.1.symm, he.2.symm⟩
    · simp at he

theorem freeze_eq {x : Nat} {c : Array Value} {e : TypeId} {lo hi k m : Nat} (hx : w.heap[x]? = some (.cells c e (lo, hi))) (hm : m ≠ 0) :
    w.freeze { block := x, off := k } m = setBlk w x (.cells c e (if lo == hi then (k, k + m) else (min lo k, max hi (k + m)))) := by
  simp only [World.freeze, setBlk]
  rw [if_neg hm, modify_eq _ _ _ _ hx]

theorem w_ss {o : Oper} {t e : TypeId} {x : Operand} {x' : Od} (ho : o.op = .convert t t x) (ht : P.underlying t = some (.slice e)) (he0 : P.underlying e = some (.int .u8)) (hx : cOd x = some x') : WOK P o (.ss x') := by
  intro g h w a ac v h' s ha he
  simp only [evW] at he
  split at he
  · rename_i b off len sz cap h1
    split at he
    · rename_i l e0 hb
      simp only [Option.some.injEq, Prod.mk.injEq] at he
      obtain ⟨rfl, rfl⟩ := he
      have hv := od_sound ha hx h1
      obtain ⟨x0, n, c, hφ, ev, _⟩ := hv
      obtain ⟨vs, rest, lo, hi, m1, m2, m3, m4⟩ := s.cells_at hb hφ
      have hor : OR g n (.cells l e0 false) (.cells (vs ++ rest).toArray e0 (if lo == hi then (n, n + 1) else (min lo n, max hi (n + 1)))) := by
        by_cases hlh : lo = hi
        · subst hlh
          simp only [beq_self_eq_true, if_true]
          exact ⟨vs, rest, _, _, rfl, m2, m3, fun _ => .inr (Nat.le_refl _)⟩
        · have : (lo == hi) = false := by simpa using hlh
          simp only [this, Bool.false_eq_true, if_false]
          refine ⟨vs, rest, _, _, rfl, m2, m3, fun _ => .inr ?_⟩
          rcases m4 rfl with h | h <;> omega
      obtain ⟨s', st⟩ := s.upd hb rfl hφ hor
      have hput : ∀ b', (h.put b (.cells l e0 false)).get b' = h.get b' := by
        intro b'
        rw [AH.get_put]
        split
        · rename_i e1; subst e1; exact hb.symm
        · rfl
      refine ⟨_, g, setBlk w x0 (.cells (vs ++ rest).toArray e0 (if lo == hi then (n, n + 1) else (min lo n, max hi (n + 1)))), .inl ?_, od_sound ha hx h1, ?_, ?_⟩
      · simp only [execOp, ho, ev, Sem.run_bind]
        simp only [convert, Sem.run_bind, run_underlying ht, Result.andThen_ok, run_underlying he0, beq_self_eq_true]
        simp only [Sem.run_bind, markStringish, run_shape, shape_of m1, List.size_toArray, m3, Result.andThen_ok, run_freeze, Sem.run_pure]
        rw [freeze_eq m1 (by omega)]
      · refine ⟨fun b' o hb' => s'.obj b' o (by rw [hput]; exact hb'), fun b1 b2 x n n' h1 h2 => s'.inj b1 b2 x n n' (by rw [hput]; exact h1) (by rw [hput]; exact h2), s'.dom⟩
      · refine ⟨st.ext, st.size, st.fr, fun x hx ⟨b', n', o, q1, q2, q3⟩ => ⟨b', n', o, q1, q2, q3⟩, st.os, st.out, st.tape, Nat.le_refl _, fun x hx ⟨b', n', o, q1, q3⟩ => ⟨b', n', o, q1, q3⟩, fun _ _ => rfl⟩
    · simp at he
  · simp at he

end Go.Ev
end PEvS9
/- What makes or writes memory is sound: append, copy, a Builder's text. -/
section PEvS10
set_option linter.unusedSimpArgs false
namespace Go.Ev
variable {P : Program} {g : Gh} {h : AH} {w : World}

theorem source_sound (s : Sim g h w) {sz n : Nat} {v : AV} {x : Value} {new : List AV} (hv : VR g v x) (he : source h sz v = some (n, new)) :
    (Builtin.lenOf x).run P w = .ok n w ∧ ∃ ws, VRL g new ws ∧ ws.length = n * sz ∧ ∀ m, m ≤ n → (Builtin.firstCells sz m x).run P w = .ok (ws.take (m * sz)).toArray w := by
  unfold source at he
  split at he
  · simp at he; obtain ⟨rfl, rfl⟩ := he
    rw [VR] at hv; subst hv
    exact ⟨rfl, [], rfl, by simp, fun m _ => by simp [Builtin.firstCells]⟩
  · simp at he; obtain ⟨rfl, rfl⟩ := he
    obtain ⟨a, c, rfl⟩ := hv
    refine ⟨rfl, [], rfl, by simp, fun m hm => ?_⟩
    have : m = 0 := by omega
    subst this
    simp [Builtin.firstCells, loadCells, loadCellsFrom]
  · rename_i b off len sz' cap
    cases hz : Nat.beq sz sz' with
    | false => simp [hz] at he
    | true =>
      have : sz = sz' := by simpa using hz
      subst this
      simp only [hz, cond_true] at he
      split at he
      · rename_i l hl
        simp at he; obtain ⟨rfl, rfl⟩ := he
        obtain ⟨x0, k, c, hφ, rfl, _⟩ := hv
        obtain ⟨vs, h2, h3, h4⟩ := s.cells_of hφ hl
        refine ⟨rfl, vs, h2, h3, fun m hm => ?_⟩
        have hle : m * sz ≤ vs.length := by rw [h3]; exact Nat.mul_le_mul_right _ hm
        exact run_loadCells_of P (by simp; omega) (fun j u hj => by
          have hjl : j < m * sz := by
            rcases Nat.lt_or_ge j (m * sz) with h | h
            · exact h
            · rw [List.getElem?_eq_none (by simp; omega)] at hj; cases hj
          rw [List.getElem?_take_of_lt hjl] at hj
          exact h4 j u hj)
      · simp at he
  · rename_i str
    cases hz : Nat.beq sz 1 with
    | false => simp [hz] at he
    | true =>
      have : sz = 1 := by simpa using hz
      subst this
      simp [hz] at he
      obtain ⟨rfl, rfl⟩ := he
      rw [VR] at hv; subst hv
      refine ⟨by simp [Builtin.lenOf, str_size], str.map fun b => Value.int .u8 b.toNat, VRL_u8 str, by simp, fun m hm => ?_⟩
      simp only [Builtin.firstCells, Sem.run_pure, extract_list]
      congr 1
      apply Array.ext'
      simp
  · simp at he

theorem nextcap_le {need c : Nat} (hc : c < need) : Builtin.nextslicecap need c ≤ 4 * need + 2000 := by
  unfold Builtin.nextslicecap
  split
  · omega
  · split
    · omega
    · simp only [Builtin.growBy]
      (repeat' split) <;> omega

theorem Sim.del (s : Sim g h w) (b : Nat) : Sim g (h.del b) w ∧ Stp g h w g (h.del b) w := by
  refine ⟨⟨fun b' o hb' => ?_, fun b1 b2 x n n' h1 h2 => ?_, fun b' x n e => by simpa [AH.del] using s.dom b' x n e⟩, ⟨g.le_refl, Nat.le_refl _, fun _ _ _ => rfl, fun x hx ⟨b', n, o, h1, h2, h3⟩ => ?_, rfl, rfl, rfl, by simp [AH.del], fun x hx ⟨b', n, o, h1, h3⟩ => ?_, fun _ _ => rfl⟩⟩
  · rw [AH.get_del] at hb'
    split at hb'
    · cases hb'
    · exact s.obj b' o hb'
  · rw [AH.get_del] at h1 h2
    refine s.inj b1 b2 x n n' ?_ ?_
    · split at h1
      · exact absurd rfl h1
      · exact h1
    · split at h2
      · exact absurd rfl h2
      · exact h2
  · rw [AH.get_del] at h1
    split at h1
    · cases h1
    · exact ⟨b', n, o, h1, h2, h3⟩
  · rw [AH.get_del] at h1
    split at h1
    · cases h1
    · exact ⟨b', n, o, h1, h3⟩

/-- A block is written, and goes on under a new number. -/
theorem Sim.moved (s : Sim g h w) {b x n : Nat} {old o : AO} {ob : Obj} (hb : h.get b = some old) (hl : old.loose = true) (hx : g.φ b = some (x, n)) (hor : OR g n o ob) :
    Sim (g.put h.next (x, n)) ((h.del b).new o) (setBlk w x ob) ∧ Stp g h w (g.put h.next (x, n)) ((h.del b).new o) (setBlk w x ob) := by
  have hle := s.le_put (x, n)
  have hxs := (s.dom _ _ _ hx).2
  have hφ : ∀ b' x' m, b' ≠ h.next → (g.put h.next (x, n)).φ b' = some (x', m) → g.φ b' = some (x', m) := fun b' x' m hb' e => by
    simpa [Gh.put, hb'] using e
  have hφn : ∀ x' m, (g.put h.next (x, n)).φ h.next = some (x', m) → x' = x ∧ m = n := fun x' m e => by
    simp [Gh.put] at e; exact ⟨e.1.symm, e.2.symm⟩
  have hg : ∀ c, ((h.del b).new o).get c = if h.next = c then some o else if b = c then none else h.get c := by
    intro c
    rw [AH.get_new, AH.get_del]; rfl
  refine ⟨⟨?_, ?_, ?_⟩, ⟨hle, by simp [setBlk], ?_, ?_, rfl, rfl, rfl, by simp [AH.new, AH.del], ?_, ?_⟩⟩
  · intro b' o' hb'
    rw [hg] at hb'
    split at hb'
    · rename_i e; simp at hb'; subst hb'; subst e
      exact ⟨x, n, ob, put_self _ _ _, get_setBlk_same hxs, hor.mono hle⟩
    · split at hb'
      · cases hb'
      · rename_i _ e
        obtain ⟨x', m, ob', h1, h2, h3⟩ := s.obj b' o' hb'
        have hne : x ≠ x' := by
          intro he; subst he
          exact e (s.inj b b' x n m (by rw [hb]; simp) (by rw [hb']; simp) hx h1)
        exact ⟨x', m, ob', hle _ _ h1, by rw [get_setBlk_ne hne]; exact h2, h3.mono hle⟩
  · intro b1 b2 x' m m' h1 h2 e1 e2
    rw [hg] at h1 h2
    by_cases q1 : b1 = h.next <;> by_cases q2 : b2 = h.next
    · rw [q1, q2]
    · subst q1
      obtain ⟨rfl, rfl⟩ := hφn _ _ e1
      have e2' := hφ _ _ _ q2 e2
      rw [if_neg (Ne.symm q2)] at h2
      by_cases q3 : b = b2
      · rw [if_pos q3] at h2; exact absurd rfl h2
      · rw [if_neg q3] at h2
        exact absurd (s.inj b b2 _ _ _ (by rw [hb]; simp) h2 hx e2') q3
    · subst q2
      obtain ⟨rfl, rfl⟩ := hφn _ _ e2
      have e1' := hφ _ _ _ q1 e1
      rw [if_neg (Ne.symm q1)] at h1
      by_cases q3 : b = b1
      · rw [if_pos q3] at h1; exact absurd rfl h1
      · rw [if_neg q3] at h1
        exact absurd (s.inj b b1 _ _ _ (by rw [hb]; simp) h1 hx e1') q3
    · rw [if_neg (Ne.symm q1)] at h1
      rw [if_neg (Ne.symm q2)] at h2
      refine s.inj b1 b2 x' m m' ?_ ?_ (hφ _ _ _ q1 e1) (hφ _ _ _ q2 e2)
      · split at h1
        · exact absurd rfl h1
        · exact h1
      · split at h2
        · exact absurd rfl h2
        · exact h2
  · intro b' x' m e
    by_cases q : b' = h.next
    · subst q
      obtain ⟨rfl, rfl⟩ := hφn _ _ e
      exact ⟨by simp [AH.new, AH.del], by simpa [setBlk] using hxs⟩
    · have := s.dom b' x' m (hφ _ _ _ q e)
      refine ⟨?_, by simpa [setBlk] using this.2⟩
      simp [AH.new, AH.del]; omega
  · intro x' hx' hno
    refine get_setBlk_ne ?_
    intro e; subst e
    exact hno ⟨b, n, old, hb, hl, hx⟩
  · intro x' hx' ⟨b', m, o', h1, h2, h3⟩
    rw [hg] at h1
    by_cases q : b' = h.next
    · subst q
      obtain ⟨rfl, rfl⟩ := hφn _ _ h3
      exact ⟨b, m, old, hb, hl, hx⟩
    · rw [if_neg (Ne.symm q)] at h1
      split at h1
      · cases h1
      · exact ⟨b', m, o', h1, h2, hφ _ _ _ q h3⟩
  · intro x' hx' ⟨b', m, o', h1, h3⟩
    rw [hg] at h1
    by_cases q : b' = h.next
    · subst q
      obtain ⟨rfl, rfl⟩ := hφn _ _ h3
      exact ⟨b, m, old, hb, hx⟩
    · rw [if_neg (Ne.symm q)] at h1
      split at h1
      · cases h1
      · exact ⟨b', m, o', h1, hφ _ _ _ q h3⟩
  · intro b' hb'
    simp [Gh.put, Nat.ne_of_lt hb']

/-! ### append -/
section append
variable {argTypes : Array TypeId} {ty st xt e : TypeId} {d : TypeDesc} {ti : TypeInfo} {z : Value} {base : Option Addr} {sLen sCap n : Nat} {x : Value} {ws : List Value}

/-- append, as far as its two ways. -/
theorem append_fits (h0 : argTypes[0]? = some st) (h1 : argTypes[1]? = some xt) (hs : P.underlying st = some (.slice e)) (hx : P.underlying xt = some d) (hd : ∀ k, d ≠ .int k) (hi : P.info? e = some ti)
    (hl : (Builtin.lenOf x).run P w = .ok n w) (hf : (Builtin.firstCells ti.size n x).run P w = .ok ws.toArray w) (hle : sLen + n ≤ sCap) (w' : World)
    (hst : match base with | some a => (storeCells (a.add (sLen * ti.size)) ws).run P w = .ok () w' | none => w' = w) :
    (Builtin.append_ argTypes ty #[.slice base sLen sCap, x]).run P w = .ok (.slice base (sLen + n) sCap) w' := by
  cases d <;> first
    | (exact absurd rfl (hd _))
    | (simp only [Builtin.append_, h0, h1, List.getElem?_toArray, List.getElem?_cons_zero, List.getElem?_cons_succ, Sem.run_bind, run_underlying hs, run_underlying hx, Result.andThen_ok, run_sizeOf hi, Sem.run_pure]
       simp only [Bool.false_eq_true, if_false, Sem.run_bind, hl, Result.andThen_ok, Bool.not_false, if_true]
       rw [if_pos hle]
       simp only [Sem.run_bind, hf, Result.andThen_ok]
       cases base with
       | none => simp at hst; subst hst; rfl
       | some a => simp only at hst; simp [hst])

theorem append_grows (h0 : argTypes[0]? = some st) (h1 : argTypes[1]? = some xt) (hs : P.underlying st = some (.slice e)) (hx : P.underlying xt = some d) (hd : ∀ k, d ≠ .int k) (hi : P.info? e = some ti) (hzv : ti.zero = some z)
    (hl : (Builtin.lenOf x).run P w = .ok n w) (hgt : sCap < sLen + n) (hbig : (sLen + n) * ti.bytes ≤ most) (hb0 : ti.bytes ≠ 0) {olds : List Value}
    (hf : (Builtin.firstCells ti.size n x).run P { w with drawn := w.drawn + 1 } = .ok ws.toArray { w with drawn := w.drawn + 1 })
    (ho : (Builtin.firstCells ti.size sLen (.slice base sLen sCap)).run P { w with drawn := w.drawn + 1 } = .ok olds.toArray { w with drawn := w.drawn + 1 }) :
    ∃ cap, sLen + n ≤ cap ∧ ∃ rest : List Value, rest.length = (cap - (sLen + n)) * z.cells.size ∧
    (Builtin.append_ argTypes ty #[.slice base sLen sCap, x]).run P w = .ok (.slice (some ⟨w.heap.size, 0, none⟩) (sLen + n) cap) (World.alloc { w with drawn := w.drawn + 1 } (.cells (olds ++ ws ++ rest).toArray e (0, 0))) := by
  refine ⟨(Question.appendCap (sLen + n) sCap e).cut (w.tape w.drawn (.appendCap (sLen + n) sCap e)), cap_ge _ _ _ _, (Builtin.zeroCells z.cells ((Question.appendCap (sLen + n) sCap e).cut (w.tape w.drawn (.appendCap (sLen + n) sCap e)) - (sLen + n))).toList, by simp [Builtin.zeroCells], ?_⟩
  have hnle : ¬ sLen + n ≤ sCap := by omega
  have hneed : sLen + n ≤ most := Nat.le_trans (Nat.le_mul_of_pos_right _ (Nat.pos_of_ne_zero hb0)) hbig
  have hnb : ¬ Builtin.nextslicecap (sLen + n) sCap * ti.bytes > 2 ^ 48 := by
    have q1 := nextcap_le hgt
    have q2 : Builtin.nextslicecap (sLen + n) sCap * ti.bytes ≤ (4 * (sLen + n) + 2000) * ti.bytes := Nat.mul_le_mul_right _ q1
    have q3 : (4 * (sLen + n) + 2000) * ti.bytes = 4 * ((sLen + n) * ti.bytes) + 2000 * ti.bytes := by rw [Nat.add_mul, Nat.mul_assoc]
    have q4 : ti.bytes ≤ (sLen + n) * ti.bytes := Nat.le_mul_of_pos_left _ (by omega)
    unfold most at hbig
    omega
  have hforced : (Question.appendCap (sLen + n) sCap e).forced = false := rfl
  cases d <;> first
    | (exact absurd rfl (hd _))
    | (simp only [Builtin.append_, h0, h1, List.getElem?_toArray, List.getElem?_cons_zero, List.getElem?_cons_succ, Sem.run_bind, run_underlying hs, run_underlying hx, Result.andThen_ok, run_sizeOf hi, Sem.run_pure]
       simp only [Bool.false_eq_true, if_false, Sem.run_bind, hl, Result.andThen_ok, Bool.not_false, if_true]
       rw [if_neg hnle]
       simp only [Sem.run_bind, run_typeInfo hi, Result.andThen_ok]
       rw [if_neg (by simp [hb0])]
       simp only [Sem.run_bind, run_typeInfo hi, Result.andThen_ok]
       rw [if_neg hnb]
       simp only [Sem.run_bind, run_choose, hforced, Bool.false_eq_true, if_false, Result.andThen_ok, run_typeInfo hi, run_askRoom, ho, hf, run_zeroValue hi hzv, newRow, run_newObj, Sem.run_pure]
       simp [World.alloc]
       congr 2
       apply Array.ext'
       simp)

/-- append of so many that are made, to nil. -/
theorem append_makes0 {k : IntKind} {kx : IntKind} (h0 : argTypes[0]? = some st) (h1 : argTypes[1]? = some xt) (hs : P.underlying st = some (.slice e)) (hx : P.underlying xt = some (.int k)) (hi : P.info? e = some ti) :
    (Builtin.append_ argTypes ty #[.slice none 0 0, .int kx (.ofNat 0)]).run P w = .ok (.slice none 0 0) w := by
  simp only [Builtin.append_, h0, h1, List.getElem?_toArray, List.getElem?_cons_zero, List.getElem?_cons_succ, Sem.run_bind, run_underlying hs, run_underlying hx, Result.andThen_ok, run_sizeOf hi, Sem.run_pure]
  have hw : IntKind.i64.wrap 0 = 0 := by decide
  simp [asInt, asIntOf, hw, run_typeInfo hi]

theorem append_makes {k kx : IntKind} {m : Nat} (h0 : argTypes[0]? = some st) (h1 : argTypes[1]? = some xt) (hs : P.underlying st = some (.slice e)) (hx : P.underlying xt = some (.int k)) (hi : P.info? e = some ti) (hzv : ti.zero = some z) (hz : z.cells.size = ti.size)
    (hm : 0 < m) (hbig : m * ti.bytes ≤ most) (hb0 : ti.bytes ≠ 0) :
    ∃ cap, m ≤ cap ∧ ∃ rest : List Value, rest.length = cap * ti.size ∧
    (Builtin.append_ argTypes ty #[.slice none 0 0, .int kx (.ofNat m)]).run P w = .ok (.slice (some ⟨w.heap.size, 0, none⟩) m cap) (World.alloc { w with drawn := w.drawn + 1 } (.cells rest.toArray e (0, 0))) := by
  have hmm : m ≤ most := Nat.le_trans (Nat.le_mul_of_pos_right _ (Nat.pos_of_ne_zero hb0)) hbig
  have hw : IntKind.i64.wrap (.ofNat m) = (m : Int) := by
    unfold most at hmm
    rw [← wr_eq]
    have hf : Ev.fits .i64 (.ofNat m) = true := by simp [Ev.fits]; omega
    simp only [wr, hf, cond_true, norm_eq]; rfl
  generalize hcap : (Question.appendCap m 0 e).cut (w.tape w.drawn (.appendCap m 0 e)) = cap
  have hcle : m ≤ cap := by
    have := cap_ge m 0 e (w.tape w.drawn (.appendCap m 0 e))
    rw [← hcap]; simpa using this
  have hnb : ¬ Builtin.nextslicecap m 0 * ti.bytes > 2 ^ 48 := by
    have q1 := nextcap_le (need := m) (c := 0) hm
    have q2 : Builtin.nextslicecap m 0 * ti.bytes ≤ (4 * m + 2000) * ti.bytes := Nat.mul_le_mul_right _ q1
    have q3 : (4 * m + 2000) * ti.bytes = 4 * (m * ti.bytes) + 2000 * ti.bytes := by rw [Nat.add_mul, Nat.mul_assoc]
    have q4 : ti.bytes ≤ m * ti.bytes := Nat.le_mul_of_pos_left _ hm
    unfold most at hbig
    omega
  have hforced : (Question.appendCap m 0 e).forced = false := rfl
  refine ⟨cap, hcle, (if m * ti.size = 0 then #[] else Builtin.zeroCells z.cells m).toList ++ (Builtin.zeroCells z.cells (cap - m)).toList, ?_, ?_⟩
  · split
    · rename_i h0
      have hs0 : ti.size = 0 := by
        rcases Nat.mul_eq_zero.1 h0 with h | h
        · omega
        · exact h
      simp [Builtin.zeroCells, hz, hs0]
    · simp [Builtin.zeroCells, hz]
      rw [← Nat.add_mul]; congr 1; omega
  · simp only [Builtin.append_, h0, h1, List.getElem?_toArray, List.getElem?_cons_zero, List.getElem?_cons_succ, Sem.run_bind, run_underlying hs, run_underlying hx, Result.andThen_ok, run_sizeOf hi, Sem.run_pure]
    have hl2 : ¬ ((m : Int) * (ti.bytes : Int) > 2 ^ 48) := by
      rw [← Int.natCast_mul]
      unfold most at hbig
      omega
    have hnn : ¬ (m : Int) < 0 := by omega
    simp only [if_true, Sem.run_bind, asInt, asIntOf, Sem.run_pure, Result.andThen_ok, hw, if_neg hnn, run_typeInfo hi, if_neg hl2, Int.toNat_natCast, Nat.zero_add]
    rw [if_neg (show ¬ m ≤ 0 by omega)]
    simp only [Sem.run_bind, run_typeInfo hi, Result.andThen_ok]
    rw [if_neg (by
      rintro ⟨h, _⟩
      have h2 : IntKind.i64.max = 9223372036854775807 := by decide
      unfold most at hmm
      rw [h2] at h
      omega)]
    simp only [Sem.run_bind, run_typeInfo hi, Result.andThen_ok]
    rw [if_neg hnb]
    simp only [Sem.run_bind, run_choose, hforced, Bool.false_eq_true, if_false, Result.andThen_ok, run_typeInfo hi, run_askRoom, Builtin.firstCells, Sem.run_pure, hcap, Bool.not_true]
    split
    · simp only [Sem.run_pure, Sem.run_bind, Result.andThen_ok, run_zeroValue hi hzv, newRow, run_newObj]
      simp [World.alloc]
    · simp only [Sem.run_pure, Sem.run_bind, Result.andThen_ok, run_zeroValue hi hzv, newRow, run_newObj]
      simp [World.alloc]
      congr 2
      apply Array.ext'
      simp

end append

theorem pair_args {c : Call} {s x : Operand} {ρ : Operand → Value} (ha0 : c.args.toList = [s, x]) : c.args.map ρ = #[ρ s, ρ x] := by
  apply Array.ext'
  simp [ha0]

theorem w_append {o : Oper} {c : Call} {st xt e : TypeId} {d : TypeDesc} {i : TI} {s x : Operand} {s' x' : Od} (ho : o.op = .call c) (hc : c.callee = .builtin .append) (ha0 : c.args.toList = [s, x]) (h0 : c.argTypes[0]? = some st) (h1 : c.argTypes[1]? = some xt)
    (hs : P.underlying st = some (.slice e)) (hx : P.underlying xt = some d) (hd : ∀ k, d ≠ .int k) (hi : tinfo P e = some i) (hb0 : i.bytes ≠ 0) (hcs : cOd s = some s') (hcx : cOd x = some x') : WOK P o (.append e i.size i.bytes i.zero.cells s' x') := by
  intro g h w a ac v h' sm ha he
  obtain ⟨ti, z, i1, i2, i3, i4, i5, i6⟩ := tinfo_some hi
  obtain ⟨cs, ecs⟩ := exec_builtin ho hc ac.eval
  have hzs : z.cells.size = i.size := by
    have := (absV_sound (g := g) 9 i5).cells.length
    simp at this
    omega
  simp only [evW] at he
  split at he
  · rename_i u y hu hy
    have evs := od_sound ha hcs hu
    have evx := od_sound ha hcx hy
    -- the run of the builtin is all that is asked
    suffices hsuff : ∃ vc g' w', (Builtin.append_ c.argTypes o.type #[ac.eval s, ac.eval x]).run P w = .ok vc w' ∧ VR g' v vc ∧ Sim g' h' w' ∧ Stp g h w g' h' w' by
      obtain ⟨vc, g', w', r1, r2, r3, r4⟩ := hsuff
      refine ⟨vc, g', w', .inl ?_, r2, r3, r4⟩
      rw [ecs, pair_args ha0]
      simp [builtin, r1]
    unfold appendAV at he
    split at he
    · cases he
    · rename_i n new hsrc
      obtain ⟨hl, ws, w1, w2, w3⟩ := source_sound (P := P) sm evx (sz := i.size) hsrc
      have hf : (Builtin.firstCells ti.size n (ac.eval x)).run P w = .ok ws.toArray w := by
        rw [i3, w3 n (Nat.le_refl _), List.take_of_length_le (by omega)]
      have sm1 : Sim g h { w with drawn := w.drawn + 1 } := sm.drew
      obtain ⟨_, ws1, w11, w12, w13⟩ := source_sound (P := P) sm1 evx (sz := i.size) hsrc
      have hf1 : (Builtin.firstCells ti.size n (ac.eval x)).run P { w with drawn := w.drawn + 1 } = .ok ws1.toArray { w with drawn := w.drawn + 1 } := by
        rw [i3, w13 n (Nat.le_refl _), List.take_of_length_le (by omega)]
      have hnl := w1.length
      split at he
      · -- nil
        simp only [VR] at evs
        rw [evs]
        cases hn : Nat.beq n 0 with
        | true =>
          have : n = 0 := by simpa using hn
          subst this
          simp only [hn, cond_true, Option.some.injEq, Prod.mk.injEq] at he
          obtain ⟨rfl, rfl⟩ := he
          exact ⟨_, g, w, append_fits h0 h1 hs hx hd i1 hl hf (by omega) w rfl, rfl, sm, Stp.refl _ _ _⟩
        | false =>
          simp only [hn, cond_false] at he
          cases hb : Nat.ble (n * i.bytes) most with
          | false => simp [hb] at he
          | true =>
            simp only [hb, cond_true, Option.some.injEq, Prod.mk.injEq] at he
            obtain ⟨rfl, rfl⟩ := he
            have hn0 : n ≠ 0 := by intro e; subst e; simp at hn
            have hbb : n * i.bytes ≤ most := by simpa using hb
            obtain ⟨cap, k1, rest, k2, k3⟩ := append_grows (P := P) (w := w) (ty := o.type) (base := none) (sLen := 0) (sCap := 0) (olds := []) h0 h1 hs hx hd i1 i2 hl (by omega) (by rw [i4]; simpa using hbb) (by rw [i4]; exact hb0) hf1 (by simp [Builtin.firstCells])
            obtain ⟨s', st'⟩ := sm1.alloc (o := .cells new e false) (ob := .cells ([] ++ ws1 ++ rest).toArray e (0, 0)) (n := cap * i.size) ⟨ws1, rest, 0, 0, by simp, w11.mono (sm1.le_put _), by
              simp only [List.length_append, w12, k2, hzs, Nat.zero_add]
              rw [← Nat.add_mul]; congr 1; omega, fun _ => .inl rfl⟩
            simp only [Nat.zero_add] at k1 k3
            exact ⟨_, _, _, k3, ⟨_, _, cap, put_self _ _ _, rfl, k1, by omega, fun c' hc' => by simp at hc'⟩, s', (Stp.drew g h w).trans st'⟩
      · -- empty, nobody knows where
        cases hn : Nat.beq n 0 with
        | false => simp [hn] at he
        | true =>
          have : n = 0 := by simpa using hn
          subst this
          simp only [hn, cond_true, Option.some.injEq, Prod.mk.injEq] at he
          obtain ⟨rfl, rfl⟩ := he
          obtain ⟨a0, c0, ev⟩ := evs
          rw [ev]
          have hws : ws = [] := List.eq_nil_of_length_eq_zero (by rw [w2, Nat.zero_mul])
          subst hws
          exact ⟨_, g, w, append_fits h0 h1 hs hx hd i1 hl hf (by omega) w (by simp [storeCells]), ⟨_, _, rfl⟩, sm, Stp.refl _ _ _⟩
      · rename_i b off len sz' cap
        cases hz : Nat.beq i.size sz' with
        | false => simp [hz] at he
        | true =>
          have hsz : i.size = sz' := by simpa using hz
          subst hsz
          simp only [hz, cond_true] at he
          obtain ⟨x0, k, c0, hφ, ev, hle, hle2, hcap⟩ := evs
          rw [ev]
          split at he
          · -- a known capacity
            rename_i cap
            have := hcap cap rfl
            subst this
            cases hfit : Nat.ble (len + n) c0 with
            | true =>
              simp only [hfit, cond_true] at he
              have hfit' : len + n ≤ c0 := by simpa using hfit
              cases hn : Nat.beq n 0 with
              | true =>
                have : n = 0 := by simpa using hn
                subst this
                simp only [hn, cond_true, Option.some.injEq, Prod.mk.injEq] at he
                obtain ⟨rfl, rfl⟩ := he
                have hws : ws = [] := List.eq_nil_of_length_eq_zero (by rw [w2, Nat.zero_mul])
                subst hws
                exact ⟨_, g, w, append_fits h0 h1 hs hx hd i1 hl hf (by omega) w (by simp [storeCells]), ⟨x0, k, c0, hφ, rfl, hle, hle2, hcap⟩, sm, Stp.refl _ _ _⟩
              | false =>
                simp only [hn, cond_false] at he
                split at he
                · rename_i h1' hst
                  simp only [Option.some.injEq, Prod.mk.injEq] at he
                  obtain ⟨rfl, rfl⟩ := he
                  obtain ⟨w', r1, s', st'⟩ := sm.store (P := P) hφ hst w1
                  refine ⟨_, g, w', append_fits h0 h1 hs hx hd i1 hl hf hfit' w' ?_, ⟨x0, k, c0, hφ, rfl, hfit', hle2, hcap⟩, s', st'⟩
                  simp only [addr_add, i3]
                  exact r1
                · cases he
            | false =>
              simp only [hfit, cond_false] at he
              have hnfit : c0 < len + n := by
                rcases Nat.lt_or_ge c0 (len + n) with h | h
                · exact h
                · have := Nat.ble_eq_true_of_le h; rw [this] at hfit; cases hfit
              cases hb : Nat.ble ((len + n) * i.bytes) most with
              | false => simp [hb] at he
              | true =>
                have hbb : (len + n) * i.bytes ≤ most := by simpa using hb
                simp only [hb, cond_true] at he
                split at he
                · rename_i old hold
                  simp only [Option.some.injEq, Prod.mk.injEq] at he
                  obtain ⟨rfl, rfl⟩ := he
                  obtain ⟨vs, v1, v2, v3⟩ := sm1.cells_of hφ hold
                  obtain ⟨cap', k1, rest, k2, k3⟩ := append_grows (P := P) (w := w) (ty := o.type) (base := some ⟨x0, off, none⟩) (sLen := len) (sCap := c0) (olds := vs) h0 h1 hs hx hd i1 i2 hl hnfit (by rw [i4]; exact hbb) (by rw [i4]; exact hb0) hf1
                    (by simp only [Builtin.firstCells, i3]; exact run_loadCells_of P v2 v3)
                  obtain ⟨s', st'⟩ := sm1.alloc (o := .cells (old ++ new) e false) (ob := .cells (vs ++ ws1 ++ rest).toArray e (0, 0)) (n := cap' * i.size) ⟨vs ++ ws1, rest, 0, 0, rfl, (v1.append w11).mono (sm1.le_put _), by
                    simp only [List.length_append, w12, k2, hzs, v2]
                    rw [← Nat.add_mul, ← Nat.add_mul]; congr 1; omega, fun _ => .inl rfl⟩
                  exact ⟨_, _, _, k3, ⟨_, _, cap', put_self _ _ _, rfl, k1, by omega, fun c' hc' => by simp at hc'⟩, s', (Stp.drew g h w).trans st'⟩
                · cases he
          · -- a capacity that is not known
            cases hn : Nat.beq n 0 with
            | true =>
              have : n = 0 := by simpa using hn
              subst this
              simp only [hn, cond_true, Option.some.injEq, Prod.mk.injEq] at he
              obtain ⟨rfl, rfl⟩ := he
              have hws : ws = [] := List.eq_nil_of_length_eq_zero (by rw [w2, Nat.zero_mul])
              subst hws
              exact ⟨_, g, w, append_fits h0 h1 hs hx hd i1 hl hf (by omega) w (by simp [storeCells]), ⟨x0, k, c0, hφ, rfl, hle, hle2, hcap⟩, sm, Stp.refl _ _ _⟩
            | false =>
              have hn0 : n ≠ 0 := by intro e; subst e; simp at hn
              simp only [hn, cond_false] at he
              cases hb : (Nat.beq off 0 && Nat.ble ((len + n) * i.bytes) most) with
              | false => simp [hb] at he
              | true =>
                simp only [hb, cond_true] at he
                simp only [Bool.and_eq_true, Nat.beq_eq, Nat.ble_eq] at hb
                obtain ⟨rfl, hbb⟩ := hb
                split at he
                · rename_i l e0 hbl
                  cases hq : (Nat.ble (len * i.size) l.length && Nat.beq e0 e && new.all AV.one) with
                  | false => simp [hq] at he
                  | true =>
                    simp only [hq, cond_true, Option.some.injEq, Prod.mk.injEq] at he
                    obtain ⟨rfl, rfl⟩ := he
                    simp only [Bool.and_eq_true, Nat.ble_eq, Nat.beq_eq] at hq
                    obtain ⟨⟨hlen, rfl⟩, hone⟩ := hq
                    obtain ⟨us, rest0, lo, hi0, m1, m2, m3, m4⟩ := sm.cells_at hbl hφ
                    have hul := m2.length
                    by_cases hfit : len + n ≤ c0
                    · -- there was room
                      have honev : ∀ v ∈ ws, v.oneCell' = true := by
                        intro v hvm
                        obtain ⟨j, hj⟩ := List.mem_iff_getElem?.1 hvm
                        have hjl : j < new.length := by
                          rcases Nat.lt_or_ge j ws.length with h | h
                          · omega
                          · rw [List.getElem?_eq_none h] at hj; cases hj
                        obtain ⟨a, hae⟩ : ∃ a, new[j]? = some a := ⟨new[j], by simp [hjl]⟩
                        obtain ⟨v', hv', hr⟩ := w1.get hae
                        rw [hj] at hv'; simp at hv'; subst hv'
                        exact hr.one (List.all_eq_true.1 hone a (List.mem_of_getElem? hae))
                      have hroom : len * i.size + ws.length ≤ k := by
                        rw [w2, ← Nat.add_mul]
                        exact Nat.le_trans (Nat.mul_le_mul_right _ hfit) (by omega)
                      have hsz : (us ++ rest0).toArray.size = k := by simpa using m3
                      have hrun := run_storeCells (P := P) (off := len * i.size) ws 0 w _ m1 honev (by rw [hsz]; omega) (by rw [hsz]; intro j hj hh; rcases m4 rfl with h | h <;> omega)
                      have hor : OR g k (.cells (l.take (len * i.size) ++ new) e0 false) (.cells ((us ++ rest0).take (len * i.size) ++ ws ++ (us ++ rest0).drop (len * i.size + ws.length)).toArray e0 (lo, hi0)) := by
                        refine ⟨us.take (len * i.size) ++ ws, (us ++ rest0).drop (len * i.size + ws.length), lo, hi0, ?_, (m2.take _).append w1, ?_, m4⟩
                        · rw [List.take_append_of_le_length (by omega)]
                        · simp at m3 ⊢
                          omega
                      obtain ⟨s', st'⟩ := sm.moved hbl rfl hφ hor
                      refine ⟨.slice (some ⟨x0, 0, none⟩) (len + n) c0, _, _, append_fits h0 h1 hs hx hd i1 hl hf hfit _ ?_, ⟨x0, k, c0, put_self _ _ _, rfl, hfit, hle2, fun c' hc' => by simp at hc'⟩, s', st'⟩
                      simp only [addr_add, i3, Nat.zero_add]
                      rw [hrun]
                      by_cases hw0 : ws = []
                      · subst hw0
                        rw [if_pos rfl]
                        congr 1
                        have : (us ++ rest0).take (len * i.size) ++ [] ++ (us ++ rest0).drop (len * i.size + ([] : List Value).length) = us ++ rest0 := by simp
                        rw [this]
                        simp only [setBlk]
                        have hh : w.heap.setIfInBounds x0 (.cells (us ++ rest0).toArray e0 (lo, hi0)) = w.heap := by
                          apply Array.ext_getElem?
                          intro j
                          rw [Array.getElem?_setIfInBounds]
                          split
                          · rename_i e1; subst e1
                            split
                            · rw [m1]
                            · rename_i h2; rw [Array.getElem?_eq_none (by omega)]
                          · rfl
                        rw [hh]
                      · rw [if_neg hw0]
                        simp
                    · -- there was none
                      have hnfit : c0 < len + n := by omega
                      obtain ⟨us1, rest1, lo1, hi1, n1, n2, n3, n4⟩ := sm1.cells_at hbl hφ
                      have hload : (loadCells ⟨x0, 0, none⟩ (len * i.size)).run P { w with drawn := w.drawn + 1 } = .ok (us.take (len * i.size)).toArray { w with drawn := w.drawn + 1 } := by
                        refine run_loadCells_of P (by simp; omega) (fun j u hj => ?_)
                        have hjl : j < len * i.size := by
                          rcases Nat.lt_or_ge j (len * i.size) with h | h
                          · exact h
                          · rw [List.getElem?_eq_none (by simp; omega)] at hj; cases hj
                        rw [List.getElem?_take_of_lt hjl] at hj
                        have hjl2 : j < us.length := by omega
                        rw [addr_add]
                        show World.cell? w _ = _
                        simp [World.cell?, m1, List.getElem?_append_left hjl2, hj]
                      obtain ⟨cap', k1, rest, k2, k3⟩ := append_grows (P := P) (w := w) (ty := o.type) (base := some ⟨x0, 0, none⟩) (sLen := len) (sCap := c0) (olds := us.take (len * i.size)) h0 h1 hs hx hd i1 i2 hl hnfit (by rw [i4]; exact hbb) (by rw [i4]; exact hb0) hf1
                        (by simp only [Builtin.firstCells, i3]; exact hload)
                      obtain ⟨sd, std⟩ := sm1.del b
                      obtain ⟨s', st'⟩ := sd.alloc (o := .cells (l.take (len * i.size) ++ new) e0 false) (ob := .cells (us.take (len * i.size) ++ ws1 ++ rest).toArray e0 (0, 0)) (n := cap' * i.size) ⟨us.take (len * i.size) ++ ws1, rest, 0, 0, rfl, ((m2.take _).append w11).mono (sd.le_put _), by
                        simp only [List.length_append, w12, k2, hzs, List.length_take]
                        rw [Nat.min_eq_left (by omega), ← Nat.add_mul, ← Nat.add_mul]; congr 1; omega, fun _ => .inl rfl⟩
                      exact ⟨_, _, _, k3, ⟨_, _, cap', put_self _ _ _, rfl, k1, by omega, fun c' hc' => by simp at hc'⟩, s', (Stp.drew g h w).trans (std.trans st')⟩
                · cases he
      · cases he
  · simp at he

theorem w_grow {o : Oper} {c : Call} {st xt e : TypeId} {k : IntKind} {i : TI} {s x : Operand} {s' x' : Od} (ho : o.op = .call c) (hc : c.callee = .builtin .append) (ha0 : c.args.toList = [s, x]) (h0 : c.argTypes[0]? = some st) (h1 : c.argTypes[1]? = some xt)
    (hs : P.underlying st = some (.slice e)) (hx : P.underlying xt = some (.int k)) (hi : tinfo P e = some i) (hb0 : i.bytes ≠ 0) (hcs : cOd s = some s') (hcx : cOd x = some x') : WOK P o (.grow e i.size i.bytes s' x') := by
  intro g h w a ac v h' sm ha he
  obtain ⟨ti, z, i1, i2, i3, i4, i5, i6⟩ := tinfo_some hi
  obtain ⟨cs, ecs⟩ := exec_builtin ho hc ac.eval
  have hzs : z.cells.size = i.size := by
    have := (absV_sound (g := g) 9 i5).cells.length
    simp at this
    omega
  simp only [evW] at he
  split at he
  · rename_i y hu hy
    have evs := od_sound ha hcs hu
    have evx := od_sound ha hcx hy
    suffices hsuff : ∃ vc g' w', (Builtin.append_ c.argTypes o.type #[ac.eval s, ac.eval x]).run P w = .ok vc w' ∧ VR g' v vc ∧ Sim g' h' w' ∧ Stp g h w g' h' w' by
      obtain ⟨vc, g', w', r1, r2, r3, r4⟩ := hsuff
      refine ⟨vc, g', w', .inl ?_, r2, r3, r4⟩
      rw [ecs, pair_args ha0]
      simp [builtin, r1]
    simp only [VR] at evs
    rw [evs]
    split at he
    · rename_i m hm
      unfold natOf at hm
      split at hm
      · rename_i kx m'
        simp only [Option.some.injEq] at hm
        subst hm
        simp only [VR] at evx
        rw [evx]
        cases hn : Nat.beq m' 0 with
        | true =>
          have := Nat.eq_of_beq_eq_true hn
          subst this
          simp only [hn, cond_true, Option.some.injEq, Prod.mk.injEq] at he
          obtain ⟨rfl, rfl⟩ := he
          exact ⟨_, g, w, append_makes0 h0 h1 hs hx i1, rfl, sm, Stp.refl _ _ _⟩
        | false =>
          simp only [hn, cond_false] at he
          cases hb : Nat.ble (m' * i.bytes) most with
          | false => simp [hb] at he
          | true =>
            simp only [hb, cond_true, Option.some.injEq, Prod.mk.injEq] at he
            obtain ⟨rfl, rfl⟩ := he
            have hbb : m' * i.bytes ≤ most := by simpa using hb
            have hm0 : 0 < m' := by
              rcases Nat.eq_zero_or_pos m' with h | h
              · subst h; simp at hn
              · exact h
            obtain ⟨cap, k1, rest, k2, k3⟩ := append_makes (P := P) (w := w) (ty := o.type) (kx := kx) h0 h1 hs hx i1 i2 (by omega) hm0 (by rw [i4]; exact hbb) (by rw [i4]; exact hb0)
            have sm1 : Sim g h { w with drawn := w.drawn + 1 } := sm.drew
            obtain ⟨s', st'⟩ := sm1.alloc (o := .cells [] e false) (ob := .cells rest.toArray e (0, 0)) (n := cap * i.size) ⟨[], rest, 0, 0, by simp, rfl, by simp [k2, i3], fun _ => .inl rfl⟩
            exact ⟨_, _, _, k3, ⟨_, _, cap, put_self _ _ _, rfl, k1, by omega, fun c' hc' => by simp at hc'⟩, s', (Stp.drew g h w).trans st'⟩
      · cases hm
    · cases he
  · simp at he


end Go.Ev
end PEvS10
/- What makes or writes memory is sound: copy, a Builder's text, rows that nobody has cleared. Calls. -/
section PEvS11
set_option linter.unusedSimpArgs false
namespace Go.Ev
variable {P : Program} {g : Gh} {h : AH} {w : World}

theorem w_copy {o : Oper} {c : Call} {dt e : TypeId} {ti : TypeInfo} {d s : Operand} {d' s' : Od} (ho : o.op = .call c) (hc : c.callee = .builtin .copy) (ha0 : c.args.toList = [d, s]) (h0 : c.argTypes[0]? = some dt)
    (hs : P.underlying dt = some (.slice e)) (hi : P.info? e = some ti) (hcd : cOd d = some d') (hcs : cOd s = some s') : WOK P o (.copy ti.size d' s') := by
  intro g h w a ac v h' sm ha he
  obtain ⟨cs, ecs⟩ := exec_builtin ho hc ac.eval
  simp only [evW] at he
  split at he
  · rename_i u y hu hy
    have evd := od_sound ha hcd hu
    have evs := od_sound ha hcs hy
    suffices hsuff : ∃ vc g' w', (Builtin.copy_ c.argTypes o.type #[ac.eval d, ac.eval s]).run P w = .ok vc w' ∧ VR g' v vc ∧ Sim g' h' w' ∧ Stp g h w g' h' w' by
      obtain ⟨vc, g', w', r1, r2, r3, r4⟩ := hsuff
      refine ⟨vc, g', w', .inl ?_, r2, r3, r4⟩
      rw [ecs, pair_args ha0]
      simp [builtin, r1]
    split at he
    · rename_i n src hsrc
      obtain ⟨hl, ws, w1, w2, w3⟩ := source_sound (P := P) sm evs hsrc
      have head : ∀ (base : Option Addr) (dLen dCap : Nat) (w' : World), (match base with | some a => (storeCells a (ws.take (min n dLen * ti.size))).run P w = .ok () w' | none => w' = w) →
          (Builtin.copy_ c.argTypes o.type #[.slice base dLen dCap, ac.eval s]).run P w = .ok (.int .i64 (min n dLen : Nat)) w' := by
        intro base dLen dCap w' hw
        simp only [Builtin.copy_, h0, List.getElem?_toArray, List.getElem?_cons_zero, List.getElem?_cons_succ, Sem.run_bind, run_underlying hs, Result.andThen_ok, hl, run_sizeOf hi]
        rw [show Nat.min n dLen = min n dLen from rfl, w3 _ (Nat.min_le_left _ _)]
        cases base with
        | none => simp at hw; subst hw; simp [goInt]
        | some a => simp only at hw; simp [hw, goInt]
      split at he
      · simp only [Option.some.injEq, Prod.mk.injEq] at he
        obtain ⟨rfl, rfl⟩ := he
        rw [VR] at evd
        rw [evd]
        refine ⟨_, g, w, head none 0 0 w rfl, ?_, sm, Stp.refl _ _ _⟩
        simp [VR]
      · simp only [Option.some.injEq, Prod.mk.injEq] at he
        obtain ⟨rfl, rfl⟩ := he
        obtain ⟨a0, c0, ev⟩ := evd
        rw [ev]
        refine ⟨_, g, w, head (some a0) 0 c0 w (by simp [storeCells]), ?_, sm, Stp.refl _ _ _⟩
        simp [VR]
      · rename_i b off len sz' cap
        cases hz : Nat.beq ti.size sz' with
        | false => simp [hz] at he
        | true =>
          have hsz : ti.size = sz' := by simpa using hz
          subst hsz
          simp only [hz, cond_true] at he
          obtain ⟨x0, k, c0, hφ, ev, _⟩ := evd
          rw [ev]
          cases hm : Nat.beq (min n len) 0 with
          | true =>
            have hm0 : min n len = 0 := by simpa using hm
            simp only [hm, cond_true, Option.some.injEq, Prod.mk.injEq] at he
            obtain ⟨rfl, rfl⟩ := he
            refine ⟨_, g, w, head (some ⟨x0, off, none⟩) len c0 w (by simp [hm0, storeCells]), ?_, sm, Stp.refl _ _ _⟩
            simp [VR, hm0]
          | false =>
            simp only [hm, cond_false] at he
            split at he
            · rename_i h1' hst
              simp only [Option.some.injEq, Prod.mk.injEq] at he
              obtain ⟨rfl, rfl⟩ := he
              obtain ⟨w', r1, s', st'⟩ := sm.store (P := P) hφ hst (w1.take _)
              exact ⟨_, g, w', head (some ⟨x0, off, none⟩) len c0 w' r1, rfl, s', st'⟩
            · cases he
      · cases he
    · cases he
  · simp at he

theorem w_uStr {o : Oper} {c : Call} {pt it e : TypeId} {ti : TypeInfo} {x n : Operand} {x' n' : Od} (ho : o.op = .call c) (hc : c.callee = .builtin .unsafeString) (ha0 : c.args.toList = [x, n]) (h0 : c.argTypes.toList = [pt, it])
    (hp : P.underlying pt = some (.pointer e)) (hi : P.info? e = some ti) (h1z : ti.size = 1) (hcx : cOd x = some x') (hcn : cOd n = some n') : WOK P o (.uStr e x' n') := by
  intro g h w a ac v h' sm ha he
  obtain ⟨cs, ecs⟩ := exec_builtin ho hc ac.eval
  have h0' : c.argTypes = #[pt, it] := by apply Array.ext'; simpa using h0
  have hco : P.cellsOf e = 1 := by simp [Program.cellsOf, hi, h1z]
  simp only [evW] at he
  split at he
  · rename_i p hp' hu
    have evx := od_sound ha hcx hp'
    have evn := od_sound ha hcn hu
    rw [VR] at evn
    suffices hsuff : v = .str [] ∧ h = h' ∧ ∃ p, ac.eval x = .pointer p by
      obtain ⟨rfl, rfl, q, hq⟩ := hsuff
      refine ⟨.string .empty, g, w, .inl ?_, rfl, sm, Stp.refl _ _ _⟩
      rw [ecs, pair_args ha0, h0', hq, evn]
      have := Lib.run_unsafeString_none (P := P) w pt it o.type q
      simp only [builtin, Sem.run_bind]
      rw [show (Value.int .i64 (Int.ofNat 0)) = .int .i64 0 from rfl, this]
      rfl
    split at he
    · simp only [Option.some.injEq, Prod.mk.injEq] at he
      rw [VR] at evx
      exact ⟨he.1.symm, he.2, _, evx⟩
    · simp only [Option.some.injEq, Prod.mk.injEq] at he
      obtain ⟨x0, m, _, ev⟩ := evx
      exact ⟨he.1.symm, he.2, _, ev⟩
    · cases he
  · rename_i b m hp' hu
    have evx := od_sound ha hcx hp'
    have evn := od_sound ha hcn hu
    rw [VR] at evn
    split at he
    · rename_i l e0 hb
      cases hq : (Nat.ble (m + 1) l.length && Nat.beq e0 e && Nat.ble m most) with
      | false => simp [hq] at he
      | true =>
        simp only [hq, cond_true] at he
        simp only [Bool.and_eq_true, Nat.ble_eq, Nat.beq_eq] at hq
        obtain ⟨⟨hle, rfl⟩, hmost⟩ := hq
        split at he
        · rename_i str hstr
          simp only [Option.some.injEq, Prod.mk.injEq] at he
          obtain ⟨rfl, rfl⟩ := he
          obtain ⟨x0, k0, hφ, ev⟩ := evx
          obtain ⟨vs, rest, lo, hi0, m1, m2, m3, m4⟩ := sm.cells_at hb hφ
          have hvl := m2.length
          have en := bytesOf_sound hstr (m2.take (m + 1))
          have hnl : str.length = m + 1 := by
            have := congrArg List.length en
            simp at this
            omega
          have hcell : ∀ j x, str[j]? = some x → w.cell? ((⟨x0, 0, none⟩ : Addr).add j) = some (.int .u8 x.toNat) := by
            intro j x hj
            have hjl : j < m + 1 := by
              rcases Nat.lt_or_ge j (m + 1) with h | h
              · exact h
              · rw [List.getElem?_eq_none (by omega)] at hj; cases hj
            have h2 : (vs.take (m + 1))[j]? = some (Value.int .u8 x.toNat) := by rw [en]; simp [hj]
            rw [List.getElem?_take_of_lt hjl] at h2
            have hl2 : j < vs.length := by omega
            rw [addr_add]
            simp [World.cell?, m1, List.getElem?_append_left hl2, h2]
          have hor : OR g k0 (.cells l e0 true) (.cells (vs ++ rest).toArray e0 (if lo == hi0 then (0, 0 + (m + 1)) else (min lo 0, max hi0 (0 + (m + 1))))) := by
            by_cases hlh : (lo == hi0) = true
            · rw [if_pos hlh]; exact ⟨vs, rest, _, _, rfl, m2, m3, fun h => by cases h⟩
            · rw [if_neg hlh]; exact ⟨vs, rest, _, _, rfl, m2, m3, fun h => by cases h⟩
          obtain ⟨s', st'⟩ := sm.upd hb rfl hφ hor
          refine ⟨_, g, _, .inl ?_, rfl, s', st'⟩
          have hrow := Lib.run_unsafeString_row (P := P) w pt it o.type e0 hp hco x0 _ (shape_of m1) str (by intro h; rw [h] at hnl; simp at hnl) (by simp; omega) (by unfold most at hmost; omega) hcell
          rw [ecs, pair_args ha0, h0', ev, evn]
          simp only [builtin, Sem.run_bind]
          rw [show (Value.int .i64 (Int.ofNat (m + 1))) = .int .i64 str.length by rw [hnl]; rfl, hrow]
          rw [hnl, freeze_eq m1 (by omega)]
          rfl
        · cases he
    · cases he
  · cases he

theorem w_noZero {o : Oper} {c : Call} {f : FuncId} {fn : Func} {rt e : TypeId} {x : Operand} {x' : Od} (ho : o.op = .call c) (hc : c.callee = .value (.func f)) (hf : P.funcs[f]? = some fn) (hn : fn.name = "internal/bytealg.MakeNoZero") (hb : fn.body = none)
    (hnx : Extern.findNext fn = none) (ha0 : c.args.toList = [x]) (hrt : fn.resultTypes.toList = [rt]) (hs : P.underlying rt = some (.slice e)) (hcx : cOd x = some x') : WOK P o (.mkNoZero e x') := by
  intro g h w a ac v h' sm ha he
  have hrt' : fn.resultTypes = #[rt] := by apply Array.ext'; simpa using hrt
  have hargs : c.args.map ac.eval = #[ac.eval x] := by apply Array.ext'; simp [ha0]
  simp only [evW] at he
  split at he
  · rename_i n hu
    cases hle : Nat.ble n most with
    | false => simp [hle] at he
    | true =>
      have hle' : n ≤ most := by simpa using hle
      simp only [hle, cond_true, Option.some.injEq, Prod.mk.injEq] at he
      obtain ⟨rfl, rfl⟩ := he
      have evx := od_sound ha hcx hu
      rw [VR] at evx
      obtain ⟨cs, r1, r2, _⟩ := Lib.run_makeNoZero (P := P) w fn.params rt e hs n (by unfold most at hle'; omega)
      have s1 : Sim g h w.drew := sm.drew
      have s2 : Sim g h w.drew.drew := s1.drew
      obtain ⟨s', st'⟩ := s2.alloc (o := .cells [] e false) (ob := .cells cs e (0, 0)) (n := cs.size) ⟨[], cs.toList, 0, 0, by simp, rfl, by simp, fun _ => .inl rfl⟩
      refine ⟨.slice (some ⟨w.heap.size, 0, none⟩) n cs.size, _, _, .inl ?_, ⟨_, _, cs.size, put_self _ _ _, rfl, r2, by simp, fun c' hc' => by simp at hc'⟩, s', (Stp.drew g h w).trans ((Stp.drew g h w.drew).trans st')⟩
      rw [exec_extern ho hc rfl hf (by rw [hn]; decide) hb hnx (row_noZero hn), hargs, evx, hrt']
      rw [show (Value.int .i64 (Int.ofNat n)) = .int .i64 (n : Int) from rfl, r1]
      rfl
  · cases he

/-! ### what has no Go text, and only reads -/
theorem q_noEscape {o : Oper} {c : Call} {f : FuncId} {fn : Func} {x : Operand} {x' : Od} (ho : o.op = .call c) (hc : c.callee = .value (.func f)) (hf : P.funcs[f]? = some fn) (hn : fn.name = "internal/abi.NoEscape") (hb : fn.body = none)
    (hnx : Extern.findNext fn = none) (ha0 : c.args.toList = [x]) (hcx : cOd x = some x') : QOK P o (.mov x') := by
  intro g h w a ac v sm ha he
  have hargs : c.args.map ac.eval = #[ac.eval x] := by apply Array.ext'; simp [ha0]
  refine ⟨_, od_sound ha hcx he, ?_⟩
  rw [exec_extern ho hc rfl hf (by rw [hn]; decide) hb hnx (row_noEscape hn), hargs]
  rfl

theorem q_idxByteStr {o : Oper} {c : Call} {f : FuncId} {fn : Func} {x y : Operand} {x' y' : Od} (ho : o.op = .call c) (hc : c.callee = .value (.func f)) (hf : P.funcs[f]? = some fn) (hn : fn.name = "internal/bytealg.IndexByteString") (hb : fn.body = none)
    (hnx : Extern.findNext fn = none) (ha0 : c.args.toList = [x, y]) (hcx : cOd x = some x') (hcy : cOd y = some y') : QOK P o (.idxByteStr x' y') := by
  intro g h w a ac v sm ha he
  simp only [evQ] at he
  split at he
  · rename_i str ch h1 h2
    have e1 := od_sound ha hcx h1
    have e2 := od_sound ha hcy h2
    simp only [VR] at e1 e2
    simp only [Option.some.injEq] at he
    subst he
    refine ⟨_, rfl, ?_⟩
    rw [exec_extern ho hc rfl hf (by rw [hn]; decide) hb hnx (row_indexByte hn), pair_args ha0, e1, e2, run_indexByte_string, firstIdx_eq]
    rfl
  · cases he

theorem w_clr {o : Oper} {c : Call} {dt e : TypeId} {i : TI} {x : Operand} {x' : Od} (ho : o.op = .call c) (hc : c.callee = .builtin .clear) (ha0 : c.args.toList = [x]) (h0 : c.argTypes[0]? = some dt)
    (hs : P.underlying dt = some (.slice e)) (hi : tinfo P e = some i) (hcx : cOd x = some x') : WOK P o (.clr i.size i.zero.cells x') := by
  intro g h w a ac v h' sm ha he
  obtain ⟨ti, z, h1, h2, h3, _, h4, _⟩ := tinfo_some hi
  obtain ⟨cs, ecs⟩ := exec_builtin ho hc ac.eval
  have hargs : c.args.map ac.eval = #[ac.eval x] := by
    apply Array.ext'
    simp [ha0]
  have fin : ∀ w', (Builtin.clear_ c.argTypes o.type #[ac.eval x]).run P w = .ok (.tuple #[]) w' → (execOp ac.eval o).run P w = .ok (.value undef) w' := by
    intro w' hr
    rw [ecs, hargs]
    simp [builtin, hr, undef]
  simp only [evW] at he
  split at he
  · rename_i hx
    simp only [Option.some.injEq, Prod.mk.injEq] at he
    obtain ⟨rfl, rfl⟩ := he
    have ev := od_sound ha hcx hx
    rw [VR] at ev
    refine ⟨undef, g, w, .inl (fin w ?_), VR_undef, sm, Stp.refl _ _ _⟩
    simp [Builtin.clear_, h0, run_underlying hs, ev]
  · rename_i hx
    simp only [Option.some.injEq, Prod.mk.injEq] at he
    obtain ⟨rfl, rfl⟩ := he
    obtain ⟨a0, c0, ev⟩ := od_sound ha hcx hx
    refine ⟨undef, g, w, .inl (fin w ?_), VR_undef, sm, Stp.refl _ _ _⟩
    simp [Builtin.clear_, h0, run_underlying hs, ev]
  · rename_i b off len sz' cap hx
    cases hz : Nat.beq i.size sz' with
    | false => simp [hz] at he
    | true =>
      simp only [hz, cond_true] at he
      obtain ⟨x0, k, c0, hφ, ev, _⟩ := od_sound ha hcx hx
      cases hl : Nat.beq len 0 with
      | true =>
        have hl0 : len = 0 := by simpa using hl
        subst hl0
        simp only [hl, cond_true, Option.some.injEq, Prod.mk.injEq] at he
        obtain ⟨rfl, rfl⟩ := he
        refine ⟨undef, g, w, .inl (fin w ?_), VR_undef, sm, Stp.refl _ _ _⟩
        simp [Builtin.clear_, h0, run_underlying hs, ev]
      | false =>
        simp only [hl, cond_false] at he
        split at he
        · rename_i h1' hst
          simp only [Option.some.injEq, Prod.mk.injEq] at he
          obtain ⟨rfl, rfl⟩ := he
          have hzc : VRL g i.zero.cells z.cells.toList := (absV_sound 9 h4).cells
          obtain ⟨w', r1, s', st⟩ := sm.store (P := P) hφ hst (VRL_zeros hzc len)
          refine ⟨undef, g, w', .inl (fin w' ?_), VR_undef, s', st⟩
          have hzz : (Builtin.zeroCells z.cells len).toList = zerosV z.cells.toList len := zerosA_eq _ _ _ rfl
          have hne : len ≠ 0 := by intro e; subst e; simp at hl
          obtain ⟨l', rfl⟩ : ∃ l', len = l' + 1 := ⟨len - 1, by omega⟩
          simp [Builtin.clear_, h0, run_underlying hs, ev, run_zeroValue h1 h2, hzz, r1]
        · cases he
  · cases he

theorem cntB_eq (c : UInt8) : ∀ (l : List UInt8), evQ.cntB c l = Lib.countByte l c
  | [] => rfl
  | b :: l => by
    have ih := cntB_eq c l
    unfold Lib.countByte at ih ⊢
    rw [List.count_cons]
    simp only [evQ.cntB]
    cases hb : Nat.beq b.toNat c.toNat with
    | true =>
      have : b = c := UInt8.toNat_inj.1 (by simpa using hb)
      subst this
      simp [ih]
    | false =>
      have : b ≠ c := by intro e; subst e; simp at hb
      simp [ih, this]

theorem q_cntStr {o : Oper} {c : Call} {f : FuncId} {fn : Func} {x y : Operand} {x' y' : Od} (ho : o.op = .call c) (hc : c.callee = .value (.func f)) (hf : P.funcs[f]? = some fn) (hn : fn.name = "internal/bytealg.CountString") (hb : fn.body = none)
    (hnx : Extern.findNext fn = none) (ha0 : c.args.toList = [x, y]) (hcx : cOd x = some x') (hcy : cOd y = some y') : QOK P o (.cntStr x' y') := by
  intro g h w a ac v sm ha he
  simp only [evQ] at he
  split at he
  · rename_i str ch h1 h2
    have e1 := od_sound ha hcx h1
    have e2 := od_sound ha hcy h2
    simp only [VR] at e1 e2
    simp only [Option.some.injEq] at he
    subst he
    refine ⟨_, rfl, ?_⟩
    rw [exec_extern ho hc rfl hf (by rw [hn]; decide) hb hnx (row_count hn), pair_args ha0, e1, e2, Lib.run_countString, cntB_eq]
    rfl
  · cases he

/-! ### calls -/
theorem run_callFunc_body {f : FuncId} {fn : Func} {args : Array Value} (hf : P.funcs[f]? = some fn) (hb : fn.body.isSome = true) (hn : fn.name ≠ "runtime.NumGoroutine") (w : World) : (callFunc f args).run P w = .ok (.enter f args) w := by
  have : fn.body ≠ none := by intro e; simp [e] at hb
  simp [callFunc, hf, hn, this]

end Go.Ev
end PEvS11
/- Every operation that compiles is sound. -/
section PEvS12
set_option linter.unusedSimpArgs false
namespace Go.Ev
variable {P : Program}

/-- A function with a text. -/
def HasBody (P : Program) (f : FuncId) : Prop := ∃ fn, P.funcs[f]? = some fn ∧ fn.body.isSome = true ∧ fn.name ≠ "runtime.NumGoroutine"

def CallOK (P : Program) (o : Oper) (e : EOp) : Prop :=
  ∀ (g : Gh) (w : World) (a : Env) (ac : Act) (f : FuncId) (vs : List AV), AR g a ac → evC e a = some (f, vs) → HasBody P f →
    ∃ args : List Value, VRL g vs args ∧ (execOp ac.eval o).run P w = .ok (.enter f args.toArray) w

theorem c_callV {o : Oper} {c : Call} {fo : Operand} {fo' : Od} {as : List Od} (ho : o.op = .call c) (hc : c.callee = .value fo) (hfo : cOd fo = some fo') (has : cArgs c.args = some as) : CallOK P o (.callV fo' as) := by
  intro g w a ac f vs ha he ⟨fn, hf, hb, hn⟩
  simp only [evC] at he
  split at he
  · rename_i f' first caps us h1 h2
    simp only [Option.some.injEq, Prod.mk.injEq] at he
    obtain ⟨rfl, rfl⟩ := he
    obtain ⟨ws, xs, ev, v1, v2⟩ := od_sound ha hfo h1
    have v3 := evs_sound ha has h2
    refine ⟨ws ++ c.args.toList.map ac.eval ++ xs, (v1.append v3).append v2, ?_⟩
    simp only [execOp, ho, resolve, hc, ev, Deferred.ofValue, invoke, Sem.run_bind, Sem.run_pure, Result.andThen_ok]
    rw [run_callFunc_body hf hb hn]
    congr 2
    apply Array.ext'
    simp
  · cases he

theorem c_callF' {o : Oper} {c : Call} {f : FuncId} {as : List Od} (ho : o.op = .call c) (hc : c.callee = .value (.func f)) (has : cArgs c.args = some as) : CallOK P o (.callF f as) := by
  intro g w a ac f' vs ha he ⟨fn, hf, hb, hn⟩
  simp only [evC] at he
  split at he
  · rename_i us hus
    simp only [Option.some.injEq, Prod.mk.injEq] at he
    obtain ⟨rfl, rfl⟩ := he
    refine ⟨c.args.toList.map ac.eval, evs_sound ha has hus, ?_⟩
    simp only [execOp, ho, resolve, hc, Act.eval, Deferred.ofValue, invoke, Sem.run_bind, Sem.run_pure, Result.andThen_ok]
    rw [run_callFunc_body hf hb hn]
    simp [← Array.toList_map]
  · cases he

theorem mem_of_lookup {β : Type} {t : Nat} {f : β} : ∀ {l : List (Nat × β)}, l.lookup t = some f → (t, f) ∈ l
  | [], h => by simp at h
  | (k, v) :: l, h => by
    rw [List.lookup_cons] at h
    split at h
    · rename_i e
      simp at e h
      subst e; subst h
      simp
    · exact List.mem_cons_of_mem _ (mem_of_lookup h)

theorem tab_sound {name : String} {t : TypeId} {f : FuncId} (h : (methodTab P name).lookup t = some f) (v : Value) (w : World) : ∀ n, (method (n + 1) t v name).run P w = .ok (f, v) w := by
  have hm := mem_of_lookup h
  simp only [methodTab, List.mem_filterMap, Option.map_eq_some_iff, Prod.mk.injEq] at hm
  obtain ⟨t', _, f', hf', rfl, rfl⟩ := hm
  simp only [methodOf, Option.bind_eq_bind, Option.bind_eq_some_iff] at hf'
  obtain ⟨i, hi, d, hu, m, hfind, ⟨f'', p⟩, hfunc, hcond⟩ := hf'
  split at hcond
  · rename_i hc
    simp only [Option.some.injEq] at hcond
    subst hcond
    obtain ⟨hpath, hptr⟩ := hc
    intro n
    simp only [method, Sem.run_bind, run_typeInfo hi, Result.andThen_ok, hfind, hpath, follow, Sem.run_pure, hfunc]
    cases d <;> cases p <;> simp [ptrT] at hptr <;> simp [receiverAt, run_underlying hu, Place.get]
  · cases hcond

theorem c_invoke {o : Oper} {c : Call} {recv : Operand} {recv' : Od} {name : String} {as : List Od} (ho : o.op = .call c) (hc : c.callee = .invoke recv name) (hr : cOd recv = some recv') (has : cArgs c.args = some as) : CallOK P o (.invoke (methodTab P name) recv' as) := by
  intro g w a ac f vs ha he ⟨fn, hf, hb, hn⟩
  simp only [evC] at he
  split at he
  · rename_i t v us h1 h2
    split at he
    · rename_i f' hl
      simp only [Option.some.injEq, Prod.mk.injEq] at he
      obtain ⟨rfl, rfl⟩ := he
      obtain ⟨vv, ev, hv⟩ := od_sound ha hr h1
      have v3 := evs_sound ha has h2
      refine ⟨vv :: c.args.toList.map ac.eval, ⟨_, _, rfl, hv, v3⟩, ?_⟩
      have hmeth := tab_sound hl vv w (P.types.size + 99)
      simp only [execOp, ho, resolve, hc, ev, Sem.run_bind, Sem.run_pure, Result.andThen_ok, invoke]
      have h0 : (#[Value.iface t vv] ++ c.args.map ac.eval)[0]? = some (.iface t vv) := by rw [Array.getElem?_append_left (by simp)]; rfl
      simp only [h0]
      simp only [callMethod, Sem.run_bind, run_program, Result.andThen_ok]
      rw [show P.types.size + Made.depth = P.types.size + 99 + 1 from rfl, hmeth]
      simp only [Result.andThen_ok]
      rw [run_callFunc_body hf hb hn]
      congr 2
      apply Array.ext'
      simp
      rw [List.take_of_length_le (by simp)]
    · cases he
  · cases he

/-- What is shown of an operation that compiles. -/
def Sound (P : Program) (o : Oper) (e : EOp) : Prop :=
  (e.quiet = true ∧ QOK P o e) ∨ (e.quiet = false ∧ e.isCall = false ∧ WOK P o e ∧ (e.floats = true → FOK P o e)) ∨ (e.quiet = false ∧ e.isCall = true ∧ CallOK P o e)

theorem Sound.q {o : Oper} {e : EOp} (h : QOK P o e) (hq : e.quiet = true) : Sound P o e := .inl ⟨hq, h⟩
theorem Sound.w {o : Oper} {e : EOp} (h : WOK P o e) (hq : e.quiet = false) (hc : e.isCall = false) (hf : e.floats = true → FOK P o e := by exact fun h => Bool.noConfusion h) : Sound P o e := .inr (.inl ⟨hq, hc, h, hf⟩)
theorem Sound.c {o : Oper} {e : EOp} (h : CallOK P o e) (hq : e.quiet = false) (hc : e.isCall = true) : Sound P o e := .inr (.inr ⟨hq, hc, h⟩)

theorem cCall_ok {o : Oper} {c : Call} {e : EOp} (ho : o.op = .call c) (h : cCall P c = some e) : Sound P o e := by
  unfold cCall at h
  split at h
  · rename_i f hc
    simp only [Option.bind_eq_bind, Option.bind_eq_some_iff] at h
    obtain ⟨fn, hf, h⟩ := h
    split at h
    · rename_i hb
      split at h
      · cases h
      · simp only [Option.bind_eq_some_iff, Option.some.injEq] at h
        obtain ⟨as, has, rfl⟩ := h
        exact .c (c_callF' ho hc has) rfl rfl
    · rename_i hb
      have hb' : fn.body = none := by simpa using hb
      split at h
      · cases h
      · rename_i hnx
        have hnx' : Extern.findNext fn = none := by simpa using hnx
        split at h
        · rename_i hn
          split at h
          · rename_i x y hxy
            simp only [Option.bind_eq_some_iff, Option.some.injEq] at h
            obtain ⟨x', hx, y', hy, rfl⟩ := h
            exact .q (q_idxByteStr ho hc hf hn hb' hnx' hxy hx hy) rfl
          · cases h
        · split at h
          · rename_i hn
            split at h
            · rename_i x y hxy
              simp only [Option.bind_eq_some_iff, Option.some.injEq] at h
              obtain ⟨x', hx, y', hy, rfl⟩ := h
              exact .q (q_cntStr ho hc hf hn hb' hnx' hxy hx hy) rfl
            · cases h
          · split at h
            · rename_i hn
              split at h
              · rename_i x hxy
                simp only [Option.bind_eq_some_iff, Option.some.injEq] at h
                obtain ⟨x', hx, rfl⟩ := h
                exact .q (q_noEscape ho hc hf hn hb' hnx' hxy hx) rfl
              · cases h
            · split at h
              · rename_i hn
                split at h
                · rename_i x hxy
                  split at h
                  · rename_i r hr
                    simp only [Option.bind_eq_some_iff] at h
                    obtain ⟨d, hd, h⟩ := h
                    split at h
                    · rename_i e0
                      simp only [Option.bind_eq_some_iff] at h
                      obtain ⟨d2, hd2, h⟩ := h
                      split at h
                      · simp only [Option.bind_eq_some_iff, Option.some.injEq] at h
                        obtain ⟨x', hx, rfl⟩ := h
                        exact .w (w_noZero ho hc hf hn hb' hnx' hxy hr hd hx) rfl rfl
                      · cases h
                    · cases h
                  · cases h
                · cases h
              · cases h
  · rename_i fo hnf hc
    simp only [Option.bind_eq_bind, Option.bind_eq_some_iff, Option.some.injEq] at h
    obtain ⟨fo', hfo, as, has, rfl⟩ := h
    exact .c (c_callV ho hc hfo has) rfl rfl
  · rename_i recv name hc
    simp only [Option.bind_eq_bind, Option.bind_eq_some_iff, Option.some.injEq] at h
    obtain ⟨r', hr, as, has, rfl⟩ := h
    exact .c (c_invoke ho hc hr has) rfl rfl
  · rename_i b hc
    split at h
    · -- len
      rename_i x hx
      simp only [Option.bind_eq_bind, Option.bind_eq_some_iff] at h
      obtain ⟨t, ht, d, hd, h⟩ := h
      split at h
      · simp only [Option.bind_eq_some_iff, Option.some.injEq] at h
        obtain ⟨x', hx', rfl⟩ := h
        exact .q (q_lenS ho hc hx ht hd hx') rfl
      · simp only [Option.bind_eq_some_iff, Option.some.injEq] at h
        obtain ⟨x', hx', rfl⟩ := h
        exact .q (q_lenSl ho hc hx ht hd hx') rfl
      · simp only [Option.bind_eq_some_iff, Option.some.injEq] at h
        obtain ⟨x', hx', rfl⟩ := h
        exact .q (q_lenMap ho hc hx ht hd hx') rfl
      · simp only [Option.some.injEq] at h
        subst h
        exact .q (q_lenA ho (.inl hc) hx ht hd) rfl
      · simp only [Option.bind_eq_some_iff] at h
        obtain ⟨d2, hd2, h⟩ := h
        split at h
        · simp only [Option.some.injEq] at h
          subst h
          exact .q (q_lenP ho hc hx ht hd hd2) rfl
        · cases h
      · cases h
    · -- cap
      rename_i x hx
      simp only [Option.bind_eq_bind, Option.bind_eq_some_iff] at h
      obtain ⟨t, ht, d, hd, h⟩ := h
      split at h
      · simp only [Option.bind_eq_some_iff, Option.some.injEq] at h
        obtain ⟨x', hx', rfl⟩ := h
        exact .q (q_capSl ho hc hx ht hd hx') rfl
      · simp only [Option.some.injEq] at h
        subst h
        exact .q (q_lenA ho (.inr hc) hx ht hd) rfl
      · cases h
    · -- append
      rename_i s x hx
      simp only [Option.bind_eq_bind, Option.bind_eq_some_iff] at h
      obtain ⟨t, ht, d, hd, h⟩ := h
      split at h
      · simp only [Option.bind_eq_some_iff] at h
        obtain ⟨i, hi, t2, ht2, d2, hd2, h⟩ := h
        split at h
        · rename_i k
          split at h
          · cases h
          · rename_i hb0
            simp only [Option.bind_eq_some_iff, Option.some.injEq] at h
            obtain ⟨s', hs', x', hx', rfl⟩ := h
            exact .w (w_grow ho hc hx ht ht2 hd hd2 hi hb0 hs' hx') rfl rfl
        · rename_i hnint
          split at h
          · cases h
          · rename_i hb0
            simp only [Option.bind_eq_some_iff, Option.some.injEq] at h
            obtain ⟨s', hs', x', hx', rfl⟩ := h
            exact .w (w_append ho hc hx ht ht2 hd hd2 (fun k hk => hnint k hk) hi hb0 hs' hx') rfl rfl
      · cases h
    · -- copy
      rename_i s x hx
      simp only [Option.bind_eq_bind, Option.bind_eq_some_iff] at h
      obtain ⟨t, ht, d, hd, h⟩ := h
      split at h
      · simp only [Option.bind_eq_some_iff, Option.some.injEq] at h
        obtain ⟨i, hi, s', hs', x', hx', rfl⟩ := h
        obtain ⟨ti, z, i1, _, i3, _⟩ := tinfo_some hi
        rw [← i3]
        exact .w (w_copy ho hc hx ht hd i1 hs' hx') rfl rfl
      · cases h
    · -- clear
      rename_i x hx
      simp only [Option.bind_eq_bind, Option.bind_eq_some_iff] at h
      obtain ⟨t, ht, d, hd, h⟩ := h
      split at h
      · simp only [Option.bind_eq_some_iff, Option.some.injEq] at h
        obtain ⟨i, hi, x', hx', rfl⟩ := h
        exact .w (w_clr ho hc hx ht hd hi hx') rfl rfl
      · cases h
    · -- min
      rename_i x ys hx
      simp only [Option.bind_eq_bind, Option.bind_eq_some_iff, Option.some.injEq] at h
      obtain ⟨x', hx', ys', hys', rfl⟩ := h
      exact .q (q_minI ho hc hx hx' hys') rfl
    · -- max
      rename_i x ys hx
      simp only [Option.bind_eq_bind, Option.bind_eq_some_iff, Option.some.injEq] at h
      obtain ⟨x', hx', ys', hys', rfl⟩ := h
      exact .q (q_maxI ho hc hx hx' hys') rfl
    · -- unsafe.String
      rename_i x n hx
      split at h
      · rename_i pt it hpt
        simp only [Option.bind_eq_bind, Option.bind_eq_some_iff] at h
        obtain ⟨d, hd, h⟩ := h
        split at h
        · simp only [Option.bind_eq_some_iff] at h
          obtain ⟨i, hi, h⟩ := h
          split at h
          · rename_i h1
            simp only [Option.bind_eq_some_iff, Option.some.injEq] at h
            obtain ⟨x', hx', n', hn', rfl⟩ := h
            exact .w (w_uStr ho hc hx hpt hd hi h1 hx' hn') rfl rfl
          · cases h
        · cases h
      · cases h
    · -- unsafe.SliceData
      rename_i x hx
      simp only [Option.bind_eq_bind, Option.bind_eq_some_iff, Option.some.injEq] at h
      obtain ⟨x', hx', rfl⟩ := h
      exact .q (q_uData ho hc hx hx') rfl
    · cases h

end Go.Ev
end PEvS12
/- Every operation that compiles is sound: all of them. -/
section PEvS13
set_option linter.unusedSimpArgs false
namespace Go.Ev
variable {P : Program}

theorem cOp_ok {o : Oper} {e : EOp} (h : cOp P o.op = some e) : Sound P o e := by
  generalize ho : o.op = op at h
  unfold cOp at h
  split at h
  · -- move
    simp only [Option.bind_eq_bind, Option.bind_eq_some_iff, Option.some.injEq] at h
    obtain ⟨x', hx, rfl⟩ := h
    exact .q (q_mov (.inl ho) hx) rfl
  · -- assign
    simp only [Option.bind_eq_bind, Option.bind_eq_some_iff, Option.some.injEq] at h
    obtain ⟨x', hx, rfl⟩ := h
    exact .q (q_mov (.inr ho) hx) rfl
  · -- pick
    simp only [Option.bind_eq_bind, Option.bind_eq_some_iff, Option.some.injEq] at h
    obtain ⟨c', hc, a', ha, b', hb, rfl⟩ := h
    exact .q (q_pick ho hc ha hb) rfl
  · -- alloc
    simp only [Option.bind_eq_bind, Option.bind_eq_some_iff, Option.some.injEq] at h
    obtain ⟨i, hi, rfl⟩ := h
    exact .w (w_new ho hi) rfl rfl (fun _ => f_new ho hi)
  · -- box
    simp only [Option.bind_eq_bind, Option.bind_eq_some_iff, Option.some.injEq] at h
    obtain ⟨x', hx, rfl⟩ := h
    exact .w (w_box ho hx) rfl rfl (fun _ => f_box ho hx)
  · -- build
    simp only [Option.bind_eq_bind, Option.bind_eq_some_iff] at h
    obtain ⟨i, hi, d, hd, h⟩ := h
    split at h
    · split at h
      · rename_i hF
        simp only [Option.bind_eq_some_iff, Option.some.injEq] at h
        obtain ⟨fl, hfl, rfl⟩ := h
        exact .q (q_buildS ho hi hd hF hfl) rfl
      · cases h
    · simp only [Option.bind_eq_some_iff, Option.some.injEq] at h
      obtain ⟨ei, hei, fl, hfl, rfl⟩ := h
      exact .q (q_buildA ho hi hd hei hfl) rfl
    · cases h
  · -- buildSlice
    simp only [Option.bind_eq_bind, Option.bind_eq_some_iff] at h
    obtain ⟨d, hd, h⟩ := h
    split at h
    · simp only [Option.bind_eq_some_iff] at h
      obtain ⟨i, hi, h⟩ := h
      split at h
      · rename_i hle
        simp only [Option.bind_eq_some_iff, Option.some.injEq] at h
        obtain ⟨fl, hfl, rfl⟩ := h
        exact .w (w_buildSlice ho hd hi hle hfl) rfl rfl (fun _ => f_buildSlice ho hd hi hle hfl)
      · cases h
    · cases h
  · -- load
    simp only [Option.bind_eq_bind, Option.bind_eq_some_iff, Option.some.injEq] at h
    obtain ⟨ag, hag, x', hx, rfl⟩ := h
    exact .q (q_load ho hx hag) rfl
  · -- store
    simp only [Option.bind_eq_bind, Option.bind_eq_some_iff, Option.some.injEq] at h
    obtain ⟨i, hi, x', hx, v', hv, rfl⟩ := h
    exact .w (w_store ho hi hx hv) rfl rfl
  · -- nilCheck
    simp only [Option.bind_eq_bind, Option.bind_eq_some_iff, Option.some.injEq] at h
    obtain ⟨x', hx, rfl⟩ := h
    exact .q (q_nilCheck ho hx) rfl
  · -- binOp
    split at h
    · rename_i ms hms
      split at h
      · simp only [Option.bind_eq_bind, Option.bind_eq_some_iff, Option.some.injEq] at h
        obtain ⟨x', hx, rfl⟩ := h
        exact .q (q_isNil (.inl ⟨rfl, rfl⟩) ho hms hx) rfl
      · simp only [Option.bind_eq_bind, Option.bind_eq_some_iff, Option.some.injEq] at h
        obtain ⟨x', hx, rfl⟩ := h
        exact .q (q_isNil (.inr ⟨rfl, rfl⟩) ho hms hx) rfl
      · cases h
    · simp only [Option.bind_eq_bind, Option.bind_eq_some_iff, Option.some.injEq] at h
      obtain ⟨x', hx, y', hy, rfl⟩ := h
      exact .q (q_bin ho hx hy) rfl
  · -- unOp
    simp only [Option.bind_eq_bind, Option.bind_eq_some_iff, Option.some.injEq] at h
    obtain ⟨x', hx, rfl⟩ := h
    exact .q (q_un ho hx) rfl
  · -- convert
    simp only [Option.bind_eq_bind, Option.bind_eq_some_iff] at h
    obtain ⟨ds, hds, dd, hdd, h⟩ := h
    split at h
    · simp only [Option.bind_eq_some_iff, Option.some.injEq] at h
      obtain ⟨x', hx, rfl⟩ := h
      exact .q (q_toInt ho hds hdd hx) rfl
    · simp only [Option.bind_eq_some_iff, Option.some.injEq] at h
      obtain ⟨x', hx, rfl⟩ := h
      exact .q (q_toStr ho hds hdd hx) rfl
    · simp only [Option.bind_eq_some_iff, Option.some.injEq] at h
      obtain ⟨x', hx, rfl⟩ := h
      exact .q (q_same ho hds hdd hx) rfl
    · simp only [Option.bind_eq_some_iff] at h
      obtain ⟨de, hde, h⟩ := h
      split at h
      · simp only [Option.bind_eq_some_iff, Option.some.injEq] at h
        obtain ⟨x', hx, rfl⟩ := h
        exact .w (w_s2b ho hds hdd hde hx) rfl rfl (fun _ => f_s2b ho hds hdd hde hx)
      · cases h
    · simp only [Option.bind_eq_some_iff] at h
      obtain ⟨de, hde, h⟩ := h
      split at h
      · simp only [Option.bind_eq_some_iff, Option.some.injEq] at h
        obtain ⟨x', hx, rfl⟩ := h
        exact .q (q_b2s ho hds hde hdd hx) rfl
      · cases h
    · split at h
      · rename_i hsd
        have := eq_of_beq hsd
        subst this
        simp only [Option.bind_eq_some_iff] at h
        obtain ⟨de, hde, h⟩ := h
        split at h
        · simp only [Option.bind_eq_some_iff, Option.some.injEq] at h
          obtain ⟨x', hx, rfl⟩ := h
          exact .w (w_ss ho hdd hde hx) rfl rfl
        · cases h
      · cases h
    · simp only [Option.bind_eq_some_iff] at h
      obtain ⟨i, hi, h⟩ := h
      split at h
      · cases h
      · rename_i hz
        simp only [Option.bind_eq_some_iff, Option.some.injEq] at h
        obtain ⟨x', hx, rfl⟩ := h
        exact .q (q_p2u ho hds hdd hi hz hx) rfl
    · simp only [Option.bind_eq_some_iff] at h
      obtain ⟨i, hi, h⟩ := h
      split at h
      · cases h
      · rename_i hz
        simp only [Option.bind_eq_some_iff, Option.some.injEq] at h
        obtain ⟨i2, hi2, x', hx, rfl⟩ := h
        rw [hi] at hi2
        simp at hi2
        subst hi2
        exact .q (q_u2p ho hds hdd hi hz hx) rfl
    · cases h
  · -- makeInterface
    simp only [Option.bind_eq_bind, Option.bind_eq_some_iff] at h
    obtain ⟨d, hd, h⟩ := h
    split at h
    · cases h
    · rename_i hni
      simp only [Option.bind_eq_some_iff, Option.some.injEq] at h
      obtain ⟨x', hx, rfl⟩ := h
      exact .q (q_iface ho hd (fun ms hm => hni ms hm) hx) rfl
  · -- makeFunc
    split at h
    · simp only [Option.bind_eq_bind, Option.bind_eq_some_iff, Option.some.injEq] at h
      obtain ⟨fs, hfs, cs, hcs, rfl⟩ := h
      exact .q (q_func ho hfs hcs) rfl
    · cases h
  · -- makeMap
    simp only [Option.some.injEq] at h
    subst h
    exact .w (w_mkMap ho) rfl rfl
  · -- makeSlice
    simp only [Option.bind_eq_bind, Option.bind_eq_some_iff] at h
    obtain ⟨d, hd, h⟩ := h
    split at h
    · simp only [Option.bind_eq_some_iff, Option.some.injEq] at h
      obtain ⟨i, hi, l', hl, c', hc, rfl⟩ := h
      exact .w (w_mkSlice ho hd hi hl hc) rfl rfl
    · cases h
  · -- slice
    rename_i t x lo hi mx
    split at h
    · cases h
    · rename_i hmh
      have hmh' : mx.isSome → hi.isSome := by
        intro h1
        cases hi with
        | none => exact absurd (by simp [h1]) hmh
        | some _ => rfl
      simp only [Option.bind_eq_bind, Option.bind_eq_some_iff] at h
      obtain ⟨d, hd, h⟩ := h
      split at h
      · split at h
        · cases h
        · rename_i hmx
          have : mx = none := by simpa using hmx
          subst this
          simp only [Option.bind_eq_some_iff, Option.some.injEq] at h
          obtain ⟨x', hx, lo', hlo, hi', hhi, rfl⟩ := h
          exact .q (q_slStr ho hd hx hlo hhi) rfl
      · simp only [Option.bind_eq_some_iff, Option.some.injEq] at h
        obtain ⟨i, hi0, x', hx, lo', hlo, hi', hhi, mx', hmx, rfl⟩ := h
        exact .q (q_sl ho hd hi0 hx hlo hhi hmx hmh') rfl
      · simp only [Option.bind_eq_some_iff, Option.some.injEq] at h
        obtain ⟨i, hi0, x', hx, lo', hlo, hi', hhi, mx', hmx, rfl⟩ := h
        exact .q (q_slArr ho hd hi0 hx hlo hhi hmx hmh') rfl
      · cases h
  · -- fieldAddr
    simp only [Option.bind_eq_bind, Option.bind_eq_some_iff] at h
    obtain ⟨d, hd, h⟩ := h
    split at h
    · simp only [Option.bind_eq_some_iff] at h
      obtain ⟨fd, hfd, i, hi, h⟩ := h
      split at h
      · cases h
      · rename_i hz
        simp only [Option.bind_eq_some_iff, Option.some.injEq] at h
        obtain ⟨x', hx, rfl⟩ := h
        exact .q (q_fieldAddr ho hd hfd hi hz hx) rfl
    · cases h
  · -- field
    simp only [Option.bind_eq_bind, Option.bind_eq_some_iff] at h
    obtain ⟨d, hd, h⟩ := h
    split at h
    · simp only [Option.bind_eq_some_iff, Option.some.injEq] at h
      obtain ⟨fd, hfd, ag, hag, x', hx, rfl⟩ := h
      exact .q (q_field ho hd hfd hag hx) rfl
    · cases h
  · -- indexAddr
    simp only [Option.bind_eq_bind, Option.bind_eq_some_iff] at h
    obtain ⟨d, hd, h⟩ := h
    split at h
    · simp only [Option.bind_eq_some_iff, Option.some.injEq] at h
      obtain ⟨i, hi, x', hx, j', hj, rfl⟩ := h
      exact .q (q_idxArr ho hd hi hx hj) rfl
    · simp only [Option.bind_eq_some_iff, Option.some.injEq] at h
      obtain ⟨i, hi, x', hx, j', hj, rfl⟩ := h
      exact .q (q_idxSl ho hd hi hx hj) rfl
    · cases h
  · -- index
    simp only [Option.bind_eq_bind, Option.bind_eq_some_iff] at h
    obtain ⟨d, hd, h⟩ := h
    split at h
    · simp only [Option.bind_eq_some_iff, Option.some.injEq] at h
      obtain ⟨i, hi, ag, hag, x', hx, j', hj, rfl⟩ := h
      exact .q (q_idxAgg ho hd hi hag hx hj) rfl
    · simp only [Option.bind_eq_some_iff, Option.some.injEq] at h
      obtain ⟨x', hx, j', hj, rfl⟩ := h
      exact .q (q_idxStr ho hd hx hj) rfl
    · cases h
  · -- lookup
    simp only [Option.bind_eq_bind, Option.bind_eq_some_iff] at h
    obtain ⟨d, hd, h⟩ := h
    split at h
    · simp only [Option.bind_eq_some_iff, Option.some.injEq] at h
      obtain ⟨fk, hfk, i, hi, x', hx, j', hj, rfl⟩ := h
      exact .q (q_lookup ho hd hfk hi hx hj) rfl
    · cases h
  · -- mapUpdate
    simp only [Option.bind_eq_bind, Option.bind_eq_some_iff] at h
    obtain ⟨d, hd, h⟩ := h
    split at h
    · simp only [Option.bind_eq_some_iff, Option.some.injEq] at h
      obtain ⟨fk, hfk, x', hx, k', hk, v', hv, rfl⟩ := h
      exact .w (w_mapUpd ho hd hfk hx hk hv) rfl rfl
    · cases h
  · -- insert
    simp only [Option.bind_eq_bind, Option.bind_eq_some_iff] at h
    obtain ⟨d, hd, h⟩ := h
    split at h
    · simp only [Option.bind_eq_some_iff, Option.some.injEq] at h
      obtain ⟨fk, hfk, x', hx, k', hk, v', hv, rfl⟩ := h
      exact .w (w_insert ho hd hfk hx hk hv) rfl rfl
    · cases h
  · -- range
    simp only [Option.bind_eq_bind, Option.bind_eq_some_iff] at h
    obtain ⟨d, hd, h⟩ := h
    split at h
    · simp only [Option.bind_eq_some_iff, Option.some.injEq] at h
      obtain ⟨x', hx, rfl⟩ := h
      exact .w (w_range ho hd hx) rfl rfl
    · cases h
  · -- next
    simp only [Option.bind_eq_bind, Option.bind_eq_some_iff, Option.some.injEq] at h
    obtain ⟨x', hx, rfl⟩ := h
    exact .w (w_next ho hx) rfl rfl
  · -- typeAssert
    simp only [Option.bind_eq_bind, Option.bind_eq_some_iff] at h
    obtain ⟨d, hd, h⟩ := h
    split at h
    · simp only [Option.bind_eq_some_iff, Option.some.injEq] at h
      obtain ⟨i, hi, x', hx, rfl⟩ := h
      refine .q (q_tassertI ho hd hi ?_ ?_ hx) rfl
      · intro u hu
        have hu2 := (List.mem_filter.1 hu).2
        split at hu2
        · rename_i ui hui
          exact ⟨ui, hui, (lacks_iff _ _).1 (by simpa using hu2)⟩
        · cases hu2
      · intro u hu
        have hu2 := (List.mem_filter.1 hu).2
        split at hu2
        · rename_i ui hui
          cases hm : Instr.missingMethod _ ui.methods with
          | some m => exact ⟨ui, m, hui, hm⟩
          | none => rw [(lacks_iff _ _).2 hm] at hu2; cases hu2
        · cases hu2
    · rename_i hni
      simp only [Option.bind_eq_some_iff, Option.some.injEq] at h
      obtain ⟨i, hi, x', hx, rfl⟩ := h
      exact .q (q_tassert ho hd (fun ms hm => hni ms hm) hi hx) rfl
  · -- extract
    simp only [Option.bind_eq_bind, Option.bind_eq_some_iff, Option.some.injEq] at h
    obtain ⟨x', hx, rfl⟩ := h
    exact .q (q_extract ho hx) rfl
  · exact cCall_ok ho h
  · cases h

end Go.Ev
end PEvS13
