/- An evaluator of the model's programs over abstract values, proved sound: part 1. -/
import Derived.Calls
import Derived.Laws.Sem
import Derived.Laws.World
import Derived.Laws.Cells
import GoSem.Dispatch
import GoSem.Core.Region
import GoSem.Extern.Table
import Derived.Laws.StructEq
import Derived.Laws.Strings
import Derived.Lib.SmallJoins
import Derived.Laws.Externs
import Derived.Laws.BytesArg
/- Abstract values, trees, heaps, and how they stand to the model's worlds. -/
section PEvA
namespace Go.Ev

inductive AV where
  | bool (b : Bool)
  | int (k : IntKind) (n : Int)
  | str (s : List UInt8)
  | nilp
  | ptr (b off : Nat)
  | nils
  | slice (b off len sz : Nat) (cap : Option Nat)
  | empt
  | nilm
  | map (b : Nat)
  | nilf
  | fn (f : Nat) (first caps : List AV)
  | nili
  | iface (t : Nat) (v : AV)
  | agg (l : List AV)
  | tup (l : List AV)

inductive Tr (α : Type) where
  | e
  | n (l : Tr α) (x : Option α) (r : Tr α)

namespace Tr
variable {α : Type}
def get : Tr α → Nat → Option α
  | .e, _ => none
  | .n l x r, k =>
    match k with
    | 0 => x
    | k + 1 => cond (Nat.beq (k % 2) 0) (l.get (k / 2)) (r.get (k / 2))

def setF : Nat → Tr α → Nat → Option α → Tr α
  | 0, t, _, _ => t
  | f + 1, t, k, o =>
    match t, k with
    | .e, 0 => .n .e o .e
    | .n l _ r, 0 => .n l o r
    | .e, k + 1 => cond (Nat.beq (k % 2) 0) (.n (setF f .e (k / 2) o) none .e) (.n .e none (setF f .e (k / 2) o))
    | .n l x r, k + 1 => cond (Nat.beq (k % 2) 0) (.n (setF f l (k / 2) o) x r) (.n l x (setF f r (k / 2) o))

def set (t : Tr α) (k : Nat) (o : Option α) : Tr α := setF (k + 1) t k o

theorem get_setF_same : ∀ (f : Nat) (t : Tr α) (k : Nat) (o : Option α), k < f → (setF f t k o).get k = o
  | 0, _, _, _, h => by omega
  | f + 1, t, k, o, h => by
    cases k with
    | zero => cases t <;> simp [setF, get]
    | succ k =>
      have ih := fun t => get_setF_same f t (k / 2) o (by omega)
      cases t <;> simp only [setF] <;> cases hb : Nat.beq (k % 2) 0 <;> simp [get, hb, ih]

theorem get_e (k : Nat) : (Tr.e : Tr α).get k = none := rfl

theorem get_setF_ne : ∀ (f : Nat) (t : Tr α) (k j : Nat) (o : Option α), k ≠ j → (setF f t k o).get j = t.get j
  | 0, _, _, _, _, _ => rfl
  | f + 1, t, k, j, o, h => by
    have ih := fun t k j h => get_setF_ne f t k j o h
    cases k with
    | zero =>
      cases j with
      | zero => exact absurd rfl h
      | succ j => cases t <;> simp [setF, get]
    | succ k =>
      cases j with
      | zero => cases t <;> simp only [setF] <;> cases hb : Nat.beq (k % 2) 0 <;> simp [get]
      | succ j =>
        by_cases hk : k / 2 = j / 2
        · have hp : Nat.beq (k % 2) 0 ≠ Nat.beq (j % 2) 0 := by
            intro e
            have h2 : k % 2 = j % 2 := by
              rcases Nat.mod_two_eq_zero_or_one k with a | a <;> rcases Nat.mod_two_eq_zero_or_one j with b | b <;> simp [a, b] at e ⊢
            omega
          cases t <;> simp only [setF] <;> cases hb : Nat.beq (k % 2) 0 <;> cases hc : Nat.beq (j % 2) 0 <;> simp [get, hc] <;> simp_all
        · cases t <;> simp only [setF] <;> cases hb : Nat.beq (k % 2) 0 <;> cases hc : Nat.beq (j % 2) 0 <;> simp [get, hc, ih _ _ _ hk]

theorem get_set_same (t : Tr α) (k : Nat) (o : Option α) : (t.set k o).get k = o := get_setF_same _ _ _ _ (by omega)
theorem get_set_ne (t : Tr α) {k j : Nat} (o : Option α) (h : k ≠ j) : (t.set k o).get j = t.get j := get_setF_ne _ _ _ _ _ h
theorem get_set (t : Tr α) (k j : Nat) (o : Option α) : (t.set k o).get j = if k = j then o else t.get j := by
  by_cases h : k = j
  · subst h; simp [get_set_same]
  · simp [get_set_ne _ _ h, h]
end Tr

inductive AO where
  | cells (l : List AV) (elem : TypeId) (fz : Bool)
  | map (ents : List (AV × AV × Nat)) (clock : Nat)
  | iter (s : List UInt8) (pos : Nat)

/-- May it be written? -/
def AO.loose : AO → Bool
  | .cells _ _ fz => !fz
  | _ => true

/-! ### heaps: by the bits of a block's number and one -/
inductive HT where
  | e
  | n (l : HT) (x : Option AO) (r : HT)
namespace HT
noncomputable def get (t : HT) : Nat → Option AO :=
  HT.rec (motive := fun _ => Nat → Option AO) (fun _ => none)
    (fun _ x _ gl gr k => Bool.rec (motive := fun _ => Option AO) (Bool.rec (motive := fun _ => Option AO) (gr (Nat.shiftRight k 1)) (gl (Nat.shiftRight k 1)) (Nat.beq (Nat.land k 1) 0)) x (Nat.beq k 1)) t
noncomputable def mk (f : Nat) : Nat → Option AO → HT :=
  Nat.rec (motive := fun _ => Nat → Option AO → HT) (fun _ _ => .e)
    (fun _ ih k o => Bool.rec (motive := fun _ => HT) (Bool.rec (motive := fun _ => HT) (.n .e none (ih (Nat.shiftRight k 1) o)) (.n (ih (Nat.shiftRight k 1) o) none .e) (Nat.beq (Nat.land k 1) 0)) (.n .e o .e) (Nat.beq k 1)) f
noncomputable def set (t : HT) : Nat → Option AO → HT :=
  HT.rec (motive := fun _ => Nat → Option AO → HT) (fun k o => mk k k o)
    (fun l x r sl sr k o => Bool.rec (motive := fun _ => HT) (Bool.rec (motive := fun _ => HT) (.n l x (sr (Nat.shiftRight k 1) o)) (.n (sl (Nat.shiftRight k 1) o) x r) (Nat.beq (Nat.land k 1) 0)) (.n l o r) (Nat.beq k 1)) t
theorem get_e (k : Nat) : HT.e.get k = none := rfl
theorem get_n (l : HT) (x : Option AO) (r : HT) (k : Nat) : (HT.n l x r).get k = cond (Nat.beq k 1) x (cond (Nat.beq (Nat.land k 1) 0) (l.get (Nat.shiftRight k 1)) (r.get (Nat.shiftRight k 1))) := by
  show Bool.rec (motive := fun _ => Option AO) (Bool.rec (motive := fun _ => Option AO) (r.get (Nat.shiftRight k 1)) (l.get (Nat.shiftRight k 1)) (Nat.beq (Nat.land k 1) 0)) x (Nat.beq k 1) = _
  cases Nat.beq k 1 <;> cases Nat.beq (Nat.land k 1) 0 <;> rfl
theorem mk_s (f k : Nat) (o : Option AO) : mk (f + 1) k o = cond (Nat.beq k 1) (.n .e o .e) (cond (Nat.beq (Nat.land k 1) 0) (.n (mk f (Nat.shiftRight k 1) o) none .e) (.n .e none (mk f (Nat.shiftRight k 1) o))) := by
  show Bool.rec (motive := fun _ => HT) (Bool.rec (motive := fun _ => HT) (.n .e none (mk f (Nat.shiftRight k 1) o)) (.n (mk f (Nat.shiftRight k 1) o) none .e) (Nat.beq (Nat.land k 1) 0)) (.n .e o .e) (Nat.beq k 1) = _
  cases Nat.beq k 1 <;> cases Nat.beq (Nat.land k 1) 0 <;> rfl
theorem set_e (k : Nat) (o : Option AO) : HT.e.set k o = mk k k o := rfl
theorem set_n (l : HT) (x : Option AO) (r : HT) (k : Nat) (o : Option AO) : (HT.n l x r).set k o = cond (Nat.beq k 1) (.n l o r) (cond (Nat.beq (Nat.land k 1) 0) (.n (l.set (Nat.shiftRight k 1) o) x r) (.n l x (r.set (Nat.shiftRight k 1) o))) := by
  show Bool.rec (motive := fun _ => HT) (Bool.rec (motive := fun _ => HT) (.n l x (r.set (Nat.shiftRight k 1) o)) (.n (l.set (Nat.shiftRight k 1) o) x r) (Nat.beq (Nat.land k 1) 0)) (.n l o r) (Nat.beq k 1) = _
  cases Nat.beq k 1 <;> cases Nat.beq (Nat.land k 1) 0 <;> rfl
theorem beq_t {a b : Nat} : Nat.beq a b = true ↔ a = b := ⟨Nat.eq_of_beq_eq_true, fun h => by subst h; exact Nat.beq_refl a⟩
theorem shr1 (k : Nat) : Nat.shiftRight k 1 = k / 2 := Nat.shiftRight_succ k 0
theorem land1 (k : Nat) : Nat.land k 1 = k % 2 := Nat.and_one_is_mod k
theorem get_mk : ∀ (f k j : Nat) (o : Option AO), 1 ≤ k → k ≤ f → 1 ≤ j → (mk f k o).get j = if k = j then o else none
  | 0, k, j, o, h1, h2, _ => by omega
  | f + 1, k, j, o, h1, h2, h3 => by
    rw [mk_s]
    cases hk : Nat.beq k 1 with
    | true =>
      have := beq_t.1 hk; subst this
      simp only [cond_true, get_n, get_e]
      cases hj : Nat.beq j 1 with
      | true => have := beq_t.1 hj; subst this; simp
      | false =>
        have : ¬ 1 = j := fun e => by subst e; simp at hj
        simp [this]
    | false =>
      have hk1 : k ≠ 1 := fun e => by subst e; simp at hk
      have ih := fun j h3 => get_mk f (k / 2) j o (by omega) (by omega) h3
      simp only [cond_false, shr1, land1]
      cases hp : Nat.beq (k % 2) 0 with
      | true =>
        have hp' := beq_t.1 hp
        simp only [cond_true, get_n, get_e, shr1, land1]
        cases hj : Nat.beq j 1 with
        | true => have := beq_t.1 hj; subst this; simp [hk1]
        | false =>
          have hj1 : j ≠ 1 := fun e => by subst e; simp at hj
          cases hq : Nat.beq (j % 2) 0 with
          | true =>
            have hq' := beq_t.1 hq
            simp only [cond_true, cond_false]
            rw [ih (j / 2) (by omega)]
            by_cases e : k = j
            · subst e; simp
            · rw [if_neg e, if_neg (by omega)]
          | false =>
            have hq' : j % 2 ≠ 0 := fun e => by rw [e] at hq; simp at hq
            simp only [cond_false]
            rw [if_neg (by omega)]
      | false =>
        have hp' : k % 2 ≠ 0 := fun e => by rw [e] at hp; simp at hp
        simp only [cond_false, get_n, get_e, shr1, land1]
        cases hj : Nat.beq j 1 with
        | true => have := beq_t.1 hj; subst this; simp [hk1]
        | false =>
          have hj1 : j ≠ 1 := fun e => by subst e; simp at hj
          cases hq : Nat.beq (j % 2) 0 with
          | true =>
            have hq' := beq_t.1 hq
            simp only [cond_true, cond_false]
            rw [if_neg (by omega)]
          | false =>
            have hq' : j % 2 ≠ 0 := fun e => by rw [e] at hq; simp at hq
            simp only [cond_false]
            rw [ih (j / 2) (by omega)]
            by_cases e : k = j
            · subst e; simp
            · rw [if_neg e, if_neg (by omega)]
theorem get_set : ∀ (t : HT) (k j : Nat) (o : Option AO), 1 ≤ k → 1 ≤ j → (t.set k o).get j = if k = j then o else t.get j
  | .e, k, j, o, h1, h3 => by rw [set_e, get_mk k k j o h1 (Nat.le_refl _) h3]; rfl
  | .n l x r, k, j, o, h1, h3 => by
    rw [set_n, get_n]
    cases hk : Nat.beq k 1 with
    | true =>
      have := beq_t.1 hk; subst this
      simp only [cond_true, get_n]
      cases hj : Nat.beq j 1 with
      | true => have := beq_t.1 hj; subst this; simp
      | false =>
        have : ¬ 1 = j := fun e => by subst e; simp at hj
        simp [this]
    | false =>
      have hk1 : k ≠ 1 := fun e => by subst e; simp at hk
      simp only [cond_false, shr1, land1]
      cases hp : Nat.beq (k % 2) 0 with
      | true =>
        have hp' := beq_t.1 hp
        simp only [cond_true, get_n, shr1, land1]
        cases hj : Nat.beq j 1 with
        | true => have := beq_t.1 hj; subst this; simp [hk1]
        | false =>
          have hj1 : j ≠ 1 := fun e => by subst e; simp at hj
          cases hq : Nat.beq (j % 2) 0 with
          | true =>
            have hq' := beq_t.1 hq
            simp only [cond_true, cond_false]
            rw [get_set l (k / 2) (j / 2) o (by omega) (by omega)]
            by_cases e : k = j
            · subst e; simp
            · rw [if_neg e, if_neg (by omega)]
          | false =>
            have hq' : j % 2 ≠ 0 := fun e => by rw [e] at hq; simp at hq
            simp only [cond_false]
            rw [if_neg (by omega)]
      | false =>
        have hp' : k % 2 ≠ 0 := fun e => by rw [e] at hp; simp at hp
        simp only [cond_false, get_n, shr1, land1]
        cases hj : Nat.beq j 1 with
        | true => have := beq_t.1 hj; subst this; simp [hk1]
        | false =>
          have hj1 : j ≠ 1 := fun e => by subst e; simp at hj
          cases hq : Nat.beq (j % 2) 0 with
          | true =>
            have hq' := beq_t.1 hq
            simp only [cond_true, cond_false]
            rw [if_neg (by omega)]
          | false =>
            have hq' : j % 2 ≠ 0 := fun e => by rw [e] at hq; simp at hq
            simp only [cond_false]
            rw [get_set r (k / 2) (j / 2) o (by omega) (by omega)]
            by_cases e : k = j
            · subst e; simp
            · rw [if_neg e, if_neg (by omega)]
end HT

structure AH where
  objs : HT
  next : Nat

noncomputable def AH.get (h : AH) (b : Nat) : Option AO := h.objs.get (Nat.succ b)
noncomputable def AH.put (h : AH) (b : Nat) (o : AO) : AH := { h with objs := h.objs.set (Nat.succ b) (some o) }
noncomputable def AH.del (h : AH) (b : Nat) : AH := { h with objs := h.objs.set (Nat.succ b) none }
noncomputable def AH.new (h : AH) (o : AO) : AH := { objs := h.objs.set (Nat.succ h.next) (some o), next := Nat.succ h.next }
theorem AH.get_put (h : AH) (b c : Nat) (o : AO) : (h.put b o).get c = if b = c then some o else h.get c := by
  simp only [AH.get, AH.put]
  rw [HT.get_set _ _ _ _ (by omega) (by omega)]
  simp
theorem AH.get_new (h : AH) (c : Nat) (o : AO) : (h.new o).get c = if h.next = c then some o else h.get c := by
  simp only [AH.get, AH.new]
  rw [HT.get_set _ _ _ _ (by omega) (by omega)]
  simp
theorem AH.get_del (h : AH) (b c : Nat) : (h.del b).get c = if b = c then none else h.get c := by
  simp only [AH.get, AH.del]
  rw [HT.get_set _ _ _ _ (by omega) (by omega)]
  simp

/-- For each abstract block: the model's block, and how many cells that has. -/
structure Gh where
  φ : Nat → Option (Nat × Nat)

mutual
def VR (g : Gh) : AV → Value → Prop
  | .bool b, v => v = .bool b
  | .int k n, v => v = .int k n
  | .str s, v => v = .string ⟨s.toArray⟩
  | .nilp, v => v = .pointer none
  | .ptr b off, v => ∃ x n, g.φ b = some (x, n) ∧ v = .pointer (some ⟨x, off, none⟩)
  | .nils, v => v = .slice none 0 0
  | .slice b off len sz cap, v => ∃ x n c, g.φ b = some (x, n) ∧ v = .slice (some ⟨x, off, none⟩) len c ∧ len ≤ c ∧ off + c * sz ≤ n ∧ ∀ c', cap = some c' → c = c'
  | .empt, v => ∃ a c, v = .slice (some a) 0 c
  | .nilm, v => v = .map none
  | .map b, v => ∃ x n, g.φ b = some (x, n) ∧ v = .map (some x)
  | .nilf, v => v = .nilFunc
  | .fn f first caps, v => ∃ vs ws, v = .func (.func f) vs.toArray ws.toArray ∧ VRL g first vs ∧ VRL g caps ws
  | .nili, v => v = .nilIface
  | .iface t a, v => ∃ u, v = .iface t u ∧ VR g a u
  | .agg l, v => ∃ vs, v = .agg vs.toArray ∧ VRL g l vs
  | .tup l, v => ∃ vs, v = .tuple vs.toArray ∧ VRL g l vs
def VRL (g : Gh) : List AV → List Value → Prop
  | [], vs => vs = []
  | a :: l, vs => ∃ v ws, vs = v :: ws ∧ VR g a v ∧ VRL g l ws
end

def Gh.le (g g' : Gh) : Prop := ∀ b p, g.φ b = some p → g'.φ b = some p
theorem Gh.le_refl (g : Gh) : g.le g := fun _ _ h => h
theorem Gh.le_trans {a b c : Gh} (h : a.le b) (h' : b.le c) : a.le c := fun _ _ e => h' _ _ (h _ _ e)

mutual
theorem VR.mono {g g' : Gh} (hg : g.le g') : ∀ {a : AV} {v : Value}, VR g a v → VR g' a v
  | .bool _, _, h => h
  | .int _ _, _, h => h
  | .str _, _, h => h
  | .nilp, _, h => h
  | .ptr _ _, _, ⟨x, n, h, e⟩ => ⟨x, n, hg _ _ h, e⟩
  | .nils, _, h => h
  | .slice _ _ _ _ _, _, ⟨x, n, c, h, e⟩ => ⟨x, n, c, hg _ _ h, e⟩
  | .empt, _, h => h
  | .nilm, _, h => h
  | .map _, _, ⟨x, n, h, e⟩ => ⟨x, n, hg _ _ h, e⟩
  | .nilf, _, h => h
  | .fn _ _ _, _, ⟨vs, ws, e, h, h'⟩ => ⟨vs, ws, e, VRL.mono hg h, VRL.mono hg h'⟩
  | .nili, _, h => h
  | .iface _ _, _, ⟨u, e, h⟩ => ⟨u, e, VR.mono hg h⟩
  | .agg _, _, ⟨vs, e, h⟩ => ⟨vs, e, VRL.mono hg h⟩
  | .tup _, _, ⟨vs, e, h⟩ => ⟨vs, e, VRL.mono hg h⟩
theorem VRL.mono {g g' : Gh} (hg : g.le g') : ∀ {l : List AV} {vs : List Value}, VRL g l vs → VRL g' l vs
  | [], _, h => h
  | _ :: _, _, ⟨v, ws, e, h, h'⟩ => ⟨v, ws, e, VR.mono hg h, VRL.mono hg h'⟩
end

theorem VRL.length {g : Gh} : ∀ {l : List AV} {vs : List Value}, VRL g l vs → vs.length = l.length
  | [], _, h => by rw [VRL] at h; simp [h]
  | _ :: _, _, h => by
    rw [VRL] at h
    obtain ⟨v, ws, rfl, _, h'⟩ := h
    simp [VRL.length h']

theorem VRL.get {g : Gh} : ∀ {l : List AV} {vs : List Value} {i : Nat} {a : AV}, VRL g l vs → l[i]? = some a → ∃ v, vs[i]? = some v ∧ VR g a v
  | [], _, i, a, _, e => by simp at e
  | b :: l, vs, i, a, h, e => by
    rw [VRL] at h
    obtain ⟨v, ws, rfl, hv, h'⟩ := h
    cases i with
    | zero => simp at e; subst e; exact ⟨v, by simp, hv⟩
    | succ i => simp at e; obtain ⟨u, hu, hr⟩ := VRL.get h' e; exact ⟨u, by simpa using hu, hr⟩

theorem VRL.append {g : Gh} : ∀ {l l' : List AV} {vs vs' : List Value}, VRL g l vs → VRL g l' vs' → VRL g (l ++ l') (vs ++ vs')
  | [], _, _, _, h, h' => by rw [VRL] at h; subst h; simpa using h'
  | a :: l, l', vs, vs', h, h' => by
    rw [VRL] at h
    obtain ⟨v, ws, rfl, hv, hw⟩ := h
    exact ⟨v, ws ++ vs', rfl, hv, VRL.append hw h'⟩

theorem VRL.split {g : Gh} : ∀ {l l' : List AV} {vs : List Value}, VRL g (l ++ l') vs → ∃ us ws, vs = us ++ ws ∧ VRL g l us ∧ VRL g l' ws
  | [], _, vs, h => ⟨[], vs, rfl, rfl, h⟩
  | a :: l, l', vs, h => by
    simp only [List.cons_append] at h
    rw [VRL] at h
    obtain ⟨v, ws, rfl, hv, hw⟩ := h
    obtain ⟨us, xs, rfl, h1, h2⟩ := VRL.split hw
    exact ⟨v :: us, xs, rfl, ⟨v, us, rfl, hv, h1⟩, h2⟩

theorem VRL.take {g : Gh} : ∀ {l : List AV} {vs : List Value} (n : Nat), VRL g l vs → VRL g (l.take n) (vs.take n)
  | [], _, n, h => by rw [VRL] at h; subst h; simp [VRL]
  | a :: l, vs, n, h => by
    rw [VRL] at h
    obtain ⟨v, ws, rfl, hv, hw⟩ := h
    cases n with
    | zero => simp [VRL]
    | succ n => exact ⟨v, _, rfl, hv, VRL.take n hw⟩

theorem VRL.drop {g : Gh} : ∀ {l : List AV} {vs : List Value} (n : Nat), VRL g l vs → VRL g (l.drop n) (vs.drop n)
  | [], _, n, h => by rw [VRL] at h; subst h; simp [VRL]
  | a :: l, vs, n, h => by
    have h0 := h
    rw [VRL] at h
    obtain ⟨v, ws, rfl, hv, hw⟩ := h
    cases n with
    | zero => exact h0
    | succ n => exact VRL.drop n hw

theorem VRL.set {g : Gh} : ∀ {l : List AV} {vs : List Value} (i : Nat) {a : AV} {v : Value}, VRL g l vs → VR g a v → VRL g (l.set i a) (vs.set i v)
  | [], _, i, a, v, h, _ => by rw [VRL] at h; subst h; simp [VRL]
  | b :: l, vs, i, a, v, h, hv => by
    rw [VRL] at h
    obtain ⟨u, ws, rfl, hu, hw⟩ := h
    cases i with
    | zero => exact ⟨v, ws, rfl, hv, hw⟩
    | succ i => exact ⟨u, _, rfl, hu, VRL.set i hw hv⟩

/-- An object against the model's (whose row has n cells). -/
def OR (g : Gh) (n : Nat) : AO → Obj → Prop
  | .cells l elem fz, o => ∃ vs rest lo hi, o = .cells (vs ++ rest).toArray elem (lo, hi) ∧ VRL g l vs ∧ (vs ++ rest).length = n ∧ (fz = false → lo = hi ∨ n ≤ lo)
  | .map ents clock, o => ∃ es : List MapEntry, o = .map es.toArray clock ∧ VRL g (ents.map (·.1)) (es.map (·.key)) ∧ VRL g (ents.map (·.2.1)) (es.map (·.val)) ∧ ents.map (·.2.2) = es.map (·.born)
  | .iter s pos, o => o = .stringIter ⟨s.toArray⟩ pos

theorem OR.mono {g g' : Gh} (hg : g.le g') {n : Nat} {a : AO} {o : Obj} (h : OR g n a o) : OR g' n a o := by
  cases a with
  | cells l elem fz => obtain ⟨vs, rest, lo, hi, e, h1, h2, h3⟩ := h; exact ⟨vs, rest, lo, hi, e, h1.mono hg, h2, h3⟩
  | map ents clock => obtain ⟨es, e, h1, h2, h3⟩ := h; exact ⟨es, e, h1.mono hg, h2.mono hg, h3⟩
  | iter s pos => exact h

structure Sim (g : Gh) (h : AH) (w : World) : Prop where
  obj : ∀ b o, h.get b = some o → ∃ x n ob, g.φ b = some (x, n) ∧ w.heap[x]? = some ob ∧ OR g n o ob
  inj : ∀ b b' x n n', h.get b ≠ none → h.get b' ≠ none → g.φ b = some (x, n) → g.φ b' = some (x, n') → b = b'
  dom : ∀ b x n, g.φ b = some (x, n) → b < h.next ∧ x < w.heap.size

/-- The block x is one that may be written. -/
def Own (g : Gh) (h : AH) (x : Nat) : Prop := ∃ b n o, h.get b = some o ∧ o.loose = true ∧ g.φ b = some (x, n)

/-- The block x has a number. -/
def Live (g : Gh) (h : AH) (x : Nat) : Prop := ∃ b n o, h.get b = some o ∧ g.φ b = some (x, n)

structure Stp (g : Gh) (h : AH) (w : World) (g' : Gh) (h' : AH) (w' : World) : Prop where
  ext : g.le g'
  size : w.heap.size ≤ w'.heap.size
  fr : ∀ x, x < w.heap.size → ¬ Own g h x → w'.heap[x]? = w.heap[x]?
  own : ∀ x, x < w.heap.size → Own g' h' x → Own g h x
  os : w'.os = w.os
  out : w'.output = w.output
  tape : w'.tape = w.tape
  next : h.next ≤ h'.next
  lv : ∀ x, x < w.heap.size → Live g' h' x → Live g h x
  nw : ∀ b, b < h.next → g'.φ b = g.φ b

theorem Stp.refl (g : Gh) (h : AH) (w : World) : Stp g h w g h w :=
  ⟨g.le_refl, Nat.le_refl _, fun _ _ _ => rfl, fun _ _ h => h, rfl, rfl, rfl, Nat.le_refl _, fun _ _ h => h, fun _ _ => rfl⟩

theorem Stp.trans {g g1 g2 : Gh} {h h1 h2 : AH} {w w1 w2 : World} (a : Stp g h w g1 h1 w1) (b : Stp g1 h1 w1 g2 h2 w2) : Stp g h w g2 h2 w2 where
  ext := Gh.le_trans a.ext b.ext
  size := Nat.le_trans a.size b.size
  fr := fun x hx hn => by rw [b.fr x (Nat.lt_of_lt_of_le hx a.size) (fun h => hn (a.own x hx h)), a.fr x hx hn]
  own := fun x hx h => a.own x hx (b.own x (Nat.lt_of_lt_of_le hx a.size) h)
  os := by rw [b.os, a.os]
  out := by rw [b.out, a.out]
  tape := by rw [b.tape, a.tape]
  next := Nat.le_trans a.next b.next
  lv := fun x hx h => a.lv x hx (b.lv x (Nat.lt_of_lt_of_le hx a.size) h)
  nw := fun c hc => by rw [b.nw c (Nat.lt_of_lt_of_le hc a.next), a.nw c hc]

/-- A draw moves the count alone. -/
theorem Sim.drew {g : Gh} {h : AH} {w : World} (s : Sim g h w) : Sim g h { w with drawn := w.drawn + 1 } := ⟨s.obj, s.inj, s.dom⟩
theorem Stp.drew (g : Gh) (h : AH) (w : World) : Stp g h w g h { w with drawn := w.drawn + 1 } :=
  ⟨g.le_refl, Nat.le_refl _, fun _ _ _ => rfl, fun _ _ h => h, rfl, rfl, rfl, Nat.le_refl _, fun _ _ h => h, fun _ _ => rfl⟩

end Go.Ev
end PEvA
/- The compact code, and what it does to abstract values and heaps. -/
section PEvB
namespace Go.Ev
noncomputable section

inductive Od where
  | t (n : Nat)
  | c (v : AV)

/-- What kind of simple type. -/
inductive FK where
  | i | s | b
  | is (n : Nat)

/-- How '==' goes at a type: at once; an address; a slice (with nil alone); a struct of simple parts. -/
inductive EqM where
  | basic | ptr | sl | flat (ks : List FK)
  | no

inductive EOp where
  | mov (x : Od)
  | pick (c a b : Od)
  | new (elem : TypeId) (cells : List AV)
  | box (elem : TypeId) (x : Od)
  | build (zero : List AV) (fills : List (Nat × Nat × Od))
  | buildSlice (elem : TypeId) (sz len : Nat) (zero : List AV) (fills : List (Nat × Nat × Od))
  | load (agg : Option Nat) (x : Od)
  | store (n : Nat) (x v : Od)
  | nilCheck (x : Od)
  | bin (op : BinOp) (m : EqM) (x y : Od)
  | un (op : UnOp) (x : Od)
  | toInt (k : IntKind) (x : Od)
  | toStr (x : Od)
  | same (x : Od)
  | s2b (elem : TypeId) (x : Od)
  | b2s (x : Od)
  | ss (x : Od)
  | mkIface (t : TypeId) (x : Od)
  | mkFunc (f : FuncId) (first caps : List Od)
  | mkMap
  | mkSlice (elem : TypeId) (sz bytes : Nat) (zero : List AV) (l c : Od)
  | slStr (x : Od) (lo hi : Option Od)
  | sl (sz : Nat) (x : Od) (lo hi mx : Option Od)
  | slArr (n sz : Nat) (x : Od) (lo hi mx : Option Od)
  | fieldAddr (off : Nat) (x : Od)
  | field (off : Nat) (agg : Option Nat) (x : Od)
  | idxArr (n sz : Nat) (x i : Od)
  | idxSl (sz : Nat) (x i : Od)
  | idxAgg (n sz : Nat) (agg : Option Nat) (x i : Od)
  | idxStr (x i : Od)
  | lookup (fk : FK) (zero : AV) (ok : Bool) (x k : Od)
  | mapUpd (fk : FK) (x k v : Od)
  | rangeS (x : Od)
  | nextS (x : Od)
  | tassert (t : TypeId) (zero : AV) (ok : Bool) (x : Od)
  | tassertI (zero : AV) (ok : Bool) (yes : List TypeId) (no : List TypeId) (x : Od)
  | extract (i : Nat) (x : Od)
  | lenS (x : Od) | lenSl (x : Od) | lenMap (x : Od) | lenC (n : Nat)
  | capSl (x : Od)
  | append (elem : TypeId) (sz bytes : Nat) (zero : List AV) (s x : Od)
  | copy (sz : Nat) (d s : Od)
  | minI (x : Od) (ys : List Od) | maxI (x : Od) (ys : List Od)
  | uStr (t : TypeId) (x n : Od) | uData (x : Od)
  | callF (f : FuncId) (args : List Od)
  | callV (fn : Od) (args : List Od)
  | invoke (tab : List (TypeId × FuncId)) (recv : Od) (args : List Od)
  | p2u (x : Od) | u2p (t : TypeId) (sz : Nat) (x : Od)
  | clr (sz : Nat) (zero : List AV) (x : Od)
  | idxByteStr (x y : Od) | cntStr (x y : Od) | mkNoZero (elem : TypeId) (x : Od)
  | isNil (neg : Bool) (x : Od)
  | grow (elem : TypeId) (sz bytes : Nat) (s n : Od)
  | bad

structure EOper where
  dst : Option Nat
  op : EOp
  guard : Option (Nat × Bool)

inductive EC where
  | skip
  | region (ops : List EOper)
  | draw (ops : List EOper) (before : List Nat)
  | seq (a b : EC)
  | cond (c : Od) (a b : EC)
  | block (id : Nat) (b : EC)
  | loop (b : EC)
  | scope (b : EC)
  | exit (id : Nat)
  | label (l : Nat)
  | goto (l : Nat)
  | ret
  | bad

structure EF where
  ntmps : Nat
  body : EC
  results : List (Nat × Option (Option Nat))      -- a slot; its own value, or a cell's (one, or so many)

/-! ### helpers -/

def nth {α : Type} : List α → Nat → Option α
  | [], _ => none
  | x :: _, 0 => some x
  | _ :: l, n + 1 => nth l n

def kidx : IntKind → Nat
  | .i8 => 0 | .i16 => 1 | .i32 => 2 | .i64 => 3 | .u8 => 4 | .u16 => 5 | .u32 => 6 | .u64 => 7
def kbeq (a b : IntKind) : Bool := Nat.beq (kidx a) (kidx b)

/-- The same number, spelled out. -/
def norm : Int → Int
  | .ofNat 0 => .ofNat 0
  | .ofNat (n + 1) => .ofNat (n + 1)
  | .negSucc 0 => .negSucc 0
  | .negSucc (n + 1) => .negSucc (n + 1)

def fits (k : IntKind) (n : Int) : Bool :=
  match n with
  | .ofNat m => match k with
    | .i64 => Nat.ble m 9223372036854775807 | .u64 => Nat.ble m 18446744073709551615 | .i32 => Nat.ble m 2147483647 | .u32 => Nat.ble m 4294967295
    | .u8 => Nat.ble m 255 | _ => false
  | .negSucc m => match k with
    | .i64 => Nat.ble m 9223372036854775807 | .i32 => Nat.ble m 2147483647 | _ => false
def wr (k : IntKind) (n : Int) : Int := cond (fits k n) (norm n) (k.wrap n)

def ilt (a b : Int) : Bool :=
  match a, b with
  | .ofNat m, .ofNat n => Nat.blt m n
  | .negSucc _, .ofNat _ => true
  | .ofNat _, .negSucc _ => false
  | .negSucc m, .negSucc n => Nat.blt n m
def ieq (a b : Int) : Bool :=
  match a, b with
  | .ofNat m, .ofNat n => Nat.beq m n
  | .negSucc m, .negSucc n => Nat.beq m n
  | _, _ => false

def beqB : List UInt8 → List UInt8 → Bool
  | [], [] => true
  | a :: l, b :: m => cond (Nat.beq a.toNat b.toNat) (beqB l m) false
  | _, _ => false
def bltB : List UInt8 → List UInt8 → Bool
  | _, [] => false
  | [], _ :: _ => true
  | a :: x, b :: y => Nat.blt a.toNat b.toNat || (Nat.beq a.toNat b.toNat && bltB x y)

def AV.undef : AV := .tup []
def AV.cells : AV → List AV
  | .agg l => l
  | v => [v]
def AV.one : AV → Bool
  | .agg _ | .tup _ => false
  | _ => true
def AV.u8 (b : UInt8) : AV := .int .u8 b.toNat

/-- A number that is none below zero. -/
def natOf : AV → Option Nat
  | .int _ (.ofNat n) => some n
  | _ => none

def getCells (h : AH) (b off n : Nat) : Option (List AV) :=
  match h.get b with
  | some (.cells l _ _) => cond (Nat.ble (off + n) l.length) (some ((l.drop off).take n)) none
  | _ => none
def getCell (h : AH) (b off : Nat) : Option AV :=
  match h.get b with
  | some (.cells l _ _) => nth l off
  | _ => none
def splice (l : List AV) (off : Nat) (vs : List AV) : List AV := l.take off ++ vs ++ l.drop (off + vs.length)
def setCells (h : AH) (b off : Nat) (vs : List AV) : Option AH :=
  match h.get b with
  | some (.cells l e false) => cond (Nat.ble (off + vs.length) l.length && vs.all AV.one) (some (h.put b (.cells (splice l off vs) e false))) none
  | _ => none

def fill (cells : List AV) : List (Nat × Nat × AV) → Option (List AV)
  | [] => some cells
  | (off, size, v) :: r =>
    let vs := v.cells
    cond (Nat.beq vs.length size && Nat.ble (off + size) cells.length) (fill (splice cells off vs) r) none

abbrev Env := Tr AV
def Od.ev (a : Env) : Od → Option AV
  | .t n => a.get n
  | .c v => some v
def evs (a : Env) : List Od → Option (List AV)
  | [] => some []
  | x :: l => match x.ev a with
    | some v => match evs a l with
      | some vs => some (v :: vs)
      | none => none
    | none => none
def evo (a : Env) : Option Od → Option (Option AV)
  | none => some none
  | some x => match x.ev a with
    | some v => some (some v)
    | none => none
def evf (a : Env) : List (Nat × Nat × Od) → Option (List (Nat × Nat × AV))
  | [] => some []
  | (i, j, x) :: l => match x.ev a with
    | some v => match evf a l with
      | some vs => some ((i, j, v) :: vs)
      | none => none
    | none => none

/-! ### operators -/
def intBin (op : BinOp) (k : IntKind) (a b : Int) : Option AV :=
  match op with
  | .add => some (.int k (wr k (a + b)))
  | .sub => some (.int k (wr k (a - b)))
  | .mul => some (.int k (wr k (a * b)))
  | .quo => cond (ieq b 0) none (some (.int k (wr k (a.tdiv b))))
  | .rem => cond (ieq b 0) none (some (.int k (norm (a.tmod b))))
  | .and => some (.int k (k.wrap (BitVec.ofInt k.bits a &&& BitVec.ofInt k.bits b).toNat))
  | .or => some (.int k (k.wrap (BitVec.ofInt k.bits a ||| BitVec.ofInt k.bits b).toNat))
  | .xor => some (.int k (k.wrap (BitVec.ofInt k.bits a ^^^ BitVec.ofInt k.bits b).toNat))
  | .eql => some (.bool (ieq a b))
  | .neq => some (.bool (!ieq a b))
  | .lss => some (.bool (ilt a b))
  | .leq => some (.bool (!ilt b a))
  | .gtr => some (.bool (ilt b a))
  | .geq => some (.bool (!ilt a b))
  | _ => none

def strBin (op : BinOp) (x y : List UInt8) : Option AV :=
  match op with
  | .add => cond (Nat.ble (x.length + y.length) 4611686018427387904) (some (.str (x ++ y))) none
  | .eql => some (.bool (beqB x y))
  | .neq => some (.bool (!beqB x y))
  | .lss => some (.bool (bltB x y))
  | .leq => some (.bool (bltB x y || beqB x y))
  | .gtr => some (.bool (!(bltB x y || beqB x y)))
  | .geq => some (.bool (!bltB x y))
  | _ => none

def eqInts : List AV → List AV → Option Bool
  | [], [] => some true
  | .int k a :: l, .int k' b :: m => cond (kbeq k k') (cond (ieq a b) (eqInts l m) (some false)) none
  | _, _ => none
def eqK : FK → AV → AV → Option Bool
  | .i, .int k a, .int k' b => cond (kbeq k k') (some (ieq a b)) none
  | .s, .str a, .str b => some (beqB a b)
  | .b, .bool a, .bool b => some (cond a b (!b))
  | .is n, .agg l, .agg m => cond (Nat.beq l.length n && Nat.beq m.length n) (eqInts l m) none
  | _, _, _ => none
/-- Is a key of the kind's form? -/
def keyFits : FK → AV → Bool
  | .is n, .agg l => Nat.beq l.length n && l.all AV.one
  | .is _, _ => false
  | _, _ => true
def eqFlat : List FK → List AV → List AV → Option Bool
  | [], [], [] => some true
  | k :: ks, a :: l, b :: m => match eqK k a b with
    | some true => eqFlat ks l m
    | some false => some false
    | none => none
  | _, _, _ => none
def eqAV (m : EqM) (x y : AV) : Option Bool :=
  match m, x, y with
  | .basic, .bool a, .bool b => some (cond a b (!b))
  | .ptr, .nilp, .nilp => some true
  | .ptr, .nilp, .ptr _ _ => some false
  | .ptr, .ptr _ _, .nilp => some false
  | .ptr, .ptr b off, .ptr b' off' => cond (Nat.beq b b') (some (Nat.beq off off')) none
  | .sl, .nils, .nils => some true
  | .sl, .nils, .slice .. => some false
  | .sl, .slice .., .nils => some false
  | .sl, .nils, .empt => some false
  | .sl, .empt, .nils => some false
  | .flat ks, .agg l, .agg l' => eqFlat ks l l'
  | _, _, _ => none

def shl (k : IntKind) (a b : Int) : Option AV := cond (ilt b 0) none (some (.int k (wr k (a * 2 ^ (min b.toNat k.bits)))))
def shr (k : IntKind) (a b : Int) : Option AV := cond (ilt b 0) none (some (.int k (norm (a.fdiv (2 ^ (min b.toNat k.bits))))))

def binAV (op : BinOp) (m : EqM) (x y : AV) : Option AV :=
  match op, x, y with
  | .shl, .int k a, .int _ b => shl k a b
  | .shr, .int k a, .int _ b => shr k a b
  | _, .int k a, .int k' b => cond (kbeq k k') (intBin op k a b) none
  | _, .str a, .str b => strBin op a b
  | .eql, x, y => match eqAV m x y with
    | some b => some (.bool b)
    | none => none
  | .neq, x, y => match eqAV m x y with
    | some b => some (.bool !b)
    | none => none
  | _, _, _ => none

def unAV (op : UnOp) (x : AV) : Option AV :=
  match op, x with
  | .neg, .int k n => some (.int k (wr k (0 - n)))
  | .xor, .int k n => some (.int k (k.wrap (BitVec.ofInt k.bits (if k.signed then -1 else k.max) ^^^ BitVec.ofInt k.bits n).toNat))
  | .not, .bool b => some (.bool !b)
  | _, _ => none

/-! ### slices -/
/-- Bounds of a slice expression: of a length, of a capacity that is known or at least the length. -/
def bound (dflt : Nat) (most : Nat) : Option AV → Option Nat
  | none => some dflt
  | some v => match natOf v with
    | some n => cond (Nat.ble n most) (some n) none
    | none => none

def slStrAV (s : List UInt8) (lo hi : Option AV) : Option AV :=
  match bound s.length s.length hi with
  | some h => match bound 0 h lo with
    | some l => some (.str ((s.drop l).take (h - l)))
    | none => none
  | none => none

/-- xs[lo:hi:mx] of a slice whose capacity is known. -/
def slKnown (b off len sz cap : Nat) (lo hi mx : Option AV) : Option AV :=
  match bound cap cap mx with
  | some m => match bound len m hi with
    | some h => match bound 0 h lo with
      | some l => some (.slice b (cond (Nat.beq m l) off (off + l * sz)) (h - l) sz (some (m - l)))
      | none => none
    | none => none
  | none => none
/-- .. is not: it is at least the length. -/
def slOpen (b off len sz : Nat) (lo hi mx : Option AV) : Option AV :=
  match mx with
  | some _ => match bound len len mx with
    | some m => match bound len m hi with
      | some h => match bound 0 h lo with
        | some l => some (.slice b (cond (Nat.beq m l) off (off + l * sz)) (h - l) sz (some (m - l)))
        | none => none
      | none => none
    | none => none
  | none => match bound len len hi with
    | some h => match bound 0 h lo with
      | some l => cond (Nat.beq l 0) (some (.slice b off h sz none)) (cond (Nat.blt l len) (some (.slice b (off + l * sz) (h - l) sz none)) (some .empt))
      | none => none
    | none => none

def zeroAt (x : Option AV) : Bool :=
  match x with
  | none => true
  | some v => match natOf v with
    | some 0 => true
    | _ => false

def slAV (sz : Nat) (x : AV) (lo hi mx : Option AV) : Option AV :=
  match x with
  | .nils => cond (zeroAt lo && zeroAt hi && zeroAt mx) (some .nils) none
  | .slice b off len sz' (some cap) => cond (Nat.beq sz sz') (slKnown b off len sz cap lo hi mx) none
  | .slice b off len sz' none => cond (Nat.beq sz sz') (slOpen b off len sz lo hi mx) none
  | .empt => cond (zeroAt lo && zeroAt hi && mx.isNone) (some .empt) none
  | _ => none

def idxNat (i : AV) (n : Nat) : Option Nat :=
  match natOf i with
  | some j => cond (Nat.blt j n) (some j) none
  | none => none

def partAV (agg : Option Nat) (l : List AV) (off : Nat) : Option AV :=
  match agg with
  | none => nth l off
  | some n => cond (Nat.ble (off + n) l.length) (some (.agg ((l.drop off).take n))) none

/-! ### what only reads -/
def evQ (o : EOp) (a : Env) (h : AH) : Option AV :=
  match o with
  | .mov x => x.ev a
  | .pick c x y => match c.ev a with
    | some (.bool true) => x.ev a
    | some (.bool false) => y.ev a
    | _ => none
  | .build zero fills => match evf a fills with
    | some fs => match fill zero fs with
      | some cs => some (.agg cs)
      | none => none
    | none => none
  | .load agg x => match x.ev a with
    | some (.ptr b off) => match agg with
      | none => getCell h b off
      | some n => match getCells h b off n with
        | some l => some (.agg l)
        | none => none
    | _ => none
  | .nilCheck x => match x.ev a with
    | some (.ptr b off) => some (.ptr b off)
    | some (.fn f u v) => some (.fn f u v)
    | some (.iface t v) => some (.iface t v)
    | some (.slice b off len sz cap) => some (.slice b off len sz cap)
    | _ => none
  | .bin op m x y => match x.ev a with
    | some u => match y.ev a with
      | some v => binAV op m u v
      | none => none
    | none => none
  | .un op x => match x.ev a with
    | some u => unAV op u
    | none => none
  | .toInt k x => match x.ev a with
    | some (.int _ n) => some (.int k (wr k n))
    | _ => none
  | .toStr x => match x.ev a with
    | some (.int _ n) => some (.str (Utf8.encode n).data.toList)
    | _ => none
  | .same x => match x.ev a with
    | some (.str s) => some (.str s)
    | _ => none
  | .b2s x => match x.ev a with
    | some .nils => some (.str [])
    | some (.slice b off len 1 _) => match getCells h b off len with
      | some l => match bytesOf l with
        | some s => some (.str s)
        | none => none
      | none => none
    | some .empt => some (.str [])
    | _ => none
  | .mkIface t x => match x.ev a with
    | some v => some (.iface t v)
    | none => none
  | .mkFunc f first caps => match evs a first with
    | some us => match evs a caps with
      | some vs => some (.fn f us vs)
      | none => none
    | none => none
  | .slStr x lo hi => match x.ev a, evo a lo, evo a hi with
    | some (.str s), some l, some u => slStrAV s l u
    | _, _, _ => none
  | .sl sz x lo hi mx => match x.ev a, evo a lo, evo a hi, evo a mx with
    | some v, some l, some u, some m => slAV sz v l u m
    | _, _, _, _ => none
  | .slArr n sz x lo hi mx => match x.ev a, evo a lo, evo a hi, evo a mx with
    | some (.ptr b off), some l, some u, some m => match getCells h b off (n * sz) with
      | some _ => slKnown b off n sz n l u m
      | none => none
    | _, _, _, _ => none
  | .fieldAddr off x => match x.ev a with
    | some (.ptr b o) => some (.ptr b (o + off))
    | _ => none
  | .field off agg x => match x.ev a with
    | some (.agg l) => partAV agg l off
    | _ => none
  | .idxArr n sz x i => match x.ev a, i.ev a with
    | some (.ptr b off), some j => match idxNat j n with
      | some k => some (.ptr b (off + k * sz))
      | none => none
    | _, _ => none
  | .idxSl sz x i => match x.ev a, i.ev a with
    | some (.slice b off len sz' _), some j => match idxNat j len with
      | some k => cond (Nat.beq sz sz') (some (.ptr b (off + k * sz))) none
      | none => none
    | _, _ => none
  | .idxAgg n sz agg x i => match x.ev a, i.ev a with
    | some (.agg l), some j => match idxNat j n with
      | some k => partAV agg l (k * sz)
      | none => none
    | _, _ => none
  | .idxStr x i => match x.ev a, i.ev a with
    | some (.str s), some j => match natOf j with
      | some k => match nth s k with
        | some b => some (.int .u8 (norm b.toNat))
        | none => none
      | none => none
    | _, _ => none
  | .lookup fk zero ok x k => match x.ev a, k.ev a with
    | some (.map b), some key => match h.get b with
      | some (.map es _) => cond (keyFits fk key) (match find fk key es with
        | some (some v) => some (cond ok (.tup [v, .bool true]) v)
        | some none => some (cond ok (.tup [zero, .bool false]) zero)
        | none => none) none
      | _ => none
    | _, _ => none
  | .tassert t zero ok x => match x.ev a with
    | some (.iface u v) => cond (Nat.beq u t) (some (cond ok (.tup [v, .bool true]) v)) (cond ok (some (.tup [zero, .bool false])) none)
    | some .nili => cond ok (some (.tup [zero, .bool false])) none
    | _ => none
  | .tassertI zero ok yes no x => match x.ev a with
    | some (.iface u v) => cond (yes.any (Nat.beq u)) (some (cond ok (.tup [.iface u v, .bool true]) (.iface u v)))
        (cond (ok && no.any (Nat.beq u)) (some (.tup [zero, .bool false])) none)
    | some .nili => cond ok (some (.tup [zero, .bool false])) none
    | _ => none
  | .isNil neg x => match x.ev a with
    | some .nili => some (.bool (!neg))
    | some (.iface _ _) => some (.bool neg)
    | _ => none
  | .extract i x => match x.ev a with
    | some (.tup l) => nth l i
    | _ => none
  | .lenS x => match x.ev a with
    | some (.str s) => some (.int .i64 s.length)
    | _ => none
  | .lenSl x => match x.ev a with
    | some (.slice _ _ len _ _) => some (.int .i64 len)
    | some .nils => some (.int .i64 0)
    | some .empt => some (.int .i64 0)
    | _ => none
  | .lenMap x => match x.ev a with
    | some (.map b) => match h.get b with
      | some (.map es _) => some (.int .i64 es.length)
      | _ => none
    | some .nilm => some (.int .i64 0)
    | _ => none
  | .lenC n => some (.int .i64 n)
  | .capSl x => match x.ev a with
    | some (.slice _ _ _ _ (some c)) => some (.int .i64 c)
    | some .nils => some (.int .i64 0)
    | _ => none
  | .minI x ys => match x.ev a, evs a ys with
    | some v, some vs => foldI (fun m n => ilt n m) v vs
    | _, _ => none
  | .maxI x ys => match x.ev a, evs a ys with
    | some v, some vs => foldI (fun m n => ilt m n) v vs
    | _, _ => none
  | .uData x => match x.ev a with
    | some .nils => some .nilp
    | some (.slice b off (_ + 1) _ _) => some (.ptr b off)
    | _ => none
  | .p2u x => match x.ev a with
    | some (.ptr b off) => match getCell h b off with
      | some _ => some (.ptr b off)
      | none => none
    | some .nilp => some .nilp
    | _ => none
  | .u2p t sz x => match x.ev a with
    | some (.ptr b 0) => match h.get b with
      | some (.cells l e _) => cond (Nat.beq e t && Nat.ble sz l.length) (some (.ptr b 0)) none
      | _ => none
    | some .nilp => some .nilp
    | _ => none
  | .idxByteStr x y => match x.ev a, y.ev a with
    | some (.str s), some (.int .u8 c) => some (.int .i64 (findB 0 c.toNat.toUInt8 s))
    | _, _ => none
  | .cntStr x y => match x.ev a, y.ev a with
    | some (.str s), some (.int .u8 c) => some (.int .i64 (.ofNat (cntB c.toNat.toUInt8 s)))
    | _, _ => none
  | _ => none
where
  bytesOf : List AV → Option (List UInt8)
    | [] => some []
    | .int .u8 (.ofNat n) :: l => cond (Nat.ble n 255) (match bytesOf l with
      | some s => some (UInt8.ofNat n :: s)
      | none => none) none
    | _ :: _ => none
  find (fk : FK) (key : AV) : List (AV × AV × Nat) → Option (Option AV)
    | [] => some none
    | (k, v, _) :: r => match eqK fk key k with
      | some true => some (some v)
      | some false => find fk key r
      | none => none
  foldI (less : Int → Int → Bool) : AV → List AV → Option AV
    | v, [] => some v
    | .int k m, .int k' n :: r => cond (kbeq k k') (foldI less (.int k (cond (less m n) n m)) r) none
    | _, _ => none
  cntB (c : UInt8) : List UInt8 → Nat
    | [] => 0
    | b :: r => cond (Nat.beq b.toNat c.toNat) (cntB c r + 1) (cntB c r)
  findB (i : Nat) (c : UInt8) : List UInt8 → Int
    | [] => -1
    | b :: r => cond (Nat.beq b.toNat c.toNat) i (findB (i + 1) c r)

/-! ### what makes or writes memory -/
def newCells (h : AH) (l : List AV) (elem : TypeId) : AV × AH := (.ptr h.next 0, h.new (.cells l elem false))

def zeros (zero : List AV) : Nat → List AV
  | 0 => []
  | n + 1 => zero ++ zeros zero n

/-- What is appended. -/
def source (h : AH) (sz : Nat) : AV → Option (Nat × List AV)
  | .nils => some (0, [])
  | .empt => some (0, [])
  | .slice b off len sz' _ => cond (Nat.beq sz sz') (match getCells h b off (len * sz) with
    | some l => some (len, l)
    | none => none) none
  | .str s => cond (Nat.beq sz 1) (some (s.length, s.map fun b => AV.u8 b)) none
  | _ => none

def most : Nat := 68719476736

def appendAV (elem : TypeId) (sz bytes : Nat) (s x : AV) (h : AH) : Option (AV × AH) :=
  match source h sz x with
  | none => none
  | some (n, new) =>
    match s with
    | .nils => cond (Nat.beq n 0) (some (.nils, h)) (cond (Nat.ble (n * bytes) most) (some (.slice h.next 0 n sz none, h.new (.cells new elem false))) none)
    | .empt => cond (Nat.beq n 0) (some (.empt, h)) none
    | .slice b off len sz' cap =>
      cond (Nat.beq sz sz')
        (match cap with
        | some c => cond (Nat.ble (len + n) c)
          (cond (Nat.beq n 0) (some (.slice b off len sz (some c), h)) (match setCells h b (off + len * sz) new with
            | some h' => some (.slice b off (len + n) sz (some c), h')
            | none => none))
          (cond (Nat.ble ((len + n) * bytes) most) (match getCells h b off (len * sz) with
            | some old => some (.slice h.next 0 (len + n) sz none, h.new (.cells (old ++ new) elem false))
            | none => none) none)
        | none => cond (Nat.beq n 0) (some (.slice b off len sz none, h))
          (cond (Nat.beq off 0 && Nat.ble ((len + n) * bytes) most) (match h.get b with
            | some (.cells l e false) => cond (Nat.ble (len * sz) l.length && Nat.beq e elem && new.all AV.one) (some (.slice h.next 0 (len + n) sz none, (h.del b).new (.cells (l.take (len * sz) ++ new) elem false))) none
            | _ => none) none))
        none
    | _ => none

def evW (o : EOp) (a : Env) (h : AH) : Option (AV × AH) :=
  match o with
  | .new elem cells => some (newCells h cells elem)
  | .box elem x => match x.ev a with
    | some v => some (newCells h v.cells elem)
    | none => none
  | .buildSlice elem sz len zero fills => match evf a fills with
    | some fs => match fill zero fs with
      | some cs => some (.slice h.next 0 len sz (some len), h.new (.cells cs elem false))
      | none => none
    | none => none
  | .store n x v => match x.ev a, v.ev a with
    | some (.ptr b off), some u => cond (Nat.beq u.cells.length n) (match setCells h b off u.cells with
      | some h' => some (.undef, h')
      | none => none) none
    | _, _ => none
  | .s2b elem x => match x.ev a with
    | some (.str s) => some (.slice h.next 0 s.length 1 none, h.new (.cells (s.map fun b => AV.u8 b) elem false))
    | _ => none
  | .ss x => match x.ev a with
    | some (.slice b off len sz cap) => match h.get b with
      | some (.cells _ _ false) => some (.slice b off len sz cap, h)
      | _ => none
    | _ => none
  | .mkMap => some (.map h.next, h.new (.map [] 0))
  | .mkSlice elem sz bytes zero l c => match l.ev a, c.ev a with
    | some u, some v => match natOf u, natOf v with
      | some n, some m => cond (Nat.ble n m && Nat.ble (m * bytes) most && Nat.ble m most) (some (.slice h.next 0 n sz (some m), h.new (.cells (zeros zero m) elem false))) none
      | _, _ => none
    | _, _ => none
  | .mapUpd fk x k v => match x.ev a, k.ev a, v.ev a with
    | some (.map b), some key, some val => match h.get b with
      | some (.map es clock) => cond (keyFits fk key) (match upd fk key val clock es with
        | some (es', grew) => some (.undef, h.put b (.map es' (cond grew (clock + 1) clock)))
        | none => none) none
      | _ => none
    | _, _, _ => none
  | .rangeS x => match x.ev a with
    | some (.str s) => some (.ptr h.next 0, h.new (.iter s 0))
    | _ => none
  | .nextS x => match x.ev a with
    | some (.ptr b 0) => match h.get b with
      | some (.iter s pos) => cond (Nat.blt pos s.length)
        (let r := Utf8.decode ⟨s.toArray⟩ pos
         some (.tup [.bool true, .int .i64 pos, .int .i32 r.1], h.put b (.iter s (pos + r.2))))
        (some (.tup [.bool false], h))
      | _ => none
    | _ => none
  | .append elem sz bytes _ s x => match s.ev a, x.ev a with
    | some u, some v => appendAV elem sz bytes u v h
    | _, _ => none
  | .grow elem sz bytes s n => match s.ev a, n.ev a with
    | some .nils, some v => match natOf v with
      | some m => cond (Nat.beq m 0) (some (.nils, h)) (cond (Nat.ble (m * bytes) most) (some (.slice h.next 0 m sz none, h.new (.cells [] elem false))) none)
      | none => none
    | _, _ => none
  | .copy sz d s => match d.ev a, s.ev a with
    | some u, some v => match source h sz v with
      | some (n, src) => match u with
        | .nils => some (.int .i64 0, h)
        | .empt => some (.int .i64 0, h)
        | .slice b off len sz' _ => cond (Nat.beq sz sz')
          (let m := min n len
           cond (Nat.beq m 0) (some (.int .i64 0, h)) (match setCells h b off (src.take (m * sz)) with
            | some h' => some (.int .i64 m, h')
            | none => none)) none
        | _ => none
      | none => none
    | _, _ => none
  | .clr sz zero x => match x.ev a with
    | some .nils => some (.undef, h)
    | some .empt => some (.undef, h)
    | some (.slice b off len sz' _) => cond (Nat.beq sz sz') (cond (Nat.beq len 0) (some (.undef, h)) (match setCells h b off (zeros zero len) with
      | some h' => some (.undef, h')
      | none => none)) none
    | _ => none
  | .uStr t x n => match x.ev a, n.ev a with
    | some p, some (.int .i64 (.ofNat 0)) => match p with
      | .nilp => some (.str [], h)
      | .ptr _ _ => some (.str [], h)
      | _ => none
    | some (.ptr b 0), some (.int .i64 (.ofNat (m + 1))) => match h.get b with
      | some (.cells l e false) => cond (Nat.ble (m + 1) l.length && Nat.beq e t && Nat.ble m most) (match evQ.bytesOf (l.take (m + 1)) with
        | some s => some (.str s, h.put b (.cells l e true))
        | none => none) none
      | _ => none
    | _, _ => none
  | .mkNoZero elem x => match x.ev a with
    | some (.int .i64 (.ofNat n)) => cond (Nat.ble n most) (some (.slice h.next 0 n 1 none, h.new (.cells [] elem false))) none
    | _ => none
  | _ => none
where
  upd (fk : FK) (key val : AV) (clock : Nat) : List (AV × AV × Nat) → Option (List (AV × AV × Nat) × Bool)
    | [] => some ([(key, val, clock)], true)
    | (k, v, b) :: r => match eqK fk key k with
      | some true => some ((key, val, b) :: r, false)
      | some false => match upd fk key val clock r with
        | some (r', g) => some ((k, v, b) :: r', g)
        | none => none
      | none => none

/-- A call: which function, of what. -/
def evC (o : EOp) (a : Env) : Option (FuncId × List AV) :=
  match o with
  | .callF f args => match evs a args with
    | some vs => some (f, vs)
    | none => none
  | .callV fn args => match fn.ev a, evs a args with
    | some (.fn f first caps), some vs => some (f, first ++ vs ++ caps)
    | _, _ => none
  | .invoke tab recv args => match recv.ev a, evs a args with
    | some (.iface t v), some vs => match tab.lookup t with
      | some f => some (f, v :: vs)
      | none => none
    | _, _ => none
  | _ => none

def EOp.isCall : EOp → Bool
  | .callF .. | .callV .. | .invoke .. => true
  | _ => false
/-- Does it leave memory alone? -/
def EOp.quiet : EOp → Bool
  | .new .. | .box .. | .buildSlice .. | .store .. | .s2b .. | .ss .. | .mkMap | .mkSlice .. | .mapUpd .. | .rangeS .. | .nextS .. | .append .. | .grow .. | .copy .. | .clr .. | .uStr .. | .mkNoZero .. => false
  | .callF .. | .callV .. | .invoke .. => false
  | _ => true

end
end Go.Ev
end PEvB
/- Running the compact code; making it of the model's. -/
section PEvC
namespace Go.Ev
noncomputable section

/-! ### running -/
inductive AX where
  | normal
  | exit (id : Nat)
  | goto (l : Nat)
  | ret

abbrev Res := Option (AX × Env × AH)
abbrev Caller := FuncId → List AV → AH → Option (AV × AH)

def putE (a : Env) (d : Option Nat) (v : AV) : Env :=
  match d with
  | some d => a.set d (some v)
  | none => a

/-- Is an operation wanted? -/
def guardE (a : Env) (g : Option (Nat × Bool)) : Option Bool :=
  match g with
  | none => some true
  | some (t, want) => match a.get t with
    | some (.bool b) => some (cond want b (!b))
    | some _ => some false
    | none => none

/-- One operation, done. -/
def evO (call : Caller) (o : EOp) (a : Env) (h : AH) : Option (AV × AH) :=
  cond o.quiet
    (match evQ o a h with
    | some v => some (v, h)
    | none => none)
    (cond o.isCall
      (match evC o a with
      | some (f, vs) => call f vs h
      | none => none)
      (evW o a h))

def evOper (call : Caller) (o : EOper) (a : Env) (h : AH) : Option (Env × AH) :=
  match guardE a o.guard with
  | some true => match evO call o.op a h with
    | some (v, h') => some (putE a o.dst v, h')
    | none => none
  | some false => some (putE a o.dst .undef, h)
  | none => none

def evOps (call : Caller) : List EOper → Env → AH → Option (Env × AH)
  | [], a, h => some (a, h)
  | o :: l, a, h => match evOper call o a h with
    | some (a', h') => evOps call l a' h'
    | none => none

def findL : EC → Nat → Option EC
  | .seq a b, l =>
    match findL a l with
    | some rest => some (.seq rest b)
    | none => findL b l
  | .label l', l => cond (Nat.beq l' l) (some .skip) none
  | _, _ => none

/-- A scope in which this is to be done. -/
def scopeRun (run : EC → Env → AH → Res) (b : EC) : Nat → EC → Env → AH → Res
  | 0, _, _, _ => none
  | n + 1, c, a, h => match run c a h with
    | some (.goto l, a', h') => match findL b l with
      | some rest => scopeRun run b n rest a' h'
      | none => some (.goto l, a', h')
    | r => r
def loopRun (run : EC → Env → AH → Res) (b : EC) : Nat → Env → AH → Res
  | 0, _, _ => none
  | n + 1, a, h => match run b a h with
    | some (.normal, a', h') => loopRun run b n a' h'
    | r => r

def evStep (n : Nat) (call : Caller) (run : EC → Env → AH → Res) (draw : List EOper → List Nat → Env → AH → Option (Env × AH)) (c : EC) (a : Env) (h : AH) : Res :=
  match c with
  | .skip => some (.normal, a, h)
  | .label _ => some (.normal, a, h)
  | .region ops => match evOps call ops a h with
    | some (a', h') => some (.normal, a', h')
    | none => none
  | .draw ops bf => match draw ops bf a h with
    | some (a', h') => some (.normal, a', h')
    | none => none
  | .seq x y => match run x a h with
    | some (.normal, a', h') => run y a' h'
    | r => r
  | .cond c x y => match c.ev a with
    | some (.bool true) => run x a h
    | some (.bool false) => run y a h
    | _ => none
  | .block id b => match run b a h with
    | some (.exit id', a', h') => cond (Nat.beq id' id) (some (.normal, a', h')) (some (.exit id', a', h'))
    | r => r
  | .loop b => loopRun run b n a h
  | .scope b => scopeRun run b n b a h
  | .exit id => some (.exit id, a, h)
  | .goto l => some (.goto l, a, h)
  | .ret => some (.ret, a, h)
  | .bad => none

def initE : Nat → List AV → Env → Env
  | _, [], a => a
  | i, v :: l, a => initE (i + 1) l (a.set i (some v))

def result1 (a : Env) (h : AH) : Nat × Option (Option Nat) → Option AV
  | (t, none) => a.get t
  | (t, some agg) => match a.get t with
    | some (.ptr b off) => match agg with
      | none => getCell h b off
      | some n => match getCells h b off n with
        | some l => some (.agg l)
        | none => none
    | _ => none
def resultsE (a : Env) (h : AH) : List (Nat × Option (Option Nat)) → Option (List AV)
  | [] => some []
  | r :: l => match result1 a h r with
    | some v => match resultsE a h l with
      | some vs => some (v :: vs)
      | none => none
    | none => none
def tupE : List AV → AV
  | [v] => v
  | l => .tup l

/-- Functions whose contracts are proved by themselves: what they do, given what calls do. -/
abbrev Ext := FuncId → Option (Caller → List AV → AH → Option (AV × AH))

def callStep (T : FuncId → Option EF) (X : Ext) (run : EC → Env → AH → Res) (call : Caller) : Caller := fun f args h =>
  match X f with
  | some c => c call args h
  | none =>
  match T f with
  | some ef => cond (Nat.ble args.length ef.ntmps)
    (match run ef.body (initE 0 args .e) h with
    | some (.normal, a, h') => match resultsE a h' ef.results with
      | some vs => some (tupE vs, h')
      | none => none
    | some (.ret, a, h') => match resultsE a h' ef.results with
      | some vs => some (tupE vs, h')
      | none => none
    | _ => none)
    none
  | none => none

def evAll (T : FuncId → Option EF) (X : Ext) (draw : Caller → List EOper → List Nat → Env → AH → Option (Env × AH)) : Nat → (EC → Env → AH → Res) × Caller
  | 0 => (fun _ _ _ => none, fun _ _ _ => none)
  | n + 1 => (evStep n (evAll T X draw n).2 (evAll T X draw n).1 (draw (evAll T X draw n).2), callStep T X (evAll T X draw n).1 (evAll T X draw n).2)

/-! ### making it -/
def absV : Nat → Value → Option AV
  | 0, _ => none
  | n + 1, v => match v with
    | .bool b => some (.bool b)
    | .int k n => some (.int k n)
    | .string s => some (.str s.data.toList)
    | .pointer none => some .nilp
    | .slice none 0 0 => some .nils
    | .map none => some .nilm
    | .nilFunc => some .nilf
    | .nilIface => some .nili
    | .iface t v => (absV n v).map (.iface t)
    | .agg cs => (cs.toList.mapM (absV n)).map .agg
    | .tuple cs => (cs.toList.mapM (absV n)).map .tup
    | _ => none

def cOd (x : Operand) : Option Od :=
  match x with
  | .tmp t => some (.t t)
  | .const v => (absV 9 v).map .c
  | .func f => some (.c (.fn f [] []))
  | .global _ => none

structure TI where
  size : Nat
  bytes : Nat
  zero : AV

def tinfo (P : Program) (t : TypeId) : Option TI := do
  let i ← P.info? t
  let z ← i.zero
  let v ← absV 9 z
  if v.cells.length = i.size then some ⟨i.size, i.bytes, v⟩ else none
def aggOf (P : Program) (t : TypeId) : Option (Option Nat) := do
  let i ← P.info? t
  match ← P.underlying t with
  | .struct _ | .array _ _ => some (some i.size)
  | _ => some none

def fkOf (P : Program) (t : TypeId) : Option FK :=
  match P.underlying t with
  | some .bool => some .b
  | some (.int _) => some .i
  | some .string => some .s
  | _ => none
/-- The kinds of a struct's fields, all simple, one cell each, in order. -/
def flatKs (P : Program) : List Field → Nat → Option (List FK)
  | [], _ => some []
  | f :: fs, i => if f.name ≠ "_" ∧ f.offset = i then (do some ((← fkOf P f.type) :: (← flatKs P fs (i + 1)))) else none
def FK.isI : FK → Bool
  | .i => true
  | _ => false
/-- .. of a map's key: simple, or a struct of numbers. -/
def mkOf (P : Program) (t : TypeId) : Option FK :=
  match fkOf P t with
  | some k => some k
  | none => match P.underlying t with
    | some (.struct fs) => if P.stoodInHeld t = false then
        match flatKs P fs.toList 0 with
        | some ks => if ks.all FK.isI then some (.is ks.length) else none
        | none => none
      else none
    | _ => none
def eqM (P : Program) (t : TypeId) : EqM :=
  match P.underlying t with
  | some .bool => .basic
  | some (.pointer e) => if P.cellsOf e ≠ 0 then .ptr else .no
  | some (.slice _) => .sl
  | some (.struct fs) =>
    if P.stoodInHeld t = false ∧ P.eqGuardType P.depth t = false then
      match flatKs P fs.toList 0 with
      | some ks => .flat ks
      | none => .no
    else .no
  | _ => .no

def cFills (sz : Nat) (l : List (Nat × Operand)) : Option (List (Nat × Nat × Od)) :=
  l.mapM fun (i, x) => do some (i * sz, sz, ← cOd x)
def cFillsS (P : Program) (fs : Array Field) (l : List (Nat × Operand)) : Option (List (Nat × Nat × Od)) :=
  l.mapM fun (i, x) => do
    let f ← fs[i]?
    some (f.offset, P.cellsOf f.type, ← cOd x)
def cOpt (x : Option Operand) : Option (Option Od) :=
  match x with
  | none => some none
  | some x => (cOd x).map some
def cArgs (l : Array Operand) : Option (List Od) := l.toList.mapM cOd

def ptrT : TypeDesc → Bool
  | .pointer _ => true
  | _ => false
/-- The function of a type's own method. -/
def methodOf (P : Program) (name : String) (t : TypeId) : Option FuncId := do
  let i ← P.info? t
  let d ← P.underlying t
  let m ← i.methods.find? (·.name == name)
  let fp ← m.func
  if m.path.toList = [] ∧ ptrT d = fp.2 then some fp.1 else none
/-- Of a method name: the functions of all types that have it as one of their own. -/
def methodTab (P : Program) (name : String) : List (TypeId × FuncId) :=
  (List.range P.types.size).filterMap fun t => (methodOf P name t).map fun f => (t, f)

def cCall (P : Program) (c : Call) : Option EOp := do
  match c.callee with
  | .value (.func f) =>
    let fn ← P.funcs[f]?
    if fn.body.isSome then
      if fn.name == "runtime.NumGoroutine" then none else
      some (.callF f (← cArgs c.args))
    else if (Extern.findNext fn).isSome then none else
      if fn.name = "internal/bytealg.IndexByteString" then
        match c.args.toList with
        | [x, y] => some (.idxByteStr (← cOd x) (← cOd y))
        | _ => none
      else if fn.name = "internal/bytealg.CountString" then
        match c.args.toList with
        | [x, y] => some (.cntStr (← cOd x) (← cOd y))
        | _ => none
      else if fn.name = "internal/abi.NoEscape" then
        match c.args.toList with
        | [x] => some (.mov (← cOd x))
        | _ => none
      else if fn.name = "internal/bytealg.MakeNoZero" then
        match c.args.toList with
        | [x] =>
          let [r] := fn.resultTypes.toList | none
          let .slice e ← P.underlying r | none
          let .int .u8 ← P.underlying e | none
          some (.mkNoZero e (← cOd x))
        | _ => none
      else none
  | .value f => some (.callV (← cOd f) (← cArgs c.args))
  | .invoke recv name => some (.invoke (methodTab P name) (← cOd recv) (← cArgs c.args))
  | .builtin b =>
    match b, c.args.toList with
    | .len, [x] =>
      match ← P.underlying (← c.argTypes[0]?) with
      | .string => some (.lenS (← cOd x))
      | .slice _ => some (.lenSl (← cOd x))
      | .map _ _ => some (.lenMap (← cOd x))
      | .array n _ => some (.lenC n)
      | .pointer p =>
        let .array n _ ← P.underlying p | none
        some (.lenC n)
      | _ => none
    | .cap, [x] =>
      match ← P.underlying (← c.argTypes[0]?) with
      | .slice _ => some (.capSl (← cOd x))
      | .array n _ => some (.lenC n)
      | _ => none
    | .append, [s, x] =>
      let .slice e ← P.underlying (← c.argTypes[0]?) | none
      let i ← tinfo P e
      match ← P.underlying (← c.argTypes[1]?) with
      | .int _ => if i.bytes = 0 then none else some (.grow e i.size i.bytes (← cOd s) (← cOd x))
      | _ => if i.bytes = 0 then none else some (.append e i.size i.bytes i.zero.cells (← cOd s) (← cOd x))
    | .copy, [d, s] =>
      let .slice e ← P.underlying (← c.argTypes[0]?) | none
      let i ← tinfo P e
      some (.copy i.size (← cOd d) (← cOd s))
    | .clear, [x] =>
      let .slice e ← P.underlying (← c.argTypes[0]?) | none
      let i ← tinfo P e
      some (.clr i.size i.zero.cells (← cOd x))
    | .min, x :: ys => some (.minI (← cOd x) (← ys.mapM cOd))
    | .max, x :: ys => some (.maxI (← cOd x) (← ys.mapM cOd))
    | .unsafeString, [x, n] =>
      let [pt, _] := c.argTypes.toList | none
      let .pointer e ← P.underlying pt | none
      if (← P.info? e).size = 1 then some (.uStr e (← cOd x) (← cOd n)) else none
    | .unsafeSliceData, [x] => some (.uData (← cOd x))
    | _, _ => none

/-- Is a method missing? -/
def lacksM (want : Array (String × TypeId)) (got : Array Method) : Bool := want.toList.any fun p => !got.any fun m => m.name == p.1 && m.sig == p.2
theorem least_none {l : List String} : Instr.least l = none ↔ l = [] := by
  cases l <;> simp [Instr.least]
theorem lacks_iff (want : Array (String × TypeId)) (got : Array Method) : lacksM want got = false ↔ Instr.missingMethod want got = none := by
  have h1 : lacksM want got = false ↔ (want.toList.filter fun (p : String × TypeId) => !got.any fun m => m.name == p.1 && m.sig == p.2) = [] := by
    constructor
    · intro h
      rw [List.filter_eq_nil_iff]
      intro p hp hc
      have : lacksM want got = true := by
        unfold lacksM
        rw [List.any_eq_true]
        exact ⟨p, hp, hc⟩
      rw [h] at this; cases this
    · intro h
      cases hl : lacksM want got with
      | false => rfl
      | true =>
        unfold lacksM at hl
        rw [List.any_eq_true] at hl
        obtain ⟨p, hp, hc⟩ := hl
        rw [List.filter_eq_nil_iff] at h
        exact absurd hc (h p hp)
  rw [h1]
  unfold Instr.missingMethod
  simp only []
  generalize (want.toList.filter fun (p : String × TypeId) => !got.any fun m => m.name == p.1 && m.sig == p.2) = l
  constructor
  · rintro rfl; rfl
  · intro h
    cases hp : (l.map (·.1)).partition (fun x => x.contains (Char.ofNat 46)) with
    | mk u e =>
      rw [hp] at h
      simp only [] at h
      have : Instr.least e = none := by
        cases hx : Instr.least e with
        | none => rfl
        | some m => rw [hx] at h; simp at h
      rw [this] at h
      have h2 : Instr.least (u.map fun id => (id.splitOn ".").getLastD id) = none := by simpa using h
      have he := least_none.1 this
      have hu := least_none.1 h2
      simp at hu
      subst he; subst hu
      rw [List.partition_eq_filter_filter] at hp
      simp only [Prod.mk.injEq] at hp
      cases l with
      | nil => rfl
      | cons p l =>
        simp at hp
        obtain ⟨⟨a, _⟩, ⟨b, _⟩⟩ := hp
        simp [a] at b

def cOp (P : Program) (o : Op) : Option EOp := do
  match o with
  | .move x | .assign x => some (.mov (← cOd x))
  | .pick c a b => some (.pick (← cOd c) (← cOd a) (← cOd b))
  | .alloc e => some (.new e (← tinfo P e).zero.cells)
  | .box e x => some (.box e (← cOd x))
  | .build t parts =>
    let i ← tinfo P t
    match ← P.underlying t with
    | .struct fs => if fs.toList.all (fun f => (P.info? f.type).isSome) then some (.build i.zero.cells (← cFillsS P fs parts.toList)) else none
    | .array _ e => some (.build i.zero.cells (← cFills (← P.info? e).size parts.toList))
    | _ => none
  | .buildSlice t len parts =>
    let .slice e ← P.underlying t | none
    let i ← tinfo P e
    if len * i.size ≤ 1000 then
      some (.buildSlice e i.size len (zeros i.zero.cells len) (← cFills i.size parts.toList))
    else none
  | .load t x => some (.load (← aggOf P t) (← cOd x))
  | .store t x v => some (.store (← P.info? t).size (← cOd x) (← cOd v))
  | .nilCheck x => some (.nilCheck (← cOd x))
  | .binOp op t x y _ => match P.underlying t with
    | some (.interface _) => (match op, y with
      | .eql, .const .nilIface => do some (.isNil false (← cOd x))
      | .neq, .const .nilIface => do some (.isNil true (← cOd x))
      | _, _ => none)
    | _ => some (.bin op (eqM P t) (← cOd x) (← cOd y))
  | .unOp op _ x => some (.un op (← cOd x))
  | .convert s d x =>
    match ← P.underlying s, ← P.underlying d with
    | .int _, .int k => some (.toInt k (← cOd x))
    | .int _, .string => some (.toStr (← cOd x))
    | .string, .string => some (.same (← cOd x))
    | .string, .slice e =>
      let .int .u8 ← P.underlying e | none
      some (.s2b e (← cOd x))
    | .slice e, .string =>
      let .int .u8 ← P.underlying e | none
      some (.b2s (← cOd x))
    | .slice _, .slice e =>
      if s == d then
        let .int .u8 ← P.underlying e | none
        some (.ss (← cOd x))
      else none
    | .pointer t, .unsafePointer => if (← P.info? t).size = 0 then none else some (.p2u (← cOd x))
    | .unsafePointer, .pointer u => if (← P.info? u).size = 0 then none else some (.u2p u (← P.info? u).size (← cOd x))
    | _, _ => none
  | .makeInterface t x =>
    match ← P.underlying t with
    | .interface _ => none
    | _ => some (.mkIface t (← cOd x))
  | .makeFunc fn first caps =>
    match fn with
    | .func f => some (.mkFunc f (← cArgs first) (← cArgs caps))
    | _ => none
  | .makeMap _ none => some .mkMap
  | .makeSlice t l c =>
    let .slice e ← P.underlying t | none
    let i ← tinfo P e
    some (.mkSlice e i.size i.bytes i.zero.cells (← cOd l) (← cOd c))
  | .slice t x lo hi mx =>
    if mx.isSome && hi.isNone then none else
    match ← P.underlying t with
    | .string => if mx.isSome then none else some (.slStr (← cOd x) (← cOpt lo) (← cOpt hi))
    | .slice e => some (.sl (← P.info? e).size (← cOd x) (← cOpt lo) (← cOpt hi) (← cOpt mx))
    | .array n e => some (.slArr n (← P.info? e).size (← cOd x) (← cOpt lo) (← cOpt hi) (← cOpt mx))
    | _ => none
  | .fieldAddr s x f =>
    let .struct fs ← P.underlying s | none
    let fd ← fs[f]?
    if (← P.info? fd.type).size = 0 then none else some (.fieldAddr fd.offset (← cOd x))
  | .field t x f =>
    let .struct fs ← P.underlying t | none
    let fd ← fs[f]?
    some (.field fd.offset (← aggOf P fd.type) (← cOd x))
  | .indexAddr t x i =>
    match ← P.underlying t with
    | .array n e => some (.idxArr n (← P.info? e).size (← cOd x) (← cOd i))
    | .slice e => some (.idxSl (← P.info? e).size (← cOd x) (← cOd i))
    | _ => none
  | .index t x i =>
    match ← P.underlying t with
    | .array n e => some (.idxAgg n (← P.info? e).size (← aggOf P e) (← cOd x) (← cOd i))
    | .string => some (.idxStr (← cOd x) (← cOd i))
    | _ => none
  | .lookup t x i ok =>
    let .map k e ← P.underlying t | none
    some (.lookup (← mkOf P k) (← tinfo P e).zero ok (← cOd x) (← cOd i))
  | .mapUpdate t m k x =>
    let .map kt _ ← P.underlying t | none
    some (.mapUpd (← mkOf P kt) (← cOd m) (← cOd k) (← cOd x))
  | .insert t m k x =>
    let .map kt _ ← P.underlying t | none
    some (.mapUpd (← mkOf P kt) (← cOd m) (← cOd k) (← cOd x))
  | .range t x =>
    let .string ← P.underlying t | none
    some (.rangeS (← cOd x))
  | .next x true => some (.nextS (← cOd x))
  | .typeAssert x _ t ok =>
    match ← P.underlying t with
    | .interface want =>
      some (.tassertI (← tinfo P t).zero ok
        ((List.range P.types.size).filter fun u => match P.info? u with
          | some i => !lacksM want i.methods
          | none => false)
        ((List.range P.types.size).filter fun u => match P.info? u with
          | some i => lacksM want i.methods
          | none => false) (← cOd x))
    | _ => some (.tassert t (← tinfo P t).zero ok (← cOd x))
  | .extract x i => some (.extract i (← cOd x))
  | .call c => cCall P c
  | _ => none

/-! ### regions that draw their order -/
def Od.tmps : Od → List Nat
  | .t n => [n]
  | .c _ => []
def odsOf : EOp → List Od
  | .mov x | .box _ x | .load _ x | .nilCheck x | .un _ x | .toInt _ x | .toStr x | .same x | .s2b _ x | .b2s x | .ss x | .mkIface _ x | .fieldAddr _ x | .field _ _ x | .clr _ _ x | .rangeS x | .nextS x | .tassert _ _ _ x | .tassertI _ _ _ _ x
  | .extract _ x | .isNil _ x | .lenS x | .lenSl x | .lenMap x | .capSl x | .uData x | .p2u x | .u2p _ _ x | .mkNoZero _ x => [x]
  | .pick c a b => [c, a, b]
  | .new .. | .mkMap | .lenC _ | .bad => []
  | .build _ fs | .buildSlice _ _ _ _ fs => fs.map (·.2.2)
  | .store _ x y | .bin _ _ x y | .idxArr _ _ x y | .idxSl _ x y | .idxAgg _ _ _ x y | .idxStr x y | .lookup _ _ _ x y | .append _ _ _ _ x y | .grow _ _ _ x y | .copy _ x y | .uStr _ x y | .idxByteStr x y | .cntStr x y | .mkSlice _ _ _ _ x y => [x, y]
  | .mkFunc _ xs ys => xs ++ ys
  | .slStr x lo hi => x :: (lo.toList ++ hi.toList)
  | .sl _ x lo hi mx | .slArr _ _ x lo hi mx => x :: (lo.toList ++ hi.toList ++ mx.toList)
  | .mapUpd _ x k v => [x, k, v]
  | .minI x ys | .maxI x ys => x :: ys
  | .callF _ xs => xs
  | .callV f xs | .invoke _ f xs => f :: xs
def looks (e : EOper) : List Nat :=
  (odsOf e.op).flatMap Od.tmps ++ (match e.guard with | some (t, _) => [t] | none => [])
def restrict (a : Env) : List Nat → Env
  | [] => .e
  | t :: l => match a.get t with
    | some v => (restrict a l).set t (some v)
    | none => restrict a l

def EOp.floats : EOp → Bool
  | .new .. | .box .. | .buildSlice .. | .s2b .. => true
  | _ => false
/-- A new block that hangs on operands alone: an address of it, or a slice of so many; what it holds. -/
def evF (o : EOp) (a : Env) : Option (Option (Nat × Nat × Option Nat) × AO) :=
  match o with
  | .new elem cells => some (none, .cells cells elem false)
  | .box elem x => match x.ev a with
    | some v => some (none, .cells v.cells elem false)
    | none => none
  | .buildSlice elem sz len zero fills => match evf a fills with
    | some fs => match fill zero fs with
      | some cs => some (some (len, sz, some len), .cells cs elem false)
      | none => none
    | none => none
  | .s2b elem x => match x.ev a with
    | some (.str s) => some (some (s.length, 1, none), .cells (s.map fun b => AV.u8 b) elem false)
    | _ => none
  | _ => none
def mkF : Option (Nat × Nat × Option Nat) → Nat → AV
  | none, b => .ptr b 0
  | some (len, sz, cap), b => .slice b 0 len sz cap

/-- What an operation of such a region read, and yielded: the block that it made; is it to be asked again? -/
structure Ent where
  r : Env
  v : AV
  f : Option AO
  chk : Bool

def lay (base : Nat) (p : Nat → Bool) (i : Nat) (f : Option AO) (h : AH) : AH :=
  match f with
  | some o => cond (p i) (h.put (base + i) o) h
  | none => h
/-- A heap with such blocks laid into it. -/
def view (base : Nat) (p : Nat → Bool) : Nat → List Ent → AH → AH
  | _, [], h => h
  | i, e :: es, h => view base p (i + 1) es (lay base p i e.f h)

structure DSt where
  a : Env
  h : AH
  ins : Nat
  louds : List Nat
  ents : List Ent
  stg : List (AH × Nat)

def without (m ins : Nat) : Nat → Bool := fun t => m.testBit t && !ins.testBit t

def drawStep (call : Caller) (base : Nat) (s : DSt) (e : EOper) (m : Nat) : Option DSt :=
  let r := restrict s.a (looks e)
  match guardE r e.guard with
  | none => none
  | some wd =>
    cond e.op.quiet
      (match cond wd (evQ e.op r (view base (without m s.ins) 0 s.ents s.h)) (some .undef) with
      | some v => some { s with a := putE s.a e.dst v, ents := s.ents ++ [⟨r, v, none, wd⟩] }
      | none => none)
      (cond e.op.floats
        (cond wd
          (match evF e.op r with
          | some (mk, o) => some { s with a := putE s.a e.dst (mkF mk (base + s.ents.length)), ents := s.ents ++ [⟨r, mkF mk (base + s.ents.length), some o, false⟩] }
          | none => none)
          (some { s with a := putE s.a e.dst .undef, ents := s.ents ++ [⟨r, .undef, none, false⟩] }))
        (cond (s.louds.all m.testBit)
          (match cond wd (evO call e.op r (view base (without m s.ins) 0 s.ents s.h)) (some (.undef, view base (without m s.ins) 0 s.ents s.h)) with
          | some (v, h') => some { a := putE s.a e.dst v, h := h', ins := m, louds := s.louds ++ [s.ents.length], ents := s.ents ++ [⟨r, v, none, false⟩], stg := s.stg ++ [(h', m)] }
          | none => none)
          none))

def drawSteps (call : Caller) (base : Nat) : List EOper → List Nat → DSt → Option DSt
  | [], _, s => some s
  | _ :: _, [], _ => none
  | e :: es, m :: ms, s => match drawStep call base s e m with
    | some s' => drawSteps call base es ms s'
    | none => none

mutual
def AV.beq : AV → AV → Bool
  | .bool a, .bool b => cond a b (!b)
  | .int k a, .int l b => kbeq k l && ieq a b
  | .str a, .str b => beqB a b
  | .nilp, .nilp => true
  | .ptr a b, .ptr c d => Nat.beq a c && Nat.beq b d
  | .nils, .nils => true
  | .slice a b c d e, .slice a' b' c' d' e' => Nat.beq a a' && Nat.beq b b' && Nat.beq c c' && Nat.beq d d' && (match e, e' with
    | none, none => true
    | some x, some y => Nat.beq x y
    | _, _ => false)
  | .empt, .empt => true
  | .nilm, .nilm => true
  | .map a, .map b => Nat.beq a b
  | .nilf, .nilf => true
  | .fn f a b, .fn f' a' b' => Nat.beq f f' && AV.beqL a a' && AV.beqL b b'
  | .nili, .nili => true
  | .iface t a, .iface u b => Nat.beq t u && AV.beq a b
  | .agg a, .agg b => AV.beqL a b
  | .tup a, .tup b => AV.beqL a b
  | _, _ => false
def AV.beqL : List AV → List AV → Bool
  | [], [] => true
  | a :: l, b :: m => AV.beq a b && AV.beqL l m
  | _, _ => false
end

/-- At each stage from one on up to another one: the same value. -/
def askAll (base : Nat) (ents : List Ent) (e : EOp) (m : Nat) (r : Env) (v : AV) : List (AH × Nat) → Bool
  | [] => true
  | (h, ins) :: l => match evQ e r (view base (without m ins) 0 ents h) with
    | some u => cond (AV.beq u v) (askAll base ents e m r v l) false
    | none => false

/-- How many of these come ahead; how many may. -/
def least (louds : List Nat) (m : Nat) : Nat := (louds.filter m.testBit).length
def greatest (louds : List Nat) (ms : List Nat) (i : Nat) : Nat := (louds.filter fun l => !(ms.getD l 0).testBit i).length

def askQ (base : Nat) (s : DSt) (ms : List Nat) : List EOper → List Nat → List Ent → Nat → Bool
  | e :: es, m :: ml, en :: ens, i =>
    cond (cond en.chk (askAll base s.ents e.op m en.r en.v ((s.stg.drop (least s.louds m)).take (greatest s.louds ms i + 1 - least s.louds m))) true)
      (askQ base s ms es ml ens (i + 1)) false
  | _, _, _, _ => true

def drawRun (call : Caller) (es : List EOper) (ms : List Nat) (a : Env) (h : AH) : Option (Env × AH) :=
  let h0 : AH := { h with next := h.next + es.length }
  match drawSteps call h.next es ms ⟨a, h0, 0, [], [], [(h0, 0)]⟩ with
  | some s => cond (askQ h.next s ms es ms s.ents 0) (some (s.a, view h.next (fun t => !s.ins.testBit t) 0 s.ents s.h)) none
  | none => none

def ancOf (acc : List Nat) : List Edge → Nat
  | [] => 0
  | e :: l => if Region.binds .any e then (2 ^ e.on ||| acc.getD e.on 0) ||| ancOf acc l else ancOf acc l
def ancs : List Oper → List Nat → List Nat
  | [], acc => acc
  | o :: l, acc => ancs l (acc ++ [ancOf acc o.after.toList])

def edgesB : List Oper → Nat → Bool
  | [], _ => true
  | o :: l, i => o.after.all (fun e => !Region.binds .any e || decide (e.on < i)) && edgesB l (i + 1)

def touches (d : Option Nat) (l : List Nat) : Bool :=
  match d with
  | some d => l.any (Nat.beq d)
  | none => false
def apart2 (x y : EOper) : Bool :=
  !touches x.dst (looks y) && !touches y.dst (looks x) && (match x.dst, y.dst with
    | some d, some e => !Nat.beq d e
    | _, _ => true)
def apartR (x : EOper) (i : Nat) : List EOper → List Nat → Bool
  | y :: es, m :: ms => (m.testBit i || apart2 x y) && apartR x i es ms
  | _, _ => true
def apartB : List EOper → List Nat → Nat → Bool
  | x :: es, _ :: ms, i => apartR x i es ms && apartB es ms (i + 1)
  | _, _, _ => true

def cDst (N : Nat) (d : Option Tmp) : Option Nat :=
  match d with
  | some d => if d < N then some d else none
  | none => none

def cOper (P : Program) (N : Nat) (ops : Array Oper) (o : Oper) : EOper :=
  match o.guard with
  | none => { dst := cDst N o.dst, op := (cOp P o.op).getD .bad, guard := none }
  | some (g, b) => match (ops[g]?).bind (·.dst) with
    | some t => { dst := cDst N o.dst, op := (cOp P o.op).getD .bad, guard := some (t, b) }
    | none => { dst := none, op := .bad, guard := none }

def comp (P : Program) (N : Nat) : Code → EC
  | .skip => .skip
  | .region _ ops d => cond d
    (cond (edgesB ops.toList 0 && apartB (ops.toList.map (cOper P N ops)) (ancs ops.toList []) 0) (.draw (ops.toList.map (cOper P N ops)) (ancs ops.toList [])) .bad)
    (.region (ops.toList.map (cOper P N ops)))
  | .seq a b => .seq (comp P N a) (comp P N b)
  | .cond c a b => match cOd c with
    | some x => .cond x (comp P N a) (comp P N b)
    | none => .bad
  | .block id b => .block id (comp P N b)
  | .loop b => .loop (comp P N b)
  | .scope b => .scope (comp P N b)
  | .exit id => .exit id
  | .label l => .label l
  | .goto l => .goto l
  | .ret => .ret
  | .rangeFunc .. => .bad
  | .refuse _ => .bad

def cRes (P : Program) (r : ResultVar) : Option (Nat × Option (Option Nat)) :=
  match r with
  | .tmp t => some (t, none)
  | .cell a t => (aggOf P t).map fun x => (a, some x)

def compF (P : Program) (f : Func) : Option EF :=
  match f.body, f.results.toList.mapM (cRes P) with
  | some b, some rs => if f.name = "runtime.NumGoroutine" then none else some { ntmps := f.ntmps, body := comp P f.ntmps b, results := rs }
  | _, _ => none

end
end Go.Ev
end PEvC
/- What only reads is sound: first part. -/
section PEvS1
namespace Go.Ev
variable {P : Program} {g : Gh} {h : AH} {w : World}

/-! ### the model's small words -/
theorem run_typeInfo {t : TypeId} {i : TypeInfo} (e : P.info? t = some i) (w : World) : (typeInfo t).run P w = .ok i w := by
  simp [typeInfo, e]
theorem run_underlying {t : TypeId} {d : TypeDesc} (e : P.underlying t = some d) (w : World) : (underlying t).run P w = .ok d w := by
  simp [underlying, e]
theorem run_sizeOf {t : TypeId} {i : TypeInfo} (e : P.info? t = some i) (w : World) : (sizeOf t).run P w = .ok i.size w := by
  simp [sizeOf, run_typeInfo e]
theorem run_zeroValue {t : TypeId} {i : TypeInfo} {z : Value} (e : P.info? t = some i) (ez : i.zero = some z) (w : World) : (zeroValue t).run P w = .ok z w := by
  simp [zeroValue, run_typeInfo e, ez]
theorem run_isAgg_no {t : TypeId} (e : aggOf P t = some none) (w : World) : (isAgg t).run P w = .ok false w := by
  simp only [aggOf, Option.bind_eq_bind, Option.bind_eq_some_iff] at e
  obtain ⟨i, hi, d, hd, e⟩ := e
  simp only [isAgg, Sem.run_bind, run_underlying hd, Result.andThen_ok]
  cases d <;> first | rfl | simp at e
theorem run_isAgg_yes {t : TypeId} {n : Nat} (e : aggOf P t = some (some n)) (w : World) : (isAgg t).run P w = .ok true w ∧ (sizeOf t).run P w = .ok n w := by
  simp only [aggOf, Option.bind_eq_bind, Option.bind_eq_some_iff] at e
  obtain ⟨i, hi, d, hd, e⟩ := e
  refine ⟨?_, ?_⟩
  · simp only [isAgg, Sem.run_bind, run_underlying hd, Result.andThen_ok]
    cases d <;> first | rfl | simp at e
  · cases d <;> simp at e <;> simp [run_sizeOf hi, e]

theorem value_cells_agg (l : List Value) : (Value.agg l.toArray).cells = l.toArray := rfl

/-! ### values -/
theorem nth_eq {α : Type} : ∀ (l : List α) (n : Nat), nth l n = l[n]?
  | [], n => by simp [nth]
  | x :: l, 0 => by simp [nth]
  | x :: l, n + 1 => by simp [nth, nth_eq l n]

theorem VR.cells {a : AV} {v : Value} (hv : VR g a v) : VRL g a.cells v.cells.toList := by
  cases a <;> simp only [AV.cells] <;> first
    | (rw [VR] at hv; obtain ⟨vs, rfl, hl⟩ := hv; simpa [Value.cells] using hl)
    | (refine ⟨v, [], ?_, hv, rfl⟩
       rw [VR] at hv
       first
         | (subst hv; rfl)
         | (obtain ⟨x, n, _, rfl⟩ := hv; rfl)
         | (obtain ⟨x, n, c, _, rfl, _⟩ := hv; rfl)
         | (obtain ⟨x, n, rfl⟩ := hv; rfl)
         | (obtain ⟨x, n, rfl, _⟩ := hv; rfl)
         | (obtain ⟨x, rfl, _⟩ := hv; rfl))

theorem VR.one {a : AV} {v : Value} (hv : VR g a v) (h1 : a.one = true) : v.oneCell' = true := by
  cases a <;> simp only [AV.one] at h1 <;> (try (cases h1; done)) <;> rw [VR] at hv <;> first
    | (subst hv; rfl)
    | (obtain ⟨x, n, _, rfl⟩ := hv; rfl)
    | (obtain ⟨x, n, c, _, rfl, _⟩ := hv; rfl)
    | (obtain ⟨x, n, rfl⟩ := hv; rfl)
    | (obtain ⟨x, n, rfl, _⟩ := hv; rfl)
    | (obtain ⟨x, rfl, _⟩ := hv; rfl)

theorem VRL.mapM {n : Nat} (ih : ∀ {v : Value} {a : AV}, absV n v = some a → VR g a v) : ∀ {l : List Value} {as : List AV}, l.mapM (absV n) = some as → VRL g as l
  | [], as, e => by simp at e; subst e; rfl
  | v :: l, as, e => by
    simp only [List.mapM_cons, Option.bind_eq_bind, Option.bind_eq_some_iff, Option.pure_def, Option.some.injEq] at e
    obtain ⟨a, ha, as', hl, rfl⟩ := e
    exact ⟨v, l, rfl, ih ha, VRL.mapM ih hl⟩

theorem absV_sound : ∀ (n : Nat) {v : Value} {a : AV}, absV n v = some a → VR g a v
  | 0, _, _, e => by simp [absV] at e
  | n + 1, v, a, e => by
    unfold absV at e
    split at e
    · simp at e; subst e; rfl
    · simp at e; subst e; rfl
    · simp at e; subst e; simp [VR]
    · simp at e; subst e; rfl
    · simp at e; subst e; rfl
    · simp at e; subst e; rfl
    · simp at e; subst e; rfl
    · simp at e; subst e; rfl
    · simp only [Option.map_eq_some_iff] at e
      obtain ⟨b, hb, rfl⟩ := e
      exact ⟨_, rfl, absV_sound n hb⟩
    · simp only [Option.map_eq_some_iff] at e
      obtain ⟨l, hl, rfl⟩ := e
      exact ⟨_, by simp, VRL.mapM (absV_sound n) hl⟩
    · simp only [Option.map_eq_some_iff] at e
      obtain ⟨l, hl, rfl⟩ := e
      exact ⟨_, by simp, VRL.mapM (absV_sound n) hl⟩
    · simp at e

/-- The slots against the model's. -/
def AR (g : Gh) (a : Env) (ac : Act) : Prop := ∀ t v, a.get t = some v → ∃ vc, ac.tmps[t]? = some vc ∧ VR g v vc

theorem od_sound {a : Env} {ac : Act} (ha : AR g a ac) {x : Operand} {od : Od} {v : AV} (hc : cOd x = some od) (he : od.ev a = some v) : VR g v (ac.eval x) := by
  cases x with
  | tmp t =>
    simp [cOd] at hc; subst hc
    obtain ⟨vc, h1, h2⟩ := ha t v he
    simp [Act.eval, Array.getD_eq_getD_getElem?, h1, h2]
  | const c =>
    simp only [cOd, Option.map_eq_some_iff] at hc
    obtain ⟨b, hb, rfl⟩ := hc
    simp [Od.ev] at he; subst he
    exact absV_sound 9 hb
  | global _ => simp [cOd] at hc
  | func f =>
    simp [cOd] at hc; subst hc
    simp [Od.ev] at he; subst he
    exact ⟨[], [], rfl, rfl, rfl⟩

theorem evs_sound {a : Env} {ac : Act} (ha : AR g a ac) : ∀ {xs : List Operand} {ods : List Od} {vs : List AV}, xs.mapM cOd = some ods → evs a ods = some vs → VRL g vs (xs.map ac.eval)
  | [], ods, vs, hc, he => by simp at hc; subst hc; simp [evs] at he; subst he; rfl
  | x :: xs, ods, vs, hc, he => by
    simp only [List.mapM_cons, Option.bind_eq_bind, Option.bind_eq_some_iff, Option.pure_def, Option.some.injEq] at hc
    obtain ⟨o, ho, os, hos, rfl⟩ := hc
    simp only [evs] at he
    split at he
    · rename_i v hv
      split at he
      · rename_i us hus
        simp at he; subst he
        exact ⟨_, _, rfl, od_sound ha ho hv, evs_sound ha hos hus⟩
      · simp at he
    · simp at he

theorem evo_sound {a : Env} {ac : Act} (ha : AR g a ac) {x : Option Operand} {od : Option Od} {v : Option AV} (hc : cOpt x = some od) (he : evo a od = some v) :
    (x = none ∧ v = none) ∨ ∃ y u, x = some y ∧ v = some u ∧ VR g u (ac.eval y) := by
  cases x with
  | none => simp [cOpt] at hc; subst hc; simp [evo] at he; exact .inl ⟨rfl, he.symm⟩
  | some y =>
    simp only [cOpt, Option.map_eq_some_iff] at hc
    obtain ⟨o, ho, rfl⟩ := hc
    simp only [evo] at he
    split at he
    · rename_i u hu
      simp at he; subst he
      exact .inr ⟨y, u, rfl, rfl, od_sound ha ho hu⟩
    · simp at he

/-! ### cells -/
theorem Sim.cells_at (s : Sim g h w) {b x n : Nat} {l : List AV} {e : TypeId} {fz : Bool} (hb : h.get b = some (.cells l e fz)) (hx : g.φ b = some (x, n)) :
    ∃ vs rest lo hi, w.heap[x]? = some (.cells (vs ++ rest).toArray e (lo, hi)) ∧ VRL g l vs ∧ (vs ++ rest).length = n ∧ (fz = false → lo = hi ∨ n ≤ lo) := by
  obtain ⟨x', n', ob, h1, h2, h3⟩ := s.obj _ _ hb
  rw [hx] at h1
  simp at h1
  obtain ⟨rfl, rfl⟩ := h1
  obtain ⟨vs, rest, lo, hi, rfl, h4, h5, h6⟩ := h3
  exact ⟨vs, rest, lo, hi, h2, h4, h5, h6⟩

theorem Sim.cell_at (s : Sim g h w) {b x n off : Nat} {v : AV} (hx : g.φ b = some (x, n)) (he : getCell h b off = some v) :
    ∃ vc, w.cell? ⟨x, off, none⟩ = some vc ∧ VR g v vc := by
  unfold getCell at he
  split at he
  · rename_i l e fz hb
    obtain ⟨vs, rest, lo, hi, h1, h2, _, _⟩ := s.cells_at hb hx
    rw [nth_eq] at he
    obtain ⟨vc, h3, h4⟩ := h2.get he
    refine ⟨vc, ?_, h4⟩
    have hl : off < vs.length := by
      rcases Nat.lt_or_ge off vs.length with h | h
      · exact h
      · rw [List.getElem?_eq_none h] at h3; simp at h3
    simp [World.cell?, h1, List.getElem?_append_left hl, h3]
  · simp at he

theorem Sim.cells_of (s : Sim g h w) {b x n off k : Nat} {l : List AV} (hx : g.φ b = some (x, n)) (he : getCells h b off k = some l) :
    ∃ vs, VRL g l vs ∧ vs.length = k ∧ ∀ j v, vs[j]? = some v → w.cell? (Addr.add ⟨x, off, none⟩ j) = some v := by
  unfold getCells at he
  split at he
  · rename_i l' e fz hb
    obtain ⟨vs, rest, lo, hi, h1, h2, _, _⟩ := s.cells_at hb hx
    cases hle : Nat.ble (off + k) l'.length with
    | false => simp [hle] at he
    | true =>
      simp [hle] at he
      have hle' : off + k ≤ l'.length := by simpa using hle
      have hlen := h2.length
      refine ⟨(vs.drop off).take k, ?_, by simp; omega, ?_⟩
      · rw [← he]; exact (h2.drop off).take k
      · intro j v hj
        have hjk : j < k := by
          rcases Nat.lt_or_ge j k with h | h
          · exact h
          · rw [List.getElem?_eq_none (by simp; omega)] at hj; simp at hj
        have hj' : vs[off + j]? = some v := by
          rw [List.getElem?_take_of_lt hjk, List.getElem?_drop] at hj; exact hj
        have hadd : Addr.add ⟨x, off, none⟩ j = ⟨x, off + j, none⟩ := by
          unfold Addr.add; split <;> simp_all
        rw [hadd]
        have hl : off + j < vs.length := by omega
        simp [World.cell?, h1, List.getElem?_append_left hl, hj']
  · simp at he

theorem run_loadCells_of (P : Program) {w : World} {a : Addr} {vs : List Value} {k : Nat} (hk : vs.length = k) (hc : ∀ j v, vs[j]? = some v → w.cell? (a.add j) = some v) :
    (loadCells a k).run P w = .ok vs.toArray w := by
  subst hk; exact run_loadCells_list w a vs hc

theorem addr_add (x off n : Nat) : Addr.add ⟨x, off, none⟩ n = ⟨x, off + n, none⟩ := by
  unfold Addr.add; split <;> simp_all

/-- What it says of an operation that leaves memory alone. -/
def QOK (P : Program) (o : Oper) (e : EOp) : Prop :=
  ∀ (g : Gh) (h : AH) (w : World) (a : Env) (ac : Act) (v : AV), Sim g h w → AR g a ac → evQ e a h = some v → ∃ vc, VR g v vc ∧ (execOp ac.eval o).run P w = .ok (.value vc) w

theorem q_mov {o : Oper} {x : Operand} {od : Od} (ho : o.op = .move x ∨ o.op = .assign x) (hc : cOd x = some od) : QOK P o (.mov od) := by
  intro g h w a ac v s ha he
  refine ⟨_, od_sound ha hc he, ?_⟩
  rcases ho with ho | ho <;> simp [execOp, ho]

theorem q_pick {o : Oper} {c x y : Operand} {c' x' y' : Od} (ho : o.op = .pick c x y) (hc : cOd c = some c') (hx : cOd x = some x') (hy : cOd y = some y') : QOK P o (.pick c' x' y') := by
  intro g h w a ac v s ha he
  simp only [evQ] at he
  split at he
  · rename_i hb
    have h1 := od_sound ha hc hb
    rw [VR] at h1
    refine ⟨_, od_sound ha hx he, ?_⟩
    simp [execOp, ho, h1, asBool]
  · rename_i hb
    have h1 := od_sound ha hc hb
    rw [VR] at h1
    refine ⟨_, od_sound ha hy he, ?_⟩
    simp [execOp, ho, h1, asBool]
  · simp at he

theorem q_load {o : Oper} {t : TypeId} {x : Operand} {x' : Od} {agg : Option Nat} (ho : o.op = .load t x) (hc : cOd x = some x') (ht : aggOf P t = some agg) : QOK P o (.load agg x') := by
  intro g h w a ac v s ha he
  simp only [evQ] at he
  split at he
  · rename_i b off hb
    obtain ⟨bx, n, hφ, h1⟩ := od_sound ha hc hb
    split at he
    · obtain ⟨vc, h2, h3⟩ := s.cell_at hφ he
      refine ⟨vc, h3, ?_⟩
      simp [execOp, ho, h1, Instr.loadAt, Instr.sureAddr, loadVar, run_isAgg_no ht, h2]
    · rename_i n'
      split at he
      · rename_i l hl
        simp at he; subst he
        obtain ⟨vs, h2, h3, h4⟩ := s.cells_of hφ hl
        obtain ⟨e1, e2⟩ := run_isAgg_yes ht w
        refine ⟨.agg vs.toArray, ⟨vs, rfl, h2⟩, ?_⟩
        simp [execOp, ho, h1, Instr.loadAt, Instr.sureAddr, loadVar, e1, e2, run_loadCells_of P h3 h4]
      · simp at he
  · simp at he

theorem q_nilCheck {o : Oper} {x : Operand} {x' : Od} (ho : o.op = .nilCheck x) (hc : cOd x = some x') : QOK P o (.nilCheck x') := by
  intro g h w a ac v s ha he
  simp only [evQ] at he
  split at he
  all_goals first
    | (simp at he; done)
    | (rename_i hb
       have h1 := od_sound ha hc hb
       simp at he; subst he
       refine ⟨_, h1, ?_⟩
       rw [VR] at h1
       first
         | (obtain ⟨x, n, _, e⟩ := h1; simp [execOp, ho, e]; done)
         | (obtain ⟨vs, ws, e, _⟩ := h1; simp [execOp, ho, e]; done)
         | (obtain ⟨u, e, _⟩ := h1; simp [execOp, ho, e]; done)
         | (obtain ⟨x, n, c, _, e, _⟩ := h1; simp [execOp, ho, e]; done))

end Go.Ev
end PEvS1
/- What only reads is sound: structs made, operators, conversions. -/
section PEvS2
namespace Go.Ev
variable {P : Program} {g : Gh} {h : AH} {w : World}

/-! ### a struct made of parts -/
theorem fold_set (off : Nat) : ∀ (vs : List Value) (k : Nat) (cs : Array Value),
    ((vs.zipIdx k).foldl (fun (cs : Array Value) (x : Value × Nat) => cs.setIfInBounds (off + x.2) x.1) cs).toList = cs.toList.take (off + k) ++ vs.take (cs.size - (off + k)) ++ cs.toList.drop (off + k + vs.length)
  | [], k, cs => by simp
  | v :: vs, k, cs => by
    have ih := fold_set off vs (k + 1) (cs.setIfInBounds (off + k) v)
    simp only [List.zipIdx_cons, List.foldl_cons, List.length_cons]
    rw [ih]
    by_cases hk : off + k < cs.size
    · have e1 : (cs.setIfInBounds (off + k) v).toList = cs.toList.set (off + k) v := by simp
      have e2 : (cs.setIfInBounds (off + k) v).size = cs.size := by simp
      rw [e1, e2]
      have h1 : (cs.toList.set (off + k) v).take (off + (k + 1)) = cs.toList.take (off + k) ++ [v] := by
        rw [show off + (k + 1) = (off + k) + 1 by omega, List.take_succ_eq_append_getElem (by simpa using hk)]
        simp [List.take_set_of_le]
      have h2 : (cs.toList.set (off + k) v).drop (off + (k + 1) + vs.length) = cs.toList.drop (off + k + (vs.length + 1)) := by
        rw [List.drop_set_of_lt (by omega)]
        congr 1; omega
      rw [h1, h2, show cs.size - (off + k) = (cs.size - (off + (k + 1))) + 1 by omega, List.take_succ_cons]
      simp
    · have e1 : cs.setIfInBounds (off + k) v = cs := by
        apply Array.ext'; simp; exact List.set_eq_of_length_le (by simpa using Nat.le_of_not_lt hk)
      rw [e1, show cs.size - (off + (k + 1)) = 0 by omega, show cs.size - (off + k) = 0 by omega]
      simp only [List.take_zero, List.append_nil]
      rw [List.take_of_length_le (by simp; omega), List.take_of_length_le (by simp; omega), List.drop_of_length_le (by simp; omega), List.drop_of_length_le (by simp; omega)]

theorem fold_set' (off : Nat) (v : Value) (cs : Array Value) (hle : off + v.cells.size ≤ cs.size) :
    (v.cells.zipIdx.foldl (fun (cs : Array Value) (x : Value × Nat) => cs.setIfInBounds (off + x.2) x.1) cs).toList = cs.toList.take off ++ v.cells.toList ++ cs.toList.drop (off + v.cells.size) := by
  have h1 := fold_set off v.cells.toList 0 cs
  rw [← Array.foldl_toList, Array.toList_zipIdx]
  rw [h1]
  simp only [Nat.add_zero, Array.length_toList]
  rw [List.take_of_length_le (l := v.cells.toList) (by simp; omega)]

theorem VRL.splice {l vs : List AV} {ul uv : List Value} (off : Nat) (h1 : VRL g l ul) (h2 : VRL g vs uv) :
    VRL g (splice l off vs) (ul.take off ++ uv ++ ul.drop (off + uv.length)) := by
  unfold Ev.splice
  rw [h2.length]
  exact ((h1.take off).append h2).append (h1.drop _)

theorem fill_sound {place : Nat → Option (Nat × Nat)} : ∀ {fs : List (Nat × Nat × AV)} {ps : List (Nat × Value)} {l : List AV} {cs : Array Value} {r : List AV},
    (∀ (i : Nat) (f : Nat × Nat × AV), fs[i]? = some f → ∃ p, ps[i]? = some p ∧ place p.1 = some (f.1, f.2.1) ∧ VR g f.2.2 p.2) → ps.length = fs.length →
    VRL g l cs.toList → fill l fs = some r → ∃ cs', Instr.fill place cs ps = some cs' ∧ VRL g r cs'.toList
  | [], ps, l, cs, r, _, hl, h1, h2 => by
    simp [fill] at h2; subst h2
    cases ps with
    | nil => exact ⟨cs, rfl, h1⟩
    | cons _ _ => simp at hl
  | (off, size, v) :: fs, ps, l, cs, r, hp, hl, h1, h2 => by
    cases ps with
    | nil => simp at hl
    | cons p ps =>
      obtain ⟨p', hp', hpl, hv⟩ := hp 0 _ rfl
      simp at hp'; subst hp'
      obtain ⟨pi, pv⟩ := p
      simp only at hpl hv
      simp only [fill] at h2
      cases hb : (Nat.beq v.cells.length size && Nat.ble (off + size) l.length) with
      | false => simp [hb] at h2
      | true =>
        simp only [hb, cond_true] at h2
        simp only [Bool.and_eq_true, Nat.beq_eq, Nat.ble_eq] at hb
        have hcl := hv.cells.length
        have hll := h1.length
        simp only [Array.length_toList] at hcl hll
        have hsz : pv.cells.size = size := by omega
        have hle : off + pv.cells.size ≤ cs.size := by omega
        obtain ⟨cs', e1, e2⟩ := fill_sound (cs := pv.cells.zipIdx.foldl (fun (cs : Array Value) (x : Value × Nat) => cs.setIfInBounds (off + x.2) x.1) cs) (ps := ps)
          (fun i f hf => hp (i + 1) f (by simpa using hf)) (by simpa using hl)
          (by rw [fold_set' off pv cs hle, ← Array.length_toList (xs := pv.cells)]; exact h1.splice off hv.cells) h2
        refine ⟨cs', ?_, e2⟩
        simp only [Instr.fill, hpl]
        rw [if_neg (by simp [hsz]; omega)]
        exact e1

theorem cFills_sound {a : Env} {ac : Act} (ha : AR g a ac) {sz : Nat} : ∀ {l : List (Nat × Operand)} {fl : List (Nat × Nat × Od)} {fs : List (Nat × Nat × AV)},
    cFills sz l = some fl → evf a fl = some fs → (l.map fun (i, x) => (i, ac.eval x)).length = fs.length ∧
      ∀ (i : Nat) (f : Nat × Nat × AV), fs[i]? = some f → ∃ p, (l.map fun (i, x) => (i, ac.eval x))[i]? = some p ∧ some (p.1 * sz, sz) = some (f.1, f.2.1) ∧ VR g f.2.2 p.2
  | [], fl, fs, hc, he => by simp [cFills] at hc; subst hc; simp [evf] at he; subst he; simp
  | (i, x) :: l, fl, fs, hc, he => by
    simp only [cFills, List.mapM_cons, Option.bind_eq_bind, Option.bind_eq_some_iff, Option.pure_def, Option.some.injEq] at hc
    obtain ⟨o, ⟨od, ho, rfl⟩, os, hos, rfl⟩ := hc
    simp only [evf] at he
    split at he
    · rename_i v hv
      split at he
      · rename_i vs hvs
        simp at he; subst he
        obtain ⟨h1, h2⟩ := cFills_sound ha (l := l) (by simpa [cFills] using hos) hvs
        refine ⟨by simpa using h1, fun j f hf => ?_⟩
        cases j with
        | zero => simp at hf; subst hf; exact ⟨_, rfl, rfl, od_sound ha ho hv⟩
        | succ j => simp at hf; obtain ⟨p, hp, hr⟩ := h2 j f hf; exact ⟨p, by simpa using hp, hr⟩
      · simp at he
    · simp at he

theorem cFillsS_sound {a : Env} {ac : Act} (ha : AR g a ac) {F : Array Field} : ∀ {l : List (Nat × Operand)} {fl : List (Nat × Nat × Od)} {fs : List (Nat × Nat × AV)},
    cFillsS P F l = some fl → evf a fl = some fs → (l.map fun (i, x) => (i, ac.eval x)).length = fs.length ∧
      ∀ (i : Nat) (f : Nat × Nat × AV), fs[i]? = some f → ∃ p, (l.map fun (i, x) => (i, ac.eval x))[i]? = some p ∧ (F.map fun f => (f.offset, P.cellsOf f.type))[p.1]? = some (f.1, f.2.1) ∧ VR g f.2.2 p.2
  | [], fl, fs, hc, he => by simp [cFillsS] at hc; subst hc; simp [evf] at he; subst he; simp
  | (i, x) :: l, fl, fs, hc, he => by
    simp only [cFillsS, List.mapM_cons, Option.bind_eq_bind, Option.bind_eq_some_iff, Option.pure_def, Option.some.injEq] at hc
    obtain ⟨o, ⟨fd, hfd, od, ho, rfl⟩, os, hos, rfl⟩ := hc
    simp only [evf] at he
    split at he
    · rename_i v hv
      split at he
      · rename_i vs hvs
        simp at he; subst he
        obtain ⟨h1, h2⟩ := cFillsS_sound ha (F := F) (l := l) (by simpa [cFillsS] using hos) hvs
        refine ⟨by simpa using h1, fun j f hf => ?_⟩
        cases j with
        | zero => simp at hf; subst hf; exact ⟨_, rfl, by simp [hfd], od_sound ha ho hv⟩
        | succ j => simp at hf; obtain ⟨p, hp, hr⟩ := h2 j f hf; exact ⟨p, by simpa using hp, hr⟩
      · simp at he
    · simp at he

theorem run_mapM_list {α β : Type} (P : Program) (w : World) (f : α → Sem β) (f' : α → β) : ∀ (l : List α), (∀ x ∈ l, (f x).run P w = .ok (f' x) w) → (l.mapM f).run P w = .ok (l.map f') w
  | [], _ => by simp
  | x :: l, h => by
    have h1 := h x (by simp)
    have ih := run_mapM_list P w f f' l (fun y hy => h y (by simp [hy]))
    simp [List.mapM_cons, h1, ih]
theorem run_mapM_array {α β : Type} (P : Program) (w : World) (f : α → Sem β) (f' : α → β) (l : Array α) (h : ∀ x ∈ l.toList, (f x).run P w = .ok (f' x) w) : (l.mapM f).run P w = .ok (l.map f') w := by
  rw [Array.mapM_eq_mapM_toList]
  simp only [Sem.run_map, run_mapM_list P w f f' l.toList h, Result.andThen_ok]
  congr 1
  apply Array.ext'; simp

theorem tinfo_some {t : TypeId} {i : TI} (ht : tinfo P t = some i) : ∃ ti z, P.info? t = some ti ∧ ti.zero = some z ∧ ti.size = i.size ∧ ti.bytes = i.bytes ∧ absV 9 z = some i.zero ∧ i.zero.cells.length = i.size := by
  simp only [tinfo, Option.bind_eq_bind, Option.bind_eq_some_iff] at ht
  obtain ⟨ti, h1, z, h2, v, h3, h4⟩ := ht
  split at h4
  · rename_i hl
    simp at h4; subst h4
    exact ⟨ti, z, h1, h2, rfl, rfl, h3, hl⟩
  · simp at h4

theorem q_buildS {o : Oper} {t : TypeId} {parts : Array (Nat × Operand)} {i : TI} {F : Array Field} {fl : List (Nat × Nat × Od)} (ho : o.op = .build t parts) (ht : tinfo P t = some i)
    (hu : P.underlying t = some (.struct F)) (hF : F.toList.all (fun f => (P.info? f.type).isSome) = true) (hc : cFillsS P F parts.toList = some fl) : QOK P o (.build i.zero.cells fl) := by
  intro g h w a ac v s ha he
  simp only [evQ] at he
  split at he
  · rename_i fs hfs
    split at he
    · rename_i cs hcs
      simp at he; subst he
      obtain ⟨ti, z, h1, h2, h3, _, h4, _⟩ := tinfo_some ht
      obtain ⟨hl, hp⟩ := cFillsS_sound ha hc hfs
      have hz : VRL g i.zero.cells z.cells.toList := (absV_sound 9 h4).cells
      obtain ⟨cs', e1, e2⟩ := fill_sound (ps := parts.toList.map fun (i, x) => (i, ac.eval x)) hp hl hz hcs
      refine ⟨.agg cs', ⟨cs'.toList, by simp, e2⟩, ?_⟩
      have hm : (F.mapM fun f => do pure (f.offset, ← sizeOf f.type) : Sem _).run P w = .ok (F.map fun f => (f.offset, P.cellsOf f.type)) w := by
        apply run_mapM_array
        intro f hf
        have := List.all_eq_true.1 hF f hf
        obtain ⟨fi, hfi⟩ := Option.isSome_iff_exists.1 this
        simp [run_sizeOf hfi, Program.cellsOf, hfi]
      have e1' : Instr.fill (fun i => (F.map fun f => (f.offset, P.cellsOf f.type))[i]?) z.cells (parts.map fun (i, x) => (i, ac.eval x)).toList = some cs' := by
        rw [Array.toList_map]; exact e1
      simp only [execOp, ho, Instr.build, Sem.run_bind, run_zeroValue h1 h2, Result.andThen_ok, run_underlying hu, hm, e1', Sem.run_pure]
    · simp at he
  · simp at he

theorem q_buildA {o : Oper} {t e : TypeId} {n : Nat} {parts : Array (Nat × Operand)} {i : TI} {ei : TypeInfo} {fl : List (Nat × Nat × Od)} (ho : o.op = .build t parts) (ht : tinfo P t = some i)
    (hu : P.underlying t = some (.array n e)) (hei : P.info? e = some ei) (hc : cFills ei.size parts.toList = some fl) : QOK P o (.build i.zero.cells fl) := by
  intro g h w a ac v s ha he
  simp only [evQ] at he
  split at he
  · rename_i fs hfs
    split at he
    · rename_i cs hcs
      simp at he; subst he
      obtain ⟨ti, z, h1, h2, h3, _, h4, _⟩ := tinfo_some ht
      obtain ⟨hl, hp⟩ := cFills_sound ha hc hfs
      have hz : VRL g i.zero.cells z.cells.toList := (absV_sound 9 h4).cells
      obtain ⟨cs', e1, e2⟩ := fill_sound (place := fun i => some (i * ei.size, ei.size)) (ps := parts.toList.map fun (i, x) => (i, ac.eval x)) hp hl hz hcs
      refine ⟨.agg cs', ⟨cs'.toList, by simp, e2⟩, ?_⟩
      have e1' : Instr.fill (fun i => some (i * ei.size, ei.size)) z.cells (parts.map fun (i, x) => (i, ac.eval x)).toList = some cs' := by simpa using e1
      simp only [execOp, ho, Instr.build, Sem.run_bind, run_zeroValue h1 h2, Result.andThen_ok, run_underlying hu, run_sizeOf hei, e1', Sem.run_pure]
    · simp at he
  · simp at he

end Go.Ev
end PEvS2
/- What only reads is sound: operators. -/
section PEvS3
set_option linter.unusedSimpArgs false
namespace Go.Ev
variable {P : Program} {g : Gh} {h : AH} {w : World}

theorem kbeq_iff (a b : IntKind) : kbeq a b = true ↔ a = b := by
  cases a <;> cases b <;> simp [kbeq, kidx]
theorem kbeq_eq {a b : IntKind} (h : kbeq a b = true) : a = b := (kbeq_iff a b).1 h

theorem ieq_eq (a b : Int) : ieq a b = (a == b) := by
  cases a <;> cases b <;> simp only [ieq] <;> (rw [Bool.eq_iff_iff]; simp; try omega)
theorem ilt_eq (a b : Int) : ilt a b = decide (a < b) := by
  cases a <;> cases b <;> simp only [ilt, Nat.blt] <;> (rw [Bool.eq_iff_iff]; simp; try omega)
theorem norm_eq (n : Int) : norm n = n := by
  unfold norm; split <;> rfl

theorem wrap_self {k : IntKind} {n : Int} (h1 : k.min ≤ n) (h2 : n ≤ k.max) : k.wrap n = n := by
  unfold IntKind.wrap
  cases k <;> simp [IntKind.min, IntKind.max, IntKind.bits, IntKind.signed] at h1 h2 ⊢ <;> omega

theorem wr_eq (k : IntKind) (n : Int) : wr k n = k.wrap n := by
  unfold wr
  cases h : fits k n with
  | false => rfl
  | true =>
    simp only [cond_true, norm_eq]
    symm
    apply wrap_self
    all_goals
      cases n with
      | ofNat m => cases k <;> simp [fits] at h <;> simp [IntKind.min, IntKind.max, IntKind.bits, IntKind.signed] <;> omega
      | negSucc m => cases k <;> simp [fits] at h <;> simp [IntKind.min, IntKind.max, IntKind.bits, IntKind.signed] <;> omega

theorem beqB_eq : ∀ (x y : List UInt8), beqB x y = (x == y)
  | [], [] => rfl
  | [], _ :: _ => rfl
  | _ :: _, [] => rfl
  | a :: l, b :: m => by
    have ih := beqB_eq l m
    simp only [beqB, ih]
    have : Nat.beq a.toNat b.toNat = (a == b) := by
      rw [Bool.eq_iff_iff, Nat.beq_eq, beq_iff_eq, UInt8.toNat_inj]
    rw [this]
    cases hab : (a == b) <;> simp [List.cons_beq_cons, hab]

theorem bltB_eq : ∀ (x y : List UInt8), bltB x y = Op.bytesLess x y
  | [], [] => rfl
  | _ :: _, [] => rfl
  | [], _ :: _ => rfl
  | a :: l, b :: m => by
    have ih := bltB_eq l m
    simp only [bltB, Op.bytesLess, ih]
    have h1 : Nat.beq a.toNat b.toNat = (a == b) := by
      rw [Bool.eq_iff_iff, Nat.beq_eq, beq_iff_eq, UInt8.toNat_inj]
    have h2 : Nat.blt a.toNat b.toNat = decide (a < b) := by
      rw [Bool.eq_iff_iff]; simp [Nat.blt, UInt8.lt_iff_toNat_lt, Nat.succ_le_iff]
    rw [h1, h2]

theorem str_append (x y : List UInt8) : (⟨x.toArray⟩ : ByteArray) ++ ⟨y.toArray⟩ = ⟨(x ++ y).toArray⟩ := by
  rw [ByteArray.mk_append_mk]
theorem str_size (x : List UInt8) : (⟨x.toArray⟩ : ByteArray).size = x.length := by
  simp [ByteArray.size]

theorem intBin_sound {op : BinOp} {k : IntKind} {x y : Int} {v : AV} (he : intBin op k x y = some v) (t : TypeId) (w : World) :
    ∃ vc, VR g v vc ∧ (binOp op t (.int k x) (.int k y)).run P w = .ok vc w := by
  cases op <;> simp only [intBin] at he
  all_goals first
    | (simp only [Option.some.injEq] at he; subst he
       refine ⟨_, rfl, ?_⟩
       simp [binOp, Op.intArith, Op.intCmp, Op.intBits, wr_eq, ieq_eq, ilt_eq, bne]
       done)
    | (simp only [Option.some.injEq] at he; subst he
       refine ⟨_, rfl, ?_⟩
       simp only [binOp, Op.intCmp, ilt_eq, if_neg (fun h : k ≠ k => h rfl), Sem.run_pure]
       congr 2
       rw [Bool.eq_iff_iff]; simp)
    | (cases hb : ieq y 0 with
       | true => simp [hb] at he
       | false =>
         simp only [hb, cond_false, Option.some.injEq] at he; subst he
         have hy : y ≠ 0 := by simpa [ieq_eq] using hb
         refine ⟨_, rfl, ?_⟩
         simp [binOp, Op.intDiv, hy, wr_eq, norm_eq])
    | (simp at he; done)

theorem strBin_sound {op : BinOp} {x y : List UInt8} {v : AV} (he : strBin op x y = some v) (t : TypeId) (w : World) :
    ∃ vc, VR g v vc ∧ (binOp op t (.string ⟨x.toArray⟩) (.string ⟨y.toArray⟩)).run P w = .ok vc w := by
  cases op <;> simp only [strBin] at he
  case add =>
    cases hb : Nat.ble (x.length + y.length) 4611686018427387904 with
    | false => simp [hb] at he
    | true =>
      simp only [hb, cond_true, Option.some.injEq] at he; subst he
      refine ⟨_, rfl, ?_⟩
      have hle : x.length + y.length ≤ 4611686018427387904 := by simpa using hb
      have : ¬ ((((⟨x.toArray⟩ : ByteArray).size + (⟨y.toArray⟩ : ByteArray).size : Nat) : Int) > IntKind.i64.max) := by
        simp only [str_size]; simp [IntKind.max, IntKind.signed, IntKind.bits]; omega
      simp only [binOp, Op.stringOp]
      rw [if_neg this, str_append]; rfl
  all_goals first
    | (simp only [Option.some.injEq] at he; subst he
       refine ⟨_, rfl, ?_⟩
       simp [binOp, Op.stringOp, beqB_eq, bltB_eq]
       done)
    | (simp at he; done)

theorem eqK_sound {fk : FK} {a b : AV} {x y : Value} {r : Bool} (he : eqK fk a b = some r) (ha : VR g a x) (hb : VR g b y) {t : TypeId} (ht : fkOf P t = some fk) (d : Nat) (w : World) :
    (Op.equalIn (d + 1) t x y).run P w = .ok r w := by
  unfold eqK at he
  split at he
  · rename_i k m k' n
    rw [VR] at ha hb; subst ha; subst hb
    cases hk : kbeq k k' with
    | false => simp [hk] at he
    | true =>
      simp [hk] at he; subst he
      have := kbeq_eq hk; subst this
      unfold fkOf at ht
      split at ht <;> (try (simp at ht; done))
      rename_i k' hu
      rw [run_equalIn_int w d t k k' _ _ hu, ieq_eq]
  · rw [VR] at ha hb; subst ha; subst hb
    simp at he; subst he
    unfold fkOf at ht
    split at ht <;> (try (simp at ht; done))
    rename_i hu
    rw [run_equalIn_string w d t _ _ hu, beqB_eq]; simp
  · rename_i a b
    rw [VR] at ha hb; subst ha; subst hb
    simp at he; subst he
    unfold fkOf at ht
    split at ht <;> (try (simp at ht; done))
    rename_i hu
    rw [run_equalIn_bool' w d t _ _ hu]; cases a <;> cases b <;> rfl
  · unfold fkOf at ht
    split at ht <;> simp at ht
  · simp at he

theorem fk_notAgg {t : TypeId} {fk : FK} (ht : fkOf P t = some fk) (w : World) : (isAgg t).run P w = .ok false w := by
  unfold fkOf at ht
  split at ht
  · rename_i hu; simp [isAgg, run_underlying hu]
  · rename_i k hu; simp [isAgg, run_underlying hu]
  · rename_i hu; simp [isAgg, run_underlying hu]
  · simp at ht

theorem eqFlat_sound {xs ys : Array Value} (d : Nat) (w : World) : ∀ (fs : List Field) (i : Nat) (ks : List FK) (l m : List AV) (r : Bool),
    flatKs P fs i = some ks → VRL g l (xs.toList.drop i) → VRL g m (ys.toList.drop i) → eqFlat ks l m = some r → (Op.eqFields (d + 1) xs ys fs).run P w = .ok r w
  | [], i, ks, l, m, r, hk, h1, h2, he => by
    simp [flatKs] at hk; subst hk
    cases l <;> cases m <;> simp [eqFlat] at he
    subst he
    simp [Op.eqFields]
  | f :: fs, i, ks, l, m, r, hk, h1, h2, he => by
    simp only [flatKs] at hk
    split at hk
    · rename_i hf
      obtain ⟨hn, ho⟩ := hf
      simp only [Option.bind_eq_bind, Option.bind_eq_some_iff, Option.some.injEq] at hk
      obtain ⟨k, hk1, ks', hk2, rfl⟩ := hk
      cases l with
      | nil => simp [eqFlat] at he
      | cons a l =>
        cases m with
        | nil => simp [eqFlat] at he
        | cons b m =>
          rw [VRL] at h1 h2
          obtain ⟨va, wa, ea, hva, hwa⟩ := h1
          obtain ⟨vb, wb, eb, hvb, hwb⟩ := h2
          have xa : xs[i]? = some va := by
            have := congrArg (fun l => l[0]?) ea
            simpa using this
          have xb : ys[i]? = some vb := by
            have := congrArg (fun l => l[0]?) eb
            simpa using this
          have da : xs.toList.drop (i + 1) = wa := by
            rw [← List.tail_drop, ea]; rfl
          have db : ys.toList.drop (i + 1) = wb := by
            rw [← List.tail_drop, eb]; rfl
          have pa : (part f.type xs f.offset).run P w = .ok va w := by simp [part, fk_notAgg hk1, ho, xa]
          have pb : (part f.type ys f.offset).run P w = .ok vb w := by simp [part, fk_notAgg hk1, ho, xb]
          simp only [eqFlat] at he
          split at he
          · rename_i hek
            have ih := eqFlat_sound d w fs (i + 1) ks' l m r hk2 (da ▸ hwa) (db ▸ hwb) he
            simp only [Op.eqFields]
            rw [if_pos hn]
            simp [pa, pb, eqK_sound hek hva hvb hk1 d w, ih]
          · rename_i hek
            simp at he; subst he
            simp only [Op.eqFields]
            rw [if_pos hn]
            simp [pa, pb, eqK_sound hek hva hvb hk1 d w]
          · simp at he
    · simp at hk

theorem eqInts_flat : ∀ (ks : List FK) (l m : List AV) (r : Bool), ks.all FK.isI = true → l.length = ks.length → m.length = ks.length → eqInts l m = some r → eqFlat ks l m = some r
  | [], l, m, r, _, h1, h2, he => by
    have := List.eq_nil_of_length_eq_zero h1; subst this
    have := List.eq_nil_of_length_eq_zero h2; subst this
    exact he
  | k :: ks, l, m, r, hk, h1, h2, he => by
    cases l with
    | nil => simp at h1
    | cons a l =>
      cases m with
      | nil => simp at h2
      | cons b m =>
        simp only [List.all_cons, Bool.and_eq_true] at hk
        cases k <;> (try (simp [FK.isI] at hk; done))
        simp only [List.length_cons, Nat.add_right_cancel_iff] at h1 h2
        unfold eqInts at he
        split at he
        · rename_i e1 e2; cases e1
        · rename_i k a' l' k' b' m' e1 e2
          simp only [List.cons.injEq] at e1 e2
          obtain ⟨rfl, rfl⟩ := e1
          obtain ⟨rfl, rfl⟩ := e2
          simp only [eqFlat, eqK]
          cases hkb : kbeq k k' with
          | false => simp [hkb] at he
          | true =>
            simp only [hkb, cond_true] at he ⊢
            cases hi : ieq a' b' with
            | false => simp only [hi, cond_false] at he ⊢; exact he
            | true => simp only [hi, cond_true] at he ⊢; exact eqInts_flat ks _ _ r hk.2 h1 h2 he
        · cases he

end Go.Ev
end PEvS3
/- What only reads is sound: the binary and unary operators, conversions, slices, places. -/
section PEvS4
set_option linter.unusedSimpArgs false
namespace Go.Ev
variable {P : Program} {g : Gh} {h : AH} {w : World}

theorem eqM_basic {t : TypeId} (e : eqM P t = .basic) : P.underlying t = some .bool := by
  unfold eqM at e
  split at e
  · assumption
  · split at e <;> simp at e
  · simp at e
  · split at e <;> (try split at e) <;> simp at e
  · simp at e
theorem eqM_ptr {t : TypeId} (e : eqM P t = .ptr) : ∃ el, P.underlying t = some (.pointer el) ∧ P.cellsOf el ≠ 0 := by
  unfold eqM at e
  split at e
  · simp at e
  · rename_i el hu
    split at e
    · rename_i hz; exact ⟨el, hu, hz⟩
    · simp at e
  · simp at e
  · split at e <;> (try split at e) <;> simp at e
  · simp at e
theorem eqM_sl {t : TypeId} (e : eqM P t = .sl) : ∃ el, P.underlying t = some (.slice el) := by
  unfold eqM at e
  split at e
  · simp at e
  · split at e <;> simp at e
  · rename_i el hu; exact ⟨el, hu⟩
  · split at e <;> (try split at e) <;> simp at e
  · simp at e
theorem eqM_flat {t : TypeId} {ks : List FK} (e : eqM P t = .flat ks) : ∃ fs, P.underlying t = some (.struct fs) ∧ P.stoodInHeld t = false ∧ P.eqGuardType P.depth t = false ∧ flatKs P fs.toList 0 = some ks := by
  unfold eqM at e
  split at e
  · simp at e
  · split at e <;> simp at e
  · simp at e
  · rename_i fs hu
    split at e
    · rename_i hc
      split at e
      · rename_i ks' hk; simp at e; subst e; exact ⟨fs, hu, hc.1, hc.2, hk⟩
      · simp at e
    · simp at e
  · simp at e

theorem equal_def (t : TypeId) (x y : Value) : Op.equal t x y = Op.equalIn (9999 + 1) t x y := rfl

theorem eq_ptr1 {t el : TypeId} (hu : P.underlying t = some (.pointer el)) (b : Option Addr) (d : Nat) (w : World) : (Op.equalIn (d + 1) t (.pointer none) (.pointer b)).run P w = .ok b.isNone w := by
  simp [Op.equalIn, run_underlying hu]
theorem eq_ptr2 {t el : TypeId} (hu : P.underlying t = some (.pointer el)) (b : Addr) (d : Nat) (w : World) : (Op.equalIn (d + 1) t (.pointer (some b)) (.pointer none)).run P w = .ok false w := by
  simp [Op.equalIn, run_underlying hu]
theorem eq_ptr3 {t el : TypeId} (hu : P.underlying t = some (.pointer el)) (hz : P.cellsOf el ≠ 0) (x o1 o2 : Nat) (d : Nat) (w : World) :
    (Op.equalIn (d + 1) t (.pointer (some ⟨x, o1, none⟩)) (.pointer (some ⟨x, o2, none⟩))).run P w = .ok (Nat.beq o1 o2) w := by
  have hs : (sizeOf el).run P w = .ok (P.cellsOf el) w := by
    unfold Program.cellsOf at hz ⊢
    cases hi : P.info? el with
    | none => simp [hi] at hz
    | some i => simp [run_sizeOf hi]
  simp only [Op.equalIn, Sem.run_bind, run_underlying hu, Result.andThen_ok, hs]
  rw [if_pos hz]
  simp only [sameAddr, beq_self_eq_true, if_true, Sem.run_pure]
  congr 1
  rw [Bool.eq_iff_iff]; simp
theorem eq_sl1 {t el : TypeId} (hu : P.underlying t = some (.slice el)) (b : Option Addr) (l c m e : Nat) (d : Nat) (w : World) : (Op.equalIn (d + 1) t (.slice none l c) (.slice b m e)).run P w = .ok b.isNone w := by
  simp [Op.equalIn, run_underlying hu]
theorem eq_sl2 {t el : TypeId} (hu : P.underlying t = some (.slice el)) (b : Addr) (l c m e : Nat) (d : Nat) (w : World) : (Op.equalIn (d + 1) t (.slice (some b) l c) (.slice none m e)).run P w = .ok false w := by
  simp [Op.equalIn, run_underlying hu]

/-- '==' and '!=' beside simple operands. -/
theorem eqAV_sound {t : TypeId} {a b : AV} {x y : Value} {r : Bool} (he : eqAV (eqM P t) a b = some r) (ha : VR g a x) (hb : VR g b y) (ox oy : Operand) (w : World) (op : BinOp) (hop : op = .eql ∨ op = .neq) :
    (eqGuard op t ox oy x y).run P w = .ok () w ∧ (Op.equal t x y).run P w = .ok r w ∧ (∀ k n, x ≠ .int k n) ∧ (∀ s, x ≠ .string s) ∧ (∀ k n, x ≠ .float k n) ∧ (∀ k n m, x ≠ .complex k n m) := by
  rw [equal_def]
  generalize hm : eqM P t = m at he
  cases m
  case basic =>
    have hu := eqM_basic hm
    unfold eqAV at he
    split at he <;> simp_all
    rename_i p q
    simp only [VR] at ha hb; subst ha; subst hb
    refine ⟨by rcases hop with rfl | rfl <;> simp [eqGuard], ?_, by simp, by simp, by simp, by simp⟩
    rw [run_equalIn_bool' w _ t _ _ hu]
    cases p <;> cases q <;> simp at he <;> subst he <;> rfl
  case ptr =>
    obtain ⟨el, hu, hz⟩ := eqM_ptr hm
    unfold eqAV at he
    split at he <;> (try (simp at he; done)) <;> (try (rename_i e; cases e; done))
    · simp only [VR] at ha hb; subst ha; subst hb
      exact ⟨by rcases hop with rfl | rfl <;> simp [eqGuard], by rw [eq_ptr1 hu]; simpa using he, by simp, by simp, by simp, by simp⟩
    · simp only [VR] at ha hb; subst ha; obtain ⟨x, n, _, rfl⟩ := hb
      exact ⟨by rcases hop with rfl | rfl <;> simp [eqGuard], by rw [eq_ptr1 hu]; simpa using he, by simp, by simp, by simp, by simp⟩
    · simp only [VR] at ha hb; subst hb; obtain ⟨x, n, _, rfl⟩ := ha
      exact ⟨by rcases hop with rfl | rfl <;> simp [eqGuard], by rw [eq_ptr2 hu]; simpa using he, by simp, by simp, by simp, by simp⟩
    · rename_i b1 o1 b2 o2 _
      cases hbb : Nat.beq b1 b2 with
      | false => simp [hbb] at he
      | true =>
        simp only [hbb, cond_true, Option.some.injEq] at he
        have hb12 : b1 = b2 := by simpa using hbb
        subst hb12
        simp only [VR] at ha hb; obtain ⟨x, n, h1, rfl⟩ := ha; obtain ⟨x', n', h2, rfl⟩ := hb
        rw [h1] at h2; simp at h2; obtain ⟨rfl, rfl⟩ := h2
        exact ⟨by rcases hop with rfl | rfl <;> simp [eqGuard], by rw [eq_ptr3 hu hz, he], by simp, by simp, by simp, by simp⟩
  case sl =>
    obtain ⟨el, hu⟩ := eqM_sl hm
    unfold eqAV at he
    split at he <;> (try (simp at he; done)) <;> (try (rename_i e; cases e; done)) <;> simp only [VR] at ha hb
    · subst ha; subst hb
      exact ⟨by rcases hop with rfl | rfl <;> simp [eqGuard], by rw [eq_sl1 hu]; simpa using he, by simp, by simp, by simp, by simp⟩
    · subst ha; obtain ⟨x, n, c, _, rfl, _⟩ := hb
      exact ⟨by rcases hop with rfl | rfl <;> simp [eqGuard], by rw [eq_sl1 hu]; simpa using he, by simp, by simp, by simp, by simp⟩
    · subst hb; obtain ⟨x, n, c, _, rfl, _⟩ := ha
      exact ⟨by rcases hop with rfl | rfl <;> simp [eqGuard], by rw [eq_sl2 hu]; simpa using he, by simp, by simp, by simp, by simp⟩
    · subst ha; obtain ⟨x, n, rfl⟩ := hb
      exact ⟨by rcases hop with rfl | rfl <;> simp [eqGuard], by rw [eq_sl1 hu]; simpa using he, by simp, by simp, by simp, by simp⟩
    · subst hb; obtain ⟨x, n, rfl⟩ := ha
      exact ⟨by rcases hop with rfl | rfl <;> simp [eqGuard], by rw [eq_sl2 hu]; simpa using he, by simp, by simp, by simp, by simp⟩
  case flat ks =>
    obtain ⟨fs, hu, hp, hg, hk⟩ := eqM_flat hm
    unfold eqAV at he
    split at he <;> (try (simp at he; done)) <;> (try (rename_i e; cases e; done))
    rename_i ks' l l' e
    cases e
    simp only [VR] at ha hb
    obtain ⟨vs, rfl, h1⟩ := ha
    obtain ⟨us, rfl, h2⟩ := hb
    refine ⟨run_eqGuard_agg w op t ox oy _ _ hg, ?_, by simp, by simp, by simp, by simp⟩
    have hfo : P.fieldsOf t = fs := by simp [Program.fieldsOf, hu]
    rw [run_equalIn_agg w 9999 t _ _ (by rw [hfo]; exact hu) hp, hfo]
    exact eqFlat_sound 9998 w fs.toList 0 ks _ _ r hk (by simpa using h1) (by simpa using h2) he
  case no =>
    unfold eqAV at he
    split at he <;> (try (simp at he; done)) <;> (rename_i e; cases e)

theorem eqGuard_skip {op : BinOp} {t : TypeId} {ox oy : Operand} {x y : Value} (w : World) (h1 : (∃ k n, x = .int k n) ∨ (∃ s, x = .string s)) : (eqGuard op t ox oy x y).run P w = .ok () w := by
  rcases h1 with ⟨k, n, rfl⟩ | ⟨s, rfl⟩ <;> cases op <;> simp [eqGuard]

theorem q_bin {o : Oper} {op : BinOp} {t yt : TypeId} {x y : Operand} {x' y' : Od} (ho : o.op = .binOp op t x y yt) (hx : cOd x = some x') (hy : cOd y = some y') : QOK P o (.bin op (eqM P t) x' y') := by
  intro g h w a ac v s ha he
  simp only [evQ] at he
  split at he
  · rename_i u hu
    split at he
    · rename_i u' hu'
      have h1 := od_sound ha hx hu
      have h2 := od_sound ha hy hu'
      suffices hs : ∃ vc, VR g v vc ∧ (eqGuard op t x y (ac.eval x) (ac.eval y)).run P w = .ok () w ∧ (binOp op t (ac.eval x) (ac.eval y)).run P w = .ok vc w by
        obtain ⟨vc, e1, e2, e3⟩ := hs
        refine ⟨vc, e1, ?_⟩
        simp [execOp, ho, e2, e3]
      unfold binAV at he
      split at he
      · rename_i k p k' q
        rw [VR] at h1 h2; rw [h1, h2]
        unfold shl at he
        cases hq : ilt q 0 with
        | true => simp [hq] at he
        | false =>
          simp only [hq, cond_false, Option.some.injEq] at he; subst he
          have : ¬ q < 0 := by simpa [ilt_eq] using hq
          exact ⟨_, rfl, eqGuard_skip w (.inl ⟨_, _, rfl⟩), by simp [binOp, Op.shift, this, wr_eq]⟩
      · rename_i k p k' q
        rw [VR] at h1 h2; rw [h1, h2]
        unfold shr at he
        cases hq : ilt q 0 with
        | true => simp [hq] at he
        | false =>
          simp only [hq, cond_false, Option.some.injEq] at he; subst he
          have : ¬ q < 0 := by simpa [ilt_eq] using hq
          exact ⟨_, rfl, eqGuard_skip w (.inl ⟨_, _, rfl⟩), by simp [binOp, Op.shift, this, norm_eq]⟩
      · rename_i k p k' q _ _
        rw [VR] at h1 h2; rw [h1, h2]
        cases hk : kbeq k k' with
        | false => simp [hk] at he
        | true =>
          simp only [hk, cond_true] at he
          have := kbeq_eq hk; subst this
          obtain ⟨vc, e1, e2⟩ := intBin_sound (P := P) (g := g) he t w
          exact ⟨vc, e1, eqGuard_skip w (.inl ⟨_, _, rfl⟩), e2⟩
      · rename_i p q
        rw [VR] at h1 h2; rw [h1, h2]
        obtain ⟨vc, e1, e2⟩ := strBin_sound (P := P) (g := g) he t w
        exact ⟨vc, e1, eqGuard_skip w (.inr ⟨_, rfl⟩), e2⟩
      · split at he
        · rename_i r hr
          simp at he; subst he
          obtain ⟨e1, e2, n1, n2, n3, n4⟩ := eqAV_sound hr h1 h2 x y w .eql (.inl rfl)
          refine ⟨_, rfl, e1, ?_⟩
          generalize ac.eval x = X at *
          generalize ac.eval y = Y at *
          cases X <;> first | (exact absurd rfl (n1 _ _)) | (exact absurd rfl (n2 _)) | (exact absurd rfl (n3 _ _)) | (exact absurd rfl (n4 _ _ _)) | (simp [binOp, e2])
        · simp at he
      · split at he
        · rename_i r hr
          simp at he; subst he
          obtain ⟨e1, e2, n1, n2, n3, n4⟩ := eqAV_sound hr h1 h2 x y w .neq (.inr rfl)
          refine ⟨_, rfl, e1, ?_⟩
          generalize ac.eval x = X at *
          generalize ac.eval y = Y at *
          cases X <;> first | (exact absurd rfl (n1 _ _)) | (exact absurd rfl (n2 _)) | (exact absurd rfl (n3 _ _)) | (exact absurd rfl (n4 _ _ _)) | (simp [binOp, e2])
        · simp at he
      · simp at he
    · simp at he
  · simp at he

theorem eq_if1 {t : TypeId} {ms : Array (String × TypeId)} (hu : P.underlying t = some (.interface ms)) (d : Nat) (w : World) : (Op.equalIn (d + 1) t .nilIface .nilIface).run P w = .ok true w := by
  simp [Op.equalIn, run_underlying hu]
theorem eq_if2 {t u : TypeId} {v : Value} {ms : Array (String × TypeId)} (hu : P.underlying t = some (.interface ms)) (d : Nat) (w : World) : (Op.equalIn (d + 1) t (.iface u v) .nilIface).run P w = .ok false w := by
  simp [Op.equalIn, run_underlying hu]
theorem q_isNil {o : Oper} {op : BinOp} {t yt : TypeId} {x : Operand} {x' : Od} {neg : Bool} {ms : Array (String × TypeId)} (hop : op = .eql ∧ neg = false ∨ op = .neq ∧ neg = true) (ho : o.op = .binOp op t x (.const .nilIface) yt) (ht : P.underlying t = some (.interface ms)) (hx : cOd x = some x') : QOK P o (.isNil neg x') := by
  intro g h w a ac v s ha he
  simp only [evQ] at he
  have ey : ac.eval (.const .nilIface) = .nilIface := rfl
  split at he
  · rename_i hu
    have h1 := od_sound ha hx hu
    simp only [VR] at h1
    simp only [Option.some.injEq] at he; subst he
    refine ⟨_, rfl, ?_⟩
    simp only [execOp, ho, ey, h1, Sem.run_bind]
    rcases hop with ⟨rfl, rfl⟩ | ⟨rfl, rfl⟩ <;> simp [eqGuard, binOp, equal_def, eq_if1 ht]
  · rename_i u uv hu
    have h1 := od_sound ha hx hu
    simp only [VR] at h1
    obtain ⟨q, h1, _⟩ := h1
    simp only [Option.some.injEq] at he; subst he
    refine ⟨_, rfl, ?_⟩
    simp only [execOp, ho, ey, h1, Sem.run_bind]
    rcases hop with ⟨rfl, rfl⟩ | ⟨rfl, rfl⟩ <;> simp [eqGuard, binOp, equal_def, eq_if2 ht]
  · simp at he

theorem q_un {o : Oper} {op : UnOp} {t : TypeId} {x : Operand} {x' : Od} (ho : o.op = .unOp op t x) (hx : cOd x = some x') : QOK P o (.un op x') := by
  intro g h w a ac v s ha he
  simp only [evQ] at he
  split at he
  · rename_i u hu
    have h1 := od_sound ha hx hu
    unfold unAV at he
    split at he
    · rw [VR] at h1
      simp at he; subst he
      exact ⟨_, rfl, by simp [execOp, ho, h1, Op.unary, Op.intArith, wr_eq]⟩
    · rw [VR] at h1
      simp at he; subst he
      exact ⟨_, rfl, by simp [execOp, ho, h1, Op.unary, Op.intBits]⟩
    · rw [VR] at h1
      simp at he; subst he
      exact ⟨_, rfl, by simp [execOp, ho, h1, Op.unary]⟩
    · simp at he
  · simp at he

theorem q_toInt {o : Oper} {t u : TypeId} {x : Operand} {x' : Od} {k k0 : IntKind} (ho : o.op = .convert t u x) (ht : P.underlying t = some (.int k0)) (hu : P.underlying u = some (.int k)) (hx : cOd x = some x') : QOK P o (.toInt k x') := by
  intro g h w a ac v s ha he
  simp only [evQ] at he
  split at he
  · rename_i hv
    have h1 := od_sound ha hx hv
    rw [VR] at h1
    simp at he; subst he
    exact ⟨_, rfl, by simp [execOp, ho, h1, convert, run_underlying ht, run_underlying hu, Conv.intToInt, wr_eq]⟩
  · simp at he

theorem q_toStr {o : Oper} {t u : TypeId} {x : Operand} {x' : Od} {k0 : IntKind} (ho : o.op = .convert t u x) (ht : P.underlying t = some (.int k0)) (hu : P.underlying u = some .string) (hx : cOd x = some x') : QOK P o (.toStr x') := by
  intro g h w a ac v s ha he
  simp only [evQ] at he
  split at he
  · rename_i hv
    have h1 := od_sound ha hx hv
    rw [VR] at h1
    simp at he; subst he
    exact ⟨_, rfl, by simp [execOp, ho, h1, convert, run_underlying ht, run_underlying hu, Conv.intToString]⟩
  · simp at he

theorem q_same {o : Oper} {t u : TypeId} {x : Operand} {x' : Od} (ho : o.op = .convert t u x) (ht : P.underlying t = some .string) (hu : P.underlying u = some .string) (hx : cOd x = some x') : QOK P o (.same x') := by
  intro g h w a ac v s ha he
  simp only [evQ] at he
  split at he
  · rename_i hv
    have h1 := od_sound ha hx hv
    have h2 := h1
    rw [VR] at h1
    simp at he; subst he
    refine ⟨_, h2, by simp [execOp, ho, h1, convert, run_underlying ht, run_underlying hu]⟩
  · simp at he

theorem q_iface {o : Oper} {t : TypeId} {x : Operand} {x' : Od} {d : TypeDesc} (ho : o.op = .makeInterface t x) (ht : P.underlying t = some d) (hd : ∀ ms, d ≠ .interface ms) (hx : cOd x = some x') : QOK P o (.mkIface t x') := by
  intro g h w a ac v s ha he
  simp only [evQ] at he
  split at he
  · rename_i u hu
    simp at he; subst he
    refine ⟨_, ⟨_, rfl, od_sound ha hx hu⟩, ?_⟩
    simp only [execOp, ho, Instr.makeInterface, Sem.run_bind, run_underlying ht, Result.andThen_ok]
    cases d <;> first | (exact absurd rfl (hd _)) | rfl
  · simp at he

theorem q_func {o : Oper} {f : FuncId} {fs cs : Array Operand} {fs' cs' : List Od} (ho : o.op = .makeFunc (.func f) fs cs) (h1 : cArgs fs = some fs') (h2 : cArgs cs = some cs') : QOK P o (.mkFunc f fs' cs') := by
  intro g h w a ac v s ha he
  simp only [evQ] at he
  split at he
  · rename_i us hus
    split at he
    · rename_i vs hvs
      simp at he; subst he
      refine ⟨_, ⟨_, _, rfl, evs_sound ha h1 hus, evs_sound ha h2 hvs⟩, ?_⟩
      simp [execOp, ho, Instr.makeFunc, ← Array.toList_map]
    · simp at he
  · simp at he

theorem q_extract {o : Oper} {x : Operand} {x' : Od} {i : Nat} (ho : o.op = .extract x i) (hx : cOd x = some x') : QOK P o (.extract i x') := by
  intro g h w a ac v s ha he
  simp only [evQ] at he
  split at he
  · rename_i l hl
    obtain ⟨vs, e, hv⟩ := od_sound ha hx hl
    rw [nth_eq] at he
    obtain ⟨u, hu, hr⟩ := hv.get he
    exact ⟨u, hr, by simp [execOp, ho, e, Instr.extract, hu]⟩
  · simp at he

theorem q_fieldAddr {o : Oper} {t : TypeId} {x : Operand} {x' : Od} {fi : Nat} {F : Array Field} {fd : Field} {i : TypeInfo} (ho : o.op = .fieldAddr t x fi) (ht : P.underlying t = some (.struct F)) (hf : F[fi]? = some fd)
    (hi : P.info? fd.type = some i) (hz : i.size ≠ 0) (hx : cOd x = some x') : QOK P o (.fieldAddr fd.offset x') := by
  intro g h w a ac v s ha he
  simp only [evQ] at he
  split at he
  · rename_i b off hb
    obtain ⟨bx, n, hφ, e⟩ := od_sound ha hx hb
    simp at he; subst he
    refine ⟨_, ⟨bx, n, hφ, rfl⟩, ?_⟩
    simp [execOp, ho, e, Instr.fieldAt, run_underlying ht, hf, Instr.sureAddr, fieldPlace, run_sizeOf hi, hz, addr_add]
  · simp at he

end Go.Ev
end PEvS4
/- What only reads is sound: slices, indexing, maps, lengths. -/
section PEvS5
set_option linter.unusedSimpArgs false
namespace Go.Ev
variable {P : Program} {g : Gh} {h : AH} {w : World}

theorem blt_true {a b : Nat} (h : Nat.blt a b = true) : a < b := Nat.le_of_ble_eq_true h
theorem blt_false {a b : Nat} (h : Nat.blt a b = false) : ¬ a < b := fun hlt => by
  have := Nat.ble_eq_true_of_le (Nat.succ_le_of_lt hlt)
  unfold Nat.blt at h
  rw [this] at h
  cases h

theorem Sim.row_in (s : Sim g h w) {b x n off k : Nat} {l : List AV} (hx : g.φ b = some (x, n)) (he : getCells h b off k = some l) : off + k ≤ n := by
  unfold getCells at he
  split at he
  · rename_i l' e fz hb
    obtain ⟨vs, rest, lo, hi, h1, h2, h3, _⟩ := s.cells_at hb hx
    cases hle : Nat.ble (off + k) l'.length with
    | false => simp [hle] at he
    | true =>
      have hle' : off + k ≤ l'.length := by simpa using hle
      have := h2.length
      simp at h3
      omega
  · simp at he

theorem natOf_some {v : AV} {n : Nat} (e : natOf v = some n) : ∃ k, v = .int k (.ofNat n) := by
  unfold natOf at e
  split at e
  · simp at e; subst e; exact ⟨_, rfl⟩
  · simp at e

/-- What a bound says, for the model's own bounds: at most what they allow. -/
theorem bound_sound {dflt most n : Nat} {v : Option AV} {x : Option Value} (e : bound dflt most v = some n) (hv : (x = none ∧ v = none) ∨ ∃ y u, x = some y ∧ v = some u ∧ VR g u y) :
    (x = none ∧ n = dflt) ∨ ∃ y, x = some y ∧ n ≤ most ∧ ∀ (m : Nat) (c : BoundsCode) (w : World), most ≤ m → (Instr.sliceBound y m c).run P w = .ok n w := by
  rcases hv with ⟨rfl, rfl⟩ | ⟨y, u, rfl, rfl, hr⟩
  · simp [bound] at e; exact .inl ⟨rfl, e.symm⟩
  · refine .inr ⟨y, rfl, ?_⟩
    simp only [bound] at e
    split at e
    · rename_i k hk
      cases hb : Nat.ble k most with
      | false => simp [hb] at e
      | true =>
        simp [hb] at e; subst e
        have hle : k ≤ most := by simpa using hb
        obtain ⟨kk, rfl⟩ := natOf_some hk
        rw [VR] at hr; subst hr
        refine ⟨hle, fun m c w hm => ?_⟩
        simp only [Instr.sliceBound, asIntOf, Sem.run_bind, Sem.run_pure, Result.andThen_ok]
        rw [if_pos ⟨by simp, by simp; omega⟩]
        simp
    · simp at e

theorem extract_list (s : List UInt8) (a b : Nat) : (⟨s.toArray⟩ : ByteArray).extract a b = ⟨((s.drop a).take (b - a)).toArray⟩ := by
  rw [Lib.extract_eq]

theorem q_slStr {o : Oper} {t : TypeId} {x : Operand} {lo hi : Option Operand} {x' : Od} {lo' hi' : Option Od} (ho : o.op = .slice t x lo hi none) (ht : P.underlying t = some .string) (hx : cOd x = some x') (hl : cOpt lo = some lo') (hh : cOpt hi = some hi') : QOK P o (.slStr x' lo' hi') := by
  intro g h w a ac v s ha he
  simp only [evQ] at he
  split at he
  · rename_i str l u h1 h2 h3
    have e1 := od_sound ha hx h1
    rw [VR] at e1
    have e2 := evo_sound ha hl h2
    have e3 := evo_sound ha hh h3
    unfold slStrAV at he
    split at he
    · rename_i H hH
      split at he
      · rename_i L hL
        simp at he; subst he
        have b3 := bound_sound (P := P) (x := hi.map ac.eval) hH (by rcases e3 with ⟨rfl, rfl⟩ | ⟨y, u, rfl, rfl, hr⟩; exact .inl ⟨rfl, rfl⟩; exact .inr ⟨_, _, rfl, rfl, hr⟩)
        have b2 := bound_sound (P := P) (x := lo.map ac.eval) hL (by rcases e2 with ⟨rfl, rfl⟩ | ⟨y, u, rfl, rfl, hr⟩; exact .inl ⟨rfl, rfl⟩; exact .inr ⟨_, _, rfl, rfl, hr⟩)
        refine ⟨_, rfl, ?_⟩
        have hs : (Instr.sliceBounds false str.length str.length (lo.map ac.eval) (hi.map ac.eval) none).run P w = .ok (L, H, str.length) w := by
          unfold Instr.sliceBounds
          rcases b3 with ⟨q3, rfl⟩ | ⟨y3, q3, _, r3⟩ <;> rcases b2 with ⟨q2, rfl⟩ | ⟨y2, q2, _, r2⟩ <;> simp only [q3, q2]
          · simp
          · simp [r2 _ _ w (Nat.le_refl _)]
          · simp [r3 _ _ w (Nat.le_refl _)]
          · simp [r3 _ _ w (Nat.le_refl _), r2 _ _ w (Nat.le_refl _)]
        simp only [execOp, ho, Instr.sliceAt, Sem.run_bind, run_underlying ht, Result.andThen_ok, e1, Option.map_none]
        simp only [Instr.slice, Sem.run_bind, run_underlying ht, Result.andThen_ok, Option.isSome_none, Bool.false_eq_true, if_false, str_size, hs, Sem.run_pure, extract_list]
      · simp at he
    · simp at he
  · simp at he

/-- xs[lo:hi:mx] of a known capacity. -/
theorem slKnown_sound {b off len sz cap x n : Nat} {lo hi mx : Option AV} {lv hv mv : Option Value} {v : AV} (he : slKnown b off len sz cap lo hi mx = some v) (hφ : g.φ b = some (x, n)) (hc : off + cap * sz ≤ n)
    (hlen : len ≤ cap) (hl : (lv = none ∧ lo = none) ∨ ∃ y u, lv = some y ∧ lo = some u ∧ VR g u y) (hh : (hv = none ∧ hi = none) ∨ ∃ y u, hv = some y ∧ hi = some u ∧ VR g u y) (hm : (mv = none ∧ mx = none) ∨ ∃ y u, mv = some y ∧ mx = some u ∧ VR g u y)
    (is : Bool) (w : World) (hmh : mv.isSome → hv.isSome) :
    ∃ L H M, (Instr.sliceBounds is len cap lv hv mv).run P w = .ok (L, H, M) w ∧ VR g v (.slice (some (if M = L then ⟨x, off, none⟩ else Addr.add ⟨x, off, none⟩ (L * sz))) (H - L) (M - L)) := by
  unfold slKnown at he
  split at he
  · rename_i M hM
    split at he
    · rename_i H hH
      split at he
      · rename_i L hL
        simp at he; subst he
        have bm := bound_sound (P := P) (x := mv) hM hm
        have bh := bound_sound (P := P) (x := hv) hH hh
        have bl := bound_sound (P := P) (x := lv) hL hl
        have hMc : M ≤ cap := by rcases bm with ⟨_, rfl⟩ | ⟨_, _, h, _⟩ <;> omega
        have hHM : H ≤ M := by
          rcases bh with ⟨e, rfl⟩ | ⟨_, _, h, _⟩
          · rcases bm with ⟨_, rfl⟩ | ⟨y, e2, h, _⟩
            · exact hlen
            · have := hmh (by simp [e2]); simp [e] at this
          · exact h
        have hLH : L ≤ H := by rcases bl with ⟨_, rfl⟩ | ⟨_, _, h, _⟩ <;> omega
        refine ⟨L, H, M, ?_, ?_⟩
        · unfold Instr.sliceBounds
          rcases bm with ⟨qm, rfl⟩ | ⟨ym, qm, hm1, rm⟩ <;> rcases bh with ⟨qh, rfl⟩ | ⟨yh, qh, hh1, rh⟩ <;> rcases bl with ⟨ql, rfl⟩ | ⟨yl, ql, hl1, rl⟩ <;> simp only [qm, qh, ql]
          · simp
          · simp [rl _ _ w (Nat.le_refl _)]
          · simp [rh _ _ w (Nat.le_refl _)]
          · simp [rh _ _ w (Nat.le_refl _), rl _ _ w (Nat.le_refl _)]
          · exact absurd (hmh (by simp [qm])) (by simp [qh])
          · exact absurd (hmh (by simp [qm])) (by simp [qh])
          · simp [rm _ _ w (Nat.le_refl _), rh _ _ w (Nat.le_refl _)]
          · simp [rm _ _ w (Nat.le_refl _), rh _ _ w (Nat.le_refl _), rl _ _ w (Nat.le_refl _)]
        · refine ⟨x, n, M - L, hφ, ?_, by omega, ?_, fun c' hc' => by simpa using hc'⟩
          · cases hbeq : Nat.beq M L with
            | false =>
              have : M ≠ L := by intro e; subst e; simp at hbeq
              rw [if_neg this, addr_add]; rfl
            | true =>
              have : M = L := by simpa using hbeq
              rw [if_pos this]; rfl
          · have h1 : (M - L) * sz + L * sz = M * sz := by rw [← Nat.add_mul]; congr 1; omega
            have h2 : M * sz ≤ cap * sz := Nat.mul_le_mul_right _ hMc
            cases hbeq : Nat.beq M L with
            | false => simp only [cond_false]; omega
            | true => simp only [cond_true]; omega
      · simp at he
    · simp at he
  · simp at he

/-- .. of one that is not known. -/
theorem slOpen_sound {b off len sz cap x n : Nat} {lo hi mx : Option AV} {lv hv mv : Option Value} {v : AV} (he : slOpen b off len sz lo hi mx = some v) (hφ : g.φ b = some (x, n)) (hc : off + cap * sz ≤ n)
    (hlen : len ≤ cap) (hl : (lv = none ∧ lo = none) ∨ ∃ y u, lv = some y ∧ lo = some u ∧ VR g u y) (hh : (hv = none ∧ hi = none) ∨ ∃ y u, hv = some y ∧ hi = some u ∧ VR g u y) (hm : (mv = none ∧ mx = none) ∨ ∃ y u, mv = some y ∧ mx = some u ∧ VR g u y)
    (is : Bool) (w : World) (hmh : mv.isSome → hv.isSome) :
    ∃ L H M, (Instr.sliceBounds is len cap lv hv mv).run P w = .ok (L, H, M) w ∧ VR g v (.slice (some (if M = L then ⟨x, off, none⟩ else Addr.add ⟨x, off, none⟩ (L * sz))) (H - L) (M - L)) := by
  unfold slOpen at he
  split at he
  · split at he
    · rename_i M hM
      split at he
      · rename_i H hH
        split at he
        · rename_i L hL
          simp at he; subst he
          have bm := bound_sound (P := P) (x := mv) hM hm
          have bh := bound_sound (P := P) (x := hv) hH hh
          have bl := bound_sound (P := P) (x := lv) hL hl
          obtain ⟨ym, qm, hm1, rm⟩ : ∃ y, mv = some y ∧ M ≤ len ∧ ∀ (m : Nat) (c : BoundsCode) (w : World), len ≤ m → (Instr.sliceBound y m c).run P w = .ok M w := by
            rcases bm with ⟨e, _⟩ | h
            · rcases hm with ⟨_, e2⟩ | ⟨_, _, e2, _⟩
              · simp at e2
              · simp [e] at e2
            · exact h
          obtain ⟨yh, qh, hh1, rh⟩ : ∃ y, hv = some y ∧ H ≤ M ∧ ∀ (m : Nat) (c : BoundsCode) (w : World), M ≤ m → (Instr.sliceBound y m c).run P w = .ok H w := by
            rcases bh with ⟨e, _⟩ | h
            · have := hmh (by simp [qm]); simp [e] at this
            · exact h
          have hLH : L ≤ H := by rcases bl with ⟨_, rfl⟩ | ⟨_, _, h, _⟩ <;> omega
          refine ⟨L, H, M, ?_, ?_⟩
          · unfold Instr.sliceBounds
            rcases bl with ⟨ql, rfl⟩ | ⟨yl, ql, hl1, rl⟩ <;> simp only [qm, qh, ql]
            · simp [rm _ _ w hlen, rh _ _ w (Nat.le_refl _)]
            · simp [rm _ _ w hlen, rh _ _ w (Nat.le_refl _), rl _ _ w (Nat.le_refl _)]
          · refine ⟨x, n, M - L, hφ, ?_, by omega, ?_, fun c' hc' => by simpa using hc'⟩
            · cases hbeq : Nat.beq M L with
              | false =>
                have : M ≠ L := by intro e; subst e; simp at hbeq
                rw [if_neg this, addr_add]; rfl
              | true =>
                have : M = L := by simpa using hbeq
                rw [if_pos this]; rfl
            · have h1 : (M - L) * sz + L * sz = M * sz := by rw [← Nat.add_mul]; congr 1; omega
              have h2 : M * sz ≤ cap * sz := Nat.mul_le_mul_right _ (by omega)
              cases hbeq : Nat.beq M L with
              | false => simp only [cond_false]; omega
              | true => simp only [cond_true]; omega
        · simp at he
      · simp at he
    · simp at he
  · have qm : mv = none := by
      rcases hm with ⟨e, _⟩ | ⟨_, _, _, e2, _⟩
      · exact e
      · simp at e2
    split at he
    · rename_i H hH
      split at he
      · rename_i L hL
        have bh := bound_sound (P := P) (x := hv) hH hh
        have bl := bound_sound (P := P) (x := lv) hL hl
        have hHl : H ≤ len := by rcases bh with ⟨_, rfl⟩ | ⟨_, _, h, _⟩ <;> omega
        have hLH : L ≤ H := by rcases bl with ⟨_, rfl⟩ | ⟨_, _, h, _⟩ <;> omega
        refine ⟨L, H, cap, ?_, ?_⟩
        · unfold Instr.sliceBounds
          rcases bh with ⟨qh, rfl⟩ | ⟨yh, qh, hh1, rh⟩ <;> rcases bl with ⟨ql, rfl⟩ | ⟨yl, ql, hl1, rl⟩ <;> simp only [qm, qh, ql]
          · simp
          · simp [rl _ _ w (Nat.le_refl _)]
          · simp [rh _ _ w hlen]
          · simp [rh _ _ w hlen, rl _ _ w (Nat.le_refl _)]
        · have h1 : (cap - L) * sz + L * sz = cap * sz := by rw [← Nat.add_mul]; congr 1; omega
          cases hz : Nat.beq L 0 with
          | true =>
            simp only [hz, cond_true, Option.some.injEq] at he; subst he
            have hL0 : L = 0 := by simpa using hz
            subst hL0
            refine ⟨x, n, cap, hφ, ?_, by omega, hc, fun c' hc' => by simp at hc'⟩
            simp [addr_add]
          | false =>
            have hL0 : L ≠ 0 := by intro e; subst e; simp at hz
            simp only [hz, cond_false] at he
            cases hb : Nat.blt L len with
            | true =>
              simp only [hb, cond_true, Option.some.injEq] at he; subst he
              have hlt : L < len := blt_true hb
              refine ⟨x, n, cap - L, hφ, ?_, by omega, by omega, fun c' hc' => by simp at hc'⟩
              rw [if_neg (by omega), addr_add]
            | false =>
              simp only [hb, cond_false, Option.some.injEq] at he; subst he
              have hge : ¬ L < len := blt_false hb
              have : H - L = 0 := by omega
              rw [this]
              exact ⟨_, _, rfl⟩
      · simp at he
    · simp at he

theorem zeroAt_sound {v : Option AV} {x : Option Value} (e : zeroAt v = true) (hv : (x = none ∧ v = none) ∨ ∃ y u, x = some y ∧ v = some u ∧ VR g u y) :
    x = none ∨ ∃ y, x = some y ∧ ∀ (m : Nat) (c : BoundsCode) (w : World), (Instr.sliceBound y m c).run P w = .ok 0 w := by
  rcases hv with ⟨rfl, rfl⟩ | ⟨y, u, rfl, rfl, hr⟩
  · exact .inl rfl
  · refine .inr ⟨y, rfl, ?_⟩
    simp only [zeroAt] at e
    split at e
    · rename_i hk
      obtain ⟨kk, rfl⟩ := natOf_some hk
      rw [VR] at hr; subst hr
      intro m c w
      simp only [Instr.sliceBound, asIntOf, Sem.run_bind, Sem.run_pure, Result.andThen_ok]
      rw [if_pos ⟨by simp, by simp⟩]
      simp
    · simp at e

theorem evo_map {a : Env} {ac : Act} (ha : AR g a ac) {x : Option Operand} {od : Option Od} {v : Option AV} (hc : cOpt x = some od) (he : evo a od = some v) :
    (x.map ac.eval = none ∧ v = none) ∨ ∃ y u, x.map ac.eval = some y ∧ v = some u ∧ VR g u y := by
  rcases evo_sound ha hc he with ⟨rfl, rfl⟩ | ⟨y, u, rfl, rfl, hr⟩
  · exact .inl ⟨rfl, rfl⟩
  · exact .inr ⟨_, _, rfl, rfl, hr⟩

theorem cOpt_some {x : Option Operand} {od : Option Od} (hc : cOpt x = some od) : x.isSome = od.isSome := by
  cases x with
  | none => simp [cOpt] at hc; subst hc; rfl
  | some y => simp only [cOpt, Option.map_eq_some_iff] at hc; obtain ⟨o, _, rfl⟩ := hc; rfl

theorem q_sl {o : Oper} {t e : TypeId} {x : Operand} {lo hi mx : Option Operand} {x' : Od} {lo' hi' mx' : Option Od} {i : TypeInfo} (ho : o.op = .slice t x lo hi mx) (ht : P.underlying t = some (.slice e)) (hi0 : P.info? e = some i)
    (hx : cOd x = some x') (hl : cOpt lo = some lo') (hh : cOpt hi = some hi') (hm : cOpt mx = some mx') (hmh : mx.isSome → hi.isSome) : QOK P o (.sl i.size x' lo' hi' mx') := by
  intro g h w a ac v s ha he
  simp only [evQ] at he
  split at he
  · rename_i u l u2 m h1 h2 h3 h4
    have e1 := od_sound ha hx h1
    have e2 := evo_map ha hl h2
    have e3 := evo_map ha hh h3
    have e4 := evo_map ha hm h4
    have hmh' : (mx.map ac.eval).isSome → (hi.map ac.eval).isSome := by simpa using hmh
    unfold slAV at he
    split at he
    · cases hz : (zeroAt l && zeroAt u2 && zeroAt m) with
      | false => simp [hz] at he
      | true =>
        simp only [hz, cond_true, Option.some.injEq] at he; subst he
        simp only [Bool.and_eq_true] at hz
        rw [VR] at e1
        refine ⟨_, rfl, ?_⟩
        have z2 := zeroAt_sound (P := P) hz.1.1 e2
        have z3 := zeroAt_sound (P := P) hz.1.2 e3
        have z4 := zeroAt_sound (P := P) hz.2 e4
        have hs : (Instr.sliceBounds true 0 0 (lo.map ac.eval) (hi.map ac.eval) (mx.map ac.eval)).run P w = .ok (0, 0, 0) w := by
          unfold Instr.sliceBounds
          rcases z4 with q4 | ⟨y4, q4, r4⟩ <;> rcases z3 with q3 | ⟨y3, q3, r3⟩ <;> rcases z2 with q2 | ⟨y2, q2, r2⟩ <;> simp only [q4, q3, q2]
          · simp
          · simp [r2]
          · simp [r3]
          · simp [r3, r2]
          · exact absurd (hmh' (by simp [q4])) (by simp [q3])
          · exact absurd (hmh' (by simp [q4])) (by simp [q3])
          · simp [r4, r3]
          · simp [r4, r3, r2]
        simp [execOp, ho, Instr.sliceAt, Instr.slice, run_underlying ht, e1, hs, run_sizeOf hi0]
    · rename_i b off len sz' cap
      cases hz : Nat.beq i.size sz' with
      | false => simp [hz] at he
      | true =>
        simp only [hz, cond_true] at he
        have hsz : i.size = sz' := by simpa using hz
        subst hsz
        obtain ⟨x0, n, c, hφ, ev, hle, hle2, hcap⟩ := e1
        have hc : c = cap := hcap cap rfl
        subst hc
        obtain ⟨L, H, M, r1, r2⟩ := slKnown_sound (P := P) (lv := lo.map ac.eval) (hv := hi.map ac.eval) (mv := mx.map ac.eval) he hφ hle2 hle e2 e3 e4 true w hmh'
        refine ⟨_, r2, ?_⟩
        simp only [execOp, ho, Instr.sliceAt, Sem.run_bind, run_underlying ht, Result.andThen_ok, ev]
        simp only [Instr.slice, Sem.run_bind, run_underlying ht, Result.andThen_ok, r1, run_sizeOf hi0, Sem.run_pure]
        by_cases hML : M = L <;> simp [hML]
    · rename_i b off len sz'
      cases hz : Nat.beq i.size sz' with
      | false => simp [hz] at he
      | true =>
        simp only [hz, cond_true] at he
        have hsz : i.size = sz' := by simpa using hz
        subst hsz
        obtain ⟨x0, n, c, hφ, ev, hle, hle2, _⟩ := e1
        obtain ⟨L, H, M, r1, r2⟩ := slOpen_sound (P := P) (lv := lo.map ac.eval) (hv := hi.map ac.eval) (mv := mx.map ac.eval) he hφ hle2 hle e2 e3 e4 true w hmh'
        refine ⟨_, r2, ?_⟩
        simp only [execOp, ho, Instr.sliceAt, Sem.run_bind, run_underlying ht, Result.andThen_ok, ev]
        simp only [Instr.slice, Sem.run_bind, run_underlying ht, Result.andThen_ok, r1, run_sizeOf hi0, Sem.run_pure]
        by_cases hML : M = L <;> simp [hML]
    · cases hz : (zeroAt l && zeroAt u2 && m.isNone) with
      | false => simp [hz] at he
      | true =>
        simp only [hz, cond_true, Option.some.injEq] at he; subst he
        simp only [Bool.and_eq_true] at hz
        obtain ⟨x0, c, ev⟩ := e1
        have z2 := zeroAt_sound (P := P) hz.1.1 e2
        have z3 := zeroAt_sound (P := P) hz.1.2 e3
        have q4 : mx.map ac.eval = none := by
          rcases e4 with ⟨e, _⟩ | ⟨_, _, _, e, _⟩
          · exact e
          · simp [e] at hz
        have hs : (Instr.sliceBounds true 0 c (lo.map ac.eval) (hi.map ac.eval) (mx.map ac.eval)).run P w = .ok (0, 0, c) w := by
          unfold Instr.sliceBounds
          rcases z3 with q3 | ⟨y3, q3, r3⟩ <;> rcases z2 with q2 | ⟨y2, q2, r2⟩ <;> simp only [q4, q3, q2]
          · simp
          · simp [r2]
          · simp [r3]
          · simp [r3, r2]
        refine ⟨.slice (some (if c = 0 then x0 else x0.add 0)) 0 c, ⟨_, _, rfl⟩, ?_⟩
        simp only [execOp, ho, Instr.sliceAt, Sem.run_bind, run_underlying ht, Result.andThen_ok, ev]
        simp only [Instr.slice, Sem.run_bind, run_underlying ht, Result.andThen_ok, hs, run_sizeOf hi0, Sem.run_pure]
        by_cases hc0 : c = 0 <;> simp [hc0]
    · simp at he
  · simp at he

theorem q_slArr {o : Oper} {t e : TypeId} {k : Nat} {x : Operand} {lo hi mx : Option Operand} {x' : Od} {lo' hi' mx' : Option Od} {i : TypeInfo} (ho : o.op = .slice t x lo hi mx) (ht : P.underlying t = some (.array k e)) (hi0 : P.info? e = some i)
    (hx : cOd x = some x') (hl : cOpt lo = some lo') (hh : cOpt hi = some hi') (hm : cOpt mx = some mx') (hmh : mx.isSome → hi.isSome) : QOK P o (.slArr k i.size x' lo' hi' mx') := by
  intro g h w a ac v s ha he
  simp only [evQ] at he
  split at he
  · rename_i b off l u2 m h1 h2 h3 h4
    have e1 := od_sound ha hx h1
    have e2 := evo_map ha hl h2
    have e3 := evo_map ha hh h3
    have e4 := evo_map ha hm h4
    have hmh' : (mx.map ac.eval).isSome → (hi.map ac.eval).isSome := by simpa using hmh
    obtain ⟨x0, n, hφ, ev⟩ := e1
    split at he
    · rename_i row hrow
      have hin := s.row_in hφ hrow
      obtain ⟨L, H, M, r1, r2⟩ := slKnown_sound (P := P) (lv := lo.map ac.eval) (hv := hi.map ac.eval) (mv := mx.map ac.eval) he hφ hin (Nat.le_refl _) e2 e3 e4 false w hmh'
      refine ⟨_, r2, ?_⟩
      simp only [execOp, ho, Instr.sliceAt, Sem.run_bind, run_underlying ht, Result.andThen_ok, ev, Instr.sureAddr, Sem.run_pure, r1, run_sizeOf hi0]
    · simp at he
  · simp at he

theorem idxNat_some {i : AV} {n k : Nat} (e : idxNat i n = some k) : k < n ∧ ∃ kk, i = .int kk (.ofNat k) := by
  unfold idxNat at e
  split at e
  · rename_i j hj
    cases hb : Nat.blt j n with
    | false => simp [hb] at e
    | true =>
      simp [hb] at e; subst e
      exact ⟨blt_true hb, natOf_some hj⟩
  · simp at e

theorem q_idxArr {o : Oper} {t e : TypeId} {m : Nat} {x j : Operand} {x' j' : Od} {i : TypeInfo} (ho : o.op = .indexAddr t x j) (ht : P.underlying t = some (.array m e)) (hi0 : P.info? e = some i) (hx : cOd x = some x') (hj : cOd j = some j') :
    QOK P o (.idxArr m i.size x' j') := by
  intro g h w a ac v s ha he
  simp only [evQ] at he
  split at he
  · rename_i b off u h1 h2
    split at he
    · rename_i k hk
      simp at he; subst he
      obtain ⟨hlt, kk, rfl⟩ := idxNat_some hk
      obtain ⟨x0, n, hφ, ev⟩ := od_sound ha hx h1
      have e2 := od_sound ha hj h2
      rw [VR] at e2
      refine ⟨_, ⟨x0, n, hφ, rfl⟩, ?_⟩
      simp only [execOp, ho, Instr.indexAt, e2, asIntOf, Sem.run_bind, Sem.run_pure, Result.andThen_ok, run_underlying ht, ev, Instr.sureAddr]
      rw [if_pos ⟨by simp, by simp; omega⟩]
      simp [run_sizeOf hi0, addr_add]
    · simp at he
  · simp at he

theorem q_idxSl {o : Oper} {t e : TypeId} {x j : Operand} {x' j' : Od} {i : TypeInfo} (ho : o.op = .indexAddr t x j) (ht : P.underlying t = some (.slice e)) (hi0 : P.info? e = some i) (hx : cOd x = some x') (hj : cOd j = some j') :
    QOK P o (.idxSl i.size x' j') := by
  intro g h w a ac v s ha he
  simp only [evQ] at he
  split at he
  · rename_i b off len sz cap u h1 h2
    split at he
    · rename_i k hk
      cases hz : Nat.beq i.size sz with
      | false => simp [hz] at he
      | true =>
        simp only [hz, cond_true, Option.some.injEq] at he; subst he
        obtain ⟨hlt, kk, rfl⟩ := idxNat_some hk
        obtain ⟨x0, n, c, hφ, ev, _⟩ := od_sound ha hx h1
        have e2 := od_sound ha hj h2
        rw [VR] at e2
        refine ⟨_, ⟨x0, n, hφ, rfl⟩, ?_⟩
        simp only [execOp, ho, Instr.indexAt, e2, asIntOf, Sem.run_bind, Sem.run_pure, Result.andThen_ok, run_underlying ht, ev]
        rw [if_pos ⟨by simp, by simp; omega⟩]
        simp [run_sizeOf hi0, addr_add]
    · simp at he
  · simp at he

/-- A part of an aggregate. -/
theorem part_sound {t : TypeId} {agg : Option Nat} (ht : aggOf P t = some agg) {l : List AV} {vs : List Value} (hv : VRL g l vs) {off : Nat} {v : AV}
    (he : partAV agg l off = some v) (w : World) : ∃ vc, VR g v vc ∧ (part t vs.toArray off).run P w = .ok vc w := by
  cases agg with
  | none =>
    simp only [partAV] at he
    rw [nth_eq] at he
    obtain ⟨u, hu, hr⟩ := hv.get he
    exact ⟨u, hr, by simp [part, run_isAgg_no ht, hu]⟩
  | some n =>
    simp only [partAV] at he
    cases hb : Nat.ble (off + n) l.length with
    | false => simp [hb] at he
    | true =>
      simp [hb] at he; subst he
      obtain ⟨e1, e2⟩ := run_isAgg_yes ht w
      refine ⟨.agg (vs.toArray.extract off (off + n)), ⟨(vs.drop off).take n, ?_, (hv.drop off).take n⟩, by simp [part, e1, e2]⟩
      simp [List.extract_eq_take_drop]

theorem q_field {o : Oper} {t : TypeId} {x : Operand} {x' : Od} {fi : Nat} {F : Array Field} {fd : Field} {agg : Option Nat} (ho : o.op = .field t x fi) (ht : P.underlying t = some (.struct F)) (hf : F[fi]? = some fd) (hag : aggOf P fd.type = some agg)
    (hx : cOd x = some x') : QOK P o (.field fd.offset agg x') := by
  intro g h w a ac v s ha he
  simp only [evQ] at he
  split at he
  · rename_i l hl
    obtain ⟨vs, ev, hv⟩ := od_sound ha hx hl
    obtain ⟨vc, h1, h2⟩ := part_sound hag hv he w
    refine ⟨vc, h1, ?_⟩
    simp only [execOp, ho, Instr.field, Sem.run_bind, run_underlying ht, Result.andThen_ok, hf, ev, asAgg, Sem.run_pure, h2]
  · simp at he

theorem q_idxAgg {o : Oper} {t e : TypeId} {m : Nat} {x j : Operand} {x' j' : Od} {i : TypeInfo} {agg : Option Nat} (ho : o.op = .index t x j) (ht : P.underlying t = some (.array m e)) (hi0 : P.info? e = some i) (hag : aggOf P e = some agg) (hx : cOd x = some x') (hj : cOd j = some j') :
    QOK P o (.idxAgg m i.size agg x' j') := by
  intro g h w a ac v s ha he
  simp only [evQ] at he
  split at he
  · rename_i l u h1 h2
    split at he
    · rename_i k hk
      obtain ⟨hlt, kk, rfl⟩ := idxNat_some hk
      obtain ⟨vs, ev, hv⟩ := od_sound ha hx h1
      have e2 := od_sound ha hj h2
      rw [VR] at e2
      obtain ⟨vc, h3, h4⟩ := part_sound hag hv he w
      refine ⟨vc, h3, ?_⟩
      simp only [execOp, ho, Instr.index, e2, asIntOf, Sem.run_bind, Sem.run_pure, Result.andThen_ok, run_underlying ht, ev]
      rw [if_pos ⟨by simp, by simp; omega⟩]
      simp [run_sizeOf hi0, h4]
    · simp at he
  · simp at he

theorem q_idxStr {o : Oper} {t : TypeId} {x j : Operand} {x' j' : Od} (ho : o.op = .index t x j) (ht : P.underlying t = some .string) (hx : cOd x = some x') (hj : cOd j = some j') :
    QOK P o (.idxStr x' j') := by
  intro g h w a ac v s ha he
  simp only [evQ] at he
  split at he
  · rename_i str u h1 h2
    split at he
    · rename_i k hk
      split at he
      · rename_i b hb
        simp at he; subst he
        obtain ⟨kk, rfl⟩ := natOf_some hk
        have ev := od_sound ha hx h1
        have e2 := od_sound ha hj h2
        simp only [VR] at ev e2
        rw [nth_eq] at hb
        refine ⟨_, rfl, ?_⟩
        have hg : (⟨str.toArray⟩ : ByteArray)[k]? = some b := by
          have hlt : k < str.length := by
            rcases Nat.lt_or_ge k str.length with h | h
            · exact h
            · rw [List.getElem?_eq_none h] at hb; simp at hb
          rw [getElem?_pos _ _ (by rw [str_size]; exact hlt)]
          rw [List.getElem?_eq_getElem hlt] at hb
          simp at hb
          rw [← hb]; rfl
        simp only [execOp, ho, Instr.index, e2, asIntOf, Sem.run_bind, Sem.run_pure, Result.andThen_ok, run_underlying ht, ev]
        simp only [Int.ofNat_eq_natCast, Int.toNat_natCast]
        rw [if_pos (by simp)]
        simp [hg, norm_eq]
      · simp at he
    · simp at he
  · simp at he

end Go.Ev
end PEvS5
/- What only reads is sound: bytes, maps, interfaces, lengths. -/
section PEvS6
set_option linter.unusedSimpArgs false
namespace Go.Ev
variable {P : Program} {g : Gh} {h : AH} {w : World}

theorem bytesOf_sound : ∀ {l : List AV} {vs : List Value} {s : List UInt8}, evQ.bytesOf l = some s → VRL g l vs → vs = s.map fun b => Value.int .u8 b.toNat
  | [], vs, s, e, h => by
    simp [evQ.bytesOf] at e; subst e
    rw [VRL] at h; subst h
    rfl
  | a :: l, vs, s, e, h => by
    unfold evQ.bytesOf at e
    split at e
    · rename_i heq; cases heq
    · rename_i n l' heq
      simp only [List.cons.injEq] at heq
      obtain ⟨rfl, rfl⟩ := heq
      cases hb : Nat.ble n 255 with
      | false => simp [hb] at e
      | true =>
        simp only [hb, cond_true] at e
        split at e
        · rename_i s' hs'
          simp at e; subst e
          rw [VRL] at h
          obtain ⟨v, ws, rfl, hv, hw⟩ := h
          rw [VR] at hv; subst hv
          rw [bytesOf_sound hs' hw]
          have hle : n ≤ 255 := by simpa using hb
          have : (UInt8.ofNat n).toNat = n := by simp; omega
          simp [this]
        · cases e
    · cases e

theorem q_b2s {o : Oper} {t u e : TypeId} {x : Operand} {x' : Od} (ho : o.op = .convert t u x) (ht : P.underlying t = some (.slice e)) (he0 : P.underlying e = some (.int .u8)) (hu : P.underlying u = some .string) (hx : cOd x = some x') : QOK P o (.b2s x') := by
  intro g h w a ac v s ha he
  simp only [evQ] at he
  split at he
  · rename_i h1
    have ev := od_sound ha hx h1
    rw [VR] at ev
    simp at he; subst he
    refine ⟨_, rfl, ?_⟩
    simp [execOp, ho, ev, run_convert_bytes_string w t u e _ _ _ ht he0 hu, Conv.bytesToString]
    rfl
  · rename_i b off len cap h1
    obtain ⟨x0, n, c, hφ, ev, _⟩ := od_sound ha hx h1
    split at he
    · rename_i l hl
      split at he
      · rename_i str hs
        simp at he; subst he
        obtain ⟨vs, h2, h3, h4⟩ := s.cells_of hφ hl
        have en := bytesOf_sound hs h2
        subst en
        refine ⟨_, rfl, ?_⟩
        have hl2 := run_loadCells_of P h3 h4
        have := run_bytesToString (P := P) w ⟨x0, off, none⟩ len c (str.map fun b => (b.toNat : Int)) (by rw [hl2, List.map_map]; rfl)
        simp only [execOp, ho, ev, Sem.run_bind, run_convert_bytes_string w t u e _ _ _ ht he0 hu, this, Result.andThen_ok, foldl_push_bytes]
        simp [ByteArray.empty, ByteArray.emptyWithCapacity]
        show List.map ((fun n : Int => UInt8.ofNat n.toNat) ∘ fun b : UInt8 => (b.toNat : Int)) str = str
        rw [show ((fun n : Int => UInt8.ofNat n.toNat) ∘ fun b : UInt8 => (b.toNat : Int)) = id from funext fun b => by simp]
        simp
      · simp at he
    · simp at he
  · rename_i h1
    obtain ⟨a0, c, ev⟩ := od_sound ha hx h1
    simp at he; subst he
    refine ⟨_, rfl, ?_⟩
    have := run_bytesToString (P := P) w a0 0 c [] (by simp [loadCells, loadCellsFrom])
    simp only [execOp, ho, ev, Sem.run_bind, run_convert_bytes_string w t u e _ _ _ ht he0 hu, this, Result.andThen_ok, foldl_push_bytes]
    simp [ByteArray.empty, ByteArray.emptyWithCapacity]
    rfl
  · simp at he

/-! ### maps -/
def FKD (fk : FK) (d : TypeDesc) : Prop := (fk = .b ∧ d = .bool) ∨ (fk = .i ∧ ∃ k, d = .int k) ∨ (fk = .s ∧ d = .string)
theorem fkOf_desc {t : TypeId} {fk : FK} (e : fkOf P t = some fk) : ∃ d, P.underlying t = some d ∧ FKD fk d := by
  unfold fkOf at e
  split at e <;> simp at e <;> subst e
  · exact ⟨_, ‹_›, .inl ⟨rfl, rfl⟩⟩
  · exact ⟨_, ‹_›, .inr (.inl ⟨rfl, _, rfl⟩)⟩
  · exact ⟨_, ‹_›, .inr (.inr ⟨rfl, rfl⟩)⟩

theorem mkOf_cases {t : TypeId} {fk : FK} (e : mkOf P t = some fk) : fkOf P t = some fk ∨ ∃ fs ks, P.underlying t = some (.struct fs) ∧ P.stoodInHeld t = false ∧ flatKs P fs.toList 0 = some ks ∧ ks.all FK.isI = true ∧ fk = .is ks.length := by
  unfold mkOf at e
  split at e
  · rename_i k hk; simp only [Option.some.injEq] at e; subst e; exact .inl hk
  · split at e
    · rename_i fs hu
      split at e
      · rename_i hs
        split at e
        · rename_i ks hk
          split at e
          · rename_i hi
            simp only [Option.some.injEq] at e; subst e
            exact .inr ⟨fs, ks, hu, hs, hk, hi, rfl⟩
          · cases e
        · cases e
      · cases e
    · cases e

theorem eqK_now {fk : FK} {d : TypeDesc} (hd : FKD fk d) {a b : AV} {x y : Value} {r : Bool} (he : eqK fk a b = some r) (ha : VR g a x) (hb : VR g b y) : Instr.sameNow d x y = some r := by
  unfold eqK at he
  split at he
  · simp only [VR] at ha hb; subst ha; subst hb
    rename_i k m k' n
    cases hk : kbeq k k' with
    | false => simp [hk] at he
    | true =>
      simp [hk] at he; subst he
      have := kbeq_eq hk; subst this
      rcases hd with ⟨h, _⟩ | ⟨_, k0, rfl⟩ | ⟨h, _⟩ <;> (try (cases h; done))
      simp [Instr.sameNow, ieq_eq]
  · simp only [VR] at ha hb; subst ha; subst hb
    simp at he; subst he
    rcases hd with ⟨h, _⟩ | ⟨h, _⟩ | ⟨_, rfl⟩ <;> (try (cases h; done))
    simp only [Instr.sameNow, beq_toListBytes, ByteArray.toList_mk, beqB_eq]
  · rename_i p q
    simp only [VR] at ha hb; subst ha; subst hb
    simp at he; subst he
    rcases hd with ⟨_, rfl⟩ | ⟨h, _⟩ | ⟨h, _⟩ <;> (try (cases h; done))
    cases p <;> cases q <;> rfl
  · rcases hd with ⟨h, _⟩ | ⟨h, _⟩ | ⟨h, _⟩ <;> cases h
  · simp at he

theorem run_checkKey {fk : FK} {d : TypeDesc} (hd : FKD fk d) {t : TypeId} (ht : P.underlying t = some d) (em : Bool) (n : Nat) (v : Value) (w : World) : (Instr.checkKey em (n + 1) t v).run P w = .ok () w := by
  rcases hd with ⟨_, rfl⟩ | ⟨_, k, rfl⟩ | ⟨_, rfl⟩ <;> simp [Instr.checkKey, run_underlying ht]

theorem find_sound {fk : FK} {d : TypeDesc} (hd : FKD fk d) {key : AV} {kv : Value} (hk : VR g key kv) : ∀ (ents : List (AV × AV × Nat)) (es : List MapEntry) (i : Nat) (r : Option AV), evQ.find fk key ents = some r →
    VRL g (ents.map (·.1)) (es.map (·.key)) → VRL g (ents.map (·.2.1)) (es.map (·.val)) → (r = none → Instr.findNow d kv es i = some none) ∧ ∀ v, r = some v → ∃ j vc, Instr.findNow d kv es i = some (some (j, vc)) ∧ VR g v vc
  | [], es, i, r, he, h1, _ => by
    simp [evQ.find] at he; subst he
    simp [VRL] at h1
    subst h1
    exact ⟨fun _ => rfl, fun v hv => by simp at hv⟩
  | (k, v, b) :: ents, es, i, r, he, h1, h2 => by
    cases es with
    | nil => simp [VRL] at h1
    | cons e es =>
      simp only [List.map_cons, VRL, List.cons.injEq] at h1 h2
      obtain ⟨_, _, ⟨rfl, rfl⟩, hk1, h1'⟩ := h1
      obtain ⟨_, _, ⟨rfl, rfl⟩, hv1, h2'⟩ := h2
      simp only [evQ.find] at he
      split at he
      · rename_i hek
        simp at he; subst he
        have := eqK_now hd hek hk hk1
        refine ⟨fun h => by simp at h, fun v' hv' => ?_⟩
        simp at hv'; subst hv'
        exact ⟨i, e.val, by simp [Instr.findNow, this], hv1⟩
      · rename_i hek
        have := eqK_now hd hek hk hk1
        have ih := find_sound hd hk ents es (i + 1) r he h1' h2'
        simpa [Instr.findNow, this] using ih
      · simp at he

theorem equal_is {kt : TypeId} {fs : Array Field} {ks : List FK} (hu : P.underlying kt = some (.struct fs)) (hs : P.stoodInHeld kt = false) (hk : flatKs P fs.toList 0 = some ks) (hi : ks.all FK.isI = true) {key k : AV} {kv kw : Value} (hkv : VR g key kv) (hk1 : VR g k kw) {q : Bool} (hq : eqK (.is ks.length) key k = some q) (w : World) : (Op.equal kt kv kw).run P w = .ok q w := by
  unfold eqK at hq
  split at hq <;> (try (rename_i e0 _ _; cases e0; done)) <;> (try (rename_i e0; cases e0; done))
  · rename_i n l m e0
    cases e0
    simp only [VR] at hkv hk1
    obtain ⟨vs, rfl, q1⟩ := hkv
    obtain ⟨us, rfl, q2⟩ := hk1
    cases hb : (Nat.beq l.length ks.length && Nat.beq m.length ks.length) with
    | false => simp [hb] at hq
    | true =>
      simp only [hb, cond_true] at hq
      simp only [Bool.and_eq_true] at hb
      have l1 := Nat.eq_of_beq_eq_true hb.1
      have l2 := Nat.eq_of_beq_eq_true hb.2
      have hfo : P.fieldsOf kt = fs := by simp [Program.fieldsOf, hu]
      show (Op.equalIn (9999 + 1) kt _ _).run P w = _
      rw [run_equalIn_agg w 9999 kt _ _ (by rw [hfo]; exact hu) hs, hfo]
      exact eqFlat_sound 9998 w fs.toList 0 ks _ _ q hk (by simpa using q1) (by simpa using q2) (eqInts_flat ks l m q hi l1 l2 hq)
  · cases hq
/-- What a key is found to be, however it is looked for. -/
theorem findAsking_is {kt : TypeId} {fs : Array Field} {ks : List FK} (hu : P.underlying kt = some (.struct fs)) (hs : P.stoodInHeld kt = false) (hk : flatKs P fs.toList 0 = some ks) (hi : ks.all FK.isI = true) {key : AV} {kv : Value} (hkv : VR g key kv) (w : World) : ∀ (ents : List (AV × AV × Nat)) (es : List MapEntry) (i : Nat) (r : Option AV), evQ.find (.is ks.length) key ents = some r →
    VRL g (ents.map (·.1)) (es.map (·.key)) → VRL g (ents.map (·.2.1)) (es.map (·.val)) → (r = none → (Instr.findAsking kt kv es i).run P w = .ok none w) ∧ ∀ v, r = some v → ∃ j vc, (Instr.findAsking kt kv es i).run P w = .ok (some (j, vc)) w ∧ VR g v vc
  | [], es, i, r, he, h1, _ => by
    simp [evQ.find] at he; subst he
    simp [VRL] at h1
    subst h1
    exact ⟨fun _ => by simp [Instr.findAsking], fun v hv => by simp at hv⟩
  | (k, v, b) :: ents, es, i, r, he, h1, h2 => by
    cases es with
    | nil => simp [VRL] at h1
    | cons e es =>
      simp only [List.map_cons, VRL, List.cons.injEq] at h1 h2
      obtain ⟨_, _, ⟨rfl, rfl⟩, hk1, h1'⟩ := h1
      obtain ⟨_, _, ⟨rfl, rfl⟩, hv1, h2'⟩ := h2
      have heq : ∀ q, eqK (.is ks.length) key k = some q → (Op.equal kt kv e.key).run P w = .ok q w := by
        intro q hq
        exact equal_is hu hs hk hi hkv hk1 hq w
      simp only [evQ.find] at he
      split at he
      · rename_i hek
        simp at he; subst he
        refine ⟨fun h => by simp at h, fun v' hv' => ?_⟩
        simp at hv'; subst hv'
        exact ⟨i, e.val, by simp [Instr.findAsking, heq _ hek], hv1⟩
      · rename_i hek
        have ih := findAsking_is hu hs hk hi hkv w ents es (i + 1) r he h1' h2'
        simpa [Instr.findAsking, heq _ hek] using ih
      · simp at he

theorem sameNow_struct {fs : Array Field} (x y : Value) : Instr.sameNow (.struct fs) x y = none := by
  unfold Instr.sameNow
  split <;> first | rfl | (rename_i e; cases e) | (rename_i e _ ; cases e) | (rename_i e _ _; cases e)
theorem findKey_run {kt : TypeId} {fk : FK} (hm : mkOf P kt = some fk) {key : AV} {kv : Value} (hk : VR g key kv) (w : World) {ents : List (AV × AV × Nat)} {es : List MapEntry} {r : Option AV} (he : evQ.find fk key ents = some r)
    (h1 : VRL g (ents.map (·.1)) (es.map (·.key))) (h2 : VRL g (ents.map (·.2.1)) (es.map (·.val))) : (r = none → (Instr.findKey kt kv es).run P w = .ok none w) ∧ ∀ v, r = some v → ∃ j vc, (Instr.findKey kt kv es).run P w = .ok (some (j, vc)) w ∧ VR g v vc := by
  rcases mkOf_cases hm with hfk | ⟨fs, ks, hu, hs, hks, hi, rfl⟩
  · obtain ⟨d, hd, hfd⟩ := fkOf_desc hfk
    obtain ⟨f1, f2⟩ := find_sound hfd hk ents es 0 r he h1 h2
    refine ⟨fun e => ?_, fun v e => ?_⟩
    · simp only [Instr.findKey, Sem.run_bind, run_underlying hd, Result.andThen_ok, f1 e, Sem.run_pure]
    · obtain ⟨j, vc, f3, f4⟩ := f2 v e
      exact ⟨j, vc, by simp only [Instr.findKey, Sem.run_bind, run_underlying hd, Result.andThen_ok, f3, Sem.run_pure], f4⟩
  · obtain ⟨f1, f2⟩ := findAsking_is hu hs hks hi hk w ents es 0 r he h1 h2
    cases es with
    | nil =>
      have hr : r = none := by
        cases ents with
        | nil => simpa [evQ.find] using he.symm
        | cons a l => simp [VRL] at h1
      exact ⟨fun _ => by simp [Instr.findKey, run_underlying hu, Instr.findNow], fun v e => by rw [hr] at e; cases e⟩
    | cons e es =>
      have hn : Instr.findNow (.struct fs) kv (e :: es) 0 = none := by simp [Instr.findNow, sameNow_struct]
      refine ⟨fun e => ?_, fun v e => ?_⟩
      · simp only [Instr.findKey, Sem.run_bind, run_underlying hu, Result.andThen_ok, hn, f1 e]
      · obtain ⟨j, vc, f3, f4⟩ := f2 v e
        exact ⟨j, vc, by simp only [Instr.findKey, Sem.run_bind, run_underlying hu, Result.andThen_ok, hn, f3], f4⟩

theorem checkFields {em : Bool} {cs : Array Value} (n : Nat) (w : World) : ∀ (fs : List Field) (i : Nat) (ks : List FK), flatKs P fs i = some ks → (∀ v ∈ cs.toList, True) → i + ks.length ≤ cs.size →
    (forIn fs PUnit.unit (fun f (_ : PUnit) => if f.name ≠ "_" then (do
        let v ← part f.type cs f.offset
        Instr.checkKey em (n + 1) f.type v
        pure (ForInStep.yield PUnit.unit)) else pure (ForInStep.yield PUnit.unit)) : Sem PUnit).run P w = .ok PUnit.unit w
  | [], i, ks, hk, _, _ => by simp
  | f :: fs, i, ks, hk, hc, hl => by
    simp only [flatKs] at hk
    split at hk
    · rename_i hf
      obtain ⟨hn, ho⟩ := hf
      simp only [Option.bind_eq_bind, Option.bind_eq_some_iff, Option.some.injEq] at hk
      obtain ⟨k, hk1, ks', hk2, rfl⟩ := hk
      simp only [List.length_cons] at hl
      have hlt : i < cs.size := by omega
      have pa : (part f.type cs f.offset).run P w = .ok cs[i] w := by simp [part, fk_notAgg hk1, ho, hlt]
      obtain ⟨d, hd, hfd⟩ := fkOf_desc hk1
      have ih := checkFields (em := em) n w fs (i + 1) ks' hk2 hc (by omega)
      simp only [List.forIn_cons, Sem.run_bind]
      rw [if_pos hn]
      simp only [Sem.run_bind, pa, Result.andThen_ok, run_checkKey hfd hd, Sem.run_pure]
      exact ih
    · simp at hk
theorem checkKey_run {kt : TypeId} {fk : FK} (hm : mkOf P kt = some fk) {key : AV} {kv : Value} (hk : VR g key kv) (hf : keyFits fk key = true) (em : Bool) (w : World) : (Instr.checkKey em 10000 kt kv).run P w = .ok () w := by
  rcases mkOf_cases hm with hfk | ⟨fs, ks, hu, hs, hks, hi, rfl⟩
  · obtain ⟨d, hd, hfd⟩ := fkOf_desc hfk
    exact run_checkKey hfd hd em 9999 kv w
  · cases key <;> simp [keyFits] at hf
    rename_i l
    simp only [VR] at hk
    obtain ⟨vs, rfl, q1⟩ := hk
    have hl := q1.length
    have := checkFields (em := em) (cs := vs.toArray) 9998 w fs.toList 0 ks hks (fun _ _ => trivial) (by simp; omega)
    rw [show (10000 : Nat) = 9999 + 1 from rfl, Instr.checkKey]
    simp only [Sem.run_bind, run_underlying hu, Result.andThen_ok]
    rw [← Array.forIn_toList]
    rw [this]
    simp

theorem Sim.map_at (s : Sim g h w) {b x n : Nat} {es : List (AV × AV × Nat)} {c : Nat} (hb : h.get b = some (.map es c)) (hx : g.φ b = some (x, n)) :
    ∃ ms : List MapEntry, w.heap[x]? = some (.map ms.toArray c) ∧ VRL g (es.map (·.1)) (ms.map (·.key)) ∧ VRL g (es.map (·.2.1)) (ms.map (·.val)) ∧ es.map (·.2.2) = ms.map (·.born) := by
  obtain ⟨x', n', ob, h1, h2, h3⟩ := s.obj _ _ hb
  rw [hx] at h1; simp at h1; obtain ⟨rfl, rfl⟩ := h1
  obtain ⟨ms, rfl, h4, h5, h6⟩ := h3
  exact ⟨ms, h2, h4, h5, h6⟩

theorem run_getObj_map {x : Nat} {ms : Array MapEntry} {c : Nat} (hx : w.heap[x]? = some (.map ms c)) : (getObj x).run P w = .ok (.map ms c) w := by
  simp [getObj, Sem.run, hx]

theorem q_lookup {o : Oper} {t kt et : TypeId} {x j : Operand} {x' j' : Od} {ok : Bool} {fk : FK} {i : TI} (ho : o.op = .lookup t x j ok) (ht : P.underlying t = some (.map kt et)) (hfk : mkOf P kt = some fk) (hi : tinfo P et = some i)
    (hx : cOd x = some x') (hj : cOd j = some j') : QOK P o (.lookup fk i.zero ok x' j') := by
  intro g h w a ac v s ha he
  obtain ⟨ti, z, z1, z2, _, _, z3, _⟩ := tinfo_some hi
  simp only [evQ] at he
  split at he
  · rename_i b key h1 h2
    obtain ⟨x0, n, hφ, ev⟩ := od_sound ha hx h1
    have ek := od_sound ha hj h2
    split at he
    · rename_i es c hb
      obtain ⟨ms, m1, m2, m3, _⟩ := s.map_at hb hφ
      cases hfit : keyFits fk key with
      | false => simp [hfit] at he
      | true =>
      simp only [hfit, cond_true] at he
      have hck := fun em => checkKey_run hfk ek hfit em w
      split at he
      · rename_i u hu
        obtain ⟨_, f2⟩ := findKey_run hfk ek w hu m2 m3
        obtain ⟨jj, vc, hfind, f4⟩ := f2 u rfl
        simp at he; subst he
        refine ⟨if ok then .tuple #[vc, .bool true] else vc, ?_, ?_⟩
        · cases ok <;> simp only [cond_true, cond_false, if_true, Bool.false_eq_true, if_false]
          · exact f4
          · exact ⟨[vc, .bool true], rfl, ⟨_, _, rfl, f4, _, _, rfl, rfl, rfl⟩⟩
        · simp only [execOp, ho, Instr.lookup, Sem.run_bind, run_underlying ht, Result.andThen_ok, ev, run_getObj_map m1, Sem.run_pure, hck, hfind]
      · rename_i hu
        obtain ⟨f1, _⟩ := findKey_run hfk ek w hu m2 m3
        have hfind := f1 rfl
        simp at he; subst he
        refine ⟨if ok then .tuple #[z, .bool false] else z, ?_, ?_⟩
        · cases ok <;> simp only [cond_true, cond_false, if_true, Bool.false_eq_true, if_false]
          · exact absV_sound 9 z3
          · exact ⟨[z, .bool false], rfl, ⟨_, _, rfl, absV_sound 9 z3, _, _, rfl, rfl, rfl⟩⟩
        · simp only [execOp, ho, Instr.lookup, Sem.run_bind, run_underlying ht, Result.andThen_ok, ev, run_getObj_map m1, Sem.run_pure, hck, hfind, run_zeroValue z1 z2]
      · simp at he
    · simp at he
  · simp at he

/-! ### interfaces -/
theorem tup2 {a b : AV} {x y : Value} (h1 : VR g a x) (h2 : VR g b y) : VR g (.tup [a, b]) (.tuple #[x, y]) := ⟨[x, y], rfl, ⟨_, _, rfl, h1, _, _, rfl, h2, rfl⟩⟩

theorem q_tassert {o : Oper} {xt t : TypeId} {x : Operand} {x' : Od} {ok : Bool} {i : TI} {d : TypeDesc} (ho : o.op = .typeAssert x xt t ok) (ht : P.underlying t = some d) (hd : ∀ ms, d ≠ .interface ms) (hi : tinfo P t = some i) (hx : cOd x = some x') :
    QOK P o (.tassert t i.zero ok x') := by
  intro g h w a ac v s ha he
  obtain ⟨ti, z, z1, z2, _, _, z3, _⟩ := tinfo_some hi
  simp only [evQ] at he
  split at he
  · rename_i u y h1
    obtain ⟨yv, ev, hy⟩ := od_sound ha hx h1
    cases hb : Nat.beq u t with
    | true =>
      have : u = t := by simpa using hb
      subst this
      simp [hb] at he; subst he
      refine ⟨if ok then .tuple #[yv, .bool true] else yv, ?_, ?_⟩
      · cases ok <;> simp only [cond_true, cond_false, if_true, Bool.false_eq_true, if_false]
        · exact hy
        · exact tup2 hy rfl
      · simp only [execOp, ho, Instr.typeAssert, Sem.run_bind, run_underlying ht, Result.andThen_ok, ev]
        cases d <;> first | (exact absurd rfl (hd _)) | (simp; done)
    | false =>
      have hne : u ≠ t := by intro e; subst e; simp at hb
      cases ok <;> simp [hb] at he
      subst he
      refine ⟨_, tup2 (absV_sound 9 z3) rfl, ?_⟩
      simp only [execOp, ho, Instr.typeAssert, Sem.run_bind, run_underlying ht, Result.andThen_ok, ev]
      cases d <;> first | (exact absurd rfl (hd _)) | (simp [hne, run_zeroValue z1 z2]; done)
  · rename_i h1
    have ev := od_sound ha hx h1
    rw [VR] at ev
    cases ok <;> simp at he
    subst he
    refine ⟨_, tup2 (absV_sound 9 z3) rfl, ?_⟩
    simp only [execOp, ho, Instr.typeAssert, Sem.run_bind, run_underlying ht, Result.andThen_ok, ev]
    cases d <;> first | (exact absurd rfl (hd _)) | (simp [run_zeroValue z1 z2]; done)
  · simp at he

theorem q_tassertI {o : Oper} {xt t : TypeId} {x : Operand} {x' : Od} {ok : Bool} {i : TI} {want : Array (String × TypeId)} {yes no : List TypeId} (ho : o.op = .typeAssert x xt t ok) (ht : P.underlying t = some (.interface want)) (hi : tinfo P t = some i)
    (hyes : ∀ u ∈ yes, ∃ ui, P.info? u = some ui ∧ Instr.missingMethod want ui.methods = none) (hno : ∀ u ∈ no, ∃ ui m, P.info? u = some ui ∧ Instr.missingMethod want ui.methods = some m) (hx : cOd x = some x') :
    QOK P o (.tassertI i.zero ok yes no x') := by
  intro g h w a ac v s ha he
  obtain ⟨ti, z, z1, z2, _, _, z3, _⟩ := tinfo_some hi
  simp only [evQ] at he
  split at he
  · rename_i u y h1
    have hv := od_sound ha hx h1
    obtain ⟨yv, ev, hy⟩ := hv
    cases hb : yes.any (Nat.beq u) with
    | true =>
      obtain ⟨u', hu', hbeq⟩ := List.any_eq_true.1 hb
      have : u = u' := by simpa using hbeq
      subst this
      obtain ⟨ui, e1, e2⟩ := hyes u hu'
      simp [hb] at he; subst he
      refine ⟨if ok then .tuple #[.iface u yv, .bool true] else .iface u yv, ?_, ?_⟩
      · cases ok <;> simp only [cond_true, cond_false, if_true, Bool.false_eq_true, if_false]
        · exact ⟨_, rfl, hy⟩
        · exact tup2 ⟨_, rfl, hy⟩ rfl
      · simp [execOp, ho, Instr.typeAssert, run_underlying ht, ev, run_typeInfo e1, e2]
    | false =>
      simp only [hb, cond_false] at he
      cases hn : (ok && no.any (Nat.beq u)) with
      | false => simp [hn] at he
      | true =>
        simp only [hn, cond_true, Option.some.injEq] at he; subst he
        simp only [Bool.and_eq_true] at hn
        obtain ⟨rfl, hn⟩ := hn
        obtain ⟨u', hu', hbeq⟩ := List.any_eq_true.1 hn
        have : u = u' := by simpa using hbeq
        subst this
        obtain ⟨ui, m, e1, e2⟩ := hno u hu'
        refine ⟨_, tup2 (absV_sound 9 z3) rfl, ?_⟩
        simp [execOp, ho, Instr.typeAssert, run_underlying ht, ev, run_typeInfo e1, e2, run_zeroValue z1 z2]
  · rename_i h1
    have ev := od_sound ha hx h1
    rw [VR] at ev
    cases ok <;> simp at he
    subst he
    refine ⟨_, tup2 (absV_sound 9 z3) rfl, ?_⟩
    simp [execOp, ho, Instr.typeAssert, run_underlying ht, ev, run_zeroValue z1 z2]
  · simp at he

/-! ### lengths -/
theorem exec_builtin {o : Oper} {c : Call} {b : Builtin} (ho : o.op = .call c) (hc : c.callee = .builtin b) (ρ : Operand → Value) :
    ∃ cs, execOp ρ o = builtin b c.argTypes o.type cs (c.args.map ρ) := by
  simp only [execOp, ho, resolve, hc, invoke, pure_bind]
  exact ⟨_, rfl⟩
theorem uData_nil (at_ : Array TypeId) (t : TypeId) (l c : Nat) : Builtin.unsafeSliceData_ at_ t #[.slice none l c] = pure (.pointer none) := rfl
theorem uData_some (at_ : Array TypeId) (t : TypeId) (a : Addr) (l c : Nat) (hc : c ≠ 0) (w : World) : (Builtin.unsafeSliceData_ at_ t #[.slice (some a) l c]).run P w = .ok (.pointer (some a)) w := by
  change Sem.run P (if c ≠ 0 then pure (Value.pointer (some a)) else _) w = _
  rw [if_pos hc]; rfl

theorem q_lenS {o : Oper} {c : Call} {t : TypeId} {x : Operand} {x' : Od} (ho : o.op = .call c) (hc : c.callee = .builtin .len) (ha0 : c.args.toList = [x]) (ht0 : c.argTypes[0]? = some t) (ht : P.underlying t = some .string) (hx : cOd x = some x') : QOK P o (.lenS x') := by
  intro g h w a ac v s ha he
  have ea : c.args = #[x] := by apply Array.ext'; simpa using ha0
  simp only [evQ] at he
  split at he
  · rename_i str h1
    have ev := od_sound ha hx h1
    rw [VR] at ev
    simp at he; subst he
    refine ⟨_, rfl, ?_⟩
    obtain ⟨cs, ecs⟩ := exec_builtin ho hc ac.eval
    simp [ecs, builtin, Builtin.len_, ht0, ea, run_underlying ht, ev, str_size, goInt]
  · simp at he

theorem q_lenSl {o : Oper} {c : Call} {t e : TypeId} {x : Operand} {x' : Od} (ho : o.op = .call c) (hc : c.callee = .builtin .len) (ha0 : c.args.toList = [x]) (ht0 : c.argTypes[0]? = some t) (ht : P.underlying t = some (.slice e)) (hx : cOd x = some x') : QOK P o (.lenSl x') := by
  intro g h w a ac v s ha he
  have ea : c.args = #[x] := by apply Array.ext'; simpa using ha0
  simp only [evQ] at he
  split at he
  · rename_i h1
    obtain ⟨x0, n, c0, _, ev, _⟩ := od_sound ha hx h1
    simp at he; subst he
    refine ⟨_, rfl, ?_⟩
    obtain ⟨cs, ecs⟩ := exec_builtin ho hc ac.eval
    simp [ecs, builtin, Builtin.len_, ht0, ea, run_underlying ht, ev, goInt]
  · rename_i h1
    have ev := od_sound ha hx h1
    rw [VR] at ev
    simp at he; subst he
    refine ⟨_, rfl, ?_⟩
    obtain ⟨cs, ecs⟩ := exec_builtin ho hc ac.eval
    simp [ecs, builtin, Builtin.len_, ht0, ea, run_underlying ht, ev, goInt]
  · rename_i h1
    obtain ⟨x0, n, ev⟩ := od_sound ha hx h1
    simp at he; subst he
    refine ⟨_, rfl, ?_⟩
    obtain ⟨cs, ecs⟩ := exec_builtin ho hc ac.eval
    simp [ecs, builtin, Builtin.len_, ht0, ea, run_underlying ht, ev, goInt]
  · simp at he

theorem q_lenMap {o : Oper} {c : Call} {t k e : TypeId} {x : Operand} {x' : Od} (ho : o.op = .call c) (hc : c.callee = .builtin .len) (ha0 : c.args.toList = [x]) (ht0 : c.argTypes[0]? = some t) (ht : P.underlying t = some (.map k e)) (hx : cOd x = some x') : QOK P o (.lenMap x') := by
  intro g h w a ac v s ha he
  have ea : c.args = #[x] := by apply Array.ext'; simpa using ha0
  simp only [evQ] at he
  split at he
  · rename_i b h1
    obtain ⟨x0, n, hφ, ev⟩ := od_sound ha hx h1
    split at he
    · rename_i es cl hb
      obtain ⟨ms, m1, m2, _, _⟩ := s.map_at hb hφ
      simp at he; subst he
      refine ⟨_, rfl, ?_⟩
      have := m2.length
      simp at this
      obtain ⟨cs, ecs⟩ := exec_builtin ho hc ac.eval
      simp [ecs, builtin, Builtin.len_, ht0, ea, run_underlying ht, ev, run_getObj_map m1, goInt, this]
    · simp at he
  · rename_i h1
    have ev := od_sound ha hx h1
    rw [VR] at ev
    simp at he; subst he
    refine ⟨_, rfl, ?_⟩
    obtain ⟨cs, ecs⟩ := exec_builtin ho hc ac.eval
    simp [ecs, builtin, Builtin.len_, ht0, ea, run_underlying ht, ev, goInt]
  · simp at he

theorem q_lenA {o : Oper} {c : Call} {t e : TypeId} {n : Nat} {x : Operand} (ho : o.op = .call c) (hc : c.callee = .builtin .len ∨ c.callee = .builtin .cap) (ha0 : c.args.toList = [x]) (ht0 : c.argTypes[0]? = some t) (ht : P.underlying t = some (.array n e)) : QOK P o (.lenC n) := by
  intro g h w a ac v s ha he
  have ea : c.args = #[x] := by apply Array.ext'; simpa using ha0
  simp only [evQ, Option.some.injEq] at he
  subst he
  refine ⟨_, rfl, ?_⟩
  rcases hc with hc | hc
  · obtain ⟨cs, ecs⟩ := exec_builtin ho hc ac.eval
    simp [ecs, builtin, Builtin.len_, ht0, ea, run_underlying ht, goInt]
  · obtain ⟨cs, ecs⟩ := exec_builtin ho hc ac.eval
    simp [ecs, builtin, Builtin.cap_, ht0, ea, run_underlying ht, goInt]

theorem q_lenP {o : Oper} {c : Call} {t p e : TypeId} {n : Nat} {x : Operand} (ho : o.op = .call c) (hc : c.callee = .builtin .len) (ha0 : c.args.toList = [x]) (ht0 : c.argTypes[0]? = some t) (ht : P.underlying t = some (.pointer p)) (hp : P.underlying p = some (.array n e)) : QOK P o (.lenC n) := by
  intro g h w a ac v s ha he
  have ea : c.args = #[x] := by apply Array.ext'; simpa using ha0
  simp only [evQ, Option.some.injEq] at he
  subst he
  refine ⟨_, rfl, ?_⟩
  obtain ⟨cs, ecs⟩ := exec_builtin ho hc ac.eval
  simp [ecs, builtin, Builtin.len_, ht0, ea, run_underlying ht, run_underlying hp, goInt]

theorem q_capSl {o : Oper} {c : Call} {t e : TypeId} {x : Operand} {x' : Od} (ho : o.op = .call c) (hc : c.callee = .builtin .cap) (ha0 : c.args.toList = [x]) (ht0 : c.argTypes[0]? = some t) (ht : P.underlying t = some (.slice e)) (hx : cOd x = some x') : QOK P o (.capSl x') := by
  intro g h w a ac v s ha he
  have ea : c.args = #[x] := by apply Array.ext'; simpa using ha0
  simp only [evQ] at he
  split at he
  · rename_i c1 h1
    obtain ⟨x0, n, c0, _, ev, _, _, hcap⟩ := od_sound ha hx h1
    have := hcap c1 rfl
    subst this
    simp at he; subst he
    refine ⟨_, rfl, ?_⟩
    obtain ⟨cs, ecs⟩ := exec_builtin ho hc ac.eval
    simp [ecs, builtin, Builtin.cap_, ht0, ea, run_underlying ht, ev, goInt]
  · rename_i h1
    have ev := od_sound ha hx h1
    rw [VR] at ev
    simp at he; subst he
    refine ⟨_, rfl, ?_⟩
    obtain ⟨cs, ecs⟩ := exec_builtin ho hc ac.eval
    simp [ecs, builtin, Builtin.cap_, ht0, ea, run_underlying ht, ev, goInt]
  · simp at he

/-! ### the least, the greatest -/
theorem foldI_sound {less : Int → Int → Bool} {f : Value → Value → Sem Value} (hf : ∀ k m n w, (f (.int k m) (.int k n)).run P w = .ok (.int k (if less m n = true then n else m)) w) :
    ∀ {l : List AV} {vs : List Value} {a v : AV} {x : Value} (w : World), evQ.foldI less a l = some v → VR g a x → VRL g l vs → ∃ vc, VR g v vc ∧ (vs.foldlM f x).run P w = .ok vc w
  | [], vs, a, v, x, w, he, hx, hl => by
    rw [VRL] at hl; subst hl
    cases a <;> simp only [evQ.foldI, Option.some.injEq] at he <;> subst he <;> exact ⟨x, hx, by simp⟩
  | b :: l, vs, a, v, x, w, he, hx, hl => by
    rw [VRL] at hl
    obtain ⟨y, ws, rfl, hy, hl⟩ := hl
    cases a <;> cases b <;> simp only [evQ.foldI] at he <;> (try (simp at he; done))
    rename_i k m k' n
    simp only [VR] at hx hy; subst hx; subst hy
    cases hk : kbeq k k' with
    | false => simp [hk] at he
    | true =>
      have := kbeq_eq hk; subst this
      simp only [hk, cond_true] at he
      obtain ⟨vc, h1, h2⟩ := foldI_sound hf (x := .int k (if less m n = true then n else m)) w he (by cases less m n <;> rfl) hl
      exact ⟨vc, h1, by simp [List.foldlM_cons, hf, h2]⟩

theorem q_minI {o : Oper} {c : Call} {x : Operand} {xs : List Operand} {x' : Od} {xs' : List Od} (ho : o.op = .call c) (hc : c.callee = .builtin .min) (ha0 : c.args.toList = x :: xs) (hx : cOd x = some x') (hxs : xs.mapM cOd = some xs') : QOK P o (.minI x' xs') := by
  intro g h w a ac v s ha he
  simp only [evQ] at he
  split at he
  · rename_i u us h1 h2
    obtain ⟨vc, h3, h4⟩ := foldI_sound (P := P) (f := Builtin.min2) (fun k m n w => by simp [Builtin.min2, ilt_eq]) w he (od_sound ha hx h1) (evs_sound ha hxs h2)
    refine ⟨vc, h3, ?_⟩
    obtain ⟨cs, ecs⟩ := exec_builtin ho hc ac.eval
    simp [ecs, builtin, Builtin.min_, ha0, h4]
  · simp at he

theorem q_maxI {o : Oper} {c : Call} {x : Operand} {xs : List Operand} {x' : Od} {xs' : List Od} (ho : o.op = .call c) (hc : c.callee = .builtin .max) (ha0 : c.args.toList = x :: xs) (hx : cOd x = some x') (hxs : xs.mapM cOd = some xs') : QOK P o (.maxI x' xs') := by
  intro g h w a ac v s ha he
  simp only [evQ] at he
  split at he
  · rename_i u us h1 h2
    obtain ⟨vc, h3, h4⟩ := foldI_sound (P := P) (f := Builtin.max2) (fun k m n w => by simp [Builtin.max2, ilt_eq]) w he (od_sound ha hx h1) (evs_sound ha hxs h2)
    refine ⟨vc, h3, ?_⟩
    obtain ⟨cs, ecs⟩ := exec_builtin ho hc ac.eval
    simp [ecs, builtin, Builtin.max_, ha0, h4]
  · simp at he

/-! ### addresses as such -/
theorem q_uData {o : Oper} {c : Call} {x : Operand} {x' : Od} (ho : o.op = .call c) (hc : c.callee = .builtin .unsafeSliceData) (ha0 : c.args.toList = [x]) (hx : cOd x = some x') : QOK P o (.uData x') := by
  intro g h w a ac v s ha he
  have ea : c.args = #[x] := by apply Array.ext'; simpa using ha0
  simp only [evQ] at he
  split at he
  · rename_i h1
    have ev := od_sound ha hx h1
    rw [VR] at ev
    simp at he; subst he
    obtain ⟨cs, ecs⟩ := exec_builtin ho hc ac.eval
    exact ⟨_, rfl, by simp [ecs, builtin, ea, ev, uData_nil]⟩
  · rename_i h1
    obtain ⟨x0, n, c0, hφ, ev, hle, _⟩ := od_sound ha hx h1
    simp at he; subst he
    refine ⟨_, ⟨x0, n, hφ, rfl⟩, ?_⟩
    have : c0 ≠ 0 := by omega
    obtain ⟨cs, ecs⟩ := exec_builtin ho hc ac.eval
    simp [ecs, builtin, ea, ev, uData_some _ _ _ _ _ this]
  · simp at he

theorem shape_of {x : Nat} {c : Array Value} {e : TypeId} {f : Nat × Nat} (hx : w.heap[x]? = some (.cells c e f)) : w.shape? x = some (e, c.size) := by
  simp [World.shape?, hx]

theorem run_viewAt {x : Nat} {c : Array Value} {e : TypeId} {f : Nat × Nat} (hx : w.heap[x]? = some (.cells c e f)) : (viewAt x).run P w = .ok none w := by
  simp [viewAt, shape_of hx]

theorem q_p2u {o : Oper} {t u e : TypeId} {x : Operand} {x' : Od} {i : TypeInfo} (ho : o.op = .convert t u x) (ht : P.underlying t = some (.pointer e)) (hu : P.underlying u = some .unsafePointer) (hi : P.info? e = some i) (hz : i.size ≠ 0) (hx : cOd x = some x') :
    QOK P o (.p2u x') := by
  intro g h w a ac v s ha he
  simp only [evQ] at he
  split at he
  · rename_i b off h1
    obtain ⟨x0, n, hφ, ev⟩ := od_sound ha hx h1
    split at he
    · rename_i y hy
      simp at he; subst he
      refine ⟨_, ⟨x0, n, hφ, rfl⟩, ?_⟩
      unfold getCell at hy
      split at hy
      · rename_i l e0 fz hb
        obtain ⟨vs, rest, lo, hi0, m1, m2, m3, _⟩ := s.cells_at hb hφ
        rw [nth_eq] at hy
        obtain ⟨vc, hvc, _⟩ := m2.get hy
        have hlt : off < (vs ++ rest).length := by
          rcases Nat.lt_or_ge off vs.length with h | h
          · simp; omega
          · rw [List.getElem?_eq_none h] at hvc; simp at hvc
        have hsz : off < (vs ++ rest).toArray.size := by simpa using hlt
        have hnl : ¬ (vs ++ rest).toArray.size ≤ off := by omega
        simp only [execOp, ho, ev, Sem.run_bind]
        simp only [convert, Sem.run_bind, run_underlying ht, run_underlying hu, Result.andThen_ok]
        simp only [Conv.unsafePointer, Sem.run_bind, run_underlying ht, run_underlying hu, Result.andThen_ok, Conv.seenAt, run_viewAt m1, Sem.run_pure, cellsIn, run_shape, shape_of m1, run_sizeOf hi]
        simp [hz, hnl]
        intro hbad
        simp at hlt
        omega
      · simp at hy
    · simp at he
  · rename_i h1
    have ev := od_sound ha hx h1
    rw [VR] at ev
    simp at he; subst he
    refine ⟨_, rfl, ?_⟩
    simp [execOp, ho, ev, convert, run_underlying ht, run_underlying hu, Conv.unsafePointer]
  · simp at he

theorem q_u2p {o : Oper} {t u e : TypeId} {x : Operand} {x' : Od} {i : TypeInfo} (ho : o.op = .convert t u x) (ht : P.underlying t = some .unsafePointer) (hu : P.underlying u = some (.pointer e)) (hi : P.info? e = some i) (hz : i.size ≠ 0) (hx : cOd x = some x') :
    QOK P o (.u2p e i.size x') := by
  intro g h w a ac v s ha he
  simp only [evQ] at he
  split at he
  · rename_i b h1
    obtain ⟨x0, n, hφ, ev⟩ := od_sound ha hx h1
    split at he
    · rename_i l e0 fz hb
      obtain ⟨vs, rest, lo, hi0, m1, m2, m3, _⟩ := s.cells_at hb hφ
      cases hc : (Nat.beq e0 e && Nat.ble i.size l.length) with
      | false => simp [hc] at he
      | true =>
        simp [hc] at he; subst he
        simp only [Bool.and_eq_true, Nat.beq_eq, Nat.ble_eq] at hc
        obtain ⟨rfl, hle⟩ := hc
        refine ⟨_, ⟨x0, n, hφ, rfl⟩, ?_⟩
        have hlen := m2.length
        have hsize : i.size ≤ (vs ++ rest).toArray.size := by simp; omega
        have hco : P.cellsOf e0 = i.size := by simp [Program.cellsOf, hi]
        have hva : (variablesAt ⟨x0, 0, none⟩ e0 1).run P w = .ok true w := by
          simp only [variablesAt, Sem.run_bind, run_program, Result.andThen_ok, run_shape, shape_of m1, Sem.run_pure]
          congr 1
          obtain ⟨d, hd⟩ : ∃ d, P.depth = d + 1 := ⟨2 * (P.types.size + Made.depth) + 1, rfl⟩
          rw [hd]
          simp only [liesAt]
          rw [Bool.or_eq_true]; left
          rw [hd]
          simp only [rowAt]
          rw [hco, if_neg hz]
          simp only [Nat.zero_div, Nat.zero_mod, beq_self_eq_true, Bool.true_and, Nat.zero_add, Bool.or_eq_true, Bool.and_eq_true, decide_eq_true_eq]
          left
          refine ⟨(Nat.one_le_div_iff (Nat.pos_of_ne_zero hz)).2 hsize, ?_⟩
          simp [hd, sameLayout]
        simp only [execOp, ho, ev, Sem.run_bind]
        simp only [convert, Sem.run_bind, run_underlying ht, run_underlying hu, Result.andThen_ok]
        simp only [Conv.unsafePointer, Sem.run_bind, run_underlying ht, run_underlying hu, Result.andThen_ok, Conv.seenAt, run_viewAt m1, Sem.run_pure, run_sizeOf hi, hva]
        simp
    · simp at he
  · rename_i h1
    have ev := od_sound ha hx h1
    rw [VR] at ev
    simp at he; subst he
    refine ⟨_, rfl, ?_⟩
    simp [execOp, ho, ev, convert, run_underlying ht, run_underlying hu, Conv.unsafePointer]
  · simp at he

/-! ### what has no Go text -/
theorem row_noEscape {fn : Func} (hn : fn.name = "internal/abi.NoEscape") : Extern.find fn = some Extern.AbiNoEscape.same := by
  unfold Extern.find
  rw [hn]
  rfl
theorem row_indexByte {fn : Func} (hn : fn.name = "internal/bytealg.IndexByteString") : Extern.find fn = some Extern.BytealgIndexByte.indexByte := by
  unfold Extern.find
  rw [hn]
  rfl
theorem row_count {fn : Func} (hn : fn.name = "internal/bytealg.CountString") : Extern.find fn = some Extern.BytealgCount.count := by
  unfold Extern.find
  rw [hn]
  rfl
theorem row_noZero {fn : Func} (hn : fn.name = "internal/bytealg.MakeNoZero") : Extern.find fn = some (Extern.BytealgMakeNoZero.makeNoZero fn.params fn.resultTypes) := by
  unfold Extern.find
  rw [hn]
  rfl

theorem exec_extern {o : Oper} {c : Call} {f : FuncId} {fn : Func} {e : Array Value → Sem Value} {ρ : Operand → Value} (ho : o.op = .call c) (hc : c.callee = .value (.func f)) (hρ : ρ (.func f) = .func (.func f) #[] #[]) (hf : P.funcs[f]? = some fn)
    (hname : fn.name ≠ "runtime.NumGoroutine") (hb : fn.body = none) (hn : Extern.findNext fn = none) (hfe : Extern.find fn = some e) (w : World) :
    (execOp ρ o).run P w = ((e (c.args.map ρ)).run P w).andThen fun v w' => .ok (.value v) w' := by
  simp only [execOp, ho, resolve, hc, hρ, Deferred.ofValue, invoke, Sem.run_bind, Sem.run_pure, Result.andThen_ok]
  rw [show (#[] ++ c.args.map ρ ++ #[] : Array Value) = c.args.map ρ by simp]
  exact run_callFunc_extern hf (by simpa using hname) (by simp [hb]) hn hfe _ w

theorem findB_sound (c : UInt8) : ∀ (l : List UInt8) (k : Nat), evQ.findB k c l = match (List.range l.length).find? (fun i => l[i]? == some c) with | some i => ((k + i : Nat) : Int) | none => -1
  | [], k => by simp [evQ.findB]
  | b :: l, k => by
    have ih := findB_sound c l (k + 1)
    simp only [evQ.findB]
    rw [List.length_cons, List.range_succ_eq_map, List.find?_cons]
    cases hb : Nat.beq b.toNat c.toNat with
    | true =>
      have : b = c := by rw [Nat.beq_eq] at hb; exact UInt8.toNat_inj.1 hb
      subst this
      simp
    | false =>
      have : b ≠ c := by intro e; subst e; simp at hb
      simp only [cond_false, ih]
      have h0 : ((b :: l)[0]? == some c) = false := by simpa using this
      rw [h0]
      simp only [List.find?_map, Function.comp_def, List.getElem?_cons_succ]
      cases (List.range l.length).find? (fun i => l[i]? == some c) with
      | none => simp
      | some i =>
        show ((k + 1 + i : Nat) : Int) = ((k + (i + 1) : Nat) : Int)
        rw [show k + 1 + i = k + (i + 1) by omega]

theorem find_congr {α : Type} {p q : α → Bool} : ∀ {l : List α}, (∀ x ∈ l, p x = q x) → l.find? p = l.find? q
  | [], _ => rfl
  | x :: l, h => by
    rw [List.find?_cons, List.find?_cons, h x (by simp), find_congr (fun y hy => h y (by simp [hy]))]

theorem firstIdx_eq (l : List UInt8) (c : UInt8) : firstIdx ⟨l.toArray⟩ c = evQ.findB 0 c l := by
  rw [findB_sound]
  unfold firstIdx
  rw [str_size]
  have : (List.range l.length).find? (fun i => (⟨l.toArray⟩ : ByteArray)[i]! == c) = (List.range l.length).find? (fun i => l[i]? == some c) := by
    apply find_congr
    intro i hi
    have hlt : i < l.length := by simpa using hi
    have hg : (⟨l.toArray⟩ : ByteArray)[i]! = l[i] := by
      rw [getElem!_pos _ _ (by rw [str_size]; exact hlt)]; rfl
    rw [hg, List.getElem?_eq_getElem hlt]
    simp
  rw [this]
  cases (List.range l.length).find? (fun i => l[i]? == some c) <;> simp

end Go.Ev
end PEvS6
