/- An evaluator of the model's programs over abstract values, proved sound: part 5. -/
import Derived.Test.YtahpoedbdhhdfaaGreatDoorEv4
import Derived.Defers
import Derived.Below
import GoSem.ClaimGoes
/- Live slots; functions, and tables of them. -/
section PEvJc
set_option linter.unusedSimpArgs false
namespace Go.Ev

/-! ### live slots (what they are is no part of any proof) -/
def bitAt (t : Nat) : Nat := Nat.shiftLeft 1 t
def clearB (m t : Nat) : Nat := cond (Nat.beq (Nat.land m (bitAt t)) 0) m (Nat.sub m (bitAt t))
def useOd (m : Nat) : Od → Nat
  | .t n => Nat.lor m (bitAt n)
  | .c _ => m
def useL : Nat → List Od → Nat
  | m, [] => m
  | m, x :: l => useL (useOd m x) l
def liveO (o : EOper) (m : Nat) : Nat :=
  let m1 := match o.dst with
    | some d => clearB m d
    | none => m
  let m2 := match o.guard with
    | some (t, _) => Nat.lor m1 (bitAt t)
    | none => m1
  useL m2 (odsOf o.op)
def liveOs : List EOper → Nat → Nat
  | [], m => m
  | o :: l, m => liveO o (liveOs l m)
def atM : List (Nat × Nat) → Nat → Nat
  | [], _ => 0
  | (k, m) :: l, i => cond (Nat.beq k i) m (atM l i)
def falls : EC → Bool
  | .seq a b => falls a && falls b
  | .cond _ a b => falls a || falls b
  | .loop _ | .exit _ | .goto _ | .ret | .bad => false
  | _ => true
def slotsM : Nat → Nat → List Nat
  | 0, _ => []
  | f + 1, m => cond (Nat.beq m 0) [] (Nat.log2 m :: slotsM f (Nat.sub m (bitAt (Nat.log2 m))))
def slotsOf (m : Nat) : List Nat := slotsM 300 m
def findLab : EC → Option Nat
  | .seq a b => match findLab a with
    | some l => some l
    | none => findLab b
  | .label l => some l
  | _ => none
def annot (ret : Nat) : Nat → EC → Nat → List (Nat × Nat) → List (Nat × Nat) → Option (Nat × EK)
  | 0, _, _, _, _ => none
  | f + 1, c, m, ex, gt => match c with
    | .skip => some (m, .skip)
    | .region ops => some (liveOs ops m, .region ops)
    | .draw ops ms => some (liveOs ops m, .draw ops ms (slotsOf (liveOs ops 0)))
    | .seq a b => match annot ret f b m ex gt with
      | some y => (match annot ret f a y.1 ex gt with
        | some x => some (x.1, .seq x.2 y.2)
        | none => none)
      | none => none
    | .cond c a b => match annot ret f a m ex gt with
      | some x => (match annot ret f b m ex gt with
        | some y => some (useOd (Nat.lor x.1 y.1) c, .cond c x.2 y.2 (cond (falls a && falls b) (some (slotsOf m)) none))
        | none => none)
      | none => none
    | .block id b => match annot ret f b m ((id, m) :: ex) gt with
      | some x => some (x.1, .block id x.2 (some (slotsOf m)))
      | none => none
    | .loop b => match annot ret f b 0 ex gt with
      | some x => (match annot ret f b x.1 ex gt with
        | some y => some (x.1, .loop y.2 (slotsOf x.1))
        | none => none)
      | none => none
    | .scope b =>
      match findLab b with
      | some l =>
        (match findL b l with
        | some r => (match annot ret f r m ex ((l, 0) :: gt) with
          | some x => (match annot ret f b m ex ((l, x.1) :: gt) with
            | some y => some (y.1, .scope y.2 l (slotsOf x.1))
            | none => none)
          | none => none)
        | none => none)
      | none => (match annot ret f b m ex gt with
        | some y => some (y.1, .scope y.2 0 [])
        | none => none)
    | .exit id => some (atM ex id, .exit id)
    | .label l => some (m, .label l)
    | .goto l => some (atM gt l, .goto l)
    | .ret => some (ret, .ret)
    | .bad => some (0, .bad)
theorem annot_erase (ret : Nat) : ∀ (f : Nat) (c : EC) (m : Nat) (ex gt : List (Nat × Nat)) (r : Nat × EK), annot ret f c m ex gt = some r → r.2.erase = c
  | 0, _, _, _, _, _, h => by simp [annot] at h
  | f + 1, c, m, ex, gt, r, h => by
    have ih := annot_erase ret f
    cases c with
    | seq a b =>
      simp only [annot] at h
      split at h
      · rename_i y hy
        split at h
        · rename_i x hx
          simp only [Option.some.injEq] at h; subst h
          simp only [EK.erase, ih _ _ _ _ _ hx, ih _ _ _ _ _ hy]
        · cases h
      · cases h
    | cond c a b =>
      simp only [annot] at h
      split at h
      · rename_i y hy
        split at h
        · rename_i x hx
          simp only [Option.some.injEq] at h; subst h
          simp only [EK.erase, ih _ _ _ _ _ hx, ih _ _ _ _ _ hy]
        · cases h
      · cases h
    | block id b =>
      simp only [annot] at h
      split at h
      · rename_i y hy
        simp only [Option.some.injEq] at h; subst h
        simp only [EK.erase, ih _ _ _ _ _ hy]
      · cases h
    | loop b =>
      simp only [annot] at h
      split at h
      · rename_i y hy
        split at h
        · rename_i x hx
          simp only [Option.some.injEq] at h; subst h
          simp only [EK.erase, ih _ _ _ _ _ hx]
        · cases h
      · cases h
    | scope b =>
      simp only [annot] at h
      split at h
      · split at h
        · split at h
          · split at h
            · rename_i y hy
              simp only [Option.some.injEq] at h; subst h
              simp only [EK.erase, ih _ _ _ _ _ hy]
            · cases h
          · cases h
        · cases h
      · split at h
        · rename_i y hy
          simp only [Option.some.injEq] at h; subst h
          simp only [EK.erase, ih _ _ _ _ _ hy]
        · cases h
    | _ => simp only [annot, Option.some.injEq] at h; subst h; rfl
def retM : List (Nat × Option (Option Nat)) → Nat
  | [] => 0
  | (t, _) :: l => Nat.lor (bitAt t) (retM l)
def annotF (ef : EF) : EK := match annot (retM ef.results) 1000 ef.body (retM ef.results) [] [] with
  | some r => r.2
  | none => .bad

/-! ### functions -/
abbrev FS := Nat → Caller → List AV → AH → Ans
/-- A function of these slots' values. -/
noncomputable def bodyK (ef : EF) (n : Nat) (call : Caller) (args : List AV) (h : AH) : Ans :=
  ck drawCalm 100 (annotF ef) n call (initE 0 args .e) h (retT ef.results) (retX ef.results)
def FnOK (P : Program) (f : FuncId) (F : FS) : Prop := ∀ (n : Nat) (call : Caller), CallS P call → ∀ (vs : List AV) (h : AH) (v : AV) (h' : AH), F n call vs h = some (v, h') → HasBody P f ∧
    ∀ (g : Gh) (w : World) (args : List Value), Sim g h w → VRL g vs args →
      Calls P f args.toArray w fun e w' => ∃ vc g', e = .returned vc ∧ VR g' v vc ∧ Sim g' h' w' ∧ Stp g h w g' h' w'

theorem body_sound {P : Program} (hm : P.follows .mixedOrders = true) {f : FuncId} {fn : Func} {ef : EF} (hf : P.funcs[f]? = some fn) (hc : compF P fn = some ef) {F : FS}
    (hF : ∀ (n : Nat) (call : Caller) (vs : List AV) (h : AH) (r : AV × AH), F n call vs h = some r → Nat.ble vs.length ef.ntmps = true ∧ bodyK ef n call vs h = some r) : FnOK P f F := by
  intro n call hcall vs h v h' he
  obtain ⟨hle, hb⟩ := hF n call vs h (v, h') he
  let T0 : FuncId → Option EF := fun g => if g = f then some ef else none
  have hT0 : TOK P T0 := by
    intro g ef' q
    simp only [T0] at q
    split at q
    · rename_i e
      subst e
      simp only [Option.some.injEq] at q
      subst q
      exact ⟨fn, hf, hc⟩
    · cases q
  have hrun : RunS P (evRun drawCalm n call 100) := evRun_sound hcall (drawCalm_sound hm hcall) n 100
  refine callStep_sound hT0 (X := fun _ => none) (fun _ _ q => by cases q) hrun hcall f vs h v h' ?_
  obtain ⟨x, b', h1, a', r1, l1, c1⟩ := ck_sound (draw := drawCalm) (fun call es ms a h hc => drawCalm_calm call es ms a h hc) drawCalm_mono (fun call es ms a h hc => by simp [drawCalm, hc]) n call 100 (annotF ef) (initE 0 vs .e) (initE 0 vs .e) h _ _ _ (Le.refl _) hb
  have he' : (annotF ef).erase = ef.body := by
    unfold bodyK annotF at hb
    unfold annotF
    cases hx : annot (retM ef.results) 1000 ef.body (retM ef.results) [] [] with
    | none => simp only [hx] at hb; simp [ck, cNone] at hb
    | some r => exact annot_erase _ _ _ _ _ _ _ hx
  rw [he'] at r1
  have hT : T0 f = some ef := by simp [T0]
  simp only [callStep, hT, hle, cond_true, r1]
  have fin : ∀ a1, Le a1 b' → retT ef.results a1 h1 = some (v, h') → retT ef.results b' h1 = some (v, h') := by
    intro a1 hl q
    have res1 : ∀ r u, result1 a1 h1 r = some u → result1 b' h1 r = some u := by
      intro r u q
      obtain ⟨t, o⟩ := r
      cases o with
      | none => exact hl t u q
      | some ag =>
        simp only [result1] at q ⊢
        cases hx : a1.get t with
        | none => simp [hx] at q
        | some y => simp only [hx] at q; simp only [hl t y hx]; exact q
    have res : ∀ rs us, resultsE a1 h1 rs = some us → resultsE b' h1 rs = some us := by
      intro rs
      induction rs with
      | nil => intro us q; exact q
      | cons r rs ih =>
        intro us q
        simp only [resultsE] at q ⊢
        cases hx : result1 a1 h1 r with
        | none => simp [hx] at q
        | some y =>
          cases hy : resultsE a1 h1 rs with
          | none => simp [hx, hy] at q
          | some z => simp only [hx, hy] at q; simp only [res1 _ _ hx, ih _ hy]; exact q
    simp only [retT] at q ⊢
    cases hx : resultsE a1 h1 ef.results with
    | none => simp [hx] at q
    | some us => simp only [hx] at q; simp only [res _ _ hx]; exact q
  have c2 : retT ef.results b' h1 = some (v, h') → (match (some (x, b', h1) : Res) with
      | some (.normal, a, h') => (match resultsE a h' ef.results with
        | some vs => some (tupE vs, h')
        | none => none)
      | some (.ret, a, h') => (match resultsE a h' ef.results with
        | some vs => some (tupE vs, h')
        | none => none)
      | _ => none) = some (v, h') ∨ (∃ i, x = .exit i) ∨ ∃ i, x = .goto i := by
    intro q
    cases x with
    | exit i => exact .inr (.inl ⟨i, rfl⟩)
    | goto i => exact .inr (.inr ⟨i, rfl⟩)
    | normal =>
      left
      simp only [retT] at q
      simp only []
      cases hx : resultsE b' h1 ef.results with
      | none => simp [hx] at q
      | some us => simp only [hx] at q; exact q
    | ret =>
      left
      simp only [retT] at q
      simp only []
      cases hx : resultsE b' h1 ef.results with
      | none => simp [hx] at q
      | some us => simp only [hx] at q; exact q
  cases x with
  | normal => rcases c2 (fin a' l1 c1) with q | ⟨i, q⟩ | ⟨i, q⟩
              · exact q
              · cases q
              · cases q
  | ret => rcases c2 (fin a' l1 c1) with q | ⟨i, q⟩ | ⟨i, q⟩
           · exact q
           · cases q
           · cases q
  | exit i => cases c1
  | goto i => cases c1

/-! ### tables -/
noncomputable def callK (T : FuncId → Option FS) (n : Nat) : Caller :=
  Nat.rec (motive := fun _ => Caller) (fun _ _ _ => none) (fun n ih f args h => Option.rec (motive := fun _ => Ans) none (fun F => F n ih args h) (T f)) n
def TabK (P : Program) (T : FuncId → Option FS) : Prop := ∀ f F, T f = some F → FnOK P f F
theorem callK_sound {P : Program} {T : FuncId → Option FS} (hT : TabK P T) : ∀ n, CallS P (callK T n)
  | 0 => by intro f vs h v h' he; simp [callK] at he
  | n + 1 => by
    intro f vs h v h' he
    have e : callK T (n + 1) f vs h = Option.rec (motive := fun _ => Ans) none (fun F => F n (callK T n) vs h) (T f) := rfl
    rw [e] at he
    cases hx : T f with
    | none => simp [hx] at he
    | some F => simp only [hx] at he; exact hT f F hx n (callK T n) (callK_sound hT n) vs h v h' he
end Go.Ev
end PEvJc
/- Operations on values, for functions that are printed; what a printed function is worth. -/
section PEvJd
set_option linter.unusedSimpArgs false
namespace Go.Ev

def I (n : Nat) : AV := .int .i64 (.ofNat n)
def Ineg (n : Nat) : AV := .int .i64 (.negSucc n)
def U (n : Nat) : AV := .int .u8 (.ofNat n)
def R (n : Nat) : AV := .int .i32 (.ofNat n)
def nx (n : Nat) (h : AH) : AH := ⟨h.objs, Nat.add h.next n⟩
noncomputable def ci (v : AV) (x y : Ans) : Ans := match v with
    | .bool b => Bool.rec (motive := fun _ => Ans) y x b
    | _ => none
noncomputable def gq (g : AV) (want : Bool) (x : Option AV) : Option AV := match g with
    | .bool b => Bool.rec (motive := fun _ => Option AV) (some .undef) x (cond want b (!b))
    | _ => some .undef
noncomputable def gw (g : AV) (want : Bool) (x : Option (AV × AH)) (h : AH) : Option (AV × AH) := match g with
    | .bool b => Bool.rec (motive := fun _ => Option (AV × AH)) (some (.undef, h)) x (cond want b (!b))
    | _ => some (.undef, h)
def oPick (c x y : AV) : Option AV := match c with
  | .bool true => some x
  | .bool false => some y
  | _ => none
noncomputable def oLd (h : AH) (x : AV) : Option AV := match x with
  | .ptr b off => getCell h b off
  | _ => none
noncomputable def oLdN (n : Nat) (h : AH) (x : AV) : Option AV := match x with
  | .ptr b off => (match getCells h b off n with
    | some l => some (.agg l)
    | none => none)
  | _ => none
def oNil (x : AV) : Option AV := match x with
  | .ptr b off => some (.ptr b off)
  | .fn f u v => some (.fn f u v)
  | .iface t v => some (.iface t v)
  | .slice b off len sz cap => some (.slice b off len sz cap)
  | _ => none
def oFA (off : Nat) (x : AV) : Option AV := match x with
  | .ptr b o => some (.ptr b (o + off))
  | _ => none
def oFd (off : Nat) (agg : Option Nat) (x : AV) : Option AV := match x with
  | .agg l => partAV agg l off
  | _ => none
def oIx (sz : Nat) (x i : AV) : Option AV := match x with
  | .slice b off len sz' _ => (match idxNat i len with
    | some k => cond (Nat.beq sz sz') (some (.ptr b (off + k * sz))) none
    | none => none)
  | _ => none
def oIxS (x i : AV) : Option AV := match x with
  | .str s => (match natOf i with
    | some k => (match nth s k with
      | some b => some (.int .u8 (norm b.toNat))
      | none => none)
    | none => none)
  | _ => none
def oEx (i : Nat) (x : AV) : Option AV := match x with
  | .tup l => nth l i
  | _ => none
def oLenS (x : AV) : Option AV := match x with
  | .str s => some (.int .i64 s.length)
  | _ => none
def oLen (x : AV) : Option AV := match x with
  | .slice _ _ len _ _ => some (.int .i64 len)
  | .nils => some (.int .i64 0)
  | .empt => some (.int .i64 0)
  | _ => none
def oSlS (x : AV) (lo hi : Option AV) : Option AV := match x with
  | .str s => slStrAV s lo hi
  | _ => none
noncomputable def oSt (n : Nat) (h : AH) (x u : AV) : Option (AV × AH) := match x with
  | .ptr b off => cond (Nat.beq u.cells.length n) (match setCells h b off u.cells with
      | some h' => some (.undef, h')
      | none => none) none
  | _ => none
def oInt (k : IntKind) (x : AV) : Option AV := match x with
  | .int _ n => some (.int k (wr k n))
  | _ => none
noncomputable def oNew (h : AH) (elem : TypeId) (l : List AV) : Option (AV × AH) := some (newCells h l elem)
def oBuild (zero : List AV) (fs : List (Nat × Nat × AV)) : Option AV := match fill zero fs with
      | some cs => some (.agg cs)
      | none => none
noncomputable def oBuildSl (h : AH) (elem : TypeId) (sz len : Nat) (zero : List AV) (fs : List (Nat × Nat × AV)) : Option (AV × AH) := match fill zero fs with
      | some cs => some (.slice h.next 0 len sz (some len), h.new (.cells cs elem false))
      | none => none
def oTa (t : TypeId) (zero : AV) (ok : Bool) (x : AV) : Option AV := match x with
    | .iface u v => cond (Nat.beq u t) (some (cond ok (.tup [v, .bool true]) v)) (cond ok (some (.tup [zero, .bool false])) none)
    | .nili => cond ok (some (.tup [zero, .bool false])) none
    | _ => none

/-- What a printed function is held against. -/
noncomputable def shown (P : Program) (fn : Func) (k n : Nat) (call : Caller) (args : List AV) (h : AH) : Ans :=
  Option.rec (motive := fun _ => Ans) none (fun ef => cond (Nat.ble k ef.ntmps) (bodyK ef n call args h) none) (compF P fn)
theorem shown_ok {P : Program} (hm : P.follows .mixedOrders = true) {f : FuncId} {fn : Func} (hf : P.funcs[f]? = some fn) {F : FS} (hF : ∀ n call vs h r, F n call vs h = some r → shown P fn vs.length n call vs h = some r) : FnOK P f F := by
  cases hc : compF P fn with
  | none =>
    intro n call hcall vs h v h' he
    have := hF n call vs h _ he
    simp [shown, hc] at this
  | some ef =>
    refine body_sound hm hf hc ?_
    intro n call vs h r he
    have := hF n call vs h r he
    simp only [shown, hc] at this
    cases hb : Nat.ble vs.length ef.ntmps with
    | false => simp [hb] at this
    | true => simp only [hb, cond_true] at this; exact ⟨rfl, this⟩
def a0 (S : Nat → Caller → AH → Ans) : FS := fun n call vs h => match vs with | [] => S n call h | _ => none
def a1 (S : Nat → Caller → AV → AH → Ans) : FS := fun n call vs h => match vs with | [x0] => S n call x0 h | _ => none
def a2 (S : Nat → Caller → AV → AV → AH → Ans) : FS := fun n call vs h => match vs with | [x0, x1] => S n call x0 x1 h | _ => none
def a3 (S : Nat → Caller → AV → AV → AV → AH → Ans) : FS := fun n call vs h => match vs with | [x0, x1, x2] => S n call x0 x1 x2 h | _ => none
def a4 (S : Nat → Caller → AV → AV → AV → AV → AH → Ans) : FS := fun n call vs h => match vs with | [x0, x1, x2, x3] => S n call x0 x1 x2 x3 h | _ => none
def a5 (S : Nat → Caller → AV → AV → AV → AV → AV → AH → Ans) : FS := fun n call vs h => match vs with | [x0, x1, x2, x3, x4] => S n call x0 x1 x2 x3 x4 h | _ => none
def a6 (S : Nat → Caller → AV → AV → AV → AV → AV → AV → AH → Ans) : FS := fun n call vs h => match vs with | [x0, x1, x2, x3, x4, x5] => S n call x0 x1 x2 x3 x4 x5 h | _ => none
def a7 (S : Nat → Caller → AV → AV → AV → AV → AV → AV → AV → AH → Ans) : FS := fun n call vs h => match vs with | [x0, x1, x2, x3, x4, x5, x6] => S n call x0 x1 x2 x3 x4 x5 x6 h | _ => none
noncomputable def shown0 (P : Program) (fn : Func) : Nat → Caller → AH → Ans := fun n call  h => shown P fn 0 n call [] h
noncomputable def shown1 (P : Program) (fn : Func) : Nat → Caller → AV → AH → Ans := fun n call x0 h => shown P fn 1 n call [x0] h
noncomputable def shown2 (P : Program) (fn : Func) : Nat → Caller → AV → AV → AH → Ans := fun n call x0 x1 h => shown P fn 2 n call [x0, x1] h
noncomputable def shown3 (P : Program) (fn : Func) : Nat → Caller → AV → AV → AV → AH → Ans := fun n call x0 x1 x2 h => shown P fn 3 n call [x0, x1, x2] h
noncomputable def shown4 (P : Program) (fn : Func) : Nat → Caller → AV → AV → AV → AV → AH → Ans := fun n call x0 x1 x2 x3 h => shown P fn 4 n call [x0, x1, x2, x3] h
noncomputable def shown5 (P : Program) (fn : Func) : Nat → Caller → AV → AV → AV → AV → AV → AH → Ans := fun n call x0 x1 x2 x3 x4 h => shown P fn 5 n call [x0, x1, x2, x3, x4] h
noncomputable def shown6 (P : Program) (fn : Func) : Nat → Caller → AV → AV → AV → AV → AV → AV → AH → Ans := fun n call x0 x1 x2 x3 x4 x5 h => shown P fn 6 n call [x0, x1, x2, x3, x4, x5] h
noncomputable def shown7 (P : Program) (fn : Func) : Nat → Caller → AV → AV → AV → AV → AV → AV → AV → AH → Ans := fun n call x0 x1 x2 x3 x4 x5 x6 h => shown P fn 7 n call [x0, x1, x2, x3, x4, x5, x6] h
section
variable {P : Program} (hm : P.follows .mixedOrders = true) {f : FuncId} {fn : Func} (hf : P.funcs[f]? = some fn)
include hm hf
theorem ok0 {S : Nat → Caller → AH → Ans} (hS : shown0 P fn = S) : FnOK P f (a0 S) := shown_ok hm hf fun n call vs h r he => by
  subst hS
  unfold a0 at he; split at he
  · exact he
  · cases he
theorem ok1 {S : Nat → Caller → AV → AH → Ans} (hS : shown1 P fn = S) : FnOK P f (a1 S) := shown_ok hm hf fun n call vs h r he => by
  subst hS
  unfold a1 at he; split at he
  · exact he
  · cases he
theorem ok2 {S : Nat → Caller → AV → AV → AH → Ans} (hS : shown2 P fn = S) : FnOK P f (a2 S) := shown_ok hm hf fun n call vs h r he => by
  subst hS
  unfold a2 at he; split at he
  · exact he
  · cases he
theorem ok3 {S : Nat → Caller → AV → AV → AV → AH → Ans} (hS : shown3 P fn = S) : FnOK P f (a3 S) := shown_ok hm hf fun n call vs h r he => by
  subst hS
  unfold a3 at he; split at he
  · exact he
  · cases he
theorem ok4 {S : Nat → Caller → AV → AV → AV → AV → AH → Ans} (hS : shown4 P fn = S) : FnOK P f (a4 S) := shown_ok hm hf fun n call vs h r he => by
  subst hS
  unfold a4 at he; split at he
  · exact he
  · cases he
theorem ok5 {S : Nat → Caller → AV → AV → AV → AV → AV → AH → Ans} (hS : shown5 P fn = S) : FnOK P f (a5 S) := shown_ok hm hf fun n call vs h r he => by
  subst hS
  unfold a5 at he; split at he
  · exact he
  · cases he
theorem ok6 {S : Nat → Caller → AV → AV → AV → AV → AV → AV → AH → Ans} (hS : shown6 P fn = S) : FnOK P f (a6 S) := shown_ok hm hf fun n call vs h r he => by
  subst hS
  unfold a6 at he; split at he
  · exact he
  · cases he
theorem ok7 {S : Nat → Caller → AV → AV → AV → AV → AV → AV → AV → AH → Ans} (hS : shown7 P fn = S) : FnOK P f (a7 S) := shown_ok hm hf fun n call vs h r he => by
  subst hS
  unfold a7 at he; split at he
  · exact he
  · cases he
end
end Go.Ev
namespace Go.Ev
def oB' (h : AH) (f : AH → Ans) : Ans := f h
end Go.Ev
/-! ### tables as trees -/
namespace Go.Ev
inductive TT where
  | e
  | leaf (k : Nat) (F : FS)
  | node (p : Nat) (l r : TT)
noncomputable def TT.get (t : TT) : Nat → Option FS := fun f => TT.rec (motive := fun _ => Option FS) none (fun k F => Bool.rec (motive := fun _ => Option FS) none (some F) (Nat.beq k f)) (fun p _ _ l r => Bool.rec (motive := fun _ => Option FS) r l (Nat.ble f p)) t
def TT.All (P : Program) : TT → Prop
  | .e => True
  | .leaf k F => FnOK P k F
  | .node _ l r => l.All P ∧ r.All P
theorem TT.All.ok {P : Program} : ∀ {t : TT}, t.All P → TabK P t.get
  | .e, _, f, F, h => by cases h
  | .leaf k G, ht, f, F, h => by
    have h' : Bool.rec (motive := fun _ => Option FS) none (some G) (Nat.beq k f) = some F := h
    cases hb : Nat.beq k f with
    | false => rw [hb] at h'; cases h'
    | true =>
      rw [hb] at h'
      have := Nat.eq_of_beq_eq_true hb
      subst this
      simp at h'
      subst h'
      exact ht
  | .node p l r, ht, f, F, h => by
    have h' : Bool.rec (motive := fun _ => Option FS) (r.get f) (l.get f) (Nat.ble f p) = some F := h
    cases hb : Nat.ble f p with
    | false => rw [hb] at h'; exact ht.2.ok f F h'
    | true => rw [hb] at h'; exact ht.1.ok f F h'
end Go.Ev
end PEvJd
/- A function with one deferred closure: its code in three parts. -/
section PEvJe
set_option linter.unusedSimpArgs false
set_option linter.unusedVariables false
namespace Go.Ev
variable {P : Program}

def chainC : List Code → Code → Code
  | [], t => t
  | c :: l, t => .seq c (chainC l t)
/-- One behind the other, as long as each comes to its end. -/
noncomputable def runCh (run : EC → Env → AH → Res) : List EC → Env → AH → Res
  | [], a, h => some (.normal, a, h)
  | c :: l, a, h => match run c a h with
    | some (.normal, a', h') => runCh run l a' h'
    | r => r
theorem chain_sound {run : EC → Env → AH → Res} (hrun : RunS P run) {N : Nat} {t : Code} {Q : Exit → Act → World → Prop} : ∀ (l : List Code) (a : Env) (h : AH) (x : AX) (a' : Env) (h' : AH), runCh run (l.map (comp P N)) a h = some (x, a', h') →
    ∀ (dl : List Deferred) (g : Gh) (w : World) (ac : Act), Sim g h w → FR N dl g a ac → (x = .normal → Go N dl g h w a' h' (t.wp P Q)) → (x ≠ .normal → Go N dl g h w a' h' (Q (exitOf x))) → (chainC l t).wp P Q ac w
  | [], a, h, x, a', h', he, dl, g, w, ac, s, ha, h1, h2 => by
    simp only [List.map_nil, runCh, Option.some.injEq, Prod.mk.injEq] at he
    obtain ⟨rfl, rfl, rfl⟩ := he
    exact h1 rfl g ac w ha s (Stp.refl _ _ _)
  | c :: l, a, h, x, a', h', he, dl, g, w, ac, s, ha, h1, h2 => by
    simp only [List.map_cons, runCh] at he
    cases hr : run (comp P N c) a h with
    | none => simp [hr] at he
    | some p =>
      obtain ⟨x1, a1, h1'⟩ := p
      simp only [hr] at he
      have other : x1 ≠ .normal → x = x1 ∧ a' = a1 ∧ h' = h1' → (chainC (c :: l) t).wp P Q ac w := by
        rintro hx ⟨rfl, rfl, rfl⟩
        refine wp_seq (hrun N c a h x a' h' hr dl g w ac s ha _ ?_)
        intro g1 ac1 w1 ha1 s1 st1
        have := h2 hx g1 ac1 w1 ha1 s1 st1
        cases x with
        | normal => exact absurd rfl hx
        | exit id => exact this
        | goto id => exact this
        | ret => exact this
      cases x1 with
      | normal =>
        refine wp_seq (hrun N c a h .normal a1 h1' hr dl g w ac s ha _ ?_)
        intro g1 ac1 w1 ha1 s1 st1
        exact chain_sound hrun l a1 h1' x a' h' he dl g1 w1 ac1 s1 ha1 (fun hx => (h1 hx).then st1) (fun hx => (h2 hx).then st1)
      | exit id => simp only [Option.some.injEq, Prod.mk.injEq] at he; exact other (by simp) ⟨he.1.symm, he.2.1.symm, he.2.2.symm⟩
      | goto id => simp only [Option.some.injEq, Prod.mk.injEq] at he; exact other (by simp) ⟨he.1.symm, he.2.1.symm, he.2.2.symm⟩
      | ret => simp only [Option.some.injEq, Prod.mk.injEq] at he; exact other (by simp) ⟨he.1.symm, he.2.1.symm, he.2.2.symm⟩

/-- Such a function, as it runs: the code ahead; the closure; the code behind; the closure's own code. -/
noncomputable def deferF (rs : List (Nat × Option (Option Nat))) (pre : List EC) (mk : EOper) (tm : Nat) (post : EC) (f2 : FuncId) (k2 : Nat) (body2 : EC) (n : Nat) (call : Caller) (args : List AV) (h : AH) : Ans :=
  match runCh (evRun drawCalm n call 100) pre (initE 0 args .e) h with
  | some (.ret, a, h1) => retT rs a h1
  | some (.normal, a, h1) => (match evOper call mk a h1 with
    | some (a2, h2) => (match a2.get tm with
      | some (.fn f [] caps) => cond (Nat.beq f f2 && Nat.beq caps.length k2) (match evRun drawCalm n call 100 post a2 h2 with
        | some (.ret, a3, h3) => (match evRun drawCalm n call 100 body2 (initE 0 caps .e) h3 with
          | some (.normal, _, h4) => retT rs a3 h4
          | _ => none)
        | _ => none) none
      | _ => none)
    | none => none)
  | _ => none

theorem retT_some {rs : List (Nat × Option (Option Nat))} {a : Env} {h : AH} {v : AV} {h' : AH} (he : retT rs a h = some (v, h')) : ∃ vs, resultsE a h rs = some vs ∧ v = tupE vs ∧ h' = h := by
  unfold retT at he
  cases hr : resultsE a h rs with
  | none => simp [hr] at he
  | some vs => simp only [hr, Option.some.injEq, Prod.mk.injEq] at he; exact ⟨vs, rfl, he.1.symm, he.2.symm⟩

theorem defer_ok (hm : P.follows .mixedOrders = true) {f f2 : FuncId} {fn fn2 : Func} {prec : List Code} {mk df : Oper} {tm : Nat} {cd : Call} {postc bodyc2 : Code} {id : Nat} {rs : List (Nat × Option (Option Nat))} {pre : List EC} {mk' : EOper} {post body2 : EC}
    (hf : P.funcs[f]? = some fn) (hb : fn.body = some (chainC prec (.seq (.region id #[mk, df] false) postc))) (hname : fn.name ≠ "runtime.NumGoroutine") (hrs : fn.results.toList.mapM (cRes P) = some rs)
    (hpre : prec.map (comp P fn.ntmps) = pre) (hmk : cOper P fn.ntmps #[mk, df] mk = mk') (hpost : comp P fn.ntmps postc = post)
    (hdf : df.op = .defer cd) (hdg : df.guard = none) (hdd : df.dst = none) (hcd : cd.callee = .value (.tmp tm)) (hca : cd.args = #[])
    (hname2 : fn2.name ≠ "runtime.NumGoroutine") (hf2 : P.funcs[f2]? = some fn2) (hb2 : fn2.body = some bodyc2) (hr2 : fn2.results = #[]) (hc2 : comp P fn2.ntmps bodyc2 = body2)
    (k k2 : Nat) (hk : k ≤ fn.ntmps) (hk2 : k2 ≤ fn2.ntmps) : FnOK P f (fun n call vs h => cond (Nat.beq vs.length k) (deferF rs pre mk' tm post f2 k2 body2 n call vs h) none) := by
  intro n call hcall vs h v h' he
  refine ⟨⟨fn, hf, by rw [hb]; rfl, hname⟩, ?_⟩
  intro g w args s hv
  cases hl : Nat.beq vs.length k with
  | false => simp [hl] at he
  | true =>
  simp only [hl, cond_true] at he
  have hlk := Nat.eq_of_beq_eq_true hl
  have hrun : RunS P (evRun drawCalm n call 100) := evRun_sound hcall (drawCalm_sound hm hcall) n 100
  have hfr := init_sound (dl := []) (N := fn.ntmps) hv (by omega)
  refine calls_of_wp_defers hf hb ?_
  unfold deferF at he
  rw [← hpre] at he
  -- what a return gives, with nothing left to be done
  have fin : ∀ (a : Env) (h1 : AH) (g1 : Gh) (ac1 : Act) (w1 : World), AR g1 a ac1 → Sim g1 h1 w1 → Stp g h w g1 h1 w1 → retT rs a h1 = some (v, h') → Leaves P fn ac1.tmps (fun e w' => ∃ vc g', e = .returned vc ∧ VR g' v vc ∧ Sim g' h' w' ∧ Stp g h w g' h' w') [] .returning w1 := by
    intro a h1 g1 ac1 w1 ha1 s1 st1 hret
    obtain ⟨us, q1, rfl, rfl⟩ := retT_some hret
    obtain ⟨vc, q2, q3⟩ := results_sound (fn := fn) s1 ha1 hrs q1
    exact ⟨vc, q3, vc, g1, rfl, q2, s1, st1⟩
  cases hp : runCh (evRun drawCalm n call 100) (prec.map (comp P fn.ntmps)) (initE 0 vs .e) h with
  | none => simp [hp] at he
  | some p =>
    obtain ⟨x, a, h1⟩ := p
    simp only [hp] at he
    cases x with
    | exit i => cases he
    | goto i => cases he
    | ret =>
      refine chain_sound hrun prec _ h .ret a h1 hp [] g w _ s hfr (fun q => by cases q) (fun _ => ?_)
      intro g1 ac1 w1 ha1 s1 st1
      show Leaves P fn ac1.tmps _ ac1.defers .returning w1
      rw [ha1.defers]
      exact fin a h1 g1 ac1 w1 ha1.ar s1 st1 he
    | normal =>
      refine chain_sound hrun prec _ h .normal a h1 hp [] g w _ s hfr (fun _ => ?_) (fun q => absurd rfl q)
      intro g1 ac1 w1 ha1 s1 st1
      simp only at he
      split at he
      · rename_i a2 h2 hmke
        split at he
        · rename_i f0 caps hcl
          cases hb0 : (Nat.beq f0 f2 && Nat.beq caps.length k2) with
          | false => simp [hb0] at he
          | true =>
            have hb0' := hb0
            simp only [Bool.and_eq_true] at hb0'
            have := Nat.eq_of_beq_eq_true hb0'.1
            subst this
            have hcl2 := Nat.eq_of_beq_eq_true hb0'.2
            simp only [hb0, cond_true] at he
            split at he
            · rename_i a3 h3 hrunp
              split at he
              · rename_i a4 h4 hrun2
                refine wp_seq (wp_region ?_)
                show wpOps P #[mk, df] _ [0, 1] ac1 w1
                refine wpOps_step (o := mk) rfl (evOper_sound hcall s1 ha1 (by rw [hmk]; exact hmke) _ _ ?_)
                intro g2 ac2 w2 ha2 s2 st2
                refine wpOps_step (o := df) rfl ?_
                obtain ⟨vcl, hvc1, hvc2⟩ := ha2.ar tm _ hcl
                simp only [VR] at hvc2
                obtain ⟨us, ws, rfl, hus, hws⟩ := hvc2
                simp only [VRL] at hus
                subst hus
                have hev : ac2.eval (.tmp tm) = .func (.func f0) #[] ws.toArray := by
                  simp [Act.eval, Array.getD_eq_getD_getElem?, hvc1]
                unfold stepAt
                rw [if_pos (by simp [Region.wanted, hdg])]
                left
                have hexec : (execOp ac2.eval df).run P w2 = .ok (.defer { target := .fn (.func f0) ws.toArray, args := #[] }) w2 := by
                  simp only [execOp, hdf, resolve, hcd, hev, hca, Deferred.ofValue]
                  simp
                simp only [Oper.wp, hexec, Oper.upon_defer, wpOps, hdd]
                have ha2' : FR fn.ntmps [{ target := .fn (.func f0) ws.toArray, args := #[] }] g2 a2 ({ ac2 with defers := { target := .fn (.func f0) ws.toArray, args := #[] } :: ac2.defers }.put none undef) := by
                  refine ⟨ha2.ar, ha2.size, ?_⟩
                  simp only [Act.put, ha2.defers]
                refine hrun fn.ntmps postc a2 h2 .ret a3 h3 (by rw [hpost]; exact hrunp) _ g2 w2 _ s2 ha2' _ ?_
                intro g3 ac3 w3 ha3 s3 st3
                show Leaves P fn ac3.tmps _ ac3.defers .returning w3
                rw [ha3.defers]
                have hws3 : VRL g3 caps ws := hws.mono st3.ext
                have hfr2 := init_sound (dl := []) (N := fn2.ntmps) hws3 (by omega)
                refine leaves_cons (by simp) (f := f0) (args := ws.toArray) ?_ ?_
                · simp only [invoke, Array.append_eq_append, List.append_toArray, List.nil_append]
                  simp [callFunc, hf2, hname2, hb2, mark]
                · refine (callsD_of_wp hf2 hb2 (R := fun e w' => e = .returned (.tuple #[]) ∧ ∃ g4, Sim g4 h4 w' ∧ Stp g3 h3 w3 g4 h4 w') ?_).mono ?_
                  · refine hrun fn2.ntmps bodyc2 _ h3 .normal a4 h4 (by rw [hc2]; exact hrun2) [] g3 w3 _ s3 hfr2 _ ?_
                    intro g4 ac4 w4 ha4 s4 st4
                    exact ⟨ha4.defers, .tuple #[], by simp [results, hr2], rfl, g4, s4, st4⟩
                  · rintro e u' w' ⟨rfl, rfl, g4, s4, st4⟩
                    refine fin a3 h4 g4 ac3 w' (ha3.ar.mono st4.ext) s4 (((st1.trans st2).trans st3).trans st4) he
              · cases he
            · cases he
        · cases he
      · cases he
end Go.Ev
end PEvJe
/- Closed calls. -/
section PEvJf
set_option linter.unusedVariables false
namespace Go.Ev
/-- What was below stays so. -/
theorem Sim.below {g : Gh} {h : AH} {w w' : World} (s : Sim g h w) (hb : Go.RowKit.Below w.heap.size w w') : Sim g h w' := by
  refine ⟨?_, s.inj, fun b x n e => ⟨(s.dom b x n e).1, Nat.lt_of_lt_of_le (s.dom b x n e).2 hb.size⟩⟩
  intro b o hbo
  obtain ⟨x, n, ob, h1, h2, h3⟩ := s.obj b o hbo
  exact ⟨x, n, ob, h1, (hb.block x (s.dom b x n h1).2).trans h2, h3⟩
theorem Stp.below {g : Gh} {h : AH} {w w' : World} (hb : Go.RowKit.Below w.heap.size w w') : Stp g h w g h w' :=
  ⟨g.le_refl, hb.size, fun x hx _ => hb.block x hx, fun _ _ q => q, hb.os, hb.output, hb.tape, Nat.le_refl _, fun _ _ q => q, fun _ _ => rfl⟩
def gh0 : Gh := ⟨fun _ => none⟩
theorem sim0 (n : Nat) (w : World) : Sim gh0 ⟨.e, n⟩ w := ⟨fun b o h => (by cases h), fun b b' x n n' h => absurd rfl h, fun b x n h => (by cases h)⟩
theorem own0 (n x : Nat) : ¬ Own gh0 ⟨.e, n⟩ x := by rintro ⟨b, m, o, h, _⟩; cases h
theorem Stp.below0 {n : Nat} {g' : Gh} {h' : AH} {w w' : World} (st : Stp gh0 ⟨.e, n⟩ w g' h' w') : Go.RowKit.Below w.heap.size w w' :=
  ⟨st.os, st.tape, st.out, st.size, fun k hk => st.fr k hk (own0 n k)⟩
def boolOf (x : Ans) : Option Bool := match x with
  | some (.bool b, _) => some b
  | _ => none
theorem boolOf_some {x : Ans} {b : Bool} (h : boolOf x = some b) : ∃ h', x = some (.bool b, h') := by
  unfold boolOf at h
  split at h
  · simp only [Option.some.injEq] at h; subst h; exact ⟨_, rfl⟩
  · cases h
/-- What a run from nothing says of every call: so it answers, and nothing that was there is another. -/
theorem calls_of_run {P : Program} {call : Caller} (hc : CallS P call) {f : FuncId} {vs : List AV} {n : Nat} {b : Bool} (hr : boolOf (call f vs ⟨.e, n⟩) = some b) : HasBody P f ∧ ∀ (w : World) (args : List Value), VRL gh0 vs args →
    Calls P f args.toArray w fun e w' => e = .returned (.bool b) ∧ Go.RowKit.Below w.heap.size w w' := by
  obtain ⟨h', hr⟩ := boolOf_some hr
  obtain ⟨h1, h2⟩ := hc f vs _ _ h' hr
  refine ⟨h1, fun w args hv => (h2 gh0 w args (sim0 n w) hv).mono ?_⟩
  rintro e w' ⟨vc, g', rfl, q1, q2, q3⟩
  simp only [VR] at q1
  subst q1
  exact ⟨rfl, q3.below0⟩
/-- A call of nothing, by its answer. -/
def closedF (b : Bool) : FS := fun _ _ vs h => match vs with
  | [] => some (.bool b, h)
  | _ => none
theorem closed_ok {P : Program} {call : Caller} (hc : CallS P call) {f : FuncId} {n : Nat} {b : Bool} (hr : boolOf (call f [] ⟨.e, n⟩) = some b) : FnOK P f (closedF b) := by
  intro n' call' hcall' vs h v h' he
  obtain ⟨h1, h2⟩ := calls_of_run hc hr
  refine ⟨h1, ?_⟩
  intro g w args s hv
  unfold closedF at he
  split at he
  · simp only [Option.some.injEq, Prod.mk.injEq] at he
    obtain ⟨rfl, rfl⟩ := he
    rw [VRL] at hv
    subst hv
    refine (h2 w [] (by rw [VRL])).mono ?_
    rintro e w' ⟨rfl, hb⟩
    exact ⟨_, g, rfl, rfl, s.below hb, Stp.below hb⟩
  · cases he
end Go.Ev
end PEvJf
/- A table with one function told anew. -/
section PEvJg
set_option linter.unusedVariables false
namespace Go.Ev
noncomputable def over (T : FuncId → Option FS) (k : FuncId) (F : FS) : FuncId → Option FS := fun f => Bool.rec (motive := fun _ => Option FS) (T f) (some F) (Nat.beq f k)
theorem over_ok {P : Program} {T : FuncId → Option FS} {k : FuncId} {F : FS} (hT : TabK P T) (hF : FnOK P k F) : TabK P (over T k F) := by
  intro f G h
  unfold over at h
  cases e : Nat.beq f k with
  | true =>
    rw [e] at h
    simp only [Option.some.injEq] at h
    subst h
    rw [Nat.eq_of_beq_eq_true e]
    exact hF
  | false => rw [e] at h; exact hT f G h
/-- One call, by the table. -/
theorem callK_at {T : FuncId → Option FS} {f : FuncId} {F : FS} (h : T f = some F) (n : Nat) (vs : List AV) (hp : AH) : callK T (n + 1) f vs hp = F n (callK T n) vs hp := by
  have e : callK T (n + 1) f vs hp = Option.rec (motive := fun _ => Ans) none (fun F => F n (callK T n) vs hp) (T f) := rfl
  rw [e, h]
theorem oP_some (v : AV) (h : AH) (f : AV → AH → Ans) : oP (some (v, h)) f = f v h := rfl
theorem oB_some (v : AV) (f : AV → Ans) : oB (some v) f = f v := rfl
end Go.Ev
end PEvJg
/- The remainder that a law takes of a number. -/
section PEvJh
set_option linter.unusedVariables false
namespace Go.Ev
theorem ieq_false {a b : Int} (h : a ≠ b) : ieq a b = false := by
  rw [ieq_eq]
  simpa using h
theorem remAV (a m : Int) (hm : m ≠ 0) : binAV .rem .no (.int .i64 a) (.int .i64 m) = some (.int .i64 (a.tmod m)) := by
  have e : binAV .rem .no (.int .i64 a) (.int .i64 m) = cond (kbeq .i64 .i64) (cond (ieq m 0) none (some (.int .i64 (norm (a.tmod m))))) none := rfl
  rw [e, ieq_false hm, norm_eq]
  rfl
theorem ltAV (a b : Int) : bLt (.int .i64 a) (.int .i64 b) = some (.bool (decide (a < b))) := by
  unfold bLt
  rw [b64_eq (fun _ _ => rfl)]
  show some (AV.bool (ilt a b)) = _
  rw [ilt_eq]
theorem addAV (a b : Int) (h1 : 0 ≤ a + b) (h2 : a + b ≤ 9223372036854775807) : bAdd (.int .i64 a) (.int .i64 b) = some (.int .i64 (a + b)) := by
  unfold bAdd
  rw [b64_eq (fun x y => by show some (AV.int .i64 (wr .i64 (x + y))) = _; rw [fAdd, wr64_eq, iAdd_eq])]
  show some (AV.int .i64 (wr .i64 (a + b))) = _
  rw [wr_eq, wrap_self (by simp [IntKind.min, IntKind.signed, IntKind.bits]; omega) (by simp [IntKind.max, IntKind.signed, IntKind.bits]; omega)]
/-- A law's number, brought within reach: what 'within' computes. -/
theorem within_math (a : Int) (m : Nat) (hm : 0 < m) (hm2 : m < 1000000) : ∃ k : Nat, k < m ∧ ∀ (F : AV → Ans),
    (oB (binAV .rem .no (.int .i64 a) (I m)) fun x8 => oB (bLt x8 (I 0)) fun x10 => ci x10 (oB (bAdd x8 (I m)) fun x13 => F x13) (F x8)) = F (I k) := by
  have h0 : (m : Int) ≠ 0 := by omega
  by_cases hlt : a.tmod m < 0
  · have hb := Int.lt_tmod_of_pos a (show (0 : Int) < m by omega)
    refine ⟨(a.tmod m + m).toNat, by omega, fun F => ?_⟩
    have e1 : I m = .int .i64 (m : Int) := rfl
    have e0 : I 0 = .int .i64 0 := rfl
    rw [e1, remAV a m h0, oB_some, e0, ltAV, oB_some, decide_eq_true hlt]
    show oB (bAdd (.int .i64 (a.tmod m)) (.int .i64 m)) _ = _
    rw [addAV _ _ (by omega) (by omega), oB_some]
    congr 1
    unfold I
    congr 1
    rw [Int.ofNat_eq_natCast]
    omega
  · have hb := Int.tmod_lt_of_pos a (show (0 : Int) < m by omega)
    refine ⟨(a.tmod m).toNat, by omega, fun F => ?_⟩
    have e1 : I m = .int .i64 (m : Int) := rfl
    have e0 : I 0 = .int .i64 0 := rfl
    rw [e1, remAV a m h0, oB_some, e0, ltAV, oB_some, decide_eq_false hlt]
    show F _ = _
    congr 1
    unfold I
    congr 1
    rw [Int.ofNat_eq_natCast]
    omega
end Go.Ev
end PEvJh
/- Two runs that part at one call. -/
section PEvJi
set_option linter.unusedVariables false
namespace Go.Ev
theorem oP_congr {x : Option (AV × AH)} {f g : AV → AH → Ans} (h : ∀ v h', x = some (v, h') → f v h' = g v h') : oP x f = oP x g := by
  cases x with
  | none => rfl
  | some p => exact h p.1 p.2 rfl
theorem oB_congr {x : Option AV} {f g : AV → Ans} (h : ∀ v, x = some v → f v = g v) : oB x f = oB x g := by
  cases x with
  | none => rfl
  | some p => exact h p rfl
theorem oLen_built {h h' : AH} {e s len : Nat} {z : List AV} {fs : List (Nat × Nat × AV)} {v : AV} (hb : oBuildSl h e s len z fs = some (v, h')) : oLen v = some (I len) := by
  unfold oBuildSl at hb
  split at hb
  · simp only [Option.some.injEq, Prod.mk.injEq] at hb
    obtain ⟨rfl, rfl⟩ := hb
    rfl
  · cases hb
theorem evQ_not_true (h : AH) : evQ (.un .not (.c (.bool true))) .e h = some (.bool false) := rfl
theorem ci_false (x y : Ans) : ci (.bool false) x y = y := rfl
theorem ci_true (x y : Ans) : ci (.bool true) x y = x := rfl
end Go.Ev
end PEvJi
/- Closed facts of rows, told cheaply. -/
section PEvJk
set_option linter.unusedVariables false
namespace Go.Ev
theorem goes_none {P : Program} (h : P.funcs.any Func.goes = false) (f : FuncId) : P.goes f = false := by
  unfold Program.goes
  rw [h, Bool.and_false, Bool.or_false]
  rw [List.any_eq_false]
  intro g _
  cases hg : P.funcs[g]? with
  | none => simp
  | some fn =>
    simp only [Option.any_some]
    have := Array.any_eq_false.1 h g (by
      rcases Nat.lt_or_ge g P.funcs.size with h | h
      · exact h
      · rw [Array.getElem?_eq_none h] at hg; cases hg)
    rw [Array.getElem?_eq_some_iff] at hg
    obtain ⟨hlt, rfl⟩ := hg
    simpa using this
theorem goesBy_none {P : Program} {c : OpenClaim} (hs : c.start = .entering) (h : P.funcs.any Func.goes = false) : false = c.goesBy P := by
  unfold OpenClaim.goesBy Program.goesAt Program.goesFrom
  rw [hs]
  cases P.funcNamed c.func with
  | none => rfl
  | some f => simp [goes_none h]
theorem and_t {a b : Bool} (h : a = true) (k : b = true) : (a && b) = true := by rw [h, k]; rfl
theorem assume_ok {P : Program} {f : FuncId} (modest : Bool) {w : World} (i : Input) : ({ modest := modest } : Assume).holds P (lone (Frame.enter P f i.args .normal) [] (w.forCall (fun _ _ => 0) i)) := by
  simp only [Assume.holds]
  exact ⟨by simp, by simp, fun _ => Modest.zero, by simp, by simp⟩
end Go.Ev
end PEvJk
