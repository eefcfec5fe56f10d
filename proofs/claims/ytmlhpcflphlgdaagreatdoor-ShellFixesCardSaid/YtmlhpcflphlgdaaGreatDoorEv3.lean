/- An evaluator of the model's programs over abstract values, proved sound: part 3. -/
import Derived.Test.YtmlhpcflphlgdaaGreatDoorEv2
import Derived.LoopN
import Derived.ScopeJumps
import Derived.Orders
/- The compact code is sound: regions in the order of the text, and all that is made of them. -/
section PEvS14
set_option linter.unusedSimpArgs false
namespace Go.Ev
variable {P : Program} {g : Gh} {h : AH} {w : World}

/-- A frame's slots. -/
structure FR (N : Nat) (dl : List Deferred) (g : Gh) (a : Env) (ac : Act) : Prop where
  ar : AR g a ac
  size : ac.tmps.size = N
  defers : ac.defers = dl

theorem AR.mono {g g' : Gh} (hg : g.le g') {a : Env} {ac : Act} (h : AR g a ac) : AR g' a ac := fun t v e =>
  let ⟨vc, h1, h2⟩ := h t v e
  ⟨vc, h1, h2.mono hg⟩
theorem FR.mono {N : Nat} {dl : List Deferred} {g g' : Gh} (hg : g.le g') {a : Env} {ac : Act} (h : FR N dl g a ac) : FR N dl g' a ac := ⟨h.ar.mono hg, h.size, h.defers⟩

theorem FR.put {N : Nat} {dl : List Deferred} {g : Gh} {a : Env} {ac : Act} (h : FR N dl g a ac) (d : Option Tmp) {v : AV} {vc : Value} (hv : VR g v vc) : FR N dl g (putE a (cDst N d) v) (ac.put d vc) := by
  cases d with
  | none => exact h
  | some d =>
    refine ⟨?_, by simp [Act.put, h.size], by simp [Act.put, h.defers]⟩
    intro t u e
    simp only [cDst] at e
    by_cases hd : d < N
    · rw [if_pos hd] at e
      simp only [putE, Tr.get_set] at e
      by_cases ht : d = t
      · subst ht
        rw [if_pos rfl] at e
        simp at e; subst e
        exact ⟨vc, by simp [Act.put, h.size, hd], hv⟩
      · rw [if_neg ht] at e
        obtain ⟨uc, h1, h2⟩ := h.ar t u e
        exact ⟨uc, by simp [Act.put, Array.getElem?_setIfInBounds_ne ht, h1], h2⟩
    · rw [if_neg hd] at e
      obtain ⟨uc, h1, h2⟩ := h.ar t u e
      refine ⟨uc, ?_, h2⟩
      have : d ≠ t := by
        intro hdt; subst hdt
        rw [Array.getElem?_eq_none (by rw [h.size]; exact Nat.le_of_not_lt hd)] at h1; cases h1
      simp [Act.put, Array.getElem?_setIfInBounds_ne this, h1]

/-- A caller is sound. -/
def CallS (P : Program) (call : Caller) : Prop :=
  ∀ (f : FuncId) (vs : List AV) (h : AH) (v : AV) (h' : AH), call f vs h = some (v, h') → HasBody P f ∧
    ∀ (g : Gh) (w : World) (args : List Value), Sim g h w → VRL g vs args →
      Calls P f args.toArray w fun e w' => ∃ vc g', e = .returned vc ∧ VR g' v vc ∧ Sim g' h' w' ∧ Stp g h w g' h' w'

theorem guardE_sound {a : Env} {ac : Act} (ha : AR g a ac) {ops : Array Oper} {o : Oper} {gd : Nat × Bool} {t : Nat} {b : Bool} (ho : o.guard = some gd) (ht : (ops[gd.1]?).bind (·.dst) = some t) (he : guardE a (some (t, gd.2)) = some b) :
    Region.wanted o (yielded ops ac.tmps) = b := by
  obtain ⟨j, want⟩ := gd
  simp only [Region.wanted, ho, yielded]
  simp only at ht
  rw [ht]
  simp only [Option.bind_some]
  simp only [guardE] at he
  split at he
  · rename_i c hc
    obtain ⟨vc, h1, h2⟩ := ha _ _ hc
    rw [VR] at h2; subst h2
    simp only [h1]
    simp at he; subst he
    cases want <;> cases c <;> rfl
  · rename_i v hnb hv
    obtain ⟨vc, h1, h2⟩ := ha _ _ hv
    simp only [h1]
    simp at he; subst he
    have : ∀ c, vc ≠ .bool c := by
      intro c hc
      subst hc
      cases v <;> simp [VR] at h2
      exact hnb _ rfl
    cases vc <;> first | (exact absurd rfl (this _)) | (cases want <;> rfl)
  · cases he

/-- What is asked behind an operation, met whatever world comes. -/
def Go (N : Nat) (dl : List Deferred) (g : Gh) (h : AH) (w : World) (a' : Env) (h' : AH) (K : Act → World → Prop) : Prop :=
  ∀ g' ac' w', FR N dl g' a' ac' → Sim g' h' w' → Stp g h w g' h' w' → K ac' w'

theorem evO_sound {call : Caller} (hcall : CallS P call) {N : Nat} {dl : List Deferred} {o : Oper} {e : EOp} (hs : Sound P o e) {a : Env} {ac : Act} {v : AV} {h' : AH} (s : Sim g h w) (ha : FR N dl g a ac) (he : evO call e a h = some (v, h')) (K : Act → World → Prop) (Q : Exit → Act → World → Prop)
    (hK : Go N dl g h w (putE a (cDst N o.dst) v) h' K) : o.wp P ac w K Q := by
  unfold evO at he
  rcases hs with ⟨hq, hok⟩ | ⟨hq, hc, hok, _⟩ | ⟨hq, hc, hok⟩
  · simp only [hq, cond_true] at he
    split at he
    · rename_i u hu
      simp only [Option.some.injEq, Prod.mk.injEq] at he
      obtain ⟨rfl, rfl⟩ := he
      obtain ⟨vc, h1, h2⟩ := hok g h w a ac u s ha.ar hu
      simp only [Oper.wp, h2, Oper.upon]
      exact hK g _ w (ha.put o.dst h1) s (Stp.refl _ _ _)
    · cases he
  · simp only [hq, hc, cond_false] at he
    obtain ⟨vc, g', w', hr, h1, s', st⟩ := hok g h w a ac v h' s ha.ar he
    rcases hr with hr | ⟨hr, rfl⟩
    · simp only [Oper.wp, hr, Oper.upon]
      exact hK g' _ w' ((ha.mono st.ext).put o.dst h1) s' st
    · simp only [Oper.wp, hr, Oper.upon]
      exact hK g' _ w' ((ha.mono st.ext).put o.dst h1) s' st
  · simp only [hq, hc, cond_false, cond_true] at he
    split at he
    · rename_i f vs hcc
      obtain ⟨hb, hcs⟩ := hcall f vs h v h' he
      obtain ⟨args, h1, h2⟩ := hok g w a ac f vs ha.ar hcc hb
      simp only [Oper.wp, h2, Oper.upon]
      refine (hcs g w args s h1).mono ?_
      rintro e w' ⟨vc, g', rfl, hv, s', st⟩
      exact hK g' _ w' ((ha.mono st.ext).put o.dst hv) s' st
    · cases he

/-- An operation of a region, or its being left out. -/
def stepAt (P : Program) (ops : Array Oper) (o : Oper) (K : Act → World → Prop) (Q : Exit → Act → World → Prop) (ac : Act) (w : World) : Prop :=
  if Region.wanted o (yielded ops ac.tmps) then o.wp P ac w K Q ∨ (o.asks P ac w ∧ LetsOut Q) else K (ac.put o.dst undef) w

theorem evOper_sound {call : Caller} (hcall : CallS P call) {N : Nat} {dl : List Deferred} {ops : Array Oper} {o : Oper} {a a' : Env} {ac : Act} {h' : AH} (s : Sim g h w) (ha : FR N dl g a ac) (he : evOper call (cOper P N ops o) a h = some (a', h')) (K : Act → World → Prop) (Q : Exit → Act → World → Prop)
    (hK : Go N dl g h w a' h' K) : stepAt P ops o K Q ac w := by
  have run : ∀ (gd : Option (Nat × Bool)) (b : Bool), guardE a gd = some b → Region.wanted o (yielded ops ac.tmps) = b →
      evOper call { dst := cDst N o.dst, op := (cOp P o.op).getD .bad, guard := gd } a h = some (a', h') → stepAt P ops o K Q ac w := by
    intro gd b hg hw he
    unfold stepAt
    rw [hw]
    simp only [evOper, hg] at he
    cases b with
    | true =>
      simp only [if_true] at he ⊢
      left
      cases hc : cOp P o.op with
      | none =>
        simp only [hc, Option.getD_none] at he
        simp [evO, EOp.quiet, EOp.isCall, evQ] at he
      | some e =>
        simp only [hc, Option.getD_some] at he
        split at he
        · rename_i v h1 hev
          simp only [Option.some.injEq, Prod.mk.injEq] at he
          obtain ⟨rfl, rfl⟩ := he
          exact evO_sound hcall (cOp_ok hc) s ha hev K Q hK
        · cases he
    | false =>
      simp only [Option.some.injEq, Prod.mk.injEq] at he
      obtain ⟨rfl, rfl⟩ := he
      simp only [Bool.false_eq_true, if_false]
      exact hK g _ w (ha.put o.dst VR_undef) s (Stp.refl _ _ _)
  unfold cOper at he
  cases hgd : o.guard with
  | none =>
    simp only [hgd] at he
    exact run none true rfl (by simp [Region.wanted, hgd]) he
  | some gb =>
    obtain ⟨j, b⟩ := gb
    simp only [hgd] at he
    cases ht : (ops[j]?).bind (·.dst) with
    | none =>
      simp only [ht] at he
      simp [evOper, guardE, evO, EOp.quiet, EOp.isCall, evQ] at he
    | some t =>
      simp only [ht] at he
      cases hge : guardE a (some (t, b)) with
      | none => simp [evOper, hge] at he
      | some c => exact run (some (t, b)) c hge (guardE_sound ha.ar (gd := (j, b)) hgd ht hge) he

theorem wpOps_step {ops : Array Oper} {Q : Exit → Act → World → Prop} {i : Nat} {rest : List Nat} {o : Oper} {ac : Act} (ho : ops[i]? = some o) (h : stepAt P ops o (wpOps P ops Q rest) Q ac w) : wpOps P ops Q (i :: rest) ac w := by
  simp only [wpOps, ho]
  exact h

theorem evOps_sound {call : Caller} (hcall : CallS P call) {N : Nat} {dl : List Deferred} {ops : Array Oper} : ∀ (l : List Oper) (is : List Nat) (g : Gh) (h : AH) (w : World) (a : Env) (ac : Act) (a' : Env) (h' : AH),
    is.map (ops[·]?) = l.map some → Sim g h w → FR N dl g a ac → evOps call (l.map (cOper P N ops)) a h = some (a', h') → ∀ (Q : Exit → Act → World → Prop), Go N dl g h w a' h' (Q .normal) → wpOps P ops Q is ac w
  | [], is, g, h, w, a, ac, a', h', hi, s, ha, he, Q, hQ => by
    have : is = [] := by cases is <;> simp at hi ⊢
    subst this
    simp only [List.map_nil, evOps, Option.some.injEq, Prod.mk.injEq] at he
    obtain ⟨rfl, rfl⟩ := he
    exact hQ g ac w ha s (Stp.refl _ _ _)
  | o :: l, is, g, h, w, a, ac, a', h', hi, s, ha, he, Q, hQ => by
    cases is with
    | nil => simp at hi
    | cons i is =>
      simp only [List.map_cons, List.cons.injEq] at hi
      obtain ⟨hi0, hi⟩ := hi
      simp only [List.map_cons, evOps] at he
      split at he
      · rename_i a1 h1 hstep
        refine wpOps_step hi0 (evOper_sound hcall s ha hstep _ Q ?_)
        intro g1 ac1 w1 ha1 s1 st1
        exact evOps_sound hcall l is g1 h1 w1 a1 ac1 a' h' hi s1 ha1 he Q (fun g2 ac2 w2 ha2 s2 st2 => hQ g2 ac2 w2 ha2 s2 (st1.trans st2))
      · cases he

theorem region_sound {call : Caller} (hcall : CallS P call) {N id : Nat} {dl : List Deferred} {ops : Array Oper} {a a' : Env} {ac : Act} {h' : AH} (s : Sim g h w) (ha : FR N dl g a ac) (he : evOps call (ops.toList.map (cOper P N ops)) a h = some (a', h')) (Q : Exit → Act → World → Prop)
    (hQ : Go N dl g h w a' h' (Q .normal)) : (Code.region id ops false).wp P Q ac w := by
  refine wp_region (evOps_sound hcall ops.toList _ g h w a ac a' h' ?_ s ha he Q hQ)
  apply List.ext_getElem?
  intro i
  by_cases hi : i < ops.size
  · simp [hi]
  · simp [Nat.le_of_not_lt hi]

/-! ### code -/
def exitOf : AX → Exit
  | .normal => .normal
  | .exit id => .exit id
  | .goto l => .goto l
  | .ret => .ret

/-- Running code is sound. -/
def RunS (P : Program) (run : EC → Env → AH → Res) : Prop :=
  ∀ (N : Nat) (c : Code) (a : Env) (h : AH) (x : AX) (a' : Env) (h' : AH), run (comp P N c) a h = some (x, a', h') →
    ∀ (dl : List Deferred) (g : Gh) (w : World) (ac : Act), Sim g h w → FR N dl g a ac → ∀ (Q : Exit → Act → World → Prop), Go N dl g h w a' h' (Q (exitOf x)) → c.wp P Q ac w

def DrawS (P : Program) (draw : List EOper → List Nat → Env → AH → Option (Env × AH)) : Prop :=
  ∀ (N id : Nat) (ops : Array Oper) (a : Env) (h : AH) (a' : Env) (h' : AH), edgesB ops.toList 0 = true → apartB (ops.toList.map (cOper P N ops)) (ancs ops.toList []) 0 = true →
    draw (ops.toList.map (cOper P N ops)) (ancs ops.toList []) a h = some (a', h') →
    ∀ (dl : List Deferred) (g : Gh) (w : World) (ac : Act), Sim g h w → FR N dl g a ac → ∀ (Q : Exit → Act → World → Prop), Go N dl g h w a' h' (Q .normal) → (Code.region id ops true).wp P Q ac w

theorem Go.then {N : Nat} {dl : List Deferred} {g g1 : Gh} {h h1 : AH} {w w1 : World} {a' : Env} {h' : AH} {K : Act → World → Prop} (st : Stp g h w g1 h1 w1) (hk : Go N dl g h w a' h' K) : Go N dl g1 h1 w1 a' h' K :=
  fun g' ac' w' ha' s' st' => hk g' ac' w' ha' s' (st.trans st')

theorem loop_sound {run : EC → Env → AH → Res} (hrun : RunS P run) {N : Nat} {c : Code} : ∀ (n : Nat) (a : Env) (h : AH) (x : AX) (a' : Env) (h' : AH), loopRun run (comp P N c) n a h = some (x, a', h') →
    ∀ (dl : List Deferred) (g : Gh) (w : World) (ac : Act), Sim g h w → FR N dl g a ac → ∀ (Q : Exit → Act → World → Prop), Go N dl g h w a' h' (Q (exitOf x)) → x ≠ .normal ∧ Code.rounds P c Q n ac w
  | 0, a, h, x, a', h', he, _, _, _, _, _, _, _, _ => by simp [loopRun] at he
  | n + 1, a, h, x, a', h', he, dl, g, w, ac, s, ha, Q, hQ => by
    simp only [loopRun] at he
    split at he
    · rename_i a1 h1 hb
      have key : ∀ g1 w1 ac1, Sim g1 h1 w1 → FR N dl g1 a1 ac1 → Stp g h w g1 h1 w1 → x ≠ .normal ∧ Code.rounds P c Q n ac1 w1 := fun g1 w1 ac1 s1 ha1 st1 =>
        loop_sound hrun n a1 h1 x a' h' he dl g1 w1 ac1 s1 ha1 Q (hQ.then st1)
      refine ⟨?_, ?_⟩
      · intro hx
        subst hx
        -- the result of a loop is no normal end: it is found in 'he' alone
        have : ∀ (n : Nat) (a : Env) (h : AH) (a' : Env) (h' : AH), loopRun run (comp P N c) n a h ≠ some (.normal, a', h') := by
          intro n
          induction n with
          | zero => intro a h a' h' e; simp [loopRun] at e
          | succ n ih =>
            intro a h a' h' e
            simp only [loopRun] at e
            split at e
            · exact ih _ _ _ _ e
            · rename_i r hr
              rw [e] at hr
              exact hr _ _ rfl
        exact this _ _ _ _ _ he
      · rw [rounds_succ]
        exact hrun N c a h .normal a1 h1 hb dl g w ac s ha _ (fun g1 ac1 w1 ha1 s1 st1 => (key g1 w1 ac1 s1 ha1 st1).2)
    · rename_i r hr
      have hne : x ≠ .normal := by
        intro hx; subst hx
        exact hr _ _ he
      refine ⟨hne, ?_⟩
      rw [rounds_succ]
      refine hrun N c a h x a' h' he dl g w ac s ha _ ?_
      intro g1 ac1 w1 ha1 s1 st1
      have := hQ g1 ac1 w1 ha1 s1 st1
      cases x <;> first | (exact absurd rfl hne) | exact this

theorem findL_comp {N : Nat} : ∀ (c : Code) (l : Nat), findL (comp P N c) l = (findLabel c l).map (comp P N)
  | .seq a b, l => by
    simp only [comp, findL, findLabel, findL_comp a l, findL_comp b l]
    cases findLabel a l <;> simp [comp]
  | .label l', l => by
    simp only [comp, findL, findLabel]
    by_cases h : l' = l
    · subst h; simp [comp]
    · have h1 : Nat.beq l' l = false := by
        rw [Bool.eq_false_iff]; intro hb; exact h (by simpa using hb)
      have h2 : (l' == l) = false := by simpa using h
      simp [h1, h2]
  | .skip, _ => rfl
  | .region _ ops d, _ => by
    simp only [comp]
    cases d with
    | false => rfl
    | true =>
      simp only [cond_true]
      cases edgesB ops.toList 0 && apartB (ops.toList.map (cOper P N ops)) (ancs ops.toList []) 0 <;> rfl
  | .cond c _ _, _ => by
    simp only [comp]
    cases cOd c <;> rfl
  | .block _ _, _ => rfl
  | .loop _, _ => rfl
  | .scope _, _ => rfl
  | .exit _, _ => rfl
  | .goto _, _ => rfl
  | .ret, _ => rfl
  | .rangeFunc .., _ => rfl
  | .refuse _, _ => rfl

/-- Within a scope. -/
def Within (P : Program) (c cur : Code) (Q : Exit → Act → World → Prop) (ac : Act) (w : World) : Prop :=
  ∀ (b : Frame) (k : List Item) (cs : List Frame), ∃ e a' w', Q e a' w' ∧ Arrives P (lone (b.at ac (.code cur :: .inScope c :: k)) cs w) b k cs e a' w'

theorem wp_scope_within {c : Code} {Q : Exit → Act → World → Prop} {ac : Act} (h : Within P c c Q ac w) : (Code.scope c).wp P Q ac w := fun b k cs =>
  let ⟨e, a', w', hq, harr⟩ := h b k cs
  ⟨e, a', w', hq, .of_steps (.one step_scope) harr⟩

/-- By a goto: on from there. -/
def Exit.on (K : Nat → Act → World → Prop) (Q : Exit → Act → World → Prop) : Exit → Act → World → Prop
  | .goto l, a, w => K l a w
  | e, a, w => Q e a w

theorem within_step {c cur : Code} {Q : Exit → Act → World → Prop} {ac : Act} (h : cur.wp P (Exit.on (fun l a w => match findLabel c l with
    | some rest => Within P c rest Q a w
    | none => Q (.goto l) a w) Q) ac w) : Within P c cur Q ac w := by
  intro b k cs
  obtain ⟨e, a₁, w₁, hq, harr⟩ := h b (.inScope c :: k) cs
  cases e with
  | normal => exact ⟨.normal, a₁, w₁, hq, Steps.trans harr (.one step_inScope)⟩
  | exit id => exact ⟨.exit id, a₁, w₁, hq, fun k' hk => harr k' (by simp [exitTo, hk])⟩
  | goto l =>
    simp only [Exit.on] at hq
    cases hf : findLabel c l with
    | none =>
      simp only [hf] at hq
      exact ⟨.goto l, a₁, w₁, hq, fun k' hk => harr k' (by simp [gotoIn, hf, hk])⟩
    | some rest =>
      simp only [hf] at hq
      obtain ⟨e₂, a₂, w₂, hq₂, harr₂⟩ := hq b k cs
      exact ⟨e₂, a₂, w₂, hq₂, .of_steps (harr _ (by simp [gotoIn, hf])) harr₂⟩
  | ret => exact ⟨_, a₁, w₁, hq, harr⟩
  | panic ch => exact ⟨_, a₁, w₁, hq, harr⟩
  | outgrown => exact ⟨_, a₁, w₁, hq, harr⟩

theorem scope_sound {run : EC → Env → AH → Res} (hrun : RunS P run) {N : Nat} {c : Code} : ∀ (n : Nat) (cur : Code) (a : Env) (h : AH) (x : AX) (a' : Env) (h' : AH), scopeRun run (comp P N c) n (comp P N cur) a h = some (x, a', h') →
    ∀ (dl : List Deferred) (g : Gh) (w : World) (ac : Act), Sim g h w → FR N dl g a ac → ∀ (Q : Exit → Act → World → Prop), Go N dl g h w a' h' (Q (exitOf x)) → Within P c cur Q ac w
  | 0, cur, a, h, x, a', h', he, _, _, _, _, _, _, _, _ => by simp [scopeRun] at he
  | n + 1, cur, a, h, x, a', h', he, dl, g, w, ac, s, ha, Q, hQ => by
    simp only [scopeRun] at he
    split at he
    · rename_i l a1 h1 hb
      refine within_step (hrun N cur a h (.goto l) a1 h1 hb dl g w ac s ha _ ?_)
      intro g1 ac1 w1 ha1 s1 st1
      simp only [exitOf, Exit.on]
      rw [findL_comp] at he
      cases hf : findLabel c l with
      | none =>
        simp only [hf, Option.map_none, Option.some.injEq, Prod.mk.injEq] at he
        obtain ⟨rfl, rfl, rfl⟩ := he
        exact hQ g1 ac1 w1 ha1 s1 st1
      | some rest =>
        simp only [hf, Option.map_some] at he
        exact scope_sound hrun n rest a1 h1 x a' h' he dl g1 w1 ac1 s1 ha1 Q (hQ.then st1)
    · rename_i r hr
      refine within_step (hrun N cur a h x a' h' he dl g w ac s ha _ ?_)
      intro g1 ac1 w1 ha1 s1 st1
      have := hQ g1 ac1 w1 ha1 s1 st1
      cases x <;> first | exact this | (exact absurd he (hr _ _ _))

theorem evStep_sound {n : Nat} {call : Caller} {run : EC → Env → AH → Res} {draw : List EOper → List Nat → Env → AH → Option (Env × AH)} (hcall : CallS P call) (hrun : RunS P run) (hdraw : DrawS P draw) : RunS P (evStep n call run draw) := by
  intro N c a h x a' h' he dl g w ac s ha Q hQ
  cases c with
  | skip =>
    simp only [comp, evStep, Option.some.injEq, Prod.mk.injEq] at he
    obtain ⟨rfl, rfl, rfl⟩ := he
    exact wp_skip (hQ g ac w ha s (Stp.refl _ _ _))
  | label l =>
    simp only [comp, evStep, Option.some.injEq, Prod.mk.injEq] at he
    obtain ⟨rfl, rfl, rfl⟩ := he
    exact wp_label (hQ g ac w ha s (Stp.refl _ _ _))
  | region id ops d =>
    cases d with
    | false =>
      simp only [comp, cond_false, evStep] at he
      split at he
      · rename_i a1 h1 hev
        simp only [Option.some.injEq, Prod.mk.injEq] at he
        obtain ⟨rfl, rfl, rfl⟩ := he
        exact region_sound hcall s ha hev Q hQ
      · cases he
    | true =>
      simp only [comp, cond_true] at he
      cases hB : (edgesB ops.toList 0 && apartB (ops.toList.map (cOper P N ops)) (ancs ops.toList []) 0) with
      | false => simp [hB, evStep] at he
      | true =>
        simp only [hB, cond_true, evStep] at he
        simp only [Bool.and_eq_true] at hB
        split at he
        · rename_i a1 h1 hev
          simp only [Option.some.injEq, Prod.mk.injEq] at he
          obtain ⟨rfl, rfl, rfl⟩ := he
          exact hdraw N id ops a h a1 h1 hB.1 hB.2 hev dl g w ac s ha Q hQ
        · cases he
  | seq p q =>
    simp only [comp, evStep] at he
    split at he
    · rename_i a1 h1 hp
      refine wp_seq (hrun N p a h .normal a1 h1 hp dl g w ac s ha _ ?_)
      intro g1 ac1 w1 ha1 s1 st1
      exact hrun N q a1 h1 x a' h' he dl g1 w1 ac1 s1 ha1 Q (hQ.then st1)
    · rename_i r hr
      refine wp_seq (hrun N p a h x a' h' he dl g w ac s ha _ ?_)
      intro g1 ac1 w1 ha1 s1 st1
      have := hQ g1 ac1 w1 ha1 s1 st1
      cases x <;> first | exact this | (exact absurd he (hr _ _))
  | cond c p q =>
    simp only [comp] at he
    cases hc : cOd c with
    | none => simp [hc, evStep] at he
    | some c' =>
      simp only [hc, evStep] at he
      split at he
      · rename_i hb
        have := od_sound ha.ar hc hb
        rw [VR] at this
        exact wp_cond_true this (hrun N p a h x a' h' he dl g w ac s ha Q hQ)
      · rename_i hb
        have := od_sound ha.ar hc hb
        rw [VR] at this
        exact wp_cond_false this (hrun N q a h x a' h' he dl g w ac s ha Q hQ)
      · cases he
  | block id b =>
    simp only [comp, evStep] at he
    split at he
    · rename_i id' a1 h1 hb
      refine wp_block (hrun N b a h (.exit id') a1 h1 hb dl g w ac s ha _ ?_)
      intro g1 ac1 w1 ha1 s1 st1
      simp only [exitOf, Exit.inBlock]
      cases hid : Nat.beq id' id with
      | true =>
        simp only [hid, cond_true, Option.some.injEq, Prod.mk.injEq] at he
        obtain ⟨rfl, rfl, rfl⟩ := he
        rw [if_pos (by simpa using hid)]
        exact hQ g1 ac1 w1 ha1 s1 st1
      | false =>
        simp only [hid, cond_false, Option.some.injEq, Prod.mk.injEq] at he
        obtain ⟨rfl, rfl, rfl⟩ := he
        rw [if_neg (by intro e; subst e; simp at hid)]
        exact hQ g1 ac1 w1 ha1 s1 st1
    · rename_i r hr
      refine wp_block (hrun N b a h x a' h' he dl g w ac s ha _ ?_)
      intro g1 ac1 w1 ha1 s1 st1
      have := hQ g1 ac1 w1 ha1 s1 st1
      cases x <;> first | exact this | (exact absurd he (hr _ _ _))
  | loop b =>
    simp only [comp, evStep] at he
    exact wp_loop_rounds n (loop_sound hrun n a h x a' h' he dl g w ac s ha Q hQ).2
  | rangeFunc => simp [comp, evStep] at he
  | exit id =>
    simp only [comp, evStep, Option.some.injEq, Prod.mk.injEq] at he
    obtain ⟨rfl, rfl, rfl⟩ := he
    exact wp_exit (hQ g ac w ha s (Stp.refl _ _ _))
  | scope b =>
    simp only [comp, evStep] at he
    exact wp_scope_within (scope_sound hrun n b a h x a' h' he dl g w ac s ha Q hQ)
  | goto l =>
    simp only [comp, evStep, Option.some.injEq, Prod.mk.injEq] at he
    obtain ⟨rfl, rfl, rfl⟩ := he
    exact wp_goto (hQ g ac w ha s (Stp.refl _ _ _))
  | ret =>
    simp only [comp, evStep, Option.some.injEq, Prod.mk.injEq] at he
    obtain ⟨rfl, rfl, rfl⟩ := he
    exact wp_ret (hQ g ac w ha s (Stp.refl _ _ _))
  | refuse why => simp [comp, evStep] at he

end Go.Ev
end PEvS14
/- Calls are sound. -/
section PEvS15
set_option linter.unusedSimpArgs false
namespace Go.Ev
variable {P : Program} {g : Gh} {h : AH} {w : World}

theorem initE_get : ∀ (l : List AV) (i : Nat) (a : Env) (t : Nat), (initE i l a).get t = if i ≤ t ∧ t < i + l.length then l[t - i]? else a.get t
  | [], i, a, t => by
    simp only [initE, List.length_nil, Nat.add_zero]
    rw [if_neg (by omega)]
  | v :: l, i, a, t => by
    simp only [initE, List.length_cons]
    rw [initE_get l (i + 1) _ t, Tr.get_set]
    by_cases h1 : i + 1 ≤ t ∧ t < i + 1 + l.length
    · rw [if_pos h1, if_pos (by omega)]
      rw [show t - i = (t - (i + 1)) + 1 by omega]
      simp
    · rw [if_neg h1]
      by_cases h2 : i = t
      · subst h2
        rw [if_pos rfl, if_pos (by omega)]
        simp
      · rw [if_neg h2, if_neg (by omega)]

theorem init_sound {N : Nat} {dl : List Deferred} {vs : List AV} {args : List Value} (hv : VRL g vs args) (hN : vs.length ≤ N) :
    FR N dl g (initE 0 vs .e) { tmps := args.toArray ++ Array.replicate (N - args.toArray.size) undef, defers := dl } := by
  have hl := hv.length
  refine ⟨?_, by simp; omega, rfl⟩
  intro t v e
  rw [initE_get] at e
  split at e
  · rename_i ht
    simp only [Nat.sub_zero] at e
    obtain ⟨vc, h1, h2⟩ := hv.get e
    refine ⟨vc, ?_, h2⟩
    have hlt : t < args.length := by omega
    simp only []
    rw [Array.getElem?_append_left (by simpa using hlt)]
    simpa using h1
  · simp [Tr.get] at e

/-- What a result says. -/
def resRun (tmps : Array Value) : ResultVar → Sem Value
  | .tmp t => pure (tmps.getD t undef)
  | .cell a t => do loadVar t (← asAddr (tmps.getD a undef))
theorem results_eq (fn : Func) (tmps : Array Value) : results fn tmps = (do
    let vs ← fn.results.mapM (resRun tmps)
    pure (if h : vs.size = 1 then vs[0] else .tuple vs)) := rfl

theorem result1_sound {a : Env} {ac : Act} (s : Sim g h w) (ha : AR g a ac) {r : ResultVar} {r' : Nat × Option (Option Nat)} {v : AV} (hc : cRes P r = some r') (he : result1 a h r' = some v) :
    ∃ vc, VR g v vc ∧ (resRun ac.tmps r).run P w = .ok vc w := by
  cases r with
  | tmp t =>
    simp only [cRes, Option.some.injEq] at hc
    subst hc
    simp only [result1] at he
    obtain ⟨vc, h1, h2⟩ := ha t v he
    exact ⟨vc, h2, by simp [resRun, Array.getD_eq_getD_getElem?, h1]⟩
  | cell x t =>
    simp only [cRes, Option.map_eq_some_iff] at hc
    obtain ⟨ag, hag, rfl⟩ := hc
    simp only [result1] at he
    split at he
    · rename_i b off hb
      obtain ⟨vc, h1, bx, n, hφ, rfl⟩ := ha _ _ hb
      have hx : ac.tmps.getD x undef = .pointer (some ⟨bx, off, none⟩) := by simp [Array.getD_eq_getD_getElem?, h1]
      split at he
      · obtain ⟨vc, h2, h3⟩ := s.cell_at hφ he
        exact ⟨vc, h3, by simp [resRun, hx, asAddr, loadVar, run_isAgg_no hag, h2]⟩
      · rename_i n'
        split at he
        · rename_i l hl
          simp at he; subst he
          obtain ⟨vs, h2, h3, h4⟩ := s.cells_of hφ hl
          obtain ⟨e1, e2⟩ := run_isAgg_yes hag w
          exact ⟨.agg vs.toArray, ⟨vs, rfl, h2⟩, by simp [resRun, hx, asAddr, loadVar, e1, e2, run_loadCells_of P h3 h4]⟩
        · cases he
    · cases he

theorem results_list {a : Env} {ac : Act} (s : Sim g h w) (ha : AR g a ac) : ∀ {rs : List ResultVar} {rs' : List (Nat × Option (Option Nat))} {vs : List AV}, rs.mapM (cRes P) = some rs' → resultsE a h rs' = some vs →
    ∃ vcs, VRL g vs vcs ∧ (rs.mapM (resRun ac.tmps)).run P w = .ok vcs w
  | [], rs', vs, hc, he => by
    simp at hc; subst hc
    simp [resultsE] at he; subst he
    exact ⟨[], rfl, by simp⟩
  | r :: rs, rs', vs, hc, he => by
    simp only [List.mapM_cons, Option.bind_eq_bind, Option.bind_eq_some_iff, Option.pure_def, Option.some.injEq] at hc
    obtain ⟨r', hr, rs'', hrs, rfl⟩ := hc
    simp only [resultsE] at he
    split at he
    · rename_i v hv
      split at he
      · rename_i us hus
        simp at he; subst he
        obtain ⟨vc, h1, h2⟩ := result1_sound s ha hr hv
        obtain ⟨vcs, h3, h4⟩ := results_list s ha hrs hus
        exact ⟨vc :: vcs, ⟨_, _, rfl, h1, h3⟩, by
          rw [List.mapM_cons, Sem.run_bind, h2, Result.andThen_ok, Sem.run_bind, h4]; rfl⟩
      · cases he
    · cases he

theorem results_sound {a : Env} {ac : Act} {fn : Func} (s : Sim g h w) (ha : AR g a ac) {rs' : List (Nat × Option (Option Nat))} {vs : List AV} (hc : fn.results.toList.mapM (cRes P) = some rs') (he : resultsE a h rs' = some vs) :
    ∃ vc, VR g (tupE vs) vc ∧ (results fn ac.tmps).run P w = .ok vc w := by
  obtain ⟨vcs, h1, h2⟩ := results_list s ha hc he
  have hl := h1.length
  have hrun : (results fn ac.tmps).run P w = .ok (if h : vcs.toArray.size = 1 then vcs.toArray[0] else .tuple vcs.toArray) w := by
    rw [results_eq, Array.mapM_eq_mapM_toList, Sem.run_bind, Sem.run_map, h2]
    simp only [Result.andThen_ok, Sem.run_pure]
  by_cases h1' : vs.length = 1
  · obtain ⟨v, rfl⟩ : ∃ v, vs = [v] := by
      cases vs with
      | nil => simp at h1'
      | cons v l => cases l with
        | nil => exact ⟨v, rfl⟩
        | cons _ _ => simp at h1'
    rw [VRL] at h1
    obtain ⟨vc, ws, rfl, hv, hw⟩ := h1
    rw [VRL] at hw
    subst hw
    exact ⟨vc, hv, by rw [hrun]; simp⟩
  · refine ⟨.tuple vcs.toArray, ?_, ?_⟩
    · have : tupE vs = .tup vs := by
        cases vs with
        | nil => rfl
        | cons v l => cases l with
          | nil => simp at h1'
          | cons _ _ => rfl
      rw [this]
      exact ⟨vcs, rfl, h1⟩
    · rw [hrun, dif_neg (by simp; omega)]

def TOK (P : Program) (T : FuncId → Option EF) : Prop := ∀ f ef, T f = some ef → ∃ fn, P.funcs[f]? = some fn ∧ compF P fn = some ef
def ExtOK (P : Program) (X : Ext) : Prop := ∀ f c, X f = some c → ∀ call, CallS P call → ∀ (vs : List AV) (h : AH) (v : AV) (h' : AH), c call vs h = some (v, h') → HasBody P f ∧
    ∀ (g : Gh) (w : World) (args : List Value), Sim g h w → VRL g vs args →
      Calls P f args.toArray w fun e w' => ∃ vc g', e = .returned vc ∧ VR g' v vc ∧ Sim g' h' w' ∧ Stp g h w g' h' w'

theorem callStep_sound {T : FuncId → Option EF} {X : Ext} (hT : TOK P T) (hX : ExtOK P X) {run : EC → Env → AH → Res} {call : Caller} (hrun : RunS P run) (hcall : CallS P call) : CallS P (callStep T X run call) := by
  intro f vs h v h' he
  unfold callStep at he
  cases hx : X f with
  | some c =>
    simp only [hx] at he
    exact hX f c hx call hcall vs h v h' he
  | none =>
    simp only [hx] at he
    cases ht : T f with
    | none => simp [ht] at he
    | some ef =>
      simp only [ht] at he
      obtain ⟨fn, hf, hcf⟩ := hT f ef ht
      cases hle : Nat.ble vs.length ef.ntmps with
      | false => simp [hle] at he
      | true =>
        simp only [hle, cond_true] at he
        have hle' : vs.length ≤ ef.ntmps := by simpa using hle
        unfold compF at hcf
        split at hcf
        · rename_i b rs hb hrs
          split at hcf
          · cases hcf
          · rename_i hname
            simp only [Option.some.injEq] at hcf
            subst hcf
            refine ⟨⟨fn, hf, by simp [hb], hname⟩, ?_⟩
            intro g w args s hv
            have hfr := init_sound (dl := []) (N := fn.ntmps) hv hle'
            have fin : ∀ (x : AX) (a : Env) (h1 : AH) (us : List AV), (x = .normal ∨ x = .ret) → run (comp P fn.ntmps b) (initE 0 vs .e) h = some (x, a, h1) → resultsE a h1 rs = some us → v = tupE us → h' = h1 →
                Calls P f args.toArray w fun e w' => ∃ vc g', e = .returned vc ∧ VR g' v vc ∧ Sim g' h' w' ∧ Stp g h w g' h' w' := by
              intro x a h1 us hx1 hr hres hv1 hh1
              subst hv1; subst hh1
              refine calls_of_wp hf hb (hrun fn.ntmps b _ h x a h' hr [] g w _ s hfr _ ?_)
              intro g1 ac1 w1 ha1 s1 st1
              obtain ⟨vc, q1, q2⟩ := results_sound (fn := fn) s1 ha1.ar hrs hres
              rcases hx1 with rfl | rfl
              · exact ⟨ha1.defers, vc, q2, vc, g1, rfl, q1, s1, st1⟩
              · exact ⟨ha1.defers, vc, q2, vc, g1, rfl, q1, s1, st1⟩
            split at he
            · rename_i a h1 hr
              split at he
              · rename_i us hres
                simp only [Option.some.injEq, Prod.mk.injEq] at he
                exact fin .normal a h1 us (.inl rfl) hr hres he.1.symm he.2.symm
              · cases he
            · rename_i a h1 hr
              split at he
              · rename_i us hres
                simp only [Option.some.injEq, Prod.mk.injEq] at he
                exact fin .ret a h1 us (.inr rfl) hr hres he.1.symm he.2.symm
              · cases he
            · cases he
        · cases hcf

theorem evAll_sound {T : FuncId → Option EF} {X : Ext} {draw : Caller → List EOper → List Nat → Env → AH → Option (Env × AH)} (hT : TOK P T) (hX : ExtOK P X) (hdraw : ∀ call, CallS P call → DrawS P (draw call)) :
    ∀ n, RunS P (evAll T X draw n).1 ∧ CallS P (evAll T X draw n).2
  | 0 => by
    refine ⟨?_, ?_⟩
    · intro N c a h x a' h' he
      simp [evAll] at he
    · intro f vs h v h' he
      simp [evAll] at he
  | n + 1 => by
    obtain ⟨h1, h2⟩ := evAll_sound hT hX hdraw n
    exact ⟨evStep_sound h2 h1 (hdraw _ h2), callStep_sound hT hX h1 h2⟩

end Go.Ev
end PEvS15
/- Regions that draw their order: lists, masks, what a heap reads with blocks laid into it. -/
section PEvS16
set_option linter.unusedSimpArgs false
namespace Go.Ev
variable {P : Program} {g : Gh} {h : AH} {w : World}

/-! ### what comes ahead of what -/
theorem ancOf_bit (acc : List Nat) (j : Nat) : ∀ (l : List Edge), (ancOf acc l).testBit j = true → ∃ e ∈ l, Region.binds .any e = true ∧ (j = e.on ∨ (acc.getD e.on 0).testBit j = true)
  | [], h => by simp [ancOf] at h
  | e :: l, h => by
    simp only [ancOf] at h
    split at h
    · rename_i hb
      simp only [Nat.testBit_or, Bool.or_eq_true, Nat.testBit_two_pow, decide_eq_true_eq] at h
      rcases h with (h | h) | h
      · exact ⟨e, by simp, hb, .inl h.symm⟩
      · exact ⟨e, by simp, hb, .inr h⟩
      · obtain ⟨e', h1, h2, h3⟩ := ancOf_bit acc j l h
        exact ⟨e', by simp [h1], h2, h3⟩
    · obtain ⟨e', h1, h2, h3⟩ := ancOf_bit acc j l h
      exact ⟨e', by simp [h1], h2, h3⟩

theorem ancs_spec : ∀ (l : List Oper) (acc : List Nat), (ancs l acc).length = acc.length + l.length ∧ (ancs l acc).take acc.length = acc ∧
    ∀ i o, l[i]? = some o → (ancs l acc)[acc.length + i]? = some (ancOf ((ancs l acc).take (acc.length + i)) o.after.toList)
  | [], acc => by simp [ancs]
  | o :: l, acc => by
    obtain ⟨h1, h2, h3⟩ := ancs_spec l (acc ++ [ancOf acc o.after.toList])
    have hacc : (ancs (o :: l) acc).take acc.length = acc := by
      have := congrArg (List.take acc.length) h2
      simpa [ancs, List.take_take] using this
    refine ⟨by simp [ancs, h1]; omega, hacc, ?_⟩
    intro i o' hi
    cases i with
    | zero =>
      simp at hi; subst hi
      rw [Nat.add_zero, hacc]
      have := congrArg (fun l => l[acc.length]?) h2
      simp only [List.getElem?_take, List.length_append, List.length_cons, List.length_nil] at this
      rw [if_pos (by omega)] at this
      simpa [ancs] using this
    | succ i =>
      have := h3 i o' (by simpa using hi)
      simp only [List.length_append, List.length_cons, List.length_nil] at this
      simp only [ancs]
      rw [show acc.length + (i + 1) = acc.length + (0 + 1) + i by omega]
      exact this

/-- Closed towards what comes ahead. -/
def Closed (ops : List Oper) (D : Nat → Bool) : Prop := ∀ i o, ops[i]? = some o → D i = true → ∀ e ∈ o.after.toList, Region.binds .any e = true → D e.on = true

theorem anc_sub {ops : List Oper} {D : Nat → Bool} (hc : Closed ops D) : ∀ (i : Nat) (o : Oper) (m : Nat), ops[i]? = some o → (ancs ops [])[i]? = some m → (∀ e ∈ o.after.toList, Region.binds .any e = true → D e.on = true) → ∀ j, m.testBit j = true → D j = true := by
  intro i
  induction i using Nat.strongRecOn with
  | _ i ih =>
    intro o m ho hm hp j hj
    have hs := (ancs_spec ops []).2.2 i o ho
    simp only [List.length_nil, Nat.zero_add] at hs
    rw [hs] at hm
    simp at hm; subst hm
    obtain ⟨e, he, hb, hor⟩ := ancOf_bit _ j _ hj
    have hD := hp e he hb
    rcases hor with rfl | hor
    · exact hD
    · have hlen := (ancs_spec ops []).1
      simp only [List.length_nil, Nat.zero_add] at hlen
      by_cases hlt : e.on < i
      · have hil : i < ops.length := by
          rcases Nat.lt_or_ge i ops.length with h | h
          · exact h
          · rw [List.getElem?_eq_none h] at ho; cases ho
        have hol : e.on < ops.length := by omega
        have hget : ((ancs ops []).take i).getD e.on 0 = (ancs ops []).getD e.on 0 := by
          rw [List.getD_eq_getElem?_getD, List.getD_eq_getElem?_getD, List.getElem?_take_of_lt hlt]
        rw [hget] at hor
        have hm' : (ancs ops [])[e.on]? = some ((ancs ops []).getD e.on 0) := by
          rw [List.getD_eq_getElem?_getD, List.getElem?_eq_getElem (by omega)]; simp
        exact ih e.on hlt ops[e.on] _ (by simp [hol]) hm' (fun e' he' hb' => hc e.on ops[e.on] (by simp [hol]) hD e' he' hb') j hor
      · rw [List.getD_eq_getElem?_getD, List.getElem?_eq_none (by simp; omega)] at hor
        simp at hor

theorem edges_lt : ∀ (l : List Oper) (k : Nat), edgesB l k = true → ∀ i o, l[i]? = some o → ∀ e ∈ o.after.toList, Region.binds .any e = true → e.on < k + i
  | [], _, _, i, o, ho => by simp at ho
  | p :: l, k, h, i, o, ho => by
    simp only [edgesB, Bool.and_eq_true] at h
    intro e he hb
    cases i with
    | zero =>
      simp at ho; subst ho
      have := Array.all_eq_true_iff_forall_mem.1 h.1 e (by simpa using he)
      simp [hb] at this
      omega
    | succ i =>
      have := edges_lt l (k + 1) h.2 i o (by simpa using ho) e he hb
      omega

theorem anc_lt {ops : List Oper} (hE : edgesB ops 0 = true) {i m j : Nat} {o : Oper} (ho : ops[i]? = some o) (hm : (ancs ops [])[i]? = some m) (hj : m.testBit j = true) : j < i := by
  have := anc_sub (ops := ops) (D := fun t => decide (t < i)) (fun k p hp hk e he hb => by
    have := edges_lt ops 0 hE k p hp e he hb
    simp at hk ⊢
    omega) i o m ho hm (fun e he hb => by
    have := edges_lt ops 0 hE i o ho e he hb
    simp; omega) j hj
  simpa using this

/-! ### slots, written in part -/
def envW (p : Nat → Bool) : Nat → List (Option Nat × AV) → Env → Env
  | _, [], a => a
  | i, (d, v) :: l, a => envW p (i + 1) l (cond (p i) (putE a d v) a)

theorem putE_get (a : Env) (d : Option Nat) (v : AV) (t : Nat) : (putE a d v).get t = if d = some t then some v else a.get t := by
  cases d with
  | none => simp [putE]
  | some d => simp [putE, Tr.get_set]

theorem envW_agree {p q : Nat → Bool} {t : Nat} : ∀ (l : List (Option Nat × AV)) (i : Nat) (a a' : Env), a.get t = a'.get t → (∀ k v, l[k]? = some (some t, v) → p (i + k) = q (i + k)) → (envW p i l a).get t = (envW q i l a').get t
  | [], i, a, a', h, _ => h
  | (d, v) :: l, i, a, a', h, hk => by
    simp only [envW]
    refine envW_agree l (i + 1) _ _ ?_ (fun k u hu => by have := hk (k + 1) u (by simpa using hu); rwa [show i + (k + 1) = i + 1 + k by omega] at this)
    by_cases hd : d = some t
    · subst hd
      have := hk 0 v rfl
      simp only [Nat.add_zero] at this
      rw [this]
      cases q i <;> simp [putE_get, h]
    · cases p i <;> cases q i <;> simp [putE_get, hd, h]

theorem envW_off {p : Nat → Bool} {t : Nat} : ∀ (l : List (Option Nat × AV)) (i : Nat) (a : Env), (∀ k v, l[k]? = some (some t, v) → p (i + k) = false) → (envW p i l a).get t = a.get t
  | [], i, a, _ => rfl
  | (d, v) :: l, i, a, hk => by
    simp only [envW]
    rw [envW_off l (i + 1) _ (fun k u hu => by have := hk (k + 1) u (by simpa using hu); rwa [show i + (k + 1) = i + 1 + k by omega] at this)]
    by_cases hd : d = some t
    · subst hd
      have := hk 0 v rfl
      simp only [Nat.add_zero] at this
      simp [this]
    · cases p i <;> simp [putE_get, hd]

theorem envW_last {p : Nat → Bool} {t : Nat} {v : AV} : ∀ (l : List (Option Nat × AV)) (i : Nat) (a : Env) (k : Nat), l[k]? = some (some t, v) → p (i + k) = true → (∀ k' u, k < k' → l[k']? = some (some t, u) → p (i + k') = false) → (envW p i l a).get t = some v
  | [], i, a, k, h, _, _ => by simp at h
  | (d, u) :: l, i, a, k, h, hp, hk => by
    simp only [envW]
    cases k with
    | zero =>
      simp at h; obtain ⟨rfl, rfl⟩ := h
      simp only [Nat.add_zero] at hp
      rw [envW_off l (i + 1) _ (fun k' u' hu' => by have := hk (k' + 1) u' (by omega) (by simpa using hu'); rwa [show i + (k' + 1) = i + 1 + k' by omega] at this)]
      simp [hp, putE_get]
    | succ k =>
      refine envW_last l (i + 1) _ k (by simpa using h) (by rwa [show i + 1 + k = i + (k + 1) by omega]) (fun k' u' hlt hu' => ?_)
      have := hk (k' + 1) u' (by omega) (by simpa using hu')
      rwa [show i + (k' + 1) = i + 1 + k' by omega] at this

theorem envW_append {p : Nat → Bool} : ∀ (l m : List (Option Nat × AV)) (i : Nat) (a : Env), envW p i (l ++ m) a = envW p (i + l.length) m (envW p i l a)
  | [], m, i, a => by simp [envW]
  | (d, v) :: l, m, i, a => by
    simp only [List.cons_append, envW, envW_append l m, List.length_cons]
    rw [show i + 1 + l.length = i + (l.length + 1) by omega]

theorem restrict_get (a : Env) (t : Nat) (v : AV) : ∀ (l : List Nat), (restrict a l).get t = some v → t ∈ l ∧ a.get t = some v
  | [], h => by simp [restrict, Tr.get] at h
  | u :: l, h => by
    simp only [restrict] at h
    split at h
    · rename_i x hx
      rw [Tr.get_set] at h
      split at h
      · rename_i e
        subst e
        exact ⟨by simp, by rw [hx]; exact h⟩
      · obtain ⟨h1, h2⟩ := restrict_get a t v l h
        exact ⟨by simp [h1], h2⟩
    · obtain ⟨h1, h2⟩ := restrict_get a t v l h
      exact ⟨by simp [h1], h2⟩

/-! ### heaps with blocks laid into them -/
def blkAt (base : Nat) (p : Nat → Bool) (ents : List Ent) (b : Nat) : Option AO :=
  if base ≤ b ∧ p (b - base) = true then (ents[b - base]?).bind (·.f) else none

theorem view_get' (base : Nat) (p : Nat → Bool) (b : Nat) : ∀ (ents : List Ent) (i : Nat) (h : AH), (view base p i ents h).get b = (if base + i ≤ b ∧ p (b - base) = true then (ents[b - base - i]?).bind (·.f) else none).or (h.get b)
  | [], i, h => by simp [view]
  | e :: es, i, h => by
    simp only [view]
    rw [view_get' base p b es (i + 1)]
    by_cases hb : base + i = b
    · subst hb
      have h1 : ¬ (base + (i + 1) ≤ base + i) := by omega
      simp only [h1, false_and, if_false, Option.none_or]
      have h2 : base + i - base = i := by omega
      rw [h2, Nat.sub_self]
      cases hf : e.f with
      | none => simp [lay, hf]
      | some o =>
        cases hp : p i with
        | true => simp [lay, hf, hp, AH.get_put]
        | false => simp [lay, hf, hp]
    · have hget : (lay base p i e.f h).get b = h.get b := by
        cases e.f with
        | none => rfl
        | some o => cases hp : p i <;> simp [lay, AH.get_put, hb, hp]
      rw [hget]
      congr 1
      by_cases hle : base + (i + 1) ≤ b
      · rw [show b - base - i = (b - base - (i + 1)) + 1 by omega]
        simp only [List.getElem?_cons_succ]
        by_cases hp : p (b - base) = true
        · rw [if_pos ⟨hle, hp⟩, if_pos ⟨by omega, hp⟩]
        · rw [if_neg (fun h => hp h.2), if_neg (fun h => hp h.2)]
      · rw [if_neg (fun h => hle h.1), if_neg (fun h => by omega)]

theorem view_get (base : Nat) (p : Nat → Bool) (ents : List Ent) (h : AH) (b : Nat) : (view base p 0 ents h).get b = (blkAt base p ents b).or (h.get b) := by
  rw [view_get']; rfl

theorem view_next (base : Nat) (p : Nat → Bool) : ∀ (ents : List Ent) (i : Nat) (h : AH), (view base p i ents h).next = h.next
  | [], _, _ => rfl
  | e :: es, i, h => by
    simp only [view]
    rw [view_next base p es]
    cases e.f with
    | none => rfl
    | some o => simp only [lay]; cases p i <;> rfl

theorem view_append (base : Nat) (p : Nat → Bool) : ∀ (ents more : List Ent) (i : Nat) (h : AH), (∀ t, i + ents.length ≤ t → p t = false) → view base p i (ents ++ more) h = view base p i ents h
  | [], more, i, h, hp => by
    simp only [List.nil_append, view]
    induction more generalizing i h with
    | nil => rfl
    | cons e es ih =>
      simp only [view]
      have : p i = false := hp i (by simp)
      rw [ih (i + 1) _ (fun t ht => hp t (by simp at ht ⊢; omega))]
      cases e.f <;> simp [lay, this]
  | e :: es, more, i, h, hp => by
    simp only [List.cons_append, view]
    exact view_append base p es more (i + 1) _ (fun t ht => hp t (by simp at ht ⊢; omega))

/-- Less is known: the heap stands to the world all the same. -/
theorem Sim.weaken {h1 : AH} (s : Sim g h w) (hsub : ∀ b o, h1.get b = some o → h.get b = some o) (hn : h.next ≤ h1.next) : Sim g h1 w :=
  ⟨fun b o hb => s.obj b o (hsub b o hb), fun b b' x n n' hb hb' => s.inj b b' x n n' (by
      cases e : h1.get b with
      | none => exact absurd e hb
      | some o => rw [hsub b o e]; simp) (by
      cases e : h1.get b' with
      | none => exact absurd e hb'
      | some o => rw [hsub b' o e]; simp),
    fun b x n e => ⟨Nat.lt_of_lt_of_le (s.dom b x n e).1 hn, (s.dom b x n e).2⟩⟩

end Go.Ev
end PEvS16
/- Regions that draw their order: what the one walk has found. -/
section PEvS17
set_option linter.unusedSimpArgs false
namespace Go.Ev
variable {P : Program}

theorem get_app {α : Type} {l m : List α} {k : Nat} {x : α} (h : l[k]? = some x) : (l ++ m)[k]? = some x := by
  have hlt : k < l.length := by
    rcases Nat.lt_or_ge k l.length with h' | h'
    · exact h'
    · rw [List.getElem?_eq_none h'] at h; cases h
  rw [List.getElem?_append_left hlt]; exact h

def pairs (es : List EOper) (ents : List Ent) : List (Option Nat × AV) := List.zipWith (fun e en => (e.dst, en.v)) es ents

theorem pairs_snoc : ∀ (es : List EOper) (ents : List Ent) (e : EOper) (x : Ent), es[ents.length]? = some e → pairs es (ents ++ [x]) = pairs es ents ++ [(e.dst, x.v)]
  | [], ents, e, x, h => by simp at h
  | e' :: es, [], e, x, h => by
    simp at h; subst h
    simp [pairs]
  | e' :: es, en :: ents, e, x, h => by
    have := pairs_snoc es ents e x (by simpa using h)
    simp only [pairs] at this
    simp [pairs, this]

theorem pairs_length (es : List EOper) (ents : List Ent) (h : ents.length ≤ es.length) : (pairs es ents).length = ents.length := by
  simp [pairs]; omega

theorem pairs_get {es : List EOper} {ents : List Ent} {i : Nat} {d : Option Nat} {v : AV} (h : (pairs es ents)[i]? = some (d, v)) : ∃ e en, es[i]? = some e ∧ ents[i]? = some en ∧ d = e.dst ∧ v = en.v := by
  simp only [pairs, List.getElem?_zipWith] at h
  cases he : es[i]? with
  | none => simp [he] at h
  | some e =>
    cases hn : ents[i]? with
    | none => simp [he, hn] at h
    | some en =>
      simp [he, hn] at h
      exact ⟨e, en, rfl, rfl, h.1.symm, h.2.symm⟩

structure Fact (call : Caller) (base : Nat) (a0 : Env) (es : List EOper) (s : DSt) (i : Nat) (e : EOper) (m : Nat) (en : Ent) (wd : Bool) : Prop where
  r : en.r = restrict (envW (fun t => decide (t < i)) 0 (pairs es s.ents) a0) (looks e)
  gd : guardE en.r e.guard = some wd
  q : e.op.quiet = true → en.chk = wd ∧ en.f = none ∧ (wd = false → en.v = .undef)
  f1 : e.op.quiet = false → e.op.floats = true → wd = true → ∃ mk o, evF e.op en.r = some (mk, o) ∧ en.v = mkF mk (base + i) ∧ en.f = some o
  f0 : e.op.quiet = false → e.op.floats = true → wd = false → en.v = .undef ∧ en.f = none
  l : e.op.quiet = false → e.op.floats = false → en.f = none ∧ ∃ k hk ik h', s.louds[k]? = some i ∧ s.stg[k]? = some (hk, ik) ∧ s.stg[k + 1]? = some (h', m) ∧ (∀ t l, t < k → s.louds[t]? = some l → m.testBit l = true) ∧
    (wd = true → evO call e.op en.r (view base (without m ik) 0 s.ents hk) = some (en.v, h')) ∧ (wd = false → en.v = .undef ∧ h' = view base (without m ik) 0 s.ents hk)

structure DI (call : Caller) (base : Nat) (a0 : Env) (h0 : AH) (es : List EOper) (ms : List Nat) (s : DSt) : Prop where
  len : s.ents.length ≤ es.length
  env : s.a = envW (fun _ => true) 0 (pairs es s.ents) a0
  facts : ∀ i e m en, es[i]? = some e → ms[i]? = some m → s.ents[i]? = some en → ∃ wd, Fact call base a0 es s i e m en wd
  lsort : s.louds.Pairwise (· < ·)
  lin : ∀ l ∈ s.louds, l < s.ents.length ∧ ∃ e, es[l]? = some e ∧ e.op.quiet = false ∧ e.op.floats = false
  lall : ∀ i e, i < s.ents.length → es[i]? = some e → e.op.quiet = false → e.op.floats = false → i ∈ s.louds
  slen : s.stg.length = s.louds.length + 1
  slast : s.stg[s.louds.length]? = some (s.h, s.ins)
  sfirst : s.stg[0]? = some (h0, 0)

theorem envW_snoc_off {p : Nat → Bool} {l : List (Option Nat × AV)} {x : Option Nat × AV} {i : Nat} {a : Env} (h : p (i + l.length) = false) : envW p i (l ++ [x]) a = envW p i l a := by
  rw [envW_append]
  obtain ⟨d, v⟩ := x
  simp [envW, h]

/-- What was found stays so, as more is found. -/
theorem Fact.keep {call : Caller} {base : Nat} {a0 : Env} {es : List EOper} {s s' : DSt} {i : Nat} {e : EOper} {m : Nat} {en x : Ent} {wd : Bool} {e' : EOper} (hf : Fact call base a0 es s i e m en wd) (hi : i < s.ents.length) (hle : s.ents.length ≤ es.length) (hM : ∀ j, m.testBit j = true → j < i)
    (he' : es[s.ents.length]? = some e') (h1 : s'.ents = s.ents ++ [x]) (h2 : ∃ l, s'.louds = s.louds ++ l) (h3 : ∃ l, s'.stg = s.stg ++ l) : Fact call base a0 es s' i e m en wd := by
  obtain ⟨l2, h2⟩ := h2
  obtain ⟨l3, h3⟩ := h3
  have hv : ∀ ik hk, view base (without m ik) 0 s'.ents hk = view base (without m ik) 0 s.ents hk := by
    intro ik hk
    rw [h1]
    refine view_append base _ _ _ _ _ (fun t ht => ?_)
    simp only [without, Bool.and_eq_false_iff]
    left
    cases hb : m.testBit t with
    | false => rfl
    | true => have := hM t hb; omega
  refine ⟨?_, hf.gd, hf.q, hf.f1, hf.f0, ?_⟩
  · rw [hf.r, h1, pairs_snoc es s.ents e' x he']
    congr 1
    rw [envW_snoc_off]
    rw [pairs_length es s.ents hle]
    simp; omega
  · intro q1 q2
    obtain ⟨k0, k, hk, ik, h', a1, a2, a3, a4, a5, a6⟩ := hf.l q1 q2
    have hkl : k < s.louds.length := by
      rcases Nat.lt_or_ge k s.louds.length with h | h
      · exact h
      · rw [List.getElem?_eq_none h] at a1; cases a1
    refine ⟨k0, k, hk, ik, h', by rw [h2]; exact get_app a1, by rw [h3]; exact get_app a2, by rw [h3]; exact get_app a3, ?_, ?_, ?_⟩
    · intro t l ht hl
      refine a4 t l ht ?_
      rw [h2, List.getElem?_append_left (by omega)] at hl
      exact hl
    · intro hw; rw [hv]; exact a5 hw
    · intro hw; rw [hv]; exact a6 hw

theorem drawStep_DI {call : Caller} {base : Nat} {a0 : Env} {h0 : AH} {es : List EOper} {ms : List Nat} {s s' : DSt} {e : EOper} {m : Nat} (hM : ∀ (i m j : Nat), ms[i]? = some m → m.testBit j = true → j < i) (hd : DI call base a0 h0 es ms s)
    (he : es[s.ents.length]? = some e) (hm : ms[s.ents.length]? = some m) (hstep : drawStep call base s e m = some s') : DI call base a0 h0 es ms s' ∧ s'.ents.length = s.ents.length + 1 := by
  have hlt : s.ents.length < es.length := by
    rcases Nat.lt_or_ge s.ents.length es.length with h | h
    · exact h
    · rw [List.getElem?_eq_none h] at he; cases he
  have hv : ∀ (x : Ent) ik hk, view base (without m ik) 0 (s.ents ++ [x]) hk = view base (without m ik) 0 s.ents hk := by
    intro x ik hk
    refine view_append base _ _ _ _ _ (fun t ht => ?_)
    simp only [without, Bool.and_eq_false_iff]
    left
    cases hb : m.testBit t with
    | false => rfl
    | true => have := hM _ m t hm hb; omega
  have hr : restrict s.a (looks e) = restrict (envW (fun t => decide (t < s.ents.length)) 0 (pairs es s.ents) a0) (looks e) := by
    congr 1
    rw [hd.env]
    have : ∀ (l : List (Option Nat × AV)) (i : Nat) (a : Env), i + l.length ≤ s.ents.length → envW (fun _ => true) i l a = envW (fun t => decide (t < s.ents.length)) i l a := by
      intro l
      induction l with
      | nil => intro i a _; rfl
      | cons x l ih =>
        intro i a hl
        obtain ⟨d, v⟩ := x
        simp only [List.length_cons] at hl
        simp only [envW]
        have : decide (i < s.ents.length) = true := by simp; omega
        rw [this, ih _ _ (by omega)]
    exact this _ 0 a0 (by rw [pairs_length es s.ents hd.len]; omega)
  -- one new entry, no new stage
  have plain : ∀ (v : AV) (f : Option AO) (c : Bool) (wd : Bool), (∀ s2 : DSt, s2.ents = s.ents ++ [⟨restrict s.a (looks e), v, f, c⟩] → s2.louds = s.louds → s2.stg = s.stg → Fact call base a0 es s2 s.ents.length e m ⟨restrict s.a (looks e), v, f, c⟩ wd) →
      (e.op.quiet = true ∨ e.op.floats = true) → s' = { s with a := putE s.a e.dst v, ents := s.ents ++ [⟨restrict s.a (looks e), v, f, c⟩] } → DI call base a0 h0 es ms s' ∧ s'.ents.length = s.ents.length + 1 := by
    intro v f c wd hfact hkind hs'
    subst hs'
    refine ⟨⟨by simp; omega, ?_, ?_, hd.lsort, ?_, ?_, hd.slen, hd.slast, hd.sfirst⟩, by simp⟩
    · simp only []
      rw [pairs_snoc es s.ents e _ he, envW_append, ← hd.env]
      rfl
    · intro i e1 m1 en h1 h2 h3
      simp only [] at h3
      by_cases hi : i < s.ents.length
      · rw [List.getElem?_append_left hi] at h3
        obtain ⟨wd', hf⟩ := hd.facts i e1 m1 en h1 h2 h3
        exact ⟨wd', hf.keep hi hd.len (fun j hj => hM i m1 j h2 hj) he rfl ⟨[], by simp⟩ ⟨[], by simp⟩⟩
      · have hi' : i = s.ents.length := by
          rcases Nat.lt_or_ge i (s.ents.length + 1) with h | h
          · omega
          · rw [List.getElem?_eq_none (by simp; omega)] at h3; cases h3
        subst hi'
        simp at h3
        rw [he] at h1; rw [hm] at h2
        simp at h1 h2
        subst h1; subst h2; subst h3
        exact ⟨wd, hfact _ rfl rfl rfl⟩
    · intro l hl
      obtain ⟨h1, h2⟩ := hd.lin l hl
      exact ⟨by simp; omega, h2⟩
    · intro i e1 hi h1 q1 q2
      simp at hi
      by_cases hi2 : i < s.ents.length
      · exact hd.lall i e1 hi2 h1 q1 q2
      · have : i = s.ents.length := by omega
        subst this
        rw [he] at h1; simp at h1; subst h1
        rcases hkind with h | h
        · rw [h] at q1; cases q1
        · rw [h] at q2; cases q2
  unfold drawStep at hstep
  simp only [] at hstep
  cases hg : guardE (restrict s.a (looks e)) e.guard with
  | none => simp [hg] at hstep
  | some wd =>
    simp only [hg] at hstep
    cases hq : e.op.quiet with
    | true =>
      simp only [hq, cond_true] at hstep
      split at hstep
      · rename_i v hv'
        simp only [Option.some.injEq] at hstep
        refine plain v none wd wd (fun s2 e1 e2 e3 => ⟨?_, hg, fun _ => ⟨rfl, rfl, fun hw => ?_⟩, fun h => ?_, fun h => ?_, fun h => ?_⟩) (.inl hq) hstep.symm
        · rw [hr, e1, pairs_snoc es s.ents e _ he]
          congr 1
          rw [envW_snoc_off]
          rw [pairs_length es s.ents hd.len]; simp
        · subst hw
          simp at hv'
          exact hv'.symm
        · rw [hq] at h; cases h
        · rw [hq] at h; cases h
        · rw [hq] at h; cases h
      · cases hstep
    | false =>
      simp only [hq, cond_false] at hstep
      cases hfl : e.op.floats with
      | true =>
        simp only [hfl, cond_true] at hstep
        cases wd with
        | true =>
          simp only [cond_true] at hstep
          split at hstep
          · rename_i mk o hev
            simp only [Option.some.injEq] at hstep
            refine plain _ (some o) false true (fun s2 e1 e2 e3 => ⟨?_, hg, fun h => ?_, fun _ _ _ => ⟨mk, o, hev, rfl, rfl⟩, fun _ _ h => ?_, fun _ h => ?_⟩) (.inr hfl) hstep.symm
            · rw [hr, e1, pairs_snoc es s.ents e _ he]
              congr 1
              rw [envW_snoc_off]
              rw [pairs_length es s.ents hd.len]; simp
            · rw [hq] at h; cases h
            · cases h
            · rw [hfl] at h; cases h
          · cases hstep
        | false =>
          simp only [cond_false, Option.some.injEq] at hstep
          refine plain .undef none false false (fun s2 e1 e2 e3 => ⟨?_, hg, fun h => ?_, fun _ _ h => ?_, fun _ _ _ => ⟨rfl, rfl⟩, fun _ h => ?_⟩) (.inr hfl) hstep.symm
          · rw [hr, e1, pairs_snoc es s.ents e _ he]
            congr 1
            rw [envW_snoc_off]
            rw [pairs_length es s.ents hd.len]; simp
          · rw [hq] at h; cases h
          · cases h
          · rw [hfl] at h; cases h
      | false =>
        simp only [hfl, cond_false] at hstep
        cases hall : s.louds.all m.testBit with
        | false => simp [hall] at hstep
        | true =>
          simp only [hall, cond_true] at hstep
          split at hstep
          · rename_i v h' hev
            simp only [Option.some.injEq] at hstep
            subst hstep
            refine ⟨⟨by simp; omega, ?_, ?_, ?_, ?_, ?_, by simp [hd.slen], ?_, ?_⟩, by simp⟩
            · simp only []
              rw [pairs_snoc es s.ents e _ he, envW_append, ← hd.env]
              rfl
            · intro i e1 m1 en h1 h2 h3
              simp only [] at h3
              by_cases hi : i < s.ents.length
              · rw [List.getElem?_append_left hi] at h3
                obtain ⟨wd', hf⟩ := hd.facts i e1 m1 en h1 h2 h3
                exact ⟨wd', hf.keep hi hd.len (fun j hj => hM i m1 j h2 hj) he rfl ⟨_, rfl⟩ ⟨_, rfl⟩⟩
              · have hi' : i = s.ents.length := by
                  rcases Nat.lt_or_ge i (s.ents.length + 1) with h | h
                  · omega
                  · rw [List.getElem?_eq_none (by simp; omega)] at h3; cases h3
                subst hi'
                simp at h3
                rw [he] at h1; rw [hm] at h2
                simp at h1 h2
                subst h1; subst h2; subst h3
                refine ⟨wd, ⟨?_, hg, fun h => ?_, fun _ h => ?_, fun _ h => ?_, fun _ _ => ⟨rfl, s.louds.length, s.h, s.ins, h', by simp, ?_, ?_, ?_, ?_, ?_⟩⟩⟩
                · simp only []
                  rw [hr, pairs_snoc es s.ents e _ he]
                  congr 1
                  rw [envW_snoc_off]
                  rw [pairs_length es s.ents hd.len]; simp
                · rw [hq] at h; cases h
                · rw [hfl] at h; cases h
                · rw [hfl] at h; cases h
                · exact get_app hd.slast
                · simp only []
                  rw [List.getElem?_append_right (by rw [hd.slen]; omega), hd.slen]
                  simp
                · intro t l ht hl
                  rw [List.getElem?_append_left ht] at hl
                  exact List.all_eq_true.1 hall l (List.mem_of_getElem? hl)
                · intro hw
                  subst hw
                  simp only [] at hev ⊢
                  rw [hv]
                  simpa using hev
                · intro hw
                  subst hw
                  simp only [] at hev ⊢
                  rw [hv]
                  simp at hev
                  exact ⟨hev.1.symm, hev.2.symm⟩
            · simp only []
              rw [List.pairwise_append]
              refine ⟨hd.lsort, by simp, fun x hx y hy => ?_⟩
              simp at hy; subst hy
              exact (hd.lin x hx).1
            · intro l hl
              simp only [List.mem_append, List.mem_singleton] at hl
              rcases hl with hl | rfl
              · obtain ⟨h1, h2⟩ := hd.lin l hl
                exact ⟨by simp; omega, h2⟩
              · exact ⟨by simp, e, he, hq, hfl⟩
            · intro i e1 hi h1 q1 q2
              simp at hi
              simp only [List.mem_append, List.mem_singleton]
              by_cases hi2 : i < s.ents.length
              · exact .inl (hd.lall i e1 hi2 h1 q1 q2)
              · exact .inr (by omega)
            · simp only [List.length_append, List.length_cons, List.length_nil]
              rw [List.getElem?_append_right (by rw [hd.slen]; omega), hd.slen]
              simp
            · exact get_app hd.sfirst
          · cases hstep

theorem drawSteps_DI {call : Caller} {base : Nat} {a0 : Env} {h0 : AH} {es : List EOper} {ms : List Nat} (hM : ∀ (i m j : Nat), ms[i]? = some m → m.testBit j = true → j < i) : ∀ (es' : List EOper) (ms' : List Nat) (s s' : DSt), DI call base a0 h0 es ms s → es.drop s.ents.length = es' → ms.drop s.ents.length = ms' →
    drawSteps call base es' ms' s = some s' → DI call base a0 h0 es ms s' ∧ s'.ents.length = es.length
  | [], ms', s, s', hd, h1, _, h => by
    simp only [drawSteps, Option.some.injEq] at h
    subst h
    have := congrArg List.length h1
    simp at this
    exact ⟨hd, by have := hd.len; omega⟩
  | e :: es', [], s, s', hd, _, _, h => by simp [drawSteps] at h
  | e :: es', m :: ms', s, s', hd, h1, h2, h => by
    simp only [drawSteps] at h
    split at h
    · rename_i s1 hs1
      have he : es[s.ents.length]? = some e := by
        have := congrArg (fun l => l[0]?) h1
        simpa using this
      have hm : ms[s.ents.length]? = some m := by
        have := congrArg (fun l => l[0]?) h2
        simpa using this
      obtain ⟨hd1, hl1⟩ := drawStep_DI hM hd he hm hs1
      refine drawSteps_DI hM es' ms' s1 s' hd1 ?_ ?_ h
      · rw [hl1, ← List.tail_drop, h1]; rfl
      · rw [hl1, ← List.tail_drop, h2]; rfl
    · cases h

end Go.Ev
end PEvS17
/- Regions that draw their order: equal values, blocks at kept numbers. -/
section PEvS18
set_option linter.unusedSimpArgs false
namespace Go.Ev
variable {P : Program} {g : Gh} {h : AH} {w : World}

mutual
theorem AV.beq_eq : ∀ {a b : AV}, AV.beq a b = true → a = b
  | .bool a, .bool b, h => by
    cases a <;> cases b <;> simp [AV.beq] at h <;> rfl
  | .int k a, .int l b, h => by
    simp only [AV.beq, Bool.and_eq_true] at h
    have h2 := h.2
    rw [ieq_eq] at h2
    rw [kbeq_eq h.1, eq_of_beq h2]
  | .str a, .str b, h => by
    simp only [AV.beq] at h
    rw [beqB_eq] at h
    rw [eq_of_beq h]
  | .nilp, .nilp, _ => rfl
  | .ptr a b, .ptr c d, h => by
    simp [AV.beq] at h
    rw [h.1, h.2]
  | .nils, .nils, _ => rfl
  | .slice a b c d e, .slice a' b' c' d' e', h => by
    simp only [AV.beq, Bool.and_eq_true, Nat.beq_eq] at h
    obtain ⟨⟨⟨⟨rfl, rfl⟩, rfl⟩, rfl⟩, he⟩ := h
    cases e <;> cases e' <;> simp at he
    · rfl
    · rw [he]
  | .empt, .empt, _ => rfl
  | .nilm, .nilm, _ => rfl
  | .map a, .map b, h => by
    simp [AV.beq] at h
    rw [h]
  | .nilf, .nilf, _ => rfl
  | .fn f a b, .fn f' a' b', h => by
    simp only [AV.beq, Bool.and_eq_true, Nat.beq_eq] at h
    obtain ⟨⟨rfl, h1⟩, h2⟩ := h
    rw [AV.beqL_eq h1, AV.beqL_eq h2]
  | .nili, .nili, _ => rfl
  | .iface t a, .iface u b, h => by
    simp only [AV.beq, Bool.and_eq_true, Nat.beq_eq] at h
    obtain ⟨rfl, h1⟩ := h
    rw [AV.beq_eq h1]
  | .agg a, .agg b, h => by
    simp only [AV.beq] at h
    rw [AV.beqL_eq h]
  | .tup a, .tup b, h => by
    simp only [AV.beq] at h
    rw [AV.beqL_eq h]
theorem AV.beqL_eq : ∀ {a b : List AV}, AV.beqL a b = true → a = b
  | [], [], _ => rfl
  | [], _ :: _, h => by simp [AV.beqL] at h
  | _ :: _, [], h => by simp [AV.beqL] at h
  | a :: l, b :: m, h => by
    simp only [AV.beqL, Bool.and_eq_true] at h
    rw [AV.beq_eq h.1, AV.beqL_eq h.2]
end

theorem askAll_spec {base : Nat} {ents : List Ent} {e : EOp} {m : Nat} {r : Env} {v : AV} : ∀ {l : List (AH × Nat)}, askAll base ents e m r v l = true → ∀ x ∈ l, evQ e r (view base (without m x.2) 0 ents x.1) = some v
  | [], _, x, hx => by simp at hx
  | (h, ins) :: l, he, x, hx => by
    simp only [askAll] at he
    split at he
    · rename_i u hu
      cases hb : AV.beq u v with
      | false => simp [hb] at he
      | true =>
        simp only [hb, cond_true] at he
        rcases List.mem_cons.1 hx with rfl | hx
        · rw [hu, AV.beq_eq hb]
        · exact askAll_spec he x hx
    · cases he

theorem askQ_spec {base : Nat} {s : DSt} {ms : List Nat} : ∀ {es : List EOper} {ml : List Nat} {ens : List Ent} {i : Nat}, askQ base s ms es ml ens i = true → ∀ k e m en, es[k]? = some e → ml[k]? = some m → ens[k]? = some en → en.chk = true →
    askAll base s.ents e.op m en.r en.v ((s.stg.drop (least s.louds m)).take (greatest s.louds ms (i + k) + 1 - least s.louds m)) = true
  | [], _, _, _, _, k, e, m, en, h1, _, _, _ => by simp at h1
  | _ :: _, [], _, _, _, k, e, m, en, _, h2, _, _ => by simp at h2
  | _ :: _, _ :: _, [], _, _, k, e, m, en, _, _, h3, _ => by simp at h3
  | e0 :: es, m0 :: ml, en0 :: ens, i, h, k, e, m, en, h1, h2, h3, hc => by
    simp only [askQ] at h
    have h' : (cond en0.chk (askAll base s.ents e0.op m0 en0.r en0.v ((s.stg.drop (least s.louds m0)).take (greatest s.louds ms i + 1 - least s.louds m0))) true) = true ∧ askQ base s ms es ml ens (i + 1) = true := by
      revert h
      cases (cond en0.chk (askAll base s.ents e0.op m0 en0.r en0.v ((s.stg.drop (least s.louds m0)).take (greatest s.louds ms i + 1 - least s.louds m0))) true) <;> simp
    cases k with
    | zero =>
      simp at h1 h2 h3
      subst h1; subst h2; subst h3
      have := h'.1
      rw [hc] at this
      simpa using this
    | succ k =>
      have := askQ_spec h'.2 k e m en (by simpa using h1) (by simpa using h2) (by simpa using h3) hc
      rwa [show i + 1 + k = i + (k + 1) by omega] at this

/-! ### closed masks -/
theorem ancOf_mem (acc : List Nat) : ∀ (l : List Edge) (e : Edge), e ∈ l → Region.binds .any e = true → (ancOf acc l).testBit e.on = true ∧ ∀ j, (acc.getD e.on 0).testBit j = true → (ancOf acc l).testBit j = true
  | [], e, h, _ => by simp at h
  | e' :: l, e, h, hb => by
    simp only [ancOf]
    rcases List.mem_cons.1 h with rfl | h
    · simp only [hb, if_true, Nat.testBit_or, Bool.or_eq_true, Nat.testBit_two_pow_self]
      exact ⟨.inl (.inl trivial), fun j hj => .inl (.inr hj)⟩
    · obtain ⟨h1, h2⟩ := ancOf_mem acc l e h hb
      split
      · simp only [Nat.testBit_or, Bool.or_eq_true]
        exact ⟨.inr h1, fun j hj => .inr (h2 j hj)⟩
      · exact ⟨h1, h2⟩

/-- What comes ahead is closed. -/
theorem anc_closed {ops : List Oper} (hE : edgesB ops 0 = true) : ∀ (i : Nat) (o : Oper) (m : Nat), ops[i]? = some o → (ancs ops [])[i]? = some m → Closed ops m.testBit := by
  intro i
  induction i using Nat.strongRecOn with
  | _ i ih =>
    intro o m ho hm k p hp hk e he hb
    have hs := (ancs_spec ops []).2.2 i o ho
    simp only [List.length_nil, Nat.zero_add] at hs
    have hm0 := hm
    rw [hs] at hm
    simp at hm
    have hlen := (ancs_spec ops []).1
    simp only [List.length_nil, Nat.zero_add] at hlen
    have hil : i < ops.length := by
      rcases Nat.lt_or_ge i ops.length with h | h
      · exact h
      · rw [List.getElem?_eq_none h] at ho; cases ho
    -- the mask of an earlier one, as 'acc' has it
    have look : ∀ q, q < i → ((ancs ops []).take i).getD q 0 = (ancs ops []).getD q 0 := by
      intro q hq
      rw [List.getD_eq_getElem?_getD, List.getD_eq_getElem?_getD, List.getElem?_take_of_lt hq]
    have get : ∀ q, q < ops.length → (ancs ops [])[q]? = some ((ancs ops []).getD q 0) := by
      intro q hq
      rw [List.getD_eq_getElem?_getD, List.getElem?_eq_getElem (by omega)]; simp
    subst hm
    obtain ⟨e1, he1, hb1, hor⟩ := ancOf_bit _ k _ hk
    have hlt : e1.on < i := by
      have := edges_lt ops 0 hE i o ho e1 he1 hb1
      omega
    obtain ⟨_, hmem⟩ := ancOf_mem ((ancs ops []).take i) o.after.toList e1 he1 hb1
    refine hmem e.on ?_
    rw [look _ hlt]
    rcases hor with rfl | hor
    · -- an edge of the one right ahead
      have h2 := (ancs_spec ops []).2.2 e1.on p hp
      simp only [List.length_nil, Nat.zero_add] at h2
      have h3 := get e1.on (by omega)
      rw [h2] at h3
      simp only [Option.some.injEq] at h3
      rw [← h3]
      exact (ancOf_mem _ p.after.toList e he hb).1
    · rw [look _ hlt] at hor
      exact ih e1.on hlt ops[e1.on] _ (by simp) (get e1.on (by omega)) k p hp hor e he hb

theorem anc_trans {ops : List Oper} (hE : edgesB ops 0 = true) {i p mi mp j : Nat} (hi : (ancs ops [])[i]? = some mi) (hp : (ancs ops [])[p]? = some mp) (hpi : mi.testBit p = true) (hj : mp.testBit j = true) : mi.testBit j = true := by
  have hlen := (ancs_spec ops []).1
  simp only [List.length_nil, Nat.zero_add] at hlen
  have hil : i < ops.length := by
    rcases Nat.lt_or_ge i ops.length with h | h
    · exact h
    · rw [List.getElem?_eq_none (by omega)] at hi; cases hi
  have hpl : p < ops.length := by
    rcases Nat.lt_or_ge p ops.length with h | h
    · exact h
    · rw [List.getElem?_eq_none (by omega)] at hp; cases hp
  have hc := anc_closed hE i ops[i] mi (by simp [hil]) hi
  exact anc_sub hc p ops[p] mp (by simp [hpl]) hp (fun e he hb => hc p ops[p] (by simp [hpl]) hpi e he hb) j hj

/-! ### a block at a kept number -/
theorem Gh.put_le {b : Nat} {p : Nat × Nat} (hf : g.φ b = none) : g.le (g.put b p) := by
  intro c q e
  have : c ≠ b := by intro hb; subst hb; rw [hf] at e; cases e
  simp [Gh.put, this, e]

/-- A heap that reads as h does, but at one number, that is new. -/
theorem Sim.allocAt (s : Sim g h w) {b n : Nat} {o : AO} {ob : Obj} {h' : AH} (hf : g.φ b = none) (hlt : b < h.next) (hor : OR g n o ob) (hget : ∀ c, h'.get c = if c = b then some o else h.get c) (hn : h'.next = h.next) :
    Sim (g.put b (w.heap.size, n)) h' (w.alloc ob) := by
  have hle := Gh.put_le (p := (w.heap.size, n)) hf
  have hold : ∀ c x m, g.φ c = some (x, m) → (w.alloc ob).heap[x]? = w.heap[x]? := fun c x m e => push_old ob (s.dom c x m e).2
  have hφ : ∀ c x m, c ≠ b → (g.put b (w.heap.size, n)).φ c = some (x, m) → g.φ c = some (x, m) := fun c x m hb e => by
    simpa [Gh.put, hb] using e
  have hφn : ∀ x m, (g.put b (w.heap.size, n)).φ b = some (x, m) → x = w.heap.size ∧ m = n := fun x m e => by
    simp [Gh.put] at e; exact ⟨e.1.symm, e.2.symm⟩
  refine ⟨?_, ?_, ?_⟩
  · intro c o' hc
    rw [hget] at hc
    split at hc
    · rename_i e
      simp at hc; subst hc; subst e
      exact ⟨w.heap.size, n, ob, put_self _ _ _, push_new ob, hor.mono hle⟩
    · obtain ⟨x, m, ob', h1, h2, h3⟩ := s.obj c o' hc
      exact ⟨x, m, ob', hle _ _ h1, by rw [hold c x m h1]; exact h2, h3.mono hle⟩
  · intro c c' x m m' hc hc' h1 h2
    rw [hget] at hc hc'
    by_cases e1 : c = b <;> by_cases e2 : c' = b
    · rw [e1, e2]
    · subst e1
      obtain ⟨rfl, _⟩ := hφn _ _ h1
      exact absurd (s.dom _ _ _ (hφ _ _ _ e2 h2)).2 (by omega)
    · subst e2
      obtain ⟨rfl, _⟩ := hφn _ _ h2
      exact absurd (s.dom _ _ _ (hφ _ _ _ e1 h1)).2 (by omega)
    · rw [if_neg e1] at hc
      rw [if_neg e2] at hc'
      exact s.inj c c' x m m' hc hc' (hφ _ _ _ e1 h1) (hφ _ _ _ e2 h2)
  · intro c x m e
    rw [hn]
    by_cases e1 : c = b
    · subst e1
      obtain ⟨rfl, _⟩ := hφn _ _ e
      exact ⟨hlt, by simp⟩
    · have := s.dom c x m (hφ _ _ _ e1 e)
      exact ⟨this.1, by simp; omega⟩

/-- So far, and now such a block. -/
theorem Stp.allocAt {g0 : Gh} {h0 : AH} {w0 : World} (st : Stp g0 h0 w0 g h w) {b n : Nat} {o : AO} {ob : Obj} {h' : AH} (hf : g.φ b = none) (hge : h0.next ≤ b) (hget : ∀ c, h'.get c = if c = b then some o else h.get c) (hn : h'.next = h.next) :
    Stp g0 h0 w0 (g.put b (w.heap.size, n)) h' (w.alloc ob) := by
  have hφ : ∀ c x m, c ≠ b → (g.put b (w.heap.size, n)).φ c = some (x, m) → g.φ c = some (x, m) := fun c x m hb e => by
    simpa [Gh.put, hb] using e
  have hφn : ∀ x m, (g.put b (w.heap.size, n)).φ b = some (x, m) → x = w.heap.size := fun x m e => by
    simp [Gh.put] at e; exact e.1.symm
  refine ⟨Gh.le_trans st.ext (Gh.put_le hf), by simp; exact Nat.le_succ_of_le st.size, ?_, ?_, st.os, st.out, st.tape, by rw [hn]; exact st.next, ?_, ?_⟩
  · intro x hx hno
    rw [push_old ob (Nat.lt_of_lt_of_le hx st.size)]
    exact st.fr x hx hno
  · intro x hx ⟨c, m, o', h1, h2, h3⟩
    by_cases e1 : c = b
    · subst e1
      have := hφn _ _ h3
      have := st.size
      omega
    · rw [hget, if_neg e1] at h1
      exact st.own x hx ⟨c, m, o', h1, h2, hφ _ _ _ e1 h3⟩
  · intro x hx ⟨c, m, o', h1, h3⟩
    by_cases e1 : c = b
    · subst e1
      have := hφn _ _ h3
      have := st.size
      omega
    · rw [hget, if_neg e1] at h1
      exact st.lv x hx ⟨c, m, o', h1, hφ _ _ _ e1 h3⟩
  · intro c hc
    have : c ≠ b := by omega
    simp only [Gh.put, this, if_false]
    exact st.nw c hc

end Go.Ev
end PEvS18
/- Regions that draw their order: whatever order is drawn, what the one walk has found. -/
section PEvS19
set_option linter.unusedSimpArgs false
namespace Go.Ev
variable {P : Program}

def upd (D : Nat → Bool) (i : Nat) : Nat → Bool := fun t => if t = i then true else D t
abbrev opers (P : Program) (N : Nat) (ops : Array Oper) : List EOper := ops.toList.map (cOper P N ops)
abbrev masks (ops : Array Oper) : List Nat := ancs ops.toList []

theorem apartB_spec : ∀ {es : List EOper} {ms : List Nat} {i0 : Nat}, apartB es ms i0 = true → ∀ (k l : Nat) (x y : EOper) (m : Nat), k < l → es[k]? = some x → es[l]? = some y → ms[l]? = some m → m.testBit (i0 + k) = false → apart2 x y = true
  | [], _, _, _, k, l, x, y, m, _, h1, _, _, _ => by simp at h1
  | _ :: _, [], _, _, k, l, x, y, m, _, _, _, h3, _ => by simp at h3
  | x0 :: es, m0 :: ms, i0, h, k, l, x, y, m, hkl, h1, h2, h3, hb => by
    simp only [apartB, Bool.and_eq_true] at h
    cases l with
    | zero => omega
    | succ l =>
      cases k with
      | zero =>
        simp at h1 h2 h3; subst h1
        have : ∀ {es : List EOper} {ms : List Nat} {l : Nat}, apartR x0 i0 es ms = true → es[l]? = some y → ms[l]? = some m → apart2 x0 y = true := by
          intro es
          induction es with
          | nil => intro ms l _ h; simp at h
          | cons e es ih =>
            intro ms l h g1 g2
            cases ms with
            | nil => simp at g2
            | cons m' ms =>
              simp only [apartR, Bool.and_eq_true, Bool.or_eq_true] at h
              cases l with
              | zero =>
                simp at g1 g2; subst g1; subst g2
                rcases h.1 with h' | h'
                · simp at hb; rw [hb] at h'; cases h'
                · exact h'
              | succ l => exact ih h.2 (by simpa using g1) (by simpa using g2)
        exact this h.1 h2 h3
      | succ k =>
        exact apartB_spec h.2 k l x y m (by omega) (by simpa using h1) (by simpa using h2) (by simpa using h3) (by rwa [show i0 + 1 + k = i0 + (k + 1) by omega])

theorem touches_not {t : Nat} {l : List Nat} (h : touches (some t) l = false) : t ∉ l := by
  intro hm
  simp only [touches, List.any_eq_false] at h
  exact h t hm (by simp)

theorem apart2_spec {x y : EOper} (h : apart2 x y = true) : (∀ t, x.dst = some t → t ∉ looks y) ∧ (∀ t, y.dst = some t → t ∉ looks x) ∧ (∀ t, x.dst = some t → y.dst ≠ some t) := by
  simp only [apart2, Bool.and_eq_true, Bool.not_eq_true'] at h
  obtain ⟨⟨h1, h2⟩, h3⟩ := h
  refine ⟨fun t ht => ?_, fun t ht => ?_, fun t ht hy => ?_⟩
  · rw [ht] at h1; exact touches_not h1
  · rw [ht] at h2; exact touches_not h2
  · rw [ht, hy] at h3; simp at h3

theorem view_congr (base : Nat) {p q : Nat → Bool} : ∀ (ents : List Ent) (i : Nat) (h : AH), (∀ t en, ents[t]? = some en → en.f ≠ none → p (i + t) = q (i + t)) → view base p i ents h = view base q i ents h
  | [], _, _, _ => rfl
  | e :: es, i, h, hpq => by
    simp only [view]
    have : lay base p i e.f h = lay base q i e.f h := by
      cases hf : e.f with
      | none => rfl
      | some o =>
        have := hpq 0 e rfl (by rw [hf]; simp)
        simp only [Nat.add_zero] at this
        simp [lay, this]
    rw [this]
    exact view_congr base es (i + 1) _ (fun t en ht hf => by
      have := hpq (t + 1) en (by simpa using ht) hf
      rwa [show i + (t + 1) = i + 1 + t by omega] at this)

theorem FR.congr {N : Nat} {dl : List Deferred} {g : Gh} {a a' : Env} {ac : Act} (h : FR N dl g a ac) (he : ∀ t, a'.get t = a.get t) : FR N dl g a' ac :=
  ⟨fun t v e => h.ar t v (by rw [← he]; exact e), h.size, h.defers⟩

/-- What the one walk has found, and that it was asked again. -/
structure DCtx (P : Program) (call : Caller) (N : Nat) (ops : Array Oper) (a0 : Env) (h : AH) (s : DSt) : Prop where
  callS : CallS P call
  edges : edgesB ops.toList 0 = true
  apart : apartB (opers P N ops) (masks ops) 0 = true
  di : DI call h.next a0 { h with next := h.next + ops.size } (opers P N ops) (masks ops) s
  full : s.ents.length = ops.size
  ask : askQ h.next s (masks ops) (opers P N ops) (masks ops) s.ents 0 = true

noncomputable def dview (h : AH) (s : DSt) (D : Nat → Bool) (ins : Nat) (H : AH) : AH := view h.next (fun t => D t && !ins.testBit t) 0 s.ents H

structure Inv (dl : List Deferred) (N : Nat) (ops : Array Oper) (es : List EOper) (a0 : Env) (h : AH) (s : DSt) (g0 : Gh) (w0 : World) (D : Nat → Bool) (g : Gh) (ac : Act) (w : World) (j : Nat) (H : AH) (ins : Nat) : Prop where
  cl : Closed ops.toList D
  fr : FR N dl g (envW D 0 (pairs es s.ents) a0) ac
  jle : j ≤ s.louds.length
  jd : ∀ k l, s.louds[k]? = some l → (D l = true ↔ k < j)
  st : s.stg[j]? = some (H, ins)
  inD : ∀ t, ins.testBit t = true → D t = true
  insl : ∀ t, ins.testBit t = true → ∃ k l m, k < j ∧ s.louds[k]? = some l ∧ (masks ops)[l]? = some m ∧ m.testBit t = true
  sim : Sim g (dview h s D ins H) w
  fresh : ∀ t, t < ops.size → D t = false → g.φ (h.next + t) = none
  off : ∀ t en o, s.ents[t]? = some en → en.f = some o → ins.testBit t = false → H.get (h.next + t) = none
  nx : h.next + ops.size ≤ H.next
  stp : Stp g0 h w0 g (dview h s D ins H) w

section
variable {dl : List Deferred} {call : Caller} {N : Nat} {ops : Array Oper} {a0 : Env} {h : AH} {s : DSt} {g0 : Gh} {w0 : World} {D : Nat → Bool} {g : Gh} {ac : Act} {w : World} {j : Nat} {H : AH} {ins : Nat}

theorem masks_length (ops : Array Oper) : (masks ops).length = ops.size := by
  have := (ancs_spec ops.toList []).1
  simpa using this

theorem mask_get {i : Nat} (hi : i < ops.size) : ∃ m, (masks ops)[i]? = some m :=
  ⟨(masks ops)[i]'(by rw [masks_length]; exact hi), List.getElem?_eq_getElem _⟩
theorem oper_get {i : Nat} (hi : i < ops.size) : ops[i]? = some ops[i] ∧ ops.toList[i]? = some ops[i] ∧ (opers P N ops)[i]? = some (cOper P N ops ops[i]) := by
  refine ⟨by simp [hi], by simp [hi], by simp [opers, hi]⟩
theorem ent_get (c : DCtx P call N ops a0 h s) {i : Nat} (hi : i < ops.size) : ∃ en, s.ents[i]? = some en :=
  ⟨s.ents[i]'(by rw [c.full]; exact hi), List.getElem?_eq_getElem _⟩
theorem pairs_get' {i : Nat} (hi : i < ops.size) {en : Ent} (he : s.ents[i]? = some en) : (pairs (opers P N ops) s.ents)[i]? = some ((cOper P N ops ops[i]).dst, en.v) := by
  simp only [pairs, List.getElem?_zipWith, (oper_get (P := P) (N := N) hi).2.2, he]
theorem pairs_lt {i : Nat} {x : Option Nat × AV} (h : (pairs (opers P N ops) s.ents)[i]? = some x) : i < ops.size := by
  obtain ⟨d, v⟩ := x
  obtain ⟨e, en, he, _⟩ := pairs_get h
  rcases Nat.lt_or_ge i ops.size with h' | h'
  · exact h'
  · rw [List.getElem?_eq_none (by simpa [opers] using h')] at he; cases he

/-- Of one done, all that comes ahead is done. -/
theorem done_sub (hcl : Closed ops.toList D) {k m t : Nat} (hk : k < ops.size) (hD : D k = true) (hm : (masks ops)[k]? = some m) (ht : m.testBit t = true) : D t = true :=
  anc_sub hcl k ops[k] m (by simp [hk]) hm (fun e he hb => hcl k ops[k] (by simp [hk]) hD e he hb) t ht

/-- What this one looks at reads now as it did on the walk. -/
theorem inv_agree (c : DCtx P call N ops a0 h s) (v : Inv dl N ops (opers P N ops) a0 h s g0 w0 D g ac w j H ins) {i m : Nat} (hi : i < ops.size) (hD : D i = false) (hm : (masks ops)[i]? = some m) (hsub : ∀ t, m.testBit t = true → D t = true) :
    AR g (restrict (envW (fun t => decide (t < i)) 0 (pairs (opers P N ops) s.ents) a0) (looks (cOper P N ops ops[i]))) ac := by
  intro t u hu
  obtain ⟨hl, hget⟩ := restrict_get _ _ _ _ hu
  refine v.fr.ar t u ?_
  rw [← hget]
  refine envW_agree _ 0 _ _ rfl (fun k u' hk => ?_)
  simp only [Nat.zero_add]
  have hkn := pairs_lt hk
  obtain ⟨e, en, he, hen, hd, _⟩ := pairs_get hk
  rw [(oper_get hkn).2.2] at he
  simp at he; subst he
  by_cases hlt : k < i
  · simp only [hlt, decide_true]
    cases hDk : D k with
    | true => rfl
    | false =>
      have hb : m.testBit k = false := by
        cases hb : m.testBit k with
        | false => rfl
        | true => rw [hsub k hb] at hDk; cases hDk
      have := apartB_spec c.apart k i _ _ m hlt (oper_get hkn).2.2 (oper_get hi).2.2 hm (by simpa using hb)
      exact absurd hl ((apart2_spec this).1 t hd.symm)
  · simp only [hlt, decide_false]
    cases hDk : D k with
    | false => rfl
    | true =>
      have hki : k ≠ i := by intro e; subst e; rw [hD] at hDk; cases hDk
      obtain ⟨mk, hmk⟩ := mask_get hkn
      have hb : mk.testBit i = false := by
        cases hb : mk.testBit i with
        | false => rfl
        | true => rw [done_sub v.cl hkn hDk hmk hb] at hD; cases hD
      have := apartB_spec c.apart i k _ _ mk (by omega) (oper_get hi).2.2 (oper_get hkn).2.2 hmk (by simpa using hb)
      exact absurd hl ((apart2_spec this).2.1 t hd.symm)

/-- The slots, with one more yield. -/
theorem inv_put (c : DCtx P call N ops a0 h s) (hcl : Closed ops.toList D) {g' : Gh} (hfr : FR N dl g' (envW D 0 (pairs (opers P N ops) s.ents) a0) ac) {i : Nat} {en : Ent} (hi : i < ops.size) (hD : D i = false) (hen : s.ents[i]? = some en) {vc : Value} (hv : VR g' en.v vc) {d : Option Tmp} (hd : (cOper P N ops ops[i]).dst = cDst N d) :
    FR N dl g' (envW (upd D i) 0 (pairs (opers P N ops) s.ents) a0) (ac.put d vc) := by
  refine (hfr.put d hv).congr (fun t => ?_)
  rw [putE_get]
  rw [← hd]
  split
  · rename_i hdt
    refine envW_last _ 0 _ i ?_ (by simp [upd]) (fun k u hik hk => ?_)
    · rw [pairs_get' hi hen, hdt]
    · simp only [Nat.zero_add]
      have hkn := pairs_lt hk
      obtain ⟨e, en', he, hen', hd', _⟩ := pairs_get hk
      rw [(oper_get hkn).2.2] at he
      simp at he; subst he
      simp only [upd, if_neg (Nat.ne_of_gt hik)]
      cases hDk : D k with
      | false => rfl
      | true =>
        obtain ⟨mk, hmk⟩ := mask_get hkn
        have hb : mk.testBit i = false := by
          cases hb : mk.testBit i with
          | false => rfl
          | true => rw [done_sub hcl hkn hDk hmk hb] at hD; cases hD
        have := apartB_spec c.apart i k _ _ mk hik (oper_get hi).2.2 (oper_get hkn).2.2 hmk (by simpa using hb)
        exact absurd hd'.symm ((apart2_spec this).2.2 t hdt)
  · rename_i hdt
    refine envW_agree _ 0 _ _ rfl (fun k u hk => ?_)
    simp only [Nat.zero_add]
    have : k ≠ i := by
      intro e; subst e
      rw [pairs_get' hi hen] at hk
      simp at hk
      exact hdt hk.1
    simp [upd, this]

theorem upd_closed (hcl : Closed ops.toList D) {i : Nat} (hi : i < ops.size) (hp : ∀ e ∈ ops[i].after.toList, Region.binds .any e = true → D e.on = true) : Closed ops.toList (upd D i) := by
  intro k o ho hk e he hb
  simp only [upd] at hk ⊢
  split
  · rfl
  · by_cases hki : k = i
    · subst hki
      have : o = ops[k] := by simpa [hi] using ho.symm
      subst this
      exact hp e he hb
    · rw [if_neg hki] at hk
      exact hcl k o ho hk e he hb

theorem pend (hcl : Closed ops.toList D) {i m : Nat} (hi : i < ops.size) (hp : ∀ e ∈ ops[i].after.toList, Region.binds .any e = true → D e.on = true) (hm : (masks ops)[i]? = some m) : ∀ t, m.testBit t = true → D t = true :=
  anc_sub hcl i ops[i] m (by simp [hi]) hm hp

/-- What an operation saw on the walk, is a part of what lies there now. -/
theorem inv_weaken (v : Inv dl N ops (opers P N ops) a0 h s g0 w0 D g ac w j H ins) {m : Nat} (hsub : ∀ t, m.testBit t = true → D t = true) : ∀ b o, (view h.next (without m ins) 0 s.ents H).get b = some o → (dview h s D ins H).get b = some o := by
  intro b o hb
  simp only [dview, view_get, blkAt, without] at hb ⊢
  by_cases hge : h.next ≤ b
  · simp only [hge, true_and] at hb ⊢
    by_cases hin : ins.testBit (b - h.next) = true
    · simp [hin] at hb ⊢
      exact hb
    · simp only [hin, Bool.not_false, Bool.and_true] at hb ⊢
      have hin' : ins.testBit (b - h.next) = false := by simpa using hin
      by_cases hmb : m.testBit (b - h.next) = true
      · simp only [hmb, hsub _ hmb, if_true] at hb ⊢
        exact hb
      · simp only [hmb] at hb
        simp at hb
        cases hf : (s.ents[b - h.next]?).bind (·.f) with
        | none => split <;> simpa using hb
        | some o' =>
          obtain ⟨en, hen, hf'⟩ := Option.bind_eq_some_iff.1 hf
          have := v.off _ en o' hen hf' hin'
          rw [show h.next + (b - h.next) = b by omega, hb] at this
          cases this
  · simp only [hge, false_and, if_false, Option.none_or] at hb ⊢
    exact hb

theorem dview_next : (dview h s D ins H).next = H.next := view_next _ _ _ _ _

/-- One more, that made nothing. -/
theorem inv_plain (c : DCtx P call N ops a0 h s) (v : Inv dl N ops (opers P N ops) a0 h s g0 w0 D g ac w j H ins) {i : Nat} {en : Ent} (hi : i < ops.size) (hD : D i = false) (hp : ∀ e ∈ ops[i].after.toList, Region.binds .any e = true → D e.on = true)
    (hen : s.ents[i]? = some en) (hf : en.f = none) (hnl : i ∉ s.louds) {vc : Value} (hv : VR g en.v vc) {d : Option Tmp} (hd : (cOper P N ops ops[i]).dst = cDst N d) : Inv dl N ops (opers P N ops) a0 h s g0 w0 (upd D i) g (ac.put d vc) w j H ins := by
  have hview : dview h s (upd D i) ins H = dview h s D ins H := by
    refine view_congr _ _ _ _ (fun t en' ht hf' => ?_)
    have : t ≠ i := by intro e; subst e; rw [hen] at ht; simp at ht; subst ht; exact hf' hf
    simp [upd, this]
  refine ⟨upd_closed v.cl hi hp, inv_put c v.cl v.fr hi hD hen hv hd, v.jle, fun k l hk => ?_, v.st, fun t ht => ?_, v.insl, ?_, fun t ht hDt => ?_, v.off, v.nx, ?_⟩
  · have : l ≠ i := by intro e; subst e; exact hnl (List.mem_of_getElem? hk)
    simp only [upd, if_neg this]
    exact v.jd k l hk
  · simp only [upd]; split
    · rfl
    · exact v.inD t ht
  · rw [hview]; exact v.sim
  · simp only [upd] at hDt
    split at hDt
    · cases hDt
    · exact v.fresh t ht hDt
  · rw [hview]; exact v.stp

/-- A draw moves the count alone. -/
theorem Inv.drewK (v : Inv dl N ops (opers P N ops) a0 h s g0 w0 D g ac w j H ins) (k : Nat) : Inv dl N ops (opers P N ops) a0 h s g0 w0 D g ac { w with drawn := w.drawn + k } j H ins :=
  ⟨v.cl, v.fr, v.jle, v.jd, v.st, v.inD, v.insl, ⟨v.sim.obj, v.sim.inj, v.sim.dom⟩, v.fresh, v.off, v.nx, v.stp.trans ⟨g.le_refl, Nat.le_refl _, fun _ _ _ => rfl, fun _ _ h => h, rfl, rfl, rfl, Nat.le_refl _, fun _ _ h => h, fun _ _ => rfl⟩⟩

/-- One more, that made a block of its own. -/
theorem inv_float (c : DCtx P call N ops a0 h s) (v : Inv dl N ops (opers P N ops) a0 h s g0 w0 D g ac w j H ins) {i : Nat} {en : Ent} (hi : i < ops.size) (hD : D i = false) (hp : ∀ e ∈ ops[i].after.toList, Region.binds .any e = true → D e.on = true)
    (hen : s.ents[i]? = some en) {ob : AO} (hf : en.f = some ob) (hnl : i ∉ s.louds) {vc : Value} {obc : Obj} {n : Nat} (hor : OR g n ob obc) (hv : VR (g.put (h.next + i) (w.heap.size, n)) en.v vc) {d : Option Tmp} (hd : (cOper P N ops ops[i]).dst = cDst N d) :
    Inv dl N ops (opers P N ops) a0 h s g0 w0 (upd D i) (g.put (h.next + i) (w.heap.size, n)) (ac.put d vc) (w.alloc obc) j H ins := by
  have hfresh := v.fresh i hi hD
  have hii : ins.testBit i = false := by
    cases hb : ins.testBit i with
    | false => rfl
    | true => rw [v.inD i hb] at hD; cases hD
  have hget : ∀ b, (dview h s (upd D i) ins H).get b = if b = h.next + i then some ob else (dview h s D ins H).get b := by
    intro b
    simp only [dview, view_get, blkAt]
    by_cases e : b = h.next + i
    · subst e
      have : h.next + i - h.next = i := by omega
      simp [this, upd, hii, hen, hf]
    · rw [if_neg e]
      by_cases hge : h.next ≤ b
      · have : b - h.next ≠ i := by omega
        simp [upd, this]
      · simp [hge]
  refine ⟨upd_closed v.cl hi hp, inv_put c v.cl (v.fr.mono (Gh.put_le hfresh)) hi hD hen hv hd, v.jle, fun k l hk => ?_, v.st, fun t ht => ?_, v.insl, ?_, fun t ht hDt => ?_, v.off, v.nx, ?_⟩
  · have : l ≠ i := by intro e; subst e; exact hnl (List.mem_of_getElem? hk)
    simp only [upd, if_neg this]
    exact v.jd k l hk
  · simp only [upd]; split
    · rfl
    · exact v.inD t ht
  · exact v.sim.allocAt hfresh (by rw [dview_next]; have := v.nx; omega) hor hget (by simp [dview_next])
  · simp only [upd] at hDt
    split at hDt
    · cases hDt
    · rename_i hti
      have : h.next + t ≠ h.next + i := by omega
      simp only [Gh.put, this, if_false]
      exact v.fresh t ht hDt
  · exact v.stp.allocAt hfresh (by omega) hget (by simp [dview_next])

/-- One more, that wrote. -/
theorem inv_loud (c : DCtx P call N ops a0 h s) (v : Inv dl N ops (opers P N ops) a0 h s g0 w0 D g ac w j H ins) {i m : Nat} {en : Ent} (hi : i < ops.size) (hD : D i = false) (hp : ∀ e ∈ ops[i].after.toList, Region.binds .any e = true → D e.on = true)
    (hm : (masks ops)[i]? = some m) (hen : s.ents[i]? = some en) (hf : en.f = none) (hl : s.louds[j]? = some i) (hall : ∀ t l, t < j → s.louds[t]? = some l → m.testBit l = true) {h' : AH} (hst : s.stg[j + 1]? = some (h', m))
    {g' : Gh} {w' : World} {vc : Value} (hv : VR g' en.v vc) (hs' : Sim g' h' w') (st : Stp g (view h.next (without m ins) 0 s.ents H) w g' h' w') {d : Option Tmp} (hd : (cOper P N ops ops[i]).dst = cDst N d) :
    Inv dl N ops (opers P N ops) a0 h s g0 w0 (upd D i) g' (ac.put d vc) w' (j + 1) h' m := by
  have hsub := pend v.cl hi hp hm
  have hweak := inv_weaken v hsub
  -- what was laid in stays so
  have hins : ∀ t, ins.testBit t = true → m.testBit t = true := by
    intro t ht
    obtain ⟨k, l, ml, hk, hkl, hml, hb⟩ := v.insl t ht
    exact anc_trans c.edges hm hml (hall k l hk hkl) hb
  have hjl : j < s.louds.length := by
    rcases Nat.lt_or_ge j s.louds.length with h1 | h1
    · exact h1
    · rw [List.getElem?_eq_none h1] at hl; cases hl
  have hsn : ∀ k l, s.louds[k]? = some l → (l = i ↔ k = j) := by
    intro k l hk
    constructor
    · intro e
      subst e
      have hkl : k < s.louds.length := by
        rcases Nat.lt_or_ge k s.louds.length with h1 | h1
        · exact h1
        · rw [List.getElem?_eq_none h1] at hk; cases hk
      have hp := c.di.lsort
      rw [List.pairwise_iff_getElem] at hp
      rw [List.getElem?_eq_getElem hkl] at hk
      rw [List.getElem?_eq_getElem hjl] at hl
      simp at hk hl
      rcases Nat.lt_trichotomy k j with h1 | h1 | h1
      · have := hp k j hkl hjl h1; omega
      · exact h1
      · have := hp j k hjl hkl h1; omega
    · intro e; subst e
      rw [hl] at hk
      simpa using hk.symm
  -- a block that was made, and not yet laid in, is out of sight of this operation
  have hidden : ∀ t en' o', s.ents[t]? = some en' → en'.f = some o' → D t = true → m.testBit t = false → ∀ x n, g.φ (h.next + t) = some (x, n) → ¬ Live g (view h.next (without m ins) 0 s.ents H) x := by
    rintro t en' o' ht hf' hDt hmt x n hφ ⟨b, n', o, hb, hφb⟩
    have hit : ins.testBit t = false := by
      cases hb' : ins.testBit t with
      | false => rfl
      | true => rw [hins t hb'] at hmt; cases hmt
    have hvt : (dview h s D ins H).get (h.next + t) ≠ none := by
      have : h.next + t - h.next = t := by omega
      simp [dview, view_get, blkAt, this, hDt, hit, ht, hf']
    have := v.sim.inj b (h.next + t) x n' n (by rw [hweak b o hb]; simp) hvt hφb hφ
    subst this
    have h2 : h.next + t - h.next = t := by omega
    simp [view_get, blkAt, h2, without, hmt] at hb
    rw [v.off t en' o' ht hf' hit] at hb
    cases hb
  have hlive : ∀ {x : Nat}, Own g (view h.next (without m ins) 0 s.ents H) x → Live g (view h.next (without m ins) 0 s.ents H) x := fun ⟨b, n, o, h1, _, h3⟩ => ⟨b, n, o, h1, h3⟩
  -- what lies in the new view
  have hcase : ∀ b o, (dview h s (upd D i) m h').get b = some o → (h'.get b = some o) ∨ ∃ t en', b = h.next + t ∧ s.ents[t]? = some en' ∧ en'.f = some o ∧ D t = true ∧ m.testBit t = false ∧ ins.testBit t = false ∧ (dview h s D ins H).get b = some o := by
    intro b o hb
    simp only [dview, view_get] at hb
    cases hk : blkAt h.next (fun t => upd D i t && !m.testBit t) s.ents b with
    | none => rw [hk] at hb; simp at hb; exact .inl hb
    | some o' =>
      rw [hk] at hb; simp at hb; subst hb
      right
      simp only [blkAt] at hk
      split at hk
      · rename_i hc
        obtain ⟨hge, hc⟩ := hc
        obtain ⟨en', hen', hf'⟩ := Option.bind_eq_some_iff.1 hk
        simp only [Bool.and_eq_true, Bool.not_eq_true'] at hc
        have hti : b - h.next ≠ i := by
          intro e; rw [e, hen] at hen'; simp at hen'; subst hen'; rw [hf] at hf'; cases hf'
        have hDt : D (b - h.next) = true := by simpa [upd, hti] using hc.1
        have hit : ins.testBit (b - h.next) = false := by
          cases hb' : ins.testBit (b - h.next) with
          | false => rfl
          | true => have := hins _ hb'; rw [hc.2] at this; cases this
        refine ⟨b - h.next, en', by omega, hen', hf', hDt, hc.2, hit, ?_⟩
        simp [dview, view_get, blkAt, hge, hDt, hit, hen', hf']
      · cases hk
  have hsame : ∀ t en' o', s.ents[t]? = some en' → en'.f = some o' → D t = true → m.testBit t = false → (dview h s D ins H).get (h.next + t) = some o' → ∃ x n ob, g.φ (h.next + t) = some (x, n) ∧ g'.φ (h.next + t) = some (x, n) ∧ x < w.heap.size ∧ w'.heap[x]? = some ob ∧ OR g' n o' ob ∧ ¬ Live g' h' x := by
    intro t en' o' ht hf' hDt hmt hb
    obtain ⟨x, n, ob, h1, h2, h3⟩ := v.sim.obj _ _ hb
    have hx := (v.sim.dom _ _ _ h1).2
    have hnl := hidden t en' o' ht hf' hDt hmt x n h1
    refine ⟨x, n, ob, h1, st.ext _ _ h1, hx, ?_, h3.mono st.ext, fun hl => hnl (st.lv x hx hl)⟩
    rw [st.fr x hx (fun ho => hnl (hlive ho))]
    exact h2
  refine ⟨upd_closed v.cl hi hp, inv_put c v.cl (v.fr.mono st.ext) hi hD hen hv hd, hjl, fun k l hk => ?_, hst, fun t ht => ?_, fun t ht => ⟨j, i, m, by omega, hl, hm, ht⟩, ⟨?_, ?_, ?_⟩, fun t ht hDt => ?_, ?_, ?_, ⟨?_, ?_, ?_, ?_, ?_, ?_, ?_, ?_, ?_, ?_⟩⟩
  · simp only [upd]
    split
    · rename_i e
      have := (hsn k l hk).1 e
      constructor
      · intro _; omega
      · intro _; rfl
    · rename_i e
      have := mt (hsn k l hk).2 e
      rw [v.jd k l hk]
      omega
  · simp only [upd]; split
    · rfl
    · exact hsub t ht
  · intro b o hb
    rcases hcase b o hb with hb | ⟨t, en', rfl, ht, hf', hDt, hmt, hit, hb⟩
    · exact hs'.obj b o hb
    · obtain ⟨x, n, ob, h1, h2, h3, h4, h5, h6⟩ := hsame t en' o ht hf' hDt hmt hb
      exact ⟨x, n, ob, h2, h4, h5⟩
  · intro b b' x n n' hb hb' h1 h2
    obtain ⟨o, hb⟩ := Option.ne_none_iff_exists'.1 hb
    obtain ⟨o', hb'⟩ := Option.ne_none_iff_exists'.1 hb'
    rcases hcase b o hb with hb | ⟨t, en', rfl, ht, hf', hDt, hmt, hit, hb⟩ <;> rcases hcase b' o' hb' with hb' | ⟨t', en'', rfl, ht', hf'', hDt', hmt', hit', hb'⟩
    · exact hs'.inj b b' x n n' (by rw [hb]; simp) (by rw [hb']; simp) h1 h2
    · obtain ⟨x', n', ob, e1, e2, e3, e4, e5, e6⟩ := hsame t' en'' o' ht' hf'' hDt' hmt' hb'
      rw [e2] at h2; simp at h2
      exact absurd ⟨b, n, o, hb, by rw [h1, h2.1]⟩ e6
    · obtain ⟨x', n', ob, e1, e2, e3, e4, e5, e6⟩ := hsame t en' o ht hf' hDt hmt hb
      rw [e2] at h1; simp at h1
      exact absurd ⟨b', _, o', hb', by rw [h2, h1.1]⟩ e6
    · obtain ⟨x1, n1, ob1, e1, e2, _⟩ := hsame t en' o ht hf' hDt hmt hb
      obtain ⟨x2, n2, ob2, e3, e4, _⟩ := hsame t' en'' o' ht' hf'' hDt' hmt' hb'
      rw [e2] at h1; rw [e4] at h2
      simp at h1 h2
      refine v.sim.inj _ _ x n1 n2 (by rw [hb]; simp) (by rw [hb']; simp) ?_ ?_
      · rw [e1, h1.1]
      · rw [e3, h2.1]
  · intro b x n e
    rw [dview_next]
    exact hs'.dom b x n e
  · simp only [upd] at hDt
    split at hDt
    · cases hDt
    · have hnx := v.nx
      rw [st.nw _ (by rw [view_next]; omega)]
      exact v.fresh t ht hDt
  · intro t en' o ht hf' hmt
    have htn : t < ops.size := by
      rcases Nat.lt_or_ge t s.ents.length with h1 | h1
      · rw [c.full] at h1; exact h1
      · rw [List.getElem?_eq_none h1] at ht; cases ht
    have hnx := v.nx
    cases hg : h'.get (h.next + t) with
    | none => rfl
    | some o' =>
      exfalso
      obtain ⟨x, n, ob, h1, h2, h3⟩ := hs'.obj _ _ hg
      have h1' := h1
      rw [st.nw _ (by rw [view_next]; omega)] at h1
      cases hDt : D t with
      | false => rw [v.fresh t htn hDt] at h1; cases h1
      | true => exact hidden t en' o ht hf' hDt hmt x n h1 (st.lv x (v.sim.dom _ _ _ h1).2 ⟨_, n, o', hg, h1'⟩)
  · have := st.next
    rw [view_next] at this
    exact Nat.le_trans v.nx this
  · exact Gh.le_trans v.stp.ext st.ext
  · exact Nat.le_trans v.stp.size st.size
  · intro x hx hno
    rw [st.fr x (Nat.lt_of_lt_of_le hx v.stp.size) (fun ⟨b, n, o, h1, h2, h3⟩ => hno (v.stp.own x hx ⟨b, n, o, hweak b o h1, h2, h3⟩))]
    exact v.stp.fr x hx hno
  · intro x hx ⟨b, n, o, h1, h2, h3⟩
    have hxw := Nat.lt_of_lt_of_le hx v.stp.size
    rcases hcase b o h1 with hb | ⟨t, en', rfl, ht, hf', hDt, hmt, hit, hb⟩
    · obtain ⟨b', n', o', e1, e2, e3⟩ := st.own x hxw ⟨b, n, o, hb, h2, h3⟩
      exact v.stp.own x hx ⟨b', n', o', hweak b' o' e1, e2, e3⟩
    · obtain ⟨x', n', ob, e1, e2, _⟩ := hsame t en' o ht hf' hDt hmt hb
      rw [e2] at h3; simp at h3
      exact v.stp.own x hx ⟨_, n', o, hb, h2, by rw [e1, h3.1]⟩
  · rw [st.os, v.stp.os]
  · rw [st.out, v.stp.out]
  · rw [st.tape, v.stp.tape]
  · have h1 := v.stp.next
    have h2 := st.next
    rw [dview_next] at h1 ⊢
    rw [view_next] at h2
    omega
  · intro x hx ⟨b, n, o, h1, h3⟩
    have hxw := Nat.lt_of_lt_of_le hx v.stp.size
    rcases hcase b o h1 with hb | ⟨t, en', rfl, ht, hf', hDt, hmt, hit, hb⟩
    · obtain ⟨b', n', o', e1, e3⟩ := st.lv x hxw ⟨b, n, o, hb, h3⟩
      exact v.stp.lv x hx ⟨b', n', o', hweak b' o' e1, e3⟩
    · obtain ⟨x', n', ob, e1, e2, _⟩ := hsame t en' o ht hf' hDt hmt hb
      rw [e2] at h3; simp at h3
      exact v.stp.lv x hx ⟨_, n', o, hb, by rw [e1, h3.1]⟩
  · intro b hb
    have hnx := v.nx
    rw [st.nw b (by rw [view_next]; omega)]
    exact v.stp.nw b hb

end
end Go.Ev
end PEvS19
/- Regions that draw their order: sound. -/
section PEvS20
set_option linter.unusedSimpArgs false
namespace Go.Ev
variable {dl : List Deferred} {P : Program}

section
variable {call : Caller} {N : Nat} {ops : Array Oper} {a0 : Env} {h : AH} {s : DSt} {g0 : Gh} {w0 : World} {D : Nat → Bool} {g : Gh} {ac : Act} {w : World} {j : Nat} {H : AH} {ins : Nat}

theorem filter_le_take {p : Nat → Bool} : ∀ (l : List Nat) (j : Nat), (∀ k x, l[k]? = some x → p x = true → k < j) → (l.filter p).length ≤ j
  | [], j, _ => by simp
  | x :: l, j, h => by
    cases hp : p x with
    | true =>
      have := h 0 x rfl hp
      have ih := filter_le_take (p := p) l (j - 1) (fun k y hk hy => by have := h (k + 1) y (by simpa using hk) hy; omega)
      simp [List.filter, hp]; omega
    | false =>
      simp only [List.filter, hp]
      cases j with
      | zero => exact filter_le_take (p := p) l 0 (fun k y hk hy => by have := h (k + 1) y (by simpa using hk) hy; omega)
      | succ j => 
        have ih := filter_le_take (p := p) l j (fun k y hk hy => by have := h (k + 1) y (by simpa using hk) hy; omega)
        omega

theorem take_le_filter {p : Nat → Bool} : ∀ (l : List Nat) (j : Nat), j ≤ l.length → (∀ k x, l[k]? = some x → k < j → p x = true) → j ≤ (l.filter p).length
  | [], j, hj, _ => by simpa using hj
  | x :: l, 0, _, _ => by simp
  | x :: l, j + 1, hj, h => by
    have h0 := h 0 x rfl (by omega)
    have ih := take_le_filter (p := p) l j (by simpa using hj) (fun k y hk hy => h (k + 1) y (by simpa using hk) (by omega))
    simp [List.filter, h0]; exact ih

/-- The stage that this one meets was asked about. -/
theorem stage_asked (c : DCtx P call N ops a0 h s) (v : Inv dl N ops (opers P N ops) a0 h s g0 w0 D g ac w j H ins) {i m : Nat} (_hi : i < ops.size) (hD : D i = false) (hsub : ∀ t, m.testBit t = true → D t = true) :
    (H, ins) ∈ (s.stg.drop (least s.louds m)).take (greatest s.louds (masks ops) i + 1 - least s.louds m) := by
  have h1 : least s.louds m ≤ j := filter_le_take _ _ (fun k x hk hx => (v.jd k x hk).1 (hsub x hx))
  have h2 : j ≤ greatest s.louds (masks ops) i := by
    refine take_le_filter _ _ v.jle (fun k x hk hkj => ?_)
    have hDx := (v.jd k x hk).2 hkj
    have hx : x < ops.size := by rw [← c.full]; exact (c.di.lin x (List.mem_of_getElem? hk)).1
    obtain ⟨mx, hmx⟩ := mask_get hx
    rw [List.getD_eq_getElem?_getD, hmx]
    simp only [Option.getD_some, Bool.not_eq_true']
    cases hb : mx.testBit i with
    | false => rfl
    | true => rw [done_sub v.cl hx hDx hmx hb] at hD; cases hD
  refine List.mem_of_getElem? (i := j - least s.louds m) ?_
  rw [List.getElem?_take_of_lt (by omega), List.getElem?_drop, show least s.louds m + (j - least s.louds m) = j by omega]
  exact v.st

theorem not_loud (c : DCtx P call N ops a0 h s) {i : Nat} (hi : i < ops.size) (hk : (cOper P N ops ops[i]).op.quiet = true ∨ (cOper P N ops ops[i]).op.floats = true) : i ∉ s.louds := by
  intro hl
  obtain ⟨_, e, he, h1, h2⟩ := c.di.lin i hl
  rw [(oper_get hi).2.2] at he
  simp at he; subst he
  rcases hk with hk | hk
  · rw [h1] at hk; cases hk
  · rw [h2] at hk; cases hk

/-- How an operation stands to the compact one: the same, or one that nothing answers. -/
theorem cOper_shape {o : Oper} {r : Env} (har : AR g r ac) {wd : Bool} (hg : guardE r (cOper P N ops o).guard = some wd) : ((cOper P N ops o).op = .bad ∧ wd = true) ∨ ((cOper P N ops o).dst = cDst N o.dst ∧ (cOper P N ops o).op = (cOp P o.op).getD .bad ∧ Region.wanted o (yielded ops ac.tmps) = wd) := by
  unfold cOper at hg ⊢
  cases hgd : o.guard with
  | none =>
    simp only [hgd, guardE, Option.some.injEq] at hg ⊢
    subst hg
    exact .inr ⟨trivial, trivial, by simp [Region.wanted, hgd]⟩
  | some gb =>
    obtain ⟨k, b⟩ := gb
    simp only [hgd] at hg ⊢
    cases ht : (ops[k]?).bind (·.dst) with
    | none =>
      simp only [ht, guardE, Option.some.injEq] at hg ⊢
      exact .inl ⟨trivial, hg.symm⟩
    | some t =>
      simp only [ht] at hg ⊢
      exact .inr ⟨trivial, trivial, guardE_sound har (gd := (k, b)) hgd ht hg⟩

/-- One that may come next: whatever it is, all stays well. -/
theorem inv_step (c : DCtx P call N ops a0 h s) (v : Inv dl N ops (opers P N ops) a0 h s g0 w0 D g ac w j H ins) {i : Nat} (hi : i < ops.size) (hD : D i = false) (hp : ∀ e ∈ ops[i].after.toList, Region.binds .any e = true → D e.on = true)
    {Q : Exit → Act → World → Prop} {K : Act → World → Prop} (hK : ∀ g' ac' w' j' H' ins', Inv dl N ops (opers P N ops) a0 h s g0 w0 (upd D i) g' ac' w' j' H' ins' → K ac' w') : wpOp P ops Q i K ac w := by
  obtain ⟨m, hm⟩ := mask_get hi
  obtain ⟨en, hen⟩ := ent_get c hi
  obtain ⟨wd, F⟩ := c.di.facts i _ m en (oper_get hi).2.2 hm hen
  have hsub := pend v.cl hi hp hm
  have har : AR g en.r ac := by rw [F.r]; exact inv_agree c v hi hD hm hsub
  have hwk := inv_weaken v hsub
  have hsim : Sim g (view h.next (without m ins) 0 s.ents H) w := v.sim.weaken hwk (by rw [dview_next, view_next]; exact Nat.le_refl _)
  -- a loud one meets its own stage
  have loud : (cOper P N ops ops[i]).op.quiet = false → (cOper P N ops ops[i]).op.floats = false → en.f = none ∧ s.louds[j]? = some i ∧ ∃ h', s.stg[j + 1]? = some (h', m) ∧ (∀ t l, t < j → s.louds[t]? = some l → m.testBit l = true) ∧
      (wd = true → evO call (cOper P N ops ops[i]).op en.r (view h.next (without m ins) 0 s.ents H) = some (en.v, h')) ∧ (wd = false → en.v = .undef ∧ h' = view h.next (without m ins) 0 s.ents H) := by
    intro q1 q2
    obtain ⟨k0, k, hk, ik, h', a1, a2, a3, a4, a5, a6⟩ := F.l q1 q2
    have hkj : k = j := by
      rcases Nat.lt_trichotomy k j with h1 | h1 | h1
      · have := (v.jd k i a1).2 h1; rw [hD] at this; cases this
      · exact h1
      · have hjl : j < s.louds.length := by
          have : k < s.louds.length := by
            rcases Nat.lt_or_ge k s.louds.length with h2 | h2
            · exact h2
            · rw [List.getElem?_eq_none h2] at a1; cases a1
          omega
        have hl : s.louds[j]? = some s.louds[j] := by simp [hjl]
        have := (v.jd j _ hl).1 (hsub _ (a4 j _ h1 hl))
        omega
    subst hkj
    rw [v.st] at a2
    simp only [Option.some.injEq, Prod.mk.injEq] at a2
    obtain ⟨rfl, rfl⟩ := a2
    exact ⟨k0, a1, h', a3, a4, a5, a6⟩
  have hne : ∀ {x : AV}, evQ .bad en.r (view h.next (without m ins) 0 s.ents H) ≠ some x := by intro x e; simp [evQ] at e
  have quietEv : (cOper P N ops ops[i]).op.quiet = true → wd = true → en.f = none ∧ evQ (cOper P N ops ops[i]).op en.r (view h.next (without m ins) 0 s.ents H) = some en.v := by
    intro q1 hw
    obtain ⟨b1, b2, b3⟩ := F.q q1
    refine ⟨b2, ?_⟩
    have := askQ_spec c.ask i _ m en (oper_get hi).2.2 hm hen (by rw [b1, hw])
    exact askAll_spec this (H, ins) (by rw [Nat.zero_add]; exact stage_asked c v hi hD hsub)
  simp only [wpOp, (oper_get (P := P) (N := N) hi).1]
  rcases cOper_shape har F.gd with ⟨hbad, hw⟩ | ⟨hd, hop, hwant⟩
  · have := (quietEv (by rw [hbad]; rfl) hw).2
    rw [hbad] at this
    exact absurd this hne
  · rw [hwant]
    cases wd with
    | false =>
      simp only [Bool.false_eq_true, if_false]
      cases hq : (cOper P N ops ops[i]).op.quiet with
      | true =>
        obtain ⟨b1, b2, b3⟩ := F.q hq
        refine hK _ _ _ _ _ _ (inv_plain c v hi hD hp hen b2 (not_loud c hi (.inl hq)) ?_ hd)
        rw [b3 rfl]; exact VR_undef
      | false =>
        cases hf : (cOper P N ops ops[i]).op.floats with
        | true =>
          obtain ⟨b1, b2⟩ := F.f0 hq hf rfl
          refine hK _ _ _ _ _ _ (inv_plain c v hi hD hp hen b2 (not_loud c hi (.inr hf)) ?_ hd)
          rw [b1]; exact VR_undef
        | false =>
          obtain ⟨b1, b2, h', b3, b4, _, b6⟩ := loud hq hf
          obtain ⟨b7, rfl⟩ := b6 rfl
          refine hK _ _ _ _ _ _ (inv_loud c v hi hD hp hm hen b1 b2 b4 b3 ?_ hsim (Stp.refl _ _ _) hd)
          rw [b7]; exact VR_undef
    | true =>
      simp only [if_true]
      left
      cases hc : cOp P (ops[i]).op with
      | none =>
        rw [hc] at hop
        have := (quietEv (by rw [hop]; rfl) rfl).2
        rw [hop] at this
        exact absurd this hne
      | some e =>
        rw [hc] at hop
        simp only [Option.getD_some] at hop
        rw [hop] at quietEv loud
        have hF := F
        rcases cOp_ok hc with ⟨hq, hok⟩ | ⟨hq, hcl, hok, hfl⟩ | ⟨hq, hcl, hok⟩
        · obtain ⟨b2, b3⟩ := quietEv hq rfl
          obtain ⟨vc, h1, h2⟩ := hok g _ w en.r ac en.v hsim har b3
          simp only [Oper.wp, h2, Oper.upon]
          exact hK _ _ _ _ _ _ (inv_plain c v hi hD hp hen b2 (not_loud c hi (.inl (by rw [hop]; exact hq))) h1 hd)
        · cases hf : e.floats with
          | true =>
            obtain ⟨mk, ob, d1, d2, d3⟩ := F.f1 (by rw [hop]; exact hq) (by rw [hop]; exact hf) rfl
            rw [hop] at d1
            obtain ⟨vc, obc, n, dk, e1, e2, e3⟩ := hfl hf g w en.r ac mk ob har d1
            simp only [Oper.wp, e1, Oper.upon]
            refine hK _ _ _ _ _ _ (inv_float c (v.drewK dk) hi hD hp hen d3 (not_loud c hi (.inr (by rw [hop]; exact hf))) e2 ?_ hd)
            rw [d2]
            exact e3 _ _ (put_self _ _ _)
          | false =>
            obtain ⟨b1, b2, h', b3, b4, b5, _⟩ := loud hq hf
            have hev := b5 rfl
            simp only [evO, hq, hcl, cond_false] at hev
            obtain ⟨vc, g', w', hr, h1, s', st⟩ := hok g _ w en.r ac en.v h' hsim har hev
            rcases hr with hr | ⟨hr, rfl⟩
            · simp only [Oper.wp, hr, Oper.upon]
              exact hK _ _ _ _ _ _ (inv_loud c v hi hD hp hm hen b1 b2 b4 b3 h1 s' st hd)
            · simp only [Oper.wp, hr, Oper.upon]
              exact hK _ _ _ _ _ _ (inv_loud c v hi hD hp hm hen b1 b2 b4 b3 h1 s' st hd)
        · have hf : e.floats = false := by cases e <;> first | rfl | (simp [EOp.isCall] at hcl)
          obtain ⟨b1, b2, h', b3, b4, b5, _⟩ := loud hq hf
          have hev := b5 rfl
          simp only [evO, hq, hcl, cond_false, cond_true] at hev
          split at hev
          · rename_i f vs hcc
            obtain ⟨hb, hcs⟩ := c.callS f vs _ en.v h' hev
            obtain ⟨args, h1, h2⟩ := hok g w en.r ac f vs har hcc hb
            simp only [Oper.wp, h2, Oper.upon]
            refine (hcs g w args hsim h1).mono ?_
            rintro x w' ⟨vc, g', rfl, hv, s', st⟩
            exact hK _ _ _ _ _ _ (inv_loud c v hi hD hp hm hen b1 b2 b4 b3 hv s' st hd)
          · cases hev

def doneIn (listed : Array Bool) : Nat → Bool := fun t => listed.getD t false
theorem doneIn_set {listed : Array Bool} {i : Nat} (hi : i < listed.size) : doneIn (listed.setIfInBounds i true) = upd (doneIn listed) i := by
  funext t
  simp only [doneIn, upd, Array.getD_eq_getD_getElem?, Array.getElem?_setIfInBounds]
  by_cases h : i = t
  · subst h; simp [hi]
  · simp [h, Ne.symm h]

theorem mem_ready {listed : Array Bool} (hsz : listed.size = ops.size) {i : Nat} : i ∈ Region.ready .any ops listed ↔ ∃ hi : i < ops.size, doneIn listed i = false ∧ ∀ e ∈ ops[i].after.toList, Region.binds .any e = true → doneIn listed e.on = true := by
  simp only [Region.ready, List.mem_filter, List.mem_range, Bool.and_eq_true, Bool.not_eq_true']
  constructor
  · rintro ⟨hi, h1, h2⟩
    refine ⟨hi, ?_, ?_⟩
    · simp only [doneIn, Array.getD_eq_getD_getElem?] at h1 ⊢
      rw [Array.getElem?_eq_getElem (by omega)] at h1 ⊢
      simpa using h1
    · intro e he hb
      simp only [Array.getElem?_eq_getElem hi, Option.map_some, Option.getD_some] at h2
      have := Array.all_eq_true_iff_forall_mem.1 h2 e (by simpa using he)
      simpa [hb, doneIn] using this
  · rintro ⟨hi, h1, h2⟩
    refine ⟨hi, ?_, ?_⟩
    · simp only [doneIn, Array.getD_eq_getD_getElem?] at h1 ⊢
      rw [Array.getElem?_eq_getElem (by omega)] at h1 ⊢
      simpa using h1
    · simp only [Array.getElem?_eq_getElem hi, Option.map_some, Option.getD_some]
      refine Array.all_eq_true_iff_forall_mem.2 (fun e he => ?_)
      cases hb : Region.binds .any e with
      | false => rfl
      | true => simpa [doneIn] using h2 e (by simpa using he) hb

theorem all_done (hE : edgesB ops.toList 0 = true) {listed : Array Bool} (hsz : listed.size = ops.size) (hr : Region.ready .any ops listed = []) : ∀ i, i < ops.size → doneIn listed i = true := by
  intro i
  induction i using Nat.strongRecOn with
  | _ i ih =>
    intro hi
    cases hd : doneIn listed i with
    | true => rfl
    | false =>
      have : i ∈ Region.ready .any ops listed := (mem_ready hsz).2 ⟨hi, hd, fun e he hb => by
        have := edges_lt ops.toList 0 hE i ops[i] (by simp [hi]) e he hb
        exact ih e.on (by omega) (by omega)⟩
      rw [hr] at this
      simp at this

/-- At the end. -/
theorem inv_end (c : DCtx P call N ops a0 h s) (v : Inv dl N ops (opers P N ops) a0 h s g0 w0 D g ac w j H ins) (hall : ∀ i, i < ops.size → D i = true) {K : Act → World → Prop} (hK : Go N dl g0 h w0 s.a (view h.next (fun t => !s.ins.testBit t) 0 s.ents s.h) K) : K ac w := by
  have hj : j = s.louds.length := by
    rcases Nat.lt_or_ge j s.louds.length with h1 | h1
    · have hl : s.louds[j]? = some s.louds[j] := by simp [h1]
      have hlt := (c.di.lin _ (List.mem_of_getElem? hl)).1
      have := (v.jd j _ hl).1 (hall _ (by rw [← c.full]; exact hlt))
      omega
    · have := v.jle; omega
  subst hj
  have hst := v.st
  rw [c.di.slast] at hst
  simp only [Option.some.injEq, Prod.mk.injEq] at hst
  obtain ⟨rfl, rfl⟩ := hst
  have hlt : ∀ t en, s.ents[t]? = some en → t < ops.size := fun t en ht => by
    rcases Nat.lt_or_ge t s.ents.length with h1 | h1
    · rw [c.full] at h1; exact h1
    · rw [List.getElem?_eq_none h1] at ht; cases ht
  have hview : dview h s D s.ins s.h = view h.next (fun t => !s.ins.testBit t) 0 s.ents s.h := by
    refine view_congr _ _ _ _ (fun t en ht _ => ?_)
    simp [hall t (hlt t en ht)]
  refine hK g ac w ?_ (by rw [← hview]; exact v.sim) (by rw [← hview]; exact v.stp)
  refine v.fr.congr (fun t => ?_)
  rw [c.di.env]
  exact envW_agree _ 0 _ _ rfl (fun k u hk => by simp [hall k (pairs_lt hk)])

theorem any_sound (c : DCtx P call N ops a0 h s) {Q : Exit → Act → World → Prop} (hQ : Go N dl g0 h w0 s.a (view h.next (fun t => !s.ins.testBit t) 0 s.ents s.h) (Q .normal)) : ∀ (fuel : Nat) (listed : Array Bool) (g : Gh) (ac : Act) (w : World) (j : Nat) (H : AH) (ins : Nat),
    listed.size = ops.size → listed.toList.countP (!·) ≤ fuel → Inv dl N ops (opers P N ops) a0 h s g0 w0 (doneIn listed) g ac w j H ins → wpAny P .any ops Q fuel listed ac w
  | 0, listed, g, ac, w, j, H, ins, hsz, hf, v => by
    have hall : ∀ i, i < ops.size → doneIn listed i = true := by
      intro i hi
      have h0 : listed.toList.countP (!·) = 0 := by omega
      rw [List.countP_eq_zero] at h0
      have := h0 (listed[i]'(by omega)) (by simp)
      simp only [doneIn, Array.getD_eq_getD_getElem?]
      rw [Array.getElem?_eq_getElem (by omega)]
      simpa using this
    refine ⟨?_, inv_end c v hall hQ⟩
    rw [List.eq_nil_iff_forall_not_mem]
    intro i hm
    obtain ⟨hi, h1, _⟩ := (mem_ready hsz).1 hm
    rw [hall i hi] at h1; cases h1
  | fuel + 1, listed, g, ac, w, j, H, ins, hsz, hf, v => by
    refine ⟨fun hr => inv_end c v (all_done c.edges hsz hr) hQ, fun i hm => ?_⟩
    obtain ⟨hi, h1, h2⟩ := (mem_ready hsz).1 hm
    refine inv_step c v hi h1 h2 (fun g' ac' w' j' H' ins' v' => ?_)
    refine any_sound c hQ fuel _ g' ac' w' j' H' ins' (by simp [hsz]) ?_ (by rw [doneIn_set (by omega)]; exact v')
    have hil : i < listed.toList.length := by simp; omega
    have hli : listed.toList[i] = false := by
      simp only [doneIn, Array.getD_eq_getD_getElem?] at h1
      rw [Array.getElem?_eq_getElem (by omega)] at h1
      simpa using h1
    rw [Array.toList_setIfInBounds, List.countP_set hil, hli]
    clear hm v
    have : 0 < listed.toList.countP (!·) := List.countP_pos_iff.2 ⟨listed.toList[i], by simp, by rw [hli]; rfl⟩
    simp only [Bool.not_false, Bool.not_true, if_true, Bool.false_eq_true, if_false]
    omega

end

theorem drawRun_sound (hm : P.follows .mixedOrders = true) {call : Caller} (hcall : CallS P call) : DrawS P (drawRun call) := by
  intro N id ops a h a' h' hE hA he dl g w ac s0 ha Q hQ
  unfold drawRun at he
  simp only [] at he
  split at he
  · rename_i s hs
    cases hask : askQ h.next s (ancs ops.toList []) (ops.toList.map (cOper P N ops)) (ancs ops.toList []) s.ents 0 with
    | false => simp [hask] at he
    | true =>
      simp only [hask, cond_true, Option.some.injEq, Prod.mk.injEq] at he
      obtain ⟨rfl, rfl⟩ := he
      have hlen : (ops.toList.map (cOper P N ops)).length = ops.size := by simp
      rw [hlen] at hs
      have hM : ∀ (i m j : Nat), (ancs ops.toList [])[i]? = some m → m.testBit j = true → j < i := by
        intro i m j hi hb
        have hil : i < ops.toList.length := by
          rcases Nat.lt_or_ge i ops.toList.length with h1 | h1
          · exact h1
          · rw [List.getElem?_eq_none (by have := masks_length ops; simp only [masks] at this; simp at h1; omega)] at hi; cases hi
        exact anc_lt hE (List.getElem?_eq_getElem hil) hi hb
      have hdi0 : DI call h.next a { h with next := h.next + ops.size } (ops.toList.map (cOper P N ops)) (ancs ops.toList []) ⟨a, { h with next := h.next + ops.size }, 0, [], [], [({ h with next := h.next + ops.size }, 0)]⟩ :=
        ⟨by simp, by simp [pairs, envW], fun i e m en _ _ h3 => by simp at h3, by simp, by simp, fun i e hi => by simp at hi, rfl, rfl, rfl⟩
      obtain ⟨hdi, hfull⟩ := drawSteps_DI hM _ _ _ s hdi0 rfl rfl hs
      have c : DCtx P call N ops a h s := ⟨hcall, hE, hA, hdi, by rw [hfull, hlen], hask⟩
      refine wp_region_any hm (any_sound (g0 := g) (w0 := w) c hQ ops.size _ g ac _ 0 { h with next := h.next + ops.size } 0 (by simp) ?_ ?_)
      · have := List.countP_le_length (p := (!·)) (l := (Array.replicate ops.size false).toList)
        simpa using this
      · have hD0 : doneIn (Array.replicate ops.size false) = fun _ => false := by
          funext t
          simp only [doneIn, Array.getD_eq_getD_getElem?]
          by_cases ht : t < ops.size <;> simp [ht]
        rw [hD0]
        have hv0 : dview h s (fun _ => false) 0 { h with next := h.next + ops.size } = { h with next := h.next + ops.size } := by
          have : ∀ (ents : List Ent) (i : Nat) (h0 : AH), view h.next (fun _ => false) i ents h0 = h0 := by
            intro ents
            induction ents with
            | nil => intro i h0; rfl
            | cons e es ih =>
              intro i h0
              simp only [view]
              rw [ih]
              cases e.f <;> rfl
          simp only [dview, Bool.false_and]
          exact this _ _ _
        have hs1 : Sim g { h with next := h.next + ops.size } { w with drawn := w.drawn + 1 } := s0.drew.weaken (fun b o hb => hb) (by simp)
        have henv : ∀ (l : List (Option Nat × AV)) (i : Nat) (x : Env), envW (fun _ => false) i l x = x := by
          intro l
          induction l with
          | nil => intro i x; rfl
          | cons p l ih =>
            intro i x
            obtain ⟨d, u⟩ := p
            simp only [envW, cond_false]
            exact ih _ _
        refine ⟨fun i o _ hD => by simp at hD, by rw [henv]; exact ha, by simp, fun k l _ => by simp, hdi.sfirst, fun t ht => by simp at ht, fun t ht => by simp at ht, by rw [hv0]; exact hs1, fun t ht _ => ?_, fun t en o _ _ _ => ?_, Nat.le_refl _, ?_⟩
        · cases e : g.φ (h.next + t) with
          | none => rfl
          | some p => have := (s0.dom _ p.1 p.2 e).1; omega
        · show h.get (h.next + t) = none
          cases e : h.get (h.next + t) with
          | none => rfl
          | some o' =>
            obtain ⟨x, n, ob, h1, _⟩ := s0.obj _ _ e
            have := (s0.dom _ _ _ h1).1
            omega
        · rw [hv0]
          exact ⟨g.le_refl, Nat.le_refl _, fun _ _ _ => rfl, fun x _ ⟨b, n, o, h1, h2, h3⟩ => ⟨b, n, o, h1, h2, h3⟩, rfl, rfl, rfl, by simp, fun x _ ⟨b, n, o, h1, h3⟩ => ⟨b, n, o, h1, h3⟩, fun _ _ => rfl⟩
  · cases he

end Go.Ev
end PEvS20
/- Regions that draw their order, where no order matters: the text's own. -/
section PEvS21
set_option linter.unusedSimpArgs false
namespace Go.Ev

/-! ### what is looked at, and no more -/
theorem restrict_get' (a : Env) : ∀ (l : List Nat) (t : Nat), t ∈ l → (restrict a l).get t = a.get t
  | [], t, h => by simp at h
  | u :: l, t, h => by
    simp only [restrict]
    cases hu : a.get u with
    | some v =>
      simp only [Tr.get_set]
      split
      · rename_i e; subst e; rw [hu]
      · rename_i e
        exact restrict_get' a l t (by simp at h; rcases h with rfl | h; exact absurd rfl e; exact h)
    | none =>
      simp only []
      by_cases e : u = t
      · subst e
        rw [hu]
        cases hr : (restrict a l).get u with
        | none => rfl
        | some v => rw [(restrict_get a u v l hr).2] at hu; cases hu
      · exact restrict_get' a l t (by simp at h; rcases h with rfl | h; exact absurd rfl e; exact h)

def SameAt (r a : Env) (l : List Nat) : Prop := ∀ t ∈ l, r.get t = a.get t
theorem SameAt.left {r a : Env} {l m : List Nat} (h : SameAt r a (l ++ m)) : SameAt r a l := fun t ht => h t (by simp [ht])
theorem SameAt.right {r a : Env} {l m : List Nat} (h : SameAt r a (l ++ m)) : SameAt r a m := fun t ht => h t (by simp [ht])
theorem ev_of {r a : Env} {x : Od} (h : SameAt r a x.tmps) : x.ev r = x.ev a := by
  cases x with
  | t n => exact h n (by simp [Od.tmps])
  | c v => rfl
abbrev tmpsL (l : List Od) : List Nat := l.flatMap Od.tmps
theorem evs_of {r a : Env} : ∀ {l : List Od}, SameAt r a (tmpsL l) → evs r l = evs a l
  | [], _ => rfl
  | x :: l, h => by
    simp only [tmpsL, List.flatMap_cons] at h
    simp only [evs, ev_of h.left, evs_of h.right]
theorem evf_of {r a : Env} : ∀ {l : List (Nat × Nat × Od)}, SameAt r a (tmpsL (l.map (·.2.2))) → evf r l = evf a l
  | [], _ => rfl
  | (i, j, x) :: l, h => by
    simp only [tmpsL, List.map_cons, List.flatMap_cons] at h
    simp only [evf, ev_of h.left, evf_of h.right]
theorem evo_of {r a : Env} {x : Option Od} (h : SameAt r a (tmpsL x.toList)) : evo r x = evo a x := by
  cases x with
  | none => rfl
  | some x =>
    simp only [tmpsL, Option.toList_some, List.flatMap_cons] at h
    simp only [evo, ev_of h.left]

theorem evO_of {call : Caller} {op : EOp} {r a : Env} {h : AH} (hl : SameAt r a (tmpsL (odsOf op))) : evO call op r h = evO call op a h ∧ evQ op r h = evQ op a h := by
  cases op
  all_goals simp only [odsOf, tmpsL, List.flatMap_cons, List.flatMap_append] at hl
  all_goals try exact ⟨rfl, rfl⟩
  case pick c x y =>
    have h1 := ev_of hl.left; have h2 := ev_of hl.right.left; have h3 := ev_of hl.right.right.left
    simp only [evO, EOp.quiet, cond_true, evQ, h1, h2, h3, and_self]
  case build z fs => simp only [evO, EOp.quiet, cond_true, evQ, evf_of hl, and_self]
  case buildSlice => simp only [evO, EOp.quiet, EOp.isCall, cond_false, evW, evQ, evf_of hl, and_self]
  case mkFunc f xs ys =>
    have h1 := evs_of hl.left; have h2 := evs_of hl.right
    simp only [evO, EOp.quiet, cond_true, evQ, h1, h2, and_self]
  case slStr x lo hi =>
    have h1 := ev_of hl.left; have h2 := evo_of hl.right.left; have h3 := evo_of hl.right.right
    simp only [evO, EOp.quiet, cond_true, evQ, h1, h2, h3, and_self]
  case sl sz x lo hi mx =>
    have h1 := ev_of hl.left; have h2 := evo_of hl.right.left.left; have h3 := evo_of hl.right.left.right; have h4 := evo_of hl.right.right
    simp only [evO, EOp.quiet, cond_true, evQ, h1, h2, h3, h4, and_self]
  case slArr n sz x lo hi mx =>
    have h1 := ev_of hl.left; have h2 := evo_of hl.right.left.left; have h3 := evo_of hl.right.left.right; have h4 := evo_of hl.right.right
    simp only [evO, EOp.quiet, cond_true, evQ, h1, h2, h3, h4, and_self]
  case mapUpd fk x k v =>
    have h1 := ev_of hl.left; have h2 := ev_of hl.right.left; have h3 := ev_of hl.right.right.left
    simp only [evO, EOp.quiet, EOp.isCall, cond_false, evW, evQ, h1, h2, h3, and_self]
  case minI x ys =>
    have h1 := ev_of hl.left; have h2 := evs_of hl.right
    simp only [evO, EOp.quiet, cond_true, evQ, h1, h2, and_self]
  case maxI x ys =>
    have h1 := ev_of hl.left; have h2 := evs_of hl.right
    simp only [evO, EOp.quiet, cond_true, evQ, h1, h2, and_self]
  case callF f xs => simp only [evO, EOp.quiet, EOp.isCall, cond_false, cond_true, evC, evQ, evs_of hl, and_self]
  case callV f xs =>
    have h1 := ev_of hl.left; have h2 := evs_of hl.right
    simp only [evO, EOp.quiet, EOp.isCall, cond_false, cond_true, evC, evQ, h1, h2, and_self]
  case invoke tab f xs =>
    have h1 := ev_of hl.left; have h2 := evs_of hl.right
    simp only [evO, EOp.quiet, EOp.isCall, cond_false, cond_true, evC, evQ, h1, h2, and_self]
  all_goals first
    | (have h1 := ev_of hl.left
       have h2 := ev_of hl.right.left
       simp only [evO, evQ, evW, EOp.quiet, EOp.isCall, cond_false, cond_true, h1, h2, and_self])
    | (have h1 := ev_of hl.left
       simp only [evO, evQ, evW, EOp.quiet, EOp.isCall, cond_false, cond_true, h1, and_self])

/-- Does it read memory? -/
def EOp.reads : EOp → Bool
  | .load .. | .b2s _ | .slArr .. | .lookup .. | .lenMap _ | .p2u _ | .u2p .. => true
  | _ => false
theorem evQ_still {op : EOp} (hr : op.reads = false) (a : Env) (h h' : AH) : evQ op a h = evQ op a h' := by
  cases op <;> first | rfl | (simp [EOp.reads] at hr)

mutual
theorem AV.beq_refl : ∀ (a : AV), AV.beq a a = true
  | .bool b => by cases b <;> simp [AV.beq]
  | .int k n => by
    simp only [AV.beq, Bool.and_eq_true]
    exact ⟨(kbeq_iff k k).2 rfl, by rw [ieq_eq]; simp⟩
  | .str s => by simp only [AV.beq, beqB_eq]; simp
  | .nilp => rfl
  | .ptr a b => by simp [AV.beq]
  | .nils => rfl
  | .slice a b c d e => by cases e <;> simp [AV.beq]
  | .empt => rfl
  | .nilm => rfl
  | .map b => by simp [AV.beq]
  | .nilf => rfl
  | .fn f a b => by simp [AV.beq, AV.beqL_refl a, AV.beqL_refl b]
  | .nili => rfl
  | .iface t a => by simp [AV.beq, AV.beq_refl a]
  | .agg l => by simp only [AV.beq, AV.beqL_refl l]
  | .tup l => by simp only [AV.beq, AV.beqL_refl l]
theorem AV.beqL_refl : ∀ (l : List AV), AV.beqL l l = true
  | [] => rfl
  | a :: l => by simp only [AV.beqL, AV.beq_refl a, AV.beqL_refl l, Bool.and_self]
end

/-! ### calm regions -/
def loudsOf : List EOper → Nat → List Nat
  | [], _ => []
  | e :: es, i => cond e.op.quiet (loudsOf es (i + 1)) (i :: loudsOf es (i + 1))
def calmL (L ms0 : List Nat) : List EOper → List Nat → Nat → List Nat → Bool
  | [], _, _, _ => true
  | _ :: _, [], _, _ => false
  | e :: es, m :: ms, i, seen => !e.op.floats && cond e.op.quiet (!e.op.reads || Nat.beq (least L m) (greatest L ms0 i)) (seen.all m.testBit) && calmL L ms0 es ms (i + 1) (cond e.op.quiet seen (seen ++ [i]))
def calm (es : List EOper) (ms : List Nat) : Bool := calmL (loudsOf es 0) ms es ms 0 []

theorem view_none (base : Nat) (p : Nat → Bool) : ∀ (ents : List Ent) (i : Nat) (h : AH), (∀ en ∈ ents, en.f = none) → view base p i ents h = h
  | [], _, _, _ => rfl
  | e :: es, i, h, hn => by
    simp only [view, lay, hn e (by simp)]
    exact view_none base p es (i + 1) h (fun en he => hn en (by simp [he]))

end Go.Ev
end PEvS21
/- Regions that draw their order, where no order matters: run as the text stands. -/
section PEvS22
set_option linter.unusedSimpArgs false
namespace Go.Ev

theorem guardE_of {r a : Env} {e : EOper} (h : SameAt r a (looks e)) : guardE r e.guard = guardE a e.guard := by
  simp only [looks] at h
  cases hg : e.guard with
  | none => rfl
  | some tw =>
    obtain ⟨t, w⟩ := tw
    rw [hg] at h
    have := h.right t (by simp)
    simp only [guardE, this]

theorem looks_same (a : Env) (e : EOper) : SameAt (restrict a (looks e)) a (looks e) := fun t ht => restrict_get' a _ t ht

/-- How far the one walk is, where all is calm. -/
structure CI (es : List EOper) (s : DSt) : Prop where
  none : ∀ en ∈ s.ents, en.f = none
  slen : s.stg.length = s.louds.length + 1
  slast : s.stg[s.louds.length]? = some (s.h, s.ins)
  all : loudsOf es 0 = s.louds ++ loudsOf (es.drop s.ents.length) s.ents.length
  lt : ∀ l ∈ s.louds, l < s.ents.length
  own : ∀ k e en, es[k]? = some e → s.ents[k]? = some en → en.chk = true → e.op.quiet = true ∧ ∃ c hk ik, c ≤ s.louds.length ∧ s.stg[c]? = some (hk, ik) ∧ evQ e.op en.r hk = some en.v ∧
    (∀ j l, j < c → s.louds[j]? = some l → l < k) ∧ (∀ j l, c ≤ j → s.louds[j]? = some l → k ≤ l)

theorem calm_step {call : Caller} {base : Nat} {es : List EOper} {s : DSt} {e : EOper} {m : Nat} {a' : Env} {h' : AH} (ci : CI es s) (he : es[s.ents.length]? = some e) (hf : e.op.floats = false) (hall : e.op.quiet = false → s.louds.all m.testBit = true)
    (hev : evOper call e s.a s.h = some (a', h')) : ∃ s', drawStep call base s e m = some s' ∧ CI es s' ∧ s'.a = a' ∧ s'.h = h' ∧ s'.ents.length = s.ents.length + 1 ∧ s'.louds = cond e.op.quiet s.louds (s.louds ++ [s.ents.length]) := by
  have hsame := looks_same s.a e
  have hview : view base (without m s.ins) 0 s.ents s.h = s.h := view_none _ _ _ _ _ ci.none
  have hops : SameAt (restrict s.a (looks e)) s.a (tmpsL (odsOf e.op)) := by
    have := hsame
    simp only [looks] at this ⊢
    exact SameAt.left this
  have hlt : s.ents.length < es.length := by
    rcases Nat.lt_or_ge s.ents.length es.length with h | h
    · exact h
    · rw [List.getElem?_eq_none h] at he; cases he
  have hdrop : es.drop s.ents.length = e :: es.drop (s.ents.length + 1) := by
    rw [List.drop_eq_getElem_cons hlt]
    rw [List.getElem?_eq_getElem hlt] at he
    simp at he
    rw [he]
  have hslt : ∀ {j l : Nat}, s.louds[j]? = some l → j < s.louds.length := by
    intro j l hj
    rcases Nat.lt_or_ge j s.louds.length with h | h
    · exact h
    · rw [List.getElem?_eq_none h] at hj; cases hj
  have hold : ∀ (x : Ent) (louds' : List Nat) (stg' : List (AH × Nat)), (∃ q, louds' = s.louds ++ q ∧ ∀ l ∈ q, s.ents.length ≤ l) → (∃ q, stg' = s.stg ++ q) → ∀ k e' en, k < s.ents.length → es[k]? = some e' → (s.ents ++ [x])[k]? = some en → en.chk = true → e'.op.quiet = true ∧ ∃ c hk ik, c ≤ louds'.length ∧ stg'[c]? = some (hk, ik) ∧ evQ e'.op en.r hk = some en.v ∧
      (∀ j l, j < c → louds'[j]? = some l → l < k) ∧ (∀ j l, c ≤ j → louds'[j]? = some l → k ≤ l) := by
    rintro x louds' stg' ⟨q, rfl, hq⟩ ⟨q', rfl⟩ k e' en hk h1 h2 h3
    rw [List.getElem?_append_left hk] at h2
    obtain ⟨g1, c, hk', ik, g2, g3, g4, g5, g6⟩ := ci.own k e' en h1 h2 h3
    refine ⟨g1, c, hk', ik, by simp; omega, get_app g3, g4, ?_, ?_⟩
    · intro j l hj hl
      rw [List.getElem?_append_left (by omega)] at hl
      exact g5 j l hj hl
    · intro j l hj hl
      rcases Nat.lt_or_ge j s.louds.length with h | h
      · rw [List.getElem?_append_left h] at hl
        exact g6 j l hj hl
      · rw [List.getElem?_append_right h] at hl
        have := hq l (List.mem_of_getElem? hl)
        omega
  -- one new entry: what is asked of it
  have plain : ∀ (v : AV) (c : Bool), e.op.quiet = true → (c = true → evQ e.op (restrict s.a (looks e)) s.h = some v) → CI es { s with a := putE s.a e.dst v, ents := s.ents ++ [⟨restrict s.a (looks e), v, none, c⟩] } := by
    intro v c hq hev'
    refine ⟨?_, ci.slen, ci.slast, ?_, ?_, ?_⟩
    · intro en hen
      simp at hen
      rcases hen with hen | rfl
      · exact ci.none en hen
      · rfl
    · simp only [List.length_append, List.length_cons, List.length_nil]
      rw [ci.all, hdrop]
      simp [loudsOf, hq]
    · intro l hl
      have := ci.lt l hl
      simp; omega
    · intro k e' en h1 h2 h3
      by_cases hk : k < s.ents.length
      · exact hold _ s.louds s.stg ⟨[], by simp⟩ ⟨[], by simp⟩ k e' en hk h1 h2 h3
      · have hk' : k = s.ents.length := by
          rcases Nat.lt_or_ge k (s.ents.length + 1) with h | h
          · omega
          · rw [List.getElem?_eq_none (by simp; omega)] at h2; cases h2
        subst hk'
        simp at h2; subst h2
        rw [he] at h1; simp at h1; subst h1
        refine ⟨hq, s.louds.length, s.h, s.ins, Nat.le_refl _, ci.slast, hev' h3, fun j l hj hl => ci.lt l (List.mem_of_getElem? hl), fun j l hj hl => ?_⟩
        have := hslt hl
        omega
  have hg := guardE_of hsame
  unfold evOper at hev
  unfold drawStep
  simp only [hg]
  cases hge : guardE s.a e.guard with
  | none => simp [hge] at hev
  | some wd =>
    simp only [hge] at hev ⊢
    cases hq : e.op.quiet with
    | true =>
      simp only [cond_true]
      cases wd with
      | true =>
        simp only [cond_true, hview] at hev ⊢
        have hevQ := (evO_of (call := call) (h := s.h) hops).2
        simp only [evO, hq, cond_true] at hev
        cases hv : evQ e.op s.a s.h with
        | none => simp [hv] at hev
        | some v =>
          simp only [hv, Option.some.injEq, Prod.mk.injEq] at hev
          obtain ⟨rfl, rfl⟩ := hev
          rw [hevQ, hv]
          exact ⟨_, rfl, plain v true hq (fun _ => by rw [hevQ, hv]), rfl, rfl, by simp, rfl⟩
      | false =>
        simp only [cond_false, Option.some.injEq, Prod.mk.injEq] at hev ⊢
        obtain ⟨rfl, rfl⟩ := hev
        exact ⟨_, rfl, plain .undef false hq (fun h => by cases h), rfl, rfl, by simp, rfl⟩
    | false =>
      simp only [cond_false, hf, hall hq, cond_true]
      have loud : ∀ (v : AV) (h2 : AH), CI es { a := putE s.a e.dst v, h := h2, ins := m, louds := s.louds ++ [s.ents.length], ents := s.ents ++ [⟨restrict s.a (looks e), v, none, false⟩], stg := s.stg ++ [(h2, m)] } := by
        intro v h2
        refine ⟨?_, by simp [ci.slen], ?_, ?_, ?_, ?_⟩
        · intro en hen
          simp at hen
          rcases hen with hen | rfl
          · exact ci.none en hen
          · rfl
        · simp only [List.length_append, List.length_cons, List.length_nil]
          rw [List.getElem?_append_right (by rw [ci.slen]; omega), ci.slen]
          simp
        · simp only [List.length_append, List.length_cons, List.length_nil]
          rw [ci.all, hdrop]
          simp [loudsOf, hq]
        · intro l hl
          simp at hl ⊢
          rcases hl with hl | rfl
          · have := ci.lt l hl; omega
          · omega
        · intro k e' en h1 h2' h3
          by_cases hk : k < s.ents.length
          · exact hold _ _ _ ⟨[s.ents.length], rfl, by simp⟩ ⟨_, rfl⟩ k e' en hk h1 h2' h3
          · have hk' : k = s.ents.length := by
              rcases Nat.lt_or_ge k (s.ents.length + 1) with h | h
              · omega
              · rw [List.getElem?_eq_none (by simp; omega)] at h2'; cases h2'
            subst hk'
            simp at h2'; subst h2'
            cases h3
      cases wd with
      | true =>
        simp only [cond_true, hview] at hev ⊢
        have hevO := (evO_of (call := call) (h := s.h) hops).1
        rw [hevO]
        cases hv : evO call e.op s.a s.h with
        | none => simp [hv] at hev
        | some p =>
          obtain ⟨v, h2⟩ := p
          simp only [hv, Option.some.injEq, Prod.mk.injEq] at hev
          obtain ⟨rfl, rfl⟩ := hev
          exact ⟨_, rfl, loud v h2, rfl, rfl, by simp, rfl⟩
      | false =>
        simp only [cond_false, hview, Option.some.injEq, Prod.mk.injEq] at hev ⊢
        obtain ⟨rfl, rfl⟩ := hev
        exact ⟨_, rfl, loud .undef s.h, rfl, rfl, by simp, rfl⟩

theorem calm_steps {call : Caller} {base : Nat} {es : List EOper} {L ms0 : List Nat} : ∀ (l : List EOper) (ms : List Nat) (s : DSt) (a' : Env) (h' : AH), CI es s → s.ents.length ≤ es.length → es.drop s.ents.length = l → calmL L ms0 l ms s.ents.length s.louds = true → evOps call l s.a s.h = some (a', h') →
    ∃ s', drawSteps call base l ms s = some s' ∧ CI es s' ∧ s'.a = a' ∧ s'.h = h' ∧ s'.ents.length = es.length
  | [], ms, s, a', h', ci, hle, hd, _, he => by
    simp only [evOps, Option.some.injEq, Prod.mk.injEq] at he
    obtain ⟨rfl, rfl⟩ := he
    refine ⟨s, rfl, ci, rfl, rfl, ?_⟩
    have := congrArg List.length hd
    simp at this
    omega
  | e :: l, [], s, a', h', _, _, _, hc, _ => by simp [calmL] at hc
  | e :: l, m :: ms, s, a', h', ci, hle, hd, hc, he => by
    simp only [calmL, Bool.and_eq_true, Bool.not_eq_true'] at hc
    obtain ⟨⟨c1, c2⟩, c3⟩ := hc
    simp only [evOps] at he
    cases h1 : evOper call e s.a s.h with
    | none => simp [h1] at he
    | some p =>
      obtain ⟨a1, h1'⟩ := p
      simp only [h1] at he
      have hget : es[s.ents.length]? = some e := by
        have := congrArg (fun l => l[0]?) hd
        simpa using this
      obtain ⟨s1, g1, g2, rfl, rfl, g5, g6⟩ := calm_step (base := base) (m := m) ci hget c1 (fun hq => by rw [hq] at c2; exact c2) h1
      simp only [drawSteps, g1]
      have hlt : s.ents.length < es.length := by
        rcases Nat.lt_or_ge s.ents.length es.length with h | h
        · exact h
        · rw [List.getElem?_eq_none h] at hget; cases hget
      refine calm_steps l ms s1 a' h' g2 (by omega) (by rw [g5, ← List.tail_drop, hd]; rfl) (by rw [g5, g6]; exact c3) he

theorem calmL_get {L ms0 : List Nat} : ∀ (l : List EOper) (ms : List Nat) (i : Nat) (seen : List Nat), calmL L ms0 l ms i seen = true → ∀ (k : Nat) (e : EOper) (m : Nat), l[k]? = some e → ms[k]? = some m → e.op.quiet = true → e.op.reads = true → least L m = greatest L ms0 (i + k)
  | [], _, _, _, _, k, e, m, h, _, _, _ => by simp at h
  | _ :: _, [], _, _, _, k, e, m, _, h, _, _ => by simp at h
  | e0 :: l, m0 :: ms, i, seen, hc, k, e, m, h1, h2, hq, hr => by
    simp only [calmL, Bool.and_eq_true, Bool.not_eq_true'] at hc
    cases k with
    | zero =>
      simp at h1 h2; subst h1; subst h2
      have := hc.1.2
      rw [hq] at this
      simpa [hr] using this
    | succ k =>
      have := calmL_get l ms (i + 1) _ hc.2 k e m (by simpa using h1) (by simpa using h2) hq hr
      rwa [show i + 1 + k = i + (k + 1) by omega] at this

theorem askQ_intro {base : Nat} {s : DSt} {ms : List Nat} : ∀ (es : List EOper) (ml : List Nat) (ens : List Ent) (i : Nat), (∀ k e m en, es[k]? = some e → ml[k]? = some m → ens[k]? = some en → en.chk = true →
    askAll base s.ents e.op m en.r en.v ((s.stg.drop (least s.louds m)).take (greatest s.louds ms (i + k) + 1 - least s.louds m)) = true) → askQ base s ms es ml ens i = true
  | [], _, _, _, _ => by simp [askQ]
  | _ :: _, [], _, _, _ => by simp [askQ]
  | _ :: _, _ :: _, [], _, _ => by simp [askQ]
  | e0 :: es, m0 :: ml, en0 :: ens, i, h => by
    simp only [askQ]
    have ih := askQ_intro es ml ens (i + 1) (fun k e m en h1 h2 h3 h4 => by
      have := h (k + 1) e m en (by simpa using h1) (by simpa using h2) (by simpa using h3) h4
      rwa [show i + (k + 1) = i + 1 + k by omega] at this)
    cases hc : en0.chk with
    | false => simpa using ih
    | true =>
      have := h 0 e0 m0 en0 rfl rfl rfl hc
      simp only [Nat.add_zero] at this
      simp [this, ih]

theorem askAll_intro {base : Nat} {ents : List Ent} {e : EOp} {m : Nat} {r : Env} {v : AV} : ∀ (l : List (AH × Nat)), (∀ x ∈ l, evQ e r (view base (without m x.2) 0 ents x.1) = some v) → askAll base ents e m r v l = true
  | [], _ => rfl
  | (h, ins) :: l, hx => by
    simp only [askAll, hx (h, ins) (by simp), AV.beq_refl, cond_true]
    exact askAll_intro l (fun x hl => hx x (by simp [hl]))

/-- Where all is calm, a run of the text's own order is the drawn one. -/
theorem calm_sound {call : Caller} {es : List EOper} {ms : List Nat} {a a' : Env} {h h' : AH} (hM : ∀ (i m j : Nat), ms[i]? = some m → m.testBit j = true → j < i) (hc : calm es ms = true) (he : evOps call es a { h with next := h.next + es.length } = some (a', h')) : drawRun call es ms a h = some (a', h') := by
  have ci0 : CI es ⟨a, { h with next := h.next + es.length }, 0, [], [], [({ h with next := h.next + es.length }, 0)]⟩ :=
    ⟨by simp, rfl, rfl, by simp, by simp, fun k e en _ h2 _ => by simp at h2⟩
  obtain ⟨s, h1, ci, rfl, rfl, h5⟩ := calm_steps (base := h.next) es ms _ a' h' ci0 (by simp) rfl hc he
  unfold drawRun
  simp only [h1]
  have hL : loudsOf es 0 = s.louds := by
    rw [ci.all, h5]
    simp [loudsOf]
  have hask : askQ h.next s ms es ms s.ents 0 = true := by
    refine askQ_intro es ms s.ents 0 (fun k e m en g1 g2 g3 g4 => ?_)
    simp only [Nat.zero_add]
    obtain ⟨hq, c, hk, ik, hcl, hst, hev, hlo, hhi⟩ := ci.own k e en g1 g3 g4
    refine askAll_intro _ (fun x hx => ?_)
    rw [view_none _ _ _ _ _ ci.none]
    cases hr : e.op.reads with
    | false => rw [← hev]; exact evQ_still hr _ _ _
    | true =>
      have heq := calmL_get es ms 0 [] hc k e m g1 g2 hq hr
      rw [hL, Nat.zero_add] at heq
      have l1 : least s.louds m ≤ c := filter_le_take _ _ (fun j x hj hx => by
        rcases Nat.lt_or_ge j c with h | h
        · exact h
        · have := hhi j x h hj
          have := hM k m x g2 hx
          omega)
      have l2 : c ≤ greatest s.louds ms k := by
        refine take_le_filter _ _ hcl (fun j x hj hjc => ?_)
        have hxk := hlo j x hjc hj
        rw [List.getD_eq_getElem?_getD]
        cases hmx : ms[x]? with
        | none => simp
        | some mx =>
          simp only [Option.getD_some, Bool.not_eq_true']
          cases hb : mx.testBit k with
          | false => rfl
          | true => have := hM x mx k hmx hb; omega
      have : least s.louds m = c := by omega
      rw [this, show greatest s.louds ms k = c by omega, show c + 1 - c = 1 by omega] at hx
      obtain ⟨i, hi⟩ := List.mem_iff_getElem?.1 hx
      have hi0 : i = 0 := by
        rcases Nat.lt_or_ge i 1 with h | h
        · omega
        · rw [List.getElem?_take, if_neg (by omega)] at hi; cases hi
      subst hi0
      rw [List.getElem?_take_of_lt (by omega), List.getElem?_drop, Nat.add_zero, hst] at hi
      simp at hi
      rw [← hi]
      exact hev
  simp only [hask, cond_true, Option.some.injEq, Prod.mk.injEq, true_and]
  exact view_none _ _ _ _ _ ci.none

/-- Draws: calm ones as the text stands. -/
noncomputable def drawCalm (call : Caller) (es : List EOper) (ms : List Nat) (a : Env) (h : AH) : Option (Env × AH) := cond (calm es ms) (evOps call es a { h with next := h.next + es.length }) (drawRun call es ms a h)
theorem drawCalm_calm (call : Caller) (es : List EOper) (ms : List Nat) (a : Env) (h : AH) (hc : calm es ms = true) : drawCalm call es ms a h = evOps call es a { h with next := h.next + es.length } := by simp [drawCalm, hc]

theorem drawCalm_sound {P : Program} (hm : P.follows .mixedOrders = true) {call : Caller} (hcall : CallS P call) : DrawS P (drawCalm call) := by
  intro N id ops a h a' h' hE hA he
  refine drawRun_sound hm hcall N id ops a h a' h' hE hA ?_
  unfold drawCalm at he
  cases hc : calm (ops.toList.map (cOper P N ops)) (ancs ops.toList []) with
  | false => simpa [hc] using he
  | true =>
    simp only [hc, cond_true] at he
    refine calm_sound (fun i m j hi hb => ?_) hc he
    have hil : i < ops.toList.length := by
      rcases Nat.lt_or_ge i ops.toList.length with h1 | h1
      · exact h1
      · rw [List.getElem?_eq_none (by have := masks_length ops; simp only [masks] at this; simp at h1; omega)] at hi; cases hi
    exact anc_lt hE (List.getElem?_eq_getElem hil) hi hb

end Go.Ev
end PEvS22
