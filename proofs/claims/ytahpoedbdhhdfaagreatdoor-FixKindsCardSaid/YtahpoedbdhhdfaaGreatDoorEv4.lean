/- An evaluator of the model's programs over abstract values, proved sound: part 4. -/
import Derived.Test.YtahpoedbdhhdfaaGreatDoorEv3
/- The same runs, faster for a checker: code as functions that are told what comes behind. -/
section PEvG
set_option linter.unusedSimpArgs false
namespace Go.Ev

abbrev OdT := Env → Option AV
abbrev PutT := Env → AV → Env
abbrev Ans := Option (AV × AH)
abbrev RegT := Caller → Env → AH → (Env → AH → Ans) → Ans
abbrev RunT := Nat → Caller → Env → AH → (Env → AH → Ans) → (AX → Env → AH → Ans) → Ans
abbrev DrawT := Caller → List EOper → List Nat → Env → AH → Option (Env × AH)

/-! ### slots by their paths -/
noncomputable def gX (t : Env) : Option AV := Tr.rec (motive := fun _ => Option AV) none (fun _ x _ _ _ => x) t
noncomputable def gL (f : OdT) (t : Env) : Option AV := Tr.rec (motive := fun _ => Option AV) none (fun l _ _ _ _ => f l) t
noncomputable def gR (f : OdT) (t : Env) : Option AV := Tr.rec (motive := fun _ => Option AV) none (fun _ _ r _ _ => f r) t
noncomputable def gp : Nat → Nat → OdT
  | 0, _ => fun _ => none
  | _ + 1, 0 => gX
  | f + 1, k + 1 => cond (Nat.beq (k % 2) 0) (gL (gp f (k / 2))) (gR (gp f (k / 2)))
theorem gp_eq : ∀ (f k : Nat) (t : Env), k < f → gp f k t = t.get k
  | 0, _, _, h => by omega
  | f + 1, 0, t, _ => by cases t <;> rfl
  | f + 1, k + 1, t, h => by
    have ih := fun t => gp_eq f (k / 2) t (by omega)
    cases t with
    | e => simp only [gp]; cases Nat.beq (k % 2) 0 <;> rfl
    | n l x r =>
      simp only [gp, Tr.get]
      cases Nat.beq (k % 2) 0 <;> simp [gL, gR, ih]

noncomputable def sX (t : Env) (o : AV) : Env := Tr.rec (motive := fun _ => Env) (.n .e (some o) .e) (fun l _ r _ _ => .n l (some o) r) t
noncomputable def sL (f : PutT) (t : Env) (o : AV) : Env := Tr.rec (motive := fun _ => Env) (.n (f .e o) none .e) (fun l x r _ _ => .n (f l o) x r) t
noncomputable def sR (f : PutT) (t : Env) (o : AV) : Env := Tr.rec (motive := fun _ => Env) (.n .e none (f .e o)) (fun l x r _ _ => .n l x (f r o)) t
noncomputable def sp : Nat → Nat → PutT
  | 0, _ => fun t _ => t
  | _ + 1, 0 => sX
  | f + 1, k + 1 => cond (Nat.beq (k % 2) 0) (sL (sp f (k / 2))) (sR (sp f (k / 2)))
theorem sp_eq : ∀ (f k : Nat) (t : Env) (o : AV), sp f k t o = Tr.setF f t k (some o)
  | 0, _, _, _ => rfl
  | f + 1, 0, t, o => by cases t <;> rfl
  | f + 1, k + 1, t, o => by
    have ih := fun t => sp_eq f (k / 2) t o
    cases t with
    | e => simp only [sp, Tr.setF]; cases Nat.beq (k % 2) 0 <;> simp [sL, sR, ih]
    | n l x r => simp only [sp, Tr.setF]; cases Nat.beq (k % 2) 0 <;> simp [sL, sR, ih]
noncomputable def slot (k : Nat) : OdT := gp (k + 1) k
noncomputable def sput (k : Nat) : PutT := sp (k + 1) k
def noput : PutT := fun a _ => a

/-! ### numbers -/
noncomputable def iAdd (a b : Int) : Int := Int.rec (motive := fun _ => Int) (fun m => Int.rec (motive := fun _ => Int) (fun n => .ofNat (Nat.add m n)) (fun n => Int.add (.ofNat m) (.negSucc n)) b) (fun m => Int.add (.negSucc m) b) a
theorem iAdd_eq (a b : Int) : iAdd a b = a + b := by cases a <;> cases b <;> rfl
noncomputable def iSub (a b : Int) : Int := Int.rec (motive := fun _ => Int) (fun m => Int.rec (motive := fun _ => Int) (fun n => Bool.rec (motive := fun _ => Int) (Int.sub (.ofNat m) (.ofNat n)) (.ofNat (Nat.sub m n)) (Nat.ble n m)) (fun n => Int.sub (.ofNat m) (.negSucc n)) b) (fun m => Int.sub (.negSucc m) b) a
theorem iSub_eq (a b : Int) : iSub a b = a - b := by
  cases a with
  | negSucc m => rfl
  | ofNat m =>
    cases b with
    | negSucc n => rfl
    | ofNat n =>
      simp only [iSub]
      cases h : Nat.ble n m with
      | false => rfl
      | true =>
        have := Nat.le_of_ble_eq_true h
        show Int.ofNat (m - n) = (m : Int) - (n : Int)
        simp; omega
noncomputable def wr64 (n : Int) : Int := Bool.rec (motive := fun _ => Int) (IntKind.i64.wrap n) (norm n) (Ev.fits .i64 n)
theorem wr64_eq (n : Int) : wr64 n = wr .i64 n := by
  unfold wr64 wr
  cases Ev.fits .i64 n <;> rfl

abbrev BinT := AV → AV → Option AV
/-- Both are numbers of 64 bits: so; else as it is elsewhere. -/
noncomputable def b64 (f : Int → Int → AV) (d : BinT) : BinT := fun u v =>
  match u with
  | .int k a => IntKind.casesOn (motive := fun _ => Option AV) k (d u v) (d u v) (d u v)
    (match v with
    | .int l b => IntKind.casesOn (motive := fun _ => Option AV) l (d u v) (d u v) (d u v) (some (f a b)) (d u v) (d u v) (d u v) (d u v)
    | _ => d u v) (d u v) (d u v) (d u v) (d u v)
  | _ => d u v
theorem b64_eq {f : Int → Int → AV} {d : BinT} (h : ∀ a b, d (.int .i64 a) (.int .i64 b) = some (f a b)) (u v : AV) : b64 f d u v = d u v := by
  cases u <;> try rfl
  rename_i k a
  cases k <;> try rfl
  cases v <;> try rfl
  rename_i l b
  cases l <;> first | rfl | exact (h a b).symm
noncomputable def fAdd (a b : Int) : AV := .int .i64 (wr64 (iAdd a b))
noncomputable def fSub (a b : Int) : AV := .int .i64 (wr64 (iSub a b))
def fEq (a b : Int) : AV := .bool (ieq a b)
def fNe (a b : Int) : AV := .bool (!ieq a b)
def fLt (a b : Int) : AV := .bool (ilt a b)
def fLe (a b : Int) : AV := .bool (!ilt b a)
def fGt (a b : Int) : AV := .bool (ilt b a)
def fGe (a b : Int) : AV := .bool (!ilt a b)
noncomputable def bAdd : BinT := b64 fAdd (binAV .add .no)
noncomputable def bSub : BinT := b64 fSub (binAV .sub .no)
noncomputable def bEq (m : EqM) : BinT := b64 fEq (binAV .eql m)
noncomputable def bNe (m : EqM) : BinT := b64 fNe (binAV .neq m)
noncomputable def bLt : BinT := b64 fLt (binAV .lss .no)
noncomputable def bLe : BinT := b64 fLe (binAV .leq .no)
noncomputable def bGt : BinT := b64 fGt (binAV .gtr .no)
noncomputable def bGe : BinT := b64 fGe (binAV .geq .no)
noncomputable def clBin (op : BinOp) (m : EqM) : BinT := match op with
  | .add => (match m with | .no => bAdd | m => binAV .add m)
  | .sub => (match m with | .no => bSub | m => binAV .sub m)
  | .eql => bEq m
  | .neq => bNe m
  | .lss => (match m with | .no => bLt | m => binAV .lss m)
  | .leq => (match m with | .no => bLe | m => binAV .leq m)
  | .gtr => (match m with | .no => bGt | m => binAV .gtr m)
  | .geq => (match m with | .no => bGe | m => binAV .geq m)
  | op => binAV op m
theorem clBin_eq (op : BinOp) (m : EqM) (u v : AV) : clBin op m u v = binAV op m u v := by
  cases op <;> try rfl
  all_goals first
    | (refine b64_eq (fun a b => ?_) u v
       simp [binAV, kbeq, kidx, intBin, fEq, fNe])
    | (cases m <;> try rfl
       refine b64_eq (fun a b => ?_) u v
       simp [binAV, kbeq, kidx, intBin, fAdd, fSub, fLt, fLe, fGt, fGe, iAdd_eq, iSub_eq, wr64_eq])

/-! ### operations -/
def dC (v : AV) : OdT := fun _ => some v
noncomputable def clD (x : Od) : OdT := match x with
  | .t n => slot n
  | .c v => dC v
theorem clD_eq (x : Od) (a : Env) : clD x a = x.ev a := by
  cases x with
  | t n => exact gp_eq _ _ _ (by omega)
  | c v => rfl

noncomputable def obind (x : Option AV) (f : AV → Option AV) : Option AV := Option.rec (motive := fun _ => Option AV) none f x
theorem obind_eq (x : Option AV) (f : AV → Option AV) : obind x f = match x with | some v => f v | none => none := by cases x <;> rfl

noncomputable def qPick (c x y : OdT) : OdT := fun a => Option.rec (motive := fun _ => Option AV) none (fun v => match v with
    | .bool b => Bool.rec (motive := fun _ => Option AV) (y a) (x a) b
    | _ => none) (c a)
noncomputable def qLoad (x : OdT) : Env → AH → Option AV := fun a h => Option.rec (motive := fun _ => Option AV) none (fun v => match v with
    | .ptr b off => getCell h b off
    | _ => none) (x a)
noncomputable def qLoadN (n : Nat) (x : OdT) : Env → AH → Option AV := fun a h => Option.rec (motive := fun _ => Option AV) none (fun v => match v with
    | .ptr b off => (match getCells h b off n with
      | some l => some (.agg l)
      | none => none)
    | _ => none) (x a)
noncomputable def qBin (f : BinT) (x y : OdT) : OdT := fun a => Option.rec (motive := fun _ => Option AV) none (fun u => Option.rec (motive := fun _ => Option AV) none (fun v => f u v) (y a)) (x a)
noncomputable def qFieldAddr (off : Nat) (x : OdT) : OdT := fun a => Option.rec (motive := fun _ => Option AV) none (fun v => match v with
    | .ptr b o => some (.ptr b (Nat.add o off))
    | _ => none) (x a)
noncomputable def qField (off : Nat) (agg : Option Nat) (x : OdT) : OdT := fun a => Option.rec (motive := fun _ => Option AV) none (fun v => match v with
    | .agg l => partAV agg l off
    | _ => none) (x a)
noncomputable def qIdxSl (sz : Nat) (x i : OdT) : OdT := fun a => Option.rec (motive := fun _ => Option AV) none (fun v => match v with
    | .slice b off len sz' _ => Option.rec (motive := fun _ => Option AV) none (fun j => Option.rec (motive := fun _ => Option AV) none (fun k => Bool.rec (motive := fun _ => Option AV) none (some (.ptr b (Nat.add off (Nat.mul k sz)))) (Nat.beq sz sz')) (idxNat j len)) (i a)
    | _ => none) (x a)
noncomputable def qExtract (i : Nat) (x : OdT) : OdT := fun a => Option.rec (motive := fun _ => Option AV) none (fun v => match v with
    | .tup l => nth l i
    | _ => none) (x a)
noncomputable def qLenSl (x : OdT) : OdT := fun a => Option.rec (motive := fun _ => Option AV) none (fun v => match v with
    | .slice _ _ len _ _ => some (.int .i64 len)
    | .nils => some (.int .i64 0)
    | .empt => some (.int .i64 0)
    | _ => none) (x a)
noncomputable def qNil (x : OdT) : OdT := fun a => Option.rec (motive := fun _ => Option AV) none (fun v => match v with
    | .ptr b off => some (.ptr b off)
    | .fn f u v => some (.fn f u v)
    | .iface t v => some (.iface t v)
    | .slice b off len sz cap => some (.slice b off len sz cap)
    | _ => none) (x a)
noncomputable def clEvs (l : List Od) : Env → Option (List AV) := match l with
  | [] => fun _ => some []
  | x :: l => fun a => Option.rec (motive := fun _ => Option (List AV)) none (fun v => Option.rec (motive := fun _ => Option (List AV)) none (fun vs => some (v :: vs)) (clEvs l a)) (clD x a)
def eNil : Env → Option (List AV) := fun _ => some []
noncomputable def eCons (x : OdT) (l : Env → Option (List AV)) : Env → Option (List AV) := fun a => Option.rec (motive := fun _ => Option (List AV)) none (fun v => Option.rec (motive := fun _ => Option (List AV)) none (fun vs => some (v :: vs)) (l a)) (x a)
noncomputable def clArgs : List Od → Env → Option (List AV)
  | [] => eNil
  | x :: l => eCons (clD x) (clArgs l)
theorem clArgs_eq (a : Env) : ∀ (l : List Od), clArgs l a = evs a l
  | [] => rfl
  | x :: l => by
    simp only [clArgs, eCons, evs, clD_eq, clArgs_eq a l]
    cases x.ev a with
    | none => rfl
    | some v => cases evs a l <;> rfl

/-! ### one behind the other -/
def rNil : RegT := fun _ a h k => k a h
noncomputable def rE (put : PutT) (q : OdT) (r : RegT) : RegT := fun call a h k => Option.rec (motive := fun _ => Ans) none (fun v => r call (put a v) h k) (q a)
noncomputable def rQ (put : PutT) (q : Env → AH → Option AV) (r : RegT) : RegT := fun call a h k => Option.rec (motive := fun _ => Ans) none (fun v => r call (put a v) h k) (q a h)
noncomputable def rW (put : PutT) (o : EOp) (r : RegT) : RegT := fun call a h k => Option.rec (motive := fun _ => Ans) none (fun p => Prod.rec (motive := fun _ => Ans) (fun v h' => r call (put a v) h' k) p) (evW o a h)
noncomputable def rC (put : PutT) (o : EOp) (r : RegT) : RegT := fun call a h k => Option.rec (motive := fun _ => Ans) none (fun p => Prod.rec (motive := fun _ => Ans) (fun f vs => Option.rec (motive := fun _ => Ans) none (fun p => Prod.rec (motive := fun _ => Ans) (fun v h' => r call (put a v) h' k) p) (call f vs h)) p) (evC o a)
noncomputable def rF (put : PutT) (f : FuncId) (as : Env → Option (List AV)) (r : RegT) : RegT := fun call a h k => Option.rec (motive := fun _ => Ans) none (fun vs => Option.rec (motive := fun _ => Ans) none (fun p => Prod.rec (motive := fun _ => Ans) (fun v h' => r call (put a v) h' k) p) (call f vs h)) (as a)
noncomputable def rG (g : OdT) (want : Bool) (put : PutT) (o : RegT → RegT) (r : RegT) : RegT := fun call a h k => Option.rec (motive := fun _ => Ans) none (fun v => match v with
    | .bool b => Bool.rec (motive := fun _ => Ans) (r call (put a .undef) h k) (o r call a h k) (cond want b (!b))
    | _ => r call (put a .undef) h k) (g a)

noncomputable def clO (put : PutT) (o : EOp) : RegT → RegT := match o with
  | .mov x => rE put (clD x)
  | .pick c x y => rE put (qPick (clD c) (clD x) (clD y))
  | .load none x => rQ put (qLoad (clD x))
  | .load (some n) x => rQ put (qLoadN n (clD x))
  | .nilCheck x => rE put (qNil (clD x))
  | .bin op m x y => rE put (qBin (clBin op m) (clD x) (clD y))
  | .fieldAddr off x => rE put (qFieldAddr off (clD x))
  | .field off agg x => rE put (qField off agg (clD x))
  | .idxSl sz x i => rE put (qIdxSl sz (clD x) (clD i))
  | .extract i x => rE put (qExtract i (clD x))
  | .lenSl x => rE put (qLenSl (clD x))
  | .callF f xs => rF put f (clArgs xs)
  | o => cond o.quiet (rQ put (evQ o)) (cond o.isCall (rC put o) (rW put o))

def andThen (x : Option (AV × AH)) (f : AV → AH → Ans) : Ans := match x with
  | some (v, h') => f v h'
  | none => none

theorem clO_eq (put : PutT) (o : EOp) (r : RegT) (call : Caller) (a : Env) (h : AH) (k : Env → AH → Ans) : clO put o r call a h k = andThen (evO call o a h) (fun v h' => r call (put a v) h' k) := by
  cases o
  case mov x => simp only [clO, rE, evO, EOp.quiet, cond_true, evQ, clD_eq]; cases x.ev a <;> rfl
  case pick c x y =>
    simp only [clO, rE, evO, EOp.quiet, cond_true, evQ, clD_eq, qPick]
    cases c.ev a with
    | none => rfl
    | some v =>
      cases v <;> try rfl
      rename_i b
      cases b
      · simp only []
        cases y.ev a <;> rfl
      · simp only []
        cases x.ev a <;> rfl
  case load agg x =>
    cases agg <;> simp only [clO, rQ, evO, EOp.quiet, cond_true, evQ, clD_eq, qLoad, qLoadN]
    · cases x.ev a with
      | none => rfl
      | some v =>
        cases v <;> try rfl
        rename_i b off
        simp only []
        cases getCell h b off <;> rfl
    · rename_i n
      cases x.ev a with
      | none => rfl
      | some v =>
        cases v <;> try rfl
        rename_i b off
        simp only []
        cases getCells h b off n <;> rfl
  case nilCheck x =>
    simp only [clO, rE, evO, EOp.quiet, cond_true, evQ, clD_eq, qNil]
    cases x.ev a with
    | none => rfl
    | some v => cases v <;> rfl
  case bin op m x y =>
    simp only [clO, rE, evO, EOp.quiet, cond_true, evQ, clD_eq, qBin, clBin_eq]
    cases x.ev a with
    | none => rfl
    | some u =>
      cases y.ev a with
      | none => rfl
      | some v =>
        simp only []
        cases binAV op m u v <;> rfl
  case fieldAddr off x =>
    simp only [clO, rE, evO, EOp.quiet, cond_true, evQ, clD_eq, qFieldAddr]
    cases x.ev a with
    | none => rfl
    | some v => cases v <;> rfl
  case field off agg x =>
    simp only [clO, rE, evO, EOp.quiet, cond_true, evQ, clD_eq, qField]
    cases x.ev a with
    | none => rfl
    | some v =>
      cases v <;> try rfl
      rename_i l
      simp only []
      cases partAV agg l off <;> rfl
  case idxSl sz x i =>
    simp only [clO, rE, evO, EOp.quiet, cond_true, evQ, clD_eq, qIdxSl]
    cases x.ev a with
    | none => rfl
    | some v =>
      cases v <;> try (cases i.ev a <;> rfl)
      rename_i b off len sz' cap
      cases i.ev a with
      | none => rfl
      | some j =>
        simp only []
        cases idxNat j len with
        | none => rfl
        | some k =>
          simp only []
          cases Nat.beq sz sz' <;> rfl
  case extract i x =>
    simp only [clO, rE, evO, EOp.quiet, cond_true, evQ, clD_eq, qExtract]
    cases x.ev a with
    | none => rfl
    | some v =>
      cases v <;> try rfl
      rename_i l
      simp only []
      cases nth l i <;> rfl
  case lenSl x =>
    simp only [clO, rE, evO, EOp.quiet, cond_true, evQ, clD_eq, qLenSl]
    cases x.ev a with
    | none => rfl
    | some v => cases v <;> rfl
  case callF f xs =>
    simp only [clO, rF, evO, EOp.quiet, EOp.isCall, cond_false, cond_true, evC, clArgs_eq]
    cases evs a xs with
    | none => rfl
    | some vs =>
      simp only []
      cases call f vs h <;> rfl
  all_goals first
    | (simp only [clO, EOp.quiet, cond_true, rQ, evO]
       generalize evQ _ a h = z
       cases z <;> rfl)
    | (simp only [clO, EOp.quiet, EOp.isCall, cond_true, cond_false, rC, evO]
       generalize evC _ a = z
       cases z with
       | none => rfl
       | some p =>
         obtain ⟨f, vs⟩ := p
         simp only []
         cases call f vs h <;> rfl)
    | (simp only [clO, EOp.quiet, EOp.isCall, cond_false, rW, evO]
       generalize evW _ a h = z
       cases z <;> rfl)

noncomputable def clPut (d : Option Nat) : PutT := match d with
  | some d => sput d
  | none => noput
theorem clPut_eq (d : Option Nat) (a : Env) (v : AV) : clPut d a v = putE a d v := by
  cases d with
  | none => rfl
  | some d => exact sp_eq _ _ _ _
noncomputable def clOper (o : EOper) : RegT → RegT := match o.guard with
  | none => clO (clPut o.dst) o.op
  | some (t, want) => rG (slot t) want (clPut o.dst) (clO (clPut o.dst) o.op)
def andOps (x : Option (Env × AH)) (f : Env → AH → Ans) : Ans := match x with
  | some (a, h') => f a h'
  | none => none
theorem clOper_eq (o : EOper) (r : RegT) (call : Caller) (a : Env) (h : AH) (k : Env → AH → Ans) : clOper o r call a h k = andOps (evOper call o a h) (fun a' h' => r call a' h' k) := by
  unfold clOper evOper
  cases hg : o.guard with
  | none =>
    simp only [guardE, clO_eq, clPut_eq]
    cases evO call o.op a h <;> rfl
  | some tw =>
    obtain ⟨t, want⟩ := tw
    simp only [rG, guardE, clO_eq, clPut_eq, slot]
    rw [gp_eq _ _ _ (by omega)]
    cases a.get t with
    | none => rfl
    | some v =>
      cases v <;> try rfl
      rename_i b
      cases b <;> cases want <;> simp only [cond_true, cond_false, Bool.not_true, Bool.not_false] <;> first | rfl | (cases evO call o.op a h <;> rfl)

noncomputable def clOps : List EOper → RegT
  | [] => rNil
  | o :: l => clOper o (clOps l)
theorem clOps_eq (call : Caller) (k : Env → AH → Ans) : ∀ (l : List EOper) (a : Env) (h : AH), clOps l call a h k = andOps (evOps call l a h) k
  | [], _, _ => rfl
  | o :: l, a, h => by
    simp only [clOps, evOps, clOper_eq]
    cases evOper call o a h with
    | none => rfl
    | some p => exact clOps_eq call k l _ _

/-! ### code -/
noncomputable def evRun (draw : DrawT) (n : Nat) (call : Caller) : Nat → EC → Env → AH → Res
  | 0 => fun _ _ _ => none
  | d + 1 => evStep n call (evRun draw n call d) (draw call)

def labs : EC → List (Nat × EC)
  | .seq a b => (labs a).map (fun p => (p.1, EC.seq p.2 b)) ++ labs b
  | .label l => [(l, .skip)]
  | _ => []
def look {α : Type} (l : Nat) : List (Nat × α) → Option α
  | [] => none
  | (k, x) :: r => cond (Nat.beq k l) (some x) (look l r)
theorem look_append {α : Type} (l : Nat) : ∀ (x y : List (Nat × α)), look l (x ++ y) = match look l x with | some v => some v | none => look l y
  | [], y => rfl
  | (k, v) :: x, y => by
    simp only [List.cons_append, look]
    cases Nat.beq k l
    · exact look_append l x y
    · rfl
theorem look_map {α β : Type} (l : Nat) (f : α → β) : ∀ (x : List (Nat × α)), look l (x.map fun p => (p.1, f p.2)) = (look l x).map f
  | [] => rfl
  | (k, v) :: x => by
    simp only [List.map_cons, look]
    cases Nat.beq k l
    · exact look_map l f x
    · rfl
theorem findL_labs (l : Nat) : ∀ (c : EC), findL c l = look l (labs c)
  | .seq a b => by
    simp only [findL, labs, look_append, look_map l (fun x => EC.seq x b), findL_labs l a, findL_labs l b]
    cases look l (labs a) <;> rfl
  | .label k => by
    simp only [findL, labs, look]
  | .skip | .region _ | .draw _ _ | .cond _ _ _ | .block _ _ | .loop _ | .scope _ | .exit _ | .goto _ | .ret | .bad => rfl

def cNorm : RunT := fun _ _ a h k _ => k a h
def cEnd (x : AX) : RunT := fun _ _ a h _ e => e x a h
def cNone : RunT := fun _ _ _ _ _ _ => none
def cReg (o : RegT) : RunT := fun _ call a h k _ => o call a h k
noncomputable def cDraw (draw : DrawT) (es : List EOper) (ms : List Nat) : RunT := fun _ call a h k _ => Option.rec (motive := fun _ => Ans) none (fun p => Prod.rec (motive := fun _ => Ans) (fun a' h' => k a' h') p) (draw call es ms a h)
def cCalm (n : Nat) (o : RegT) : RunT := fun _ call a h k _ => o call a ⟨h.objs, Nat.add h.next n⟩ k
def cSeq (x y : RunT) : RunT := fun n call a h k e => x n call a h (fun a' h' => y n call a' h' k e) e
noncomputable def cIf (c : OdT) (x y : RunT) : RunT := fun n call a h k e => Option.rec (motive := fun _ => Ans) none (fun v => match v with
    | .bool b => Bool.rec (motive := fun _ => Ans) (y n call a h k e) (x n call a h k e) b
    | _ => none) (c a)
noncomputable def cBlock (id : Nat) (x : RunT) : RunT := fun n call a h k e => x n call a h k (fun ex a' h' => AX.rec (motive := fun _ => Ans) (k a' h') (fun id' => Bool.rec (motive := fun _ => Ans) (e ex a' h') (k a' h') (Nat.beq id' id)) (fun _ => e ex a' h') (e ex a' h') ex)
noncomputable def loopT (x : RunT) (m : Nat) (call : Caller) (n : Nat) : Env → AH → (Env → AH → Ans) → (AX → Env → AH → Ans) → Ans :=
  Nat.rec (motive := fun _ => Env → AH → (Env → AH → Ans) → (AX → Env → AH → Ans) → Ans) (fun _ _ _ _ => none) (fun _ ih a h k e => x m call a h (fun a' h' => ih a' h' k e) e) n
noncomputable def cLoop (x : RunT) : RunT := fun n call a h k e => loopT x n call n a h k e
noncomputable def scopeT (tab : Nat → Option RunT) (m : Nat) (call : Caller) (n : Nat) : RunT → Env → AH → (Env → AH → Ans) → (AX → Env → AH → Ans) → Ans :=
  Nat.rec (motive := fun _ => RunT → Env → AH → (Env → AH → Ans) → (AX → Env → AH → Ans) → Ans) (fun _ _ _ _ _ => none)
    (fun _ ih x a h k e => x m call a h k (fun ex a' h' => AX.rec (motive := fun _ => Ans) (e ex a' h') (fun _ => e ex a' h') (fun l => Option.rec (motive := fun _ => Ans) (e ex a' h') (fun y => ih y a' h' k e) (tab l)) (e ex a' h') ex)) n
noncomputable def cScope (tab : Nat → Option RunT) (x : RunT) : RunT := fun n call a h k e => scopeT tab n call n x a h k e

noncomputable def cl (draw : DrawT) : Nat → EC → RunT
  | 0 => fun _ => cNone
  | d + 1 => fun c => match c with
    | .skip => cNorm
    | .label _ => cNorm
    | .region ops => cReg (clOps ops)
    | .draw es ms => cond (calm es ms) (cCalm es.length (clOps es)) (cDraw draw es ms)
    | .seq x y => cSeq (cl draw d x) (cl draw d y)
    | .cond c x y => cIf (clD c) (cl draw d x) (cl draw d y)
    | .block id b => cBlock id (cl draw d b)
    | .loop b => cLoop (cl draw d b)
    | .scope b => cScope (fun l => look l ((labs b).map fun p => (p.1, cl draw d p.2))) (cl draw d b)
    | .exit id => cEnd (.exit id)
    | .goto l => cEnd (.goto l)
    | .ret => cEnd .ret
    | .bad => cNone

/-- What comes behind, by how it ended. -/
def thenK (r : Res) (k : Env → AH → Ans) (e : AX → Env → AH → Ans) : Ans := match r with
  | some (.normal, a, h) => k a h
  | some (x, a, h) => e x a h
  | none => none

def CalmD (draw : DrawT) : Prop := ∀ (call : Caller) (es : List EOper) (ms : List Nat) (a : Env) (h : AH), calm es ms = true → draw call es ms a h = evOps call es a { h with next := h.next + es.length }

theorem cl_eq {draw : DrawT} (hd : CalmD draw) (n : Nat) (call : Caller) : ∀ (d : Nat) (c : EC) (a : Env) (h : AH) (k : Env → AH → Ans) (e : AX → Env → AH → Ans), cl draw d c n call a h k e = thenK (evRun draw n call d c a h) k e
  | 0, c, a, h, k, e => rfl
  | d + 1, c, a, h, k, e => by
    have ih := cl_eq hd n call d
    cases c with
    | skip => rfl
    | label => rfl
    | region ops =>
      simp only [cl, cReg, evRun, evStep, clOps_eq]
      cases evOps call ops a h <;> rfl
    | draw es ms =>
      cases hc : calm es ms with
      | false =>
        simp only [cl, hc, cond_false, cDraw, evRun, evStep]
        cases draw call es ms a h <;> rfl
      | true =>
        simp only [cl, hc, cond_true, cCalm, evRun, evStep, hd call es ms a h hc]
        have : (⟨h.objs, Nat.add h.next es.length⟩ : AH) = { h with next := h.next + es.length } := rfl
        rw [this, clOps_eq]
        cases evOps call es a { h with next := h.next + es.length } <;> rfl
    | seq x y =>
      simp only [cl, cSeq, evRun, evStep, ih]
      cases evRun draw n call d x a h with
      | none => rfl
      | some p =>
        obtain ⟨x, a', h'⟩ := p
        cases x <;> rfl
    | cond c x y =>
      simp only [cl, cIf, evRun, evStep, ih, clD_eq]
      cases c.ev a with
      | none => rfl
      | some v =>
        cases v <;> try rfl
        rename_i b
        cases b <;> rfl
    | block id b =>
      simp only [cl, cBlock, evRun, evStep, ih]
      cases evRun draw n call d b a h with
      | none => rfl
      | some p =>
        obtain ⟨x, a', h'⟩ := p
        cases x <;> try rfl
        rename_i id'
        simp only [thenK]
        cases Nat.beq id' id <;> rfl
    | loop b =>
      simp only [cl, cLoop, evRun, evStep]
      have key : ∀ (m : Nat) (a : Env) (h : AH), loopT (cl draw d b) n call m a h k e = thenK (loopRun (evRun draw n call d) b m a h) k e := by
        intro m
        induction m with
        | zero => intro a h; rfl
        | succ m ihm =>
          intro a h
          have : loopT (cl draw d b) n call (m + 1) a h k e = cl draw d b n call a h (fun a' h' => loopT (cl draw d b) n call m a' h' k e) e := rfl
          rw [this, ih]
          simp only [loopRun]
          cases evRun draw n call d b a h with
          | none => rfl
          | some p =>
            obtain ⟨x, a', h'⟩ := p
            cases x <;> try rfl
            exact ihm a' h'
      exact key n a h
    | scope b =>
      simp only [cl, cScope, evRun, evStep]
      have key : ∀ (m : Nat) (c : EC) (a : Env) (h : AH), scopeT (fun l => look l ((labs b).map fun p => (p.1, cl draw d p.2))) n call m (cl draw d c) a h k e = thenK (scopeRun (evRun draw n call d) b m c a h) k e := by
        intro m
        induction m with
        | zero => intro c a h; rfl
        | succ m ihm =>
          intro c a h
          have : ∀ (tab : Nat → Option RunT), scopeT tab n call (m + 1) (cl draw d c) a h k e = cl draw d c n call a h k (fun ex a' h' => AX.rec (motive := fun _ => Ans) (e ex a' h') (fun _ => e ex a' h') (fun l => Option.rec (motive := fun _ => Ans) (e ex a' h') (fun y => scopeT tab n call m y a' h' k e) (tab l)) (e ex a' h') ex) := fun _ => rfl
          rw [this, ih]
          simp only [scopeRun]
          cases evRun draw n call d c a h with
          | none => rfl
          | some p =>
            obtain ⟨x, a', h'⟩ := p
            cases x <;> try rfl
            rename_i l
            simp only [findL_labs, look_map l (cl draw d), thenK]
            cases look l (labs b) with
            | none => rfl
            | some rest => exact ihm rest a' h'
      exact key n b a h
    | exit => rfl
    | goto => rfl
    | ret => rfl
    | bad => rfl

/-! ### calls -/
structure FT where
  ntmps : Nat
  run : RunT
  results : List (Nat × Option (Option Nat))
noncomputable def clF (draw : DrawT) (ef : EF) : FT := ⟨ef.ntmps, cl draw 100 ef.body, ef.results⟩

noncomputable def retT (rs : List (Nat × Option (Option Nat))) : Env → AH → Ans := fun a h => Option.rec (motive := fun _ => Ans) none (fun vs => some (tupE vs, h)) (resultsE a h rs)
noncomputable def retX (rs : List (Nat × Option (Option Nat))) : AX → Env → AH → Ans := fun x a h => AX.rec (motive := fun _ => Ans) none (fun _ => none) (fun _ => none) (retT rs a h) x
noncomputable def callC (T : FuncId → Option FT) (X : Ext) (n : Nat) : Caller :=
  Nat.rec (motive := fun _ => Caller) (fun _ _ _ => none) (fun n ih f args h =>
    Option.rec (motive := fun _ => Ans) (Option.rec (motive := fun _ => Ans) none (fun ft => Bool.rec (motive := fun _ => Ans) none (ft.run n ih (initE 0 args .e) h (retT ft.results) (retX ft.results)) (Nat.ble args.length ft.ntmps)) (T f))
      (fun c => c ih args h) (X f)) n

theorem evRun_sound {P : Program} {draw : DrawT} {call : Caller} (hcall : CallS P call) (hdraw : DrawS P (draw call)) (n : Nat) : ∀ d, RunS P (evRun draw n call d)
  | 0 => by intro N c a h x a' h' he; simp [evRun] at he
  | d + 1 => evStep_sound hcall (evRun_sound hcall hdraw n d) hdraw

/-- The table is of the program's functions. -/
def TabOK (P : Program) (draw : DrawT) (T : FuncId → Option FT) : Prop := ∀ f ft, T f = some ft → ∃ fn ef, P.funcs[f]? = some fn ∧ compF P fn = some ef ∧ ft = clF draw ef

theorem callC_sound {P : Program} {T : FuncId → Option FT} {X : Ext} {draw : DrawT} (hT : TabOK P draw T) (hX : ExtOK P X) (hdraw : ∀ call, CallS P call → DrawS P (draw call)) (hcd : CalmD draw) : ∀ n, CallS P (callC T X n)
  | 0 => by intro f vs h v h' he; simp [callC] at he
  | n + 1 => by
    have ih := callC_sound hT hX hdraw hcd n
    have hrun := evRun_sound ih (hdraw _ ih) n 100
    let T0 : FuncId → Option EF := fun f => match T f with
      | some _ => (P.funcs[f]?).bind (compF P)
      | none => none
    have hT0 : TOK P T0 := by
      intro f ef he
      simp only [T0] at he
      split at he
      · obtain ⟨fn, h1, h2⟩ := Option.bind_eq_some_iff.1 he
        exact ⟨fn, h1, h2⟩
      · cases he
    have := callStep_sound hT0 hX hrun ih
    intro f vs h v h' he
    refine this f vs h v h' ?_
    rw [← he]
    have hstep : callC T X (n + 1) f vs h = Option.rec (motive := fun _ => Ans) (Option.rec (motive := fun _ => Ans) none (fun ft => Bool.rec (motive := fun _ => Ans) none (ft.run n (callC T X n) (initE 0 vs .e) h (retT ft.results) (retX ft.results)) (Nat.ble vs.length ft.ntmps)) (T f))
      (fun c => c (callC T X n) vs h) (X f) := rfl
    rw [hstep]
    simp only [callStep]
    cases X f with
    | some c => rfl
    | none =>
      simp only []
      cases hTf : T f with
      | none => simp only [T0, hTf]
      | some ft =>
        obtain ⟨fn, ef, h1, h2, rfl⟩ := hT f ft hTf
        have : T0 f = some ef := by simp only [T0, hTf, h1, Option.bind_some, h2]
        simp only [this, clF, cl_eq hcd]
        cases Nat.ble vs.length ef.ntmps with
        | false => rfl
        | true =>
          simp only [cond_true]
          cases evRun draw n (callC T X n) 100 ef.body (initE 0 vs .e) h with
          | none => rfl
          | some p =>
            obtain ⟨x, a, h2⟩ := p
            cases x <;> simp only [thenK, retX, retT] <;> first | rfl | (cases resultsE a h2 ef.results <;> rfl)

end Go.Ev
end PEvG
/- Joins and loops that are told their live slots alone. -/
section PEvJ
set_option linter.unusedVariables false
namespace Go.Ev

abbrev Kt := Env → AH → Ans
@[reducible] def Fn : Nat → Type
  | 0 => AH → Ans
  | k + 1 => AV → Fn k
noncomputable def oB (x : Option AV) (f : AV → Ans) : Ans := Option.rec (motive := fun _ => Ans) none f x
def noF : (k : Nat) → Fn k
  | 0 => fun _ => none
  | k + 1 => fun _ => noF k
def jnF (k : Nat) (J : Fn k) (b : Fn k → Ans) : Ans := b J
noncomputable def lpF (k : Nat) (n : Nat) (B : Fn k → Fn k) : Fn k := Nat.rec (motive := fun _ => Fn k) (noF k) (fun _ ih => B ih) n
noncomputable def cur : (L : List Nat) → Kt → Env → Fn L.length
  | [], J, a => fun h => J a h
  | s :: L, J, a => fun x => cur L J (sput s a x)
noncomputable def app : (L : List Nat) → Fn L.length → Kt
  | [], f => fun _ h => f h
  | s :: L, f => fun a h => Option.rec (motive := fun _ => Ans) none (fun x => app L (f x) a h) (slot s a)
noncomputable def drF (x : Option (Env × AH)) (L : List Nat) (J : Fn L.length) : Ans := Option.rec (motive := fun _ => Ans) none (fun p => Prod.rec (motive := fun _ => Ans) (fun a' h' => app L J a' h') p) x

noncomputable def jnK (L : List Nat) (J : Kt) (b : Kt → Ans) : Ans := jnF L.length (cur L J .e) (fun f => b (app L f))
noncomputable def lpK (L : List Nat) (n : Nat) (B : Kt → Kt) : Kt := app L (lpF L.length n (fun f => cur L (B (app L f)) .e))
noncomputable def drK (x : Option (Env × AH)) (L : List Nat) (a : Env) (J : Kt) : Ans := drF x L (cur L J a)

/-! ### what they are -/
/-- The slots' values, if all are there. -/
def getsE (a : Env) : List Nat → Option (List AV)
  | [] => some []
  | i :: l => match a.get i with
    | some v => match getsE a l with
      | some vs => some (v :: vs)
      | none => none
    | none => none
def mkE : List Nat → List AV → Env → Env
  | i :: l, v :: vs, a => mkE l vs (a.set i (some v))
  | _, _, a => a
/-- What comes behind, told of these slots anew. -/
def kq (L : List Nat) (b : Env) (J : Kt) : Kt := fun a h => match getsE a L with
  | some vs => J (mkE L vs b) h
  | none => none
theorem slot_eq (k : Nat) (a : Env) : slot k a = a.get k := gp_eq _ _ _ (by omega)
theorem sput_eq (k : Nat) (a : Env) (v : AV) : sput k a v = a.set k (some v) := sp_eq _ _ _ _
theorem app_cur : ∀ (L : List Nat) (J : Kt) (b : Env) (a : Env) (h : AH), app L (cur L J b) a h = kq L b J a h
  | [], J, b, a, h => rfl
  | s :: L, J, b, a, h => by
    simp only [app, cur, kq, getsE, slot_eq, sput_eq]
    cases a.get s with
    | none => rfl
    | some x =>
      show app L (cur L J (b.set s (some x))) a h = _
      rw [app_cur L J]
      simp only [kq]
      cases getsE a L <;> rfl
theorem app_no : ∀ (L : List Nat) (a : Env) (h : AH), app L (noF L.length) a h = none
  | [], _, _ => rfl
  | s :: L, a, h => by
    simp only [app]
    cases slot s a with
    | none => rfl
    | some x => exact app_no L a h
noncomputable def lpG (L : List Nat) (B : Kt → Kt) (n : Nat) : Kt :=
  Nat.rec (motive := fun _ => Kt) (fun _ _ => none) (fun _ ih => kq L .e (B ih)) n
noncomputable def drG (x : Option (Env × AH)) (L : List Nat) (a : Env) (J : Kt) : Ans := match x with
  | some (a', h') => kq L a J a' h'
  | none => none
theorem jnE (L : List Nat) (J : Kt) (b : Kt → Ans) : jnK L J b = b (kq L .e J) := by
  show b (app L (cur L J .e)) = _
  congr 1; funext a h; exact app_cur L J .e a h
theorem lpE (L : List Nat) (B : Kt → Kt) : ∀ (n : Nat) (a : Env) (h : AH), lpK L n B a h = lpG L B n a h
  | 0, a, h => app_no L a h
  | n + 1, a, h => by
    have ih : lpK L n B = lpG L B n := by funext a h; exact lpE L B n a h
    show app L (cur L (B (lpK L n B)) .e) a h = kq L .e (B (lpG L B n)) a h
    rw [app_cur, ih]
theorem drE (x : Option (Env × AH)) (L : List Nat) (a : Env) (J : Kt) : drK x L a J = drG x L a J := by
  cases x with
  | none => rfl
  | some p => exact app_cur L J a p.1 p.2

/-! ### annotated code -/
inductive EK where
  | skip
  | region (ops : List EOper)
  | draw (ops : List EOper) (ms : List Nat) (inn : List Nat)
  | seq (a b : EK)
  | cond (c : Od) (a b : EK) (J : Option (List Nat))
  | block (id : Nat) (b : EK) (L : Option (List Nat))
  | loop (b : EK) (L : List Nat)
  | scope (b : EK) (l : Nat) (L : List Nat)
  | exit (id : Nat)
  | label (l : Nat)
  | goto (l : Nat)
  | ret
  | bad
def EK.erase : EK → EC
  | .skip => .skip
  | .region ops => .region ops
  | .draw ops ms _ => .draw ops ms
  | .seq a b => .seq a.erase b.erase
  | .cond c a b _ => .cond c a.erase b.erase
  | .block id b _ => .block id b.erase
  | .loop b _ => .loop b.erase
  | .scope b _ _ => .scope b.erase
  | .exit id => .exit id
  | .label l => .label l
  | .goto l => .goto l
  | .ret => .ret
  | .bad => .bad
def findK : EK → Nat → Option EK
  | .seq a b, l =>
    match findK a l with
    | some rest => some (.seq rest b)
    | none => findK b l
  | .label l', l => cond (Nat.beq l' l) (some .skip) none
  | _, _ => none
theorem findK_erase : ∀ (c : EK) (l : Nat), findL c.erase l = (findK c l).map EK.erase
  | .seq a b, l => by
    simp only [EK.erase, findL, findK, findK_erase a l, findK_erase b l]
    cases findK a l <;> rfl
  | .label l', l => by
    simp only [EK.erase, findL, findK]
    cases Nat.beq l' l <;> rfl
  | .skip, _ | .region _, _ | .draw .., _ | .cond .., _ | .block .., _ | .loop .., _ | .scope .., _ | .exit _, _ | .goto _, _ | .ret, _ | .bad, _ => rfl

/-! ### operations with a guard, told once what comes behind -/
noncomputable def gQ (g : Option AV) (want : Bool) (x : Option AV) : Option AV := Option.rec (motive := fun _ => Option AV) none (fun v => match v with
    | .bool b => Bool.rec (motive := fun _ => Option AV) (some .undef) x (cond want b (!b))
    | _ => some .undef) g
noncomputable def gW (g : Option AV) (want : Bool) (x : Option (AV × AH)) (h : AH) : Option (AV × AH) := Option.rec (motive := fun _ => Option (AV × AH)) none (fun v => match v with
    | .bool b => Bool.rec (motive := fun _ => Option (AV × AH)) (some (.undef, h)) x (cond want b (!b))
    | _ => some (.undef, h)) g
noncomputable def oP (x : Option (AV × AH)) (f : AV → AH → Ans) : Ans := Option.rec (motive := fun _ => Ans) none (fun p => Prod.rec (motive := fun _ => Ans) (fun v h' => f v h') p) x
/-- What an operation yields, apart from what comes behind. -/
noncomputable def qOf (o : EOp) (a : Env) (h : AH) : Option AV := match o with
  | .bin op m x y => qBin (clBin op m) (clD x) (clD y) a
  | o => evQ o a h
theorem qOf_eq (o : EOp) (a : Env) (h : AH) : qOf o a h = evQ o a h := by
  cases o <;> try rfl
  simp only [qOf, qBin, evQ, clD_eq, clBin_eq]
  rename_i op m x y
  cases x.ev a with
  | none => rfl
  | some u => cases y.ev a <;> rfl
noncomputable def wOf (o : EOp) (call : Caller) (a : Env) (h : AH) : Option (AV × AH) := match o with
  | .callF f xs => Option.rec (motive := fun _ => Option (AV × AH)) none (fun vs => call f vs h) (clArgs xs a)
  | o => cond o.isCall (Option.rec (motive := fun _ => Option (AV × AH)) none (fun p => Prod.rec (motive := fun _ => Option (AV × AH)) (fun f vs => call f vs h) p) (evC o a)) (evW o a h)
theorem wOf_eq (o : EOp) (hq : o.quiet = false) (call : Caller) (a : Env) (h : AH) : wOf o call a h = evO call o a h := by
  unfold evO
  rw [hq]
  simp only [cond_false]
  cases o
  case callF f xs =>
    simp only [wOf, clArgs_eq, EOp.isCall, cond_true, evC]
    cases evs a xs <;> rfl
  all_goals first
    | (simp only [wOf, EOp.isCall, cond_false]; done)
    | (simp only [wOf, EOp.isCall, cond_true]
       generalize evC _ a = z
       cases z with
       | none => rfl
       | some p => rfl)
/-- A plain taking over is done at once. -/
noncomputable def oBq (op : EOp) (x : Option AV) (f : AV → Ans) : Ans := match op with
  | .mov _ => Option.rec (motive := fun _ => Ans) none f x
  | _ => oB x f
theorem oBq_eq (op : EOp) (x : Option AV) (f : AV → Ans) : oBq op x f = oB x f := by cases op <;> rfl
noncomputable def oBg (g : Option (Nat × Bool)) (op : EOp) (x : Option AV) (f : AV → Ans) : Ans := match g with
  | none => oBq op x f
  | some _ => oB x f
theorem oBg_eq (g : Option (Nat × Bool)) (op : EOp) (x : Option AV) (f : AV → Ans) : oBg g op x f = oB x f := by
  cases g with
  | none => exact oBq_eq _ _ _
  | some _ => rfl
noncomputable def kO (o : EOper) : RegT → RegT := match o.guard with
  | none => cond o.op.quiet
    (fun r call a h k => oBq o.op (qOf o.op a h) fun v => r call (clPut o.dst a v) h k)
    (fun r call a h k => oP (wOf o.op call a h) fun v h' => r call (clPut o.dst a v) h' k)
  | some (t, want) => cond o.op.quiet
    (fun r call a h k => oB (gQ (slot t a) want (qOf o.op a h)) fun v => r call (clPut o.dst a v) h k)
    (fun r call a h k => oP (gW (slot t a) want (wOf o.op call a h) h) fun v h' => r call (clPut o.dst a v) h' k)
noncomputable def kOps : List EOper → RegT
  | [] => rNil
  | o :: l => kO o (kOps l)
theorem kO_eq (o : EOper) (r : RegT) (call : Caller) (a : Env) (h : AH) (k : Env → AH → Ans) : kO o r call a h k = andOps (evOper call o a h) (fun a' h' => r call a' h' k) := by
  unfold kO evOper
  cases hg : o.guard with
  | none =>
    cases hq : o.op.quiet with
    | true =>
      simp only [guardE, evO, hq, cond_true, oBq_eq, oB, qOf_eq, clPut_eq]
      cases evQ o.op a h <;> rfl
    | false =>
      simp only [guardE, cond_false, wOf_eq _ hq, clPut_eq]
      cases evO call o.op a h <;> rfl
  | some tw =>
    obtain ⟨t, want⟩ := tw
    cases hq : o.op.quiet with
    | true =>
      simp only [guardE, evO, hq, cond_true, oB, qOf_eq, clPut_eq, slot_eq]
      cases a.get t with
      | none => rfl
      | some v =>
        cases v <;> try rfl
        rename_i b
        cases b <;> cases want <;> simp only [gQ, cond_true, cond_false, Bool.not_true, Bool.not_false] <;> first | rfl | (cases evQ o.op a h <;> rfl)
    | false =>
      simp only [guardE, cond_false, wOf_eq _ hq, clPut_eq, slot_eq]
      cases a.get t with
      | none => rfl
      | some v =>
        cases v <;> try rfl
        rename_i b
        cases b <;> cases want <;> simp only [gW, cond_true, cond_false, Bool.not_true, Bool.not_false] <;> first | rfl | (cases evO call o.op a h <;> rfl)
theorem kOps_eq (call : Caller) (k : Env → AH → Ans) : ∀ (l : List EOper) (a : Env) (h : AH), kOps l call a h k = andOps (evOps call l a h) k
  | [], _, _ => rfl
  | o :: l, a, h => by
    simp only [kOps, evOps, kO_eq]
    cases evOper call o a h with
    | none => rfl
    | some p => exact kOps_eq call k l _ _

/-! ### drawn regions, told once what comes behind -/
noncomputable def gD (v : AV) (want : Bool) (f : Bool → Ans) : Ans := match v with
  | .bool b => f (cond want b (!b))
  | _ => f false
noncomputable def gdC (a : Env) (g : Option (Nat × Bool)) (f : Bool → Ans) : Ans := match g with
  | none => f true
  | some (t, want) => Option.rec (motive := fun _ => Ans) none (fun v => gD v want f) (slot t a)
/-- A new block, if it is wanted: its address and what it holds. -/
noncomputable def fl1 (wd : Bool) (x : Option (Option (Nat × Nat × Option Nat) × AO)) (b : Nat) (f : AV → Option AO → Ans) : Ans :=
  Bool.rec (motive := fun _ => Ans) (f .undef none) (Option.rec (motive := fun _ => Ans) none (fun p => Prod.rec (motive := fun _ => Ans) (fun mk o => f (mkF mk b) (some o)) p) x) wd
noncomputable def lay1 (b : Nat) (f : Option AO) (h : AH) : AH := Option.rec (motive := fun _ => AH) h (fun o => h.put b o) f
noncomputable def viewC (base : Nat) (p : Nat → Bool) : Nat → List Ent → AH → AH
  | _, [], h => h
  | i, e :: es, h => viewC base p (i + 1) es (cond (p i) (lay1 (base + i) e.f h) h)
noncomputable def ask1 (wd : Bool) (x : Option AV) (v : AV) (k : Ans) : Ans :=
  Bool.rec (motive := fun _ => Ans) k (Option.rec (motive := fun _ => Ans) none (fun u => Bool.rec (motive := fun _ => Ans) none k (AV.beq u v)) x) wd
noncomputable def askC (base : Nat) (ents : List Ent) (op : EOp) (m : Nat) (wd : Bool) (r : Env) (v : AV) : List (AH × Nat) → Ans → Ans
  | [], k => k
  | (h, ins) :: l, k => ask1 wd (qOf op r (viewC base (without m ins) 0 ents h)) v (askC base ents op m wd r v l k)
noncomputable def asksC (base : Nat) (s : DSt) (ms : List Nat) : List EOper → List Nat → List Ent → Nat → Ans → Ans
  | e :: es, m :: ml, en :: ens, i, k => cond e.op.reads (askC base s.ents e.op m en.chk en.r en.v ((s.stg.drop (least s.louds m)).take (greatest s.louds ms i + 1 - least s.louds m)) (asksC base s ms es ml ens (i + 1) k)) (asksC base s ms es ml ens (i + 1) k)
  | _, _, _, _, k => k
noncomputable def drawStepC (call : Caller) (base : Nat) (s : DSt) (e : EOper) (m : Nat) (k : DSt → Ans) : Ans :=
  gdC (restrict s.a (looks e)) e.guard fun wd => cond e.op.quiet
    (oBg e.guard e.op (cond wd (qOf e.op (restrict s.a (looks e)) (viewC base (without m s.ins) 0 s.ents s.h)) (some .undef)) fun v => k { s with a := clPut e.dst s.a v, ents := s.ents ++ [⟨restrict s.a (looks e), v, none, wd⟩] })
    (cond e.op.floats
      (fl1 wd (evF e.op (restrict s.a (looks e))) (base + s.ents.length) fun v f => k { s with a := clPut e.dst s.a v, ents := s.ents ++ [⟨restrict s.a (looks e), v, f, false⟩] })
      (cond (s.louds.all m.testBit)
        (oP (cond wd (wOf e.op call (restrict s.a (looks e)) (viewC base (without m s.ins) 0 s.ents s.h)) (some (.undef, viewC base (without m s.ins) 0 s.ents s.h))) fun v h' =>
          k { a := clPut e.dst s.a v, h := h', ins := m, louds := s.louds ++ [s.ents.length], ents := s.ents ++ [⟨restrict s.a (looks e), v, none, false⟩], stg := s.stg ++ [(h', m)] })
        none))
noncomputable def drawStepsC (call : Caller) (base : Nat) : List EOper → List Nat → DSt → (DSt → Ans) → Ans
  | [], _, s, k => k s
  | _ :: _, [], _, _ => none
  | e :: es, m :: ms, s, k => drawStepC call base s e m fun s' => drawStepsC call base es ms s' k
noncomputable def drawC (call : Caller) (es : List EOper) (ms : List Nat) (a : Env) (h : AH) (k : Kt) : Ans :=
  drawStepsC call h.next es ms ⟨a, ⟨h.objs, Nat.add h.next es.length⟩, 0, [], [], [(⟨h.objs, Nat.add h.next es.length⟩, 0)]⟩ fun s =>
    asksC h.next s ms es ms s.ents 0 (k s.a (viewC h.next (fun t => !s.ins.testBit t) 0 s.ents s.h))

theorem gdC_eq (a : Env) (g : Option (Nat × Bool)) (f : Bool → Ans) : gdC a g f = match guardE a g with
    | some w => f w
    | none => none := by
  cases g with
  | none => rfl
  | some tw =>
    obtain ⟨t, want⟩ := tw
    simp only [gdC, guardE, slot_eq]
    cases a.get t with
    | none => rfl
    | some v => cases v <;> rfl
theorem viewC_eq (base : Nat) (p : Nat → Bool) : ∀ (es : List Ent) (i : Nat) (h : AH), viewC base p i es h = view base p i es h
  | [], _, _ => rfl
  | e :: es, i, h => by
    simp only [viewC, view]
    rw [viewC_eq base p es]
    congr 1
    unfold lay lay1
    cases e.f <;> cases p i <;> rfl
theorem drawStepC_eq (call : Caller) (base : Nat) (s : DSt) (e : EOper) (m : Nat) (k : DSt → Ans) : drawStepC call base s e m k = match drawStep call base s e m with
    | some s' => k s'
    | none => none := by
  unfold drawStepC drawStep
  simp only [gdC_eq, viewC_eq, clPut_eq, oBg_eq]
  cases guardE (restrict s.a (looks e)) e.guard with
  | none => rfl
  | some wd =>
    simp only []
    cases hq : e.op.quiet with
    | true =>
      simp only [cond_true, qOf_eq]
      cases (cond wd (evQ e.op (restrict s.a (looks e)) (view base (without m s.ins) 0 s.ents s.h)) (some AV.undef)) <;> rfl
    | false =>
      simp only [cond_false, wOf_eq _ hq]
      cases hf : e.op.floats with
      | true =>
        simp only [cond_true]
        cases wd with
        | false => rfl
        | true =>
          simp only [cond_true, fl1]
          cases evF e.op (restrict s.a (looks e)) <;> rfl
      | false =>
        simp only [cond_false]
        cases s.louds.all m.testBit with
        | false => rfl
        | true =>
          simp only [cond_true]
          cases (cond wd (evO call e.op (restrict s.a (looks e)) (view base (without m s.ins) 0 s.ents s.h)) (some (AV.undef, view base (without m s.ins) 0 s.ents s.h))) <;> rfl
theorem drawStepsC_eq (call : Caller) (base : Nat) (k : DSt → Ans) : ∀ (es : List EOper) (ms : List Nat) (s : DSt), drawStepsC call base es ms s k = match drawSteps call base es ms s with
    | some s' => k s'
    | none => none
  | [], ms, s => by cases ms <;> rfl
  | e :: es, [], s => rfl
  | e :: es, m :: ms, s => by
    simp only [drawStepsC, drawSteps, drawStepC_eq]
    cases drawStep call base s e m with
    | none => rfl
    | some s' => exact drawStepsC_eq call base k es ms s'
/-- What is to be asked of was so once. -/
def OwnD (es : List EOper) (l : List Ent) : Prop := ∀ (i : Nat) (e : EOper) (en : Ent), es[i]? = some e → l[i]? = some en → en.chk = true → ∃ h, evQ e.op en.r h = some en.v
theorem OwnD.app {es : List EOper} {l : List Ent} (h : OwnD es l) {e : EOper} (he : es[l.length]? = some e) {en : Ent} (hn : en.chk = true → ∃ h, evQ e.op en.r h = some en.v) : OwnD es (l ++ [en]) := by
  intro i e' en' h1 h2 h3
  rcases Nat.lt_or_ge i l.length with hlt | hge
  · rw [List.getElem?_append_left hlt] at h2
    exact h i e' en' h1 h2 h3
  · rw [List.getElem?_append_right hge] at h2
    have : i - l.length = 0 := by
      rcases Nat.eq_zero_or_pos (i - l.length) with h | h
      · exact h
      · rw [List.getElem?_eq_none (by simp; omega)] at h2; cases h2
    rw [this] at h2
    simp at h2
    subst h2
    have hi : i = l.length := by omega
    subst hi
    rw [he] at h1
    simp at h1
    subst h1
    exact hn h3
theorem drawStep_own {call : Caller} {base : Nat} {es : List EOper} {s s' : DSt} {e : EOper} {m : Nat} (he : es[s.ents.length]? = some e) (ho : OwnD es s.ents) (hs : drawStep call base s e m = some s') : OwnD es s'.ents ∧ s'.ents.length = s.ents.length + 1 := by
  unfold drawStep at hs
  simp only [] at hs
  split at hs
  · cases hs
  · rename_i wd _
    cases hq : e.op.quiet with
    | true =>
      simp only [hq, cond_true] at hs
      split at hs
      · rename_i v hv
        simp only [Option.some.injEq] at hs
        subst hs
        refine ⟨ho.app he (fun hw => ?_), by simp⟩
        simp only [] at hw
        subst hw
        exact ⟨_, hv⟩
      · cases hs
    | false =>
      simp only [hq, cond_false] at hs
      cases hf : e.op.floats with
      | true =>
        simp only [hf, cond_true] at hs
        cases wd with
        | true =>
          simp only [cond_true] at hs
          split at hs
          · simp only [Option.some.injEq] at hs
            subst hs
            exact ⟨ho.app he (fun h => by cases h), by simp⟩
          · cases hs
        | false =>
          simp only [cond_false, Option.some.injEq] at hs
          subst hs
          exact ⟨ho.app he (fun h => by cases h), by simp⟩
      | false =>
        simp only [hf, cond_false] at hs
        cases hl : s.louds.all m.testBit with
        | false => simp [hl] at hs
        | true =>
          simp only [hl, cond_true] at hs
          split at hs
          · simp only [Option.some.injEq] at hs
            subst hs
            exact ⟨ho.app he (fun h => by cases h), by simp⟩
          · cases hs
theorem drawSteps_own {call : Caller} {base : Nat} {es0 : List EOper} : ∀ (es : List EOper) (ms : List Nat) (s s' : DSt), es0.drop s.ents.length = es → OwnD es0 s.ents → drawSteps call base es ms s = some s' → OwnD es0 s'.ents
  | [], ms, s, s', _, ho, hs => by
    have : drawSteps call base [] ms s = some s := by cases ms <;> rfl
    rw [this] at hs
    simp only [Option.some.injEq] at hs
    subst hs
    exact ho
  | e :: es, [], s, s', _, _, hs => by cases hs
  | e :: es, m :: ms, s, s', hd, ho, hs => by
    simp only [drawSteps] at hs
    split at hs
    · rename_i s1 h1
      have he : es0[s.ents.length]? = some e := by
        have := congrArg (·[0]?) hd
        simpa using this
      obtain ⟨g1, g2⟩ := drawStep_own he ho h1
      refine drawSteps_own es ms s1 s' ?_ g1 hs
      rw [g2, ← List.tail_drop, hd]
      rfl
    · cases hs
theorem askC_sound {base : Nat} {ents : List Ent} {e : EOp} {m : Nat} {r : Env} {v : AV} {k : Ans} {z : AV × AH} : ∀ {l : List (AH × Nat)}, askC base ents e m true r v l k = some z → askAll base ents e m r v l = true ∧ k = some z
  | [], h => ⟨rfl, h⟩
  | (h0, ins) :: l, h => by
    simp only [askC, ask1, qOf_eq, viewC_eq] at h
    simp only [askAll]
    cases hx : evQ e r (view base (without m ins) 0 ents h0) with
    | none => rw [hx] at h; cases h
    | some u =>
      rw [hx] at h
      simp only [] at h ⊢
      cases hb : AV.beq u v with
      | false => rw [hb] at h; cases h
      | true =>
        rw [hb] at h
        exact askC_sound h
theorem askC_off {base : Nat} {ents : List Ent} {e : EOp} {m : Nat} {r : Env} {v : AV} {k : Ans} : ∀ {l : List (AH × Nat)}, askC base ents e m false r v l k = k
  | [] => rfl
  | (h0, ins) :: l => by
    simp only [askC, ask1]
    exact askC_off
theorem askAll_still {base : Nat} {ents : List Ent} {e : EOp} {m : Nat} {r : Env} {v : AV} (hr : e.reads = false) {h : AH} (hv : evQ e r h = some v) : ∀ (l : List (AH × Nat)), askAll base ents e m r v l = true
  | [] => rfl
  | (h0, ins) :: l => by
    simp only [askAll]
    rw [evQ_still hr r _ h, hv]
    simp only [AV.beq_refl, cond_true]
    exact askAll_still hr hv l
theorem asksC_sound {base : Nat} {s : DSt} {ms : List Nat} {k : Ans} {z : AV × AH} : ∀ (es : List EOper) (ml : List Nat) (ens : List Ent) (i : Nat), OwnD es ens → asksC base s ms es ml ens i k = some z → askQ base s ms es ml ens i = true ∧ k = some z
  | e :: es, m :: ml, en :: ens, i, ho, h => by
    have ho' : OwnD es ens := fun j e' en' h1 h2 h3 => ho (j + 1) e' en' (by simpa using h1) (by simpa using h2) h3
    simp only [asksC] at h
    simp only [askQ]
    cases hr : e.op.reads with
    | true =>
      rw [hr] at h
      simp only [cond_true] at h
      cases hc : en.chk with
      | true =>
        rw [hc] at h
        obtain ⟨g1, g2⟩ := askC_sound h
        obtain ⟨g3, g4⟩ := asksC_sound es ml ens (i + 1) ho' g2
        exact ⟨by simp only [cond_true, g1, g3], g4⟩
      | false =>
        rw [hc, askC_off] at h
        obtain ⟨g3, g4⟩ := asksC_sound es ml ens (i + 1) ho' h
        exact ⟨by simp only [cond_false, cond_true, g3], g4⟩
    | false =>
      rw [hr] at h
      simp only [cond_false] at h
      obtain ⟨g3, g4⟩ := asksC_sound es ml ens (i + 1) ho' h
      refine ⟨?_, g4⟩
      cases hc : en.chk with
      | false => simp only [cond_false, cond_true, g3]
      | true =>
        obtain ⟨h0, hv⟩ := ho 0 e en (by simp) (by simp) hc
        simp only [cond_true, askAll_still hr hv, g3]
  | [], ml, ens, i, _, h => ⟨by cases ml <;> cases ens <;> rfl, by cases ml <;> cases ens <;> exact h⟩
  | _ :: _, [], ens, i, _, h => ⟨by cases ens <;> rfl, by cases ens <;> exact h⟩
  | _ :: _, _ :: _, [], i, _, h => ⟨rfl, h⟩
theorem drawC_sound {call : Caller} {es : List EOper} {ms : List Nat} {a : Env} {h : AH} {k : Kt} {z : AV × AH} (hd : drawC call es ms a h k = some z) : ∃ a' h', drawRun call es ms a h = some (a', h') ∧ k a' h' = some z := by
  unfold drawC at hd
  have e0 : (⟨h.objs, Nat.add h.next es.length⟩ : AH) = { h with next := h.next + es.length } := rfl
  rw [e0, drawStepsC_eq] at hd
  unfold drawRun
  cases hx : drawSteps call h.next es ms ⟨a, { h with next := h.next + es.length }, 0, [], [], [({ h with next := h.next + es.length }, 0)]⟩ with
  | none => rw [hx] at hd; cases hd
  | some s =>
    rw [hx] at hd
    simp only [] at hd ⊢
    have ho := drawSteps_own (es0 := es) es ms _ s rfl (fun i e en h1 h2 => by cases h2) hx
    obtain ⟨g1, g2⟩ := asksC_sound es ms s.ents 0 ho hd
    rw [viewC_eq] at g2
    exact ⟨s.a, _, by simp only [hx, g1, cond_true], g2⟩

/-! ### code -/
def dstsOf : List EOper → List Nat
  | [] => []
  | e :: es => match e.dst with
    | some d => d :: dstsOf es
    | none => dstsOf es
noncomputable def ciF (c : Option AV) (x y : Ans) : Ans := Option.rec (motive := fun _ => Ans) none (fun v => match v with
    | .bool b => Bool.rec (motive := fun _ => Ans) y x b
    | _ => none) c
noncomputable def exB (e : AX → Kt) (id : Nat) (k : Kt) : AX → Kt := fun ex a' h' => AX.rec (motive := fun _ => Ans) (k a' h') (fun id' => Bool.rec (motive := fun _ => Ans) (e ex a' h') (k a' h') (Nat.beq id' id)) (fun _ => e ex a' h') (e ex a' h') ex
noncomputable def exS (e : AX → Kt) (l : Nat) (k : Kt) : AX → Kt := fun ex a' h' => AX.rec (motive := fun _ => Ans) (e ex a' h') (fun _ => e ex a' h') (fun l' => Bool.rec (motive := fun _ => Ans) none (k a' h') (Nat.beq l' l)) (e ex a' h') ex
noncomputable def scF (n : Nat) (f : Nat → Ans) : Ans := Nat.rec (motive := fun _ => Ans) none (fun m _ => f m) n
noncomputable def ck (draw : DrawT) : Nat → EK → RunT
  | 0 => fun _ => cNone
  | d + 1 => fun c => match c with
    | .skip => cNorm
    | .label _ => cNorm
    | .region ops => cReg (kOps ops)
    | .draw es ms inn => cond (calm es ms) (cCalm es.length (kOps es)) (fun _ call a h k _ => app inn (cur inn (fun a1 h => drawC call es ms a1 h (app (dstsOf es) (cur (dstsOf es) k a))) .e) a h)
    | .seq x y => cSeq (ck draw d x) (ck draw d y)
    | .cond c x y none => fun n call a h k e => ciF (clD c a) (ck draw d x n call a h k e) (ck draw d y n call a h k e)
    | .cond c x y (some L) => fun n call a h k e => jnK L k fun j => ciF (clD c a) (ck draw d x n call a h j e) (ck draw d y n call a h j e)
    | .block id b none => fun n call a h k e => ck draw d b n call a h k (exB e id k)
    | .block id b (some L) => fun n call a h k e => jnK L k fun j => ck draw d b n call a h j (exB e id j)
    | .loop b L => fun n call a h _ e => lpK L n (fun j a h => ck draw d b n call a h j e) a h
    | .scope b l L => fun n call a h k e => match findK b l with
      | some r => scF n fun m => jnF L.length (lpF L.length m fun f => cur L (fun a h => ck draw d r n call a h k (exS e l (app L f))) .e) fun f => ck draw d b n call a h k (exS e l (app L f))
      | none => scF n fun _ => ck draw d b n call a h k (exS e l fun _ _ => none)
    | .exit id => cEnd (.exit id)
    | .goto l => cEnd (.goto l)
    | .ret => cEnd .ret
    | .bad => cNone
end Go.Ev
end PEvJ
/- More slots, the same runs. -/
section PEvJa
set_option linter.unusedSimpArgs false
namespace Go.Ev

def Le (a b : Env) : Prop := ∀ t v, a.get t = some v → b.get t = some v
theorem Le.refl (a : Env) : Le a a := fun _ _ h => h
theorem Le.trans {a b c : Env} (h : Le a b) (h' : Le b c) : Le a c := fun t v e => h' t v (h t v e)
theorem Le.set {a b : Env} (h : Le a b) (d : Nat) (v : AV) : Le (a.set d (some v)) (b.set d (some v)) := fun t u e => by
  rw [Tr.get_set] at e ⊢
  split at e
  · rename_i q; rw [if_pos q]; exact e
  · rename_i q; rw [if_neg q]; exact h t u e
theorem Le.putE {a b : Env} (h : Le a b) (d : Option Nat) (v : AV) : Le (putE a d v) (putE b d v) := by
  cases d with
  | none => exact h
  | some d => exact h.set d v
theorem Le.e (b : Env) : Le .e b := fun t v e => by simp [Tr.get] at e

theorem ev_le {a b : Env} (hl : Le a b) {x : Od} {v : AV} (h : x.ev a = some v) : x.ev b = some v := by
  cases x with
  | t n => exact hl n v h
  | c u => exact h
theorem evs_le {a b : Env} (hl : Le a b) : ∀ {l : List Od} {vs : List AV}, evs a l = some vs → evs b l = some vs
  | [], _, h => h
  | x :: l, vs, h => by
    simp only [evs] at h ⊢
    cases hx : x.ev a with
    | none => simp [hx] at h
    | some v =>
      cases hs : evs a l with
      | none => simp [hx, hs] at h
      | some us => simp only [hx, hs] at h; simp only [ev_le hl hx, evs_le hl hs]; exact h
theorem evo_le {a b : Env} (hl : Le a b) {x : Option Od} {v : Option AV} (h : evo a x = some v) : evo b x = some v := by
  cases x with
  | none => exact h
  | some x =>
    simp only [evo] at h ⊢
    cases hx : x.ev a with
    | none => simp [hx] at h
    | some u => simp only [hx] at h; simp only [ev_le hl hx]; exact h
theorem evf_le {a b : Env} (hl : Le a b) : ∀ {l : List (Nat × Nat × Od)} {vs : List (Nat × Nat × AV)}, evf a l = some vs → evf b l = some vs
  | [], _, h => h
  | (i, j, x) :: l, vs, h => by
    simp only [evf] at h ⊢
    cases hx : x.ev a with
    | none => simp [hx] at h
    | some v =>
      cases hs : evf a l with
      | none => simp [hx, hs] at h
      | some us => simp only [hx, hs] at h; simp only [ev_le hl hx, evf_le hl hs]; exact h

theorem evQ_le {a b : Env} (hl : Le a b) {o : EOp} {h : AH} {v : AV} (he : evQ o a h = some v) : evQ o b h = some v := by
  cases o
  case pick c x y =>
    simp only [evQ] at he ⊢
    cases hc : c.ev a with
    | none => simp [hc] at he
    | some u =>
      simp only [hc] at he
      simp only [ev_le hl hc]
      cases u <;> try (cases he)
      rename_i q
      cases q
      · exact ev_le hl he
      · exact ev_le hl he
  case build z fs =>
    simp only [evQ] at he ⊢
    cases hx : evf a fs with
    | none => simp [hx] at he
    | some u => simp only [hx] at he; simp only [evf_le hl hx]; exact he
  case mkFunc f xs ys =>
    simp only [evQ] at he ⊢
    cases hx : evs a xs with
    | none => simp [hx] at he
    | some u =>
      cases hy : evs a ys with
      | none => simp [hx, hy] at he
      | some w => simp only [hx, hy] at he; simp only [evs_le hl hx, evs_le hl hy]; exact he
  case slStr x lo hi =>
    simp only [evQ] at he ⊢
    cases hx : x.ev a with
    | none => simp [hx] at he
    | some u =>
      cases hy : evo a lo with
      | none => simp [hx, hy] at he
      | some w =>
        cases hz : evo a hi with
        | none => simp [hx, hy, hz] at he
        | some z => simp only [hx, hy, hz] at he; simp only [ev_le hl hx, evo_le hl hy, evo_le hl hz]; exact he
  case sl sz x lo hi mx =>
    simp only [evQ] at he ⊢
    cases hx : x.ev a with
    | none => simp [hx] at he
    | some u =>
      cases hy : evo a lo with
      | none => simp [hx, hy] at he
      | some w =>
        cases hz : evo a hi with
        | none => simp [hx, hy, hz] at he
        | some z =>
          cases hm : evo a mx with
          | none => simp [hx, hy, hz, hm] at he
          | some m => simp only [hx, hy, hz, hm] at he; simp only [ev_le hl hx, evo_le hl hy, evo_le hl hz, evo_le hl hm]; exact he
  case slArr n sz x lo hi mx =>
    simp only [evQ] at he ⊢
    cases hx : x.ev a with
    | none => simp [hx] at he
    | some u =>
      cases hy : evo a lo with
      | none => simp [hx, hy] at he
      | some w =>
        cases hz : evo a hi with
        | none => simp [hx, hy, hz] at he
        | some z =>
          cases hm : evo a mx with
          | none => simp [hx, hy, hz, hm] at he
          | some m => simp only [hx, hy, hz, hm] at he; simp only [ev_le hl hx, evo_le hl hy, evo_le hl hz, evo_le hl hm]; exact he
  case minI x ys =>
    simp only [evQ] at he ⊢
    cases hx : x.ev a with
    | none => simp [hx] at he
    | some u =>
      cases hy : evs a ys with
      | none => simp [hx, hy] at he
      | some w => simp only [hx, hy] at he; simp only [ev_le hl hx, evs_le hl hy]; exact he
  case maxI x ys =>
    simp only [evQ] at he ⊢
    cases hx : x.ev a with
    | none => simp [hx] at he
    | some u =>
      cases hy : evs a ys with
      | none => simp [hx, hy] at he
      | some w => simp only [hx, hy] at he; simp only [ev_le hl hx, evs_le hl hy]; exact he
  all_goals first
    | exact he
    | (rename_i x
       simp only [evQ] at he ⊢
       cases hx : x.ev a with
       | none => simp [hx] at he
       | some u => simp only [hx] at he; simp only [ev_le hl hx]; exact he)
    | (rename_i x y
       simp only [evQ] at he ⊢
       cases hx : x.ev a with
       | none => simp [hx] at he
       | some u =>
         cases hy : y.ev a with
         | none => simp [hx, hy] at he
         | some w => simp only [hx, hy] at he; simp only [ev_le hl hx, ev_le hl hy]; exact he)
    | (rename_i x y _
       simp only [evQ] at he ⊢
       cases hx : x.ev a with
       | none => simp [hx] at he
       | some u => simp only [hx] at he; simp only [ev_le hl hx]; exact he)

theorem evC_le {a b : Env} (hl : Le a b) {o : EOp} {r : FuncId × List AV} (he : evC o a = some r) : evC o b = some r := by
  cases o
  case callF f xs =>
    simp only [evC] at he ⊢
    cases hx : evs a xs with
    | none => simp [hx] at he
    | some u => simp only [hx] at he; simp only [evs_le hl hx]; exact he
  case callV x xs =>
    simp only [evC] at he ⊢
    cases hx : x.ev a with
    | none => simp [hx] at he
    | some u =>
      cases hy : evs a xs with
      | none => simp [hx, hy] at he
      | some w => simp only [hx, hy] at he; simp only [ev_le hl hx, evs_le hl hy]; exact he
  case invoke tab x xs =>
    simp only [evC] at he ⊢
    cases hx : x.ev a with
    | none => simp [hx] at he
    | some u =>
      cases hy : evs a xs with
      | none => simp [hx, hy] at he
      | some w => simp only [hx, hy] at he; simp only [ev_le hl hx, evs_le hl hy]; exact he
  all_goals exact he
theorem evW_le {a b : Env} (hl : Le a b) {o : EOp} {h : AH} {r : AV × AH} (he : evW o a h = some r) : evW o b h = some r := by
  cases o
  case buildSlice el sz len z fs =>
    simp only [evW] at he ⊢
    cases hx : evf a fs with
    | none => simp [hx] at he
    | some u => simp only [hx] at he; simp only [evf_le hl hx]; exact he
  case mapUpd fk x k v =>
    simp only [evW] at he ⊢
    cases hx : x.ev a with
    | none => simp [hx] at he
    | some u =>
      cases hy : k.ev a with
      | none => simp [hx, hy] at he
      | some w =>
        cases hz : v.ev a with
        | none => simp [hx, hy, hz] at he
        | some z => simp only [hx, hy, hz] at he; simp only [ev_le hl hx, ev_le hl hy, ev_le hl hz]; exact he
  all_goals first
    | exact he
    | (rename_i x
       simp only [evW] at he ⊢
       cases hx : x.ev a with
       | none => simp [hx] at he
       | some u => simp only [hx] at he; simp only [ev_le hl hx]; exact he)
    | (rename_i x y
       simp only [evW] at he ⊢
       cases hx : x.ev a with
       | none => simp [hx] at he
       | some u =>
         cases hy : y.ev a with
         | none => simp [hx, hy] at he
         | some w => simp only [hx, hy] at he; simp only [ev_le hl hx, ev_le hl hy]; exact he)
theorem evO_le {a b : Env} (hl : Le a b) {call : Caller} {o : EOp} {h : AH} {r : AV × AH} (he : evO call o a h = some r) : evO call o b h = some r := by
  unfold evO at he ⊢
  cases hq : o.quiet with
  | true =>
    simp only [hq, cond_true] at he ⊢
    cases hx : evQ o a h with
    | none => simp [hx] at he
    | some u => simp only [hx] at he; simp only [evQ_le hl hx]; exact he
  | false =>
    simp only [hq, cond_false] at he ⊢
    cases hc : o.isCall with
    | true =>
      simp only [hc, cond_true] at he ⊢
      cases hx : evC o a with
      | none => simp [hx] at he
      | some u => simp only [hx] at he; simp only [evC_le hl hx]; exact he
    | false =>
      simp only [hc, cond_false] at he ⊢
      exact evW_le hl he
theorem guardE_le {a b : Env} (hl : Le a b) {g : Option (Nat × Bool)} {q : Bool} (he : guardE a g = some q) : guardE b g = some q := by
  cases g with
  | none => exact he
  | some tw =>
    obtain ⟨t, w⟩ := tw
    simp only [guardE] at he ⊢
    cases hx : a.get t with
    | none => simp [hx] at he
    | some u => simp only [hx] at he; simp only [hl t u hx]; exact he
theorem evOper_le {a b : Env} (hl : Le a b) {call : Caller} {o : EOper} {h : AH} {a' : Env} {h' : AH} (he : evOper call o a h = some (a', h')) : ∃ b', evOper call o b h = some (b', h') ∧ Le a' b' ∧ ∀ t, o.dst ≠ some t → b'.get t = b.get t := by
  have fr : ∀ v t, o.dst ≠ some t → (putE b o.dst v).get t = b.get t := by
    intro v t ht
    cases hd : o.dst with
    | none => rfl
    | some d =>
      simp only [putE, Tr.get_set]
      rw [if_neg (fun q => ht (by rw [hd, q]))]
  unfold evOper at he ⊢
  cases hg : guardE a o.guard with
  | none => simp [hg] at he
  | some q =>
    simp only [hg] at he
    simp only [guardE_le hl hg]
    cases q with
    | false =>
      simp at he; obtain ⟨rfl, rfl⟩ := he
      exact ⟨_, rfl, hl.putE _ _, fr _⟩
    | true =>
      simp only at he ⊢
      cases hx : evO call o.op a h with
      | none => simp [hx] at he
      | some r =>
        simp only [hx] at he
        simp only [evO_le hl hx]
        simp at he; obtain ⟨rfl, rfl⟩ := he
        exact ⟨_, rfl, hl.putE _ _, fr _⟩
theorem mem_dsts {t : Nat} {o : EOper} {l : List EOper} (h : t ∉ dstsOf (o :: l)) : o.dst ≠ some t ∧ t ∉ dstsOf l := by
  cases hd : o.dst with
  | none => simp only [dstsOf, hd] at h; exact ⟨by simp, h⟩
  | some d => simp only [dstsOf, hd, List.mem_cons, not_or] at h; exact ⟨by simp; exact fun q => h.1 q.symm, h.2⟩
theorem evOps_le {call : Caller} : ∀ (l : List EOper) {a b : Env} {h : AH} {a' : Env} {h' : AH}, Le a b → evOps call l a h = some (a', h') → ∃ b', evOps call l b h = some (b', h') ∧ Le a' b' ∧ ∀ t, t ∉ dstsOf l → b'.get t = b.get t
  | [], a, b, h, a', h', hl, he => by simp [evOps] at he; obtain ⟨rfl, rfl⟩ := he; exact ⟨b, rfl, hl, fun _ _ => rfl⟩
  | o :: l, a, b, h, a', h', hl, he => by
    simp only [evOps] at he ⊢
    cases hx : evOper call o a h with
    | none => simp [hx] at he
    | some r =>
      obtain ⟨a1, h1⟩ := r
      simp only [hx] at he
      obtain ⟨b1, e1, l1, f1⟩ := evOper_le hl hx
      simp only [e1]
      obtain ⟨b2, e2, l2, f2⟩ := evOps_le l l1 he
      exact ⟨b2, e2, l2, fun t ht => by rw [f2 t (mem_dsts ht).2, f1 t (mem_dsts ht).1]⟩

/-! ### draws -/
def EntLe (x y : Ent) : Prop := Le x.r y.r ∧ x.v = y.v ∧ x.f = y.f ∧ x.chk = y.chk
inductive EntsLe : List Ent → List Ent → Prop
  | nil : EntsLe [] []
  | cons {x y l m} : EntLe x y → EntsLe l m → EntsLe (x :: l) (y :: m)
theorem EntsLe.snoc {l m : List Ent} {x y : Ent} (h : EntsLe l m) (q : EntLe x y) : EntsLe (l ++ [x]) (m ++ [y]) := by
  induction h with
  | nil => exact .cons q .nil
  | cons a _ ih => exact .cons a ih
theorem EntsLe.length {l m : List Ent} (h : EntsLe l m) : l.length = m.length := by
  induction h with
  | nil => rfl
  | cons _ _ ih => simp [ih]
theorem view_le (base : Nat) (p : Nat → Bool) {l m : List Ent} (h : EntsLe l m) : ∀ (i : Nat) (x : AH), view base p i l x = view base p i m x := by
  induction h with
  | nil => intro i x; rfl
  | cons q _ ih => intro i x; simp only [view, q.2.2.1, ih]
theorem restrict_le {a b : Env} (hl : Le a b) (l : List Nat) : Le (restrict a l) (restrict b l) := fun t v e => by
  obtain ⟨h1, h2⟩ := restrict_get a t v l e
  rw [restrict_get' b l t h1]
  exact hl t v h2
structure DStLe (s z : DSt) : Prop where
  a : Le s.a z.a
  h : s.h = z.h
  ins : s.ins = z.ins
  louds : s.louds = z.louds
  ents : EntsLe s.ents z.ents
  stg : s.stg = z.stg
theorem evF_le {a b : Env} (hl : Le a b) {o : EOp} {r : Option (Nat × Nat × Option Nat) × AO} (he : evF o a = some r) : evF o b = some r := by
  cases o
  case box el x =>
    simp only [evF] at he ⊢
    cases hx : x.ev a with
    | none => simp [hx] at he
    | some u => simp only [hx] at he; simp only [ev_le hl hx]; exact he
  case buildSlice el sz len z fs =>
    simp only [evF] at he ⊢
    cases hx : evf a fs with
    | none => simp [hx] at he
    | some u => simp only [hx] at he; simp only [evf_le hl hx]; exact he
  case s2b el x =>
    simp only [evF] at he ⊢
    cases hx : x.ev a with
    | none => simp [hx] at he
    | some u => simp only [hx] at he; simp only [ev_le hl hx]; exact he
  all_goals exact he
theorem drawStep_le {call : Caller} {base : Nat} {s z s' : DSt} {e : EOper} {m : Nat} (hl : DStLe s z) (he : drawStep call base s e m = some s') : ∃ z', drawStep call base z e m = some z' ∧ DStLe s' z' ∧ ∀ t, e.dst ≠ some t → z'.a.get t = z.a.get t := by
  have fr : ∀ v t, e.dst ≠ some t → (putE z.a e.dst v).get t = z.a.get t := by
    intro v t ht
    cases hd : e.dst with
    | none => rfl
    | some d =>
      simp only [putE, Tr.get_set]
      rw [if_neg (fun q => ht (by rw [hd, q]))]
  have hr := restrict_le hl.a (looks e)
  have hlen := hl.ents.length
  have hv : ∀ p, view base p 0 s.ents s.h = view base p 0 z.ents z.h := fun p => by rw [view_le base p hl.ents, hl.h]
  simp only [drawStep] at he ⊢
  cases hg : guardE (restrict s.a (looks e)) e.guard with
  | none => simp [hg] at he
  | some wd =>
    simp only [hg] at he
    simp only [guardE_le hr hg]
    cases hq : e.op.quiet with
    | true =>
      simp only [hq, cond_true] at he ⊢
      cases hx : cond wd (evQ e.op (restrict s.a (looks e)) (view base (without m s.ins) 0 s.ents s.h)) (some .undef) with
      | none => simp [hx] at he
      | some v =>
        simp only [hx, Option.some.injEq] at he
        have : cond wd (evQ e.op (restrict z.a (looks e)) (view base (without m z.ins) 0 z.ents z.h)) (some .undef) = some v := by
          rw [← hl.ins, ← hv]
          cases wd with
          | false => exact hx
          | true => exact evQ_le hr hx
        simp only [this]
        subst he
        exact ⟨_, rfl, ⟨hl.a.putE _ _, hl.h, hl.ins, hl.louds, hl.ents.snoc ⟨hr, rfl, rfl, rfl⟩, hl.stg⟩, fr _⟩
    | false =>
      simp only [hq, cond_false] at he ⊢
      cases hf : e.op.floats with
      | true =>
        simp only [hf, cond_true] at he ⊢
        cases wd with
        | false =>
          simp only [cond_false, Option.some.injEq] at he ⊢
          subst he
          exact ⟨_, rfl, ⟨hl.a.putE _ _, hl.h, hl.ins, hl.louds, hl.ents.snoc ⟨hr, rfl, rfl, rfl⟩, hl.stg⟩, fr _⟩
        | true =>
          simp only [cond_true] at he ⊢
          cases hx : evF e.op (restrict s.a (looks e)) with
          | none => simp [hx] at he
          | some r =>
            obtain ⟨mk, o⟩ := r
            simp only [hx, Option.some.injEq] at he
            simp only [evF_le hr hx]
            subst he
            refine ⟨_, rfl, ⟨?_, hl.h, hl.ins, hl.louds, hl.ents.snoc ⟨hr, ?_, rfl, rfl⟩, hl.stg⟩, fr _⟩
            · rw [← hlen]; exact hl.a.putE _ _
            · rw [hlen]
      | false =>
        simp only [hf, cond_false] at he ⊢
        rw [← hl.louds]
        cases hb : s.louds.all m.testBit with
        | false => simp [hb] at he
        | true =>
          simp only [hb, cond_true] at he ⊢
          cases hx : cond wd (evO call e.op (restrict s.a (looks e)) (view base (without m s.ins) 0 s.ents s.h)) (some (.undef, view base (without m s.ins) 0 s.ents s.h)) with
          | none => simp [hx] at he
          | some r =>
            obtain ⟨v, h'⟩ := r
            simp only [hx, Option.some.injEq] at he
            have : cond wd (evO call e.op (restrict z.a (looks e)) (view base (without m z.ins) 0 z.ents z.h)) (some (.undef, view base (without m z.ins) 0 z.ents z.h)) = some (v, h') := by
              rw [← hl.ins, ← hv]
              cases wd with
              | false => exact hx
              | true => exact evO_le hr hx
            simp only [this]
            subst he
            refine ⟨_, rfl, ⟨hl.a.putE _ _, rfl, rfl, ?_, hl.ents.snoc ⟨hr, rfl, rfl, rfl⟩, ?_⟩, fr _⟩
            · simp only [hlen]
            · simp only [hl.stg]
theorem drawSteps_le {call : Caller} {base : Nat} : ∀ (es : List EOper) (ms : List Nat) {s z s' : DSt}, DStLe s z → drawSteps call base es ms s = some s' → ∃ z', drawSteps call base es ms z = some z' ∧ DStLe s' z' ∧ ∀ t, t ∉ dstsOf es → z'.a.get t = z.a.get t
  | [], ms, s, z, s', hl, he => by simp [drawSteps] at he; subst he; exact ⟨z, rfl, hl, fun _ _ => rfl⟩
  | e :: es, [], s, z, s', hl, he => by simp [drawSteps] at he
  | e :: es, m :: ms, s, z, s', hl, he => by
    simp only [drawSteps] at he ⊢
    cases hx : drawStep call base s e m with
    | none => simp [hx] at he
    | some s1 =>
      simp only [hx] at he
      obtain ⟨z1, e1, l1, f1⟩ := drawStep_le hl hx
      simp only [e1]
      obtain ⟨z2, e2, l2, f2⟩ := drawSteps_le es ms l1 he
      exact ⟨z2, e2, l2, fun t ht => by rw [f2 t (mem_dsts ht).2, f1 t (mem_dsts ht).1]⟩
theorem askAll_le {base : Nat} {ents ents' : List Ent} (hl : EntsLe ents ents') {e : EOp} {m : Nat} {r r' : Env} (hr : Le r r') {v : AV} : ∀ (l : List (AH × Nat)), askAll base ents e m r v l = true → askAll base ents' e m r' v l = true
  | [], _ => rfl
  | (h, ins) :: l, he => by
    simp only [askAll] at he ⊢
    rw [← view_le base _ hl]
    cases hx : evQ e r (view base (without m ins) 0 ents h) with
    | none => simp [hx] at he
    | some u =>
      simp only [hx] at he
      simp only [evQ_le hr hx]
      cases hb : AV.beq u v with
      | false => simp [hb] at he
      | true => simp only [hb, cond_true] at he ⊢; exact askAll_le hl hr l he
theorem askQ_le {base : Nat} {s z : DSt} (hl : DStLe s z) {ms : List Nat} : ∀ (es : List EOper) (ml : List Nat) (en en' : List Ent) (i : Nat), EntsLe en en' → askQ base s ms es ml en i = true → askQ base z ms es ml en' i = true
  | [], _, _, _, _, _, _ => by simp only [askQ]
  | e :: es, [], _, _, _, _, _ => by simp only [askQ]
  | e :: es, m :: ml, [], en', i, q, _ => by cases q; simp only [askQ]
  | e :: es, m :: ml, en :: ens, en', i, q, he => by
    cases q with
    | @cons _ y _ ys q1 q2 =>
      simp only [askQ] at he ⊢
      obtain ⟨r1, r2, r3, r4⟩ := q1
      rw [← r4, ← r2, ← hl.stg, ← hl.louds]
      cases hc : en.chk with
      | false =>
        simp only [hc, cond_false, cond_true] at he ⊢
        exact askQ_le hl es ml ens ys (i + 1) q2 he
      | true =>
        simp only [hc, cond_true] at he ⊢
        cases ha : askAll base s.ents e.op m en.r en.v ((s.stg.drop (least s.louds m)).take (greatest s.louds ms i + 1 - least s.louds m)) with
        | false => simp [ha] at he
        | true =>
          simp only [ha, cond_true] at he
          simp only [askAll_le hl.ents r1 _ ha, cond_true]
          exact askQ_le hl es ml ens ys (i + 1) q2 he
theorem drawRun_le {call : Caller} {es : List EOper} {ms : List Nat} {a b : Env} {h : AH} {a' : Env} {h' : AH} (hl : Le a b) (he : drawRun call es ms a h = some (a', h')) : ∃ b', drawRun call es ms b h = some (b', h') ∧ Le a' b' ∧ ∀ t, t ∉ dstsOf es → b'.get t = b.get t := by
  simp only [drawRun] at he ⊢
  cases hx : drawSteps call h.next es ms ⟨a, { h with next := h.next + es.length }, 0, [], [], [({ h with next := h.next + es.length }, 0)]⟩ with
  | none => simp [hx] at he
  | some s =>
    simp only [hx] at he
    have hd : DStLe ⟨a, { h with next := h.next + es.length }, 0, [], [], [({ h with next := h.next + es.length }, 0)]⟩ ⟨b, { h with next := h.next + es.length }, 0, [], [], [({ h with next := h.next + es.length }, 0)]⟩ := ⟨hl, rfl, rfl, rfl, .nil, rfl⟩
    obtain ⟨z, e1, l1, f1⟩ := drawSteps_le es ms hd hx
    simp only [e1]
    cases hq : askQ h.next s ms es ms s.ents 0 with
    | false => simp [hq] at he
    | true =>
      simp only [hq, cond_true, Option.some.injEq, Prod.mk.injEq] at he
      simp only [askQ_le l1 es ms s.ents z.ents 0 l1.ents hq, cond_true]
      obtain ⟨rfl, rfl⟩ := he
      refine ⟨z.a, ?_, l1.a, f1⟩
      rw [← l1.ins, view_le _ _ l1.ents, ← l1.h]
def MonoD (draw : DrawT) : Prop := ∀ {call : Caller} {es : List EOper} {ms : List Nat} {a b : Env} {h : AH} {a' : Env} {h' : AH}, Le a b → draw call es ms a h = some (a', h') → ∃ b', draw call es ms b h = some (b', h') ∧ Le a' b' ∧ ∀ t, t ∉ dstsOf es → b'.get t = b.get t
theorem drawCalm_mono : MonoD drawCalm := by
  intro call es ms a b h a' h' hl he
  unfold drawCalm at he ⊢
  cases hc : calm es ms with
  | true => simp only [hc, cond_true] at he ⊢; exact evOps_le es hl he
  | false => simp only [hc, cond_false] at he ⊢; exact drawRun_le hl he
end Go.Ev
end PEvJa
/- Code that is told its live slots alone runs as the compact code does. -/
section PEvJb
set_option linter.unusedSimpArgs false
namespace Go.Ev

theorem mkE_get {a : Env} : ∀ {L : List Nat} {ws : List AV} (c : Env) (t : Nat), getsE a L = some ws → (mkE L ws c).get t = if t ∈ L then a.get t else c.get t
  | [], ws, c, t, h => by simp [getsE] at h; subst h; simp [mkE]
  | i :: L, ws, c, t, h => by
    simp only [getsE] at h
    cases hi : a.get i with
    | none => simp [hi] at h
    | some v =>
      cases hs : getsE a L with
      | none => simp [hi, hs] at h
      | some vs =>
        simp only [hi, hs, Option.some.injEq] at h
        subst h
        simp only [mkE]
        rw [mkE_get (c.set i (some v)) t hs, Tr.get_set]
        by_cases h1 : t ∈ L
        · simp [h1]
        · by_cases h2 : i = t
          · subst h2; simp [h1, hi]
          · simp [h1, h2, Ne.symm h2]
theorem mkE_le {a b : Env} {L : List Nat} {ws : List AV} (hl : Le a b) (h : getsE a L = some ws) : Le (mkE L ws .e) b := fun t v e => by
  rw [mkE_get .e t h] at e
  split at e
  · exact hl t v e
  · simp [Tr.get] at e
theorem kq_le {a b : Env} {L : List Nat} {J : Kt} {h : AH} {r : AV × AH} (hl : Le a b) (he : kq L .e J a h = some r) : ∃ a', Le a' b ∧ J a' h = some r := by
  simp only [kq] at he
  cases hg : getsE a L with
  | none => simp [hg] at he
  | some vs => simp only [hg] at he; exact ⟨_, mkE_le hl hg, he⟩

def contK (k : Kt) (e : AX → Kt) (x : AX) : Kt := match x with
  | .normal => k
  | x => e x
def CkS (draw : DrawT) (n : Nat) (call : Caller) (d : Nat) : Prop := ∀ (c : EK) (a b : Env) (h : AH) (k : Kt) (e : AX → Kt) (r : AV × AH), Le a b → ck draw d c n call a h k e = some r →
  ∃ x b' h' a', evRun draw n call d c.erase b h = some (x, b', h') ∧ Le a' b' ∧ contK k e x a' h' = some r

theorem lpG_sound {draw : DrawT} {n : Nat} {call : Caller} {d : Nat} (ih : CkS draw n call d) (c : EK) (L : List Nat) (e : AX → Kt) (r : AV × AH) : ∀ (m : Nat) (a b : Env) (h : AH), Le a b → lpG L (fun j a h => ck draw d c n call a h j e) m a h = some r →
    ∃ x b' h' a', loopRun (evRun draw n call d) c.erase m b h = some (x, b', h') ∧ Le a' b' ∧ (x ≠ .normal ∧ e x a' h' = some r)
  | 0, a, b, h, hl, he => by simp [lpG] at he
  | m + 1, a, b, h, hl, he => by
    have he' : kq L .e (fun a h => ck draw d c n call a h (lpG L (fun j a h => ck draw d c n call a h j e) m) e) a h = some r := he
    obtain ⟨a1, l1, e1⟩ := kq_le hl he'
    obtain ⟨x, b2, h2, a2, r2, l2, c2⟩ := ih c a1 b h _ e r l1 e1
    simp only [loopRun, r2]
    cases x with
    | normal => exact lpG_sound ih c L e r m a2 b2 h2 l2 c2
    | exit id => exact ⟨_, _, _, a2, rfl, l2, by simp, c2⟩
    | goto id => exact ⟨_, _, _, a2, rfl, l2, by simp, c2⟩
    | ret => exact ⟨_, _, _, a2, rfl, l2, by simp, c2⟩

theorem exB_sound {e : AX → Kt} {id : Nat} {k : Kt} {x : AX} {a : Env} {h : AH} {r : AV × AH} (he : contK k (exB e id k) x a h = some r) : (x = .normal ∨ x = .exit id) ∧ k a h = some r ∨ x ≠ .normal ∧ x ≠ .exit id ∧ e x a h = some r := by
  cases x with
  | normal => exact .inl ⟨.inl rfl, he⟩
  | exit i =>
    simp only [contK, exB] at he
    cases hb : Nat.beq i id with
    | true =>
      have := Nat.eq_of_beq_eq_true hb
      subst this
      simp only [hb] at he
      exact .inl ⟨.inr rfl, he⟩
    | false =>
      simp only [hb] at he
      exact .inr ⟨by simp, by intro q; cases q; simp at hb, he⟩
  | goto l => exact .inr ⟨by simp, by simp, he⟩
  | ret => exact .inr ⟨by simp, by simp, he⟩

/-- The label's own code, so many times at most. -/
theorem scG_sound {draw : DrawT} {n : Nat} {call : Caller} {d : Nat} (ih : CkS draw n call d) (b rest : EK) (l : Nat) (hf : findK b l = some rest) (L : List Nat) (k : Kt) (e : AX → Kt) (r : AV × AH) : ∀ (m : Nat) (c : EK) (a z : Env) (h : AH), Le a z →
    ck draw d c n call a h k (exS e l (lpK L m fun f => fun a h => ck draw d rest n call a h k (exS e l f))) = some r →
    ∃ x z' h' a', scopeRun (evRun draw n call d) b.erase (m + 1) c.erase z h = some (x, z', h') ∧ Le a' z' ∧ contK k e x a' h' = some r
  | m, c, a, z, h, hl, he => by
    obtain ⟨x, b2, h2, a2, r2, l2, c2⟩ := ih c a z h _ _ r hl he
    simp only [scopeRun, r2]
    cases x with
    | normal => exact ⟨_, _, _, a2, rfl, l2, c2⟩
    | exit id => exact ⟨_, _, _, a2, rfl, l2, c2⟩
    | ret => exact ⟨_, _, _, a2, rfl, l2, c2⟩
    | goto l' =>
      simp only [contK, exS] at c2
      cases hb : Nat.beq l' l with
      | false => simp [hb] at c2
      | true =>
        have := Nat.eq_of_beq_eq_true hb
        subst this
        simp only [hb] at c2
        simp only [findK_erase, hf, Option.map_some]
        rw [lpE] at c2
        cases m with
        | zero => simp [lpG] at c2
        | succ m =>
          have c3 : kq L .e (fun a h => ck draw d rest n call a h k (exS e l' (lpG L (fun f => fun a h => ck draw d rest n call a h k (exS e l' f)) m))) a2 h2 = some r := c2
          obtain ⟨a3, l3, e3⟩ := kq_le l2 c3
          have e4 : ck draw d rest n call a3 h2 k (exS e l' (lpK L m fun f => fun a h => ck draw d rest n call a h k (exS e l' f))) = some r := by
            have : lpK L m (fun f => fun a h => ck draw d rest n call a h k (exS e l' f)) = lpG L (fun f => fun a h => ck draw d rest n call a h k (exS e l' f)) m := by funext a h; exact lpE _ _ _ _ _
            rw [this]; exact e3
          exact scG_sound ih b rest l' hf L k e r m rest a3 b2 h2 l3 e4

theorem ck_sound {draw : DrawT} (hd : CalmD draw) (hm : MonoD draw) (hrun : ∀ (call : Caller) (es : List EOper) (ms : List Nat) (a : Env) (h : AH), calm es ms = false → draw call es ms a h = drawRun call es ms a h) (n : Nat) (call : Caller) : ∀ d, CkS draw n call d
  | 0 => by intro c a b h k e r hl he; simp [ck, cNone] at he
  | d + 1 => by
    have ih := ck_sound hd hm hrun n call d
    intro c a b h k e r hl he
    cases c with
    | skip => exact ⟨.normal, b, h, a, rfl, hl, he⟩
    | label => exact ⟨.normal, b, h, a, rfl, hl, he⟩
    | region ops =>
      simp only [ck, cReg, kOps_eq] at he
      cases hx : evOps call ops a h with
      | none => simp [hx, andOps] at he
      | some p =>
        obtain ⟨a', h'⟩ := p
        simp only [hx, andOps] at he
        obtain ⟨b', e1, l1, _⟩ := evOps_le ops hl hx
        exact ⟨.normal, b', h', a', by simp only [EK.erase, evRun, evStep, e1], l1, he⟩
    | draw es ms inn =>
      cases hc : calm es ms with
      | true =>
        simp only [ck, hc, cond_true, cCalm, kOps_eq] at he
        have e0 : (⟨h.objs, Nat.add h.next es.length⟩ : AH) = { h with next := h.next + es.length } := rfl
        rw [e0] at he
        cases hx : evOps call es a { h with next := h.next + es.length } with
        | none => simp [hx, andOps] at he
        | some p =>
          obtain ⟨a', h'⟩ := p
          simp only [hx, andOps] at he
          obtain ⟨b', e1, l1, _⟩ := evOps_le es hl hx
          exact ⟨.normal, b', h', a', by simp only [EK.erase, evRun, evStep, hd call es ms b h hc, e1], l1, he⟩
      | false =>
        simp only [ck, hc, cond_false, app_cur] at he
        simp only [kq] at he
        cases hg : getsE a inn with
        | none => simp [hg] at he
        | some vs =>
          simp only [hg] at he
          have l0 := mkE_le hl hg
          obtain ⟨a1, h1, hx, he⟩ := drawC_sound he
          rw [app_cur] at he
          rw [← hrun _ _ _ _ _ hc] at hx
          · simp only [kq] at he
            obtain ⟨b1, e1, l1, f1⟩ := hm l0 hx
            cases hg' : getsE a1 (dstsOf es) with
            | none => simp [hg'] at he
            | some ws =>
              simp only [hg'] at he
              refine ⟨.normal, b1, h1, mkE (dstsOf es) ws a, by simp only [EK.erase, evRun, evStep, e1], ?_, he⟩
              intro t v q
              rw [mkE_get a t hg'] at q
              split at q
              · exact l1 t v q
              · rename_i hn
                rw [f1 t hn]
                exact hl t v q
    | seq x y =>
      simp only [ck, cSeq] at he
      obtain ⟨x1, b1, h1, a1, r1, l1, c1⟩ := ih x a b h _ e r hl he
      simp only [EK.erase, evRun, evStep, r1]
      cases x1 with
      | normal => exact ih y a1 b1 h1 k e r l1 c1
      | exit id => exact ⟨_, _, _, a1, rfl, l1, c1⟩
      | goto id => exact ⟨_, _, _, a1, rfl, l1, c1⟩
      | ret => exact ⟨_, _, _, a1, rfl, l1, c1⟩
    | cond c x y J =>
      have key : ∀ k', ciF (clD c a) (ck draw d x n call a h k' e) (ck draw d y n call a h k' e) = some r → ∃ x1 b' h' a', evRun draw n call (d + 1) (EK.cond c x y J).erase b h = some (x1, b', h') ∧ Le a' b' ∧ contK k' e x1 a' h' = some r := by
        intro k' he
        simp only [clD_eq] at he
        simp only [EK.erase, evRun, evStep]
        cases hc : c.ev a with
        | none => simp [hc, ciF] at he
        | some v =>
          simp only [hc] at he
          simp only [ev_le hl hc]
          cases v <;> try (cases he)
          rename_i q
          cases q
          · exact ih y a b h k' e r hl he
          · exact ih x a b h k' e r hl he
      cases J with
      | none => exact key k he
      | some L =>
        simp only [ck, jnE] at he
        obtain ⟨x1, b1, h1, a1, r1, l1, c1⟩ := key _ he
        cases x1 with
        | normal =>
          obtain ⟨a2, l2, e2⟩ := kq_le l1 c1
          exact ⟨_, _, _, a2, r1, l2, e2⟩
        | exit id => exact ⟨_, _, _, a1, r1, l1, c1⟩
        | goto id => exact ⟨_, _, _, a1, r1, l1, c1⟩
        | ret => exact ⟨_, _, _, a1, r1, l1, c1⟩
    | block id c J =>
      have key : ∀ k', ck draw d c n call a h k' (exB e id k') = some r → ∃ x1 b' h' a', evRun draw n call (d + 1) (EK.block id c J).erase b h = some (x1, b', h') ∧ Le a' b' ∧ contK k' e x1 a' h' = some r := by
        intro k' he
        obtain ⟨x1, b1, h1, a1, r1, l1, c1⟩ := ih c a b h k' _ r hl he
        simp only [EK.erase, evRun, evStep, r1]
        rcases exB_sound c1 with ⟨rfl | rfl, q⟩ | ⟨n1, n2, q⟩
        · exact ⟨_, _, _, a1, rfl, l1, q⟩
        · exact ⟨.normal, _, _, a1, by simp, l1, q⟩
        · cases x1 with
          | normal => exact absurd rfl n1
          | exit i =>
            refine ⟨.exit i, _, _, a1, ?_, l1, q⟩
            have : Nat.beq i id = false := by
              cases hb : Nat.beq i id with
              | false => rfl
              | true => exact absurd (congrArg AX.exit (Nat.eq_of_beq_eq_true hb)) n2
            simp only [this, cond_false]
          | goto l => exact ⟨_, _, _, a1, rfl, l1, q⟩
          | ret => exact ⟨_, _, _, a1, rfl, l1, q⟩
      cases J with
      | none => exact key k he
      | some L =>
        simp only [ck, jnE] at he
        obtain ⟨x1, b1, h1, a1, r1, l1, c1⟩ := key _ he
        cases x1 with
        | normal =>
          obtain ⟨a2, l2, e2⟩ := kq_le l1 c1
          exact ⟨_, _, _, a2, r1, l2, e2⟩
        | exit id => exact ⟨_, _, _, a1, r1, l1, c1⟩
        | goto id => exact ⟨_, _, _, a1, r1, l1, c1⟩
        | ret => exact ⟨_, _, _, a1, r1, l1, c1⟩
    | loop c L =>
      simp only [ck, lpE] at he
      obtain ⟨x1, b1, h1, a1, r1, l1, n1, c1⟩ := lpG_sound ih c L e r n a b h hl he
      refine ⟨x1, b1, h1, a1, by simp only [EK.erase, evRun, evStep, r1], l1, ?_⟩
      cases x1 with
      | normal => exact absurd rfl n1
      | _ => exact c1
    | scope c l L =>
      cases n with
      | zero =>
        simp only [ck] at he
        cases hf : findK c l with
        | none => simp [hf, scF] at he
        | some rest => simp [hf, scF] at he
      | succ m =>
        simp only [ck] at he
        cases hf : findK c l with
        | none =>
          simp only [hf, scF] at he
          obtain ⟨x1, b1, h1, a1, r1, l1, c1⟩ := ih c a b h k _ r hl he
          simp only [EK.erase, evRun, evStep, scopeRun, r1]
          cases x1 with
          | normal => exact ⟨_, _, _, a1, rfl, l1, c1⟩
          | exit id => exact ⟨_, _, _, a1, rfl, l1, c1⟩
          | ret => exact ⟨_, _, _, a1, rfl, l1, c1⟩
          | goto l' =>
            simp only [contK, exS] at c1
            cases hb : Nat.beq l' l <;> simp [hb] at c1
        | some rest =>
          simp only [hf, scF] at he
          exact scG_sound ih c rest l hf L k e r m c a b h hl he
    | exit => exact ⟨_, _, _, a, rfl, hl, he⟩
    | goto => exact ⟨_, _, _, a, rfl, hl, he⟩
    | ret => exact ⟨_, _, _, a, rfl, hl, he⟩
    | bad => simp [ck, cNone] at he
end Go.Ev
end PEvJb
