import PyProof.Rows.All
import Wide.All
import OpenK.AllK
import Wide.FinOn
import HandS.ForMost
import HandS.ForExc
import HandS.IsInst
import HandS.Flow
import HandS.Defaults
import KE.KStateDown
import HandS.Head0
import HandS.Head1
import HandS.Head2
import HandS.HeadEnd
import HandS.HeadHook1
import HandS.HeadHook2
import HandS.HeadHook4
import PySem.Challenge.RW_unnamedlives_k01_names
set_option Elab.async false
set_option linter.all false
set_option maxRecDepth 100000
set_option maxHeartbeats 1000000
/-! U: readings that step by computation -/
namespace U
open PySem PySem.Spec PyProof.Rows L2

/-! ### weakening -/
theorem imE {X : Cx} {e : Expr} {t u : TE} (h : PE X e t) (k : ∀ σ H Q, u σ H Q → t σ H Q) : PE X e u := ⟨fun pins s σ H Q I q => h.run pins s σ H Q I (k σ H Q q)⟩
theorem imT {X : Cx} {e : Expr} {t u : TT} (h : PT X e t) (k : ∀ σ H Q, u σ H Q → t σ H Q) : PT X e u := ⟨fun pins s σ H Q I q => h.run pins s σ H Q I (k σ H Q q)⟩
theorem imI {X : Cx} {a b : Expr} {t u : TI} (h : PI X a b t) (k : ∀ σ H Q, u σ H Q → t σ H Q) : PI X a b u := ⟨fun pins s σ H Q I q => h.run pins s σ H Q I (k σ H Q q)⟩
theorem orI {X : Cx} {a b : Expr} {t u : TI} (h : PI X a b t) (k : PI X a b u) : PI X a b (fun σ H Q => t σ H Q ∨ u σ H Q) := ⟨fun pins s σ H Q I q => q.elim (h.run pins s σ H Q I) (k.run pins s σ H Q I)⟩
theorem imO {X : Cx} {f : Value → Value → Sem Value} {r u : R2} (h : OpR X f r) (k : ∀ x y H Q, u x y H Q → r x y H Q) : OpR X f u := fun pins s σ H x y v w Q I rx ry q => h pins s σ H x y v w Q I rx ry (k x y H Q q)
theorem orO {X : Cx} {f : Value → Value → Sem Value} {r u : R2} (h : OpR X f r) (k : OpR X f u) : OpR X f (fun x y H Q => r x y H Q ∨ u x y H Q) :=
  fun pins s σ H x y v w Q I rx ry q => q.elim (h pins s σ H x y v w Q I rx ry) (k pins s σ H x y v w Q I rx ry)
theorem imC {X : Cx} {f : Value} {r u : List V → Hp → VK → Prop} (h : CallR X f r) (k : ∀ xs H Q, u xs H Q → r xs H Q) : CallR X f u := fun pins s σ H xs us Q I rx q => h pins s σ H xs us Q I rx (k xs H Q q)
theorem orC {X : Cx} {f : Value} {r u : List V → Hp → VK → Prop} (h : CallR X f r) (k : CallR X f u) : CallR X f (fun xs H Q => r xs H Q ∨ u xs H Q) := fun pins s σ H xs us Q I rx q => q.elim (h pins s σ H xs us Q I rx) (k pins s σ H xs us Q I rx)
theorem imX {X : Cx} {r u : R2} (h : IxR X r) (k : ∀ x y H Q, u x y H Q → r x y H Q) : IxR X u := fun a b pins s σ H x y v w Q I rx ry q => h a b pins s σ H x y v w Q I rx ry (k x y H Q q)
theorem orX {X : Cx} {r u : R2} (h : IxR X r) (k : IxR X u) : IxR X (fun x y H Q => r x y H Q ∨ u x y H Q) :=
  fun a b pins s σ H x y v w Q I rx ry q => q.elim (h a b pins s σ H x y v w Q I rx ry) (k a b pins s σ H x y v w Q I rx ry)

abbrev big : Nat := 1000000
theorem big_sz {n : Nat} (h : n ≤ 1000000) : n ≤ sizeLine := Nat.le_trans h (by decide)

/-! ### names, tests -/
def uVar (i : Nat) : TE := fun σ H Q => match σ[i]? with
  | some (some v) => Q v H
  | _ => False
theorem uv {X : Cx} (i : Nat) {x : Str} {pos : Pos} (hN : X.N[i]? = some x := by rfl) (hv : Vis X.env.scope x := by first | exact Or.inl rfl | exact Or.inr (Or.inl rfl) | exact Or.inr (Or.inr rfl))
    (hd : (x == ("__debug__" : Str)) = false := by decide) (hcd : (x == ("__classdict__" : Str)) = false := by decide) : PE X (.Name x pos) (uVar i) := imE (pe_var hN hv hd hcd) (fun σ H Q h => by
  unfold uVar at h
  split at h
  · exact ⟨_, by assumption, h⟩
  · exact h.elim)
def uB (t : TE) : TT := fun σ H Q => t σ H fun x H1 => match x with
  | .bl c => Q c H1
  | _ => False
/-- a reading whose continuation may be weakened (every reading of the layer is; said where it is used) -/
theorem ub {X : Cx} {e : Expr} {t : TE} (h : PE X e t) (he : ∀ whole, isTrue e X.env whole = (do let v ← whole; standAt e.pos; holding [v] (truthy v)) := by intro _; rfl) : PT X e (uB t) := by
  refine ⟨fun pins s σ H Q I hw => ?_⟩
  refine isTrue_plain (thn (h.run pins s σ H _ I hw) fun v s1 ⟨x, H1, I1, r1, q1⟩ => ?_) (he _)
  cases x with
  | bl d =>
    cases r1
    exact wpAny_truthy_bool ⟨H1, I1, q1⟩
  | _ => exact q1.elim

theorem ubc {X : Cx} {op : CmpOp} {r : R2} {a b : Expr} {ta tb : TE} {pos : Pos} (ho : OpR X (compareOp op) r) (ha : PE X a ta) (hb : PE X b tb) (hm : behindInMarks op b = false) : PT X (.Compare a [op] [b] pos) (uB (tOp r ta tb)) := by
  refine ⟨fun pins s σ H Q I h => ?_⟩
  refine wpAny_isTrue_Compare1 (thn (ha.run pins s σ H _ I h) fun v s1 ⟨x, H1, I1, r1, q1⟩ => thn (hb.run pins s1 σ H1 _ I1 q1) fun u s2 ⟨y, H2, I2, r2, q2⟩ =>
    thn (ho pins s2 σ H2 x y v u _ I2 r1 r2 q2) fun c s3 ⟨z, H3, I3, r3, q3⟩ => ?_) hm
  cases z with
  | bl d =>
    cases r3
    exact wpAny_truthy_bool ⟨H3, I3, q3⟩
  | _ => exact q3.elim
/-! ### operators by the values' kinds -/
theorem op_mul_str {X : Cx} : OpR X (binaryOp .Mult) (fun x y H Q => ∃ (z : Str) (k : Int), x = .str z ∧ y = .int k ∧ 1 ≤ k ∧ k ≤ 1000 ∧ 1 ≤ z.length ∧ z.length ≤ 1000 ∧ ∀ r : Str, r.cps.toList = (List.replicate k.toNat z.cps.toList).flatten → Q (.str r) H) := by
  intro pins s σ H x y v u Q I rx ry h
  obtain ⟨z, k, rfl, rfl, h2, h3, h4, h5, q⟩ := h
  obtain ⟨t, rfl⟩ := rx
  obtain ⟨t', rfl⟩ := ry
  have hlen : z.length * k.toNat ≤ 1000000 := Nat.mul_le_mul h5 (show k.toNat ≤ 1000 by omega)
  refine PySem.P.mul_str (by rw [decide_eq_false (by omega), decide_eq_false (by omega)]; rfl) (fun _ _ hq => ?_) (fun _ _ => ?_) ?_
  · have h6 : (1000000 : Int) ≤ (2 ^ 63 - 1) / k := (Int.le_ediv_iff_mul_le (by omega)).mpr (by omega)
    omega
  · unfold Builtin.Str.tooLong
    simp [sizeLine_eq]
    omega
  · rw [if_neg (by omega)]
    have fl : ∀ (n : Nat) (a : Array Nat), ((List.replicate n z.cps).foldl (· ++ ·) a).toList = a.toList ++ (List.replicate n z.cps.toList).flatten := fun n => by
      induction n with
      | zero => intro a; simp
      | succ n ih => intro a; rw [List.replicate_succ, List.foldl_cons, ih, List.replicate_succ, List.flatten_cons, Array.toList_append, List.append_assoc]
    by_cases h1 : k = 1
    · subst h1
      refine ⟨.str z, H, I.tok _, ⟨_, rfl⟩, q z ?_⟩
      simp
    · rw [if_neg (by simp; omega)]
      refine ⟨?_, ⟨.str _, H, I.tok _, ⟨_, rfl⟩, q _ ?_⟩⟩
      · have e := congrArg List.length (fl k.toNat #[])
        have e2 : (List.foldl (fun x1 x2 => x1 ++ x2) #[] (List.replicate k.toNat z.cps)).size = z.length * k.toNat := by
          rw [← Array.length_toList, e]
          simp [Str.length, Nat.mul_comm]
        show Array.size _ ≤ sizeLine
        rw [e2]
        exact big_sz hlen
      · simpa using fl k.toNat #[]

abbrev Frag := PySem.W.Frag
/-- a list or a tuple that can be read -/
def Sq (K : Frag) (H : Hp) (p : Addr) (xs : List V) : Prop := SqL K H p xs ∨ SqT K H p xs
def uAdd : R2 := fun x y H Q => match x, y with
  | .int i, .int j => Q (.int (i + j)) H
  | .str a, .str b => a.length + b.length ≤ 1000000 ∧ Q (.str (a ++ b)) H
  | .ref p, .ref q => ∃ xs ys, H p = some (.lst xs) ∧ H q = some (.lst ys) ∧ xs.length + ys.length ≤ 1000000 ∧ ∀ r, H r = none → Q (.ref r) (upd H r (.lst (xs ++ ys)))
  | _, _ => False
theorem o_add {X : Cx} : OpR X (binaryOp .Add) uAdd := by
  refine imO (orO op_add (orO op_add_str op_cat)) fun x y H Q h => ?_
  cases x <;> cases y <;> first
    | exact h.elim
    | exact .inl ⟨_, _, rfl, rfl, h⟩
    | exact .inr (.inl ⟨_, _, rfl, rfl, big_sz h.1, h.2⟩)
    | (obtain ⟨xs, ys, h1, h2, h3, h4⟩ := h
       exact .inr (.inr ⟨_, _, xs, ys, rfl, rfl, h1, h2, big_sz h3, h4⟩))
def uSub : R2 := fun x y H Q => match x, y with
  | .int i, .int j => Q (.int (i - j)) H
  | _, _ => False
theorem o_sub {X : Cx} : OpR X (binaryOp .Sub) uSub := by
  refine imO op_sub fun x y H Q h => ?_
  cases x <;> cases y <;> first
    | exact h.elim
    | exact ⟨_, _, rfl, rfl, h⟩
def uMul : R2 := fun x y H Q => match x, y with
  | .int i, .int j => ((-(2 ^ 64) < i ∧ i < 2 ^ 64) ∨ (-(2 ^ 64) < j ∧ j < 2 ^ 64)) ∧ Q (.int (i * j)) H
  | .str z, .int k => 1 ≤ k ∧ k ≤ 1000 ∧ 1 ≤ z.length ∧ z.length ≤ 1000 ∧ ∀ r : Str, r.cps.toList = (List.replicate k.toNat z.cps.toList).flatten → Q (.str r) H
  | .ref l, .int k => ∃ xs, H l = some (.lst xs) ∧ 0 ≤ k ∧ k ≤ 1000 ∧ xs.length ≤ 1000 ∧ ∀ p, H p = none → Q (.ref p) (upd H p (.lst (List.replicate k.toNat xs).flatten))
  | _, _ => False
theorem o_mul {X : Cx} : OpR X (binaryOp .Mult) uMul := by
  refine imO (orO op_mul (orO op_mul_str op_rep)) fun x y H Q h => ?_
  cases x <;> cases y <;> first
    | exact h.elim
    | exact .inl ⟨_, _, rfl, rfl, h⟩
    | exact .inr (.inl ⟨_, _, rfl, rfl, h⟩)
    | (obtain ⟨xs, h1, h2, h3, h4, h5⟩ := h
       exact .inr (.inr ⟨_, _, xs, rfl, rfl, h1, by omega, by omega, big_sz (Nat.mul_le_mul h4 (Int.toNat_le.mpr h3)), h5⟩))
def uMod : R2 := fun x y H Q => match x, y with
  | .int i, .int j => 0 < j ∧ Q (.int (i % j)) H
  | _, _ => False
theorem o_mod {X : Cx} : OpR X (binaryOp .Mod) uMod := by
  refine imO op_mod fun x y H Q h => ?_
  cases x <;> cases y <;> first
    | exact h.elim
    | exact ⟨_, _, rfl, rfl, h⟩
def uDiv : R2 := fun x y H Q => match x, y with
  | .int i, .int j => (0 < j ∧ j < 1073741824) ∧ Q (.int (i / j)) H
  | _, _ => False
theorem o_div {X : Cx} : OpR X (binaryOp .FloorDiv) uDiv := by
  refine imO op_fdiv fun x y H Q h => ?_
  cases x <;> cases y <;> first
    | exact h.elim
    | exact ⟨_, _, rfl, rfl, h⟩
def uPow : R2 := fun x y H Q => match x, y with
  | .int i, .int j => (0 ≤ j ∧ j ≤ 1000000 ∧ i.natAbs < 2 ^ 64) ∧ Q (.int (i ^ j.toNat)) H
  | _, _ => False
theorem o_pow {X : Cx} : OpR X (binaryOp .Pow) uPow := by
  refine imO op_pow fun x y H Q h => ?_
  cases x <;> cases y <;> first
    | exact h.elim
    | exact ⟨_, _, rfl, rfl, h⟩
def uCmp (f : Int → Int → Bool) : R2 := fun x y H Q => match x, y with
  | .int i, .int j => Q (.bl (f i j)) H
  | _, _ => False
theorem im_cmp {X : Cx} {op : CmpOp} {f : Int → Int → Bool} (h : OpR X (compareOp op) (rI0 fun i j => .bl (f i j))) : OpR X (compareOp op) (uCmp f) := by
  refine imO h fun x y H Q h => ?_
  cases x <;> cases y <;> first
    | exact h.elim
    | exact ⟨_, _, rfl, rfl, h⟩
abbrev uLt : R2 := uCmp fun i j => decide (i < j)
abbrev uLe : R2 := uCmp fun i j => decide (i ≤ j)
abbrev uGt : R2 := uCmp fun i j => decide (j < i)
abbrev uGe : R2 := uCmp fun i j => decide (j ≤ i)
theorem o_lt {X : Cx} : OpR X (compareOp .Lt) uLt := im_cmp op_lt
theorem o_le {X : Cx} : OpR X (compareOp .LtE) uLe := im_cmp op_le
theorem o_gt {X : Cx} : OpR X (compareOp .Gt) uGt := im_cmp op_gt
theorem o_ge {X : Cx} : OpR X (compareOp .GtE) uGe := im_cmp op_ge
/-- ==: scalars at once, data at any depth by what they are -/
def uEqD (K : Frag) (x y : V) (H : Hp) (Q : Bool → Prop) : Prop := ∃ d e, Dp K H x d ∧ Dp K H y e ∧ SeqAt.shaped d = true ∧ SeqAt.shaped e = true ∧ Q (PyData.eqv d e)
def uEq0 (K : Frag) (x y : V) (H : Hp) (Q : Bool → Prop) : Prop := match x, y with
  | .int i, .int j => Q (decide (i = j))
  | .str i, .str j => Q (decide (i = j))
  | .bl i, .bl j => Q (decide (i = j))
  | .non, .non => Q true
  | .non, .int _ => Q false
  | .int _, .non => Q false
  | .non, .bl _ => Q false
  | .bl _, .non => Q false
  | .non, .str _ => Q false
  | .str _, .non => Q false
  | .int _, .str _ => Q false
  | .str _, .int _ => Q false
  | .bl _, .str _ => Q false
  | .str _, .bl _ => Q false
  | x, y => uEqD K x y H Q
def uEq (K : Frag) : R2 := fun x y H Q => uEq0 K x y H fun b => Q (.bl b) H
def uNe (K : Frag) : R2 := fun x y H Q => uEq0 K x y H fun b => Q (.bl !b) H
theorem eq0_imp {K : Frag} {x y : V} {H : Hp} {Q : Bool → Prop} (h : uEq0 K x y H Q) : (scal x y = true ∧ Q (decide (x = y))) ∨ uEqD K x y H Q := by
  have di : ∀ i j : Int, decide (V.int i = V.int j) = decide (i = j) := fun i j => by simp
  have ds : ∀ i j : Str, decide (V.str i = V.str j) = decide (i = j) := fun i j => by simp
  have db : ∀ i j : Bool, decide (V.bl i = V.bl j) = decide (i = j) := fun i j => by simp
  cases x <;> cases y <;> first
    | exact .inr h
    | exact .inl ⟨rfl, by rw [di]; exact h⟩
    | exact .inl ⟨rfl, by rw [ds]; exact h⟩
    | exact .inl ⟨rfl, by rw [db]; exact h⟩
    | exact .inl ⟨rfl, h⟩
theorem o_eq {X : Cx} (hu : X.A.units + 64 < cLine) : OpR X (compareOp .Eq) (uEq X.K) := imO (orO op_eq (op_eqD hu)) fun _ _ _ _ h => eq0_imp h
theorem o_ne {X : Cx} (hu : X.A.units + 64 < cLine) : OpR X (compareOp .NotEq) (uNe X.K) := imO (orO op_ne (op_neD hu)) fun _ _ _ _ h => eq0_imp h
/-- in: one sign in a text; a flat thing in a list or tuple -/
def uIn0 (K : Frag) (x y : V) (H : Hp) (Q : Bool → Prop) : Prop := match y with
  | .str z => ∃ c : Nat, x = .str ⟨#[c]⟩ ∧ Q (decide (c ∈ z.cps.toList))
  | .ref p => ∃ xs, Sq K H p xs ∧ flatV x = true ∧ xs.all flatV = true ∧ Q (inV x xs)
  | _ => False
def uIn (K : Frag) : R2 := fun x y H Q => uIn0 K x y H fun b => Q (.bl b) H
def uNotIn (K : Frag) : R2 := fun x y H Q => uIn0 K x y H fun b => Q (.bl !b) H
theorem o_in {X : Cx} : OpR X (compareOp .In) (uIn X.K) := by
  refine imO (orO op_in_sign op_in_seq) fun x y H Q h => ?_
  cases y with
  | str z =>
    obtain ⟨c, e, q⟩ := h
    exact .inl ⟨c, z, e, rfl, q⟩
  | ref p =>
    obtain ⟨xs, h1, h2, h3, q⟩ := h
    exact .inr ⟨p, xs, rfl, h1, h2, h3, q⟩
  | _ => exact h.elim
theorem o_notIn {X : Cx} : OpR X (compareOp .NotIn) (uNotIn X.K) := by
  refine imO (orO op_notIn_sign op_notIn_seq) fun x y H Q h => ?_
  cases y with
  | str z =>
    obtain ⟨c, e, q⟩ := h
    exact .inl ⟨c, z, e, rfl, q⟩
  | ref p =>
    obtain ⟨xs, h1, h2, h3, q⟩ := h
    exact .inr ⟨p, xs, rfl, h1, h2, h3, q⟩
  | _ => exact h.elim
/-- an item by its place -/
def uIx (K : Frag) : R2 := fun x y H Q => match x, y with
  | .str z, .int i => z.length ≤ 1000000 ∧ ∃ c, atI z.cps.toList i = some c ∧ Q (.str ⟨#[c]⟩) H
  | .ref p, .int i => ∃ xs v, Sq K H p xs ∧ atI xs i = some v ∧ Q v H
  | _, _ => False
theorem x_ix {X : Cx} : IxR X (uIx X.K) := by
  refine imX (orX ix_str (orX ix_list ix_tup)) fun x y H Q h => ?_
  cases x <;> cases y <;> first
    | exact h.elim
    | (obtain ⟨h1, c, h2, h3⟩ := h
       exact .inl ⟨_, _, c, rfl, rfl, big_sz h1, h2, h3⟩)
    | (obtain ⟨xs, v, h1, h2, h3⟩ := h
       rcases h1 with h1 | h1
       · exact .inr (.inl ⟨_, xs, _, v, rfl, rfl, h1, h2, h3⟩)
       · exact .inr (.inr ⟨_, xs, _, v, rfl, rfl, h1, h2, h3⟩))
/-- a slice of a text or a list -/
def uSl (K : Frag) : V → Option Int → Option Int → Hp → VK → Prop := fun x lo hi H Q => match x with
  | .str z => z.length ≤ 1000000 ∧ Q (.str (cutS z lo hi)) H
  | .ref a => ∃ xs, SqL K H a xs ∧ ∀ p, H p = none → Q (.ref p) (upd H p (.lst (cutV xs lo hi)))
  | _ => False
theorem imSl {X : Cx} {r u : V → Option Int → Option Int → Hp → VK → Prop} (h : L2.SlR X r) (k : ∀ x lo hi H Q, u x lo hi H Q → r x lo hi H Q) : L2.SlR X u :=
  fun pins s σ H x v vl vu lo hi sl Q I rx i1 i2 i3 q => h pins s σ H x v vl vu lo hi sl Q I rx i1 i2 i3 (k x lo hi H Q q)
theorem orSl {X : Cx} {r u : V → Option Int → Option Int → Hp → VK → Prop} (h : L2.SlR X r) (k : L2.SlR X u) : L2.SlR X (fun x lo hi H Q => r x lo hi H Q ∨ u x lo hi H Q) :=
  fun pins s σ H x v vl vu lo hi sl Q I rx i1 i2 i3 q => q.elim (h pins s σ H x v vl vu lo hi sl Q I rx i1 i2 i3) (k pins s σ H x v vl vu lo hi sl Q I rx i1 i2 i3)
theorem s_sl {X : Cx} : L2.SlR X (uSl X.K) := by
  refine imSl (orSl sl_str sl_list) fun x lo hi H Q h => ?_
  cases x with
  | str z => exact .inl ⟨z, rfl, big_sz h.1, h.2⟩
  | ref a =>
    obtain ⟨xs, h1, h2⟩ := h
    exact .inr ⟨a, xs, rfl, h1, h2⟩
  | _ => exact h.elim
/-- an end of a slice -/
def uPart (t : TE) : TO := fun σ H Q => t σ H fun x H1 => match x with
  | .int i => Q (some i) H1
  | _ => False
theorem imPO {X : Cx} {e : Option Expr} {t u : TO} (h : PO X e t) (k : ∀ σ H Q, u σ H Q → t σ H Q) : PO X e u := ⟨fun pins s σ H Q I q => h.run pins s σ H Q I (k σ H Q q)⟩
/-- where a reading's continuation may be weakened -/
def Mono (t : TE) : Prop := ∀ σ H (Q Q' : VK), (∀ v H', Q v H' → Q' v H') → t σ H Q → t σ H Q'
/-! ### built-ins by name -/
def uLen (K : Frag) : List V → Hp → VK → Prop := fun xs H Q => match xs with
  | [.str z] => z.length ≤ 1000000 ∧ Q (.int z.length) H
  | [.ref p] => ∃ ys, Sq K H p ys ∧ Q (.int ys.length) H
  | _ => False
theorem b_len {X : Cx} : CallR X (.builtin "len") (uLen X.K) := by
  refine imC (orC call_len_str call_len_seq) fun xs H Q h => ?_
  unfold uLen at h
  split at h
  · exact .inl ⟨_, rfl, big_sz h.1, h.2⟩
  · obtain ⟨ys, h1, h2⟩ := h
    exact .inr ⟨_, ys, rfl, h1, h2⟩
  · exact h.elim
def uAbs : List V → Hp → VK → Prop := fun xs H Q => match xs with
  | [.int i] => Q (.int (if i < 0 then -i else i)) H
  | _ => False
theorem b_abs {X : Cx} : CallR X (.builtin "abs") uAbs := by
  refine imC call_abs fun xs H Q h => ?_
  unfold uAbs at h
  split at h
  · exact ⟨_, rfl, h⟩
  · exact h.elim
def uMin2 : List V → Hp → VK → Prop := fun xs H Q => match xs with
  | [.int i, .int j] => Q (.int (if j < i then j else i)) H
  | _ => False
theorem b_min2 {X : Cx} (hc : X.calm = true) : CallR X (.builtin "min") uMin2 := by
  refine imC (call_min2 hc) fun xs H Q h => ?_
  unfold uMin2 at h
  split at h
  · exact ⟨_, _, rfl, h⟩
  · exact h.elim
def uMax2 : List V → Hp → VK → Prop := fun xs H Q => match xs with
  | [.int i, .int j] => Q (.int (if j > i then j else i)) H
  | _ => False
theorem b_max2 {X : Cx} (hc : X.calm = true) : CallR X (.builtin "max") uMax2 := by
  refine imC (call_max2 hc) fun xs H Q h => ?_
  unfold uMax2 at h
  split at h
  · exact ⟨_, _, rfl, h⟩
  · exact h.elim
def uInt : List V → Hp → VK → Prop := fun xs H Q => match xs with
  | [.int i] => Q (.int i) H
  | _ => False
theorem b_int {X : Cx} : CallR X (.type "int") uInt := by
  refine imC call_int1 fun xs H Q h => ?_
  unfold uInt at h
  split at h
  · exact .inl ⟨_, rfl, h⟩
  · exact h.elim
def uList (K : Frag) : List V → Hp → VK → Prop := fun xs H Q => match xs with
  | [.ref p] => ∃ ys, Sq K H p ys ∧ ∀ l, H l = none → Q (.ref l) (upd H l (.lst ys))
  | _ => False
theorem b_list {X : Cx} : CallR X (.type "list") (uList X.K) := by
  refine imC call_list_of fun xs H Q h => ?_
  unfold uList at h
  split at h
  · obtain ⟨ys, h1, h2⟩ := h
    exact ⟨_, ys, rfl, h1, h2⟩
  · exact h.elim
def uTuple (K : Frag) : List V → Hp → VK → Prop := fun xs H Q => match xs with
  | [.ref p] => ∃ ys, (SqL K H p ys ∧ ∀ l, H l = none → Q (.ref l) (upd H l (.tup ys))) ∨ (SqT K H p ys ∧ Q (.ref p) H)
  | _ => False
theorem b_tuple {X : Cx} : CallR X (.type "tuple") (uTuple X.K) := by
  refine imC call_tuple_of fun xs H Q h => ?_
  unfold uTuple at h
  split at h
  · obtain ⟨ys, h1⟩ := h
    exact ⟨_, ys, rfl, h1⟩
  · exact h.elim
/-! ### isinstance with a built-in class -/
/-- the type's name of a value, where H tells it -/
def tyN : HO → Option String
  | .lst _ => some "list"
  | .tup _ => some "tuple"
  | .dK _ => some "dict"
  | .dT _ => some "dict"
  | _ => none
def kb (a b : String) : Bool := (kitB a b).getD false
/-- isinstance(x, T) -/
@[irreducible] def uIs (K : Frag) (T : String) (x : V) (H : Hp) (Q : Bool → Prop) : Prop := match x with
  | .non => Q (kb "NoneType" T)
  | .bl _ => Q (kb "bool" T)
  | .int _ => Q (kb "int" T)
  | .str _ => Q (kb "str" T)
  | .ref p => (∃ o n, H p = some o ∧ tyN o = some n ∧ Q (kb n T)) ∨ (∃ t b, TyX K H (.ref p) t ∧ PySem.W.kitOne K t (.type T) = some b ∧ Q b)
  | _ => False
def uIsi (K : Frag) (T : String) : List V → Hp → VK → Prop := fun xs H Q => match xs with
  | [x, .ty T'] => T' = T ∧ uIs K T x H fun b => Q (.bl b) H
  | _ => False
/-- the types that are asked for -/
def tysOk (T : String) : Bool := ["NoneType", "bool", "int", "str", "list", "tuple", "dict"].all fun a => (kitB a T).isSome
theorem kb_ok {T : String} (h : tysOk T = true) {a : String} (ha : a ∈ ["NoneType", "bool", "int", "str", "list", "tuple", "dict"]) (K : Frag) : PySem.W.kitOne K (.type a) (.type T) = some (kb a T) := by
  refine kit_ty ?_
  unfold tysOk at h
  rw [List.all_eq_true] at h
  have q := h a ha
  unfold kb
  cases e : kitB a T with
  | none => rw [e] at q; cases q
  | some b => rfl
theorem tyN_ok {K : Frag} {H : Hp} {p : Addr} {o : HO} {n : String} (h : H p = some o) (e : tyN o = some n) : TyX K H (.ref p) (.type n) ∧ n ∈ ["NoneType", "bool", "int", "str", "list", "tuple", "dict"] := by
  cases o with
  | lst xs => cases e; exact ⟨.base (.lst h), by decide⟩
  | tup xs => cases e; exact ⟨.base (.tup h), by decide⟩
  | dK xs => cases e; exact ⟨.base (.dK h), by decide⟩
  | dT xs => cases e; exact ⟨.base (.dT h), by decide⟩
  | _ => cases e
theorem uIs_imp {K : Frag} {T : String} {x : V} {H : Hp} {Q : Bool → Prop} (hT : tysOk T = true) (h : uIs K T x H Q) : ∃ t b, TyX K H x t ∧ PySem.W.kitOne K t (.type T) = some b ∧ Q b := by
  unfold uIs at h
  cases x with
  | non => exact ⟨_, _, .base .non, kb_ok hT (by decide) K, h⟩
  | bl b => exact ⟨_, _, .base (.bl b), kb_ok hT (by decide) K, h⟩
  | int b => exact ⟨_, _, .base (.int b), kb_ok hT (by decide) K, h⟩
  | str b => exact ⟨_, _, .base (.str b), kb_ok hT (by decide) K, h⟩
  | ref p =>
    rcases h with ⟨o, n, h1, h2, h3⟩ | h
    · obtain ⟨h4, h5⟩ := tyN_ok (K := K) h1 h2
      exact ⟨_, _, h4, kb_ok hT h5 K, h3⟩
    · exact h
  | _ => exact h.elim
theorem b_isi {X : Cx} {T : String} (hT : tysOk T = true) : CallR X (.builtin "isinstance") (uIsi X.K T) := by
  refine imC call_isi fun xs H Q h => ?_
  unfold uIsi at h
  split at h
  · obtain ⟨rfl, h⟩ := h
    obtain ⟨t, b, h1, h2, h3⟩ := uIs_imp hT h
    exact ⟨_, _, t, _, b, rfl, .ty _, h1, h2, h3⟩
  · exact h.elim
/-! ### what a for walks: a text, a list, a tuple -/
def uIter (K : Frag) (te : TE) : TI := fun σ H R => te σ H fun x H1 => match x with
  | .str z => R (Its z) H1
  | .ref a => (∃ xs, SqL K H1 a xs ∧ R (Itl K a) H1) ∨ (∃ xs, SqT K H1 a xs ∧ R (Itt K a) H1)
  | _ => False
def uRng1 (ta : TA) : TI := fun σ H R => ta σ H fun vs H1 => match vs with
  | [.int j] => (-(2 ^ 62) ≤ j ∧ j < 2 ^ 62) ∧ R (Itr 0 j.toNat) H1
  | _ => False
def uRng2 (ta : TA) : TI := fun σ H R => ta σ H fun vs H1 => match vs with
  | [.int i, .int j] => (-(2 ^ 62) ≤ i ∧ i < 2 ^ 62 ∧ -(2 ^ 62) ≤ j ∧ j < 2 ^ 62) ∧ R (Itr i (j - i).toNat) H1
  | _ => False
theorem i_iter {X : Cx} {tg l : Expr} {te : TE} (hl : PE X l te) : PI X tg l (uIter X.K te) := by
  refine ⟨fun pins s σ H R I h => ?_⟩
  refine thn (hl.run pins s σ H _ I h) fun v s1 ⟨x, H1, I1, r1, q1⟩ => ?_
  cases x with
  | str x =>
    obtain ⟨t, rfl⟩ := r1
    cases ha : x.cps.all (· < 128)
    · exact wpAny_pyIter_wide ha (pi_one (tk := s1.toks) I1 _ (turn_str _ x t "str_iterator" (.inr rfl)) ⟨_, Heap.get?_push_size _ rfl, rfl, rfl⟩ q1)
    · exact wpAny_pyIter_ascii ha (pi_one (tk := s1.toks) I1 _ (turn_str _ x t "str_ascii_iterator" (.inl rfl)) ⟨_, Heap.get?_push_size _ rfl, rfl, rfl⟩ q1)
  | ref a =>
    cases r1
    rcases q1 with ⟨xs, hq, q⟩ | ⟨xs, hq, q⟩
    · obtain ⟨its, rv, p, hz⟩ := I1.list hq
      refine wpAny_pyIter_list p.isList ?_
      refine ⟨s1.heap.objs.size, [s1.heap.objs.size], _, _, H1, rfl, I1.kept (t' := s1.toks) fun b o e => Heap.get?_push_of_some _ e, turn_list a _, ⟨_, Heap.get?_push_size _ rfl, rfl, rfl⟩, fun b hb => ?_, q⟩
      have e : b = s1.heap.objs.size := by simpa using hb
      subst e
      exact I1.fpOk (Nat.le_refl _) (I1.hok.fresh (Nat.le_refl _))
    · obtain ⟨its, rv, p, hz⟩ := I1.tuple hq
      refine wpAny_pyIter_tuple (show s1.heap.IsTuple a its.toArray from p) ?_
      refine ⟨s1.heap.objs.size, [s1.heap.objs.size], _, _, H1, rfl, I1.kept (t' := s1.toks) fun b o e => Heap.get?_push_of_some _ e, turn_tuple a _, ⟨_, Heap.get?_push_size _ rfl, rfl, rfl⟩, fun b hb => ?_, q⟩
      have e : b = s1.heap.objs.size := by simpa using hb
      subst e
      exact I1.fpOk (Nat.le_refl _) (I1.hok.fresh (Nat.le_refl _))
  | _ => exact q1.elim
theorem i_rng1 {X : Cx} {tg a : Expr} {ta : TA} {p pos : Pos} (hg : Gl X "range") (hm : X.mg "range" = none) (ha : PA X [a] ta) (hs : starEach [a] X.env = [(false, eval a X.env)] := by rfl) : PI X tg (.Call (.Name "range" p) [a] [] pos) (uRng1 ta) := by
  refine ⟨fun pins s σ H R I h => ?_⟩
  refine Call_ (ld_blt I hg hm boot_range (PyProof.Rows.callWith_type1 (thn (ha.run pos pins s σ H _ I h) fun us s1 ⟨vs, H1, I1, r1, q1⟩ => ?_) hs rfl))
  dsimp only at q1
  split at q1
  · obtain ⟨⟨q1, q2⟩, q⟩ := q1
    cases r1 with
    | cons r rr =>
      cases rr
      obtain ⟨t, rfl⟩ := r
      exact call_range_1 (range_it I1 (by omega) (by omega) q1 q2 (by simpa using q))
  · exact q1.elim
theorem i_rng2 {X : Cx} {tg a b : Expr} {ta : TA} {p pos : Pos} (hg : Gl X "range") (hm : X.mg "range" = none) (ha : PA X [a, b] ta) (hs : starEach [a, b] X.env = [(false, eval a X.env), (false, eval b X.env)] := by rfl) (hs2 : starEach [b] X.env = [(false, eval b X.env)] := by rfl) :
    PI X tg (.Call (.Name "range" p) [a, b] [] pos) (uRng2 ta) := by
  refine ⟨fun pins s σ H R I h => ?_⟩
  refine Call_ (ld_blt I hg hm boot_range (PyProof.Rows.callWith_type1 (thn (ha.run pos pins s σ H _ I h) fun us s1 ⟨vs, H1, I1, r1, q1⟩ => ?_) (by rw [hs, hs2]) (by rw [hs2]; rfl)))
  dsimp only at q1
  split at q1
  · obtain ⟨⟨q1, q2, q3, q4⟩, q⟩ := q1
    cases r1 with
    | cons r rr =>
      cases rr with
      | cons r' rr =>
        cases rr
        obtain ⟨t, rfl⟩ := r
        obtain ⟨t', rfl⟩ := r'
        exact call_range_2 (range_it I1 q1 q2 q3 q4 q)
  · exact q1.elim
theorem p_some {X : Cx} {e : Expr} {te : TE} (h : PE X e te) : PO X (some e) (uPart te) := by
  refine ⟨fun pins s σ H Q I hw => ?_⟩
  rw [evalPart_some]
  refine thn (h.run pins s σ H _ I hw) fun u s1 ⟨x, H1, I1, r1, q1⟩ => ?_
  cases x with
  | int i =>
    obtain ⟨t, rfl⟩ := r1
    exact ⟨some i, H1, I1, .int i t, q1⟩
  | _ => exact q1.elim
/-! ### methods of built-in types -/
def uM (ty : V → Hp → Prop) (r : V → List V → Hp → VK → Prop) (to : TE) (t : TA) : TE := fun σ H Q => to σ H fun x H1 => ty x H1 ∧ t σ H1 fun xs H2 => r x xs H2 Q
def uM0 (ty : V → Hp → Prop) (r : V → List V → Hp → VK → Prop) (to : TE) : TE := fun σ H Q => to σ H fun x H1 => ty x H1 ∧ r x [] H1 Q
section
variable {X : Cx} {o : Expr} {to : TE} {name : Str} {apos cpos : Pos} {T id : String} {e : Expr} {es : List Expr} {t : TA} {r r' : V → List V → Hp → VK → Prop} {ty : V → Hp → Prop}
theorem m_bm (pa : PlainAttrs T) (slot : Slot T name id) (hty : typeOf (.builtin id) = pure (.type "method_descriptor")) (hm : MtR X id r) (ht : ∀ x H, ty x H → tyV X.K T x H) (hr : ∀ x xs H Q, r' x xs H Q → r x xs H Q) (ho : PE X o to) (ha : PA X (e :: es) t)
    (hbase : attributeBase o name X.env (eval o X.env) = eval o X.env := by rfl)
    (hfew : ((backTo cpos (starEach (e :: es) X.env)).all (fun x => !x.1) && (backToKw cpos (keywordEach [] X.env)).all (fun x => x.1.isSome)
      && decide ((e :: es).length + ([] : List Keyword).length + (if ([] : List Keyword).isEmpty then 0 else 1) < 30)) = true := by rfl)
    (hline : (apos.endLine == cpos.line) = true := by rfl) (hs : starEach (e :: es) X.env = (false, eval e X.env) :: starEach es X.env := by rfl) (hplain : (backTo cpos (starEach es X.env)).any (·.1) = false := by rfl) :
    PE X (.Call (.Attribute o name apos) (e :: es) [] cpos) (uM ty r' to t) := by
  refine ⟨fun pins s σ H Q I h => ?_⟩
  refine wpAny_Call_method_late hbase hfew hline rfl (thn (ho.run pins s σ H _ I h) fun v s1 ⟨x, H1, I1, r1, ty, q1⟩ => ?_)
  obtain ⟨h1, h2⟩ := tyV_is I1 r1 (ht _ _ ty)
  refine ⟨T, id, pa, slot, hty, h1, h2, ?_⟩
  have hA := ha.run cpos pins s1 σ H1 _ I1 q1
  rw [hs] at hA ⊢
  refine Calls.callWith_builtin (by show (false || (backTo cpos (starEach es X.env)).any (·.1)) = false; rw [hplain] <;> rfl) (Calls.evalArgs_plain ?_)
  exact thn hA fun us s2 ⟨vs, H2, I2, r2, q2⟩ => hm pins s2 σ H2 x vs v us Q I2 r1 r2 (hr _ _ _ _ q2)
end
def isS (x : V) (_ : Hp) : Prop := match x with
  | .str _ => True
  | _ => False
def isL (x : V) (H : Hp) : Prop := match x with
  | .ref p => ∃ xs, H p = some (.lst xs)
  | _ => False
theorem isS_ty {K : Frag} (x : V) (H : Hp) (h : isS x H) : tyV K "str" x H := by
  cases x with
  | str z => rfl
  | _ => exact h.elim
theorem isL_ty {K : Frag} (x : V) (H : Hp) (h : isL x H) : tyV K "list" x H := by
  cases x with
  | ref p =>
    obtain ⟨xs, h⟩ := h
    exact .inl ⟨rfl, xs, SqL.of h⟩
  | _ => exact h.elim
/-- xs.append(v) -/
def uApp : V → List V → Hp → VK → Prop := fun x vs H Q => match x, vs with
  | .ref p, [v] => ∃ xs, H p = some (.lst xs) ∧ xs.length < 1000000 ∧ Q .non (upd H p (.lst (xs ++ [v])))
  | _, _ => False
/-- xs.pop(i) -/
def uPopAt : V → List V → Hp → VK → Prop := fun x vs H Q => match x, vs with
  | .ref p, [.int i] => ∃ xs k y, H p = some (.lst xs) ∧ i = (k : Nat) ∧ k < 1000000 ∧ xs[k]? = some y ∧ Q y (upd H p (.lst (xs.eraseIdx k)))
  | _, _ => False
/-- sep.join(texts) -/
def uJoin (K : Frag) : V → List V → Hp → VK → Prop := fun x vs H Q => match x, vs with
  | .str a, [.ref p] => ∃ ys : List Str, Sq K H p (ys.map V.str) ∧ (ys.map (·.length)).sum + ys.length * a.length ≤ 16777216 ∧ Q (.str (Txt.join a ys)) H
  | _, _ => False
section
variable {X : Cx} {o : Expr} {to : TE} {apos cpos : Pos} {e : Expr} {es : List Expr} {t : TA}
theorem m_app (ho : PE X o to) (ha : PA X [e] t) (hbase : attributeBase o "append" X.env (eval o X.env) = eval o X.env := by rfl)
    (hfew : ((backTo cpos (starEach [e] X.env)).all (fun x => !x.1) && (backToKw cpos (keywordEach [] X.env)).all (fun x => x.1.isSome)
      && decide ([e].length + ([] : List Keyword).length + (if ([] : List Keyword).isEmpty then 0 else 1) < 30)) = true := by rfl)
    (hline : (apos.endLine == cpos.line) = true := by rfl) (hs : starEach [e] X.env = (false, eval e X.env) :: starEach [] X.env := by rfl) :
    PE X (.Call (.Attribute o "append" apos) [e] [] cpos) (uM isL uApp to t) := by
  refine m_bm PySem.F.plainAttrs_list PySem.F.slot_list_append PySem.F.type_list_append mt_append isL_ty (fun x xs H Q h => ?_) ho ha hbase hfew hline hs rfl
  unfold uApp at h
  split at h
  · obtain ⟨ys, h1, h2, h3⟩ := h
    exact ⟨_, ys, _, rfl, rfl, h1, Nat.lt_of_lt_of_le h2 (big_sz (Nat.le_refl _)), h3⟩
  · exact h.elim
theorem m_popAt (ho : PE X o to) (ha : PA X [e] t) (hbase : attributeBase o "pop" X.env (eval o X.env) = eval o X.env := by rfl)
    (hfew : ((backTo cpos (starEach [e] X.env)).all (fun x => !x.1) && (backToKw cpos (keywordEach [] X.env)).all (fun x => x.1.isSome)
      && decide ([e].length + ([] : List Keyword).length + (if ([] : List Keyword).isEmpty then 0 else 1) < 30)) = true := by rfl)
    (hline : (apos.endLine == cpos.line) = true := by rfl) (hs : starEach [e] X.env = (false, eval e X.env) :: starEach [] X.env := by rfl) :
    PE X (.Call (.Attribute o "pop" apos) [e] [] cpos) (uM isL uPopAt to t) := by
  refine m_bm PySem.F.plainAttrs_list PySem.F.slot_list_pop PySem.F.type_list_pop mt_popAt isL_ty (fun x xs H Q h => ?_) ho ha hbase hfew hline hs rfl
  unfold uPopAt at h
  split at h
  · obtain ⟨ys, k, y, h1, rfl, h3, h4, h5⟩ := h
    refine ⟨_, ys, _, k, y, rfl, rfl, h1, by omega, by omega, ?_, h4, h5⟩
    exact (ixN_seq (show ixN ys.length (k : Int) = some k by
      have hk := (List.getElem?_eq_some_iff.mp h4).1
      unfold ixN
      rw [if_pos (by omega), if_pos (by omega)]
      simp)).1
  · exact h.elim
theorem m_join (ho : PE X o to) (ha : PA X [e] t) (hbase : attributeBase o "join" X.env (eval o X.env) = eval o X.env := by rfl)
    (hfew : ((backTo cpos (starEach [e] X.env)).all (fun x => !x.1) && (backToKw cpos (keywordEach [] X.env)).all (fun x => x.1.isSome)
      && decide ([e].length + ([] : List Keyword).length + (if ([] : List Keyword).isEmpty then 0 else 1) < 30)) = true := by rfl)
    (hline : (apos.endLine == cpos.line) = true := by rfl) (hs : starEach [e] X.env = (false, eval e X.env) :: starEach [] X.env := by rfl) :
    PE X (.Call (.Attribute o "join" apos) [e] [] cpos) (uM isS (uJoin X.K) to t) := by
  refine m_bm PySem.F.plainAttrs_str PySem.F.slot_str_join PySem.F.type_str_join mt_join isS_ty (fun x xs H Q h => ?_) ho ha hbase hfew hline hs rfl
  unfold uJoin at h
  split at h
  · obtain ⟨ys, h1, h2, h3⟩ := h
    exact ⟨_, _, ys, rfl, rfl, h1, h2, h3⟩
  · exact h.elim
end
/-! ### the module's names -/
def GV (mg : Str → Option Value) (x : Str) (v : V) : Prop := ∃ u, mg x = some u ∧ RelV v u
theorem g_v {X : Cx} {x : Str} {v : V} {pos : Pos} (h : GV X.mg x v) (hg : Gl X x) (hd : (x == ("__debug__" : Str)) = false := by decide) : PE X (.Name x pos) (tC v) := by
  obtain ⟨u, h1, h2⟩ := h
  exact pe_glob hg h1 h2 hd
/-- the built-ins that the texts use are the built-ins -/
structure Free (mg : Str → Option Value) : Prop where
  len : mg "len" = none
  range : mg "range" = none
  int : mg "int" = none
  str : mg "str" = none
  bool : mg "bool" = none
  list : mg "list" = none
  tuple : mg "tuple" = none
  dict : mg "dict" = none
  min : mg "min" = none
  max : mg "max" = none
  abs : mg "abs" = none
  isinstance : mg "isinstance" = none
  sorted : mg "sorted" = none
  set : mg "set" = none
  iter : mg "iter" = none
  ValueError : mg "ValueError" = none
  super : mg "super" = none
section
variable {X : Cx} {e : Expr} {es : List Expr} {t te : TE} {ta : TA} {p p2 pos : Pos}
theorem k_len (f : Free X.mg) (hg : Gl X "len") (ha : PA X [e] ta) (he : starEach [e] X.env = (false, eval e X.env) :: starEach [] X.env := by rfl) : PE X (.Call (.Name "len" p) [e] [] pos) (tCB (uLen X.K) ta) :=
  pe_callB b_len hg f.len PySem.boot_len ha (by decide) (by decide) he rfl
theorem k_abs (f : Free X.mg) (hg : Gl X "abs") (ha : PA X [e] ta) (he : starEach [e] X.env = (false, eval e X.env) :: starEach [] X.env := by rfl) : PE X (.Call (.Name "abs" p) [e] [] pos) (tCB uAbs ta) :=
  pe_callB b_abs hg f.abs (by decide +kernel) ha (by decide) (by decide) he rfl
theorem k_min (f : Free X.mg) (hg : Gl X "min") (hc : X.calm = true) (ha : PA X (e :: es) ta) (he : starEach (e :: es) X.env = (false, eval e X.env) :: starEach es X.env := by rfl) (hpl : (backTo pos (starEach es X.env)).any (·.1) = false := by rfl) : PE X (.Call (.Name "min" p) (e :: es) [] pos) (tCB uMin2 ta) :=
  pe_callB (b_min2 hc) hg f.min (by decide +kernel) ha (by decide) (by decide) he hpl
theorem k_max (f : Free X.mg) (hg : Gl X "max") (hc : X.calm = true) (ha : PA X (e :: es) ta) (he : starEach (e :: es) X.env = (false, eval e X.env) :: starEach es X.env := by rfl) (hpl : (backTo pos (starEach es X.env)).any (·.1) = false := by rfl) : PE X (.Call (.Name "max" p) (e :: es) [] pos) (tCB uMax2 ta) :=
  pe_callB (b_max2 hc) hg f.max (by decide +kernel) ha (by decide) (by decide) he hpl
theorem k_int (f : Free X.mg) (hg : Gl X "int") (ha : PA X [e] ta) (he : starEach [e] X.env = (false, eval e X.env) :: starEach [] X.env := by rfl) : PE X (.Call (.Name "int" p) [e] [] pos) (tCB uInt ta) :=
  pe_callTy b_int hg f.int (by decide +kernel) ha (by decide) (by decide) he rfl
theorem k_list (f : Free X.mg) (hg : Gl X "list") (ha : PA X [e] ta) (he : starEach [e] X.env = (false, eval e X.env) :: starEach [] X.env := by rfl) : PE X (.Call (.Name "list" p) [e] [] pos) (tCB (uList X.K) ta) :=
  pe_callTy b_list hg f.list (by decide +kernel) ha (by decide) (by decide) he rfl
theorem k_tuple (f : Free X.mg) (hg : Gl X "tuple") (ha : PA X [e] ta) (he : starEach [e] X.env = (false, eval e X.env) :: starEach [] X.env := by rfl) : PE X (.Call (.Name "tuple" p) [e] [] pos) (tCB (uTuple X.K) ta) :=
  pe_callTy b_tuple hg f.tuple (by decide +kernel) ha (by decide) (by decide) he rfl
/-- isinstance(e, T), T a built-in class -/
def uIsE (K : Frag) (T : String) (te : TE) : TE := fun σ H Q => te σ H fun x H1 => uIs K T x H1 fun b => Q (.bl b) H1
theorem k_isi {T : String} {n : Str} (hT : tysOk T = true) (hb : bootBuiltins n = some (.type T)) (f : Free X.mg) (hg : Gl X "isinstance") (hm : X.mg n = none) (hg2 : Gl X n) (ha : PE X e te)
    (he : starEach [e, .Name n p2] X.env = (false, eval e X.env) :: starEach [.Name n p2] X.env := by rfl) (hn : n ≠ "__name__" := by decide) (hdb : (n == ("__debug__" : Str)) = false := by decide) : PE X (.Call (.Name "isinstance" p) [e, .Name n p2] [] pos) (uIsE X.K T te) := by
  refine ⟨fun pins s σ H Q I h => ?_⟩
  refine wpAny_Call_Name_kw (ld_blt I hg f.isinstance (show bootBuiltins "isinstance" = some (.builtin "isinstance") by decide +kernel) ?_ (by decide) (by decide))
  refine PyProof.Rows.callWith_builtin1 ?_ he rfl
  rw [he]
  show wpAny _ _ (spliced ((false, eval e X.env) :: backTo pos (starEach [.Name n p2] X.env))) _ _ s
  refine Calls.spliced_cons (thn (ha.run pins s σ H _ I h) fun u s1 ⟨x, H1, I1, r1, q1⟩ => ?_)
  refine thn ((pa_cons (pe_bltn (v := .ty T) hg2 hm hb rfl hn hdb) pa_nil).run pos pins s1 σ H1 (fun vs H2 => vs = [.ty T] ∧ H2 = H1) I1 ⟨rfl, rfl⟩) fun us s2 ⟨xs, H2, I2, r2, e1, e2⟩ => ?_
  subst e1 e2
  exact b_isi hT pins s2 σ H2 [x, .ty T] (u :: us) Q I2 (.cons r1 r2) ⟨rfl, q1⟩
theorem ty_int : tysOk "int" = true := by decide +kernel
theorem ty_str : tysOk "str" = true := by decide +kernel
theorem ty_bool : tysOk "bool" = true := by decide +kernel
theorem ty_list : tysOk "list" = true := by decide +kernel
theorem ty_tuple : tysOk "tuple" = true := by decide +kernel
theorem ty_dict : tysOk "dict" = true := by decide +kernel
theorem bo_int : bootBuiltins "int" = some (.type "int") := by decide +kernel
theorem bo_str : bootBuiltins "str" = some (.type "str") := by decide +kernel
theorem bo_bool : bootBuiltins "bool" = some (.type "bool") := by decide +kernel
theorem bo_list : bootBuiltins "list" = some (.type "list") := by decide +kernel
theorem bo_tuple : bootBuiltins "tuple" = some (.type "tuple") := by decide +kernel
theorem bo_dict : bootBuiltins "dict" = some (.type "dict") := by decide +kernel
end
/-! ### calls of the text's own defs -/
/-- what may leave a call, at the slots -/
def Ps (X : Cx) (E : L2.St → XK) : Prop := ∀ σ, PassesAt (L2.CX X.prog X.w) X σ (E σ)
theorem ps_of {X : Cx} {W : WX} (tk : Takes X W) : Ps X (fun σ cls d H => W cls d σ H) := fun σ => passAt tk σ
abbrev E00 : L2.St → XK := fun _ _ _ _ => False
theorem ps0 {X : Cx} : Ps X E00 := fun σ pins H s e s' I c => passL pins σ H s e s' I c
/-- the def x of the text keeps its promise, and is called by its name -/
def Cal (P : Program) (w : World) (K : Frag) (mg : Str → Option Value) (base : Heap) (x : Str) (k : Nat) (ps : List Str) (sp : Sp) : Prop :=
  ∃ (f : Addr) (fd : FuncData), FnOk P w K mg base (L2.CX P w) k f fd ps sp ∧ mg x = some (.ref f) ∧ PySem.W.keepIn K (.ref f) = true ∧ Binds K fd ps []
section
variable {X : Cx} {k : Nat} {ps : List Str} {sp : Sp} {E : L2.St → XK} {x : Str} {p pos : Pos} {e : Expr} {es : List Expr} {t : TA}
theorem c_call (C : Cal X.prog X.w X.K X.mg X.base x k ps sp) (hr : Room k X.A) (hg : Gl X x) (hx : Ps X E) (ha : PA X (e :: es) t)
    (hdb : (x == ("__debug__" : Str)) = false := by decide) (he : starEach (e :: es) X.env = (false, eval e X.env) :: starEach es X.env := by rfl) (hpl : (backTo pos (starEach es X.env)).any (·.1) = false := by rfl) :
    PE X (.Call (.Name x p) (e :: es) [] pos) (tCallS sp E t) := by
  obtain ⟨f, fd, F, hm, hk, hb⟩ := C
  exact pe_callS F hr hg hm hk hb hx ha hdb he hpl
theorem c_call0 (C : Cal X.prog X.w X.K X.mg X.base x k ps sp) (hr : Room k X.A) (hg : Gl X x) (hx : Ps X E) (hdb : (x == ("__debug__" : Str)) = false := by decide) :
    PE X (.Call (.Name x p) [] [] pos) (tCallS sp E tNil) := by
  obtain ⟨f, fd, F, hm, hk, hb⟩ := C
  refine ⟨fun pins s σ H Q I h => ?_⟩
  refine wpAny_Call_Name_kw (ld_glob I hg hm ?_ hdb)
  exact PySem.W.callWith_K0 I.kIn hk (run_fnS (us := []) F hr hb (hx σ) I .nil h)
end
/-- how a def's body ends -/
abbrev fin (Q : VK) : Ends := { nx := fun _ H' => Q .non H', rt := Q }
/-- a def of the row's top, without defaults -/
abbrev FnP (K : Frag) (x : Str) (st : Stmt) (f : Addr) (fd : FuncData) : Prop := FunD K x x (defArgs st) (defBody st) (defScope st) [] [] f fd
/-! ### tests -/
theorem iD {c A B : Prop} [Decidable c] (h1 : c → A) (h2 : ¬ c → B) : if decide c = true then A else B := by
  by_cases h : c
  · rw [decide_eq_true h]; exact h1 h
  · rw [decide_eq_false h]; exact h2 h
theorem iN {c A B : Prop} [Decidable c] (h1 : ¬ c → A) (h2 : c → B) : if (!decide c) = true then A else B := by
  by_cases h : c
  · rw [decide_eq_true h]; exact h2 h
  · rw [decide_eq_false h]; exact h1 h
theorem iB {b : Bool} {A B : Prop} (h1 : b = true → A) (h2 : b = false → B) : if b = true then A else B := by
  cases b
  · exact h2 rfl
  · exact h1 rfl
theorem iNB {b : Bool} {A B : Prop} (h1 : b = false → A) (h2 : b = true → B) : if (!b) = true then A else B := by
  cases b
  · exact h1 rfl
  · exact h2 rfl
/-! ### heaps -/
def Ex (H H' : Hp) : Prop := ∀ a o, H a = some o → H' a = some o
theorem Ex.refl (H : Hp) : Ex H H := fun _ _ h => h
theorem Ex.trans {H H1 H2 : Hp} (a : Ex H H1) (b : Ex H1 H2) : Ex H H2 := fun x o h => b x o (a x o h)
theorem Ex.new {H : Hp} {p : Addr} {o : HO} (h : H p = none) : Ex H (upd H p o) := fun a u e => by
  rw [upd_ne (ne_of_none e h)]
  exact e
theorem Ex.add {H H1 : Hp} {p : Addr} {o : HO} (a : Ex H H1) (h : H1 p = none) : Ex H (upd H1 p o) := a.trans (Ex.new h)
/-- what H does not know may change -/
theorem Ex.mut {H H' : Hp} {p : Addr} {o : HO} (e : Ex H H') (h : H p = none) : Ex H (upd H' p o) := fun a u ha => by
  rw [upd_ne (ne_of_none ha h)]
  exact e a u ha
theorem Ex.free {H H' : Hp} (e : Ex H H') {p : Addr} (h : H' p = none) : H p = none := by
  cases h1 : H p with
  | none => rfl
  | some o =>
    rw [e p o h1] at h
    cases h
theorem Ex.sqL {K : Frag} {H H' : Hp} {a : Addr} {xs : List V} (e : Ex H H') (h : SqL K H a xs) : SqL K H' a xs := by
  rcases h with (h | ⟨o, h⟩) | h
  · exact .inl (.inl (e _ _ h))
  · exact .inl (.inr ⟨o, e _ _ h⟩)
  · exact .inr h
theorem Ex.sqT {K : Frag} {H H' : Hp} {a : Addr} {xs : List V} (e : Ex H H') (h : SqT K H a xs) : SqT K H' a xs := by
  rcases h with (h | ⟨o, h⟩) | h
  · exact .inl (.inl (e _ _ h))
  · exact .inl (.inr ⟨o, e _ _ h⟩)
  · exact .inr h
theorem Ex.sq {K : Frag} {H H' : Hp} {a : Addr} {xs : List V} (e : Ex H H') (h : Sq K H a xs) : Sq K H' a xs := h.imp e.sqL e.sqT
theorem sqL {K : Frag} {H : Hp} {a : Addr} {xs : List V} (h : H a = some (.lst xs)) : Sq K H a xs := .inl (.inl (.inl h))
theorem sqT {K : Frag} {H : Hp} {a : Addr} {xs : List V} (h : H a = some (.tup xs)) : Sq K H a xs := .inr (.inl (.inl h))
/-! ### loops -/
/-- a for over signs -/
theorem for_str {z : Str} {g : TG} {tb : TS} {D : Ends} {σ : L2.St} {H : Hp} (Pv : Nat → L2.St → Hp → Prop) (h0 : Pv 0 σ H)
    (hs : ∀ i c σ H, z.cps.toList[i]? = some c → Pv i σ H → g (.str ⟨#[c]⟩) σ H fun σ2 H2 => tb { D with nx := Pv (i + 1), ct := Pv (i + 1), bk := D.nx } σ2 H2) (hd : ∀ σ H, Pv z.cps.toList.length σ H → D.nx σ H) :
    ∃ W : Nat → Nat → L2.St → Hp → Prop, (∃ m, W 0 m σ H) ∧ ∀ i m σ H, W i m σ H →
      ((Its z).stop i H ∧ D.nx σ H) ∨ ((Its z).go i H ∧ ∃ N : L2.St → Hp → Prop, (∀ σ' H', N σ' H' → ∃ m', m' < m ∧ W (i + 1) m' σ' H') ∧ ∀ x H', (Its z).yld i H x H' → g x σ H' fun σ2 H2 => tb { D with nx := N, ct := N, bk := D.nx } σ2 H2) := by
  refine ⟨fun i m σ H => m = z.cps.toList.length - i ∧ i ≤ z.cps.toList.length ∧ Pv i σ H, ⟨z.cps.toList.length, by simp, Nat.zero_le _, h0⟩, ?_⟩
  rintro i m σ H ⟨rfl, hi, p⟩
  by_cases hlt : i < z.cps.toList.length
  · refine .inr ⟨by rw [Array.length_toList] at hlt; exact hlt, Pv (i + 1), fun σ' H' p' => ⟨_, by omega, rfl, by omega, p'⟩, ?_⟩
    rintro x H' ⟨rfl, c, hc, rfl⟩
    exact hs i c σ H' (by rw [Array.getElem?_toList]; exact hc) p
  · have e : i = z.cps.toList.length := by omega
    subst e
    exact .inl ⟨by show _ ≤ _; rw [Array.length_toList]; exact Nat.le_refl _, hd σ H p⟩
/-! ### and, or, not as values; += -/
def uAndV (ta tb : TE) : TE := fun σ H Q => ta σ H fun x H1 => match x with
  | .bl c => if c = true then tb σ H1 Q else Q (.bl false) H1
  | _ => False
def uOrV (ta tb : TE) : TE := fun σ H Q => ta σ H fun x H1 => match x with
  | .bl c => if c = true then Q (.bl true) H1 else tb σ H1 Q
  | _ => False
def uNotV (ta : TE) : TE := fun σ H Q => ta σ H fun x H1 => match x with
  | .bl c => Q (.bl !c) H1
  | _ => False
section
variable {X : Cx} {a b : Expr} {rest : List Expr} {ta tb : TE} {pos : Pos}
theorem k_and (ha : PE X a ta) (hb : PE X (.BoolOp .And (b :: rest) pos) tb) : PE X (.BoolOp .And (a :: b :: rest) pos) (uAndV ta tb) := by
  refine ⟨fun pins s σ H Q I h => ?_⟩
  refine BoolOp_and (thn (ha.run pins s σ H _ I h) fun v s1 ⟨x, H1, I1, r1, q1⟩ => ?_)
  cases x with
  | bl c =>
    cases r1
    refine wpAny_truthy_bool ?_
    cases c with
    | true => exact hb.run pins s1 σ H1 Q I1 q1
    | false => exact ⟨.bl false, H1, I1, rfl, q1⟩
  | _ => exact q1.elim
theorem k_or (ha : PE X a ta) (hb : PE X (.BoolOp .Or (b :: rest) pos) tb) : PE X (.BoolOp .Or (a :: b :: rest) pos) (uOrV ta tb) := by
  refine ⟨fun pins s σ H Q I h => ?_⟩
  refine BoolOp_or (thn (ha.run pins s σ H _ I h) fun v s1 ⟨x, H1, I1, r1, q1⟩ => ?_)
  cases x with
  | bl c =>
    cases r1
    refine wpAny_truthy_bool ?_
    cases c with
    | false => exact hb.run pins s1 σ H1 Q I1 q1
    | true => exact ⟨.bl true, H1, I1, rfl, q1⟩
  | _ => exact q1.elim
theorem k_not (ha : PE X a ta) : PE X (.UnaryOp .Not a pos) (uNotV ta) := by
  refine ⟨fun pins s σ H Q I h => ?_⟩
  refine UnaryOp_ (thn (ha.run pins s σ H _ I h) fun v s1 ⟨x, H1, I1, r1, q1⟩ => ?_)
  cases x with
  | bl c =>
    cases r1
    exact not_of (wpAny_truthy_bool ⟨.bl (!c), H1, I1, rfl, q1⟩)
  | _ => exact q1.elim
end
def ipU (f : Int → Int → Int) : TIp := fun x y H Q => match x, y with
  | .int a, .int b => Q (.int (f a b)) H
  | _, _ => False
def uAug (i : Nat) (te : TE) (f : Int → Int → Int) : TS := fun D σ H => match σ[i]? with
  | some (some x) => te σ H fun y H1 => ipU f x y H1 fun z H2 => D.nx (σ.set i (some z)) H2
  | _ => False
theorem ip_u {X : Cx} {op : Operator} {f : Int → Int → Int} (h : PIp X op (ipI f)) : PIp X op (ipU f) := by
  intro pins s σ H x y v u Q I r1 r2 q
  refine h pins s σ H x y v u Q I r1 r2 ?_
  cases x <;> cases y <;> first
    | exact q.elim
    | exact ⟨_, _, rfl, rfl, q⟩
theorem s_aug {X : Cx} {i : Nat} {x : Str} {e : Expr} {te : TE} {op : Operator} {f : Int → Int → Int} {pos pos' : Pos} (hN : X.N.Nodup) (hi : X.N[i]? = some x) (hx : L2.Loc X.env.scope x) (he : PE X e te) (ho : PIp X op (ipI f))
    (hf : X.fn x = true ∨ X.env.scope.names.lookup x = some .local := by first | exact .inl rfl | exact .inr rfl | assumption) : PS X (.AugAssign (.Name x pos') op e pos) (uAug i te f) := by
  have h0 := ps_aug (pos := pos) (pos' := pos') hN hi hx he (ip_u ho) hf
  refine ⟨fun pins s σ H D I h => h0.run pins s σ H D I ?_⟩
  unfold uAug at h
  split at h
  · rename_i a ea
    exact ⟨a, ea, h⟩
  · exact h.elim
/-- a statement, then the rest, with a word between them -/
def tCut (t u : TS) : TS := fun D σ H => ∃ Mid : L2.St → Hp → Prop, t { D with nx := Mid } σ H ∧ ∀ σ' H', Mid σ' H' → u D σ' H'
theorem pss_cut {X : Cx} {st : Stmt} {rest : List Stmt} {t u : TS} (h1 : PS X st t) (h2 : PSs X rest u) : PSs X (st :: rest) (tCut t u) := by
  refine ⟨fun pins s σ H D I h => ?_⟩
  obtain ⟨Mid, hm, hu⟩ := h
  refine wpAny_execs_cons (thn (h1.run pins s σ H { D with nx := Mid } I hm) fun f s1 q => ?_)
  cases f with
  | next =>
    obtain ⟨σ', H', I', q⟩ := q
    exact h2.run pins s1 σ' H' D I' (hu σ' H' q)
  | ret v => exact q
  | brk => exact q
  | cont => exact q
/-- a for over range(n), the item the turn's number -/
theorem for_r1 {n : Int} {g : TG} {tb : TS} {D : Ends} {σ : L2.St} {H : Hp} (hb : 0 ≤ n ∧ n ≤ 1000000) (Pv : Nat → L2.St → Hp → Prop) (h0 : Pv 0 σ H)
    (hs : ∀ (i : Nat) σ H, (i : Int) < n → Pv i σ H → g (.int i) σ H fun σ2 H2 => tb { D with nx := Pv (i + 1), ct := Pv (i + 1), bk := D.nx } σ2 H2) (hd : ∀ σ H, Pv n.toNat σ H → D.nx σ H) :
    (-(2 ^ 62) ≤ n ∧ n < 2 ^ 62) ∧ ∃ W : Nat → Nat → L2.St → Hp → Prop, (∃ m, W 0 m σ H) ∧ ∀ i m σ H, W i m σ H →
      ((Itr 0 n.toNat).stop i H ∧ D.nx σ H) ∨ ((Itr 0 n.toNat).go i H ∧ ∃ N : L2.St → Hp → Prop, (∀ σ' H', N σ' H' → ∃ m', m' < m ∧ W (i + 1) m' σ' H') ∧ ∀ x H', (Itr 0 n.toNat).yld i H x H' → g x σ H' fun σ2 H2 => tb { D with nx := N, ct := N, bk := D.nx } σ2 H2) := by
  refine ⟨⟨by omega, by omega⟩, for_range Pv h0 (fun i σ H hi p => ?_) hd⟩
  rw [Int.zero_add]
  exact hs i σ H (by omega) p
/-- [e for x in range(n) ..] -/
theorem lc_r1 {n : Int} {g : TG} {tt : TT} {te : TE} {vs : List Nat} {σ : L2.St} {H1 : Hp} {Q : Addr → Hp → Prop} (hb : 0 ≤ n ∧ n ≤ 1000000) (Pv : Addr → Nat → Hp → Prop) (h0 : ∀ D, H1 D = none → Pv D 0 (upd H1 D (.lst [])))
    (hs : ∀ (D : Addr) (i : Nat) H, H1 D = none → (i : Int) < n → Pv D i H → g (.int i) (wipe σ vs) H fun σ2 H2 => wipe σ2 vs = wipe σ vs ∧ tt σ2 H2 fun b H3 =>
      if b = true then te σ2 H3 fun y H4 => ∃ acc, H4 D = some (.lst acc) ∧ acc.length < sizeLine ∧ Pv D (i + 1) (upd H4 D (.lst (acc ++ [y]))) else Pv D (i + 1) H3) (hd : ∀ D H, H1 D = none → Pv D n.toNat H → Q D H) :
    (-(2 ^ 62) ≤ n ∧ n < 2 ^ 62) ∧ ∀ D, H1 D = none → ∃ W : Nat → Nat → Hp → Prop, (∃ m, W 0 m (upd H1 D (.lst []))) ∧ ∀ i m H, W i m H →
      ((Itr 0 n.toNat).stop i H ∧ Q D H) ∨ ((Itr 0 n.toNat).go i H ∧ ∃ Nx : Hp → Prop, (∀ H', Nx H' → ∃ m', m' < m ∧ W (i + 1) m' H') ∧ ∀ x H', (Itr 0 n.toNat).yld i H x H' → g x (wipe σ vs) H' fun σ2 H2 => wipe σ2 vs = wipe σ vs ∧ tt σ2 H2 fun b H3 =>
        if b = true then te σ2 H3 fun y H4 => ∃ acc, H4 D = some (.lst acc) ∧ acc.length < sizeLine ∧ Nx (upd H4 D (.lst (acc ++ [y]))) else Nx H3) := by
  refine ⟨⟨by omega, by omega⟩, fun D hD => lc_range (Pv D) (h0 D hD) (fun i H hi p => ?_) (fun H p => hd D H hD p)⟩
  rw [Int.zero_add]
  exact hs D i H hD (by omega) p
/-- [e for x in xs ..], xs a list that stands -/
theorem lc_l {K : Frag} {a : Addr} {xs : List V} {g : TG} {tt : TT} {te : TE} {vs : List Nat} {σ : L2.St} {H1 : Hp} {Q : Addr → Hp → Prop} (hx : SqL K H1 a xs) (Pv : Addr → Nat → Hp → Prop) (h0 : ∀ D, H1 D = none → Pv D 0 (upd H1 D (.lst [])))
    (hl : ∀ D i H, H1 D = none → Pv D i H → SqL K H a xs)
    (hs : ∀ (D : Addr) (i : Nat) x H, H1 D = none → xs[i]? = some x → Pv D i H → g x (wipe σ vs) H fun σ2 H2 => wipe σ2 vs = wipe σ vs ∧ tt σ2 H2 fun b H3 =>
      if b = true then te σ2 H3 fun y H4 => ∃ acc, H4 D = some (.lst acc) ∧ acc.length < sizeLine ∧ Pv D (i + 1) (upd H4 D (.lst (acc ++ [y]))) else Pv D (i + 1) H3) (hd : ∀ D H, H1 D = none → Pv D xs.length H → Q D H) :
    (∃ xs, SqL K H1 a xs ∧ ∀ D, H1 D = none → ∃ W : Nat → Nat → Hp → Prop, (∃ m, W 0 m (upd H1 D (.lst []))) ∧ ∀ i m H, W i m H →
      ((Itl K a).stop i H ∧ Q D H) ∨ ((Itl K a).go i H ∧ ∃ Nx : Hp → Prop, (∀ H', Nx H' → ∃ m', m' < m ∧ W (i + 1) m' H') ∧ ∀ x H', (Itl K a).yld i H x H' → g x (wipe σ vs) H' fun σ2 H2 => wipe σ2 vs = wipe σ vs ∧ tt σ2 H2 fun b H3 =>
        if b = true then te σ2 H3 fun y H4 => ∃ acc, H4 D = some (.lst acc) ∧ acc.length < sizeLine ∧ Nx (upd H4 D (.lst (acc ++ [y]))) else Nx H3)) :=
  ⟨xs, hx, fun D hD => lc_list (xs := xs) (Pv D) (h0 D hD) (fun i H _ p => hl D i H hD p) (fun i x H hi p => hs D i x H hD hi p) (fun H p => hd D H hD p)⟩
end U

/-! the end of a law -/
namespace U
open PySem PySem.Spec PyProof.Rows L2
theorem walk_ofW {l : PySem.W.OpenLaw} {n k : Nat} {q : Program} {loose : List Str} {XP : (Str → Option Value) → Heap → Prop} {YP : World → Heap → Prop} {d : DefRec} {CX : World → CXT} {x : Str}
    (hn : l.most = some n) (hn2 : n ≤ sizeLine) (hdf : d.params.defaults = []) (hr : Room k callerA)
    (F : ∀ (w : World) (mg : Str → Option Value) (fa : Addr) (h : Heap), YP w h → h.Ns mainGlobals mg → mg d.name = some (.ref fa) →
      ∃ (K : PySem.W.Frag) (fd : FuncData) (sp : Sp), K.In h ∧ (∀ (s : Shared) (u : Value), BindsTo s fd ⟨[u], []⟩ [(x, u)]) ∧
        (∀ (H : Hp) (a : Addr) (ns : List Int), ns.length ≤ n → Only H → SqL K H a (ns.map V.int) → sp [.ref a] H (fun v _ => v = .bl true) fun _ _ _ => False) ∧
        ∀ base : Heap, K.In base → base.Ns mainGlobals mg → FnOk l.prog w K mg base (CX w) k fa fd [x] sp)
    (hCX : ∀ (w : World) (H : Hp) (s : Shared) (e : Value) (s' : Shared), CX w [] H s (fun _ _ _ => False) e s' → False) :
    PySem.W.WalkO q loose XP YP l.row.toRowW d [] (fun f vs => PySem.call f vs) := by
  refine Att.attach_call hn hdf fun w s₀ s₁ mg mb fa o pm cd doc a vs ns G Y ho hd hcd hmg hobj hints hlen hg => ?_
  obtain ⟨K, fd, sp, KX, hb, hsp, hF⟩ := F w mg fa _ Y G.T.g hmg
  exact law_call KX G.T.g G.T.b G.T.builtins G.T.nolimit hg hobj hints (Nat.le_trans hlen hn2) hr hF hb (fun H hO hS => hsp H a ns hlen hO hS) fun H e s' => hCX w H s₁ e s'
theorem cx_no {P : Program} {w : World} {H : Hp} {s : Shared} {e : Value} {s' : Shared} (h : L2.CX P w [] H s (fun _ _ _ => False) e s') : False := by
  obtain ⟨_, _, _, _, _, _, _, _, _, _, _, _, z⟩ := h
  exact z
/-- a tuple of the module's own top -/
def tupB (K : Frag) (x : Str) (vs : List V) : Bool := match K.lookup (He.ga K x) with
  | some ⟨.type c, _, .seq its _, _⟩ => decide (c = "tuple") && (He.relAll vs its.toList && decide (its.size ≤ 1000))
  | _ => false
theorem tupB_ok {K : Frag} {x : Str} {vs : List V} (h : tupB K x vs = true) (H : Hp) : SqT K H (He.ga K x) vs := by
  unfold tupB at h
  split at h
  · rename_i c od its n sl e
    obtain ⟨h1, h2⟩ := He.ba h
    obtain ⟨h3, h4⟩ := He.ba h2
    have hc : c = "tuple" := of_decide_eq_true h1
    subst hc
    exact .inr ⟨_, its, n, e, rfl, rfl, big_sz (Nat.le_trans (of_decide_eq_true h4) (by decide)), He.relAll_ok h3⟩
  · cases h
theorem gv_ref {K : Frag} {h : Heap} {mg : Str → Option Value} (X : K.In h) (G : h.Ns mainGlobals mg) {x : Str} (c : (He.Fa.glo x).ok K = true) : GV mg x (.ref (He.ga K x)) := ⟨_, He.glo_ok X G c, rfl⟩
theorem gv_int {K : Frag} {h : Heap} {mg : Str → Option Value} (X : K.In h) (G : h.Ns mainGlobals mg) {x : Str} {i : Int} (c : (He.Fa.int x i).ok K = true) : GV mg x (.int i) := by
  obtain ⟨t, e⟩ := He.int_ok X G c
  exact ⟨_, e, t, rfl⟩
theorem gv_str {K : Frag} {h : Heap} {mg : Str → Option Value} (X : K.In h) (G : h.Ns mainGlobals mg) {x z : Str} (c : (He.Fa.str x z).ok K = true) : GV mg x (.str z) := by
  obtain ⟨t, e⟩ := He.str_ok X G c
  exact ⟨_, e, t, rfl⟩
def frees : List He.Fa := [.free "len", .free "range", .free "int", .free "str", .free "bool", .free "list", .free "tuple", .free "dict", .free "min", .free "max", .free "abs", .free "isinstance", .free "sorted", .free "set", .free "iter", .free "ValueError", .free "super"]
theorem free_of {fa : List He.Fa} {fn : List He.DefD} {K : Frag} {h : Heap} {mg : Str → Option Value} (X : K.In h) (G : h.Ns mainGlobals mg) (c : He.SaysD (frees ++ fa) fn K) : Free mg := by
  have g : ∀ (i : Nat) (x : Str), frees[i]? = some (.free x) → mg x = none := fun i x e => He.free_ok X G (c.fact i (f := .free x) (by
    rw [List.getElem?_append_left (by
      have := (List.getElem?_eq_some_iff.mp e).1
      exact this)]
    exact e))
  exact ⟨g 0 _ rfl, g 1 _ rfl, g 2 _ rfl, g 3 _ rfl, g 4 _ rfl, g 5 _ rfl, g 6 _ rfl, g 7 _ rfl, g 8 _ rfl, g 9 _ rfl, g 10 _ rfl, g 11 _ rfl, g 12 _ rfl, g 13 _ rfl, g 14 _ rfl, g 15 _ rfl, g 16 _ rfl⟩
end U

/-! the script's draws: any list of ints will do -/
namespace U
open PySem L2
/-- the draws stand at d -/
def Dw (d : Addr) (H : Hp) : Prop := ∃ ds : List Int, H d = some (.lst (ds.map V.int)) ∧ ds.length ≤ 4000
/-- all but the draws stays -/
structure Kp (d : Addr) (H H' : Hp) : Prop where
  keep : ∀ a o, a ≠ d → H a = some o → H' a = some o
  dw : Dw d H'
/-- κ: what is known beside the draws -/
structure Kn (d : Addr) (κ H : Hp) : Prop where
  ex : Ex κ H
  no : κ d = none
/-- from H to H', from what is known to more: what is known newly was not there -/
structure Gw (d : Addr) (κ H κ' H' : Hp) : Prop where
  kp : Kp d H H'
  ex : Ex κ κ'
  kn : Kn d κ' H'
  new : ∀ a o, κ' a = some o → κ a = some o ∨ H a = none
theorem Kp.refl {d : Addr} {H : Hp} (h : Dw d H) : Kp d H H := ⟨fun _ _ _ e => e, h⟩
theorem Kp.trans {d : Addr} {H H1 H2 : Hp} (a : Kp d H H1) (b : Kp d H1 H2) : Kp d H H2 := ⟨fun x o n e => b.keep x o n (a.keep x o n e), b.dw⟩
theorem Kp.of {d : Addr} {H H' : Hp} (h : Dw d H) (e : Ex H H') : Kp d H H' := ⟨fun _ _ _ q => e _ _ q, by
  obtain ⟨ds, h1, h2⟩ := h
  exact ⟨ds, e _ _ h1, h2⟩⟩
theorem Kp.then {d : Addr} {H H1 H2 : Hp} (a : Kp d H H1) (e : Ex H1 H2) : Kp d H H2 := a.trans (Kp.of a.dw e)
theorem Dw.ne {d p : Addr} {H : Hp} (D : Dw d H) (h : H p = none) : p ≠ d := by
  obtain ⟨ds, e, _⟩ := D
  exact (ne_of_none e h).symm
theorem Kp.free {d p : Addr} {H H' : Hp} (D : Dw d H) (k : Kp d H H') (h : H' p = none) : H p = none := by
  cases e : H p with
  | none => rfl
  | some o =>
    have n : p ≠ d := k.dw.ne h
    rw [k.keep p o n e] at h
    cases h
theorem Kn.kp {d : Addr} {κ H H' : Hp} (n : Kn d κ H) (k : Kp d H H') : Kn d κ H' := ⟨fun a o e => k.keep a o (fun q => by subst q; rw [n.no] at e; cases e) (n.ex _ _ e), n.no⟩
theorem Kn.up {d : Addr} {κ H H' : Hp} (n : Kn d κ H) (e : Ex H H') : Kn d κ H' := ⟨n.ex.trans e, n.no⟩
theorem Gw.of {d : Addr} {κ H H' : Hp} (n : Kn d κ H) (k : Kp d H H') : Gw d κ H κ H' := ⟨k, Ex.refl _, n.kp k, fun _ _ e => .inl e⟩
theorem Gw.trans {d : Addr} {κ H κ1 H1 κ2 H2 : Hp} (D : Dw d H) (a : Gw d κ H κ1 H1) (b : Gw d κ1 H1 κ2 H2) : Gw d κ H κ2 H2 := ⟨a.kp.trans b.kp, a.ex.trans b.ex, b.kn, fun x o e => by
  rcases b.new x o e with h | h
  · exact a.new x o h
  · exact .inr (a.kp.free D h)⟩
/-- a new object, known -/
theorem Gw.add {d p : Addr} {κ H : Hp} {o : HO} (D : Dw d H) (n : Kn d κ H) (hp : H p = none) : Gw d κ H (upd κ p o) (upd H p o) := by
  have npd : p ≠ d := D.ne hp
  refine ⟨Kp.of D (Ex.new hp), Ex.new (n.ex.free hp), ⟨fun a u e => ?_, ?_⟩, fun a u e => ?_⟩
  · by_cases q : a = p
    · subst q
      rw [upd_same] at e ⊢
      exact e
    · rw [upd_ne q] at e ⊢
      exact n.ex _ _ e
  · rw [upd_ne npd.symm]; exact n.no
  · by_cases q : a = p
    · subst q; exact .inr hp
    · rw [upd_ne q] at e; exact .inl e
/-- an object that κ does not know is changed -/
theorem Gw.mut {d p : Addr} {κ H κ' H' : Hp} {o : HO} (g : Gw d κ H κ' H') (hk : κ p = none) {u : HO} (hp : H p = some u) (npd : p ≠ d) : Kn d κ' (upd H' p o) := by
  refine ⟨fun a v e => ?_, g.kn.no⟩
  have n : a ≠ p := fun q => by
    subst q
    rcases g.new _ _ e with h | h
    · rw [hk] at h; cases h
    · rw [hp] at h; cases h
  rw [upd_ne n]
  exact g.kn.ex _ _ e
theorem Dw.mut {d p : Addr} {H : Hp} {o : HO} (D : Dw d H) (n : p ≠ d) : Dw d (upd H p o) := by
  obtain ⟨ds, h1, h2⟩ := D
  exact ⟨ds, by rw [upd_ne n.symm]; exact h1, h2⟩
def sp_Ldraws (K : Frag) : Sp := fun vs H Q _ => match vs with
  | [.ref a] => ∃ ns : List Int, SqL K H a (ns.map V.int) ∧ ns.length ≤ 63 ∧ ∀ d H', H d = none → Ex H H' → Dw d H' → Q (.ref d) H'
  | _ => False
def sp_Ltake (_ : Frag) : Sp := fun vs H Q _ => match vs with
  | [.ref d, .int n] => 0 < n ∧ Dw d H ∧ ∀ k H', 0 ≤ k → k < n → Kp d H H' → Q (.int k) H'
  | _ => False
def sl_Ldraws : List Str := ["_law_script", "_law_draws_here", "_law_place", "_law_cell", "_law_rest", "_law_turn", "_law_mixed"]
def t_Ldraws (K : Frag) (E : XK) : TS :=
  (tSeq (tAsg (tLst tNil) (gName 1))
    (tSeq (tFor (uRng1 (tCons (tCB (uMin2) (tCons (tC (.int 63)) (tCons (tCB (uLen K) (tCons (uVar 0) tNil)) tNil))) tNil)) (gName 2)
    (tSeq (tAsg (tCB (uInt) (tCons (tOp (uIx K) (uVar 0) (uVar 2)) tNil)) (gName 3))
    (tSeq (tAsg (tOp uMul (tC (.int 2)) (tCB (uAbs) (tCons (uVar 3) tNil))) (gName 4))
    (tCut (tIfS (uB (tOp uLt (uVar 3) (tC (.int 0)))) (tAsg (tOp uAdd (uVar 4) (tC (.int 1))) (gName 4)) tNext)
    (tIfS (uB (tOp uLt (uVar 4) (tOp uMul (tC (.int 2)) (tOp uPow (tC (.int 10)) (tC (.int 18)))))) (tFor (uRng1 (tCons (tC (.int 4)) tNil)) (gName 5)
    (tSeq (tAsg (tOp uMod (tCB (uInt) (tCons (tOp uAdd (tOp uMul (tOp uAdd (uVar 4) (tC (.int 1))) (tOp uAdd (tC (.int 48271)) (tOp uMul (tC (.int 2)) (uVar 2)))) (tOp uMul (tC (.int 69621)) (uVar 5))) tNil)) (tC (.int 2147483647))) (gName 6))
    (tSeq (tAsg (tOp uMod (tCB (uInt) (tCons (tOp uMul (uVar 6) (uVar 6)) tNil)) (tC (.int 2147483629))) (gName 6))
    (tDrop (uM isL uApp (uVar 1) (tCons (tOp uMod (tCB (uInt) (tCons (uVar 6) tNil)) (tC (.int 1000003))) tNil)))))) (tFor (uRng1 (tCons (tC (.int 60)) tNil)) (gName 5)
    (tIfS (uB (tOp uGt (uVar 4) (tC (.int 0)))) (tSeq (tDrop (uM isL uApp (uVar 1) (tCons (tOp uMod (tCB (uInt) (tCons (uVar 4) tNil)) (tC (.int 1000003))) tNil)))
    (tAsg (tOp uDiv (uVar 4) (tC (.int 1000003))) (gName 4))) tNext)))))))
    (tRet (uVar 1))))
def sl_Ltake : List Str := ["_law_draws_here", "_law_many"]
def t_Ltake (K : Frag) (E : XK) : TS :=
  (tSeq (tIfS (uB (tOp (uEq K) (tCB (uLen K) (tCons (uVar 0) tNil)) (tC (.int 0)))) (tRet (tC (.int 0))) tNext)
    (tRet (tOp uMod (tCB (uInt) (tCons (uM isL uPopAt (uVar 0) (tCons (tC (.int 0)) tNil)) tNil)) (uVar 1))))
theorem pure_Ltake {K : Frag} {E : XK} {d : Addr} {n : Int} {H : Hp} {Q : VK} (h : sp_Ltake K [.ref d, .int n] H Q E) : t_Ltake K E (fin Q) [some (.ref d), some (.int n)] H := by
  obtain ⟨hn, ⟨ds, hd, hl⟩, k⟩ := h
  refine ⟨_, sqL hd, ?_⟩
  refine iD (fun e => ?_) (fun e => ?_)
  · exact k 0 H (by omega) hn (Kp.refl ⟨ds, hd, hl⟩)
  · cases ds with
    | nil => exact absurd rfl e
    | cons x r =>
      refine ⟨⟨_, hd⟩, _, 0, .int x, hd, rfl, by decide, rfl, ?_⟩
      refine ⟨hn, ?_⟩
      refine k _ _ (Int.emod_nonneg _ (by omega)) (Int.emod_lt_of_pos _ hn) ⟨fun b o nb e => by rw [upd_ne nb]; exact e, r, upd_same, ?_⟩
      simp at hl ⊢
      omega
theorem at_nat {α : Type} {xs : List α} {i : Nat} {v : α} (h : xs[i]? = some v) : atI xs (i : Int) = some v := atI_nat h
theorem pure_Ldraws {K : Frag} {E : XK} {a : Addr} {H : Hp} {Q : VK} (h : sp_Ldraws K [.ref a] H Q E) : t_Ldraws K E (fin Q) [some (.ref a), none, none, none, none, none, none] H := by
  obtain ⟨ns, hs, hl, k⟩ := h
  refine ⟨Nat.zero_le _, fun d hd => ?_⟩
  refine ⟨_, .inl ((Ex.new hd).sqL hs), ?_⟩
  rw [List.length_map]
  have hm : (if (ns.length : Int) < 63 then (ns.length : Int) else 63) = (ns.length : Int) := by split <;> omega
  refine for_r1 (n := if (ns.length : Int) < 63 then (ns.length : Int) else 63) (by split <;> omega) (fun i σ H' => ∃ v2 v3 v4 v5 v6, σ = [some (.ref a), some (.ref d), v2, v3, v4, v5, v6] ∧ Ex H H' ∧ ∃ ds : List Int, H' d = some (.lst (ds.map V.int)) ∧ ds.length ≤ 60 * i)
    ⟨none, none, none, none, none, rfl, Ex.new hd, [], upd_same, by simp⟩ ?_ ?_
  · rintro i σ H' hi ⟨v2, v3, v4, v5, v6, rfl, ex, ds, hD, hz⟩
    rw [hm] at hi
    have hi' : i < ns.length := by omega
    refine ⟨_, .int ns[i], .inl (ex.sqL hs), at_nat (by simp [hi']), ?_⟩
    refine ⟨.inl ⟨by decide, by decide⟩, ?_⟩
    refine ⟨fun σ' H'' => ∃ r : Int, 0 ≤ r ∧ σ' = [some (.ref a), some (.ref d), some (.int i), some (.int ns[i]), some (.int r), v5, v6] ∧ H'' = H', ?_, ?_⟩
    · refine iD (fun e => ?_) (fun e => ?_)
      · exact ⟨_, by split <;> omega, rfl, rfl⟩
      · exact ⟨_, by split <;> omega, rfl, rfl⟩
    · rintro σ' H'' ⟨r, hr, rfl, rfl⟩
      refine ⟨⟨by decide, by decide, by decide⟩, .inl ⟨by decide, by decide⟩, ?_⟩
      refine iD (fun e => ?_) (fun e => ?_)
      · refine for_r1 (n := 4) (by decide) (fun j σ H2 => ∃ v5 v6, σ = [some (.ref a), some (.ref d), some (.int i), some (.int ns[i]), some (.int r), v5, v6] ∧ Ex H H2 ∧ ∃ ds : List Int, H2 d = some (.lst (ds.map V.int)) ∧ ds.length ≤ 60 * i + j)
          ⟨_, _, rfl, ex, ds, hD, hz⟩ ?_ ?_
        · rintro j σ H2 hj ⟨w5, w6, rfl, ex2, ds2, hD2, hz2⟩
          have e' : r < 2 * 10 ^ 18 := e
          refine ⟨.inl ⟨by decide, by decide⟩, .inl ⟨by omega, by omega⟩, .inl ⟨by decide, by decide⟩, by decide, .inl ⟨?_, ?_⟩, by decide, ⟨_, hD2⟩, by decide, _, hD2, by simp; omega, ?_⟩
          · have := Int.emod_nonneg ((r + 1) * (48271 + 2 * (i : Int)) + 69621 * (j : Int)) (show (2147483647 : Int) ≠ 0 by decide)
            omega
          · have := Int.emod_lt_of_pos ((r + 1) * (48271 + 2 * (i : Int)) + 69621 * (j : Int)) (show (0 : Int) < 2147483647 by decide)
            omega
          · exact ⟨_, _, rfl, ex2.mut hd, ds2 ++ [_], by rw [upd_same, List.map_append]; rfl, by simp; omega⟩
        · rintro σ H2 ⟨w5, w6, rfl, ex2, ds2, hD2, hz2⟩
          exact ⟨_, _, _, _, _, rfl, ex2, ds2, hD2, by have : (4 : Int).toNat = 4 := rfl; omega⟩
      · refine for_r1 (n := 60) (by decide) (fun j σ H2 => ∃ (r : Int) (v5 v6 : Option V), σ = [some (.ref a), some (.ref d), some (.int i), some (.int ns[i]), some (.int r), v5, v6] ∧ Ex H H2 ∧ ∃ ds : List Int, H2 d = some (.lst (ds.map V.int)) ∧ ds.length ≤ 60 * i + j)
          ⟨_, _, _, rfl, ex, ds, hD, hz⟩ ?_ ?_
        · rintro j σ H2 hj ⟨r2, w5, w6, rfl, ex2, ds2, hD2, hz2⟩
          refine iD (fun e => ?_) (fun e => ?_)
          · refine ⟨⟨_, hD2⟩, by decide, _, hD2, by simp; omega, ⟨by decide, by decide⟩, ?_⟩
            exact ⟨_, _, _, rfl, ex2.mut hd, ds2 ++ [_], by rw [upd_same, List.map_append]; rfl, by simp; omega⟩
          · exact ⟨_, _, _, rfl, ex2, ds2, hD2, by omega⟩
        · rintro σ H2 ⟨r2, w5, w6, rfl, ex2, ds2, hD2, hz2⟩
          exact ⟨_, _, _, _, _, rfl, ex2, ds2, hD2, by have : (60 : Int).toNat = 60 := rfl; omega⟩
  · rintro σ H' ⟨v2, v3, v4, v5, v6, rfl, ex, ds, hD, hz⟩
    rw [hm] at hz
    exact k d H' hd ex ⟨ds, hD, by simp at hz; omega⟩
/-- [e for x in range(n)] while the draws fall: I tells of the list so far and of what is known -/
theorem lc_draw {d : Addr} {n : Int} {j : Nat} {te : TE} {vs : List Nat} {σ : L2.St} {κ H : Hp} {Q : Addr → Hp → Prop} (hb : 0 ≤ n ∧ n ≤ 100000) (D : Dw d H) (kn : Kn d κ H) (I : List V → Hp → Prop) (I0 : I [] κ)
    (hw : ∀ v, wipe ((wipe σ vs).set j v) vs = wipe σ vs)
    (hs : ∀ (i : Nat) acc κ1 H1 (R : VK), (i : Int) < n → acc.length = i → Dw d H1 → Kn d κ1 H1 → Ex κ κ1 → I acc κ1 → (∀ y κ2 H2, Gw d κ1 H1 κ2 H2 → I (acc ++ [y]) κ2 → R y H2) → te ((wipe σ vs).set j (some (.int i))) H1 R)
    (hd : ∀ L acc κ1 H1, acc.length = n.toNat → I acc κ1 → Ex κ κ1 → Gw d κ H (upd κ1 L (.lst acc)) H1 → κ1 L = none → Q L H1) :
    (-(2 ^ 62) ≤ n ∧ n < 2 ^ 62) ∧ ∀ L, H L = none → ∃ W : Nat → Nat → Hp → Prop, (∃ m, W 0 m (upd H L (.lst []))) ∧ ∀ i m H, W i m H →
      ((Itr 0 n.toNat).stop i H ∧ Q L H) ∨ ((Itr 0 n.toNat).go i H ∧ ∃ Nx : Hp → Prop, (∀ H', Nx H' → ∃ m', m' < m ∧ W (i + 1) m' H') ∧ ∀ x H', (Itr 0 n.toNat).yld i H x H' → gName j x (wipe σ vs) H' fun σ2 H2 => wipe σ2 vs = wipe σ vs ∧ tYes σ2 H2 fun b H3 =>
        if b = true then te σ2 H3 fun y H4 => ∃ acc, H4 L = some (.lst acc) ∧ acc.length < sizeLine ∧ Nx (upd H4 L (.lst (acc ++ [y]))) else Nx H3) := by
  refine lc_r1 (n := n) ⟨hb.1, by omega⟩ (fun L i H' => ∃ acc κ1, acc.length = i ∧ H' L = some (.lst acc) ∧ I acc κ1 ∧ Ex κ κ1 ∧ Kn d κ1 H' ∧ κ1 L = none ∧ Dw d H' ∧ (∀ a o, a ≠ d → H a = some o → H' a = some o) ∧ ∀ a o, κ1 a = some o → κ a = some o ∨ H a = none) ?_ ?_ ?_
  · intro L hL
    refine ⟨[], κ, rfl, upd_same, I0, Ex.refl _, kn.up (Ex.new hL), kn.ex.free hL, D.mut (D.ne hL), fun a o _ e => Ex.new hL _ _ e, fun _ _ e => .inl e⟩
  · rintro L i H1 hL hi ⟨acc, κ1, e1, hL1, hI, ex1, kn1, k1L, D1, keep1, new1⟩
    have nLd := D.ne hL
    refine ⟨hw _, ?_⟩
    show te _ _ _
    refine hs i acc κ1 H1 _ hi e1 D1 kn1 ex1 hI fun y κ2 H2 g2 I2 => ?_
    refine ⟨acc, g2.kp.keep L _ nLd hL1, Nat.lt_of_lt_of_le (show acc.length < 1000000 by omega) (big_sz (Nat.le_refl _)), acc ++ [y], κ2, by rw [List.length_append, e1]; rfl, upd_same, I2, ex1.trans g2.ex, g2.mut k1L hL1 nLd, ?_, g2.kp.dw.mut nLd, fun a o na e => ?_, fun a o e => ?_⟩
    · cases q : κ2 L with
      | none => rfl
      | some o =>
        rcases g2.new _ _ q with h | h
        · rw [k1L] at h; cases h
        · rw [hL1] at h; cases h
    · rw [upd_ne (ne_of_none e hL)]
      exact g2.kp.keep a o na (keep1 a o na e)
    · rcases g2.new a o e with h | h
      · exact new1 a o h
      · refine .inr ?_
        cases q : H a with
        | none => rfl
        | some u =>
          by_cases na : a = d
          · subst na; rw [g2.kn.no] at e; cases e
          · rw [keep1 a u na q] at h; cases h
  · rintro L H1 hL ⟨acc, κ1, e1, hL1, hI, ex1, kn1, k1L, D1, keep1, new1⟩
    have nLd := D.ne hL
    refine hd L acc κ1 H1 e1 hI ex1 ⟨⟨keep1, D1⟩, ex1.trans (Ex.new k1L), ⟨fun a o e => ?_, by rw [upd_ne nLd.symm]; exact kn1.no⟩, fun a o e => ?_⟩ k1L
    · by_cases q : a = L
      · subst q; rw [upd_same] at e; cases e; exact hL1
      · rw [upd_ne q] at e; exact kn1.ex _ _ e
    · by_cases q : a = L
      · subst q; exact .inr hL
      · rw [upd_ne q] at e; exact new1 _ _ e
end U

/-! names -/
namespace U
open PySem L2
def resW : List Str := ["fun", "out", "use", "val", "ref", "set", "block", "if", "else", "loop", "end", "part", "pick", "then", "dead"]
def LET : List Nat := ("abcdefghijklmnopqrstuvwxyz" : Str).cps.toList
def DIG : List Nat := ("0123456789" : Str).cps.toList
class KRes (K : Frag) : Prop where
  res : ∀ H, SqT K H (He.ga K "RESERVED") (resW.map V.str)
def okC (c : Nat) : Bool := decide (c ∈ LET) || decide (c ∈ DIG)
def inRes (z : Str) : Bool := inV (.str z) (resW.map V.str)
def fstIn (S : List Nat) : List Nat → Bool
  | [] => false
  | c :: _ => decide (c ∈ S)
/-- a name -/
def isName (z : Str) : Bool := !decide (z = "") && (!decide ((8 : Int) < (z.length : Int)) && (!inRes z && (z.cps.toList.all okC && fstIn LET z.cps.toList)))
/-- no text -/
def noStr (x : V) (H : Hp) : Prop := match x with
  | .non => True
  | .bl _ => True
  | .int _ => True
  | .ref p => ∃ o n, H p = some o ∧ tyN o = some n
  | _ => False
theorem noStr.up {x : V} {H H' : Hp} (e : Ex H H') (h : noStr x H) : noStr x H' := by
  cases x with
  | ref p =>
    obtain ⟨o, n, h1, h2⟩ := h
    exact ⟨o, n, e _ _ h1, h2⟩
  | _ => exact h
theorem noStr.is {K : Frag} {x : V} {H : Hp} {Q : Bool → Prop} (h : noStr x H) (q : Q false) : uIs K "str" x H Q := by
  have k : ∀ n, n ∈ ["NoneType", "bool", "int", "list", "tuple", "dict"] → kb n "str" = false := by decide +kernel
  unfold uIs
  cases x with
  | non => show Q (kb "NoneType" "str"); rw [k _ (by decide)]; exact q
  | bl b => show Q (kb "bool" "str"); rw [k _ (by decide)]; exact q
  | int b => show Q (kb "int" "str"); rw [k _ (by decide)]; exact q
  | ref p =>
    obtain ⟨o, n, h1, h2⟩ := h
    refine .inl ⟨o, n, h1, h2, ?_⟩
    have hn : n ∈ ["NoneType", "bool", "int", "list", "tuple", "dict"] := by
      cases o <;> first
        | cases h2; decide
        | cases h2
    rw [k _ hn]
    exact q
  | _ => exact h.elim
theorem kb_ss : kb "str" "str" = true := by decide +kernel
theorem isStr {K : Frag} {z : Str} {H : Hp} {Q : Bool → Prop} (q : Q true) : uIs K "str" (.str z) H Q := by
  unfold uIs
  show Q (kb "str" "str")
  rw [kb_ss]
  exact q
theorem flat_strs (l : List Str) : (l.map V.str).all flatV = true := by
  rw [List.all_eq_true]
  intro x hx
  obtain ⟨z, _, rfl⟩ := List.mem_map.mp hx
  rfl
def nameOf : V → Bool
  | .str z => isName z
  | _ => false
def NameArg (x : V) (H : Hp) : Prop := match x with
  | .str z => z.length ≤ 100000
  | x => noStr x H
theorem NameArg.up {x : V} {H H' : Hp} (e : Ex H H') (h : NameArg x H) : NameArg x H' := by
  cases x with
  | ref p => exact noStr.up (x := .ref p) e h
  | _ => exact h
def sp_is_name (_ : Frag) : Sp := fun vs H Q _ => match vs with
  | [x] => NameArg x H ∧ Q (.bl (nameOf x)) H
  | _ => False
def sl_is_name : List Str := ["text", "character"]
def t_is_name (K : Frag) (E : XK) : TS :=
  (tSeq (tIfS (tNot (uB (uIsE K "str" (uVar 0)))) (tRet (tC (.bl false))) tNext)
    (tSeq (tIfS (tOr (uB (tOp (uEq K) (uVar 0) (tC (.str "")))) (tOr (uB (tOp uGt (tCB (uLen K) (tCons (uVar 0) tNil)) (tC (.int 8)))) ((uB (tOp (uIn K) (uVar 0) (tC (.ref (He.ga K "RESERVED")))))))) (tRet (tC (.bl false))) tNext)
    (tSeq (tFor (uIter K (uVar 0)) (gName 1)
    (tIfS (tAnd (uB (tOp (uNotIn K) (uVar 1) (tC (.str "abcdefghijklmnopqrstuvwxyz")))) ((uB (tOp (uNotIn K) (uVar 1) (tC (.str "0123456789")))))) (tRet (tC (.bl false))) tNext))
    (tRet (tOp (uIn K) (tOp (uIx K) (uVar 0) (tC (.int 0))) (tC (.str "abcdefghijklmnopqrstuvwxyz")))))))
theorem all_take {l : List Nat} {p : Nat → Bool} {i : Nat} {c : Nat} (h : l[i]? = some c) (ht : (l.take i).all p = true) (hc : p c = true) : (l.take (i + 1)).all p = true := by
  rw [List.take_add_one, h, List.all_append, ht]
  simp [hc]
theorem all_not {l : List Nat} {p : Nat → Bool} {i : Nat} {c : Nat} (h : l[i]? = some c) (hc : p c = false) : l.all p = false := by
  rw [List.all_eq_false]
  exact ⟨c, List.mem_of_getElem? h, by rw [hc]; decide⟩
theorem pure_is_name {K : Frag} [KRes K] {E : XK} {x : V} {H : Hp} {Q : VK} (h : sp_is_name K [x] H Q E) : t_is_name K E (fin Q) [some x, none] H := by
  have main : ∀ z : Str, z.length ≤ 100000 → Q (.bl (isName z)) H → t_is_name K E (fin Q) [some (.str z), none] H := by
    intro z hz q
    refine isStr ?_
    refine iD (fun e => ?_) (fun e1 => ?_)
    · rw [show isName z = false by unfold isName; rw [decide_eq_true e]; rfl] at q
      exact q
    refine ⟨by omega, ?_⟩
    refine iD (fun e => ?_) (fun e2 => ?_)
    · rw [show isName z = false by unfold isName; rw [decide_eq_true e]; simp] at q
      exact q
    refine ⟨_, .inr (KRes.res H), rfl, flat_strs _, ?_⟩
    refine iB (fun e => ?_) (fun e3 => ?_)
    · rw [show isName z = false by unfold isName inRes; rw [e]; simp] at q
      exact q
    refine for_str (fun i σ H' => ∃ v, σ = [some (.str z), v] ∧ H' = H ∧ (z.cps.toList.take i).all okC = true) ⟨_, rfl, rfl, rfl⟩ ?_ ?_
    · rintro i c σ H' hi ⟨v, rfl, rfl, ha⟩
      refine ⟨c, rfl, ?_⟩
      refine iN (fun (e : ¬ c ∈ LET) => ?_) (fun (e : c ∈ LET) => ?_)
      · refine ⟨c, rfl, ?_⟩
        refine iN (fun (e' : ¬ c ∈ DIG) => ?_) (fun (e' : c ∈ DIG) => ?_)
        · rw [show isName z = false by
            have : okC c = false := by unfold okC; rw [decide_eq_false e, decide_eq_false e']; rfl
            unfold isName
            rw [all_not hi this]; simp] at q
          exact q
        · exact ⟨_, rfl, rfl, all_take hi ha (by unfold okC; rw [decide_eq_true e']; simp)⟩
      · exact ⟨_, rfl, rfl, all_take hi ha (by unfold okC; rw [decide_eq_true e]; simp)⟩
    · rintro σ H' ⟨v, rfl, rfl, ha⟩
      rw [List.take_length] at ha
      cases hc : z.cps.toList with
      | nil =>
        exact absurd (show z = "" by
          cases z with | mk a => cases a with | mk l => cases hc; rfl) e1
      | cons c r =>
        refine ⟨by omega, c, at_nat (i := 0) (by rw [hc]; rfl), c, rfl, ?_⟩
        have : isName z = decide (c ∈ LET) := by
          unfold isName inRes
          rw [decide_eq_false e1, decide_eq_false e2, e3, ha, hc]
          simp [fstIn]
        rw [this] at q
        exact q
  cases x with
  | str z => exact main z h.1 h.2
  | ty n => exact h.1.elim
  | flt n => exact h.1.elim
  | byt n => exact h.1.elim
  | _ => exact noStr.is h.1 h.2
end U

/-! the law's own defs of k01 -/
namespace U
open PySem L2
def sp_Lwords (_ : Frag) : Sp := fun vs H Q _ => match vs with
  | [] => ∀ p H', H p = none → Ex H H' → H' p = some (.lst (resW.map V.str)) → Q (.ref p) H'
  | _ => False
def sl_Lwords : List Str := ["_law_words_here"]
def t_Lwords (K : Frag) (E : XK) : TS :=
  (tSeq (tAsg (tLst (tCons (tC (.str "fun")) (tCons (tC (.str "out")) (tCons (tC (.str "use")) (tCons (tC (.str "val")) (tCons (tC (.str "ref")) (tCons (tC (.str "set")) (tCons (tC (.str "block")) (tCons (tC (.str "if")) (tCons (tC (.str "else")) (tCons (tC (.str "loop")) (tCons (tC (.str "end")) (tCons (tC (.str "part")) (tCons (tC (.str "pick")) (tCons (tC (.str "then")) tNil))))))))))))))) (gName 0))
    (tRet (tOp uAdd (uVar 0) (tLst (tCons (tC (.str "dead")) tNil)))))
theorem pure_Lwords {K : Frag} {E : XK} {H : Hp} {Q : VK} (h : sp_Lwords K [] H Q E) : t_Lwords K E (fin Q) [none] H := by
  refine ⟨by decide, fun p hp => ?_⟩
  refine ⟨by decide, fun q hq => ?_⟩
  have npq : p ≠ q := fun e => by
    subst e
    rw [upd_same] at hq
    cases hq
  refine ⟨_, _, (upd_ne npq).trans upd_same, upd_same, by decide, fun r hr => ?_⟩
  exact h r _ (((Ex.new hp).trans (Ex.new hq)).free hr) (((Ex.new hp).trans (Ex.new hq)).trans (Ex.new hr)) upd_same
/-- one sign -/
def sp_Lsign (_ : Frag) : Sp := fun vs H Q _ => match vs with
  | [.ref d] => Dw d H ∧ ∀ c H', Kp d H H' → Q (.str ⟨#[c]⟩) H'
  | _ => False
abbrev sp_Lletter := sp_Lsign
def sl_Lsign : List Str := ["_law_draws_here", "_law_signs"]
def t_Lsign (K : Frag) (E : XK) : TS :=
  (tSeq (tAsg (tC (.str " !\"#$&'()*+,-./0123456789:;<=>?@ABCDEFGHIJKLMNOPQRSTUVWXYZ[\\]^_`")) (gName 1))
    (tSeq (tAsg (tOp uAdd (uVar 1) (tC (.str "abcdefghijklmnopqrstuvwxyz{|}~\n"))) (gName 1))
    (tRet (tOp (uIx K) (uVar 1) (tCallS (sp_Ltake K) (fun _ => E) (tCons (uVar 0) (tCons (tCB (uLen K) (tCons (uVar 1) tNil)) tNil)))))))
def sl_Lletter : List Str := ["_law_draws_here"]
def t_Lletter (K : Frag) (E : XK) : TS :=
  (tRet (tOp (uIx K) (tC (.str "abcdefghijklmnopqrstuvwxyz0123456789")) (tCallS (sp_Ltake K) (fun _ => E) (tCons (uVar 0) (tCons (tC (.int 36)) tNil)))))
theorem at_lt {z : Str} {k : Int} (h0 : 0 ≤ k) (h : k < (z.length : Int)) : ∃ c, atI z.cps.toList k = some c := by
  obtain ⟨n, rfl⟩ := Int.eq_ofNat_of_zero_le h0
  have hn : n < z.cps.toList.length := by rw [Array.length_toList]; exact Int.ofNat_lt.mp h
  exact ⟨z.cps.toList[n], at_nat (List.getElem?_eq_getElem hn)⟩
theorem pure_Lletter {K : Frag} {E : XK} {d : Addr} {H : Hp} {Q : VK} (h : sp_Lletter K [.ref d] H Q E) : t_Lletter K E (fin Q) [some (.ref d)] H := by
  obtain ⟨D, k⟩ := h
  refine ⟨by decide, D, fun j H' h0 h1 D' => ?_⟩
  obtain ⟨c, hc⟩ := at_lt (z := "abcdefghijklmnopqrstuvwxyz0123456789") h0 h1
  exact ⟨by decide, c, hc, k c H' D'⟩
theorem pure_Lsign {K : Frag} {E : XK} {d : Addr} {H : Hp} {Q : VK} (h : sp_Lsign K [.ref d] H Q E) : t_Lsign K E (fin Q) [some (.ref d), none] H := by
  obtain ⟨D, k⟩ := h
  refine ⟨by decide, by decide, by decide, D, fun j H' h0 h1 D' => ?_⟩
  obtain ⟨c, hc⟩ := at_lt h0 h1
  exact ⟨by decide, c, hc, k c H' D'⟩
def sp_Lletters (_ : Frag) : Sp := fun vs H Q _ => match vs with
  | [.ref d] => Dw d H ∧ ∀ z H', z.length ≤ 10 → Kp d H H' → Q (.str z) H'
  | _ => False
def sl_Lletters : List Str := ["_law_draws_here", "_law_k"]
def t_Lletters (K : Frag) (E : XK) : TS :=
  (tRet (uM isS (uJoin K) (tC (.str "")) (tCons (tLc (uRng1 (tCons (tCallS (sp_Ltake K) (fun _ => E) (tCons (uVar 0) (tCons (tC (.int 11)) tNil))) tNil)) (gName 1) tYes (tCallS (sp_Lletter K) E00 (tCons (uVar 0) tNil)) [1]) tNil)))
/-- texts of one sign each -/
def Ones (ys : List Str) : Prop := ∀ y ∈ ys, y.length = 1
theorem Ones.sum {ys : List Str} (h : Ones ys) : (ys.map (·.length)).sum = ys.length := by
  induction ys with
  | nil => rfl
  | cons y r ih =>
    rw [List.map_cons, List.sum_cons, h y (List.mem_cons_self ..), ih fun z hz => h z (List.mem_cons_of_mem _ hz), List.length_cons, Nat.add_comm]
theorem join_len {ys : List Str} : (Txt.join Str.empty ys).length ≤ (ys.map (·.length)).sum := by
  rw [TL.join_eq]
  have tlen : ∀ z : Str, z.length = (TL.tl z).length := fun z => rfl
  have key : ∀ l : List (List Nat), (TL.joinL [] l).length ≤ (l.map (·.length)).sum := by
    intro l
    induction l with
    | nil => exact Nat.le_refl _
    | cons a r ih =>
      cases r with
      | nil => simp [TL.joinL]
      | cons b r =>
        show (a ++ ([] ++ TL.joinL [] (b :: r))).length ≤ _
        rw [List.nil_append, List.length_append, List.map_cons, List.sum_cons]
        omega
  rw [tlen, TL.tl_join]
  have := key (ys.map TL.tl)
  rw [List.map_map] at this
  exact this
/-- [one sign for k in range(n)], the draws at d -/
theorem lc_ones {d : Addr} {n : Int} {j : Nat} {H : Hp} {σ : L2.St} {vs : List Nat} {Q : Addr → Hp → Prop} {te : TE} (hn : 0 ≤ n ∧ n ≤ 1000) (D : Dw d H) (hw : ∀ v, wipe ((wipe σ vs).set j v) vs = wipe σ vs)
    (hs : ∀ (i : Int) H1 (R : VK), Dw d H1 → (∀ c H2, Kp d H1 H2 → R (.str ⟨#[c]⟩) H2) → te ((wipe σ vs).set j (some (.int i))) H1 R)
    (k : ∀ p ys H', Ones ys → ys.length = n.toNat → H' p = some (.lst (ys.map V.str)) → Kp d H H' → Q p H') :
    (-(2 ^ 62) ≤ n ∧ n < 2 ^ 62) ∧ ∀ L, H L = none → ∃ W : Nat → Nat → Hp → Prop, (∃ m, W 0 m (upd H L (.lst []))) ∧ ∀ i m H, W i m H →
      ((Itr 0 n.toNat).stop i H ∧ Q L H) ∨ ((Itr 0 n.toNat).go i H ∧ ∃ Nx : Hp → Prop, (∀ H', Nx H' → ∃ m', m' < m ∧ W (i + 1) m' H') ∧ ∀ x H', (Itr 0 n.toNat).yld i H x H' → gName j x (wipe σ vs) H' fun σ2 H2 => wipe σ2 vs = wipe σ vs ∧ tYes σ2 H2 fun b H3 =>
        if b = true then te σ2 H3 fun y H4 => ∃ acc, H4 L = some (.lst acc) ∧ acc.length < sizeLine ∧ Nx (upd H4 L (.lst (acc ++ [y]))) else Nx H3) := by
  refine lc_draw (d := d) (κ := fun _ => none) ⟨hn.1, by omega⟩ D ⟨(fun _ _ e => nomatch e), rfl⟩ (fun acc _ => ∃ ys, Ones ys ∧ acc = ys.map V.str) ⟨[], (fun _ h => by cases h), rfl⟩ hw ?_ ?_
  · rintro i acc κ1 H1 R hi ha D1 kn1 ex1 ⟨ys, o, rfl⟩ r
    refine hs _ _ _ D1 fun c H2 k2 => r _ κ1 H2 (Gw.of kn1 k2) ⟨ys ++ [⟨#[c]⟩], fun y hy => ?_, by rw [List.map_append]; rfl⟩
    rcases List.mem_append.mp hy with hy | hy
    · exact o y hy
    · rw [List.mem_singleton.mp hy]; rfl
  · rintro L acc κ1 H1 e ⟨ys, o, rfl⟩ ex1 g _
    exact k L ys H1 o (by rw [← e, List.length_map]) (g.kn.ex _ _ upd_same) g.kp
theorem ones_join {K : Frag} {p : Addr} {ys : List Str} {H : Hp} {Q : VK} (o : Ones ys) (hl : ys.length ≤ 1000) (h : H p = some (.lst (ys.map V.str))) (q : ∀ z : Str, z.length ≤ ys.length → Q (.str z) H) : uJoin K (.str "") [.ref p] H Q := by
  refine ⟨ys, sqL h, ?_, q _ ?_⟩
  · rw [o.sum]
    show ys.length + ys.length * 0 ≤ _
    omega
  · have := join_len (ys := ys)
    rw [o.sum] at this
    exact this
theorem pure_Lletters {K : Frag} {E : XK} {d : Addr} {H : Hp} {Q : VK} (h : sp_Lletters K [.ref d] H Q E) : t_Lletters K E (fin Q) [some (.ref d), none] H := by
  obtain ⟨D, k⟩ := h
  refine ⟨trivial, by decide, D, fun n H1 h0 h1 D1 => ?_⟩
  refine lc_ones (d := d) ⟨h0, by omega⟩ D1.dw (fun _ => rfl) (fun i H2 R D2 r => ⟨D2, r⟩) fun p ys H2 o e hp D2 => ?_
  refine ones_join o (by omega) hp fun z hz => ?_
  exact k z H2 (by omega) (D1.trans D2)
/-- a drawn thing: a text, or none -/
def ThingOk (x : V) (κ : Hp) : Prop := (∃ z, x = .str z ∧ z.length ≤ 1000) ∨ noStr x κ
def sp_Lthing (_ : Frag) : Sp := fun vs H Q _ => match vs with
  | [.ref d] => Dw d H ∧ ∃ κ, Kn d κ H ∧ ∀ x κ' H', Gw d κ H κ' H' → ThingOk x κ' → Q x H'
  | _ => False
def sl_Lthing : List Str := ["_law_draws_here", "_law_shape", "_law_word", "_law_change", "_law_k", "_law_text", "_law_at"]
def t_Lthing (K : Frag) (E : XK) : TS :=
  (tSeq (tAsg (tCallS (sp_Ltake K) (fun _ => E) (tCons (uVar 0) (tCons (tC (.int 6)) tNil))) (gName 1))
    (tSeq (tIfS (uB (tOp (uEq K) (uVar 1) (tC (.int 0)))) (tSeq (tAsg (tOp (uIx K) (tCallS (sp_Lwords K) (fun _ => E) tNil) (tCallS (sp_Ltake K) (fun _ => E) (tCons (uVar 0) (tCons (tC (.int 15)) tNil)))) (gName 2))
    (tSeq (tAsg (tCallS (sp_Ltake K) (fun _ => E) (tCons (uVar 0) (tCons (tC (.int 4)) tNil))) (gName 3))
    (tCut (tIfS (uB (tOp (uEq K) (uVar 3) (tC (.int 1)))) (tAsg (tOp uAdd (tCallS (sp_Lletter K) (fun _ => E) (tCons (uVar 0) tNil)) (uVar 2)) (gName 2)) tNext)
    (tCut (tIfS (uB (tOp (uEq K) (uVar 3) (tC (.int 2)))) (tAsg (tOp uAdd (uVar 2) (tCallS (sp_Lletter K) (fun _ => E) (tCons (uVar 0) tNil))) (gName 2)) tNext)
    (tCut (tIfS (uB (tOp (uEq K) (uVar 3) (tC (.int 3)))) (tAsg (tSl (uSl K) (uVar 2) tNoPart (uPart (tOp uSub (tCB (uLen K) (tCons (uVar 2) tNil)) (tC (.int 1))))) (gName 2)) tNext)
    (tRet (uVar 2))))))) tNext)
    (tSeq (tIfS (uB (tOp (uEq K) (uVar 1) (tC (.int 1)))) (tRet (tCallS (sp_Lletters K) (fun _ => E) (tCons (uVar 0) tNil))) tNext)
    (tSeq (tIfS (uB (tOp (uEq K) (uVar 1) (tC (.int 2)))) (tRet (uM isS (uJoin K) (tC (.str "")) (tCons (tLc (uRng1 (tCons (tCallS (sp_Ltake K) (fun _ => E) (tCons (uVar 0) (tCons (tC (.int 11)) tNil))) tNil)) (gName 4) tYes (tCallS (sp_Lsign K) E00 (tCons (uVar 0) tNil)) [4]) tNil))) tNext)
    (tSeq (tIfS (uB (tOp (uEq K) (uVar 1) (tC (.int 3)))) (tSeq (tAsg (tCallS (sp_Lletters K) (fun _ => E) (tCons (uVar 0) tNil)) (gName 5))
    (tSeq (tAsg (tCallS (sp_Ltake K) (fun _ => E) (tCons (uVar 0) (tCons (tOp uAdd (tCB (uLen K) (tCons (uVar 5) tNil)) (tC (.int 1))) tNil))) (gName 6))
    (tRet (tOp uAdd (tOp uAdd (tSl (uSl K) (uVar 5) tNoPart (uPart (uVar 6))) (tCallS (sp_Lsign K) (fun _ => E) (tCons (uVar 0) tNil))) (tSl (uSl K) (uVar 5) (uPart (uVar 6)) tNoPart))))) tNext)
    (tSeq (tIfS (uB (tOp (uEq K) (uVar 1) (tC (.int 4)))) (tRet (tOp uMul (tCallS (sp_Lletter K) (fun _ => E) (tCons (uVar 0) tNil)) (tOp uAdd (tC (.int 1)) (tCallS (sp_Ltake K) (fun _ => E) (tCons (uVar 0) (tCons (tC (.int 40)) tNil)))))) tNext)
    (tRet (tOp (uIx K) (tLst (tCons (tC .non) (tCons (tC (.bl true)) (tCons (tC (.bl false)) (tCons (tC (.int 0)) (tCons (tC (.int 7)) (tCons (tLst tNil) (tCons (tLst (tCons (tC (.str "a")) tNil)) (tCons (tTup (tCons (tC (.str "a")) tNil)) (tCons (tDisp (((tC (.str "a")), (tC (.str "a"))) :: [])) tNil)))))))))) (tCallS (sp_Ltake K) (fun _ => E) (tCons (uVar 0) (tCons (tC (.int 9)) tNil)))))))))))
theorem res_at {k : Int} (h0 : 0 ≤ k) (h1 : k < 15) : ∃ z : Str, atI (resW.map V.str) k = some (.str z) ∧ z.length ≤ 5 := by
  obtain ⟨n, rfl⟩ := Int.eq_ofNat_of_zero_le h0
  have hn : n < 15 := by omega
  have : ∀ n, n < 15 → ∃ z : Str, (resW.map V.str)[n]? = some (.str z) ∧ z.length ≤ 5 := by
    intro n hn
    have hr : n < resW.length := hn
    refine ⟨resW[n], by rw [List.getElem?_map, List.getElem?_eq_getElem hr]; rfl, ?_⟩
    have : ∀ z ∈ resW, z.length ≤ 5 := by decide
    exact this _ (List.getElem_mem hr)
  obtain ⟨z, hz, hl⟩ := this n hn
  exact ⟨z, at_nat hz, hl⟩
theorem cutS_len (z : Str) (lo hi : Option Int) : (cutS z lo hi).length ≤ z.length := by
  show (List.toArray _).size ≤ z.cps.size
  rw [List.size_toArray, List.length_take, List.length_drop, Array.length_toList]
  omega
theorem add_len (a b : Str) : (a ++ b).length = a.length + b.length := Array.size_append
theorem pure_Lthing {K : Frag} {E : XK} {d : Addr} {H : Hp} {Q : VK} (h : sp_Lthing K [.ref d] H Q E) : t_Lthing K E (fin Q) [some (.ref d), none, none, none, none, none, none] H := by
  obtain ⟨D, κ, kn, k⟩ := h
  have str : ∀ (z : Str) H', z.length ≤ 1000 → Kp d H H' → Q (.str z) H' := fun z H' hz D' => k _ κ H' (Gw.of kn D') (.inl ⟨z, rfl, hz⟩)
  refine ⟨by decide, D, fun s H1 h0 h1 k1 => ?_⟩
  refine iD (fun e => ?_) (fun e => ?_)
  · -- a reserved word
    intro p H2 hp ex2 hw
    have k2 := k1.then ex2
    have npd : p ≠ d := k1.dw.ne hp
    refine ⟨by decide, k2.dw, fun i H3 i0 i1 k3 => ?_⟩
    have hw3 := k3.keep _ _ npd hw
    obtain ⟨z, hz, hl⟩ := res_at i0 i1
    refine ⟨_, _, sqL hw3, hz, ?_⟩
    refine ⟨by decide, k3.dw, fun c H4 c0 c1 k4 => ?_⟩
    have k4' := (k2.trans k3).trans k4
    refine ⟨fun σ' H' => ∃ z : Str, z.length ≤ 10 ∧ σ' = [some (.ref d), some (.int s), some (.str z), some (.int c), none, none, none] ∧ Kp d H H', ?_, ?_⟩
    · refine iD (fun e => ?_) (fun e => ?_)
      · refine ⟨k4.dw, fun c H5 k5 => ⟨?_, _, ?_, rfl, k4'.trans k5⟩⟩
        · show 1 + z.length ≤ _; omega
        · rw [add_len]; show 1 + z.length ≤ _; omega
      · exact ⟨z, by omega, rfl, k4'⟩
    rintro σ' H5 ⟨z, hl, rfl, k5⟩
    refine ⟨fun σ' H' => ∃ z : Str, z.length ≤ 20 ∧ σ' = [some (.ref d), some (.int s), some (.str z), some (.int c), none, none, none] ∧ Kp d H H', ?_, ?_⟩
    · refine iD (fun e => ?_) (fun e => ?_)
      · refine ⟨k5.dw, fun c H6 k6 => ⟨?_, _, ?_, rfl, k5.trans k6⟩⟩
        · show z.length + 1 ≤ _; omega
        · rw [add_len]; show z.length + 1 ≤ _; omega
      · exact ⟨z, by omega, rfl, k5⟩
    rintro σ' H6 ⟨z, hl, rfl, k6⟩
    refine ⟨fun σ' H' => ∃ z : Str, z.length ≤ 20 ∧ σ' = [some (.ref d), some (.int s), some (.str z), some (.int c), none, none, none] ∧ Kp d H H', ?_, ?_⟩
    · refine iD (fun e => ?_) (fun e => ?_)
      · refine ⟨by omega, by omega, _, Nat.le_trans (cutS_len _ _ _) hl, rfl, k6⟩
      · exact ⟨z, by omega, rfl, k6⟩
    rintro σ' H7 ⟨z, hl, rfl, k7⟩
    exact str z H7 (by omega) k7
  refine iD (fun e => ?_) (fun e => ?_)
  · exact ⟨k1.dw, fun z H2 hz k2 => str z H2 (by omega) (k1.trans k2)⟩
  refine iD (fun e => ?_) (fun e => ?_)
  · refine ⟨trivial, by decide, k1.dw, fun n H2 n0 n1 k2 => ?_⟩
    refine lc_ones (d := d) ⟨n0, by omega⟩ k2.dw (fun _ => rfl) (fun i H2 R D2 r => ⟨D2, r⟩) fun p ys H3 o e hp k3 => ?_
    exact ones_join o (by omega) hp fun z hz => str z H3 (by omega) ((k1.trans k2).trans k3)
  refine iD (fun e => ?_) (fun e => ?_)
  · refine ⟨k1.dw, fun z H2 hz k2 => ?_⟩
    refine ⟨by omega, by omega, k2.dw, fun at_ H3 a0 a1 k3 => ?_⟩
    refine ⟨by omega, k3.dw, fun c H4 k4 => ?_⟩
    have l1 := cutS_len z none (some at_)
    have l2 := cutS_len z (some at_) none
    refine ⟨?_, by omega, ?_, str _ H4 ?_ ((k1.trans k2).trans (k3.trans k4))⟩
    · show _ + 1 ≤ _; omega
    · rw [add_len]; show _ + 1 + _ ≤ _; omega
    · rw [add_len, add_len]; show _ + 1 + _ ≤ _; omega
  refine iD (fun e => ?_) (fun e => ?_)
  · refine ⟨k1.dw, fun c H2 k2 => ?_⟩
    refine ⟨by decide, k2.dw, fun m H3 m0 m1 k3 => ?_⟩
    refine ⟨by omega, by omega, by show 1 ≤ 1; decide, by show 1 ≤ 1000; decide, fun r hr => ?_⟩
    refine str r H3 ?_ ((k1.trans k2).trans k3)
    have := congrArg List.length hr
    rw [Array.length_toList] at this
    show r.cps.size ≤ 1000
    rw [this]
    simp
    omega
  · -- a thing that is no text
    have g0 := Gw.of kn k1
    refine ⟨by decide, fun p1 h1 => ?_⟩
    have g1 := Gw.add (o := .lst []) g0.kp.dw g0.kn h1
    refine ⟨by decide, fun p2 h2 => ?_⟩
    have g2 := Gw.add (o := .lst [.str "a"]) g1.kp.dw g1.kn h2
    refine ⟨by decide, fun p3 h3 => ?_⟩
    have g3 := Gw.add (o := .tup [.str "a"]) g2.kp.dw g2.kn h3
    intro p4 h4
    have g4 := Gw.add (o := .dK (mergeK [] [(.inr "a", .str "a")])) g3.kp.dw g3.kn h4
    refine ⟨upd_same, [(.inr "a", .str "a")], rfl, by decide, ?_⟩
    rw [upd_upd]
    refine ⟨by show 9 ≤ sizeLine; decide, fun p5 h5 => ?_⟩
    have g5 := Gw.add (o := .lst [.non, .bl true, .bl false, .int 0, .int 7, .ref p1, .ref p2, .ref p3, .ref p4]) g4.kp.dw g4.kn h5
    refine ⟨by decide, g5.kp.dw, fun j H6 j0 j1 k6 => ?_⟩
    have g6 := g0.trans D (g1.trans k1.dw (g2.trans g1.kp.dw (g3.trans g2.kp.dw (g4.trans g3.kp.dw (g5.trans g4.kp.dw (Gw.of g5.kn k6))))))
    have hx : ∀ x, atI [.non, .bl true, .bl false, .int 0, .int 7, .ref p1, .ref p2, .ref p3, .ref p4] j = some x → noStr x _ → Q x H6 := fun x _ hx => k x _ H6 g6 (.inr hx)
    have hL := sqL (K := K) (g6.kn.ex _ _ upd_same)
    have c : j = 0 ∨ j = 1 ∨ j = 2 ∨ j = 3 ∨ j = 4 ∨ j = 5 ∨ j = 6 ∨ j = 7 ∨ j = 8 := by omega
    have e1 := (g2.ex.trans (g3.ex.trans (g4.ex.trans g5.ex))) p1 _ upd_same
    have e2 := (g3.ex.trans (g4.ex.trans g5.ex)) p2 _ upd_same
    have e3 := (g4.ex.trans g5.ex) p3 _ upd_same
    have e4 := g5.ex p4 _ upd_same
    rcases c with rfl | rfl | rfl | rfl | rfl | rfl | rfl | rfl | rfl
    · exact ⟨_, _, hL, rfl, hx _ rfl trivial⟩
    · exact ⟨_, _, hL, rfl, hx _ rfl trivial⟩
    · exact ⟨_, _, hL, rfl, hx _ rfl trivial⟩
    · exact ⟨_, _, hL, rfl, hx _ rfl trivial⟩
    · exact ⟨_, _, hL, rfl, hx _ rfl trivial⟩
    · exact ⟨_, _, hL, rfl, hx _ rfl ⟨_, _, e1, rfl⟩⟩
    · exact ⟨_, _, hL, rfl, hx _ rfl ⟨_, _, e2, rfl⟩⟩
    · exact ⟨_, _, hL, rfl, hx _ rfl ⟨_, _, e3, rfl⟩⟩
    · exact ⟨_, _, hL, rfl, hx _ rfl ⟨_, _, e4, rfl⟩⟩
/-! the law's own test of names -/
theorem ld_eq : ("abcdefghijklmnopqrstuvwxyz0123456789" : Str).cps.toList = LET ++ DIG := by decide +kernel
theorem let_dig : ∀ c ∈ LET, ¬ c ∈ DIG := by decide +kernel
def sp_Lis_name (_ : Frag) : Sp := fun vs H Q _ => match vs with
  | [x] => NameArg x H ∧ ∀ H', Ex H H' → Q (.bl (nameOf x)) H'
  | _ => False
def sl_Lis_name : List Str := ["_law_thing_here", "_law_sign_here"]
def t_Lis_name (K : Frag) (E : XK) : TS :=
  (tSeq (tIfS (tNot (uB (uIsE K "str" (uVar 0)))) (tRet (tC (.bl false))) tNext)
    (tSeq (tIfS (tOr (uB (tOp uLt (tCB (uLen K) (tCons (uVar 0) tNil)) (tC (.int 1)))) (tOr (uB (tOp uGt (tCB (uLen K) (tCons (uVar 0) tNil)) (tC (.int 8)))) ((uB (tOp (uIn K) (uVar 0) (tCallS (sp_Lwords K) (fun _ => E) tNil)))))) (tRet (tC (.bl false))) tNext)
    (tSeq (tFor (uIter K (uVar 0)) (gName 1)
    (tIfS (uB (tOp (uNotIn K) (uVar 1) (tC (.str "abcdefghijklmnopqrstuvwxyz0123456789")))) (tRet (tC (.bl false))) tNext))
    (tRet (tOp (uNotIn K) (tOp (uIx K) (uVar 0) (tC (.int 0))) (tC (.str "0123456789")))))))
theorem pure_Lis_name {K : Frag} {E : XK} {x : V} {H : Hp} {Q : VK} (h : sp_Lis_name K [x] H Q E) : t_Lis_name K E (fin Q) [some x, none] H := by
  have main : ∀ z : Str, z.length ≤ 100000 → (∀ H', Ex H H' → Q (.bl (isName z)) H') → t_Lis_name K E (fin Q) [some (.str z), none] H := by
    intro z hz q
    have no : ∀ {H'}, Ex H H' → isName z = false → Q (.bl false) H' := fun e h => by
      have := q _ e
      rw [h] at this
      exact this
    refine isStr ?_
    refine ⟨by omega, ?_⟩
    refine iD (fun e => ?_) (fun e1 => ?_)
    · refine no (Ex.refl _) ?_
      have : z = "" := by
        cases z with | mk a => cases a with | mk l =>
          cases l with
          | nil => rfl
          | cons c r => exact absurd e (by show ¬ (((c :: r).length : Nat) : Int) < 1; rw [List.length_cons]; omega)
      unfold isName
      rw [decide_eq_true this]; rfl
    refine ⟨by omega, ?_⟩
    refine iD (fun e => ?_) (fun e2 => ?_)
    · refine no (Ex.refl _) ?_
      unfold isName
      rw [decide_eq_true e]; simp
    intro p H2 hp ex hw
    refine ⟨_, sqL hw, rfl, flat_strs _, ?_⟩
    refine iB (fun e => ?_) (fun e3 => ?_)
    · refine no ex ?_
      unfold isName inRes
      rw [e]; simp
    refine for_str (fun i σ H' => ∃ v, σ = [some (.str z), v] ∧ H' = H2 ∧ (z.cps.toList.take i).all okC = true) ⟨_, rfl, rfl, rfl⟩ ?_ ?_
    · rintro i c σ H' hi ⟨v, rfl, rfl, ha⟩
      refine ⟨c, rfl, ?_⟩
      rw [ld_eq]
      refine iN (fun e => ?_) (fun e => ?_)
      · refine no ex ?_
        have : okC c = false := by
          unfold okC
          rw [decide_eq_false fun h => e (List.mem_append_left _ h), decide_eq_false fun h => e (List.mem_append_right _ h)]; rfl
        unfold isName
        rw [all_not hi this]; simp
      · refine ⟨_, rfl, rfl, all_take hi ha ?_⟩
        unfold okC
        rcases List.mem_append.mp e with h | h
        · rw [decide_eq_true h]; rfl
        · rw [decide_eq_true h]; simp
    · rintro σ H' ⟨v, rfl, rfl, ha⟩
      rw [List.take_length] at ha
      cases hc : z.cps.toList with
      | nil =>
        exact absurd (show (z.length : Int) < 1 by
          have : z.length = 0 := by show z.cps.size = 0; rw [← Array.length_toList, hc]; rfl
          omega) e1
      | cons c r =>
        refine ⟨by omega, c, at_nat (i := 0) (by rw [hc]; rfl), c, rfl, ?_⟩
        have hz1 : ¬ z = "" := fun h => by subst h; cases hc
        have hok : okC c = true := by
          rw [hc, List.all_cons] at ha
          exact (Bool.and_eq_true_iff.mp ha).1
        have h1 : isName z = decide (c ∈ LET) := by
          unfold isName inRes
          rw [decide_eq_false hz1, decide_eq_false e2, e3, ha, hc]
          simp [fstIn]
        have h2 : (!decide (c ∈ DIG)) = decide (c ∈ LET) := by
          unfold okC at hok
          by_cases hl : c ∈ LET
          · rw [decide_eq_true hl, decide_eq_false (let_dig c hl)]; rfl
          · rw [decide_eq_false hl, Bool.false_or] at hok
            rw [decide_eq_false hl, hok]; rfl
        have q' := q _ ex
        rw [h1, ← h2] at q'
        exact q'
  cases x with
  | str z => exact main z h.1 h.2
  | ty n => exact h.1.elim
  | flt n => exact h.1.elim
  | byt n => exact h.1.elim
  | _ => exact noStr.is h.1 (h.2 _ (Ex.refl _))
def sp_Lright (_ : Frag) : Sp := fun vs H Q _ => match vs with
  | [x, .bl b] => NameArg x H ∧ Q (.bl (decide (nameOf x = b))) H
  | _ => False
def sl_Lright : List Str := ["_law_thing_here", "_law_due", "_law_said"]
def t_Lright (K : Frag) (E : XK) : TS :=
  (tSeq (tAsg (tCallS (sp_is_name K) (fun _ => E) (tCons (uVar 0) tNil)) (gName 2))
    (tRet (uAndV (uIsE K "bool" (uVar 2)) ((tOp (uEq K) (uVar 2) (uVar 1))))))
theorem kb_bb : kb "bool" "bool" = true := by decide +kernel
theorem pure_Lright {K : Frag} {E : XK} {x : V} {b : Bool} {H : Hp} {Q : VK} (h : sp_Lright K [x, .bl b] H Q E) : t_Lright K E (fin Q) [some x, some (.bl b), none] H := by
  refine ⟨h.1, ?_⟩
  have ty : ∀ (c : Bool) (R : Bool → Prop), R true → uIs K "bool" (.bl c) H R := fun c R r => by
    unfold uIs
    show R (kb "bool" "bool")
    rw [kb_bb]; exact r
  refine ty _ _ ?_
  exact h.2
def sp_Law (K : Frag) : Sp := fun vs H Q _ => match vs with
  | [.ref a] => ∃ ns : List Int, SqL K H a (ns.map V.int) ∧ ns.length ≤ 63 ∧ ∀ H', Q (.bl true) H'
  | _ => False
abbrev sp_Law_k01 := sp_Law
def sl_Law_k01 : List Str := ["_law_script", "_law_draws_here", "_law_word", "_law_things", "_law_k"]
def t_Law_k01 (K : Frag) (E : XK) : TS :=
  (tSeq (tAsg (tCallS (sp_Ldraws K) (fun _ => E) (tCons (uVar 0) tNil)) (gName 1))
    (tSeq (tIfS (tOr (tNot (uB (uIsE K "tuple" (tC (.ref (He.ga K "RESERVED")))))) ((uB (tOp (uNe K) (tCB (uList K) (tCons (tC (.ref (He.ga K "RESERVED"))) tNil)) (tCallS (sp_Lwords K) (fun _ => E) tNil))))) (tRet (tC (.bl false))) tNext)
    (tSeq (tFor (uIter K (tCallS (sp_Lwords K) (fun _ => E) tNil)) (gName 2)
    (tIfS (tOr (tNot (uB (tCallS (sp_Lright K) (fun _ => E) (tCons (uVar 2) (tCons (tC (.bl false)) tNil))))) ((tNot (uB (tCallS (sp_Lright K) (fun _ => E) (tCons (tOp uAdd (uVar 2) (tC (.str "1"))) (tCons (tC (.bl true)) tNil))))))) (tRet (tC (.bl false))) tNext))
    (tSeq (tAsg (tLc (uRng1 (tCons (tC (.int 6)) tNil)) (gName 4) tYes (tCallS (sp_Lthing K) E00 (tCons (uVar 1) tNil)) [4]) (gName 3))
    (tSeq (tFor (uRng1 (tCons (tC (.int 6)) tNil)) (gName 4)
    (tIfS (tNot (uB (tCallS (sp_Lright K) (fun _ => E) (tCons (tOp (uIx K) (uVar 3) (uVar 4)) (tCons (tCallS (sp_Lis_name K) (fun _ => E) (tCons (tOp (uIx K) (uVar 3) (uVar 4)) tNil)) tNil))))) (tRet (tC (.bl false))) tNext))
    (tSeq (tFor (uRng1 (tCons (tC (.int 6)) tNil)) (gName 4)
    (tIfS (tNot (uB (tCallS (sp_Lright K) (fun _ => E) (tCons (tOp (uIx K) (uVar 3) (tOp uSub (tC (.int 5)) (uVar 4))) (tCons (tCallS (sp_Lis_name K) (fun _ => E) (tCons (tOp (uIx K) (uVar 3) (tOp uSub (tC (.int 5)) (uVar 4))) tNil)) tNil))))) (tRet (tC (.bl false))) tNext))
    (tRet (tC (.bl true)))))))))
theorem dp_strs {K : Frag} {H : Hp} : ∀ l : List Str, DpAll K H (l.map V.str) (l.map PyData.str)
  | [] => .nil
  | z :: r => .cons (.str z) (dp_strs r)
theorem pure_Law_k01 {K : Frag} [KRes K] {E : XK} {a : Addr} {H : Hp} {Q : VK} (h : sp_Law_k01 K [.ref a] H Q E) : t_Law_k01 K E (fin Q) [some (.ref a), none, none, none, none] H := by
  obtain ⟨ns, hs, hl, k⟩ := h
  refine ⟨ns, hs, hl, fun d H1 hd ex1 D1 => ?_⟩
  have ty : ∀ {H : Hp} {R : Bool → Prop}, R true → uIs K "tuple" (.ref (He.ga K "RESERVED")) H R := fun {H R} r => by
    unfold uIs
    have kt : kitB "tuple" "tuple" = some true := by decide +kernel
    refine .inr ⟨.type "tuple", true, ?_, kit_ty kt, r⟩
    rcases KRes.res (K := K) H with h | ⟨o, its, n, h1, h2, _⟩
    · rcases h with h | ⟨o, h⟩
      · exact .base (.tup h)
      · exact .fTuple h
    · exact .kTuple h1 h2
  refine ty ?_
  refine ⟨_, .inr (KRes.res H1), fun p1 h1 => ?_⟩
  intro p2 H2 h2 ex2 hw
  have e1 := ex2 p1 _ upd_same
  have dd : Dp K H2 (.ref p1) (.list (resW.map PyData.str)) := .lst (SqL.of e1) (dp_strs _)
  have de : Dp K H2 (.ref p2) (.list (resW.map PyData.str)) := .lst (SqL.of hw) (dp_strs _)
  have sh : SeqAt.shaped (PyData.list (resW.map PyData.str)) = true := by decide +kernel
  have ev : PyData.eqv (PyData.list (resW.map PyData.str)) (PyData.list (resW.map PyData.str)) = true := by decide +kernel
  refine ⟨_, _, dd, de, sh, sh, ?_⟩
  rw [ev]
  have exH : Ex H1 H2 := (Ex.new h1).trans ex2
  have D2 : Dw d H2 := (Kp.of D1 exH).dw
  intro p3 H3 h3 ex3 hw3
  have D3 : Dw d H3 := (Kp.of D2 ex3).dw
  have n3 : p3 ≠ d := D2.ne h3
  have r1 : ∀ z ∈ resW, isName z = false ∧ isName (z ++ "1") = true ∧ z.length ≤ 5 := by decide +kernel
  refine .inl ⟨_, SqL.of hw3, for_list (K := K) (xs := resW.map V.str) (fun i σ H' => ∃ v, σ = [some (.ref a), some (.ref d), v, none, none] ∧ H' = H3) ⟨_, rfl, rfl⟩ (fun i σ H' _ ⟨_, _, e⟩ => by rw [e]; exact SqL.of hw3) ?_ ?_⟩
  · rintro i x σ H' hi ⟨v, rfl, rfl⟩
    obtain ⟨z, hz, rfl⟩ := List.mem_map.mp (List.mem_of_getElem? hi)
    obtain ⟨q1, q2, q3⟩ := r1 z hz
    refine ⟨by show z.length ≤ 100000; omega, ?_⟩
    show (if (!decide (isName z = false)) = true then _ else _)
    rw [q1]
    refine ⟨by show z.length + 1 ≤ _; omega, ?_⟩
    refine ⟨by show (z ++ "1" : Str).length ≤ 100000; rw [add_len]; show z.length + 1 ≤ _; omega, ?_⟩
    show (if (!decide (isName (z ++ "1") = true)) = true then _ else _)
    rw [q2]
    exact ⟨_, rfl, rfl⟩
  rintro σ H' ⟨v, rfl, rfl⟩
  refine lc_draw (d := d) (κ := fun _ => none) (n := 6) (by decide) D3 ⟨(fun _ _ e => nomatch e), rfl⟩ (fun acc κ => ∀ x ∈ acc, ThingOk x κ) (fun _ h => nomatch h) (fun _ => rfl) ?_ ?_
  · intro i acc κ1 H4 R hi ha D4 kn4 ex4 hI r
    refine ⟨D4, κ1, kn4, fun x κ2 H5 g5 hx => r x κ2 H5 g5 fun y hy => ?_⟩
    rcases List.mem_append.mp hy with hy | hy
    · rcases hI y hy with h | h
      · exact .inl h
      · exact .inr (h.up g5.ex)
    · rw [List.mem_singleton.mp hy]; exact hx
  intro L acc κ1 H4 hlen hI ex4 g4 hkL
  have hL : H4 L = some (.lst acc) := g4.kn.ex _ _ upd_same
  have exk : Ex κ1 H4 := (Ex.new hkL).trans g4.kn.ex
  have arg : ∀ x ∈ acc, ∀ H', Ex H4 H' → NameArg x H' := by
    intro x hx H' e
    rcases hI x hx with ⟨z, rfl, hz⟩ | h
    · show z.length ≤ 100000; omega
    · have h' := h.up (exk.trans e)
      cases x with
      | str z => exact h'.elim
      | _ => exact h'
  have item : ∀ j : Nat, j < 6 → ∃ x, acc[j]? = some x ∧ x ∈ acc := fun j hj => by
    have hj' : j < acc.length := by rw [hlen]; exact hj
    exact ⟨acc[j], List.getElem?_eq_getElem hj', List.getElem_mem hj'⟩
  have turn : ∀ {x : V} {H' : Hp} {R : Bool → Prop}, R false → R (!decide (nameOf x = nameOf x)) := fun {x H' R} r => by rw [decide_eq_true rfl]; exact r
  refine for_r1 (n := 6) (by decide) (fun i σ H' => ∃ w v, σ = [some (.ref a), some (.ref d), w, some (.ref L), v] ∧ Ex H4 H') ⟨_, _, rfl, Ex.refl _⟩ ?_ ?_
  · rintro i σ H' hi ⟨w, v, rfl, ex⟩
    obtain ⟨x, hx, hm⟩ := item i (by omega)
    refine ⟨_, x, sqL (ex _ _ hL), at_nat hx, ?_⟩
    refine ⟨_, x, sqL (ex _ _ hL), at_nat hx, ?_⟩
    refine ⟨arg x hm _ ex, fun H5 ex5 => ?_⟩
    refine ⟨arg x hm _ (ex.trans ex5), ?_⟩
    show (if (!decide (nameOf x = nameOf x)) = true then _ else _)
    rw [decide_eq_true rfl]
    exact ⟨_, _, rfl, ex.trans ex5⟩
  rintro σ H' ⟨w, v, rfl, ex⟩
  refine for_r1 (n := 6) (by decide) (fun i σ H' => ∃ w v, σ = [some (.ref a), some (.ref d), w, some (.ref L), v] ∧ Ex H4 H') ⟨_, _, rfl, ex⟩ ?_ ?_
  · rintro i σ H' hi ⟨w, v, rfl, ex⟩
    obtain ⟨x, hx, hm⟩ := item (5 - i) (by omega)
    have e5 : (5 : Int) - (i : Int) = ((5 - i : Nat) : Int) := by omega
    refine ⟨_, x, sqL (ex _ _ hL), by rw [e5]; exact at_nat hx, ?_⟩
    refine ⟨_, x, sqL (ex _ _ hL), by rw [e5]; exact at_nat hx, ?_⟩
    refine ⟨arg x hm _ ex, fun H5 ex5 => ?_⟩
    refine ⟨arg x hm _ (ex.trans ex5), ?_⟩
    show (if (!decide (nameOf x = nameOf x)) = true then _ else _)
    rw [decide_eq_true rfl]
    exact ⟨_, _, rfl, ex.trans ex5⟩
  rintro σ H' ⟨w, v, rfl, ex⟩
  exact k H'
end U

namespace Row
open PySem PySem.Spec PyProof.Rows L2 U
def top (i : Nat) : Stmt := PySem.Challenge.pw_unnamedlives_k01_names.main.body.getD i (.Pass ⟨0, 0, 0, 0⟩)
section
variable {P : Program} {w : World} {K : Frag} {mg : Str → Option Value} {base : Heap} [KRes K]
theorem sc_Ldraws : FnScope sl_Ldraws ["_law_script"] (defScope (top 7)) := ⟨rfl, rfl, rfl, by decide +kernel, rfl, by decide +kernel, by decide +kernel⟩
theorem ok_Ldraws {f : Addr} {fd : FuncData} (F : FnP K "_law_draws" (top 7) f fd) (fr : Free mg)  : FnOk P w K mg base (L2.CX P w) 1 f fd ["_law_script"] (sp_Ldraws K) := by
  refine FunD.ok F sc_Ldraws (fun vs H Q E h => ?_) (fun cdv A outer s H vs Q E hr h => ⟨t_Ldraws K E, ?_, ?_⟩)
  · unfold sp_Ldraws at h
    split at h
    all_goals first
      | rfl
      | exact h.elim
  · have px := ps_of (takes_of (X := cxOf (L2.CX P w) P w K mg base sl_Ldraws "_law_draws" (defScope (top 7)) f cdv A outer s H E) rfl rfl rfl rfl)
    have po := passes_of (X := cxOf (L2.CX P w) P w K mg base sl_Ldraws "_law_draws" (defScope (top 7)) f cdv A outer s H E) rfl
    have hu64 := hr.units
    exact (pss_cons (ps_set (i := 1) sc_Ldraws.nd rfl (Or.inl rfl) (pe_lst pa_nil))
    (pss_cons (ps_for po rfl (i_rng1 rfl fr.range (pa_cons (k_min fr rfl rfl (pa_cons (pe_int) (pa_cons (k_len fr rfl (pa_cons (uv 0) pa_nil)) pa_nil))) pa_nil)) (pg_name (i := 2) sc_Ldraws.nd rfl (Or.inl rfl))
    (pss_cons (ps_set (i := 3) sc_Ldraws.nd rfl (Or.inl rfl) (k_int fr rfl (pa_cons (pe_ix x_ix (uv 0) (uv 2) (fun _ _ => rfl)) pa_nil)))
    (pss_cons (ps_set (i := 4) sc_Ldraws.nd rfl (Or.inl rfl) (pe_op o_mul (pe_int) (k_abs fr rfl (pa_cons (uv 3) pa_nil))))
    (pss_cut (ps_if (ubc o_lt (uv 3) (pe_int) (nomark _)) (pss_one (ps_set (i := 4) sc_Ldraws.nd rfl (Or.inl rfl) (pe_op o_add (uv 4) (pe_int)))) pss_nil)
    (pss_one (ps_if (ubc o_lt (uv 4) (pe_op o_mul (pe_int) (pe_op o_pow (pe_int) (pe_int))) (nomark _)) (pss_one (ps_for po rfl (i_rng1 rfl fr.range (pa_cons (pe_int) pa_nil)) (pg_name (i := 5) sc_Ldraws.nd rfl (Or.inl rfl))
    (pss_cons (ps_set (i := 6) sc_Ldraws.nd rfl (Or.inl rfl) (pe_op o_mod (k_int fr rfl (pa_cons (pe_op o_add (pe_op o_mul (pe_op o_add (uv 4) (pe_int)) (pe_op o_add (pe_int) (pe_op o_mul (pe_int) (uv 2)))) (pe_op o_mul (pe_int) (uv 5))) pa_nil)) (pe_int)))
    (pss_cons (ps_set (i := 6) sc_Ldraws.nd rfl (Or.inl rfl) (pe_op o_mod (k_int fr rfl (pa_cons (pe_op o_mul (uv 6) (uv 6)) pa_nil)) (pe_int)))
    (pss_one (ps_expr (m_app (uv 1) (pa_cons (pe_op o_mod (k_int fr rfl (pa_cons (uv 6) pa_nil)) (pe_int)) pa_nil)))))))) (pss_one (ps_for po rfl (i_rng1 rfl fr.range (pa_cons (pe_int) pa_nil)) (pg_name (i := 5) sc_Ldraws.nd rfl (Or.inl rfl))
    (pss_one (ps_if (ubc o_gt (uv 4) (pe_int) (nomark _)) (pss_cons (ps_expr (m_app (uv 1) (pa_cons (pe_op o_mod (k_int fr rfl (pa_cons (uv 4) pa_nil)) (pe_int)) pa_nil)))
    (pss_one (ps_set (i := 4) sc_Ldraws.nd rfl (Or.inl rfl) (pe_op o_div (uv 4) (pe_int))))) pss_nil))))))))))
    (pss_one (ps_ret (uv 1)))))
  · unfold sp_Ldraws at h
    split at h
    all_goals first
      | exact pure_Ldraws h
      | exact h.elim
theorem sc_Lwords : FnScope sl_Lwords [] (defScope (top 9)) := ⟨rfl, rfl, rfl, by decide +kernel, rfl, by decide +kernel, by decide +kernel⟩
theorem ok_Lwords {f : Addr} {fd : FuncData} (F : FnP K "_law_words" (top 9) f fd) (fr : Free mg)  : FnOk P w K mg base (L2.CX P w) 1 f fd [] (sp_Lwords K) := by
  refine FunD.ok F sc_Lwords (fun vs H Q E h => ?_) (fun cdv A outer s H vs Q E hr h => ⟨t_Lwords K E, ?_, ?_⟩)
  · unfold sp_Lwords at h
    split at h
    all_goals first
      | rfl
      | exact h.elim
  · have px := ps_of (takes_of (X := cxOf (L2.CX P w) P w K mg base sl_Lwords "_law_words" (defScope (top 9)) f cdv A outer s H E) rfl rfl rfl rfl)
    have po := passes_of (X := cxOf (L2.CX P w) P w K mg base sl_Lwords "_law_words" (defScope (top 9)) f cdv A outer s H E) rfl
    have hu64 := hr.units
    exact (pss_cons (ps_set (i := 0) sc_Lwords.nd rfl (Or.inl rfl) (pe_lst (pa_cons (pe_str) (pa_cons (pe_str) (pa_cons (pe_str) (pa_cons (pe_str) (pa_cons (pe_str) (pa_cons (pe_str) (pa_cons (pe_str) (pa_cons (pe_str) (pa_cons (pe_str) (pa_cons (pe_str) (pa_cons (pe_str) (pa_cons (pe_str) (pa_cons (pe_str) (pa_cons (pe_str) pa_nil))))))))))))))))
    (pss_one (ps_ret (pe_op o_add (uv 0) (pe_lst (pa_cons (pe_str) pa_nil))))))
  · unfold sp_Lwords at h
    split at h
    all_goals first
      | exact pure_Lwords h
      | exact h.elim
theorem sc_is_name : FnScope sl_is_name ["text"] (defScope (top 5)) := ⟨rfl, rfl, rfl, by decide +kernel, rfl, by decide +kernel, by decide +kernel⟩
theorem ok_is_name {f : Addr} {fd : FuncData} (F : FnP K "is_name" (top 5) f fd) (fr : Free mg) (gv_DIGITS : GV mg "DIGITS" (.str "0123456789")) (gv_LETTERS : GV mg "LETTERS" (.str "abcdefghijklmnopqrstuvwxyz")) (gv_MOST_CHARACTERS : GV mg "MOST_CHARACTERS" (.int 8)) (gv_RESERVED : GV mg "RESERVED" (.ref (He.ga K "RESERVED"))) : FnOk P w K mg base (L2.CX P w) 1 f fd ["text"] (sp_is_name K) := by
  refine FunD.ok F sc_is_name (fun vs H Q E h => ?_) (fun cdv A outer s H vs Q E hr h => ⟨t_is_name K E, ?_, ?_⟩)
  · unfold sp_is_name at h
    split at h
    all_goals first
      | rfl
      | exact h.elim
  · have px := ps_of (takes_of (X := cxOf (L2.CX P w) P w K mg base sl_is_name "is_name" (defScope (top 5)) f cdv A outer s H E) rfl rfl rfl rfl)
    have po := passes_of (X := cxOf (L2.CX P w) P w K mg base sl_is_name "is_name" (defScope (top 5)) f cdv A outer s H E) rfl
    have hu64 := hr.units
    exact (pss_cons (ps_if (pt_not (ub (k_isi ty_str bo_str fr rfl fr.str rfl (uv 0)))) (pss_one (ps_ret (pe_bl))) pss_nil)
    (pss_cons (ps_if (PW.pt (pw_or (ubc (o_eq hu64) (uv 0) (pe_str) (nomark _)) (pw_or (ubc o_gt (k_len fr rfl (pa_cons (uv 0) pa_nil)) (g_v gv_MOST_CHARACTERS rfl) (nomark _)) (pw_or1 (ubc o_in (uv 0) (g_v gv_RESERVED rfl) rfl))))) (pss_one (ps_ret (pe_bl))) pss_nil)
    (pss_cons (ps_for po rfl (i_iter (uv 0)) (pg_name (i := 1) sc_is_name.nd rfl (Or.inl rfl))
    (pss_one (ps_if (PW.pt (pw_and (ubc o_notIn (uv 1) (g_v gv_LETTERS rfl) rfl) (pw_and1 (ubc o_notIn (uv 1) (g_v gv_DIGITS rfl) rfl)))) (pss_one (ps_ret (pe_bl))) pss_nil)))
    (pss_one (ps_ret (pe_cmpR o_in (pe_ix x_ix (uv 0) (pe_int) (fun _ _ => rfl)) (g_v gv_LETTERS rfl) rfl))))))
  · unfold sp_is_name at h
    split at h
    all_goals first
      | exact pure_is_name h
      | exact h.elim
theorem sc_Lright : FnScope sl_Lright ["_law_thing_here", "_law_due"] (defScope (top 15)) := ⟨rfl, rfl, rfl, by decide +kernel, rfl, by decide +kernel, by decide +kernel⟩
theorem ok_Lright {f : Addr} {fd : FuncData} (F : FnP K "_law_right" (top 15) f fd) (fr : Free mg) (C_is_name : Cal P w K mg base "is_name" 1 ["text"] (sp_is_name K)) : FnOk P w K mg base (L2.CX P w) 2 f fd ["_law_thing_here", "_law_due"] (sp_Lright K) := by
  refine FunD.ok F sc_Lright (fun vs H Q E h => ?_) (fun cdv A outer s H vs Q E hr h => ⟨t_Lright K E, ?_, ?_⟩)
  · unfold sp_Lright at h
    split at h
    all_goals first
      | rfl
      | exact h.elim
  · have px := ps_of (takes_of (X := cxOf (L2.CX P w) P w K mg base sl_Lright "_law_right" (defScope (top 15)) f cdv A outer s H E) rfl rfl rfl rfl)
    have po := passes_of (X := cxOf (L2.CX P w) P w K mg base sl_Lright "_law_right" (defScope (top 15)) f cdv A outer s H E) rfl
    have hu64 := hr.units
    exact (pss_cons (ps_set (i := 2) sc_Lright.nd rfl (Or.inl rfl) (c_call C_is_name (hr.mono (by decide)) rfl px (pa_cons (uv 0) pa_nil)))
    (pss_one (ps_ret (k_and (k_isi ty_bool bo_bool fr rfl fr.bool rfl (uv 2)) (pe_one (pe_cmpR (o_eq hu64) (uv 2) (uv 1) (nomark _)))))))
  · unfold sp_Lright at h
    split at h
    all_goals first
      | exact pure_Lright h
      | exact h.elim
theorem sc_Ltake : FnScope sl_Ltake ["_law_draws_here", "_law_many"] (defScope (top 8)) := ⟨rfl, rfl, rfl, by decide +kernel, rfl, by decide +kernel, by decide +kernel⟩
theorem ok_Ltake {f : Addr} {fd : FuncData} (F : FnP K "_law_take" (top 8) f fd) (fr : Free mg)  : FnOk P w K mg base (L2.CX P w) 1 f fd ["_law_draws_here", "_law_many"] (sp_Ltake K) := by
  refine FunD.ok F sc_Ltake (fun vs H Q E h => ?_) (fun cdv A outer s H vs Q E hr h => ⟨t_Ltake K E, ?_, ?_⟩)
  · unfold sp_Ltake at h
    split at h
    all_goals first
      | rfl
      | exact h.elim
  · have px := ps_of (takes_of (X := cxOf (L2.CX P w) P w K mg base sl_Ltake "_law_take" (defScope (top 8)) f cdv A outer s H E) rfl rfl rfl rfl)
    have po := passes_of (X := cxOf (L2.CX P w) P w K mg base sl_Ltake "_law_take" (defScope (top 8)) f cdv A outer s H E) rfl
    have hu64 := hr.units
    exact (pss_cons (ps_if (ubc (o_eq hu64) (k_len fr rfl (pa_cons (uv 0) pa_nil)) (pe_int) (nomark _)) (pss_one (ps_ret (pe_int))) pss_nil)
    (pss_one (ps_ret (pe_op o_mod (k_int fr rfl (pa_cons (m_popAt (uv 0) (pa_cons (pe_int) pa_nil)) pa_nil)) (uv 1)))))
  · unfold sp_Ltake at h
    split at h
    all_goals first
      | exact pure_Ltake h
      | exact h.elim
theorem sc_Lletter : FnScope sl_Lletter ["_law_draws_here"] (defScope (top 11)) := ⟨rfl, rfl, rfl, by decide +kernel, rfl, by decide +kernel, by decide +kernel⟩
theorem ok_Lletter {f : Addr} {fd : FuncData} (F : FnP K "_law_letter" (top 11) f fd) (fr : Free mg) (C_Ltake : Cal P w K mg base "_law_take" 1 ["_law_draws_here", "_law_many"] (sp_Ltake K)) : FnOk P w K mg base (L2.CX P w) 2 f fd ["_law_draws_here"] (sp_Lsign K) := by
  refine FunD.ok F sc_Lletter (fun vs H Q E h => ?_) (fun cdv A outer s H vs Q E hr h => ⟨t_Lletter K E, ?_, ?_⟩)
  · unfold sp_Lsign at h
    split at h
    all_goals first
      | rfl
      | exact h.elim
  · have px := ps_of (takes_of (X := cxOf (L2.CX P w) P w K mg base sl_Lletter "_law_letter" (defScope (top 11)) f cdv A outer s H E) rfl rfl rfl rfl)
    have po := passes_of (X := cxOf (L2.CX P w) P w K mg base sl_Lletter "_law_letter" (defScope (top 11)) f cdv A outer s H E) rfl
    have hu64 := hr.units
    exact (pss_one (ps_ret (pe_ix x_ix (pe_str) (c_call C_Ltake (hr.mono (by decide)) rfl px (pa_cons (uv 0) (pa_cons (pe_int) pa_nil))) (fun _ _ => rfl))))
  · unfold sp_Lsign at h
    split at h
    all_goals first
      | exact pure_Lletter h
      | exact h.elim
theorem sc_Lletters : FnScope sl_Lletters ["_law_draws_here"] (defScope (top 12)) := ⟨rfl, rfl, rfl, by decide +kernel, rfl, by decide +kernel, by decide +kernel⟩
theorem ok_Lletters {f : Addr} {fd : FuncData} (F : FnP K "_law_letters" (top 12) f fd) (fr : Free mg) (C_Ltake : Cal P w K mg base "_law_take" 1 ["_law_draws_here", "_law_many"] (sp_Ltake K)) (C_Lletter : Cal P w K mg base "_law_letter" 2 ["_law_draws_here"] (sp_Lletter K)) : FnOk P w K mg base (L2.CX P w) 3 f fd ["_law_draws_here"] (sp_Lletters K) := by
  refine FunD.ok F sc_Lletters (fun vs H Q E h => ?_) (fun cdv A outer s H vs Q E hr h => ⟨t_Lletters K E, ?_, ?_⟩)
  · unfold sp_Lletters at h
    split at h
    all_goals first
      | rfl
      | exact h.elim
  · have px := ps_of (takes_of (X := cxOf (L2.CX P w) P w K mg base sl_Lletters "_law_letters" (defScope (top 12)) f cdv A outer s H E) rfl rfl rfl rfl)
    have po := passes_of (X := cxOf (L2.CX P w) P w K mg base sl_Lletters "_law_letters" (defScope (top 12)) f cdv A outer s H E) rfl
    have hu64 := hr.units
    exact (pss_one (ps_ret (m_join (pe_str) (pa_cons (pe_lc (own := [("_law_k", 1)]) (g := (gName 1)) (tt := tYes) rfl sc_Lletters.nd (i_rng1 rfl fr.range (pa_cons (c_call C_Ltake (hr.mono (by decide)) rfl px (pa_cons (uv 0) (pa_cons (pe_int) pa_nil))) pa_nil)) (blkOk_by (N := sl_Lletters) (sc := defScope (top 12)) (by decide +kernel)) (fun _ _ _ _ _ => (pg_name (i := 1) sc_Lletters.nd rfl (Or.inl rfl))) (fun _ _ _ _ _ => pts_nil) (fun _ _ _ _ _ => (c_call C_Lletter (hr.mono (by decide)) rfl ps0 (pa_cons (uv 0) pa_nil)))) pa_nil))))
  · unfold sp_Lletters at h
    split at h
    all_goals first
      | exact pure_Lletters h
      | exact h.elim
theorem sc_Lsign : FnScope sl_Lsign ["_law_draws_here"] (defScope (top 10)) := ⟨rfl, rfl, rfl, by decide +kernel, rfl, by decide +kernel, by decide +kernel⟩
theorem ok_Lsign {f : Addr} {fd : FuncData} (F : FnP K "_law_sign" (top 10) f fd) (fr : Free mg) (C_Ltake : Cal P w K mg base "_law_take" 1 ["_law_draws_here", "_law_many"] (sp_Ltake K)) : FnOk P w K mg base (L2.CX P w) 2 f fd ["_law_draws_here"] (sp_Lsign K) := by
  refine FunD.ok F sc_Lsign (fun vs H Q E h => ?_) (fun cdv A outer s H vs Q E hr h => ⟨t_Lsign K E, ?_, ?_⟩)
  · unfold sp_Lsign at h
    split at h
    all_goals first
      | rfl
      | exact h.elim
  · have px := ps_of (takes_of (X := cxOf (L2.CX P w) P w K mg base sl_Lsign "_law_sign" (defScope (top 10)) f cdv A outer s H E) rfl rfl rfl rfl)
    have po := passes_of (X := cxOf (L2.CX P w) P w K mg base sl_Lsign "_law_sign" (defScope (top 10)) f cdv A outer s H E) rfl
    have hu64 := hr.units
    exact (pss_cons (ps_set (i := 1) sc_Lsign.nd rfl (Or.inl rfl) (pe_str))
    (pss_cons (ps_set (i := 1) sc_Lsign.nd rfl (Or.inl rfl) (pe_op o_add (uv 1) (pe_str)))
    (pss_one (ps_ret (pe_ix x_ix (uv 1) (c_call C_Ltake (hr.mono (by decide)) rfl px (pa_cons (uv 0) (pa_cons (k_len fr rfl (pa_cons (uv 1) pa_nil)) pa_nil))) (fun _ _ => rfl))))))
  · unfold sp_Lsign at h
    split at h
    all_goals first
      | exact pure_Lsign h
      | exact h.elim
theorem sc_Lthing : FnScope sl_Lthing ["_law_draws_here"] (defScope (top 13)) := ⟨rfl, rfl, rfl, by decide +kernel, rfl, by decide +kernel, by decide +kernel⟩
theorem ok_Lthing {f : Addr} {fd : FuncData} (F : FnP K "_law_thing" (top 13) f fd) (fr : Free mg) (C_Ltake : Cal P w K mg base "_law_take" 1 ["_law_draws_here", "_law_many"] (sp_Ltake K)) (C_Lwords : Cal P w K mg base "_law_words" 1 [] (sp_Lwords K)) (C_Lletter : Cal P w K mg base "_law_letter" 2 ["_law_draws_here"] (sp_Lletter K)) (C_Lletters : Cal P w K mg base "_law_letters" 3 ["_law_draws_here"] (sp_Lletters K)) (C_Lsign : Cal P w K mg base "_law_sign" 2 ["_law_draws_here"] (sp_Lsign K)) : FnOk P w K mg base (L2.CX P w) 4 f fd ["_law_draws_here"] (sp_Lthing K) := by
  refine FunD.ok F sc_Lthing (fun vs H Q E h => ?_) (fun cdv A outer s H vs Q E hr h => ⟨t_Lthing K E, ?_, ?_⟩)
  · unfold sp_Lthing at h
    split at h
    all_goals first
      | rfl
      | exact h.elim
  · have px := ps_of (takes_of (X := cxOf (L2.CX P w) P w K mg base sl_Lthing "_law_thing" (defScope (top 13)) f cdv A outer s H E) rfl rfl rfl rfl)
    have po := passes_of (X := cxOf (L2.CX P w) P w K mg base sl_Lthing "_law_thing" (defScope (top 13)) f cdv A outer s H E) rfl
    have hu64 := hr.units
    exact (pss_cons (ps_set (i := 1) sc_Lthing.nd rfl (Or.inl rfl) (c_call C_Ltake (hr.mono (by decide)) rfl px (pa_cons (uv 0) (pa_cons (pe_int) pa_nil))))
    (pss_cons (ps_if (ubc (o_eq hu64) (uv 1) (pe_int) (nomark _)) (pss_cons (ps_set (i := 2) sc_Lthing.nd rfl (Or.inl rfl) (pe_ix x_ix (c_call0 C_Lwords (hr.mono (by decide)) rfl px) (c_call C_Ltake (hr.mono (by decide)) rfl px (pa_cons (uv 0) (pa_cons (pe_int) pa_nil))) (fun _ _ => rfl)))
    (pss_cons (ps_set (i := 3) sc_Lthing.nd rfl (Or.inl rfl) (c_call C_Ltake (hr.mono (by decide)) rfl px (pa_cons (uv 0) (pa_cons (pe_int) pa_nil))))
    (pss_cut (ps_if (ubc (o_eq hu64) (uv 3) (pe_int) (nomark _)) (pss_one (ps_set (i := 2) sc_Lthing.nd rfl (Or.inl rfl) (pe_op o_add (c_call C_Lletter (hr.mono (by decide)) rfl px (pa_cons (uv 0) pa_nil)) (uv 2)))) pss_nil)
    (pss_cut (ps_if (ubc (o_eq hu64) (uv 3) (pe_int) (nomark _)) (pss_one (ps_set (i := 2) sc_Lthing.nd rfl (Or.inl rfl) (pe_op o_add (uv 2) (c_call C_Lletter (hr.mono (by decide)) rfl px (pa_cons (uv 0) pa_nil))))) pss_nil)
    (pss_cut (ps_if (ubc (o_eq hu64) (uv 3) (pe_int) (nomark _)) (pss_one (ps_set (i := 2) sc_Lthing.nd rfl (Or.inl rfl) (pe_slice s_sl (uv 2) po_none (p_some (pe_op o_sub (k_len fr rfl (pa_cons (uv 2) pa_nil)) (pe_int)))))) pss_nil)
    (pss_one (ps_ret (uv 2)))))))) pss_nil)
    (pss_cons (ps_if (ubc (o_eq hu64) (uv 1) (pe_int) (nomark _)) (pss_one (ps_ret (c_call C_Lletters (hr.mono (by decide)) rfl px (pa_cons (uv 0) pa_nil)))) pss_nil)
    (pss_cons (ps_if (ubc (o_eq hu64) (uv 1) (pe_int) (nomark _)) (pss_one (ps_ret (m_join (pe_str) (pa_cons (pe_lc (own := [("_law_k", 4)]) (g := (gName 4)) (tt := tYes) rfl sc_Lthing.nd (i_rng1 rfl fr.range (pa_cons (c_call C_Ltake (hr.mono (by decide)) rfl px (pa_cons (uv 0) (pa_cons (pe_int) pa_nil))) pa_nil)) (blkOk_by (N := sl_Lthing) (sc := defScope (top 13)) (by decide +kernel)) (fun _ _ _ _ _ => (pg_name (i := 4) sc_Lthing.nd rfl (Or.inl rfl))) (fun _ _ _ _ _ => pts_nil) (fun _ _ _ _ _ => (c_call C_Lsign (hr.mono (by decide)) rfl ps0 (pa_cons (uv 0) pa_nil)))) pa_nil)))) pss_nil)
    (pss_cons (ps_if (ubc (o_eq hu64) (uv 1) (pe_int) (nomark _)) (pss_cons (ps_set (i := 5) sc_Lthing.nd rfl (Or.inl rfl) (c_call C_Lletters (hr.mono (by decide)) rfl px (pa_cons (uv 0) pa_nil)))
    (pss_cons (ps_set (i := 6) sc_Lthing.nd rfl (Or.inl rfl) (c_call C_Ltake (hr.mono (by decide)) rfl px (pa_cons (uv 0) (pa_cons (pe_op o_add (k_len fr rfl (pa_cons (uv 5) pa_nil)) (pe_int)) pa_nil))))
    (pss_one (ps_ret (pe_op o_add (pe_op o_add (pe_slice s_sl (uv 5) po_none (p_some (uv 6))) (c_call C_Lsign (hr.mono (by decide)) rfl px (pa_cons (uv 0) pa_nil))) (pe_slice s_sl (uv 5) (p_some (uv 6)) po_none)))))) pss_nil)
    (pss_cons (ps_if (ubc (o_eq hu64) (uv 1) (pe_int) (nomark _)) (pss_one (ps_ret (pe_op o_mul (c_call C_Lletter (hr.mono (by decide)) rfl px (pa_cons (uv 0) pa_nil)) (pe_op o_add (pe_int) (c_call C_Ltake (hr.mono (by decide)) rfl px (pa_cons (uv 0) (pa_cons (pe_int) pa_nil))))))) pss_nil)
    (pss_one (ps_ret (pe_ix x_ix (pe_lst (pa_cons (pe_non) (pa_cons (pe_bl) (pa_cons (pe_bl) (pa_cons (pe_int) (pa_cons (pe_int) (pa_cons (pe_lst pa_nil) (pa_cons (pe_lst (pa_cons (pe_str) pa_nil)) (pa_cons (pe_tup (pa_cons (pe_str) pa_nil)) (pa_cons (pe_disp (pps_cons (pe_str) (pe_str) pps_nil) rfl rfl (fun z => by cases z) (by decide)) pa_nil)))))))))) (c_call C_Ltake (hr.mono (by decide)) rfl px (pa_cons (uv 0) (pa_cons (pe_int) pa_nil))) (fun _ _ => rfl))))))))))
  · unfold sp_Lthing at h
    split at h
    all_goals first
      | exact pure_Lthing h
      | exact h.elim
theorem sc_Lis_name : FnScope sl_Lis_name ["_law_thing_here"] (defScope (top 14)) := ⟨rfl, rfl, rfl, by decide +kernel, rfl, by decide +kernel, by decide +kernel⟩
theorem ok_Lis_name {f : Addr} {fd : FuncData} (F : FnP K "_law_is_name" (top 14) f fd) (fr : Free mg) (C_Lwords : Cal P w K mg base "_law_words" 1 [] (sp_Lwords K)) : FnOk P w K mg base (L2.CX P w) 2 f fd ["_law_thing_here"] (sp_Lis_name K) := by
  refine FunD.ok F sc_Lis_name (fun vs H Q E h => ?_) (fun cdv A outer s H vs Q E hr h => ⟨t_Lis_name K E, ?_, ?_⟩)
  · unfold sp_Lis_name at h
    split at h
    all_goals first
      | rfl
      | exact h.elim
  · have px := ps_of (takes_of (X := cxOf (L2.CX P w) P w K mg base sl_Lis_name "_law_is_name" (defScope (top 14)) f cdv A outer s H E) rfl rfl rfl rfl)
    have po := passes_of (X := cxOf (L2.CX P w) P w K mg base sl_Lis_name "_law_is_name" (defScope (top 14)) f cdv A outer s H E) rfl
    have hu64 := hr.units
    exact (pss_cons (ps_if (pt_not (ub (k_isi ty_str bo_str fr rfl fr.str rfl (uv 0)))) (pss_one (ps_ret (pe_bl))) pss_nil)
    (pss_cons (ps_if (PW.pt (pw_or (ubc o_lt (k_len fr rfl (pa_cons (uv 0) pa_nil)) (pe_int) (nomark _)) (pw_or (ubc o_gt (k_len fr rfl (pa_cons (uv 0) pa_nil)) (pe_int) (nomark _)) (pw_or1 (ubc o_in (uv 0) (c_call0 C_Lwords (hr.mono (by decide)) rfl px) rfl))))) (pss_one (ps_ret (pe_bl))) pss_nil)
    (pss_cons (ps_for po rfl (i_iter (uv 0)) (pg_name (i := 1) sc_Lis_name.nd rfl (Or.inl rfl))
    (pss_one (ps_if (ubc o_notIn (uv 1) (pe_str) rfl) (pss_one (ps_ret (pe_bl))) pss_nil)))
    (pss_one (ps_ret (pe_cmpR o_notIn (pe_ix x_ix (uv 0) (pe_int) (fun _ _ => rfl)) (pe_str) rfl))))))
  · unfold sp_Lis_name at h
    split at h
    all_goals first
      | exact pure_Lis_name h
      | exact h.elim
theorem sc_Law_k01 : FnScope sl_Law_k01 ["_law_script"] (defScope (top 16)) := ⟨rfl, rfl, rfl, by decide +kernel, rfl, by decide +kernel, by decide +kernel⟩
theorem ok_Law_k01 {f : Addr} {fd : FuncData} (F : FnP K "law" (top 16) f fd) (fr : Free mg) (gv_RESERVED : GV mg "RESERVED" (.ref (He.ga K "RESERVED"))) (C_Ldraws : Cal P w K mg base "_law_draws" 1 ["_law_script"] (sp_Ldraws K)) (C_Lwords : Cal P w K mg base "_law_words" 1 [] (sp_Lwords K)) (C_Lright : Cal P w K mg base "_law_right" 2 ["_law_thing_here", "_law_due"] (sp_Lright K)) (C_Lthing : Cal P w K mg base "_law_thing" 4 ["_law_draws_here"] (sp_Lthing K)) (C_Lis_name : Cal P w K mg base "_law_is_name" 2 ["_law_thing_here"] (sp_Lis_name K)) : FnOk P w K mg base (L2.CX P w) 5 f fd ["_law_script"] (sp_Law K) := by
  refine FunD.ok F sc_Law_k01 (fun vs H Q E h => ?_) (fun cdv A outer s H vs Q E hr h => ⟨t_Law_k01 K E, ?_, ?_⟩)
  · unfold sp_Law at h
    split at h
    all_goals first
      | rfl
      | exact h.elim
  · have px := ps_of (takes_of (X := cxOf (L2.CX P w) P w K mg base sl_Law_k01 "law" (defScope (top 16)) f cdv A outer s H E) rfl rfl rfl rfl)
    have po := passes_of (X := cxOf (L2.CX P w) P w K mg base sl_Law_k01 "law" (defScope (top 16)) f cdv A outer s H E) rfl
    have hu64 := hr.units
    exact (pss_cons (ps_set (i := 1) sc_Law_k01.nd rfl (Or.inr rfl) (c_call C_Ldraws (hr.mono (by decide)) rfl px (pa_cons (uv 0) pa_nil)))
    (pss_cons (ps_if (PW.pt (pw_or (pt_not (ub (k_isi ty_tuple bo_tuple fr rfl fr.tuple rfl (g_v gv_RESERVED rfl)))) (pw_or1 (ubc (o_ne hu64) (k_list fr rfl (pa_cons (g_v gv_RESERVED rfl) pa_nil)) (c_call0 C_Lwords (hr.mono (by decide)) rfl px) (nomark _))))) (pss_one (ps_ret (pe_bl))) pss_nil)
    (pss_cons (ps_for po rfl (i_iter (c_call0 C_Lwords (hr.mono (by decide)) rfl px)) (pg_name (i := 2) sc_Law_k01.nd rfl (Or.inl rfl))
    (pss_one (ps_if (PW.pt (pw_or (pt_not (ub (c_call C_Lright (hr.mono (by decide)) rfl px (pa_cons (uv 2) (pa_cons (pe_bl) pa_nil))))) (pw_or1 (pt_not (ub (c_call C_Lright (hr.mono (by decide)) rfl px (pa_cons (pe_op o_add (uv 2) (pe_str)) (pa_cons (pe_bl) pa_nil)))))))) (pss_one (ps_ret (pe_bl))) pss_nil)))
    (pss_cons (ps_setLc (i := 3) (own := [("_law_k", 4)]) (g := (gName 4)) (tt := tYes) rfl sc_Law_k01.nd rfl rfl (sw_true rfl rfl rfl (by decide +kernel)) (i_rng1 rfl fr.range (pa_cons (pe_int) pa_nil)) (blkOk_by (N := sl_Law_k01) (sc := defScope (top 16)) (by decide +kernel)) (fun _ _ _ _ _ => (pg_name (i := 4) sc_Law_k01.nd rfl (Or.inl rfl))) (fun _ _ _ _ _ => pts_nil) (fun _ _ _ _ _ => (c_call C_Lthing (hr.mono (by decide)) rfl ps0 (pa_cons (uv 1) pa_nil))))
    (pss_cons (ps_for po rfl (i_rng1 rfl fr.range (pa_cons (pe_int) pa_nil)) (pg_name (i := 4) sc_Law_k01.nd rfl (Or.inl rfl))
    (pss_one (ps_if (pt_not (ub (c_call C_Lright (hr.mono (by decide)) rfl px (pa_cons (pe_ix x_ix (uv 3) (uv 4) (fun _ _ => rfl)) (pa_cons (c_call C_Lis_name (hr.mono (by decide)) rfl px (pa_cons (pe_ix x_ix (uv 3) (uv 4) (fun _ _ => rfl)) pa_nil)) pa_nil))))) (pss_one (ps_ret (pe_bl))) pss_nil)))
    (pss_cons (ps_for po rfl (i_rng1 rfl fr.range (pa_cons (pe_int) pa_nil)) (pg_name (i := 4) sc_Law_k01.nd rfl (Or.inl rfl))
    (pss_one (ps_if (pt_not (ub (c_call C_Lright (hr.mono (by decide)) rfl px (pa_cons (pe_ix x_ix (uv 3) (pe_op o_sub (pe_int) (uv 4)) (fun _ _ => rfl)) (pa_cons (c_call C_Lis_name (hr.mono (by decide)) rfl px (pa_cons (pe_ix x_ix (uv 3) (pe_op o_sub (pe_int) (uv 4)) (fun _ _ => rfl)) pa_nil)) pa_nil))))) (pss_one (ps_ret (pe_bl))) pss_nil)))
    (pss_one (ps_ret (pe_bl)))))))))
  · unfold sp_Law at h
    split at h
    all_goals first
      | exact pure_Law_k01 h
      | exact h.elim
end
def d0 : He.DefD := ⟨("_law_draws", none), "_law_draws", "_law_draws", defArgs (top 7), defBody (top 7), defScope (top 7), [], []⟩
def d1 : He.DefD := ⟨("_law_words", none), "_law_words", "_law_words", defArgs (top 9), defBody (top 9), defScope (top 9), [], []⟩
def d2 : He.DefD := ⟨("is_name", none), "is_name", "is_name", defArgs (top 5), defBody (top 5), defScope (top 5), [], []⟩
def d3 : He.DefD := ⟨("_law_right", none), "_law_right", "_law_right", defArgs (top 15), defBody (top 15), defScope (top 15), [], []⟩
def d4 : He.DefD := ⟨("_law_take", none), "_law_take", "_law_take", defArgs (top 8), defBody (top 8), defScope (top 8), [], []⟩
def d5 : He.DefD := ⟨("_law_letter", none), "_law_letter", "_law_letter", defArgs (top 11), defBody (top 11), defScope (top 11), [], []⟩
def d6 : He.DefD := ⟨("_law_letters", none), "_law_letters", "_law_letters", defArgs (top 12), defBody (top 12), defScope (top 12), [], []⟩
def d7 : He.DefD := ⟨("_law_sign", none), "_law_sign", "_law_sign", defArgs (top 10), defBody (top 10), defScope (top 10), [], []⟩
def d8 : He.DefD := ⟨("_law_thing", none), "_law_thing", "_law_thing", defArgs (top 13), defBody (top 13), defScope (top 13), [], []⟩
def d9 : He.DefD := ⟨("_law_is_name", none), "_law_is_name", "_law_is_name", defArgs (top 14), defBody (top 14), defScope (top 14), [], []⟩
def d10 : He.DefD := ⟨("law", none), "law", "law", defArgs (top 16), defBody (top 16), defScope (top 16), [], []⟩
def fn : List He.DefD := ([d0, d1, d2, d3, d4, d5, d6, d7, d8, d9, d10] : List He.DefD)
def fa0 : List He.Fa := ([.glo "_law_draws", .glo "_law_words", .glo "is_name", .str "DIGITS" "0123456789", .int "MOST_CHARACTERS" 8, .glo "RESERVED", .str "LETTERS" "abcdefghijklmnopqrstuvwxyz", .glo "_law_right", .glo "_law_take", .glo "_law_letter", .glo "_law_letters", .glo "_law_sign", .glo "_law_thing", .glo "_law_is_name", .glo "law"] : List He.Fa)
def exB (K : Frag) : Bool := tupB K "RESERVED" (resW.map V.str)
abbrev R : PySem.W.OpenRow := PySem.W.OpenLaw.row PySem.Challenge.rw_unnamedlives_k01_names
abbrev hk : PySem.W.Hook := He.hookX 4 (frees ++ fa0) fn [] [] exB
def ob (s : PySem.W.SharedT) : He.AlX := He.obsX 4 (frees ++ fa0) fn [] [] exB (HandSHeadRun.getT s)
theorem ob_eq (s : PySem.W.SharedT) : ob s = hk.obs s.abs := He.obsX_eq (HandSHeadRun.getT_eq s)
def names : List PySem.Str := (["RESERVED", "LETTERS", "DIGITS", "MOST_CHARACTERS", "is_name", "_law_draws", "_law_take", "_law_words", "_law_sign", "_law_letter", "_law_letters", "_law_thing", "_law_is_name", "_law_right"] : List PySem.Str)
theorem run (w : World) : HandSHeadRun.RunEq R (PySem.W.view R.prog [16]) hk ob 4000 names w := by
  intro os
  kernel_rfl
theorem facts {P : Program} {w : World} {K : Frag} {h : Heap} {mg : Str → Option Value} {f : Addr} (X : K.In h) (G : h.Ns mainGlobals mg) (hfa : mg ("law" : Str) = some (.ref f)) (c : He.SaysX (frees ++ fa0) fn [] [] exB w h K) :
    ∃ fd : FuncData, (∀ (s : Shared) (v : Value), BindsTo s fd ⟨[v], []⟩ [("_law_script", v)]) ∧ ∀ base : Heap, K.In base → base.Ns mainGlobals mg → FnOk P w K mg base (L2.CX P w) 5 f fd ["_law_script"] (sp_Law K) := by
  have cd := c.t.d
  have fr := free_of X G cd
  have hx : exB K = true := c.more
  unfold exB at hx
  have hx0 := hx
  haveI : KRes K := ⟨fun H => tupB_ok hx0 H⟩
  have gv_DIGITS := gv_str X G (cd.fact 20 (f := .str "DIGITS" "0123456789") rfl)
  have gv_MOST_CHARACTERS := gv_int X G (cd.fact 21 (f := .int "MOST_CHARACTERS" 8) rfl)
  have gv_RESERVED := gv_ref X G (cd.fact 22 (f := .glo "RESERVED") rfl)
  have gv_LETTERS := gv_str X G (cd.fact 23 (f := .str "LETTERS" "abcdefghijklmnopqrstuvwxyz") rfl)
  obtain ⟨fd0, F0⟩ := cd.def_ 0 (d := d0) rfl
  have g0 := He.glo_ok X G (cd.fact 17 (f := .glo "_law_draws") rfl)
  obtain ⟨fd1, F1⟩ := cd.def_ 1 (d := d1) rfl
  have g1 := He.glo_ok X G (cd.fact 18 (f := .glo "_law_words") rfl)
  obtain ⟨fd2, F2⟩ := cd.def_ 2 (d := d2) rfl
  have g2 := He.glo_ok X G (cd.fact 19 (f := .glo "is_name") rfl)
  obtain ⟨fd3, F3⟩ := cd.def_ 3 (d := d3) rfl
  have g3 := He.glo_ok X G (cd.fact 24 (f := .glo "_law_right") rfl)
  obtain ⟨fd4, F4⟩ := cd.def_ 4 (d := d4) rfl
  have g4 := He.glo_ok X G (cd.fact 25 (f := .glo "_law_take") rfl)
  obtain ⟨fd5, F5⟩ := cd.def_ 5 (d := d5) rfl
  have g5 := He.glo_ok X G (cd.fact 26 (f := .glo "_law_letter") rfl)
  obtain ⟨fd6, F6⟩ := cd.def_ 6 (d := d6) rfl
  have g6 := He.glo_ok X G (cd.fact 27 (f := .glo "_law_letters") rfl)
  obtain ⟨fd7, F7⟩ := cd.def_ 7 (d := d7) rfl
  have g7 := He.glo_ok X G (cd.fact 28 (f := .glo "_law_sign") rfl)
  obtain ⟨fd8, F8⟩ := cd.def_ 8 (d := d8) rfl
  have g8 := He.glo_ok X G (cd.fact 29 (f := .glo "_law_thing") rfl)
  obtain ⟨fd9, F9⟩ := cd.def_ 9 (d := d9) rfl
  have g9 := He.glo_ok X G (cd.fact 30 (f := .glo "_law_is_name") rfl)
  obtain ⟨fd10, F10⟩ := cd.def_ 10 (d := d10) rfl
  have g10 := He.glo_ok X G (cd.fact 31 (f := .glo "law") rfl)
  have e := hfa.symm.trans g10
  cases e
  have b := FunD.bindsA (ps := ["_law_script"]) F10 fun _ _ _ _ _ _ us hl => match us, hl with | [_], _ => rfl
  refine ⟨fd10, fun s v => b s [v] rfl, fun base _ _ => ?_⟩
  have C_Ldraws : Cal P w K mg base "_law_draws" 1 ["_law_script"] (sp_Ldraws K) := ⟨_, _, ok_Ldraws F0 fr , g0, F0.kp, F0.bindsN fun _ _ _ _ _ _ us hl => match us, hl with | [_], _ => rfl⟩
  have C_Lwords : Cal P w K mg base "_law_words" 1 [] (sp_Lwords K) := ⟨_, _, ok_Lwords F1 fr , g1, F1.kp, F1.bindsN fun _ _ _ _ _ _ us hl => match us, hl with | [], _ => rfl⟩
  have C_is_name : Cal P w K mg base "is_name" 1 ["text"] (sp_is_name K) := ⟨_, _, ok_is_name F2 fr gv_DIGITS gv_LETTERS gv_MOST_CHARACTERS gv_RESERVED, g2, F2.kp, F2.bindsN fun _ _ _ _ _ _ us hl => match us, hl with | [_], _ => rfl⟩
  have C_Lright : Cal P w K mg base "_law_right" 2 ["_law_thing_here", "_law_due"] (sp_Lright K) := ⟨_, _, ok_Lright F3 fr C_is_name, g3, F3.kp, F3.bindsN fun _ _ _ _ _ _ us hl => match us, hl with | [_, _], _ => rfl⟩
  have C_Ltake : Cal P w K mg base "_law_take" 1 ["_law_draws_here", "_law_many"] (sp_Ltake K) := ⟨_, _, ok_Ltake F4 fr , g4, F4.kp, F4.bindsN fun _ _ _ _ _ _ us hl => match us, hl with | [_, _], _ => rfl⟩
  have C_Lletter : Cal P w K mg base "_law_letter" 2 ["_law_draws_here"] (sp_Lsign K) := ⟨_, _, ok_Lletter F5 fr C_Ltake, g5, F5.kp, F5.bindsN fun _ _ _ _ _ _ us hl => match us, hl with | [_], _ => rfl⟩
  have C_Lletters : Cal P w K mg base "_law_letters" 3 ["_law_draws_here"] (sp_Lletters K) := ⟨_, _, ok_Lletters F6 fr C_Ltake C_Lletter, g6, F6.kp, F6.bindsN fun _ _ _ _ _ _ us hl => match us, hl with | [_], _ => rfl⟩
  have C_Lsign : Cal P w K mg base "_law_sign" 2 ["_law_draws_here"] (sp_Lsign K) := ⟨_, _, ok_Lsign F7 fr C_Ltake, g7, F7.kp, F7.bindsN fun _ _ _ _ _ _ us hl => match us, hl with | [_], _ => rfl⟩
  have C_Lthing : Cal P w K mg base "_law_thing" 4 ["_law_draws_here"] (sp_Lthing K) := ⟨_, _, ok_Lthing F8 fr C_Ltake C_Lwords C_Lletter C_Lletters C_Lsign, g8, F8.kp, F8.bindsN fun _ _ _ _ _ _ us hl => match us, hl with | [_], _ => rfl⟩
  have C_Lis_name : Cal P w K mg base "_law_is_name" 2 ["_law_thing_here"] (sp_Lis_name K) := ⟨_, _, ok_Lis_name F9 fr C_Lwords, g9, F9.kp, F9.bindsN fun _ _ _ _ _ _ us hl => match us, hl with | [_], _ => rfl⟩
  exact ok_Law_k01 F10 fr gv_RESERVED C_Ldraws C_Lwords C_Lright C_Lthing C_Lis_name
end Row
open PySem PySem.W PySem.Calls PyProof.Rows
set_option maxRecDepth 100000 in
set_option maxHeartbeats 0 in
theorem PySem.Challenge.cw_unnamedlives_k01_names_holds : PySem.Challenge.rw_unnamedlives_k01_names.Holds := by
  w_on; o_law
  refine HandSHeadRun.head_any (r := OpenLaw.row PySem.Challenge.rw_unnamedlives_k01_names) (q := view (OpenLaw.row PySem.Challenge.rw_unnamedlives_k01_names).prog [16]) (H := Row.hk) (ob := Row.ob) (M := 4000) (loose := Row.names) (d := HandSHeadRun.topDef (OpenLaw.row PySem.Challenge.rw_unnamedlives_k01_names).prog 16) (kwd := []) Row.ob_eq
    (by kernel_rfl) (fun s => by kernel_rfl) Row.run (by kernel_rfl) (by kernel_rfl) (by kernel_rfl) (by rfl) (by first | assumption | decide +kernel) (by decide +kernel) ⟨rfl, rfl, rfl, rfl, rfl, by decide +kernel⟩ ?hw ?hc
  case hw => w_witness2
  case hc =>
    refine U.walk_ofW (l := PySem.Challenge.rw_unnamedlives_k01_names) (n := 63) (k := 5) (x := "_law_script") (CX := fun w => L2.CX (PySem.Challenge.rw_unnamedlives_k01_names).prog w) rfl (by decide) (by kernel_rfl) ⟨rfl, by decide, by decide⟩ ?F (fun _ _ _ _ _ z => U.cx_no z)
    intro w mg fa h Y G hmg0
    obtain ⟨K, KX, c⟩ := Y
    have hmg : mg ("law" : PySem.Str) = some (.ref fa) := by
      have e : (HandSHeadRun.topDef (OpenLaw.row PySem.Challenge.rw_unnamedlives_k01_names).prog 16).name = ("law" : PySem.Str) := by kernel_rfl
      rw [← e]
      exact hmg0
    obtain ⟨fd, hb, hF⟩ := Row.facts (P := (PySem.Challenge.rw_unnamedlives_k01_names).prog) (w := w) KX G hmg c
    exact ⟨K, fd, U.sp_Law K, KX, hb, fun H a ns hl _ hS => ⟨ns, hS, hl, fun _ => rfl⟩, hF⟩
