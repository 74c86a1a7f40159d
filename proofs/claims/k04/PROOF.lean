import PyProof.Rows.All
import Wide.All
import OpenK.AllK
import Wide.FinOn
import KE.KStateDown
import HandS.ForMost
import HandS.ForExc
import HandS.Style
import HandS.Wide
import HandS.WideBits
import HandS.CallSlots
import HandS.Defaults
import HandS.Walk
import KE.KExcSuper
import KE.KExcIs
import HandS.ExcInit
import HandS.ExcSuper
import HandS.ExcField
import HandS.ExcIs
import HandS.ExcOwn
import HandS.Ends
import PyProof.ReprRoads
import HandS.Head0
import HandS.Head1
import HandS.Head2
import HandS.HeadEnd
import HandS.HeadHook1
import HandS.HeadHook2
import HandS.HeadHook3
import PyProof.Rows.StrMul
import HandS.IsInst
import HandS.RaiseMore
import HandS.NoneIn
import PyProof.Rows.SortShellAny
import PyProof.Rows.StrRev
import HandS.Codes
import PyProof.ReprLen
import PyProof.StrLawsRepr
import PySem.Challenge.RW_treeturns_k04_trees_that_grow
set_option Elab.async false
set_option linter.all false
set_option maxRecDepth 100000
set_option maxHeartbeats 4000000
set_option exponentiation.threshold 4000
/-! M0: readings that reckon themselves (by cases on the values at hand), over the hand layer's judgements. -/
namespace M
open PySem PySem.Spec PyProof.Rows L2

/-! ### weakening -/
section
variable {X : Cx}
theorem pe_imp {e : Expr} {t t' : TE} (h : PE X e t) (w : ∀ σ H Q, t' σ H Q → t σ H Q) : PE X e t' := ⟨fun pins s σ H Q I q => h.run pins s σ H Q I (w σ H Q q)⟩
theorem pt_imp {e : Expr} {t t' : TT} (h : PT X e t) (w : ∀ σ H Q, t' σ H Q → t σ H Q) : PT X e t' := ⟨fun pins s σ H Q I q => h.run pins s σ H Q I (w σ H Q q)⟩
theorem ps_imp {e : Stmt} {t t' : TS} (h : PS X e t) (w : ∀ D σ H, t' D σ H → t D σ H) : PS X e t' := ⟨fun pins s σ H D I q => h.run pins s σ H D I (w D σ H q)⟩
theorem pg_imp {e : Expr} {t t' : TG} (h : PG X e t) (w : ∀ v σ H Q, t' v σ H Q → t v σ H Q) : PG X e t' := ⟨fun pins s σ H v u Q I r q => h.run pins s σ H v u Q I r (w v σ H Q q)⟩
theorem pgs_imp {e : List Expr} {t t' : TGs} (h : PGs X e t) (w : ∀ v σ H Q, t' v σ H Q → t v σ H Q) : PGs X e t' := ⟨fun pins s σ H v u Q I r q => h.run pins s σ H v u Q I r (w v σ H Q q)⟩
theorem opR_imp {f : Value → Value → Sem Value} {r r' : R2} (h : OpR X f r) (w : ∀ x y H Q, r' x y H Q → r x y H Q) : OpR X f r' := fun pins s σ H x y v u Q I rx ry q => h pins s σ H x y v u Q I rx ry (w x y H Q q)
theorem ixR_imp {r r' : R2} (h : IxR X r) (w : ∀ x y H Q, r' x y H Q → r x y H Q) : IxR X r' := fun value slice pins s σ H x y v u Q I rx ry q => h value slice pins s σ H x y v u Q I rx ry (w x y H Q q)
theorem slR_imp {r r' : V → Option Int → Option Int → Hp → VK → Prop} (h : SlR X r) (w : ∀ x l u H Q, r' x l u H Q → r x l u H Q) : SlR X r' := fun pins s σ H x v vl vu lo hi sl Q I rx hs pl pu q => h pins s σ H x v vl vu lo hi sl Q I rx hs pl pu (w _ _ _ _ _ q)
theorem callR_imp {f : Value} {r r' : List V → Hp → VK → Prop} (h : CallR X f r) (w : ∀ x H Q, r' x H Q → r x H Q) : CallR X f r' := fun pins s σ H xs us Q I r q => h pins s σ H xs us Q I r (w _ _ _ q)
end

/-! ### texts as lists of codes -/
def S (l : List Nat) : Str := ⟨l.toArray⟩
theorem S_cps (l : List Nat) : (S l).cps.toList = l := by simp [S]
theorem S_len (l : List Nat) : (S l).length = l.length := by simp [S, Str.length]
theorem S_app (a b : List Nat) : S a ++ S b = S (a ++ b) := by
  show (⟨a.toArray ++ b.toArray⟩ : Str) = ⟨(a ++ b).toArray⟩
  rw [← List.append_toArray]
theorem S_inj {a b : List Nat} : S a = S b ↔ a = b := by
  constructor
  · intro h
    have := congrArg (fun s : Str => s.cps.toList) h
    simpa [S] using this
  · rintro rfl; rfl
theorem S_of (z : Str) : S z.cps.toList = z := by
  cases z; simp [S]
theorem S_one (c : Nat) : (⟨#[c]⟩ : Str) = S [c] := rfl
theorem str_S (a b : List Nat) : (V.str (S a) = V.str (S b)) ↔ a = b := by
  rw [V.str.injEq, S_inj]

/-! ### slots -/
abbrev Sl := List (Option V)
def gt : Sl → Nat → Option V
  | [], _ => none
  | x :: _, 0 => x
  | _ :: r, n + 1 => gt r n
theorem gt_some : ∀ {σ : Sl} {i : Nat} {v : V}, gt σ i = some v → σ[i]? = some (some v)
  | [], _, _, h => by cases h
  | x :: _, 0, v, h => by
    have h' : x = some v := h
    rw [h']; rfl
  | _ :: r, n + 1, v, h => by
    have := gt_some (σ := r) (i := n) (v := v) h
    simpa using this
def mVar (i : Nat) : TE := fun σ H Q => match gt σ i with | some v => Q v H | none => False
def mC (v : V) : TE := fun _ H Q => Q v H
section
variable {X : Cx} {a b : Expr} {ta tb : TE} {pos : Pos}
theorem mv (i : Nat) {x : Str} {pos : Pos} (hN : X.N[i]? = some x := by rfl) (hv : Vis X.env.scope x := by first | exact Or.inl rfl | exact Or.inr (Or.inl rfl) | exact Or.inr (Or.inr rfl)) (hd : (x == ("__debug__" : Str)) = false := by decide)
    (hcd : (x == ("__classdict__" : Str)) = false := by decide) : PE X (.Name x pos) (mVar i) := pe_imp (pe_var hN hv hd hcd) fun σ H Q q => by
  unfold mVar at q
  cases e : gt σ i with
  | none => rw [e] at q; exact q.elim
  | some v => rw [e] at q; exact ⟨v, gt_some e, q⟩
theorem me_int {i j pos} : PE X (.Constant (.int i) j pos) (mC (.int i)) := pe_int
theorem me_bl {i j pos} : PE X (.Constant (.bool i) j pos) (mC (.bl i)) := pe_bl
theorem me_non {j pos} : PE X (.Constant .none j pos) (mC .non) := pe_non
theorem me_str (l : List Nat) {x j pos} (h : x = S l) : PE X (.Constant (.str x) j pos) (mC (.str (S l))) := by subst h; exact pe_str
theorem me_gint {x : Str} {i : Int} {t : Tok} {pos : Pos} (hg : Gl X x) (hm : X.mg x = some (.int i t)) (hd : (x == ("__debug__" : Str)) = false := by decide) : PE X (.Name x pos) (mC (.int i)) := pe_glob hg hm ⟨t, rfl⟩ hd
theorem me_gstr (l : List Nat) {x z : Str} {t : Tok} {pos : Pos} (hg : Gl X x) (hm : X.mg x = some (.str z t)) (h : z = S l) (hd : (x == ("__debug__" : Str)) = false := by decide) : PE X (.Name x pos) (mC (.str (S l))) := by
  subst h; exact pe_glob hg hm ⟨t, rfl⟩ hd

/-! ### operators -/
/-- a number below this many bits in all -/
def MulOk (i j : Int) : Prop := i.natAbs.log2 + j.natAbs.log2 < 1000000
theorem MulOk.of {i j : Int} (a b : Nat) (ha : i.natAbs < 2 ^ a) (hb : j.natAbs < 2 ^ b) (h0 : 0 < a := by decide) (h1 : 0 < b := by decide) (h : a + b ≤ 1000000 := by decide) : MulOk i j := wide_mul ha hb h0 h1 h
def DivOk (j : Int) : Prop := 0 < j ∧ j.natAbs.log2 < 9000
theorem DivOk.of {j : Int} (b : Nat) (h : 0 < j) (hb : j.natAbs < 2 ^ b) (h0 : 0 < b := by decide) (h9 : b ≤ 9000 := by decide) : DivOk j := wide_div (i := 0) h hb h0 h9
def mAdd : R2 := fun x y H Q => match x, y with
  | .int i, .int j => Q (.int (i + j)) H
  | .str a, .str b => a.length + b.length ≤ sizeLine ∧ Q (.str (a ++ b)) H
  | .ref a, .ref b => (∃ xs zs, H a = some (.lst xs) ∧ H b = some (.lst zs) ∧ xs.length + zs.length ≤ sizeLine ∧ ∀ p, H p = none → Q (.ref p) (upd H p (.lst (xs ++ zs))))
  | .int i, .bl k => Q (.int (i + b2i k)) H
  | _, _ => False
theorem op_addM : OpR X (binaryOp .Add) mAdd := by
  intro pins s σ H x y v u Q I rx ry q
  unfold mAdd at q
  split at q
  · exact op_add pins s σ H _ _ v u Q I rx ry ⟨_, _, rfl, rfl, q⟩
  · exact op_add_str pins s σ H _ _ v u Q I rx ry ⟨_, _, rfl, rfl, q⟩
  · obtain ⟨xs, zs, h1, h2, h3, h4⟩ := q
    exact op_cat pins s σ H _ _ v u Q I rx ry ⟨_, _, xs, zs, rfl, rfl, h1, h2, h3, h4⟩
  · exact op_add_ib pins s σ H _ _ v u Q I rx ry ⟨_, _, rfl, rfl, q⟩
  · exact q.elim
def mSub : R2 := fun x y H Q => match x, y with
  | .int i, .int j => Q (.int (i - j)) H
  | _, _ => False
theorem op_subM : OpR X (binaryOp .Sub) mSub := opR_imp op_sub fun x y H Q q => by
  unfold mSub at q
  split at q
  · exact ⟨_, _, rfl, rfl, q⟩
  · exact q.elim
def mMul : R2 := fun x y H Q => match x, y with
  | .int i, .int j => MulOk i j ∧ Q (.int (i * j)) H
  | .ref l, .int k => ∃ xs, H l = some (.lst xs) ∧ -(2 ^ 63) ≤ k ∧ k < 2 ^ 63 ∧ xs.length * k.toNat ≤ sizeLine ∧ ∀ p, H p = none → Q (.ref p) (upd H p (.lst (List.replicate k.toNat xs).flatten))
  | .str a, .int k => (a.length * 4096 ≤ 16777216 ∧ 0 ≤ k ∧ k ≤ 4096) ∧ Q (.str (Txt.mul a k)) H
  | _, _ => False
theorem op_mulM : OpR X (binaryOp .Mult) mMul := by
  intro pins s σ H x y v u Q I rx ry q
  unfold mMul at q
  split at q
  · exact op_mulW pins s σ H _ _ v u Q I rx ry ⟨_, _, rfl, rfl, q⟩
  · obtain ⟨xs, h1, h2, h3, h4, h5⟩ := q
    exact op_rep pins s σ H _ _ v u Q I rx ry ⟨_, _, xs, rfl, rfl, h1, h2, h3, h4, h5⟩
  · rename_i a k
    obtain ⟨⟨h1, h2, h3⟩, q⟩ := q
    obtain ⟨t, rfl⟩ := rx
    obtain ⟨t', rfl⟩ := ry
    exact SB.mul (PyProof.Rows.mulOk_of a.length 4096 (Nat.le_refl _) h3 (by omega) (by decide) h1) fun t2 k2 => ⟨.str _, H, I.tok _, ⟨_, rfl⟩, q⟩
  · exact q.elim
def mMod : R2 := fun x y H Q => match x, y with
  | .int i, .int j => 0 < j ∧ Q (.int (i % j)) H
  | _, _ => False
theorem op_modM : OpR X (binaryOp .Mod) mMod := opR_imp op_mod fun x y H Q q => by
  unfold mMod at q
  split at q
  · exact ⟨_, _, rfl, rfl, q⟩
  · exact q.elim
def mDiv : R2 := fun x y H Q => match x, y with
  | .int i, .int j => DivOk j ∧ Q (.int (i / j)) H
  | _, _ => False
theorem op_divM : OpR X (binaryOp .FloorDiv) mDiv := opR_imp op_fdivW fun x y H Q q => by
  unfold mDiv at q
  split at q
  · exact ⟨_, _, rfl, rfl, q⟩
  · exact q.elim
def mPow : R2 := fun x y H Q => match x, y with
  | .int i, .int j => (0 ≤ j ∧ (Builtin.Int.intBits i : Int) * j ≤ 2 ^ 27) ∧ Q (.int (i ^ j.toNat)) H
  | _, _ => False
theorem op_powM : OpR X (binaryOp .Pow) mPow := by
  intro pins s σ H x y v u Q I rx ry q
  unfold mPow at q
  split at q
  · obtain ⟨t, rfl⟩ := rx
    obtain ⟨t', rfl⟩ := ry
    exact pow_int q.1.1 q.1.2 ⟨.int _, H, I.tok _, ⟨_, rfl⟩, q.2⟩
  · exact q.elim

/-! ### comparisons -/
def mEqB (x y : V) : Option Bool := match x, y with
  | .int i, .int j => some (decide (i = j))
  | .str a, .str b => some (decide (a = b))
  | .bl a, .bl b => some (decide (a = b))
  | .non, .non => some true
  | .non, .int _ => some false
  | .non, .str _ => some false
  | .non, .bl _ => some false
  | .int _, .non => some false
  | .str _, .non => some false
  | .bl _, .non => some false
  | .int _, .str _ => some false
  | .str _, .int _ => some false
  | .bl _, .str _ => some false
  | .str _, .bl _ => some false
  | _, _ => none
theorem mEqB_ok {x y : V} {b : Bool} (h : mEqB x y = some b) : scal x y = true ∧ decide (x = y) = b := by
  unfold mEqB at h
  split at h <;> (try cases h) <;> refine ⟨rfl, ?_⟩ <;> simp
/-- == of data, one of both not deep -/
def rEqW (K : PySem.W.Frag) (neg : Bool) : R2 := fun x y H Q => ∃ d e, Dp K H x d ∧ Dp K H y e ∧ d.canLay0 = true ∧ e.canLay0 = true ∧ min d.depth e.depth ≤ 64 ∧ Q (.bl (if neg then !PyData.eqv d e else PyData.eqv d e)) H
theorem op_eqW (hu : X.A.units + 64 < cLine) : OpR X (compareOp .Eq) (rEqW X.K false) := by
  intro pins s σ H x y v u Q I rx ry h
  obtain ⟨d, e, hd, he, sd, se, hm, q⟩ := h
  obtain ⟨as, r1⟩ := Dp.reads I d x v hd rx
  obtain ⟨bs, r2⟩ := Dp.reads I e y u he ry
  exact SeqAt.compareEq_reads r1 r2 sd se (by omega) ⟨.bl _, H, I, rfl, q⟩
theorem op_neW (hu : X.A.units + 64 < cLine) : OpR X (compareOp .NotEq) (rEqW X.K true) := by
  intro pins s σ H x y v u Q I rx ry h
  obtain ⟨d, e, hd, he, sd, se, hm, q⟩ := h
  obtain ⟨as, r1⟩ := Dp.reads I d x v hd rx
  obtain ⟨bs, r2⟩ := Dp.reads I e y u he ry
  exact SeqAt.compareNe_reads r1 r2 sd se (by omega) ⟨.bl _, H, I, rfl, q⟩
def mEq (K : PySem.W.Frag) : R2 := fun x y H Q => match mEqB x y with
  | some b => Q (.bl b) H
  | none => rEqW K false x y H Q
def mNe (K : PySem.W.Frag) : R2 := fun x y H Q => match mEqB x y with
  | some b => Q (.bl (!b)) H
  | none => rEqW K true x y H Q
theorem op_eqM (hu : X.A.units + 64 < cLine) : OpR X (compareOp .Eq) (mEq X.K) := by
  intro pins s σ H x y v u Q I rx ry q
  unfold mEq at q
  split at q
  · rename_i b e
    obtain ⟨h1, h2⟩ := mEqB_ok e
    refine op_eq pins s σ H _ _ v u Q I rx ry ⟨h1, ?_⟩
    rw [h2]; exact q
  · exact op_eqW hu pins s σ H _ _ v u Q I rx ry q
theorem op_neM (hu : X.A.units + 64 < cLine) : OpR X (compareOp .NotEq) (mNe X.K) := by
  intro pins s σ H x y v u Q I rx ry q
  unfold mNe at q
  split at q
  · rename_i b e
    obtain ⟨h1, h2⟩ := mEqB_ok e
    refine op_ne pins s σ H _ _ v u Q I rx ry ⟨h1, ?_⟩
    rw [h2]; exact q
  · exact op_neW hu pins s σ H _ _ v u Q I rx ry q
def mCmp (p : Int → Int → Bool) : R2 := fun x y H Q => match x, y with
  | .int i, .int j => Q (.bl (p i j)) H
  | _, _ => False
theorem cmp_imp {p : Int → Int → Bool} {f : Value → Value → Sem Value} (h : OpR X f (rI0 fun i j => .bl (p i j))) : OpR X f (mCmp p) := opR_imp h fun x y H Q q => by
  unfold mCmp at q
  split at q
  · exact ⟨_, _, rfl, rfl, q⟩
  · exact q.elim
def mLt : R2 := mCmp fun i j => decide (i < j)
def mLe : R2 := mCmp fun i j => decide (i ≤ j)
def mGt : R2 := mCmp fun i j => decide (j < i)
def mGe : R2 := mCmp fun i j => decide (j ≤ i)
theorem op_ltM : OpR X (compareOp .Lt) mLt := cmp_imp op_lt
theorem op_leM : OpR X (compareOp .LtE) mLe := cmp_imp op_le
theorem op_gtM : OpR X (compareOp .Gt) mGt := cmp_imp op_gt
theorem op_geM : OpR X (compareOp .GtE) mGe := cmp_imp op_ge
/-- is None, is not None -/
def isN : V → Bool
  | .non => true
  | _ => false
theorem isN_eq (x : V) : decide (x = .non) = isN x := by cases x <;> simp [isN]
def mIsN : R2 := fun x y H Q => match y with
  | .non => Q (.bl (isN x)) H
  | _ => False
def mNotN : R2 := fun x y H Q => match y with
  | .non => Q (.bl (!isN x)) H
  | _ => False
theorem op_isNM : OpR X (compareOp .Is) mIsN := opR_imp op_isN fun x y H Q q => by
  unfold mIsN at q
  split at q
  · exact ⟨rfl, by rw [isN_eq]; exact q⟩
  · exact q.elim
theorem op_notNM : OpR X (compareOp .IsNot) mNotN := opR_imp op_notN fun x y H Q q => by
  unfold mNotN at q
  split at q
  · exact ⟨rfl, by rw [isN_eq]; exact q⟩
  · exact q.elim
/-- x in a list or tuple of flat things -/
def mInS (K : PySem.W.Frag) : R2 := fun x y H Q => rIn K false x y H Q
def mNinS (K : PySem.W.Frag) : R2 := fun x y H Q => rIn K true x y H Q
theorem op_inSM : OpR X (compareOp .In) (mInS X.K) := op_in_seq
theorem op_ninSM : OpR X (compareOp .NotIn) (mNinS X.K) := op_notIn_seq
/-- one sign in a text -/
def mInC : R2 := fun x y H Q => match x, y with
  | .str c, .str z => ∃ k, c = S [k] ∧ Q (.bl (decide (k ∈ z.cps.toList))) H
  | _, _ => False
theorem op_inCM : OpR X (compareOp .In) mInC := opR_imp op_in_sign fun x y H Q q => by
  unfold mInC at q
  split at q
  · obtain ⟨k, rfl, q⟩ := q
    exact ⟨k, _, rfl, rfl, q⟩
  · exact q.elim
def mNinC : R2 := fun x y H Q => match x, y with
  | .str c, .str z => ∃ k, c = S [k] ∧ Q (.bl (!decide (k ∈ z.cps.toList))) H
  | _, _ => False
theorem op_ninCM : OpR X (compareOp .NotIn) mNinC := opR_imp op_notIn_sign fun x y H Q q => by
  unfold mNinC at q
  split at q
  · obtain ⟨k, rfl, q⟩ := q
    exact ⟨k, _, rfl, rfl, q⟩
  · exact q.elim

/-! ### tests -/
def mTest (t : TE) : TT := fun σ H Q => t σ H fun x H' => match x with
  | .bl k => Q k H'
  | _ => False
def bX (Q : Bool → Hp → Prop) : VK := fun x H' => ∃ k, x = .bl k ∧ Q k H'
theorem bX_of {Q : Bool → Hp → Prop} {x : V} {H : Hp} (q : match x with | .bl k => Q k H | _ => False) : ∃ k, x = .bl k ∧ Q k H := by
  cases x with
  | bl k => exact ⟨k, rfl, q⟩
  | _ => exact q.elim
end
end M

namespace M
open PySem PySem.Spec PyProof.Rows L2

/-! ### a reading's closure: what it wants may be weaker than what is given -/
def cl (t : TE) : TE := fun σ H Q => ∃ Q' : VK, t σ H Q' ∧ ∀ v H', Q' v H' → Q v H'
def clT (t : TT) : TT := fun σ H Q => ∃ Q' : Bool → Hp → Prop, t σ H Q' ∧ ∀ v H', Q' v H' → Q v H'
def clA (t : TA) : TA := fun σ H Q => ∃ Q' : List V → Hp → Prop, t σ H Q' ∧ ∀ v H', Q' v H' → Q v H'
section
variable {X : Cx} {a b c : Expr} {ta tb tc : TE} {pos : Pos} {t u : TT}
theorem pe_cl (h : PE X a ta) : PE X a (cl ta) := ⟨fun pins s σ H Q I ⟨Q', q, w⟩ => thn (h.run pins s σ H Q' I q) fun _ _ ⟨v, H', I', r, z⟩ => ⟨v, H', I', r, w v H' z⟩⟩
theorem pt_cl (h : PT X a t) : PT X a (clT t) := ⟨fun pins s σ H Q I ⟨Q', q, w⟩ => thn (h.run pins s σ H Q' I q) fun _ _ ⟨H', I', z⟩ => ⟨H', I', w _ H' z⟩⟩
theorem pa_cl {es : List Expr} {t : TA} (h : PA X es t) : PA X es (clA t) := ⟨fun pos pins s σ H Q I ⟨Q', q, w⟩ => thn (h.run pos pins s σ H Q' I q) fun _ _ ⟨v, H', I', r, z⟩ => ⟨v, H', I', r, w v H' z⟩⟩
def clR (r : R2) : R2 := fun x y H Q => ∃ Q' : VK, r x y H Q' ∧ ∀ v H', Q' v H' → Q v H'
theorem opR_cl {f : Value → Value → Sem Value} {r : R2} (h : OpR X f r) : OpR X f (clR r) := fun pins s σ H x y v u Q I rx ry ⟨Q', q, w⟩ => thn (h pins s σ H x y v u Q' I rx ry q) fun _ _ ⟨v, H', I', r, z⟩ => ⟨v, H', I', r, w v H' z⟩

/-! ### tests -/
theorem mt_val (h : PE X a ta) (he : ∀ whole, isTrue a X.env whole = (do let v ← whole; standAt a.pos; holding [v] (truthy v)) := by intro _; rfl) : PT X a (mTest ta) :=
  pt_imp (pt_val (pe_cl h) he) fun σ H Q q => ⟨_, q, fun v H' z => bX_of z⟩
theorem mt_cmp {op : CmpOp} {r : R2} (ho : OpR X (compareOp op) r) (ha : PE X a ta) (hb : PE X b tb) (hm : behindInMarks op b = false) : PT X (.Compare a [op] [b] pos) (mTest (tOp r ta tb)) :=
  pt_imp (pt_cmpR (opR_cl ho) (pe_cl ha) (pe_cl hb) hm) fun σ H Q q => ⟨_, q, fun x H1 q1 => ⟨_, q1, fun y H2 q2 => ⟨_, q2, fun z H3 q3 => bX_of q3⟩⟩⟩
def mChain (r r' : R2) (ta tb tc : TE) : TE := fun σ H Q => ta σ H fun x H1 => tb σ H1 fun y H2 => r x y H2 fun z H3 => match z with
  | .bl true => tc σ H3 fun w H4 => r' y w H4 Q
  | .bl false => Q (.bl false) H3
  | _ => False
/-! and, or, not as values -/
def mAndV (ta tb : TE) : TE := fun σ H Q => ta σ H fun x H1 => match x with
  | .bl c => if c = true then tb σ H1 Q else Q (.bl false) H1
  | _ => False
def mOrV (ta tb : TE) : TE := fun σ H Q => ta σ H fun x H1 => match x with
  | .bl c => if c = true then Q (.bl true) H1 else tb σ H1 Q
  | _ => False
def mNotV (ta : TE) : TE := fun σ H Q => ta σ H fun x H1 => match x with
  | .bl c => Q (.bl (!c)) H1
  | _ => False
variable {rest : List Expr}
theorem me_and (ha : PE X a ta) (hb : PE X (.BoolOp .And (b :: rest) pos) tb) : PE X (.BoolOp .And (a :: b :: rest) pos) (mAndV ta tb) :=
  pe_imp (pe_and (pe_cl ha) hb) fun σ H Q q => ⟨_, q, fun x H1 z => by
    cases x with
    | bl c => exact ⟨c, rfl, z⟩
    | _ => exact z.elim⟩
theorem me_or (ha : PE X a ta) (hb : PE X (.BoolOp .Or (b :: rest) pos) tb) : PE X (.BoolOp .Or (a :: b :: rest) pos) (mOrV ta tb) :=
  pe_imp (pe_or (pe_cl ha) hb) fun σ H Q q => ⟨_, q, fun x H1 z => by
    cases x with
    | bl c => exact ⟨c, rfl, z⟩
    | _ => exact z.elim⟩
theorem me_not (ha : PE X a ta) : PE X (.UnaryOp .Not a pos) (mNotV ta) :=
  pe_imp (pe_not (pe_cl ha)) fun σ H Q q => ⟨_, q, fun x H1 z => by
    cases x with
    | bl c => exact ⟨c, rfl, z⟩
    | _ => exact z.elim⟩
def mUn (f : Int → Int) (ta : TE) : TE := fun σ H Q => ta σ H fun x H1 => match x with
  | .int i => Q (.int (f i)) H1
  | _ => False
theorem me_neg (ha : PE X a ta) : PE X (.UnaryOp .USub a pos) (mUn (fun i => -i) ta) :=
  pe_imp (pe_un un_neg (pe_cl ha)) fun σ H Q q => ⟨_, q, fun x H1 z => by
    cases x with
    | int i => exact ⟨i, rfl, z⟩
    | _ => exact z.elim⟩

/-! ### subscripts -/
def mIx (K : PySem.W.Frag) : R2 := fun x y H Q => match x, y with
  | .str z, .int i => z.length ≤ sizeLine ∧ ∃ c, atI z.cps.toList i = some c ∧ Q (.str (S [c])) H
  | .ref p, .int i => ∃ xs v, (SqL K H p xs ∨ SqT K H p xs) ∧ atI xs i = some v ∧ Q v H
  | _, _ => False
theorem ix_M : IxR X (mIx X.K) := ixR_imp ix_seq fun x y H Q q => by
  unfold mIx at q
  split at q
  · obtain ⟨h, c, e, q⟩ := q
    exact .inr (.inr ⟨_, _, c, rfl, rfl, h, e, q⟩)
  · obtain ⟨xs, v, h | h, e, q⟩ := q
    · exact .inl ⟨_, xs, _, v, rfl, rfl, h, e, q⟩
    · exact .inr (.inl ⟨_, xs, _, v, rfl, rfl, h, e, q⟩)
  · exact q.elim
theorem me_ix (ha : PE X a ta) (hb : PE X b tb) (hs : PlainIx b) : PE X (.Subscript a b pos) (tOp (mIx X.K) ta tb) := pe_ix ix_M ha hb hs
def mPart (t : TE) : TO := fun σ H Q => t σ H fun x H1 => match x with
  | .int i => Q (some i) H1
  | _ => False
theorem mo_some (h : PE X a ta) : PO X (some a) (mPart ta) := by
  have z := po_some (pe_cl h)
  exact ⟨fun pins s σ H Q I q => z.run pins s σ H Q I ⟨_, q, fun x H1 y => by
    cases x with
    | int i => exact ⟨i, rfl, y⟩
    | _ => exact y.elim⟩⟩
/-- l[lo:hi] -/
def cutL {α : Type} (l : List α) (lo hi : Option Int) : List α := (l.drop (HT.sIx l.length 0 lo)).take (HT.sIx l.length l.length hi - HT.sIx l.length 0 lo)
def mSl (K : PySem.W.Frag) : V → Option Int → Option Int → Hp → VK → Prop := fun x lo hi H Q => match x with
  | .str z => z.length ≤ sizeLine ∧ Q (.str (S (cutL z.cps.toList lo hi))) H
  | .ref a => (∃ xs, SqL K H a xs ∧ ∀ p, H p = none → Q (.ref p) (upd H p (.lst (cutL xs lo hi))))
  | _ => False
theorem sl_M : SlR X (mSl X.K) := slR_imp (sl_str.or sl_list) fun x lo hi H Q q => by
  unfold mSl at q
  split at q
  · exact .inl ⟨_, rfl, q.1, q.2⟩
  · obtain ⟨xs, h, q⟩ := q
    exact .inr ⟨_, xs, rfl, h, q⟩
  · exact q.elim
theorem me_slice {lo hi : Option Expr} {tl th : TO} {p2 : Pos} (ha : PE X a ta) (hl : PO X lo tl) (hh : PO X hi th) : PE X (.Subscript a (.Slice lo hi none p2) pos) (tSl (mSl X.K) ta tl th) := pe_slice sl_M ha hl hh
end

/-! ### statements -/
section
variable {X : Cx} {pos : Pos}
/-- (a, b, ..) = a tuple -/
def mgTup (K : PySem.W.Frag) (n : Nat) (t : TGs) : TG := fun v σ H Q => match v with
  | .ref a => ∃ xs, SqT K H a xs ∧ xs.length = n ∧ t xs σ H Q
  | _ => False
theorem mg_tup {es : List Expr} {k : Nat} {t : TGs} {n : Nat} (hc : X.calm = true) (h : PGs X es t)
    (hn : (assignEach es X.env).length = n := by rfl) (hst : (assignEach es X.env).findIdx? (·.1) = none := by rfl) : PG X (.Tuple es k pos) (mgTup X.K n t) :=
  pg_imp (pg_tup hc h hn hst) fun v σ H Q q => by
    unfold mgTup at q
    split at q
    · obtain ⟨xs, h, q⟩ := q
      exact ⟨_, xs, rfl, h, q⟩
    · exact q.elim
def mgNil : TGs := fun vs σ H Q => match vs with
  | [] => Q σ H
  | _ => False
def mgCons (t : TG) (u : TGs) : TGs := fun vs σ H Q => match vs with
  | v :: r => t v σ H fun σ' H' => u r σ' H' Q
  | [] => False
theorem mgs_nil : PGs X [] mgNil := pgs_imp pgs_nil fun vs σ H Q q => by
  cases vs with
  | nil => exact ⟨rfl, q⟩
  | cons _ _ => exact q.elim
theorem mgs_cons {e : Expr} {es : List Expr} {t : TG} {u : TGs} (h1 : PG X e t) (h2 : PGs X es u)
    (hs : (assignEach (e :: es) X.env).map (·.2) = assign e X.env :: (assignEach es X.env).map (·.2) := by rfl) : PGs X (e :: es) (mgCons t u) := pgs_imp (pgs_cons h1 h2 hs) fun vs σ H Q q => by
  cases vs with
  | nil => exact q.elim
  | cons v r => exact ⟨v, r, rfl, q⟩
/-- o[i] = v, a list -/
def mSetL : V → V → V → Hp → (Hp → Prop) → Prop := fun o i v H Q => match o, i with
  | .ref p, .int k => ∃ xs j, H p = some (.lst xs) ∧ ixN xs.length k = some j ∧ Q (upd H p (.lst (xs.set j v)))
  | _, _ => False
theorem set_listM : PSet X mSetL := fun pins s σ H o i v ov iv u Q I ro ri rv q => by
  unfold mSetL at q
  split at q
  · obtain ⟨xs, j, h1, h2, q⟩ := q
    exact set_list pins s σ H _ _ v ov iv u Q I ro ri rv ⟨_, xs, _, j, rfl, rfl, h1, h2, q⟩
  · exact q.elim
/-- a, b = x, y -/
def mPar (i j : Nat) (ta : TA) : TS := fun D σ H => ta σ H fun vs H1 => match vs with
  | [v, w] => D.nx ((σ.set i (some v)).set j (some w)) H1
  | _ => False
theorem ms_par {i j : Nat} {x y : Str} {a b : Expr} {ta : TA} {px py pt : Pos} {kt k2 pt2} (hc : X.calm = true) (hN : X.N.Nodup) (hi : X.N[i]? = some x) (hj : X.N[j]? = some y) (hij : i ≠ j)
    (hx : X.env.scope.names.lookup x = some .local) (hy : X.env.scope.names.lookup y = some .local) (ha : PA X [a, b] ta)
    (hw : swappedStores [.Tuple [.Name x px, .Name y py] kt pt] (.Tuple [a, b] k2 pt2) X.env = pure (some [x, y]))
    (hs : swapsWithSole [.Tuple [.Name x px, .Name y py] kt pt] (.Tuple [a, b] k2 pt2) pos.line X.env = pure false := by rfl) :
    PS X (.Assign [.Tuple [.Name x px, .Name y py] kt pt] (.Tuple [a, b] k2 pt2) pos) (mPar i j ta) :=
  ps_imp (ps_par hc hN hi hj hij hx hy (pa_cl ha) hw hs) fun D σ H q => ⟨_, q, fun vs H1 z => by
    split at z
    · exact ⟨_, _, rfl, z⟩
    · exact z.elim⟩
/-- name op= e -/
def mAug (i : Nat) (te : TE) (r : R2) : TS := fun D σ H => match gt σ i with
  | some x => te σ H fun y H1 => r x y H1 fun z H2 => D.nx (σ.set i (some z)) H2
  | none => False
theorem ms_aug {i : Nat} {x : Str} {e : Expr} {te : TE} {op : Operator} {r : R2} {pos' : Pos} (hN : X.N.Nodup) (hi : X.N[i]? = some x) (hx : Loc X.env.scope x) (he : PE X e te) (ho : OpR X (inplaceOp op) r) (hf : X.fn x = true ∨ X.env.scope.names.lookup x = some .local := by first | exact .inl rfl | exact .inr rfl | assumption) :
    PS X (.AugAssign (.Name x pos') op e pos) (mAug i te r) :=
  ps_imp (ps_aug hN hi hx he (ti := r) (fun pins s σ H x y v u Q I r1 r2 h => ho pins s σ H x y v u Q I r1 r2 h) hf) fun D σ H q => by
    unfold mAug at q
    split at q
    · rename_i x e
      exact ⟨x, gt_some e, q⟩
    · exact q.elim
def iAdd : R2 := fun x y H Q => match x, y with
  | .int i, .int j => Q (.int (i + j)) H
  | .str a, .str b => a.length + b.length ≤ sizeLine ∧ Q (.str (a ++ b)) H
  | .ref l, .ref b => ∃ xs zs, H l = some (.lst xs) ∧ H b = some (.lst zs) ∧ xs.length + zs.length ≤ sizeLine ∧ Q (.ref l) (upd H l (.lst (xs ++ zs)))
  | _, _ => False
theorem iop_addM : OpR X (inplaceOp .Add) iAdd := by
  intro pins s σ H x y v u Q I rx ry q
  unfold iAdd at q
  split at q
  · exact iop_add pins s σ H _ _ v u Q I rx ry ⟨_, _, rfl, rfl, q⟩
  · exact iop_add_str pins s σ H _ _ v u Q I rx ry ⟨_, _, rfl, rfl, q⟩
  · obtain ⟨xs, zs, h1, h2, h3, q⟩ := q
    exact iop_ext pins s σ H _ _ v u Q I rx ry ⟨_, _, xs, zs, rfl, rfl, h1, h2, h3, q⟩
  · exact q.elim
theorem iop_subM : OpR X (inplaceOp .Sub) mSub := opR_imp iop_sub fun x y H Q q => by
  unfold mSub at q
  split at q
  · exact ⟨_, _, rfl, rfl, q⟩
  · exact q.elim
end

/-! ### what is walked -/
inductive Src where
  | v (G : Hp → Prop) (L : List V)
  | p (G : Hp → Prop) (L : List (V × V))
def Feeds (J : It) : Src → Prop
  | .v G L => Walk J L.length G (YAt L)
  | .p G L => Walk J L.length G (YPair (fun i => L[i]?.map (·.1)) (fun i => L[i]?.map (·.2)))
abbrev MI := Sl → Hp → (Src → Hp → Prop) → Prop
def toTI (wi : MI) : TI := fun σ H R => ∃ P : Src → Hp → Prop, wi σ H P ∧ ∀ s H1 J, P s H1 → Feeds J s → R J H1
section
variable {X : Cx} {tg : Expr} {l e2 : Expr} {tl t2 : TE}
def mIter (K : PySem.W.Frag) (tl : TE) : MI := fun σ H P => tl σ H fun x H1 => match x with
  | .ref a => ∃ xs, (SqL K H1 a xs ∧ P (.v (fun H => SqL K H a xs) xs) H1) ∨ (SqT K H1 a xs ∧ P (.v (fun H => SqT K H a xs) xs) H1)
  | .str z => P (.v (fun _ => True) (z.cps.toList.map fun c => .str (S [c]))) H1
  | _ => False
/-- the walk of a value, by its rule -/
def ItR (X : Cx) (tg : Expr) (r : V → Hp → (It → Hp → Prop) → Prop) : Prop :=
  ∀ (pins : List (Addr × Obj)) (s : Shared) (σ : L2.St) (H : Hp) (x : V) (v : Value) (R : It → Hp → Prop), Inv X pins σ H s → RelV x v → r x H R → wpAny (model X.prog X.w) X.A (pyIter v) (PIE X pins σ tg R) X.xe s
theorem pi_of {r : V → Hp → (It → Hp → Prop) → Prop} (he : PE X l tl) (hr : ItR X tg r) : PI X tg l (fun σ H R => tl σ H fun x H1 => r x H1 R) :=
  ⟨fun pins s σ H R I h => thn (he.run pins s σ H _ I h) fun v s1 ⟨x, H1, I1, r1, q1⟩ => hr pins s1 σ H1 x v R I1 r1 q1⟩
theorem itr_list : ItR X tg (fun x H R => ∃ a, x = .ref a ∧ (∃ xs, SqL X.K H a xs) ∧ R (Itl X.K a) H) := by
  intro pins s1 σ H1 x v R I1 r1 q1
  obtain ⟨a, e, ⟨xs, hq⟩, q⟩ := q1
  subst e
  cases r1
  obtain ⟨its, rv, p, hz⟩ := I1.list hq
  refine wpAny_pyIter_list p.isList ?_
  refine ⟨s1.heap.objs.size, [s1.heap.objs.size], _, _, H1, rfl, I1.kept (t' := s1.toks) fun b o e => Heap.get?_push_of_some _ e, turn_list a _, ⟨_, Heap.get?_push_size _ rfl, rfl, rfl⟩, fun b hb => ?_, q⟩
  have e : b = s1.heap.objs.size := by simpa using hb
  subst e
  exact I1.fpOk (Nat.le_refl _) (I1.hok.fresh (Nat.le_refl _))
theorem itr_tup : ItR X tg (fun x H R => ∃ a, x = .ref a ∧ (∃ xs, SqT X.K H a xs) ∧ R (Itt X.K a) H) := by
  intro pins s1 σ H1 x v R I1 r1 q1
  obtain ⟨a, e, ⟨xs, hq⟩, q⟩ := q1
  subst e
  cases r1
  obtain ⟨its, rv, p, hz⟩ := I1.tuple hq
  refine wpAny_pyIter_tuple (show s1.heap.IsTuple a its.toArray from p) ?_
  refine ⟨s1.heap.objs.size, [s1.heap.objs.size], _, _, H1, rfl, I1.kept (t' := s1.toks) fun b o e => Heap.get?_push_of_some _ e, turn_tuple a _, ⟨_, Heap.get?_push_size _ rfl, rfl, rfl⟩, fun b hb => ?_, q⟩
  have e : b = s1.heap.objs.size := by simpa using hb
  subst e
  exact I1.fpOk (Nat.le_refl _) (I1.hok.fresh (Nat.le_refl _))
theorem itr_str : ItR X tg (fun x H R => ∃ z, x = .str z ∧ R (Its z) H) := by
  intro pins s1 σ H1 y v R I1 r1 q1
  obtain ⟨x, ex, q⟩ := q1
  subst ex
  obtain ⟨t, rfl⟩ := r1
  cases ha : x.cps.all (· < 128)
  · exact wpAny_pyIter_wide ha (pi_one (tk := s1.toks) I1 _ (turn_str _ x t "str_iterator" (.inr rfl)) ⟨_, Heap.get?_push_size _ rfl, rfl, rfl⟩ q)
  · exact wpAny_pyIter_ascii ha (pi_one (tk := s1.toks) I1 _ (turn_str _ x t "str_ascii_iterator" (.inl rfl)) ⟨_, Heap.get?_push_size _ rfl, rfl, rfl⟩ q)
theorem feeds_list {K : PySem.W.Frag} {a : Addr} {xs : List V} : Feeds (Itl K a) (.v (fun H => SqL K H a xs) xs) := walk_list
theorem feeds_tup {K : PySem.W.Frag} {a : Addr} {xs : List V} : Feeds (Itt K a) (.v (fun H => SqT K H a xs) xs) := walk_tup
theorem feeds_str {z : Str} : Feeds (Its z) (.v (fun _ => True) (z.cps.toList.map fun c => .str (S [c]))) := by
  have e : z.cps.size = (z.cps.toList.map fun c => V.str (S [c])).length := by simp
  have w := walk_str (z := z)
  rw [e] at w
  refine Walk.mono w (fun _ h => h) fun i H x H' _ _ ⟨h1, c, h2, h3⟩ => ⟨h1, ?_⟩
  rw [List.getElem?_map, Array.getElem?_toList, h2, h3]; rfl
theorem pi_iterM (he : PE X l tl) : PI X tg l (toTI (mIter X.K tl)) := by
  refine ⟨fun pins s σ H R I ⟨P, q, w⟩ => thn (he.run pins s σ H _ I q) fun v s1 ⟨x, H1, I1, r1, q1⟩ => ?_⟩
  cases x with
  | ref a =>
    obtain ⟨xs, h | h⟩ := q1
    · exact itr_list pins s1 σ H1 _ v R I1 r1 ⟨a, rfl, ⟨xs, h.1⟩, w _ _ _ h.2 feeds_list⟩
    · exact itr_tup pins s1 σ H1 _ v R I1 r1 ⟨a, rfl, ⟨xs, h.1⟩, w _ _ _ h.2 feeds_tup⟩
  | str z => exact itr_str pins s1 σ H1 _ v R I1 r1 ⟨z, rfl, w _ _ _ q1 feeds_str⟩
  | _ => exact q1.elim
theorem pi_imp {t t' : TI} (h : PI X tg l t) (w : ∀ σ H R, t' σ H R → t σ H R) : PI X tg l t' := ⟨fun pins s σ H R I q => h.run pins s σ H R I (w σ H R q)⟩
/-- range(n), range(a, b) -/
def upto (lo : Int) (n : Nat) : List V := (List.range n).map fun (i : Nat) => V.int (lo + (i : Int))
theorem upto_zero (lo : Int) : upto lo 0 = [] := rfl
theorem upto_succ (lo : Int) (n : Nat) : upto lo (n + 1) = .int lo :: upto (lo + 1) n := by
  unfold upto
  rw [List.range_succ_eq_map]
  simp only [List.map_cons, List.map_map]
  congr 1
  · simp
  · apply List.map_congr_left
    intro i _
    show V.int _ = V.int _
    congr 1
    simp
    omega
theorem feeds_range {lo : Int} {n : Nat} : Feeds (Itr lo n) (.v (fun _ => True) (upto lo n)) := by
  have e : n = (upto lo n).length := by simp [upto]
  have w := walk_range (lo := lo) (n := n)
  show Walk _ (upto lo n).length _ _
  rw [← e]
  refine Walk.mono w (fun _ h => h) fun i H x H' hi _ ⟨h1, h2⟩ => ⟨h1, ?_⟩
  unfold upto
  rw [List.getElem?_map, List.getElem?_range hi, h2]; rfl
def mRng1 (ta : TE) : MI := fun σ H P => ta σ H fun x H1 => match x with
  | .int j => (-(2 ^ 62) ≤ j ∧ j < 2 ^ 62) ∧ P (.v (fun _ => True) (upto 0 j.toNat)) H1
  | _ => False
def mRng2 (ta tb : TE) : MI := fun σ H P => ta σ H fun x H1 => tb σ H1 fun y H2 => match x, y with
  | .int i, .int j => (-(2 ^ 62) ≤ i ∧ i < 2 ^ 62 ∧ -(2 ^ 62) ≤ j ∧ j < 2 ^ 62) ∧ P (.v (fun _ => True) (upto i (j - i).toNat)) H2
  | _, _ => False
theorem pi_rng1M {a : Expr} {ta : TE} {p pos : Pos} (hg : Gl X "range") (hm : X.mg "range" = none) (ha : PE X a ta) (hs : starEach [a] X.env = [(false, eval a X.env)] := by rfl) : PI X tg (.Call (.Name "range" p) [a] [] pos) (toTI (mRng1 ta)) :=
  pi_imp (pi_range1 hg hm (pa_cons (pe_cl ha) pa_nil hs) hs) fun σ H R ⟨P, q, w⟩ => ⟨_, q, fun x H1 z => by
    cases x with
    | int j => exact ⟨j, rfl, z.1.1, z.1.2, w _ _ _ z.2 feeds_range⟩
    | _ => exact z.elim⟩
theorem pi_rng2M {a b : Expr} {ta tb : TE} {p pos : Pos} (hg : Gl X "range") (hm : X.mg "range" = none) (ha : PE X a ta) (hb : PE X b tb) (hs : starEach [a, b] X.env = [(false, eval a X.env), (false, eval b X.env)] := by rfl) (hs2 : starEach [b] X.env = [(false, eval b X.env)] := by rfl) :
    PI X tg (.Call (.Name "range" p) [a, b] [] pos) (toTI (mRng2 ta tb)) :=
  pi_imp (pi_range2 hg hm (pa_cons (pe_cl ha) (pa_cons (pe_cl hb) pa_nil hs2) (by rw [hs, hs2])) hs hs2) fun σ H R ⟨P, q, w⟩ => ⟨_, q, fun x H1 z => ⟨_, z, fun y H2 z2 => by
    split at z2
    · exact ⟨_, _, rfl, z2.1, w _ _ _ z2.2 feeds_range⟩
    · exact z2.elim⟩⟩
/-- enumerate(list) -/
def numd : Nat → List V → List (V × V)
  | _, [] => []
  | i, x :: r => (.int (i : Int), x) :: numd (i + 1) r
theorem numd_get : ∀ {k : Nat} {xs : List V} {i : Nat}, (numd k xs)[i]? = xs[i]?.map fun x => (V.int ((k + i : Nat) : Int), x)
  | _, [], _ => by simp [numd]
  | k, x :: r, 0 => by simp [numd]
  | k, x :: r, i + 1 => by
    have := numd_get (k := k + 1) (xs := r) (i := i)
    simp only [numd, List.getElem?_cons_succ, this]
    congr 1
    funext z
    congr 3
    omega
theorem numd_len : ∀ {k : Nat} {xs : List V}, (numd k xs).length = xs.length
  | _, [] => rfl
  | k, x :: r => by simp [numd, numd_len]
theorem feeds_enum {K : PySem.W.Frag} {a : Addr} {xs : List V} : Feeds (Ite K a) (.p (fun H => SqL K H a xs) (numd 0 xs)) := by
  show Walk _ (numd 0 xs).length _ _
  rw [numd_len]
  refine Walk.mono walk_enum (fun _ h => h) fun i H x H' _ _ ⟨T, y, z, h1, h2, h3, h4, h5⟩ => ⟨T, y, z, h1, h2, h3, ?_, ?_⟩
  · show (numd 0 xs)[i]?.map (·.1) = _
    have h5' : xs[i]? = some z := h5
    rw [numd_get, h5', ← h4]; simp
  · show (numd 0 xs)[i]?.map (·.2) = _
    have h5' : xs[i]? = some z := h5
    rw [numd_get, h5']; simp
def mEnum (K : PySem.W.Frag) (ta : TE) : MI := fun σ H P => ta σ H fun x H1 => match x with
  | .ref a => ∃ xs, SqL K H1 a xs ∧ P (.p (fun H => SqL K H a xs) (numd 0 xs)) H1
  | _ => False
theorem pi_enumM {e : Expr} {ta : TE} {p pos tpos : Pos} {elts : List Expr} {kk : Nat} (hg : Gl X "enumerate") (hm : X.mg "enumerate" = none) (ha : PE X e ta) (hs : starEach [e] X.env = [(false, eval e X.env)] := by rfl) :
    PI X (.Tuple elts kk tpos) (.Call (.Name "enumerate" p) [e] [] pos) (toTI (mEnum X.K ta)) :=
  pi_imp (pi_enum hg hm (pa_cons (pe_cl ha) pa_nil hs) hs) fun σ H R ⟨P, q, w⟩ => ⟨_, q, fun x H1 z => by
    cases x with
    | ref a => obtain ⟨xs, h, z⟩ := z; exact ⟨a, xs, rfl, h, w _ _ _ z feeds_enum⟩
    | _ => exact z.elim⟩
/-- zip(list, list) -/
theorem feeds_zip {K : PySem.W.Frag} {a b : Addr} {xs ys : List V} : Feeds (Itz K a b) (.p (fun H => SqL K H a xs ∧ SqL K H b ys) (xs.zip ys)) := by
  show Walk _ (xs.zip ys).length _ _
  rw [List.length_zip]
  refine Walk.mono (walk_zip rfl) (fun _ h => h) fun i H x H' _ _ ⟨T, y, z, h1, h2, h3, h4, h5⟩ => ⟨T, y, z, h1, h2, h3, ?_, ?_⟩
  · show (xs.zip ys)[i]?.map (·.1) = _
    have h4' : xs[i]? = some y := h4
    have h5' : ys[i]? = some z := h5
    rw [show (xs.zip ys)[i]? = some (y, z) from List.getElem?_zip_eq_some.mpr ⟨h4', h5'⟩]; rfl
  · show (xs.zip ys)[i]?.map (·.2) = _
    have h4' : xs[i]? = some y := h4
    have h5' : ys[i]? = some z := h5
    rw [show (xs.zip ys)[i]? = some (y, z) from List.getElem?_zip_eq_some.mpr ⟨h4', h5'⟩]; rfl
def mZip (K : PySem.W.Frag) (ta tb : TE) : MI := fun σ H P => ta σ H fun x H1 => tb σ H1 fun y H2 => match x, y with
  | .ref a, .ref b => ∃ xs ys, SqL K H2 a xs ∧ SqL K H2 b ys ∧ P (.p (fun H => SqL K H a xs ∧ SqL K H b ys) (xs.zip ys)) H2
  | _, _ => False
theorem pi_zipM {e e2 : Expr} {ta tb : TE} {p pos tpos : Pos} {elts : List Expr} {kk : Nat} (hg : Gl X "zip") (hm : X.mg "zip" = none) (ha : PE X e ta) (hb : PE X e2 tb)
    (hs : starEach [e, e2] X.env = (false, eval e X.env) :: starEach [e2] X.env := by rfl) (hs2 : starEach [e2] X.env = [(false, eval e2 X.env)] := by rfl) (hpl : (backTo pos (starEach [e2] X.env)).any (·.1) = false := by rfl) :
    PI X (.Tuple elts kk tpos) (.Call (.Name "zip" p) [e, e2] [] pos) (toTI (mZip X.K ta tb)) :=
  pi_imp (pi_zip hg hm (pa_cons (pe_cl ha) (pa_cons (pe_cl hb) pa_nil hs2) hs) hs hpl) fun σ H R ⟨P, q, w⟩ => ⟨_, q, fun x H1 z => ⟨_, z, fun y H2 z2 => by
    split at z2
    · obtain ⟨xs, ys, h1, h2, z2⟩ := z2
      exact ⟨_, _, xs, ys, rfl, h1, h2, w _ _ _ z2 feeds_zip⟩
    · exact z2.elim⟩⟩
end

/-! ### for -/
def fV (G : Hp → Prop) (g : TG) (tb : TS) (D : Ends) : List V → Sl → Hp → Prop
  | [], σ, H => G H ∧ D.nx σ H
  | x :: r, σ, H => G H ∧ g x σ H fun σ2 H2 => tb { D with nx := fV G g tb D r, ct := fV G g tb D r, bk := D.nx } σ2 H2
def fP (G : Hp → Prop) (g : TG) (tb : TS) (D : Ends) : List (V × V) → Sl → Hp → Prop
  | [], σ, H => G H ∧ D.nx σ H
  | x :: r, σ, H => G H ∧ ∀ T, H T = none → g (.ref T) σ (upd H T (.tup [x.1, x.2])) fun σ2 H2 => tb { D with nx := fP G g tb D r, ct := fP G g tb D r, bk := D.nx } σ2 H2
def mFor (wi : MI) (g : TG) (tb : TS) : TS := fun D σ H => wi σ H fun s H1 => match s with
  | .v G L => fV G g tb D L σ H1
  | .p G L => fP G g tb D L σ H1
theorem fV_G {G : Hp → Prop} {g : TG} {tb : TS} {D : Ends} {L : List V} {σ : Sl} {H : Hp} (h : fV G g tb D L σ H) : G H := by
  cases L <;> exact h.1
theorem fP_G {G : Hp → Prop} {g : TG} {tb : TS} {D : Ends} {L : List (V × V)} {σ : Sl} {H : Hp} (h : fP G g tb D L σ H) : G H := by
  cases L <;> exact h.1
theorem drop_at {α : Type} {L : List α} {i : Nat} {x : α} (h : L[i]? = some x) : L.drop i = x :: L.drop (i + 1) := by
  obtain ⟨hi, e⟩ := List.getElem?_eq_some_iff.mp h
  rw [← e]; exact List.drop_eq_getElem_cons hi
theorem ms_for {X : Cx} {tg iter : Expr} {body : List Stmt} {wi : MI} {g : TG} {tb : TS} {pos : Pos} (hp : PassesOwn (model X.prog X.w) X.A X.env X.xe) (hc : X.calm = true) (hi : PI X tg iter (toTI wi)) (hg : PG X tg g) (hb : PSs X body tb)
    (hs : ∀ x, foldedSetIterable iter X.env x = pure x := by intro _; rfl) : PS X (.For tg iter body [] pos) (mFor wi g tb) :=
  ps_imp (ps_for hp hc hi hg hb hs) fun D σ H q => ⟨_, q, fun s H1 J z f => by
    cases s with
    | v G L =>
      refine for_it f (fun i σ H => fV G g tb D (L.drop i) σ H) z (fun i σ H _ p => fV_G p) (fun i x σ H H' hi p y => ?_) (fun σ H p => ?_)
      · obtain ⟨e, hx⟩ := y
        subst e
        rw [drop_at hx] at p
        exact p.2
      · rw [List.drop_length] at p
        exact p.2
    | p G L =>
      refine for_it f (fun i σ H => fP G g tb D (L.drop i) σ H) z (fun i σ H _ p => fP_G p) (fun i x σ H H' hi p y => ?_) (fun σ H p => ?_)
      · obtain ⟨T, a, b, e1, e2, e3, e4, e5⟩ := y
        subst e1 e3
        have hx : L[i]? = some L[i] := List.getElem?_eq_getElem hi
        rw [drop_at hx] at p
        have q := p.2 T e2
        have e4' : L[i]?.map (·.1) = some a := e4
        have e5' : L[i]?.map (·.2) = some b := e5
        rw [hx] at e4' e5'
        cases e4'
        cases e5'
        exact q
      · rw [List.drop_length] at p
        exact p.2⟩
/-! ### comprehensions -/
def cV (G : Hp → Prop) (g : TG) (tt : TT) (te : TE) (vs : List Nat) (τ : Sl) (D : Addr) (Q : Hp → Prop) : List V → Hp → Prop
  | [], H => G H ∧ Q H
  | x :: r, H => G H ∧ g x τ H fun σ2 H2 => wipe σ2 vs = τ ∧ tt σ2 H2 fun b H3 => if b = true then te σ2 H3 fun y H4 => ∃ acc, H4 D = some (.lst acc) ∧ acc.length < sizeLine ∧ cV G g tt te vs τ D Q r (upd H4 D (.lst (acc ++ [y]))) else cV G g tt te vs τ D Q r H3
def cP (G : Hp → Prop) (g : TG) (tt : TT) (te : TE) (vs : List Nat) (τ : Sl) (D : Addr) (Q : Hp → Prop) : List (V × V) → Hp → Prop
  | [], H => G H ∧ Q H
  | x :: r, H => G H ∧ ∀ T, H T = none → g (.ref T) τ (upd H T (.tup [x.1, x.2])) fun σ2 H2 => wipe σ2 vs = τ ∧ tt σ2 H2 fun b H3 => if b = true then te σ2 H3 fun y H4 => ∃ acc, H4 D = some (.lst acc) ∧ acc.length < sizeLine ∧ cP G g tt te vs τ D Q r (upd H4 D (.lst (acc ++ [y]))) else cP G g tt te vs τ D Q r H3
def mLc (wi : MI) (g : TG) (tt : TT) (te : TE) (vs : List Nat) : TE := fun σ H Q => wi σ H fun s H1 => ∀ D, H1 D = none → match s with
  | .v G L => cV G g tt te vs (wipe σ vs) D (Q (.ref D)) L (upd H1 D (.lst []))
  | .p G L => cP G g tt te vs (wipe σ vs) D (Q (.ref D)) L (upd H1 D (.lst []))
theorem cV_G {G : Hp → Prop} {g : TG} {tt : TT} {te : TE} {vs : List Nat} {τ : Sl} {D : Addr} {Q : Hp → Prop} {L : List V} {H : Hp} (h : cV G g tt te vs τ D Q L H) : G H := by
  cases L <;> exact h.1
theorem cP_G {G : Hp → Prop} {g : TG} {tt : TT} {te : TE} {vs : List Nat} {τ : Sl} {D : Addr} {Q : Hp → Prop} {L : List (V × V)} {H : Hp} (h : cP G g tt te vs τ D Q L H) : G H := by
  cases L <;> exact h.1
theorem lc_toM {wi : MI} {g : TG} {tt : TT} {te : TE} {vs : List Nat} {σ : Sl} {H : Hp} {Q : VK} (q : mLc wi g tt te vs σ H Q) : tLc (toTI wi) g tt te vs σ H Q :=
  ⟨_, q, fun s H1 J z f D hD => by
    have z := z D hD
    cases s with
    | v G L =>
      refine lc_it f (fun i H => cV G g tt te vs (wipe σ vs) D (Q (.ref D)) (L.drop i) H) z (fun i H _ p => cV_G p) (fun i x H H' hi p y => ?_) (fun H p => ?_)
      · obtain ⟨e, hx⟩ := y
        subst e
        rw [drop_at hx] at p
        exact p.2
      · rw [List.drop_length] at p
        exact p.2
    | p G L =>
      refine lc_it f (fun i H => cP G g tt te vs (wipe σ vs) D (Q (.ref D)) (L.drop i) H) z (fun i H _ p => cP_G p) (fun i x H H' hi p y => ?_) (fun H p => ?_)
      · obtain ⟨T, a, b, e1, e2, e3, e4, e5⟩ := y
        subst e1 e3
        have hx : L[i]? = some L[i] := List.getElem?_eq_getElem hi
        rw [drop_at hx] at p
        have q := p.2 T e2
        have e4' : L[i]?.map (·.1) = some a := e4
        have e5' : L[i]?.map (·.2) = some b := e5
        rw [hx] at e4' e5'
        cases e4'
        cases e5'
        exact q
      · rw [List.drop_length] at p
        exact p.2⟩
section
variable {X : Cx}
theorem me_lc {elt tg iter : Expr} {ifs : List Expr} {scope : Scope} {own : List (Str × Nat)} {pos : Pos} {wi : MI} {g : TG} {tt : TT} {te : TE} (hc : X.calm = true) (hN : X.N.Nodup) (hi : PI X tg iter (toTI wi)) (ok : BlkOk X.N X.env.scope scope own)
    (hg : ∀ (s : Shared) (H : Hp) (C : Addr) (cl : List (Str × Addr)) (fp : List Addr), PG (X.blk s H scope (compEnvC scope cl C X.env) fp) tg g) (ht : ∀ (s : Shared) (H : Hp) (C : Addr) (cl : List (Str × Addr)) (fp : List Addr), PTs (X.blk s H scope (compEnvC scope cl C X.env) fp) ifs tt)
    (he : ∀ (s : Shared) (H : Hp) (C : Addr) (cl : List (Str × Addr)) (fp : List Addr), PE (X.blk s H scope (compEnvC scope cl C X.env) fp) elt te) (hs : ∀ x, foldedSetIterable iter X.env x = pure x := by intro _; rfl) :
    PE X (.ListComp elt [⟨tg, iter, ifs, 0⟩] scope pos) (mLc wi g tt te (own.map (·.2))) := pe_imp (pe_lc hc hN hi ok hg ht he hs) fun σ H Q q => lc_toM q
theorem ms_setLc {i : Nat} {y : Str} {py : Pos} {elt tg iter : Expr} {ifs : List Expr} {scope : Scope} {own : List (Str × Nat)} {pos spos : Pos} {wi : MI} {g : TG} {tt : TT} {te : TE} (hc : X.calm = true) (hN : X.N.Nodup) (hy : X.N[i]? = some y) (hyl : X.env.scope.names.lookup y = some .local)
    (hsw : swapsWith (.ListComp elt [⟨tg, iter, ifs, 0⟩] scope pos) (some (.Name y py)) spos.line X.env = pure true) (hi : PI X tg iter (toTI wi)) (ok : BlkOk X.N X.env.scope scope own)
    (hg : ∀ (s : Shared) (H : Hp) (C : Addr) (cl : List (Str × Addr)) (fp : List Addr), PG (X.blk s H scope (compEnvC scope cl C X.env) fp) tg g) (ht : ∀ (s : Shared) (H : Hp) (C : Addr) (cl : List (Str × Addr)) (fp : List Addr), PTs (X.blk s H scope (compEnvC scope cl C X.env) fp) ifs tt)
    (he : ∀ (s : Shared) (H : Hp) (C : Addr) (cl : List (Str × Addr)) (fp : List Addr), PE (X.blk s H scope (compEnvC scope cl C X.env) fp) elt te) (hs : ∀ x, foldedSetIterable iter X.env x = pure x := by intro _; rfl) :
    PS X (.Assign [.Name y py] (.ListComp elt [⟨tg, iter, ifs, 0⟩] scope pos) spos) (tAsg (mLc wi g tt te (own.map (·.2))) (gName i)) := ps_imp (ps_setLc hc hN hy hyl hsw hi ok hg ht he hs) fun D σ H q => lc_toM (Q := fun x H1 => gName i x σ H1 D.nx) q
end
/-! ### while -/
def whW (c : TT) (tb : TS) (D : Ends) : Nat → Sl → Hp → Prop
  | 0, _, _ => False
  | n + 1, σ, H => c σ H fun b H1 => if b = true then tb { D with nx := whW c tb D n, ct := whW c tb D n, bk := D.nx } σ H1 else D.nx σ H1
def mWhile (c : TT) (tb : TS) : TS := fun D σ H => ∃ n, whW c tb D n σ H
theorem ms_while {X : Cx} {c : Expr} {body : List Stmt} {tc : TT} {tb : TS} {pos : Pos} (hp : PassesOwn (model X.prog X.w) X.A X.env X.xe) (hc : PT X c tc) (hb : PSs X body tb) : PS X (.While c body [] pos) (mWhile tc tb) :=
  ps_imp (ps_while hp (pt_cl hc) hb) fun D σ H ⟨n, q⟩ => ⟨fun m σ H => whW tc tb D m σ H, ⟨n, q⟩, fun m σ H w => by
    cases m with
    | zero => exact w.elim
    | succ k =>
      refine ⟨_, w, fun b H1 z => ?_⟩
      cases b with
      | true => exact ⟨_, fun σ' H' y => ⟨k, Nat.lt_succ_self _, y⟩, z⟩
      | false => exact z⟩
end M

namespace M
open PySem PySem.Spec PyProof.Rows L2

/-! ### built-in functions -/
section
variable {X : Cx}
def mLen (K : PySem.W.Frag) : List V → Hp → VK → Prop := fun xs H Q => match xs with
  | [.str z] => z.length ≤ sizeLine ∧ Q (.int z.length) H
  | [.ref p] => ∃ ys, (SqL K H p ys ∨ SqT K H p ys) ∧ Q (.int ys.length) H
  | _ => False
theorem call_lenM : CallR X (.builtin "len") (mLen X.K) := callR_imp (call_len_seq.or call_len_str) fun xs H Q q => by
  unfold mLen at q
  split at q
  · exact .inr ⟨_, rfl, q⟩
  · obtain ⟨ys, h, q⟩ := q
    exact .inl ⟨_, ys, rfl, h, q⟩
  · exact q.elim
def mInt : List V → Hp → VK → Prop := fun xs H Q => match xs with
  | [.int i] => Q (.int i) H
  | [.bl k] => Q (.int (if k then 1 else 0)) H
  | _ => False
theorem call_intM : CallR X (.type "int") mInt := callR_imp call_int1 fun xs H Q q => by
  unfold mInt at q
  split at q
  · exact .inl ⟨_, rfl, q⟩
  · exact .inr ⟨_, rfl, q⟩
  · exact q.elim
def mStr : List V → Hp → VK → Prop := fun xs H Q => match xs with
  | [.str i] => Q (.str i) H
  | _ => False
theorem call_strM : CallR X (.type "str") mStr := callR_imp SkE.call_str_str fun xs H Q q => by
  unfold mStr at q
  split at q
  · exact ⟨_, rfl, q⟩
  · exact q.elim
def mMax : List V → Hp → VK → Prop := fun xs H Q => match xs with
  | [.int i, .int j] => Q (.int (max i j)) H
  | _ => False
theorem call_maxM (hc : X.calm = true) : CallR X (.builtin "max") mMax := callR_imp (call_max2 hc) fun xs H Q q => by
  unfold mMax at q
  split at q
  · rename_i i j
    refine ⟨i, j, rfl, ?_⟩
    have e : max i j = if j > i then j else i := by split <;> omega
    rw [← e]; exact q
  · exact q.elim
def mMin : List V → Hp → VK → Prop := fun xs H Q => match xs with
  | [.int i, .int j] => Q (.int (min i j)) H
  | _ => False
theorem call_minM (hc : X.calm = true) : CallR X (.builtin "min") mMin := callR_imp (call_min2 hc) fun xs H Q q => by
  unfold mMin at q
  split at q
  · rename_i i j
    refine ⟨i, j, rfl, ?_⟩
    have e : min i j = if j < i then j else i := by split <;> omega
    rw [← e]; exact q
  · exact q.elim
def mAbs : List V → Hp → VK → Prop := fun xs H Q => match xs with
  | [.int i] => Q (.int (i.natAbs : Int)) H
  | _ => False
theorem call_absM : CallR X (.builtin "abs") mAbs := callR_imp call_abs fun xs H Q q => by
  unfold mAbs at q
  split at q
  · rename_i i
    refine ⟨i, rfl, ?_⟩
    have e : (i.natAbs : Int) = if i < 0 then -i else i := by split <;> omega
    rw [← e]; exact q
  · exact q.elim
def mSum (K : PySem.W.Frag) : List V → Hp → VK → Prop := fun xs H Q => match xs with
  | [.ref a] => ∃ ns : List Int, SqL K H a (ns.map V.int) ∧ Q (.int ns.sum) H
  | _ => False
theorem call_sumM (hc : X.calm = true) : CallR X (.builtin "sum") (mSum X.K) := callR_imp (cr_sum hc) fun xs H Q q => by
  unfold mSum at q
  split at q
  · obtain ⟨ns, h, q⟩ := q
    exact ⟨_, ns, rfl, h, q⟩
  · exact q.elim
def mMaxL (K : PySem.W.Frag) : List V → Hp → VK → Prop := fun xs H Q => match xs with
  | [.ref a] => ∃ ns : List Int, SqL K H a (ns.map V.int) ∧ 0 < ns.length ∧ ∀ m, m ∈ ns → (∀ y, y ∈ ns → y ≤ m) → Q (.int m) H
  | _ => False
theorem call_maxLM (hc : X.calm = true) : CallR X (.builtin "max") (mMaxL X.K) := callR_imp (cr_max hc) fun xs H Q q => by
  unfold mMaxL at q
  split at q
  · obtain ⟨ns, h, q⟩ := q
    exact ⟨_, ns, rfl, h, q⟩
  · exact q.elim
def mMinL (K : PySem.W.Frag) : List V → Hp → VK → Prop := fun xs H Q => match xs with
  | [.ref a] => ∃ ns : List Int, SqL K H a (ns.map V.int) ∧ 0 < ns.length ∧ ∀ m, m ∈ ns → (∀ y, y ∈ ns → m ≤ y) → Q (.int m) H
  | _ => False
theorem call_minLM (hc : X.calm = true) : CallR X (.builtin "min") (mMinL X.K) := callR_imp (cr_min hc) fun xs H Q q => by
  unfold mMinL at q
  split at q
  · obtain ⟨ns, h, q⟩ := q
    exact ⟨_, ns, rfl, h, q⟩
  · exact q.elim
def mList (K : PySem.W.Frag) : List V → Hp → VK → Prop := fun xs H Q => match xs with
  | [.ref p] => ∃ ys, (SqL K H p ys ∨ SqT K H p ys) ∧ ∀ l, H l = none → Q (.ref l) (upd H l (.lst ys))
  | _ => False
theorem call_listM : CallR X (.type "list") (mList X.K) := callR_imp call_list_of fun xs H Q q => by
  unfold mList at q
  split at q
  · obtain ⟨ys, h, q⟩ := q
    exact ⟨_, ys, rfl, h, q⟩
  · exact q.elim
/-! isinstance(x, T) -/
def tyN : V → Option String
  | .str _ => some "str"
  | .int _ => some "int"
  | .bl _ => some "bool"
  | .non => some "NoneType"
  | _ => none
def mIsi (K : PySem.W.Frag) : List V → Hp → VK → Prop := fun xs H Q => match xs with
  | [x, .ty T] => match tyN x with
    | some n => (match kitB n T with
      | some b => Q (.bl b) H
      | none => False)
    | none => ∃ t b, TyX K H x t ∧ PySem.W.kitOne K t (.type T) = some b ∧ Q (.bl b) H
  | [x, .ref C] => ∃ t b, TyX K H x t ∧ PySem.W.kitOne K t (.ref C) = some b ∧ Q (.bl b) H
  | _ => False
theorem tyN_ok {K : PySem.W.Frag} {H : Hp} {x : V} {n : String} (h : tyN x = some n) : TyX K H x (.type n) := by
  cases x with
  | str z => cases h; exact .base (.str z)
  | int z => cases h; exact .base (.int z)
  | bl z => cases h; exact .base (.bl z)
  | non => cases h; exact .base .non
  | _ => cases h
theorem call_isiM : CallR X (.builtin "isinstance") (mIsi X.K) := callR_imp call_isi fun xs H Q q => by
  unfold mIsi at q
  split at q
  · rename_i x T
    cases e : tyN x with
    | some n =>
      rw [e] at q
      cases e2 : kitB n T with
      | none => simp only [e2] at q
      | some b => simp only [e2] at q; exact ⟨x, .ty T, _, _, b, rfl, .ty T, tyN_ok e, kit_ty e2, q⟩
    | none =>
      rw [e] at q
      obtain ⟨t, b, h1, h2, q⟩ := q
      exact ⟨x, .ty T, t, _, b, rfl, .ty T, h1, h2, q⟩
  · obtain ⟨t, b, h1, h2, q⟩ := q
    exact ⟨_, _, t, _, b, rfl, .own _, h1, h2, q⟩
  · exact q.elim
theorem kb1 : kitB "str" "str" = some true := by decide +kernel
theorem kb2 : kitB "str" "int" = some false := by decide +kernel
theorem kb3 : kitB "str" "bool" = some false := by decide +kernel
theorem kb4 : kitB "str" "list" = some false := by decide +kernel
theorem kb5 : kitB "str" "tuple" = some false := by decide +kernel
theorem kb6 : kitB "int" "str" = some false := by decide +kernel
theorem kb7 : kitB "int" "int" = some true := by decide +kernel
theorem kb8 : kitB "int" "bool" = some false := by decide +kernel
theorem kb9 : kitB "int" "list" = some false := by decide +kernel
theorem kb10 : kitB "int" "tuple" = some false := by decide +kernel
theorem kb11 : kitB "bool" "str" = some false := by decide +kernel
theorem kb12 : kitB "bool" "int" = some true := by decide +kernel
theorem kb13 : kitB "bool" "bool" = some true := by decide +kernel
theorem kb14 : kitB "bool" "list" = some false := by decide +kernel
theorem kb15 : kitB "bool" "tuple" = some false := by decide +kernel
theorem kb16 : kitB "NoneType" "str" = some false := by decide +kernel
theorem kb17 : kitB "NoneType" "int" = some false := by decide +kernel
theorem kb18 : kitB "NoneType" "bool" = some false := by decide +kernel
theorem kb19 : kitB "NoneType" "list" = some false := by decide +kernel
theorem kb20 : kitB "NoneType" "tuple" = some false := by decide +kernel
theorem tyX_list {K : PySem.W.Frag} {H : Hp} {a : Addr} {xs : List V} (h : SqL K H a xs) : TyX K H (.ref a) (.type "list") := by
  rcases h with h | ⟨o, its, n, h, c, _⟩
  · rcases h with h | ⟨o, h⟩
    · exact .base (.lst h)
    · exact .base (.frz h)
  · exact .kList h c
theorem tyX_tup {K : PySem.W.Frag} {H : Hp} {a : Addr} {xs : List V} (h : SqT K H a xs) : TyX K H (.ref a) (.type "tuple") := by
  rcases h with h | ⟨o, its, n, h, c, _⟩
  · rcases h with h | ⟨o, h⟩
    · exact .base (.tup h)
    · exact .fTuple h
  · exact .kTuple h c
theorem ki_list {K : PySem.W.Frag} : PySem.W.kitOne K (.type "list") (.type "str") = some false ∧ PySem.W.kitOne K (.type "list") (.type "int") = some false ∧ PySem.W.kitOne K (.type "list") (.type "bool") = some false ∧ PySem.W.kitOne K (.type "list") (.type "list") = some true ∧ PySem.W.kitOne K (.type "list") (.type "tuple") = some false :=
  ⟨kit_ty (by decide +kernel), kit_ty (by decide +kernel), kit_ty (by decide +kernel), kit_ty (by decide +kernel), kit_ty (by decide +kernel)⟩
theorem ki_tup {K : PySem.W.Frag} : PySem.W.kitOne K (.type "tuple") (.type "str") = some false ∧ PySem.W.kitOne K (.type "tuple") (.type "int") = some false ∧ PySem.W.kitOne K (.type "tuple") (.type "bool") = some false ∧ PySem.W.kitOne K (.type "tuple") (.type "list") = some false ∧ PySem.W.kitOne K (.type "tuple") (.type "tuple") = some true :=
  ⟨kit_ty (by decide +kernel), kit_ty (by decide +kernel), kit_ty (by decide +kernel), kit_ty (by decide +kernel), kit_ty (by decide +kernel)⟩
theorem ki_dict {K : PySem.W.Frag} : PySem.W.kitOne K (.type "dict") (.type "str") = some false ∧ PySem.W.kitOne K (.type "dict") (.type "int") = some false ∧ PySem.W.kitOne K (.type "dict") (.type "bool") = some false ∧ PySem.W.kitOne K (.type "dict") (.type "list") = some false ∧ PySem.W.kitOne K (.type "dict") (.type "tuple") = some false :=
  ⟨kit_ty (by decide +kernel), kit_ty (by decide +kernel), kit_ty (by decide +kernel), kit_ty (by decide +kernel), kit_ty (by decide +kernel)⟩
/-- a built-in class as a value -/
theorem me_ty {x : Str} (T : String) {pos : Pos} (hg : Gl X x) (hm : X.mg x = none) (hv : bootBuiltins x = some (.type T)) (hn : x ≠ "__name__" := by decide) (hd : (x == ("__debug__" : Str)) = false := by decide) : PE X (.Name x pos) (mC (.ty T)) := pe_bltn hg hm hv rfl hn hd
end

/-! ### methods of texts and lists -/
section
variable {X : Cx} {o e : Expr} {to te : TE} {apos pos : Pos}
def mBits (to : TE) : TE := fun σ H Q => to σ H fun x H1 => match x with
  | .int i => Q (.int (Builtin.Int.intBits i : Nat)) H1
  | _ => False
theorem me_bits (ho : PE X o to) (hbase : attributeBase o "bit_length" X.env (eval o X.env) = eval o X.env := by rfl) (hline : (apos.endLine == pos.line) = true := by rfl) : PE X (.Call (.Attribute o "bit_length" apos) [] [] pos) (mBits to) :=
  pe_imp (pe_bits (pe_cl ho) hbase hline) fun σ H Q q => ⟨_, q, fun x H1 z => by
    cases x with
    | int i => exact ⟨i, rfl, z⟩
    | _ => exact z.elim⟩
def mStrM (r : Str → V → Hp → VK → Prop) (to te : TE) : TE := fun σ H Q => to σ H fun x H1 => match x with
  | .str a => te σ H1 fun y H2 => r a y H2 Q
  | _ => False
theorem me_m1 {id : String} {name : Str} {r : Str → V → Hp → VK → Prop} (slot : Slot "str" name id) (ty : typeOf (.builtin id) = pure (.type "method_descriptor")) (rule : MtR X id (fun x xs H Q => ∃ a y, x = .str a ∧ xs = [y] ∧ r a y H Q)) (ho : PE X o to) (he : PE X e te)
    (hs : starEach [e] X.env = [(false, eval e X.env)] := by rfl) (hbase : attributeBase o name X.env (eval o X.env) = eval o X.env := by rfl) (hline : (apos.endLine == pos.line) = true := by rfl) :
    PE X (.Call (.Attribute o name apos) [e] [] pos) (mStrM r to te) :=
  pe_imp (pe_m1 slot ty rule (pe_cl ho) (pe_cl he) hs hbase hline) fun σ H Q q => ⟨_, q, fun x H1 z => by
    cases x with
    | str a => exact ⟨⟨a, rfl⟩, _, z, fun y H2 w => ⟨a, y, rfl, rfl, w⟩⟩
    | _ => exact z.elim⟩
def mJoin (K : PySem.W.Frag) : Str → V → Hp → VK → Prop := fun a y H Q => match y with
  | .ref p => ∃ ys : List Str, (SqL K H p (ys.map V.str) ∨ SqT K H p (ys.map V.str)) ∧ (ys.map (·.length)).sum + ys.length * a.length ≤ 16777216 ∧ Q (.str (Txt.join a ys)) H
  | _ => False
theorem mt_joinM : MtR X "str.join" (fun x xs H Q => ∃ a y, x = .str a ∧ xs = [y] ∧ mJoin X.K a y H Q) := fun pins s σ H x xs v us Q I rx rs ⟨a, y, e1, e2, q⟩ => by
  unfold mJoin at q
  split at q
  · obtain ⟨ys, h1, h2, q⟩ := q
    exact mt_join pins s σ H x xs v us Q I rx rs ⟨a, _, ys, e1, e2, h1, h2, q⟩
  · exact q.elim
def mCount : Str → V → Hp → VK → Prop := fun a y H Q => match y with
  | .str b => Q (.int (Txt.count a b)) H
  | _ => False
theorem mt_countM : MtR X "str.count" (fun x xs H Q => ∃ a y, x = .str a ∧ xs = [y] ∧ mCount a y H Q) := fun pins s σ H x xs v us Q I rx rs ⟨a, y, e1, e2, q⟩ => by
  unfold mCount at q
  split at q
  · exact mt_count pins s σ H x xs v us Q I rx rs ⟨a, _, e1, e2, q⟩
  · exact q.elim
def mSplit : Str → V → Hp → VK → Prop := fun a y H Q => match y with
  | .str b => (b.length == 0) = false ∧ a.length + 2 ≤ sizeLine ∧ ∀ p, H p = none → Q (.ref p) (upd H p (.lst ((Txt.split a b).map V.str)))
  | _ => False
theorem mt_splitM : MtR X "str.split" (fun x xs H Q => ∃ a y, x = .str a ∧ xs = [y] ∧ mSplit a y H Q) := fun pins s σ H x xs v us Q I rx rs ⟨a, y, e1, e2, q⟩ => by
  unfold mSplit at q
  split at q
  · exact mt_split pins s σ H x xs v us Q I rx rs ⟨a, _, e1, e2, q.1, q.2.1, q.2.2⟩
  · exact q.elim
theorem me_join (ho : PE X o to) (he : PE X e te) (hs : starEach [e] X.env = [(false, eval e X.env)] := by rfl) (hbase : attributeBase o "join" X.env (eval o X.env) = eval o X.env := by rfl) (hline : (apos.endLine == pos.line) = true := by rfl) :
    PE X (.Call (.Attribute o "join" apos) [e] [] pos) (mStrM (mJoin X.K) to te) := me_m1 PySem.F.slot_str_join PySem.F.type_str_join mt_joinM ho he hs hbase hline
theorem me_count (ho : PE X o to) (he : PE X e te) (hs : starEach [e] X.env = [(false, eval e X.env)] := by rfl) (hbase : attributeBase o "count" X.env (eval o X.env) = eval o X.env := by rfl) (hline : (apos.endLine == pos.line) = true := by rfl) :
    PE X (.Call (.Attribute o "count" apos) [e] [] pos) (mStrM mCount to te) := me_m1 PySem.F.slot_str_count PySem.F.type_str_count mt_countM ho he hs hbase hline
theorem me_split (ho : PE X o to) (he : PE X e te) (hs : starEach [e] X.env = [(false, eval e X.env)] := by rfl) (hbase : attributeBase o "split" X.env (eval o X.env) = eval o X.env := by rfl) (hline : (apos.endLine == pos.line) = true := by rfl) :
    PE X (.Call (.Attribute o "split" apos) [e] [] pos) (mStrM mSplit to te) := me_m1 PySem.F.slot_str_split PySem.F.type_str_split mt_splitM ho he hs hbase hline
/-- a list's method: the receiver a list that stands in H -/
def mLstM (r : Addr → List V → List V → Hp → VK → Prop) (to : TE) (t : TA) : TE := fun σ H Q => to σ H fun x H1 => match x with
  | .ref l => (∃ ys, H1 l = some (.lst ys)) ∧ t σ H1 fun vs H2 => ∃ xs, H2 l = some (.lst xs) ∧ r l xs vs H2 Q
  | _ => False
def mApp : Addr → List V → List V → Hp → VK → Prop := fun l xs vs H Q => match vs with
  | [y] => xs.length < sizeLine ∧ Q .non (upd H l (.lst (xs ++ [y])))
  | _ => False
def mPop : Addr → List V → List V → Hp → VK → Prop := fun l xs vs H Q => match vs with
  | [] => ∃ y, xs.getLast? = some y ∧ Q y (upd H l (.lst xs.dropLast))
  | _ => False
def mClear : Addr → List V → List V → Hp → VK → Prop := fun l xs vs H Q => match vs with
  | [] => Q .non (upd H l (.lst []))
  | _ => False
theorem me_append (ho : PE X o to) (he : PE X e te) (hbase : attributeBase o "append" X.env (eval o X.env) = eval o X.env := by rfl)
    (hfew : ((backTo pos (starEach [e] X.env)).all (fun x => !x.1) && (backToKw pos (keywordEach [] X.env)).all (fun x => x.1.isSome) && decide (([e] : List Expr).length + ([] : List Keyword).length + (if ([] : List Keyword).isEmpty then 0 else 1) < 30)) = true := by rfl)
    (hline : (apos.endLine == pos.line) = true := by rfl) (hs : starEach [e] X.env = (false, eval e X.env) :: starEach [] X.env := by rfl) (hplain : (backTo pos (starEach [] X.env)).any (·.1) = false := by rfl) :
    PE X (.Call (.Attribute o "append" apos) [e] [] pos) (mLstM mApp to (tCons te tNil)) :=
  pe_imp (pe_bm PySem.F.plainAttrs_list PySem.F.slot_list_append PySem.F.type_list_append mt_append (pe_cl ho) (pa_cons (pe_cl he) pa_nil hs) hbase hfew hline hs hplain) fun σ H Q q => ⟨_, q, fun x H1 z => by
    cases x with
    | ref l =>
      obtain ⟨⟨ys, h⟩, z⟩ := z
      exact ⟨.inl ⟨rfl, _, SqL.of h⟩, _, z, fun y H2 w => by
        obtain ⟨xs, h2, w⟩ := w
        exact ⟨l, xs, y, rfl, rfl, h2, w.1, w.2⟩⟩
    | _ => exact z.elim⟩
theorem last_at {α : Type} (xs : List α) : xs[xs.length - 1]? = xs.getLast? := by
  rw [List.getLast?_eq_getElem?]
theorem me_pop (ho : PE X o to) (hbase : attributeBase o "pop" X.env (eval o X.env) = eval o X.env := by rfl) (hline : (apos.endLine == pos.line) = true := by rfl) : PE X (.Call (.Attribute o "pop" apos) [] [] pos) (mLstM mPop to tNil) :=
  pe_imp (pe_bm0 PySem.F.plainAttrs_list PySem.F.slot_list_pop PySem.F.type_list_pop mt_pop (pe_cl ho) hbase hline) fun σ H Q q => ⟨_, q, fun x H1 z => by
    cases x with
    | ref l =>
      obtain ⟨⟨ys, h⟩, xs, h2, y, h3, z⟩ := z
      exact ⟨.inl ⟨rfl, _, SqL.of h⟩, l, xs, y, rfl, rfl, h2, by rw [last_at]; exact h3, z⟩
    | _ => exact z.elim⟩
theorem me_clear (ho : PE X o to) (hbase : attributeBase o "clear" X.env (eval o X.env) = eval o X.env := by rfl) (hline : (apos.endLine == pos.line) = true := by rfl) : PE X (.Call (.Attribute o "clear" apos) [] [] pos) (mLstM mClear to tNil) :=
  pe_imp (pe_bm0 PySem.F.plainAttrs_list PySem.F.slot_list_clear PySem.F.type_list_clear mt_clear (pe_cl ho) hbase hline) fun σ H Q q => ⟨_, q, fun x H1 z => by
    cases x with
    | ref l =>
      obtain ⟨⟨ys, h⟩, xs, h2, z⟩ := z
      exact ⟨.inl ⟨rfl, _, SqL.of h⟩, l, xs, rfl, rfl, h2, z⟩
    | _ => exact z.elim⟩
def mRev (K : PySem.W.Frag) (te : TE) : TE := fun σ H Q => te σ H fun x H1 => match x with
  | .ref a => ∃ xs, SqL K H1 a xs ∧ ∀ p, H1 p = none → Q (.ref p) (upd H1 p (.lst xs.reverse))
  | _ => False
theorem me_revL {k : Nat} {p1 p2 p3 pos : Pos} (he : PE X e te) : PE X (.Subscript e (.Slice none none (some (.UnaryOp .USub (.Constant (.int 1) k p1) p2)) p3) pos) (mRev X.K te) :=
  pe_imp (pe_revL (pe_cl he)) fun σ H Q q => ⟨_, q, fun x H1 z => by
    cases x with
    | ref a => obtain ⟨xs, h, z⟩ := z; exact ⟨a, xs, rfl, h, z⟩
    | _ => exact z.elim⟩
end

/-! ### heaps -/
/-- what stands at the addresses other than those of m stays -/
def Fm (m : List Addr) (H H' : Hp) : Prop := ∀ a o, a ∉ m → H a = some o → H' a = some o
abbrev Ex (H H' : Hp) : Prop := ∀ a o, H a = some o → H' a = some o
theorem Ex.refl (H : Hp) : Ex H H := fun _ _ h => h
theorem Ex.trans {H H1 H2 : Hp} (a : Ex H H1) (b : Ex H1 H2) : Ex H H2 := fun x o h => b x o (a x o h)
theorem Ex.new {H : Hp} {p : Addr} {o : HO} (h : H p = none) : Ex H (upd H p o) := fun a u e => by
  rw [upd_ne (ne_of_none e h)]; exact e
theorem Ex.push {H H' : Hp} {p : Addr} {o : HO} (e : Ex H H') (h : H' p = none) : Ex H (upd H' p o) := e.trans (Ex.new h)
/-- an object that H does not know may change -/
theorem Ex.mut {H H' : Hp} {p : Addr} {o : HO} (e : Ex H H') (h : H p = none) : Ex H (upd H' p o) := fun a u ha => by
  rw [upd_ne (ne_of_none ha h)]; exact e a u ha
theorem Ex.free {H H' : Hp} {p : Addr} (e : Ex H H') (h : H' p = none) : H p = none := by
  cases h1 : H p with
  | none => rfl
  | some o => rw [e p o h1] at h; cases h
theorem ex_rd {H H' : Hp} {a : Addr} {u : HO} (e : Ex H H') (h : Rd H a u) : Rd H' a u := by
  rcases h with h | ⟨o, h⟩
  · exact .inl (e a _ h)
  · exact .inr ⟨o, e a _ h⟩
theorem Ex.L {K : PySem.W.Frag} {H H' : Hp} {a : Addr} {xs : List V} (e : Ex H H') (h : SqL K H a xs) : SqL K H' a xs := by
  rcases h with h | h
  · exact .inl (ex_rd e h)
  · exact .inr h
theorem Ex.T {K : PySem.W.Frag} {H H' : Hp} {a : Addr} {xs : List V} (e : Ex H H') (h : SqT K H a xs) : SqT K H' a xs := by
  rcases h with h | h
  · exact .inl (ex_rd e h)
  · exact .inr h
theorem sz_of {n : Nat} (h : n ≤ 10000000) : n ≤ sizeLine := Nat.le_trans h (by decide)
theorem sz_lt {n : Nat} (h : n < 10000000) : n < sizeLine := Nat.lt_of_lt_of_le h (by decide)
end M

namespace M
open PySem PySem.Spec PyProof.Rows L2

/-! ### more of tests and assignments -/
section
variable {X : Cx} {a b c : Expr} {ta tb tc : TE} {pos : Pos}
/-- is None, is True, is False -/
def mIs : R2 := fun x y H Q => match y with
  | .non => Q (.bl (isN x)) H
  | .bl k => (match x with
    | .bl j => Q (.bl (decide (j = k))) H
    | _ => False)
  | _ => False
def mNot : R2 := fun x y H Q => match y with
  | .non => Q (.bl (!isN x)) H
  | .bl k => (match x with
    | .bl j => Q (.bl (!decide (j = k))) H
    | _ => False)
  | _ => False
theorem op_isM : OpR X (compareOp .Is) mIs := opR_imp (op_isN.or op_isBl) fun x y H Q q => by
  unfold mIs at q
  split at q
  · exact .inl ⟨rfl, by rw [isN_eq]; exact q⟩
  · split at q
    · exact .inr ⟨_, _, rfl, rfl, q⟩
    · exact q.elim
  · exact q.elim
theorem op_notM : OpR X (compareOp .IsNot) mNot := opR_imp (op_notN.or op_notBl) fun x y H Q q => by
  unfold mNot at q
  split at q
  · exact .inl ⟨rfl, by rw [isN_eq]; exact q⟩
  · split at q
    · exact .inr ⟨_, _, rfl, rfl, q⟩
    · exact q.elim
  · exact q.elim
/-- a < b <= c -/
theorem chain_cl {r r' : R2} {σ : Sl} {H : Hp} {Q : VK} (q : mChain r r' ta tb tc σ H Q) : tChain (clR r) r' (cl ta) (cl tb) tc σ H Q :=
  ⟨_, q, fun x H1 q1 => ⟨_, q1, fun y H2 q2 => ⟨_, q2, fun z H3 q3 => by
    cases z with
    | bl k => cases k <;> exact ⟨_, rfl, q3⟩
    | _ => exact q3.elim⟩⟩⟩
theorem me_chain {op op' : CmpOp} {r r' : R2} (ho : OpR X (compareOp op) r) (ho' : OpR X (compareOp op') r') (ha : PE X a ta) (hb : PE X b tb) (hc : PE X c tc)
    (hm : lastMarks [op, op'] [b, c] = false := by with_unfolding_all rfl) : PE X (.Compare a [op, op'] [b, c] pos) (mChain r r' ta tb tc) :=
  pe_imp (pe_chain (opR_cl ho) ho' (pe_cl ha) (pe_cl hb) hc hm) fun σ H Q q => chain_cl q
def mTestC (r r' : R2) (ta tb tc : TE) : TT := fun σ H Q => mChain r r' ta tb tc σ H fun x H' => match x with
  | .bl k => Q k H'
  | _ => False
theorem mt_chain {op op' : CmpOp} {r r' : R2} (ho : OpR X (compareOp op) r) (ho' : OpR X (compareOp op') r') (ha : PE X a ta) (hb : PE X b tb) (hc : PE X c tc)
    (hm : lastMarks [op, op'] [b, c] = false := by with_unfolding_all rfl) : PT X (.Compare a [op, op'] [b, c] pos) (mTest (mChain r r' ta tb tc)) :=
  pt_imp (pt_chain (opR_cl ho) (opR_cl ho') (pe_cl ha) (pe_cl hb) (pe_cl hc) hm) fun σ H Q q => ⟨_, q, fun x H1 q1 => ⟨_, q1, fun y H2 q2 => ⟨_, q2, fun z H3 q3 => by
    cases z with
    | bl k =>
      cases k with
      | true => exact ⟨true, rfl, _, q3, fun w H4 q4 => ⟨_, q4, fun v H5 q5 => bX_of q5⟩⟩
      | false => exact ⟨false, rfl, false, rfl, q3⟩
    | _ => exact q3.elim⟩⟩⟩
/-- a, b, c = x, y, z -/
def mPar3 (i j l : Nat) (ta : TA) : TS := fun D σ H => ta σ H fun vs H1 => match vs with
  | [u, v, w] => D.nx (((σ.set i (some u)).set j (some v)).set l (some w)) H1
  | _ => False
theorem ms_par3 {i j l : Nat} {x y z : Str} {a b c : Expr} {ta : TA} {px py pz pt pos : Pos} {kt k2 pt2} (hc : X.calm = true) (hN : X.N.Nodup) (hi : X.N[i]? = some x) (hj : X.N[j]? = some y) (hl : X.N[l]? = some z) (hij : i ≠ j) (hil : i ≠ l) (hjl : j ≠ l)
    (hx : X.env.scope.names.lookup x = some .local) (hy : X.env.scope.names.lookup y = some .local) (hz : X.env.scope.names.lookup z = some .local) (ha : PA X [a, b, c] ta)
    (hw : swappedStores [.Tuple [.Name x px, .Name y py, .Name z pz] kt pt] (.Tuple [a, b, c] k2 pt2) X.env = pure (some [x, y, z]))
    (hs : swapsWithSole [.Tuple [.Name x px, .Name y py, .Name z pz] kt pt] (.Tuple [a, b, c] k2 pt2) pos.line X.env = pure false := by rfl) :
    PS X (.Assign [.Tuple [.Name x px, .Name y py, .Name z pz] kt pt] (.Tuple [a, b, c] k2 pt2) pos) (mPar3 i j l ta) :=
  ps_imp (ps_par3 hc hN hi hj hl hij hil hjl hx hy hz (pa_cl ha) hw hs) fun D σ H q => ⟨_, q, fun vs H1 z => by
    split at z
    · exact ⟨_, _, _, rfl, z⟩
    · exact z.elim⟩
end

/-! ### a def that may be called: where it stands, its promise -/
structure Cal (P : Program) (w : World) (K : PySem.W.Frag) (mg : Str → Option Value) (base : Heap) (CX : CXT) (x : Str) (k : Nat) (ps : List Str) (dvs : List V) (sp : Sp) : Prop where
  ex : ∃ f fd ds, FnOk P w K mg base CX k f fd ps sp ∧ mg x = some (.ref f) ∧ PySem.W.keepIn K (.ref f) = true ∧ Binds K fd ps ds ∧ Vals dvs ds
section
variable {X : Cx} {CX : CXT} {k : Nat} {ps : List Str} {sp : Sp} {dvs : List V} {E : XK} {x : Str} {p pos : Pos} {e : Expr} {es : List Expr} {t : TA}
theorem me_call (C : Cal X.prog X.w X.K X.mg X.base CX x k ps dvs sp) (hr : Room k X.A) (hg : Gl X x) (hx : Passes CX X E) (ha : PA X (e :: es) t) (hdb : (x == ("__debug__" : Str)) = false := by decide)
    (he : starEach (e :: es) X.env = (false, eval e X.env) :: starEach es X.env := by rfl) (hpl : (backTo pos (starEach es X.env)).any (·.1) = false := by rfl) : PE X (.Call (.Name x p) (e :: es) [] pos) (tCall sp dvs E t) := by
  obtain ⟨f, fd, ds, F, hm, hk, hb, hd⟩ := C.ex
  exact pe_call F hr hg hm hk hb hd hx ha hdb he hpl
theorem me_call0 (C : Cal X.prog X.w X.K X.mg X.base CX x k ps dvs sp) (hr : Room k X.A) (hg : Gl X x) (hx : Passes CX X E) (hdb : (x == ("__debug__" : Str)) = false := by decide) : PE X (.Call (.Name x p) [] [] pos) (tCall sp dvs E tNil) := by
  obtain ⟨f, fd, ds, F, hm, hk, hb, hd⟩ := C.ex
  first
    | exact pe_call0 F hr hg hm hk hb hd hx hdb
    | exact pe_call0 F hr hg hm hk hb hd hx
end
section
variable {P : Program} {w : World} {K : PySem.W.Frag} {mg : Str → Option Value} {base : Heap} {CX : CXT} {x : Str} {k j : Nat} {ps : List Str} {dvs : List V} {sp sp' : Sp}
theorem Cal.mono (C : Cal P w K mg base CX x k ps dvs sp) (h : k ≤ j) : Cal P w K mg base CX x j ps dvs sp := by
  obtain ⟨f, fd, ds, F, r⟩ := C.ex
  exact ⟨f, fd, ds, F.mono h, r⟩
theorem Cal.imp (C : Cal P w K mg base CX x k ps dvs sp) (h : ∀ vs H Q E, sp' vs H Q E → sp vs H Q E) : Cal P w K mg base CX x k ps dvs sp' := by
  obtain ⟨f, fd, ds, F, r⟩ := C.ex
  exact ⟨f, fd, ds, F.imp h, r⟩
/-- nothing can be asked with no call left -/
theorem FnOk.zero {f : Addr} {fd : FuncData} {sp : Sp} (no : ∀ vs H Q E, ¬ sp vs H Q E) : FnOk P w K mg base CX 0 f fd ps sp :=
  ⟨fun vs H Q E h => absurd h (no vs H Q E), fun A outer s H args us vs Q E _ _ _ _ h => absurd h (no vs H Q E)⟩
end
end M

namespace M
open PySem PySem.Spec PyProof.Rows L2

/-! ### x in (a, b, ..), written -/
def flB : V → Bool
  | .str _ => true
  | .int _ => true
  | .bl _ => true
  | .non => true
  | _ => false
theorem flB_ok {v : V} (h : flB v = true) : flatV v = true := by cases v <;> first | rfl | cases h
def mInT (neg : Bool) (te : TE) (ta : TA) : TE := fun σ H Q => te σ H fun x H1 => ta σ H1 fun ys H2 => flB x = true ∧ ys.all flB = true ∧ ys.length ≤ sizeLine ∧ ∀ p, H2 p = none → Q (.bl (if neg then !inV x ys else inV x ys)) (upd H2 p (.tup ys))
def mInTT (neg : Bool) (te : TE) (ta : TA) : TT := fun σ H Q => te σ H fun x H1 => ta σ H1 fun ys H2 => flB x = true ∧ ys.all flB = true ∧ ys.length ≤ sizeLine ∧ ∀ p, H2 p = none → Q (if neg then !inV x ys else inV x ys) (upd H2 p (.tup ys))
section
variable {X : Cx} {a : Expr} {es : List Expr} {ta : TE} {t : TA} {pos ps : Pos} {kk : Nat}
theorem all_fl {ys : List V} (h : ys.all flB = true) : ys.all flatV = true := by
  rw [List.all_eq_true] at *
  exact fun v hv => flB_ok (h v hv)
theorem inT_at {K : PySem.W.Frag} {x : V} {ys : List V} {H2 : Hp} {p : Addr} {neg : Bool} {Q : VK} (h1 : flB x = true) (h2 : ys.all flB = true) (q : Q (.bl (if neg then !inV x ys else inV x ys)) (upd H2 p (.tup ys))) : rIn K neg x (.ref p) (upd H2 p (.tup ys)) Q :=
  ⟨p, ys, rfl, .inr (SqT.of upd_same), flB_ok h1, all_fl h2, q⟩
theorem me_inT (ha : PE X a ta) (hb : PA X es t) (hm : behindInMarks .In (.Tuple es kk ps) = false := by rfl) : PE X (.Compare a [.In] [.Tuple es kk ps] pos) (mInT false ta t) :=
  pe_imp (pe_cmpR op_in_seq (pe_cl ha) (pe_tup (pa_cl hb)) hm) fun σ H Q q => ⟨_, q, fun x H1 q1 => ⟨_, q1, fun ys H2 ⟨h1, h2, h3, q2⟩ => ⟨h3, fun p hp => inT_at h1 h2 (q2 p hp)⟩⟩⟩
theorem me_ninT (ha : PE X a ta) (hb : PA X es t) (hm : behindInMarks .NotIn (.Tuple es kk ps) = false := by rfl) : PE X (.Compare a [.NotIn] [.Tuple es kk ps] pos) (mInT true ta t) :=
  pe_imp (pe_cmpR op_notIn_seq (pe_cl ha) (pe_tup (pa_cl hb)) hm) fun σ H Q q => ⟨_, q, fun x H1 q1 => ⟨_, q1, fun ys H2 ⟨h1, h2, h3, q2⟩ => ⟨h3, fun p hp => inT_at h1 h2 (q2 p hp)⟩⟩⟩
theorem mt_inT (ha : PE X a ta) (hb : PA X es t) (hm : behindInMarks .In (.Tuple es kk ps) = false := by rfl) : PT X (.Compare a [.In] [.Tuple es kk ps] pos) (mInTT false ta t) :=
  pt_imp (pt_cmpR op_in_seq (pe_cl ha) (pe_tup (pa_cl hb)) hm) fun σ H Q q => ⟨_, q, fun x H1 q1 => ⟨_, q1, fun ys H2 ⟨h1, h2, h3, q2⟩ => ⟨h3, fun p hp => inT_at h1 h2 ⟨_, rfl, q2 p hp⟩⟩⟩⟩
theorem mt_ninT (ha : PE X a ta) (hb : PA X es t) (hm : behindInMarks .NotIn (.Tuple es kk ps) = false := by rfl) : PT X (.Compare a [.NotIn] [.Tuple es kk ps] pos) (mInTT true ta t) :=
  pt_imp (pt_cmpR op_notIn_seq (pe_cl ha) (pe_tup (pa_cl hb)) hm) fun σ H Q q => ⟨_, q, fun x H1 q1 => ⟨_, q1, fun ys H2 ⟨h1, h2, h3, q2⟩ => ⟨h3, fun p hp => inT_at h1 h2 ⟨_, rfl, q2 p hp⟩⟩⟩⟩
end
theorem inV_nil (x : V) : inV x [] = false := rfl
theorem inV_cons (x y : V) (r : List V) : inV x (y :: r) = (eqV y x || inV x r) := rfl
theorem eqV_SS (a b : List Nat) : eqV (.str (S a)) (.str (S b)) = decide (a = b) := by
  show decide (S a = S b) = _
  by_cases h : a = b
  · subst h; simp
  · have : ¬ S a = S b := fun z => h (S_inj.mp z)
    simp [h, this]
theorem eqV_II (a b : Int) : eqV (.int a) (.int b) = decide (a = b) := by
  show (_ : Bool) = _
  first | rfl | simp [eqV]
end M

/-! ### own errors: class C(TurnError) with __init__(self, fl=None): super().__init__(fl); self.fl = fl -/
namespace M
open PySem PySem.Spec PySem.W PySem.Calls PyProof.Rows PySem.HandSPX
def qp (q : List Pos) (i : Nat) : Pos := q.getD i ⟨0, 0, 0, 0⟩
def eiB (fl : Str) (q : List Pos) : List Stmt := [.Expr (.Call (.Attribute (.Call (.Name "super" (qp q 0)) [] [] (qp q 1)) "__init__" (qp q 2)) [.Name fl (qp q 3)] [] (qp q 4)) (qp q 5), .Assign [.Attribute (.Name "self" (qp q 6)) fl (qp q 7)] (.Name fl (qp q 8)) (qp q 9)]
section
variable {P : Program} {w : World} {A : Around} {E : Value → Shared → Prop} {h : Heap} {g : Array GenState} {d : Drawn} {t : Nat} {os : OsState}
variable {nm q : Str} {C N : Addr} {bs bm : List Value} {hdct : Bool} {sn : List Str} {sub : List Value} {ab : Bool} {col : Option Bool} {dd : Option Addr} {k0 k1 k2 k3 k5 : Option Value}
theorem call_mw {u e t0 : Addr} {rest : List Value} {Q : Value → Shared → Prop}
    (hC : h.get? C = some (excClassObj nm q C N bs bm hdct sn sub ab col dd k0 k1 k2 k3 k5 "ValueError.__new__")) (he : h.get? e = some (HandSPX.excO C t0)) (hu : h.get? u = some (kxs_mw "ValueError.__init__" e)) (hrest : rest.length ≤ sizeLine)
    (hq : ∀ h' t1, (∀ b o, b ≠ e → h.get? b = some o → h'.get? b = some o) → h'.get? e = some (HandSPX.excO C t1) → Q .none ⟨h', g, d, t, os⟩) :
    wpAny (model P w) A (call (.ref u) rest) Q E ⟨h, g, d, t, os⟩ := by
  refine wpAny_call (codeAny_of_tree ?_)
  show wpAny _ A.in1 (callAny (.ref u) ⟨rest, []⟩) _ _ _
  simp only [callAny]
  refine wpAny_bind (wpAny_load hu ?_)
  simp only [kxs_mw, show (Value.type "method-wrapper" == Value.type "method" || Value.type "method-wrapper" == Value.type "builtin_function_or_method" || Value.type "method-wrapper" == Value.type "method-wrapper") = true by decide, if_true]
  refine W.KFB.if_so (by decide) ?_
  refine wpAny_bind (check_bound_init F.excBase_ValueError.toExcCallFacts hC he rfl ?_)
  refine wpAny_bind (wpAny_pure (wpAny_pure ?_))
  refine ⟨plainId_quiet F.excBase_ValueError.init.plain _, codeAny_builtin F.excBase_ValueError.initEntry ?_⟩
  exact exc_init_tree (cls := .ref C) (t0 := t0) (dv := none) (c2 := .none) (c3 := .none) (b4 := .bool false) he hrest fun h' k e' _ => hq h' _ k e'
end
theorem cw_one {Mo : Model} {A : Around} {E : Value → Shared → Prop} {s : Shared} {i : String} {u x : Addr} {pos : Pos} {env : Env} {e : Expr} {Q : Value → Shared → Prop}
    (h : wpAny Mo A (spliced (backTo pos (starEach [e] env))) (fun vs s₁ => KxsAt i u x s₁.heap ∧ wpAny Mo A (call (.ref u) vs) Q E s₁) E s)
    (he : starEach [e] env = (false, eval e env) :: starEach [] env := by rfl) : wpAny Mo A (callWith pos (.ref u) [] (backTo pos (starEach [e] env)) []) Q E s := by
  rw [he] at h ⊢
  exact kxs_callWith (i := i) (x := x) rfl (evalArgs_plain h)
theorem ve_slot : bootBuiltins "super" = some (.type "super") := by decide +kernel
section
variable {P : Program} {w : World} {A : Around} {R : Result → Shared → Prop} {s : Shared} {K : Frag} {mg mb : Str → Option Value} {C fI cda cc : Addr} {fl qual : Str} {sc : Scope} {params : Arguments} {q : List Pos}
  {oc dV kV doc pm ct : Value} {od an : Option Addr} {osl : Array (Option Value)} {ar : Arg}
theorem ini_run {args : Args} {x t0 : Addr} {v : Value} (X : K.In s.heap) (hlim : s.heap.NoLimit) (G : s.heap.Ns mainGlobals mg) (B : s.heap.Ns builtinsNs mb) (gs : mg "super" = none) (bs : mb "super" = some (.type "super")) (T : L2.OexC K C) (nf : findIn K (.ref C) fl = some none)
    (ho : K.lookup fI = some ⟨oc, od, .func (ksFn "__init__" qual params (eiB fl q) sc dV kV doc pm an (.ref cda) ct cc), osl⟩) (hcd : codeIn K (.ref cda) qual = true)
    (hcode : ∃ (ccl : Value) (cdd : Option Addr) (vs : Array Value) (ccs : Array (Option Value)) (file : Str) (tf : Tok), K.lookup cda = some ⟨ccl, cdd, .fields vs, ccs⟩ ∧ vs[2]? = some (.str file tf) ∧ ((P.main.file : Str) == file) = true)
    (hcell : ∃ (cl : Value) (cld : Option Addr) (csl : Array (Option Value)), K.lookup cc = some ⟨cl, cld, .cell (some (.ref C)), csl⟩)
    (hp : (params.posonlyargs ++ params.args).head? = some ar) (har : ar.arg = "self") (hsf : fl ≠ "self") (hdf : (fl == ("__debug__" : Str)) = false)
    (k1 : sc.kind = .function) (k2 : sc.isGenerator = false) (k3 : sc.isCoroutine = false) (k4 : sc.names.lookup ("self" : Str) = some .local) (k5 : sc.names.lookup fl = some .local) (k6 : sc.names.lookup ("super" : Str) = some .globalImplicit)
    (k7 : sc.names.lookup ("__class__" : Str) = some .free) (k8 : ∀ x ∈ sc.names, x.2 ≠ .cell)
    (htop : (P.main.scope.names.lookup ("super" : Str)).isSome = false) (hop : nsIn K cStatics "thirdparty.any" = some none) (sup : ks_superIn K C C "__init__" = some (some (.builtin "ValueError.__init__")))
    (hmro : mroIn K C (.ref C) = some true) (hsub : subIn K (.ref C) (.type "ValueError") = some true)
    (hint : ∀ env : Env, env.scope = sc → interactive env = false)
    (hev : ∀ env : Env, env.scope = sc → ∃ pl : Sem Bool, eval (.Call (.Attribute (.Call (.Name "super" (qp q 0)) [] [] (qp q 1)) "__init__" (qp q 2)) [.Name fl (qp q 3)] [] (qp q 4)) env = (do
      let ov ← attributeBase (.Call (.Name "super" (qp q 0)) [] [] (qp q 1)) "__init__" env (eval (.Call (.Name "super" (qp q 0)) [] [] (qp q 1)) env)
      standAt (qp q 2).atName
      let (f, first) ← holding [ov] (getMethod ov "__init__" pl)
      callWith (qp q 4) f first (backTo (qp q 4) (starEach [.Name fl (qp q 3)] env)) []))
    (hsw : ∀ env : Env, env.scope = sc → swapsWith (.Name fl (qp q 8)) (some (.Attribute (.Name "self" (qp q 6)) fl (qp q 7))) (qp q 9).line env = pure false)
    (hx : s.heap.get? x = some (excO C t0)) (hnx : K.lookup x = none) (hroom : A.depth < recursionLimit) (bind : BindsTo s (ksFn "__init__" qual params (eiB fl q) sc dV kV doc pm an (.ref cda) ct cc) args [("self", .ref x), (fl, v)])
    (hq : ∀ h' tk dx t1, (∀ b o, b ≠ x → s.heap.get? b = some o → h'.get? b = some o) → h'.get? x = some { cls := .ref C, dict := some dx, data := .fields #[.ref t1, .none, .none, .none, .bool false, .none] } → s.heap.objs.size ≤ dx → dx ≠ x →
      h'.Ns1 dx (fun y => if y = fl then some v else none) → R (.ok (.ret .none)) { s with heap := h', toks := tk }) :
    codeAny (model P w) A (.call (.ref fI) args) R s := by
  obtain ⟨nm, q', N, bs', bm, sn, sub, ab, col, dd, z0, z1, z2, z3, z5, hC, hbm⟩ := T.cls
  have hcl : clsIn K C = some { name := nm, bases := bs', mro := .ref C :: bm, ns := N, qualname := q', hasDict := true, slotNames := sn, subclasses := sub, abstract := ab, collection := col, hasDel := false } := by unfold clsIn; rw [hC] <;> rfl
  obtain ⟨ccl, cdd, vs, ccs, file, tf, hcode, hvs, hfile⟩ := hcode
  obtain ⟨cl, cld, csl, hcell⟩ := hcell
  refine ks_codeAny_call_defAt (fd := ksFn "__init__" qual params (eiB fl q) sc dV kV doc pm an (.ref cda) ct cc) (body := eiB fl q) (binds := [("self", .ref x), (fl, v)]) hroom (X _ _ ho) rfl hlim (codeRec_of X hcd) rfl bind k8
    (fun y hy => ?_) (fun h₁ hns hk₁ => ?_) k3 k2 k1
  · rcases List.mem_cons.mp hy with rfl | hy
    · exact k4
    rcases List.mem_cons.mp hy with rfl | hy
    · exact k5
    cases hy
  have hxL : s.heap.objs.size ≠ x := Nat.ne_of_gt (Heap.lt_size hx)
  have X₁ : K.In h₁ := X.keeps hk₁
  have hx₁ := hk₁ _ _ hx
  have mself : (fun x_1 => ([("self", .ref x), (fl, v)] : List (Str × Value)).reverse.lookup x_1) "self" = some (.ref x) := by
    have : (("self" : Str) == fl) = false := by simpa using fun z => hsf z.symm
    simp [List.lookup, this]
  have mfl : (fun x_1 => ([("self", .ref x), (fl, v)] : List (Str × Value)).reverse.lookup x_1) fl = some v := by
    simp [List.lookup]
  generalize hm : (fun x_1 => ([("self", .ref x), (fl, v)] : List (Str × Value)).reverse.lookup x_1) = m at hns mself mfl
  obtain ⟨hp0, g, dr, tk, os⟩ := s
  have I₁ : W.InstAt h₁ x (excO C t0) C none := ⟨hx₁, rfl, rfl, trivial⟩
  obtain ⟨oD, hD1, hD2⟩ : ∃ oD, h₁.get? C = some oD ∧ oD.data = .cls { name := nm, bases := bs', mro := .ref C :: bm, ns := N, qualname := q', hasDict := true, slotNames := sn, subclasses := sub, abstract := ab, collection := col, hasDel := false } := ⟨_, X₁ _ _ hC, rfl⟩
  have nk : ∀ {b : Addr} {o : Obj}, K.lookup b = some o → b ≠ x := fun e z => by rw [z, hnx] at e; cases e
  obtain ⟨pl, hev⟩ := hev (callEnv (ksFn "__init__" qual params (eiB fl q) sc dV kV doc pm an (.ref cda) ct cc) hp0.objs.size fI) rfl
  refine ks_wpAt_execs_cons (ks_wpAt_Expr_any (hi := hint _ rfl) (ks_wpAt_MethodCall (he := hev) ?_))
  refine ks_wpAt_super_base (env := callEnv (ksFn "__init__" qual params (eiB fl q) sc dV kV doc pm an (.ref cda) ct cc) hp0.objs.size fI) k6 k7 (by decide) rfl (X₁ _ _ ho) rfl hp rfl (X₁ _ _ hcode) rfl hvs hfile htop ?_
  refine ks_loadName_global k1 k6 (loadGlobal_builtin (G.keeps hk₁) gs (B.keeps hk₁) bs ⟨rfl, ?_⟩)
  refine wpAny_loadName_free k1 k7 rfl ⟨_, X₁ _ _ hcell, rfl⟩ ?_
  rw [har]
  refine wpAny_loadName_local k1 k4 hns mself ?_
  refine ks_wpAny_isType_cls hD1 hD2 ⟨rfl, ?_⟩
  refine ks_wpAny_call_super hD1 hD2 I₁.at_ I₁.cls (fun c e => by cases e) (looks_mroIn X₁ hmro) (fun h2 e2 kk2 => ?_)
  have X2 : K.In h2 := X₁.keeps kk2
  have hI2 : W.Looks (model P w) h2 (isInstance (.ref x) (.type "ValueError")) true := (show W.InstAt h2 x (excO C t0) C none from ⟨kk2 _ _ hx₁, rfl, rfl, trivial⟩).type.andThen (looks_subIn X2 hsub)
  have hxC : x ≠ C := fun z => by
    rw [← z, hx₁] at hD1
    cases hD1
    cases hD2
  have supA : alongIn K "__init__" (((.ref C :: bm).dropWhile (· != .ref C)).drop 1) = some (some (.builtin "ValueError.__init__")) := by
    have z := sup
    unfold ks_superIn at z
    rw [hcl] at z
    exact z
  refine kxs_getMethod kxs_ValueError e2 (looks_opaque X2 hop) (l₀ := .ref C :: bm) (fun A Q E s k q => wpAny_bind ((looks_clsIn X2 hcl) A _ E s k (wpAny_pure q))) rfl X2 supA hI2 hxC (by decide) ?_
  have kk3 : ∀ b o, h2.get? b = some o → (h2.push (kxs_mw "ValueError.__init__" x)).get? b = some o := fun b o e => Heap.get?_push_of_some _ e
  have hu : (h2.push (kxs_mw "ValueError.__init__" x)).get? h2.objs.size = some (kxs_mw "ValueError.__init__" x) := Heap.get?_push_size _ rfl
  refine cw_one (i := "ValueError.__init__") (x := x) (spliced_more ?_ rfl) rfl
  refine wpAny_Name (wpAny_loadName_local k1 k5 ((hns.keeps kk2).keeps kk3) mfl ?_) hdf
  refine spliced_none ⟨hu, ?_⟩
  refine call_mw (hC := kk3 _ _ (kk2 _ _ (X₁ _ _ hC))) (he := kk3 _ _ (kk2 _ _ hx₁)) hu (by show 1 ≤ sizeLine; rw [sizeLine_eq]; omega) (fun h4 t1 kk4 hx4 => ?_)
  have nx : ∀ {b : Addr} {o : Obj}, h₁.get? b = some o → b ≠ x → h4.get? b = some o := fun {b o} e n => kk4 b o n (kk3 _ _ (kk2 _ _ e))
  have X4 : K.In h4 := fun a o e => nx (X₁ _ _ e) (nk e)
  have hns4 : h4.Ns hp0.objs.size m := hns.at fun o e => nx e hxL
  refine wpAt_of_wpAny (wpAny_execs_cons (plainObj_wpAny_Assign_Attribute (hs := hsw _ rfl) ?_))
  refine wpAny_Name (wpAny_loadName_local k1 k5 hns4 mfl ?_) hdf
  refine wpAny_Name (wpAny_loadName_local k1 k4 hns4 mself ?_) (by decide)
  refine set_plain X4 (ox := excO C t1) (od := none) ⟨hx4, rfl, rfl, trivial⟩ T.sa ?_
  refine exc_osa X4 hx4 hcl (show refsVE (.ref C :: bm) = true from hbm) rfl nf (fun h5 tk5 dx k₅ dn dne hx5 hn5 => ?_)
  show wpAny _ _ (execs _ _) _ _ _
  have z : hp0.objs.size < h₁.objs.size := hns.lt
  have z4 : hp0.objs.size < h4.objs.size := hns4.lt
  exact wpAny_execs_nil (hq h5 tk5 dx t1 (fun b o hb e => k₅ b o hb (nx (hk₁ b o e) hb)) hx5 (Nat.le_of_lt (Nat.lt_of_lt_of_le z4 dn)) dne hn5)
end
end M

/-! ### own errors: raised, made -/
namespace M
open PySem PySem.Spec PyProof.Rows L2 PySem.HandSPX
/-- the run of C's __init__ -/
def IniRun (P : Program) (w : World) (K : PySem.W.Frag) (mg : Str → Option Value) (fl : Str) (C fI : Addr) (fd : FuncData) : Prop :=
  ∀ {A : Around} {R : Result → Shared → Prop} {s : Shared} {args : Args} {x t0 : Addr} {v : Value}, K.In s.heap → s.heap.NoLimit → s.heap.Ns mainGlobals mg → (∃ mb, s.heap.Ns builtinsNs mb ∧ ∀ x : Str, x ≠ "__name__" → mb x = bootBuiltins x) →
    s.heap.get? x = some (excO C t0) → K.lookup x = none → A.depth < recursionLimit → BindsTo s fd args [("self", .ref x), (fl, v)] →
    (∀ h' tk dx t1, (∀ b o, b ≠ x → s.heap.get? b = some o → h'.get? b = some o) → h'.get? x = some { cls := .ref C, dict := some dx, data := .fields #[.ref t1, .none, .none, .none, .bool false, .none] } → s.heap.objs.size ≤ dx → dx ≠ x →
      h'.Ns1 dx (fun y => if y = fl then some v else none) → R (.ok (.ret .none)) { s with heap := h', toks := tk }) → codeAny (model P w) A (.call (.ref fI) args) R s
structure ExcAt (P : Program) (w : World) (K : PySem.W.Frag) (mg : Str → Option Value) (x fl : Str) (C : Addr) : Prop where
  gC : mg x = some (.ref C)
  T : OexC K C
  ga : PySem.W.findIn K (.ref C) "__getattribute__" = some (some (.builtin "BaseException.__getattribute__"))
  gg : PySem.W.findIn K (.ref C) "__getattr__" = some none
  nf : PySem.W.findIn K (.ref C) fl = some none
  hd : PySem.W.hasDictIn K C = true
  init : ∃ (fI : Addr) (fd : FuncData), PySem.W.findIn K (.ref C) "__init__" = some (some (.ref fI)) ∧ PySem.W.typeIn K (.ref fI) = some (.type "function") ∧ IniRun P w K mg fl C fI fd ∧
    (∀ (s : Shared) (u v : Value), K.In s.heap → BindsTo s fd ⟨[u, v], []⟩ [("self", u), (fl, v)]) ∧ (∀ (s : Shared) (u : Value), K.In s.heap → BindsTo s fd ⟨[u], []⟩ [("self", u), (fl, .none)]) ∧
    (∀ (s : Shared) (u v : Value), K.In s.heap → BindsTo s fd ⟨[u], [(fl, v)]⟩ [("self", u), (fl, v)])
theorem relO_one {fl : Str} {v : V} {v' : Value} (r : RelV v v') (f : Str) : RelO (List.lookup f [(fl, v)]) (if f = fl then some v' else none) := relO_put (fs := []) (mA := fun _ => none) r (fun _ => trivial) f
section
variable {X : Cx} {C : Addr} {x fl : Str}
/-- a made one, seen from the caller -/
theorem mk_seen {pins : List (Addr × Obj)} {σ : L2.St} {H1 : Hp} {Q : XK} {hp h' : Heap} {g : Array GenState} {dr : Drawn} {tk tk' : Nat} {os : OsState} {e d t1 : Addr} {v : V} {v' : Value} (T : OexC X.K C) (I1 : Inv X pins σ H1 ⟨hp, g, dr, tk, os⟩)
    (keep : ∀ b o, hp.get? b = some o → h'.get? b = some o) (new : hp.objs.size ≤ e) (hx : h'.get? e = some { cls := .ref C, dict := some d, data := .fields #[.ref t1, .none, .none, .none, .bool false, .none] }) (db : hp.objs.size ≤ d) (dne : d ≠ e)
    (ns : h'.Ns1 d (fun y => if y = fl then some v' else none)) (rv : RelV v v') (q : Q (.ref C) (some d) (upd H1 d (.xd [(fl, v)]))) : MkP X pins σ Q (.ref e) ⟨h', g, dr, tk', os⟩ := by
  obtain ⟨G', g1, g2⟩ := restrict h' fun b => decide (b ≠ e)
  have gk : ∀ b, b ≠ e → G'.get? b = h'.get? b := fun b hb => g1 b (decide_eq_true hb)
  have ge : G'.get? e = none := g2 e (by simp)
  have old : ∀ b o, hp.get? b = some o → G'.get? b = some o := fun b o q => (gk b (Nat.ne_of_lt (Nat.lt_of_lt_of_le (Heap.lt_size q) new))).trans (keep b o q)
  have ob : ObjOk X.prog X.w (upd H1 d (.xd [(fl, v)])) G' d (.xd [(fl, v)]) := ⟨_, ns.at (fun o q => (gk d dne).trans q), fun f => relO_one rv f⟩
  have J : Inv X pins σ (upd H1 d (.xd [(fl, v)])) ⟨G', g, dr, tk', os⟩ := I1.laid (t' := tk') old db ob
  refine ⟨e, _, _, ⟨G', g, dr, tk', os⟩, _, .ref C, some d, rfl, J, fun b o q => ?_, ge, hx, ⟨rfl, rfl⟩, rfl, rfl, ?_, rfl, I1.bare, raises_own T.exC T.tyC, q⟩
  · by_cases hb : b = e
    · have q' : G'.get? b = some o := q
      rw [hb, ge] at q'; cases q'
    · exact (gk b hb).symm.trans q
  · rw [upd_ne (Ne.symm dne)]
    exact I1.hok.fresh new
def mMk (C : Addr) (fl : Str) (ta : TA) : L2.St → Hp → XK → Prop := fun σ H Q => ta σ H fun vs H1 => match vs with
  | [v] => ∀ d, H1 d = none → Q (.ref C) (some d) (upd H1 d (.xd [(fl, v)]))
  | _ => False
theorem vals_one {v : V} {us : List Value} (r : Vals [v] us) : ∃ u, us = [u] ∧ RelV v u := by
  cases r with
  | cons h1 h2 =>
    cases h2
    exact ⟨_, rfl, h1⟩
/-- C(v): the call -/
theorem call_exc {pins : List (Addr × Obj)} {σ : L2.St} {H1 : Hp} {Q : XK} {s1 : Shared} {v : V} {u : Value} {k : Nat} {A : Around} (T : ExcAt X.prog X.w X.K X.mg x fl C) (hr : A.depth + 2 < recursionLimit) (I1 : Inv X pins σ H1 s1) (rv : RelV v u)
    (q : ∀ d, H1 d = none → Q (.ref C) (some d) (upd H1 d (.xd [(fl, v)]))) {E : Value → Shared → Prop} : wpAny (model X.prog X.w) A (call (.ref C) [u]) (MkP X pins σ Q) E s1 := by
  obtain ⟨nm, q', N, bs, bm, sn, sub, ab, col, dd, k0, k1, k2, k3, k5, hC, hbm⟩ := T.T.cls
  obtain ⟨fI, fd, iC, tI, run, b1, _, _⟩ := T.init
  have hlim := I1.nolimit
  have KX := I1.kIn
  have G : s1.heap.Ns mainGlobals X.mg := I1.mod.glob.keeps I1.bk
  obtain ⟨mb, hb1, hb2⟩ := I1.mod.blt
  have B : s1.heap.Ns builtinsNs mb := hb1.keeps I1.bk
  obtain ⟨hp, g, dr, tk, os⟩ := s1
  have kk : ∀ b o, hp.get? b = some o → ((hp.push (PySem.W.kdv_tup [u])).push (excO C hp.objs.size)).get? b = some o := fun b o e => Heap.get?_push_of_some _ (Heap.get?_push_of_some _ e)
  have hget : ((hp.push (PySem.W.kdv_tup [u])).push (excO C hp.objs.size)).get? (hp.objs.size + 1) = some (excO C hp.objs.size) := by heap_get
  have hnx : X.K.lookup (hp.objs.size + 1) = none := by
    cases e : X.K.lookup (hp.objs.size + 1) with
    | none => rfl
    | some o =>
      have z : hp.get? (hp.objs.size + 1) = some o := KX _ _ e
      exact absurd (Nat.lt_of_succ_lt (Heap.lt_size z)) (Nat.lt_irrefl _)
  have KX2 : X.K.In ((hp.push (PySem.W.kdv_tup [u])).push (excO C hp.objs.size)) := KX.keeps kk
  refine wpAny_call (call_own F.excBase_ValueError (fun X => refsVE_contains X bm hbm) (KX _ _ hC) (PySem.W.looks_findIn KX iC) (fun self => PySem.W.bind_fn KX self tI) (by show 1 ≤ sizeLine; rw [sizeLine_eq]; omega) ?_)
  refine run (s := ⟨(hp.push (PySem.W.kdv_tup [u])).push (excO C hp.objs.size), g, dr, tk, os⟩) KX2 (hlim.keeps kk) (G.keeps kk) ⟨mb, B.keeps kk, hb2⟩ hget hnx ?_ (b1 _ _ _ KX2) fun h' tk' dx t1 k' hx dn dne hns => ?_
  · show A.depth + 1 < recursionLimit
    omega
  · have old : ∀ b o, hp.get? b = some o → h'.get? b = some o := fun b o e => k' b o (Nat.ne_of_lt (Nat.lt_succ_of_lt (Heap.lt_size e))) (kk b o e)
    have z : hp.objs.size + 1 + 1 ≤ dx := by
      first
        | (simpa only [Heap.size_push] using dn)
        | exact dn
    have db : hp.objs.size ≤ dx := Nat.le_trans (Nat.le_trans (Nat.le_succ _) (Nat.le_succ _)) z
    exact ⟨rfl, mk_seen T.T I1 old (Nat.le_succ _) hx db dne hns rv (q dx (I1.hok.fresh db))⟩
theorem pmk_exc {es : List Expr} {e : Expr} {ta : TA} {p pos : Pos} {k : Nat} (T : ExcAt X.prog X.w X.K X.mg x fl C) (hr : Room k X.A) (hg : Gl X x) (ha : PA X (e :: es) ta) (hdb : (x == ("__debug__" : Str)) = false := by decide)
    (he : starEach (e :: es) X.env = (false, eval e X.env) :: starEach es X.env := by rfl) (hpl : (backTo pos (starEach es X.env)).any (·.1) = false := by rfl) : PMk X (.Call (.Name x p) (e :: es) [] pos) (mMk C fl ta) := by
  intro pins s σ H Q I h
  refine wpAny_Call_Name_kw (ld_glob I hg T.gC ?_ hdb)
  refine PySem.W.callWith_K (h₀ := X.base) I.ok.mod.kin T.T.kC (thn ((pa_cl ha).run pos pins s σ H (fun vs H1 => ∃ v, vs = [v] ∧ ∀ d, H1 d = none → Q (.ref C) (some d) (upd H1 d (.xd [(fl, v)]))) I ⟨_, h, fun vs H1 z => ?_⟩) fun us s1 ⟨vs, H1, I1, r1, v, ev, q1⟩ => ⟨I1.kIn, ?_⟩) he hpl
  · split at z
    · exact ⟨_, rfl, z⟩
    · exact z.elim
  · subst ev
    obtain ⟨u, rfl, ru⟩ := vals_one r1
    exact call_exc (k := k) T (by have := hr.dp; omega) I1 ru q1
/-- raise C(v) -/
def mRaise (C : Addr) (fl : Str) (ta : TA) (E : XK) : TS := fun _ σ H => mMk C fl ta σ H fun cls d H' => E cls d H'
theorem ms_raise {es : List Expr} {e : Expr} {ta : TA} {p pos pos2 : Pos} {k : Nat} {E : XK} (T : ExcAt X.prog X.w X.K X.mg x fl C) (hr : Room k X.A) (hc : X.calm = true) (tk : Takes X (fun cls d _ H => E cls d H)) (hg : Gl X x) (ha : PA X (e :: es) ta) (hdb : (x == ("__debug__" : Str)) = false := by decide)
    (he : starEach (e :: es) X.env = (false, eval e X.env) :: starEach es X.env := by rfl) (hpl : (backTo pos (starEach es X.env)).any (·.1) = false := by rfl) : PS X (.Raise (some (.Call (.Name x p) (e :: es) [] pos)) none pos2) (mRaise C fl ta E) :=
  ps_raise hc tk (pmk_exc T hr hg ha hdb he hpl)
end
end M

/-! ### a caught error, kept behind the try -/
namespace M
open PySem PySem.Spec PyProof.Rows L2 PySem.HandSPX
/-- at a: an exception of the class cls, its dict d -/
def exk (a : Addr) (cls : Value) (d : Option Addr) : HO := .ext fun h => ∃ (o : Obj) (vs : Array Value), h.get? a = some o ∧ o.cls = cls ∧ o.dict = d ∧ o.data = .fields vs
theorem exk_ok {P : Program} {w : World} {H : Hp} {h : Heap} {a : Addr} {cls : Value} {d : Option Addr} {o : Obj} {vs : Array Value} (e : h.get? a = some o) (hz : Zc cls d o) (hd : o.data = .fields vs) : ObjOk P w H h a (exk a cls d) :=
  ⟨⟨o, vs, e, hz.1, hz.2, hd⟩, ⟨_, e⟩, fun h1 h2 z k => by
    obtain ⟨o, vs, q, r⟩ := z
    exact ⟨o, vs, k _ q, r⟩⟩
theorem exk_at {P : Program} {w : World} {H : Hp} {h : Heap} {a : Addr} {cls : Value} {d : Option Addr} (hok : HOk P w H h) (he : H a = some (exk a cls d)) : ∃ (o : Obj) (vs : Array Value), h.get? a = some o ∧ o.cls = cls ∧ o.dict = d ∧ o.data = .fields vs := by
  have x : ObjOk P w H h a (.ext fun h => ∃ (o : Obj) (vs : Array Value), h.get? a = some o ∧ o.cls = cls ∧ o.dict = d ∧ o.data = .fields vs) := hok a _ he
  exact x.1
section
variable {X : Cx} {pins : List (Addr × Obj)} {σ : L2.St} {H : Hp} {s : Shared}
/-- an object of the heap that was not looked at is looked at from now on -/
theorem Inv_track {a : Addr} {o : Obj} {vs : Array Value} {cls : Value} {d : Option Addr} (I : L2.Inv X pins σ H s) (e : s.heap.get? a = some o) (hz : Zc cls d o) (hd : o.data = .fields vs) (na : H a = none) (n0 : X.s_0.heap.get? a = none) (nL : a ≠ X.env.locals)
    (nP : ∀ p ∈ X.pn ++ pins, p.1 ≠ a) : L2.Inv X pins σ (upd H a (exk a cls d)) s := by
  have n1 : ∀ b o, X.s_0.heap.get? b = some o → b ≠ a := fun b o q z => by rw [z, n0] at q; cases q
  refine ⟨I.ok, I.os, I.bare, ⟨I.base.keep, I.base.slot, fun b o q n hx => ?_, I.base.there, fun b xs q => ?_, fun b o u q => ?_, fun b ps q => ?_⟩, I.loc, I.cell, ?_, fun x c q => ?_, fun p hp => ?_, fun b ob q => ?_, I.len⟩
  · rw [upd_ne (n1 b o q)]; exact I.base.free b o q n hx
  · have z := I.base.tups b xs q
    rw [upd_ne (ne_of_none z na)]; exact z
  · have z := I.base.frzs b o u q
    rw [upd_ne (ne_of_none z na)]; exact z
  · obtain ⟨more, z⟩ := I.base.tbls b ps q
    exact ⟨more, by rw [upd_ne (ne_of_none z na)]; exact z⟩
  · rw [upd_ne (Ne.symm nL)]; exact I.free
  · have : c ≠ a := fun z => by
      obtain ⟨v, hv⟩ := I.cell x c q
      obtain ⟨oc, q1, q2⟩ := hv
      rw [z, e] at q1
      cases q1
      rw [hd] at q2
      cases q2
    rw [upd_ne this]; exact I.freeC x c q
  · obtain ⟨p1, p2, p3⟩ := I.pin p hp
    exact ⟨p1, by rw [upd_ne (nP p hp)]; exact p2, p3⟩
  · by_cases hb : b = a
    · subst hb
      rw [upd_same] at q
      cases q
      exact exk_ok e hz hd
    · rw [upd_ne hb] at q
      exact (I.hok b ob q).stay (fun c v hc z => z) (fun c hc => by rw [upd_ne (ne_of_none hc na)]; exact hc) (fun c xs hc => by rw [upd_ne (ne_of_none hc na)]; exact hc)
/-- what is wished of an exception of the body: it is caught, n = it -/
def wK (K : PySem.W.Frag) (c : Value) (i j : Nat) (D : Ends) : WX := fun cls d σ H => PySem.W.exmOne K cls c = some true ∧ ∀ a, H a = none → D.nx ((σ.set j (some (.ref a))).set i none) (upd H a (exk a cls d))
def mTry (K : PySem.W.Frag) (c : Value) (i j : Nat) (tb : WX → TS) : TS := fun D σ H => tb (wK K c i j D) D σ H
end
end M

namespace M
open PySem PySem.Spec PyProof.Rows L2 PySem.HandSPX
section
variable {X : Cx} {x n y : Str} {c : Value} {i j : Nat} {body : List Stmt} {np pos pos' p1 p2 p3 : Pos} {tb : WX → TS}
theorem ms_try (hs : X.stack = X.env :: X.outer) (hf : X.env.frame = some X.env.locals) (hex : X.ex = []) (hN : X.N.Nodup) (hi : X.N[i]? = some n) (hln : X.env.kindOf n = some .local) (hc : Names X x c)
    (hb : ∀ (W : WX) (pn : List (Addr × Obj)) (xe : Value → Shared → Prop), Takes (X.tr pn xe) W → PassesOwn (model X.prog X.w) X.A X.env xe → PSs (X.tr pn xe) body (tb W))
    (hsu : ∀ (a : Addr) (oe : Obj) (pn : List (Addr × Obj)), (∃ vs, oe.data = .fields vs) → PSs (X.suite a ((a, oe) :: pn)) [.Assign [.Name y p1] (.Name n p2) p3] (tAsg (mVar i) (gName j))) :
    PS X (.Try body [.ExceptHandler (some (.Name x np)) (some n) [.Assign [.Name y p1] (.Name n p2) p3] pos'] [] [] pos) (mTry X.K c i j tb) := by
  refine ⟨fun pins s σ H D I h => ?_⟩
  have ok := I.ok
  have hfr : X.A.frames = some (X.env :: X.outer) := by rw [ok.frames, hs]
  have hloc : Loc X.env.scope n := .inl hln
  refine wpAny_Try_except ?_
  refine wpAny_mono ((hb (wK X.K c i j D) (X.pn ++ pins) (fun e s₁ => wpAny (model X.prog X.w) X.A (noteFrame e X.env) (fun _ s₂ => wpAny (model X.prog X.w) X.A (setFlight e none) (fun _ s₃ =>
    wpAny (model X.prog X.w) X.A (handleBy e X.env [.ExceptHandler (some (.Name x np)) (some n) [.Assign [.Name y p1] (.Name n p2) p3] pos']) (SP X pins D) X.xe s₃) X.xe s₂) X.xe s₁) (fun u s' xx => ?_) PassesOwn.looking).run [] s σ H D (I.toTry _) h) (fun f s1 hsp => ?_) (fun e s1 he => he)
  · obtain ⟨a, B, sI, pins', σ', H', cls, d, rfl, J', nb, up, sky, na, os, ag, hb1, hyes⟩ := xx
    have J : L2.Inv X pins σ' H' sI := J'.ofTry ok
    have sky' : Sky B (X.env :: X.outer) a (Zc cls d) X.env.locals s'.heap := by rw [← hs]; exact sky
    show wpAny (model X.prog X.w) X.A (noteFrame (.ref a) X.env) _ _ _
    refine Sky.land Zc.steady hfr hf sky' fun h3 fl3 up3 => ?_
    have J3 : L2.Inv X pins σ' H' { s' with heap := h3 } := J.landed nb fl3.1 (up.trans up3) os ag
    obtain ⟨oe3, vs3, he3, hz3, hd3⟩ := fl3.there
    have notFr : ∀ {h : Heap} {o : Obj} {vs : Array Value}, h.FunFrames B (X.env :: X.outer) → h.get? a = some o → o.data = .fields vs → a ∉ frs (X.env :: X.outer) := fun {h o vs} ff e dd hm => by
      obtain ⟨_, o', e', hnf⟩ := ff.mem hm
      rw [e] at e'; cases e'
      exact hnf _ dd
    have nfr := notFr fl3.2.2.1 he3 hd3
    have nL : a ≠ X.env.locals := fun z => nfr (List.mem_filterMap.mpr ⟨X.env, List.mem_cons_self, by rw [hf, z]⟩)
    have nF : a ∉ X.fs := fun hm => by
      obtain ⟨e, he, q⟩ := List.mem_filterMap.mp hm
      exact nfr (List.mem_filterMap.mpr ⟨e, List.mem_cons_of_mem _ he, q⟩)
    have nI : sI.heap.get? a = none := by
      cases q : sI.heap.get? a with
      | none => rfl
      | some o =>
        have z := nb a o q (by rw [hs]; exact nfr)
        rw [fl3.2.1] at z
        cases z
    have n0 : X.s_0.heap.get? a = none := by
      cases q : X.s_0.heap.get? a with
      | none => rfl
      | some o =>
        obtain ⟨o', z⟩ := J.base.there a o q (by rw [hex]; simp)
        rw [nI] at z
        cases z
    have nP : ∀ p ∈ X.pn ++ pins, p.1 ≠ a := fun p hp z => by
      have q := (J.pin p hp).1
      rw [z, nI] at q
      cases q
    have S3 := J3.suite he3 hd3 na nL nF
    refine wpAny_handleBy_cons (codeAny_handlers_test ?_) (by intro q; cases q)
    have LT : PySem.W.Looks (model X.prog X.w) h3 (typeOf (.ref a)) cls := fun A Q E s k q => wpAny_typeOf_ref (k _ _ he3) (by rw [hz3.1]; exact q)
    have LM := PySem.W.exm_one (M := model X.prog X.w) (J3.kIn) LT hb1
    have test : ∀ {Q : Value → Shared → Prop} {E : Value → Shared → Prop}, Q c { s' with heap := h3 } → wpAny (model X.prog X.w) (X.A.mark (some (.ref a))) (eval (.Name x np) X.env) Q E { s' with heap := h3 } := fun {Q E} q => by
      obtain ⟨hg, hdbg, hm | ⟨hm, hv, hnn⟩⟩ := hc
      · exact ld_glob (X := X.suite a ((a, oe3) :: (X.pn ++ pins))) S3 hg hm q hdbg
      · exact ld_blt (X := X.suite a ((a, oe3) :: (X.pn ++ pins))) S3 hg hm hv q hnn hdbg
    refine test (LM.here ?_)
    refine codeAny_handlers_suite_as ?_
    refine HandSPX.lands_againZ fl3 fun h4 fl4 up4 => ?_
    have J4 : L2.Inv X pins σ' H' { s' with heap := h4 } := J.landed nb fl4.1 ((up.trans up3).trans up4) os ag
    obtain ⟨oe4, vs4, he4, hz4, hd4⟩ := fl4.there
    have S4 := J4.suite he4 hd4 na nL nF
    refine store_ok (X := X.suite a ((a, oe4) :: (X.pn ++ pins))) (v := .ref a) S4 hN hi hloc rfl (fun s5 S5 => ?_) (.inr hln)
    have il : i < σ'.length := by
      rw [J.len]
      exact (List.getElem?_eq_some_iff.mp hi).1
    have hgt : ∀ (l : Sl) (k : Nat) (v : V), k < l.length → M.gt (l.set k (some v)) k = some v := by
      intro l
      induction l with
      | nil => intro k v hk; exact absurd hk (by simp)
      | cons b r ih =>
        intro k v hk
        cases k with
        | zero => rfl
        | succ k => exact ih k v (by simpa using hk)
    have hread : (tAsg (mVar i) (gName j)) ({ nx := fun σ6 H6 => H6 = H' ∧ σ6 = (σ'.set i (some (.ref a))).set j (some (.ref a)), rt := fun _ _ => False, bk := fun _ _ => False, ct := fun _ _ => False } : Ends) (σ'.set i (some (.ref a))) H' := by
      show (match M.gt (σ'.set i (some (.ref a))) i with | some v => _ | none => False)
      rw [hgt _ _ _ il]
      exact ⟨rfl, rfl⟩
    refine wpAny_mono ((hsu a oe4 (X.pn ++ pins) ⟨_, hd4⟩).run [] s5 _ H' _ S5 hread) (fun f s6 hsp => ?_) (fun _ _ z => False.elim z)
    cases f with
    | next =>
      obtain ⟨σ6, H6, S6, rfl, rfl⟩ := hsp
      have he6 : s6.heap.get? a = some oe4 := (S6.pin (a, oe4) (List.mem_append_left _ List.mem_cons_self)).1
      have T6 := Inv_track (S6.unsuite ok) he6 hz4 hd4 na n0 nL nP
      refine gone_ok T6 hN hi hln fun s7 J7 => ⟨_, _, J7, ?_⟩
      by_cases hij : i = j
      · subst hij
        have z := hyes a na
        rw [List.set_set] at z
        rw [List.set_set, List.set_set]
        exact z
      · have z := hyes a na
        have e : ((σ'.set i (some (V.ref a))).set j (some (V.ref a))).set i none = (σ'.set j (some (V.ref a))).set i none := by
          rw [List.set_comm _ _ hij, List.set_set]
        rw [e]
        exact z
    | brk =>
      obtain ⟨σ6, H6, S6, q6⟩ := hsp
      exact q6.elim
    | cont =>
      obtain ⟨σ6, H6, S6, q6⟩ := hsp
      exact q6.elim
    | ret u =>
      obtain ⟨v6, σ6, H6, S6, r6, q6⟩ := hsp
      exact q6.elim
  · cases f with
    | next =>
      obtain ⟨σ', H', J', q⟩ := hsp
      exact wpAny_execs_nil ⟨σ', H', J'.ofTry ok, q⟩
    | brk =>
      obtain ⟨σ', H', J', q⟩ := hsp
      exact ⟨σ', H', J'.ofTry ok, q⟩
    | cont =>
      obtain ⟨σ', H', J', q⟩ := hsp
      exact ⟨σ', H', J'.ofTry ok, q⟩
    | ret u =>
      obtain ⟨v, σ', H', J', r, q⟩ := hsp
      exact ⟨v, σ', H', J'.ofTry ok, r, q⟩
end
end M

/-! ### defs that show values: no repr is under way above them -/
namespace M
open PySem PySem.Spec PyProof.Rows L2 PySem.HandSPX
structure RoomG (k : Nat) (A : Around) : Prop where
  hd : A.handled = none
  dp : A.depth + k + 20 < recursionLimit
  un : A.units + 8 * k + 300 < cLine
  gd : A.guards = some []
theorem RoomG.mono {j k : Nat} {A : Around} (r : RoomG k A) (h : j ≤ k) : RoomG j A := ⟨r.hd, by have := r.dp; omega, by have := r.un; omega, r.gd⟩
theorem RoomG.deeper {k : Nat} {A : Around} (r : RoomG (k + 1) A) (env : Env) : RoomG k (A.deeper env) := ⟨r.hd, by have := r.dp; show A.depth + 1 + k + 20 < _; omega, by have := r.un; show A.units + 3 + 8 * k + 300 < _; omega, r.gd⟩
theorem RoomG.room {j k : Nat} {A : Around} (r : RoomG k A) (h1 : 3 * j ≤ k + 15) (h2 : 16 * j ≤ 8 * k + 100) : Room j A := ⟨r.hd, by have := r.dp; omega, by have := r.un; omega⟩
theorem RoomG.r0 {k : Nat} {A : Around} (r : RoomG k A) : Room 0 A := r.room (by omega) (by omega)
theorem RoomG.units {k : Nat} {A : Around} (r : RoomG k A) : A.units + 64 < cLine := by have := r.un; omega
theorem RoomG.depth {k : Nat} {A : Around} (r : RoomG k A) : A.depth < recursionLimit := by have := r.dp; omega
structure FnG (P : Program) (w : World) (K : PySem.W.Frag) (mg : Str → Option Value) (base : Heap) (CX : CXT) (k : Nat) (f : Addr) (fd : FuncData) (ps : List Str) (sp : Sp) : Prop where
  len : ∀ vs H Q E, sp vs H Q E → vs.length = ps.length
  run : ∀ (A : Around) (outer : List Env) (s : Shared) (H : Hp) (args : Args) (us : List Value) (vs : List V) (Q : VK) (E : XK), RoomG k A → Env0 P w K mg base A outer s H → BindsTo s fd args (ps.zip us) → Vals vs us → sp vs H Q E →
    codeAny (model P w) A (.call (.ref f) args) (CR CX outer P w H s Q E) s
theorem FnG.of {P : Program} {w : World} {K : PySem.W.Frag} {mg : Str → Option Value} {base : Heap} {CX : CXT} {j k : Nat} {f : Addr} {fd : FuncData} {ps : List Str} {sp : Sp} (F : FnOk P w K mg base CX j f fd ps sp) (h1 : 3 * j ≤ k + 15) (h2 : 16 * j ≤ 8 * k + 100) : FnG P w K mg base CX k f fd ps sp :=
  ⟨F.len, fun A outer s H args us vs Q E hr => F.run A outer s H args us vs Q E (hr.room h1 h2)⟩
theorem FnG.zero {P : Program} {w : World} {K : PySem.W.Frag} {mg : Str → Option Value} {base : Heap} {CX : CXT} {k : Nat} {f : Addr} {fd : FuncData} {ps : List Str} {sp : Sp} (no : ∀ vs H Q E, ¬ sp vs H Q E) : FnG P w K mg base CX k f fd ps sp :=
  ⟨fun vs H Q E h => absurd h (no vs H Q E), fun A outer s H args us vs Q E _ _ _ _ h => absurd h (no vs H Q E)⟩
theorem FnG.mono {P : Program} {w : World} {K : PySem.W.Frag} {mg : Str → Option Value} {base : Heap} {CX : CXT} {j k : Nat} {f : Addr} {fd : FuncData} {ps : List Str} {sp : Sp} (F : FnG P w K mg base CX j f fd ps sp) (h : j ≤ k) : FnG P w K mg base CX k f fd ps sp :=
  ⟨F.len, fun A outer s H args us vs Q E hr => F.run A outer s H args us vs Q E (hr.mono h)⟩
section
variable {P : Program} {w : World} {K : PySem.W.Frag} {mg : Str → Option Value} {base : Heap} {x qual : Str} {params : Arguments} {body : List Stmt} {scope : Scope} {dvs : List V} {kws : List (Str × V)} {f : Addr} {fd : FuncData}
theorem okG {CX : CXT} {N ps : List Str} {k : Nat} {sp : Sp} (F : FunD K x qual params body scope dvs kws f fd) (S : FnScope N ps scope) (len : ∀ vs H Q E, sp vs H Q E → vs.length = ps.length)
    (hbody : ∀ (cdv : Value) (A : Around) (outer : List Env) (s : Shared) (H : Hp) (vs : List V) (Q : VK) (E : XK), RoomG k (A.deeper (envOfC qual scope s.heap.objs.size f cdv)) → sp vs H Q E →
      ∃ t, PSs (cxOf CX P w K mg base N qual scope f cdv A outer s H E) body t ∧ t { nx := fun _ H' => Q .non H', rt := Q } (start N vs) H) : FnG P w K mg base CX (k + 1) f fd ps sp := by
  obtain ⟨oc, od, dV, kV, doc, pm, an, cdv, ct, osl, rfl, lk, hcd, _, _⟩ := F.ex
  refine ⟨len, fun A outer s H args us vs Q E hr e0 hb r hsp => ?_⟩
  have up : ∀ b o, base.get? b = some o → s.heap.get? b = some o := fun b o e => (e0.bs b o e).1
  have KX : K.In s.heap := e0.mod.kin.keeps up
  have par : ∀ y ∈ ps.zip us, scope.names.lookup y.1 = some .local ∨ (scope.names.lookup y.1 = some .cell ∧ ((cellsFrom (s.heap.objs.size + 1) scope.names []).lookup y.1).isSome = true) := by
    rintro ⟨n, v⟩ hy
    exact (S.par n (List.of_mem_zip hy).1).imp id fun q => ⟨q, PySem.W.cellsFrom_some _ _ _ (.inl q)⟩
  refine codeAny_call_function hr.depth (KX _ _ lk) rfl S.co S.gen rfl (PySem.W.codeRec_of KX hcd) (hb _ _ _ _ (wpAny_newFunctionEnv_cells S.kind par fun env he s1 x => ?_))
  subst he
  obtain ⟨t, ht, hq⟩ := hbody cdv A outer s H vs Q E (hr.deeper _) hsp
  refine ⟨(e0.mod.nolimit.keeps up).keeps x.toInCall.keep, codeAny_func (wpAny_mono (ht.run [] s1 (start N vs) H _ (inv_start S hr.hd e0 (len _ _ _ _ hsp) r x) hq) (fun fl s' hs => ?_) fun e s' hs => hs)⟩
  cases fl with
  | ret u =>
    obtain ⟨v, σ', H', J, rv, q⟩ := hs
    exact ⟨v, H', J.os, J.bare, J.base, J.hok, rv, q⟩
  | next =>
    obtain ⟨σ', H', J, q⟩ := hs
    exact ⟨V.non, H', J.os, J.bare, J.base, J.hok, rfl, q⟩
  | brk => exact (hs.elim fun _ z => z.elim fun _ z => z.2).elim
  | cont => exact (hs.elim fun _ z => z.elim fun _ z => z.2).elim
end
structure CalG (P : Program) (w : World) (K : PySem.W.Frag) (mg : Str → Option Value) (base : Heap) (CX : CXT) (x : Str) (k : Nat) (ps : List Str) (dvs : List V) (sp : Sp) : Prop where
  ex : ∃ f fd ds, FnG P w K mg base CX k f fd ps sp ∧ mg x = some (.ref f) ∧ PySem.W.keepIn K (.ref f) = true ∧ Binds K fd ps ds ∧ Vals dvs ds
section
variable {X : Cx} {CX : CXT} {k : Nat} {ps : List Str} {sp : Sp} {dvs : List V} {E : XK} {x : Str} {p pos : Pos} {e : Expr} {es : List Expr} {t : TA}
theorem me_callG (C : CalG X.prog X.w X.K X.mg X.base CX x k ps dvs sp) (hr : RoomG k X.A) (hg : Gl X x) (hx : Passes CX X E) (ha : PA X (e :: es) t) (hdb : (x == ("__debug__" : Str)) = false := by decide)
    (he : starEach (e :: es) X.env = (false, eval e X.env) :: starEach es X.env := by rfl) (hpl : (backTo pos (starEach es X.env)).any (·.1) = false := by rfl) : PE X (.Call (.Name x p) (e :: es) [] pos) (tCall sp dvs E t) := by
  obtain ⟨f, fd, ds, F, hm, hk, hb, hd⟩ := C.ex
  refine ⟨fun pins s σ H Q I h => wpAny_Call_Name_kw (ld_glob I hg hm (PySem.W.callWith_K (h₀ := X.base) I.ok.mod.kin hk (thn (ha.run pos pins s σ H _ I h) fun us s1 ⟨vs, H1, I1, r, q⟩ => ⟨I1.kIn, ?_⟩) he hpl) hdb)⟩
  have r2 : Vals (vs ++ dvs) (us ++ ds) := r.append hd
  refine wpAny_call (codeAny_mono (F.run X.A X.stack s1 H1 ⟨us, []⟩ (us ++ ds) (vs ++ dvs) Q E hr I1.env0 (hb s1 us I1.kIn (r2.length.symm.trans (F.len _ _ _ _ q))) r2 q) fun r s' hq => ?_)
  rcases r with er | fl
  · exact hx pins σ H1 s1 er s' I1 hq
  · cases fl with
    | ret u => exact I1.after hq
    | next => exact False.elim hq
    | brk => exact False.elim hq
    | cont => exact False.elim hq
end
/-! ### repr -/
section
variable {X : Cx}
def fd1 : V → Option PyData
  | .int i => some (.int i)
  | .str z => some (.str z)
  | .bl b => some (.bool b)
  | .non => some .none
  | _ => none
def kd1 : Key → PyData
  | .inl i => .int i
  | .inr x => .str x
def fdKV : List (Key × V) → Option (List (PyData × PyData))
  | [] => some []
  | (k, v) :: r => match fd1 v, fdKV r with
    | some d, some q => some ((kd1 k, d) :: q)
    | _, _ => none
/-- what repr shows of a value -/
inductive Sh (K : PySem.W.Frag) (H : Hp) : V → PyData → Prop
  | dp {v : V} {d : PyData} : Dp K H v d → d.hasDict = false → Sh K H v d
  | dct {a : Addr} {kvs : List (Key × V)} {ds : List (PyData × PyData)} : H a = some (.dK kvs) → fdKV kvs = some ds → Sh K H (.ref a) (.dict ds)
def mRepr (K : PySem.W.Frag) : List V → Hp → VK → Prop := fun xs H Q => match xs with
  | [x] => ∃ d, Sh K H x d ∧ d.showable = true ∧ d.depth ≤ 64 ∧ d.shown.length ≤ sizeLine ∧ Q (.str d.shown) H
  | _ => False
theorem rd1 {h : Heap} {v : V} {u : Value} {d : PyData} (r : RelV v u) (e : fd1 v = some d) : Reads h u d [] := by
  cases v with
  | int i => obtain ⟨t, rfl⟩ := r; cases e; exact .int i t
  | str z => obtain ⟨t, rfl⟩ := r; cases e; exact .str z t
  | bl b => cases r; cases e; exact .bool b
  | non => cases r; cases e; exact .none
  | _ => cases e
theorem rdKV {P : Program} {w : World} {h : Heap} : ∀ {kvs : List (Key × V)} {vs : List (Key × Value)} {es : List DictEntry} {ds : List (PyData × PyData)}, KV kvs vs → Pairs (mixKind P w) es vs → fdKV kvs = some ds →
    ReadsAll h (es.map (·.key)) (ds.map (·.1)) [] ∧ ReadsAll h (es.map (·.val)) (ds.map (·.2)) []
  | _, _, _, _, .nil, .nil, e => by cases e; exact ⟨.nil, .nil⟩
  | (k, v) :: r, (k', u) :: r', en :: es, ds, .cons hk hr, .cons h1 h2 h3, e => by
    obtain ⟨e1, e2⟩ := hk
    unfold fdKV at e
    split at e
    · rename_i d q ed eq
      cases e
      obtain ⟨a1, a2⟩ := rdKV (h := h) hr h3 eq
      refine ⟨?_, ?_⟩
      · refine ReadsAll.cons (as := []) (bs := []) ?_ a1
        show Reads h en.key (kd1 k) []
        have e1' : k = k' := e1
        subst e1'
        rcases keyIs_shape (show keyIs _ en.key = true from h1) with ⟨i, t, z1, z2⟩ | ⟨x, t, z1, z2⟩
        · have z1' : k = .inl i := z1
          rw [z2, z1']; exact .int i t
        · have z1' : k = .inr x := z1
          rw [z2, z1']; exact .str x t
      · refine ReadsAll.cons (as := []) (bs := []) ?_ a2
        show Reads h en.val d []
        rw [h2]
        exact rd1 e2 ed
    · cases e
theorem call_reprM {k : Nat} (hr : RoomG k X.A) : CallR X (.builtin "repr") (mRepr X.K) := by
  intro pins s σ H xs us Q I r h
  unfold mRepr at h
  split at h
  · rename_i x
    obtain ⟨d, hs, h1, h2, h3, q⟩ := h
    obtain ⟨u, rfl, ru⟩ := vals_one r
    have hun := hr.un
    have fin : ∀ (a : Addr) (as : List Addr), Reads s.heap (.ref a) d as → (d.hasDict = true → sysModules ∉ as) → wpAny (model X.prog X.w) X.A (call (.builtin "repr") [.ref a]) (EP X pins σ Q) X.xe s := fun a as rd hsm =>
      repr_of_reads' rd h1 hsm hr.gd (by omega) (fun _ _ e => e) (fun h' u tk k => ⟨.str d.shown, H, I.kept (t' := tk) k, ⟨u, rfl⟩, q⟩) h3
    cases hs with
    | dp hd hn =>
      obtain ⟨as, rd⟩ := Dp.reads I d x u hd ru
      have hsm : d.hasDict = true → sysModules ∉ as := PyData.noDict_hsm hn
      cases rd with
      | none => exact PySem.P.repr_of_none ⟨.str "None", H, I.tok _, ⟨_, rfl⟩, by simpa only [PyData.shown] using q⟩
      | bool b => exact PySem.P.repr_of_bool ⟨.str (if b then "True" else "False"), H, I.tok _, ⟨_, rfl⟩, by simpa only [PyData.shown] using q⟩
      | int i t => exact PySem.P.repr_of_int (by simpa [PyData.showable] using h1) ⟨.str (toString i), H, I.tok _, ⟨_, rfl⟩, by simpa only [PyData.shown] using q⟩
      | str z t => exact PySem.P.repr_of_str ⟨.str (reprText z), H, I.tok _, ⟨_, rfl⟩, by simpa only [PyData.shown] using q⟩ (by simpa only [PyData.shown] using h3)
      | list e1 e2 e3 e4 => exact fin _ _ (.list e1 e2 e3 e4) hsm
      | tuple e1 e2 e3 e4 => exact fin _ _ (.tuple e1 e2 e3 e4) hsm
      | dict e1 e2 e3 e4 e5 => exact fin _ _ (.dict e1 e2 e3 e4 e5) hsm
    | @dct a kvs ds ha hf =>
      cases ru
      obtain ⟨_, hns, vs, hkv, o, es, ep, e1, e2, e3, e4, e5, e6⟩ := dk_of I.hok ha
      obtain ⟨r1, r2⟩ := rdKV (h := s.heap) hkv e5 hf
      refine fin a ([a] ++ [] ++ []) (.dict e1 e2.1 e3 r1 r2) fun _ hm => ?_
      have z : sysModules = a := by simpa using hm
      rw [z] at hns
      simp at hns
  · exact h.elim
end
/-! ### a kept error's field, its class -/
structure ExcK (K : PySem.W.Frag) (fl : Str) (C : Addr) : Prop where
  ga : PySem.W.findIn K (.ref C) "__getattribute__" = some (some (.builtin "BaseException.__getattribute__"))
  gg : PySem.W.findIn K (.ref C) "__getattr__" = some none
  nf : PySem.W.findIn K (.ref C) fl = some none
  hd : PySem.W.hasDictIn K C = true
  exC : PySem.W.subIn K (.ref C) (.type "BaseException") = some true
  ha : PySem.W.findIn K (.ref C) "__class__" = some (some (.builtin "object.__class__"))
  hn : PySem.W.specialIn K (.builtin "object.__class__") "__get__" = some (some (.builtin "getset_descriptor.__get__"))
  ht : PySem.W.takesIn K (.builtin "object.__class__") = some true
  hm : PySem.W.mroIn K C (.type "object") = some true
def mFld (K : PySem.W.Frag) (fl : Str) (te : TE) : TE := fun σ H Q => te σ H fun x H1 => match x with
  | .ref a => ∃ (C d : Addr) (v : V), ExcK K fl C ∧ H1 a = some (exk a (.ref C) (some d)) ∧ H1 d = some (.xd [(fl, v)]) ∧ Q v H1
  | _ => False
section
variable {X : Cx}
theorem inst_of {pins : List (Addr × Obj)} {σ : L2.St} {H : Hp} {s : Shared} {a C d : Addr} {fs : List (Str × V)} (I : L2.Inv X pins σ H s) (h1 : H a = some (exk a (.ref C) (some d))) (h2 : H d = some (.xd fs)) :
    ∃ (o od : Obj) (mA : Str → Option Value), PySem.W.InstAt s.heap a o C (some od) ∧ s.heap.Ns1 d mA ∧ (∀ f, RelO (fs.lookup f) (mA f)) ∧ s.heap.get? d = some od := by
  obtain ⟨o, vs, e1, e2, e3, e4⟩ := exk_at I.hok h1
  have hx : ObjOk X.prog X.w H s.heap d (.xd fs) := I.hok d _ h2
  obtain ⟨mA, hns, hr⟩ := hx
  obtain ⟨od, ho, hl⟩ := lookIn_ns hns
  exact ⟨o, od, mA, ⟨e1, e2, by unfold PySem.W.notCls; rw [e4] <;> rfl, by rw [e3]; exact ho⟩, hns, hr, ho⟩
theorem me_fld {e : Expr} {te : TE} {fl : Str} {pos : Pos} (he : PE X e te) (hb : attributeBase e fl X.env (eval e X.env) = eval e X.env := by rfl) : PE X (.Attribute e fl pos) (mFld X.K fl te) := by
  refine ⟨fun pins s σ H Q I h => attr_of hb (thn ((pe_cl he).run pins s σ H (fun x H1 => ∃ (a C d : Addr) (v : V), x = .ref a ∧ ExcK X.K fl C ∧ H1 a = some (exk a (.ref C) (some d)) ∧ H1 d = some (.xd [(fl, v)]) ∧ Q v H1) I ⟨_, h, fun x H1 z => ?_⟩) fun u s1 hh => ?_)⟩
  · cases x with
    | ref a => obtain ⟨C, d, v, z⟩ := z; exact ⟨a, C, d, v, rfl, z⟩
    | _ => exact z.elim
  · obtain ⟨_, H1, I1, rx, a, C, d, v, rfl, T, h1, h2, q⟩ := hh
    cases rx
    obtain ⟨o, od, mA, J, hns, hr, ho⟩ := inst_of I1 h1 h2
    obtain ⟨od', ho', hl⟩ := lookIn_ns hns
    rw [ho] at ho'
    cases ho'
    have l : List.lookup fl [(fl, v)] = some v := by simp [List.lookup]
    obtain ⟨u, hu, ru⟩ := RelO.some_of (v := v) (o := mA fl) (by rw [← l]; exact hr fl)
    exact HandSPX.exc_get I1.kIn J T.ga T.gg T.exC (PySem.W.findObj_own T.hd T.nf rfl (by rw [hl, hu])) (handed_of ru) ⟨v, H1, I1.tok _, ru, q⟩
/-- isinstance(x, C'), x None or a kept error -/
def mIsiE (K : PySem.W.Frag) : List V → Hp → VK → Prop := fun xs H Q => match xs with
  | [.ref a, .ref C'] => ∃ (C d : Addr) (fl : Str) (fs : List (Str × V)) (b : Bool), ExcK K fl C ∧ H a = some (exk a (.ref C) (some d)) ∧ H d = some (.xd fs) ∧ PySem.W.kitOne K (.ref C) (.ref C') = some b ∧ Q (.bl b) H
  | _ => mIsi K xs H Q
theorem call_isiE : CallR X (.builtin "isinstance") (mIsiE X.K) := by
  intro pins s σ H xs us Q I r h
  unfold mIsiE at h
  split at h
  · rename_i a C'
    obtain ⟨C, d, fl, fs, b, T, h1, h2, hk, q⟩ := h
    cases r with
    | cons rx rr => cases rr with
      | cons rt rr =>
        cases rr; cases rx; cases rt
        obtain ⟨o, od, mA, J, _⟩ := inst_of I h1 h2
        obtain ⟨cd, hcd, _⟩ := PySem.W.any_some T.hd
        exact PySem.W.kia_one (PySem.W.kitx_exc (by rw [hcd]; rfl) T.ga T.gg T.exC T.ha T.hn T.ht T.hm) I.kIn J hk (fun z => nomatch z) fun tk => ⟨.bl b, H, I.kept (t' := tk) fun _ _ z => z, rfl, q⟩
  · exact call_isiM pins s σ H xs us Q I r h
end
end M

/-! ### the law's end for such defs -/
namespace M
open PySem PySem.Spec PyProof.Rows L2
section
variable {P : Program} {w : World} {K : PySem.W.Frag} {mg mb : Str → Option Value} {CX : CXT} {k : Nat} {fa a : Addr} {fd : FuncData} {x : Str} {sp : Sp} {s₁ : Shared} {vs : List Value} {ns : List Int}
/-- all but what H tracks is the ground -/
theorem ground_of {H : Hp} (KX : K.In s₁.heap) (hns : s₁.heap.Ns mainGlobals mg) (hb : s₁.heap.Ns builtinsNs mb) (hbb : ∀ x : Str, x ≠ "__name__" → mb x = bootBuiltins x) (hlim : s₁.heap.NoLimit) (hg : s₁.gens = #[])
    (hok : HOk P w H s₁.heap) (noD : ∀ b o es ep, s₁.heap.get? b = some o → o.data = .dict es ep → H b = none) (noK : ∀ b o, K.lookup b = some o → H b = none) :
    K.In (hidT s₁.heap H) ∧ (hidT s₁.heap H).Ns mainGlobals mg ∧ Env0 P w K mg (hidT s₁.heap H) callerA [] s₁ H := by
  have names : ∀ {b : Addr} {m : Str → Option Value}, s₁.heap.Ns b m → (hidT s₁.heap H).Ns b m := by
    rintro b m ⟨o, es, ep, e, d, r⟩
    exact ⟨o, es, ep, hidT_get e (noD b o es ep e d), d, r⟩
  have kin : K.In (hidT s₁.heap H) := fun b o e => hidT_get (KX b o e) (noK b o e)
  obtain ⟨mc, l1, l2⟩ := hlim
  refine ⟨kin, names hns, rfl, ⟨kin, names hns, ⟨mb, names hb, hbb⟩, mc, names l1, l2⟩, fun b o e => of_hidT e, Nat.le_of_eq (hidT_size _ _), trivial, fun b z => ?_, hok, .of_eq hg⟩
  cases z
theorem law_runG {H : Hp} (F : FnG P w K mg (hidT s₁.heap H) CX k fa fd [x] sp) (hr : RoomG k callerA) (e0 : Env0 P w K mg (hidT s₁.heap H) callerA [] s₁ H) (hbind : ∀ (s : Shared) (u : Value), BindsTo s fd ⟨[u], []⟩ [(x, u)]) (hO : Only H)
    (hsp : sp [.ref a] H (fun v _ => v = .bl true) fun _ _ _ => False) (hCX : ∀ H e s', CX [] H s₁ (fun _ _ _ => False) e s' → False) :
    codeAny (model P w) callerA (.call (.ref fa) ⟨[.ref a], []⟩) (fun r s' => r = .ok (.ret (.bool true)) ∧ OldK s₁.heap s'.heap ∧ s'.os = s₁.os ∧ AllBare s'.gens) s₁ := by
  refine codeAny_mono (F.run callerA [] s₁ H ⟨[.ref a], []⟩ [.ref a] [.ref a] _ _ hr e0 (hbind s₁ (.ref a)) (.cons rfl .nil) hsp) fun r s' h => ?_
  rcases r with e | fl
  · exact (hCX H e s' h).elim
  rcases fl with _ | _ | _ | u
  all_goals first | exact False.elim h | skip
  obtain ⟨v, H', os, bare, un, hok', rv, q⟩ := h
  cases (show v = .bl true from q)
  cases (show u = Value.bool true from rv)
  refine ⟨rfl, OldK.of_keep fun b o e => ?_, os, bare⟩
  rcases hO b with z | ⟨ob, xs, z⟩
  · exact un.keep b o e z (fun y => by cases y) (fun y => by cases y)
  · have e1 := (e0.hok b _ z).1
    have e2 := (hok' b _ (un.frzs b ob _ z)).1
    rw [e] at e1
    cases e1
    exact e2
theorem law_callG (KX : K.In s₁.heap) (hns : s₁.heap.Ns mainGlobals mg) (hb : s₁.heap.Ns builtinsNs mb) (hbb : ∀ x : Str, x ≠ "__name__" → mb x = bootBuiltins x) (hlim : s₁.heap.NoLimit) (hg : s₁.gens = #[])
    (ha : s₁.heap.get? a = some { cls := .type "list", data := .seq vs.toArray }) (hi : IntsAre vs ns) (hl : ns.length ≤ sizeLine) (hr : RoomG k callerA)
    (F : ∀ base : Heap, K.In base → base.Ns mainGlobals mg → FnG P w K mg base CX k fa fd [x] sp) (hbind : ∀ (s : Shared) (u : Value), BindsTo s fd ⟨[u], []⟩ [(x, u)])
    (hsp : ∀ H : Hp, Only H → SqL K H a (ns.map V.int) → sp [.ref a] H (fun v _ => v = .bl true) fun _ _ _ => False)
    (hCX : ∀ H e s', CX [] H s₁ (fun _ _ _ => False) e s' → False) :
    codeAny (model P w) callerA (.call (.ref fa) ⟨[.ref a], []⟩) (fun r s' => r = .ok (.ret (.bool true)) ∧ OldK s₁.heap s'.heap ∧ s'.os = s₁.os ∧ AllBare s'.gens) s₁ := by
  have go : ∀ H : Hp, Only H → SqL K H a (ns.map V.int) → HOk P w H s₁.heap → (∀ b, b ≠ a → H b = none) → (∀ o, K.lookup a = some o → H a = none) →
      codeAny (model P w) callerA (.call (.ref fa) ⟨[.ref a], []⟩) (fun r s' => r = .ok (.ret (.bool true)) ∧ OldK s₁.heap s'.heap ∧ s'.os = s₁.os ∧ AllBare s'.gens) s₁ := by
    intro H hO hS hok oth own
    obtain ⟨kin, nm, e0⟩ := ground_of KX hns hb hbb hlim hg hok (fun b o es ep e d => oth b fun z => by rw [z, ha] at e; cases e; cases d) fun b o e => by
      by_cases z : b = a
      · subst z; exact own o e
      · exact oth b z
    exact law_runG (F _ kin nm) hr e0 hbind hO (hsp H hO hS) hCX
  have rv := vals_ints hi
  cases hk : K.lookup a with
  | some o =>
    have e := KX a o hk
    rw [ha] at e
    cases e
    exact go (fun _ => none) (fun _ => .inl rfl) (.inr ⟨_, vs.toArray, _, hk, rfl, rfl, rfl, by rw [List.size_toArray, hi.length]; exact hl, by simpa using rv⟩) (fun b u z => nomatch (show (none : Option HO) = some u from z)) (fun _ _ => rfl) fun _ _ => rfl
  | none =>
    refine go (upd (fun _ => none) a (.frz { cls := .type "list", data := .seq vs.toArray } (.lst (ns.map V.int)))) (fun b => ?_) (.inl (.inr ⟨_, upd_same⟩)) (fun b u z => ?_) (fun b h => upd_ne h) fun o z => by rw [hk] at z; cases z
    · by_cases h : b = a
      · subst h; exact .inr ⟨_, _, upd_same⟩
      · exact .inl (upd_ne h)
    · by_cases h : b = a
      · subst h
        rw [upd_same] at z
        cases z
        exact ⟨ha, by rw [List.length_map]; exact hl, vs, _, rv, ha⟩
      · rw [upd_ne h] at z
        cases z
end
theorem walk_ofG {l : PySem.W.OpenLaw} {n k : Nat} {q : Program} {loose : List Str} {XP : (Str → Option Value) → Heap → Prop} {YP : World → Heap → Prop} {d : DefRec} {CX : CXT} {x : Str}
    (hn : l.most = some n) (hn2 : n ≤ sizeLine) (hdf : d.params.defaults = []) (hr : RoomG k callerA)
    (F : ∀ (w : World) (mg : Str → Option Value) (fa : Addr) (h : Heap), YP w h → h.Ns mainGlobals mg → mg d.name = some (.ref fa) →
      ∃ (K : PySem.W.Frag) (fd : FuncData) (sp : Sp), K.In h ∧ (∀ (s : Shared) (u : Value), BindsTo s fd ⟨[u], []⟩ [(x, u)]) ∧
        (∀ (H : Hp) (a : Addr) (ns : List Int), ns.length ≤ n → Only H → SqL K H a (ns.map V.int) → sp [.ref a] H (fun v _ => v = .bl true) fun _ _ _ => False) ∧
        ∀ base : Heap, K.In base → base.Ns mainGlobals mg → FnG l.prog w K mg base CX k fa fd [x] sp)
    (hCX : ∀ (H : Hp) (s : Shared) (e : Value) (s' : Shared), CX [] H s (fun _ _ _ => False) e s' → False) :
    PySem.W.WalkO q loose XP YP l.row.toRowW d [] (fun f vs => PySem.call f vs) := by
  refine Att.attach_call hn hdf fun w s₀ s₁ mg mb fa o pm cd doc a vs ns G Y ho hd hcd hmg hobj hints hlen hg => ?_
  obtain ⟨K, fd, sp, KX, hb, hsp, hF⟩ := F w mg fa _ Y G.T.g hmg
  exact law_callG KX G.T.g G.T.b G.T.builtins G.T.nolimit hg hobj hints (Nat.le_trans hlen hn2) hr hF hb (fun H hO hS => hsp H a ns hlen hO hS) fun H e s' => hCX H s₁ e s'
end M

/-! ### the head's facts, own errors among them -/
namespace M
open PySem PySem.Spec PyProof.Rows L2
/-- a def, its closure's names told -/
structure DefX where
  at_ : Str × Option Str
  name : Str
  qual : Str
  params : Arguments
  body : List Stmt
  scope : Scope
  dfl : List He.Dv := []
  kwd : List (Str × He.Dv) := []
  clos : List Str := []
abbrev FnX : Type := Option (Str × Str × Arguments × FuncBody × Scope × Addr × List Str × Addr)
def fnX (K : PySem.W.Frag) (p : Str × Option Str) : FnX := match K.lookup (He.fAd K p) with
  | some ⟨_, _, .func fd, _⟩ => some (fd.name, fd.qualname, fd.params, fd.body, fd.scope, fd.globals, fd.closure.map (·.1), fd.builtins)
  | _ => none
def DefX.val (d : DefX) : FnX := some (d.name, d.qual, d.params, .stmts d.body, d.scope, mainGlobals, d.clos, builtinsNs)
def DefX.dvs (K : PySem.W.Frag) (d : DefX) : List V := d.dfl.map (He.Dv.v K)
def DefX.kws (K : PySem.W.Frag) (d : DefX) : List (Str × V) := d.kwd.map fun q => (q.1, q.2.v K)
def DefX.ok (K : PySem.W.Frag) (d : DefX) : Bool := PySem.W.keepIn K (.ref (He.fAd K d.at_)) && (match K.lookup (He.fAd K d.at_) with
  | some ⟨_, _, .func fd, _⟩ => PySem.W.codeIn K fd.code d.qual && (He.dflB K fd.defaults (d.dvs K) && He.kwdB K fd.kwdefaults (d.kws K))
  | _ => false)
theorem DefX.look {K : PySem.W.Frag} {d : DefX} (e : fnX K d.at_ = d.val) (c : d.ok K = true) : PySem.W.keepIn K (.ref (He.fAd K d.at_)) = true ∧ ∃ (oc : Value) (od : Option Addr) (cl : List (Str × Addr)) (dV kV doc pm : Value) (an : Option Addr) (cdv ct : Value) (osl : Array (Option Value)),
    K.lookup (He.fAd K d.at_) = some ⟨oc, od, .func (PySem.W.fnX d.name d.qual d.params d.body d.scope cl dV kV doc pm an cdv ct), osl⟩ ∧ cl.map (·.1) = d.clos ∧ PySem.W.codeIn K cdv d.qual = true ∧ DflV K dV (d.dvs K) ∧ KwdV K kV (d.kws K) := by
  obtain ⟨kp, c2⟩ := He.ba c
  refine ⟨kp, ?_⟩
  unfold M.fnX at e
  cases q : K.lookup (He.fAd K d.at_) with
  | none =>
    rw [q] at c2
    cases c2
  | some o =>
    obtain ⟨oc, od, dt, osl⟩ := o
    rw [q] at c2 e
    cases dt with
    | func fd =>
      obtain ⟨n1, n2, n3, n4, n5, n6, n7, n8, n9, n10, n11, n12, n13, n14, n15⟩ := fd
      have e2 : (some (n1, n2, n3, n4, n5, n6, n7.map (·.1), n15) : FnX) = some (d.name, d.qual, d.params, .stmts d.body, d.scope, mainGlobals, d.clos, builtinsNs) := e
      simp only [Option.some.injEq, Prod.mk.injEq] at e2
      obtain ⟨h1, h2, h3, h4, h5, h6, h7, h8⟩ := e2
      subst h1 h2 h3 h4 h5 h6 h8
      obtain ⟨k1, k2⟩ := He.ba (show (PySem.W.codeIn K n13 d.qual && (He.dflB K n8 (d.dvs K) && He.kwdB K n9 (d.kws K))) = true from c2)
      obtain ⟨k3, k4⟩ := He.ba k2
      exact ⟨oc, od, n7, n8, n9, n10, n11, n12, n13, n14, osl, rfl, h7, k1, He.dflB_ok k3, He.kwdB_ok k4⟩
    | _ => cases c2
theorem DefX.funD {K : PySem.W.Frag} {d : DefX} (e : fnX K d.at_ = d.val) (c : d.ok K = true) (h : d.clos = []) : ∃ fd, FunD K d.name d.qual d.params d.body d.scope (d.dvs K) (d.kws K) (He.fAd K d.at_) fd := by
  obtain ⟨kp, oc, od, cl, dV, kV, doc, pm, an, cdv, ct, osl, lk, hc, h1, h2, h3⟩ := DefX.look e c
  rw [h] at hc
  obtain rfl : cl = [] := List.map_eq_nil_iff.mp hc
  exact ⟨_, ⟨oc, od, dV, kV, doc, pm, an, cdv, ct, osl, rfl, lk, h1, h2, h3⟩, kp⟩
abbrev FaX : Type := PySem.W.Frag → Bool
def asX (g : Addr → Option Obj) : Nat → List Addr
  | 0 => [mainGlobals, cStatics]
  | n + 1 => He.growD g (asX g n)
abbrev AlX : Type := Bool × List FnX
def obsX (fa : List FaX) (fn : List DefX) (K : PySem.W.Frag) : AlX := ((fa.all fun f => f K) && fn.all fun d => d.ok K, fn.map fun d => fnX K d.at_)
def valX (fn : List DefX) : AlX := (true, fn.map DefX.val)
def SaysX (fa : List FaX) (fn : List DefX) (K : PySem.W.Frag) : Prop := obsX fa fn K = valX fn
def obsXG (n : Nat) (fa : List FaX) (fn : List DefX) (g : Addr → Option Obj) : AlX := obsX fa fn (He.frG g (asX g n))
def hookX (n : Nat) (fa : List FaX) (fn : List DefX) : PySem.W.Hook where
  α := AlX
  obs := fun s => obsXG n fa fn s.heap.get?
  val := fun _ => valX fn
  says := fun _ h => ∃ K : PySem.W.Frag, K.In h ∧ SaysX fa fn K
  of := fun _ _ e => ⟨_, He.frG_in, e⟩
  keeps := fun _ _ _ ⟨K, hK, c⟩ k => ⟨K, PySem.W.Frag.In.keeps hK k, c⟩
theorem obsXG_eq {n : Nat} {fa : List FaX} {fn : List DefX} {g : Addr → Option Obj} {s : Shared} (h : ∀ a, g a = s.heap.get? a) : obsXG n fa fn g = (hookX n fa fn).obs s := by
  have e : g = s.heap.get? := funext h
  rw [e] <;> rfl
section
variable {fa : List FaX} {fn : List DefX} {K : PySem.W.Frag}
theorem SaysX.fact (c : SaysX fa fn K) (i : Nat) {f : FaX} (h : fa[i]? = some f := by rfl) : f K = true := by
  have c1 := (He.ba (show ((fa.all fun f => f K) && fn.all fun d => d.ok K) = true from congrArg (fun z : AlX => z.1) c)).1
  exact List.all_eq_true.mp c1 f (List.mem_of_getElem? h)
theorem SaysX.def0 (c : SaysX fa fn K) (i : Nat) {d : DefX} (h : fn[i]? = some d := by rfl) : fnX K d.at_ = d.val ∧ d.ok K = true := by
  have c2 := (He.ba (show ((fa.all fun f => f K) && fn.all fun d => d.ok K) = true from congrArg (fun z : AlX => z.1) c)).2
  have e : fn.map (fun d => fnX K d.at_) = fn.map DefX.val := congrArg (fun z : AlX => z.2) c
  have e2 : (fn.map fun d => fnX K d.at_)[i]? = (fn.map DefX.val)[i]? := by rw [e]
  rw [List.getElem?_map, List.getElem?_map, h] at e2
  exact ⟨Option.some.inj e2, List.all_eq_true.mp c2 d (List.mem_of_getElem? h)⟩
theorem SaysX.def_ (c : SaysX fa fn K) (i : Nat) {d : DefX} (h : fn[i]? = some d := by rfl) (hc : d.clos = [] := by rfl) : ∃ fd, FunD K d.name d.qual d.params d.body d.scope (d.dvs K) (d.kws K) (He.fAd K d.at_) fd :=
  DefX.funD (c.def0 i h).1 (c.def0 i h).2 hc
end
end M

namespace M
open PySem PySem.Spec PyProof.Rows L2 PySem.HandSPX
/-- the class at C is an own error class -/
def oexB (K : PySem.W.Frag) (C : Addr) : Bool := match K.lookup C with
  | some ⟨c, _, .cls cd, sl⟩ => decide (c = .type "type") && (cd.hasDict && (!cd.hasDel && (match cd.mro, sl.toList with
    | .ref C' :: bm, [_, _, _, _, some (.builtin n), _] => decide (C' = C) && (decide (n = "ValueError.__new__") && refsVE bm)
    | _, _ => false)))
  | _ => false
theorem oexB_ok {K : PySem.W.Frag} {C : Addr} (h : oexB K C = true) : ∃ nm q N bs bm sn sub ab col dd k0 k1 k2 k3 k5, K.lookup C = some (excClassObj nm q C N bs bm true sn sub ab col dd k0 k1 k2 k3 k5 "ValueError.__new__") ∧ refsVE bm = true := by
  unfold oexB at h
  split at h
  · rename_i c dd cd sl ho
    obtain ⟨h1, h⟩ := He.ba h
    obtain ⟨h2, h⟩ := He.ba h
    obtain ⟨h3, h⟩ := He.ba h
    split at h
    · rename_i C' bm k0 k1 k2 k3 n k5 hm hs
      obtain ⟨h4, h⟩ := He.ba h
      obtain ⟨h5, h6⟩ := He.ba h
      obtain ⟨nm, bs, mro, N, qn, hd, sn, sub, ab, col, del⟩ := cd
      obtain ⟨sl⟩ := sl
      have e3 : del = false := by simpa using h3
      have e2 : hd = true := h2
      have e1 := of_decide_eq_true h1
      have e4 := of_decide_eq_true h4
      have e5 := of_decide_eq_true h5
      dsimp only at hm hs
      subst e1 e2 e3 e4 e5 hm hs
      exact ⟨nm, qn, N, bs, bm, sn, sub, ab, col, dd, k0, k1, k2, k3, k5, ho, h6⟩
    · cases h
  · cases h
def cellB (P : Program) (K : PySem.W.Frag) (C : Addr) (f : Addr) : Bool := match K.lookup f with
  | some ⟨_, _, .func fd, _⟩ => (match fd.code with
    | .ref cda => (match K.lookup cda with
      | some ⟨_, _, .fields vs, _⟩ => (match (vs[2]? : Option Value) with
        | some (.str file _) => (P.main.file : Str) == file
        | _ => false)
      | _ => false)
    | _ => false) && (match fd.closure with
      | [(_, cc)] => (match K.lookup cc with
        | some ⟨_, _, .cell (some (.ref D)), _⟩ => decide (D = C)
        | _ => false)
      | _ => false)
  | _ => false
def exB (P : Program) (x fl : Str) (K : PySem.W.Frag) : Bool :=
  He.eqO (PySem.W.nsIn K mainGlobals x) (some (some (.ref (He.ga K x)))) && (oexB K (He.ga K x) && (He.eqO (PySem.W.findIn K (.ref (He.ga K x)) "__setattr__") (some (some (.builtin "object.__setattr__"))) &&
  (decide (PySem.W.subIn K (.ref (He.ga K x)) (.type "BaseException") = some true) && (decide (PySem.W.typeIn K (.ref (He.ga K x)) = some (.type "type")) && (PySem.W.keepIn K (.ref (He.ga K x)) &&
  (He.eqO (PySem.W.findIn K (.ref (He.ga K x)) "__getattribute__") (some (some (.builtin "BaseException.__getattribute__"))) && (He.eqO (PySem.W.findIn K (.ref (He.ga K x)) "__getattr__") (some none) && (He.eqO (PySem.W.findIn K (.ref (He.ga K x)) fl) (some none) &&
  (PySem.W.hasDictIn K (He.ga K x) && (He.eqO (PySem.W.findIn K (.ref (He.ga K x)) "__init__") (some (some (.ref (He.ma K (He.ga K x) "__init__")))) && (decide (PySem.W.typeIn K (.ref (He.ma K (He.ga K x) "__init__")) = some (.type "function")) &&
  (cellB P K (He.ga K x) (He.ma K (He.ga K x) "__init__") && (He.eqO (PySem.W.nsIn K cStatics "thirdparty.any") (some none) && (He.eqO (PySem.W.ks_superIn K (He.ga K x) (He.ga K x) "__init__") (some (some (.builtin "ValueError.__init__"))) &&
  (decide (PySem.W.mroIn K (He.ga K x) (.ref (He.ga K x)) = some true) && (decide (PySem.W.subIn K (.ref (He.ga K x)) (.type "ValueError") = some true) && (He.eqO (PySem.W.findIn K (.ref (He.ga K x)) "__class__") (some (some (.builtin "object.__class__"))) &&
  (He.eqO (PySem.W.nsIn K mainGlobals "super") (some none) && decide (PySem.W.mroIn K (He.ga K x) (.type "object") = some true)))))))))))))))))))
theorem ex_get {K : PySem.W.Frag} : PySem.W.specialIn K (.builtin "object.__class__") "__get__" = some (some (.builtin "getset_descriptor.__get__")) ∧ PySem.W.takesIn K (.builtin "object.__class__") = some true := by
  constructor
  · kernel_rfl
  · kernel_rfl
section
variable {P : Program} {w : World} {K : PySem.W.Frag} {h : Heap} {mg : Str → Option Value} {x fl : Str}
theorem cell_of {C f : Addr} {oc : Value} {od : Option Addr} {osl : Array (Option Value)} {fd : FuncData} (lk : K.lookup f = some ⟨oc, od, .func fd, osl⟩) (c : cellB P K C f = true) :
    (∃ (cda : Addr), fd.code = .ref cda ∧ ∃ (ccl : Value) (cdd : Option Addr) (vs : Array Value) (ccs : Array (Option Value)) (file : Str) (tf : Tok), K.lookup cda = some ⟨ccl, cdd, .fields vs, ccs⟩ ∧ vs[2]? = some (.str file tf) ∧ ((P.main.file : Str) == file) = true) ∧
    ∃ (n : Str) (cc : Addr), fd.closure = [(n, cc)] ∧ ∃ (cl : Value) (cld : Option Addr) (csl : Array (Option Value)), K.lookup cc = some ⟨cl, cld, .cell (some (.ref C)), csl⟩ := by
  unfold cellB at c
  rw [lk] at c
  obtain ⟨c1, c2⟩ := He.ba c
  constructor
  · split at c1
    · rename_i cda e1
      split at c1
      · rename_i ccl cdd vs ccs e2
        split at c1
        · rename_i file tf e3
          exact ⟨cda, e1, ccl, cdd, vs, ccs, file, tf, e2, e3, c1⟩
        · cases c1
      · cases c1
    · cases c1
  · split at c2
    · rename_i n cc e1
      split at c2
      · rename_i cl cld D csl e2
        have e := of_decide_eq_true c2
        subst e
        exact ⟨n, cc, e1, cl, cld, csl, e2⟩
      · cases c2
    · cases c2
theorem ex_of {q : List Pos} {d : DefX} {ar : Arg} (X : K.In h) (G : h.Ns mainGlobals mg) (c : exB P x fl K = true) (D : fnX K d.at_ = d.val ∧ d.ok K = true) (hat : d.at_ = (x, some ("__init__" : Str))) (hn : d.name = "__init__") (hcl : d.clos = [("__class__" : Str)]) (hdf : d.dfl = [.non])
    (hb : d.body = eiB fl q) (hp : (d.params.posonlyargs ++ d.params.args).head? = some ar) (har : ar.arg = "self") (hsf : fl ≠ "self") (hdb : (fl == ("__debug__" : Str)) = false)
    (k1 : d.scope.kind = .function) (k2 : d.scope.isGenerator = false) (k3 : d.scope.isCoroutine = false) (k4 : d.scope.names.lookup ("self" : Str) = some .local) (k5 : d.scope.names.lookup fl = some .local) (k6 : d.scope.names.lookup ("super" : Str) = some .globalImplicit)
    (k7 : d.scope.names.lookup ("__class__" : Str) = some .free) (k8 : ∀ x ∈ d.scope.names, x.2 ≠ .cell) (htop : (P.main.scope.names.lookup ("super" : Str)).isSome = false)
    (hint : ∀ env : Env, env.scope = d.scope → interactive env = false)
    (hev : ∀ env : Env, env.scope = d.scope → ∃ pl : Sem Bool, eval (.Call (.Attribute (.Call (.Name "super" (qp q 0)) [] [] (qp q 1)) "__init__" (qp q 2)) [.Name fl (qp q 3)] [] (qp q 4)) env = (do
      let ov ← attributeBase (.Call (.Name "super" (qp q 0)) [] [] (qp q 1)) "__init__" env (eval (.Call (.Name "super" (qp q 0)) [] [] (qp q 1)) env)
      standAt (qp q 2).atName
      let (f, first) ← holding [ov] (getMethod ov "__init__" pl)
      callWith (qp q 4) f first (backTo (qp q 4) (starEach [.Name fl (qp q 3)] env)) []))
    (hsw : ∀ env : Env, env.scope = d.scope → swapsWith (.Name fl (qp q 8)) (some (.Attribute (.Name "self" (qp q 6)) fl (qp q 7))) (qp q 9).line env = pure false)
    (hb2 : ∀ (T : Addr) (cl : List (Str × Addr)) (kV doc pm : Value) (an : Option Addr) (cdv ct u v : Value), ∃ k, bindArgs (PySem.W.fnX d.name d.qual d.params d.body d.scope cl (.ref T) kV doc pm an cdv ct) ⟨[u, v], []⟩ = seqItems? (.ref T) >>= k ∧ k (some #[.none]) = pure [(("self" : Str), u), (fl, v)])
    (hb1 : ∀ (T : Addr) (cl : List (Str × Addr)) (kV doc pm : Value) (an : Option Addr) (cdv ct u : Value), ∃ k, bindArgs (PySem.W.fnX d.name d.qual d.params d.body d.scope cl (.ref T) kV doc pm an cdv ct) ⟨[u], []⟩ = seqItems? (.ref T) >>= k ∧ k (some #[.none]) = pure [(("self" : Str), u), (fl, .none)])
    (hbk : ∀ (T : Addr) (cl : List (Str × Addr)) (kV doc pm : Value) (an : Option Addr) (cdv ct u v : Value), ∃ k, bindArgs (PySem.W.fnX d.name d.qual d.params d.body d.scope cl (.ref T) kV doc pm an cdv ct) ⟨[u], [(fl, v)]⟩ = seqItems? (.ref T) >>= k ∧ k (some #[.none]) = pure [(("self" : Str), u), (fl, v)]) :
    ExcAt P w K mg x fl (He.ga K x) ∧ ExcK K fl (He.ga K x) := by
  unfold exB at c
  simp only [Bool.and_eq_true, decide_eq_true_eq] at c
  obtain ⟨c1, c2, c3, c4, c5, c6, c7, c8, c9, c10, c11, c12, c13, c14, c15, c16, c17, c18, c19, c20⟩ := c
  have T : OexC K (He.ga K x) := ⟨oexB_ok c2, He.eqO_ok c3, c4, c5, c6⟩
  have hsup := PySem.W.mg_none_of X G (He.eqO_ok c19)
  obtain ⟨_, oc, od, cl, dV, kV, doc, pm, an, cdv, ct, osl, lk, hc, hcode, hD, _⟩ := DefX.look D.1 D.2
  have hf : He.fAd K d.at_ = He.ma K (He.ga K x) "__init__" := by rw [hat]; rfl
  rw [hf] at lk
  obtain ⟨⟨cda, e1, z1⟩, n, cc, e2, z2⟩ := cell_of lk c13
  obtain rfl : cdv = .ref cda := e1
  obtain rfl : cl = [(n, cc)] := e2
  rw [hcl] at hc
  obtain rfl : n = "__class__" := by simpa using hc
  have hdv : d.dvs K = [.non] := by unfold DefX.dvs; rw [hdf]; rfl
  rw [hdv] at hD
  rcases hD with ⟨z, _⟩ | ⟨_, Ta, oT, its, nT, rfl, lT, hT, rT⟩
  · cases z
  obtain ⟨u0, rfl, ru⟩ := vals_one rT
  obtain rfl : u0 = .none := ru
  have bnd : ∀ {args : Args} {r : List (Str × Value)}, (∃ k, bindArgs (PySem.W.fnX d.name d.qual d.params d.body d.scope [("__class__", cc)] (.ref Ta) kV doc pm an (.ref cda) ct) args = seqItems? (.ref Ta) >>= k ∧ k (some #[.none]) = pure r) → ∀ s : Shared, K.In s.heap →
      BindsTo s (PySem.W.fnX d.name d.qual d.params d.body d.scope [("__class__", cc)] (.ref Ta) kV doc pm an (.ref cda) ct) args r := by
    rintro args r ⟨k, e1, e2⟩ s KX
    refine BindsTo.of_looks fun M => ?_
    rw [e1]
    exact looks_items KX lT hT (.of_pure e2)
  refine ⟨⟨PySem.W.mg_of X G (He.eqO_ok c1), T, He.eqO_ok c7, He.eqO_ok c8, He.eqO_ok c9, c10, He.ma K (He.ga K x) "__init__", _, He.eqO_ok c11, c12, ?_, fun s u v KX => bnd (hb2 _ _ _ _ _ _ _ _ _ _) s KX, fun s u KX => bnd (hb1 _ _ _ _ _ _ _ _ _) s KX, fun s u v KX => bnd (hbk _ _ _ _ _ _ _ _ _ _) s KX⟩,
    ⟨He.eqO_ok c7, He.eqO_ok c8, He.eqO_ok c9, c10, c4, He.eqO_ok c18, ex_get.1, ex_get.2, c20⟩⟩
  intro A R s args x' t0 v KX lim Gs Bs hx hnx hroom hbind hq
  obtain ⟨mb, B1, B2⟩ := Bs
  rw [hn, hb] at lk hbind
  exact ini_run (mg := mg) (mb := mb) KX lim Gs B1 hsup ((B2 _ (by decide)).trans ve_slot) T (He.eqO_ok c9) lk hcode z1 z2 hp har hsf hdb k1 k2 k3 k4 k5 k6 k7 k8 htop (He.eqO_ok c14) (He.eqO_ok c15) c16 c17 hint hev hsw hx hnx hroom hbind hq
end
end M

namespace M
open PySem PySem.Spec PyProof.Rows L2
section
variable {X : Cx} {k : Nat} {ps : List Str} {sp : Sp} {dvs : List V} {W : WX} {x : Str} {p pos : Pos} {e : Expr} {es : List Expr} {t : TA}
theorem me_callS (C : CalG X.prog X.w X.K X.mg X.base (L2.CX X.prog X.w) x k ps dvs sp) (hr : RoomG k X.A) (hg : Gl X x) (tk : Takes X W) (ha : PA X (e :: es) t) (hdb : (x == ("__debug__" : Str)) = false := by decide)
    (he : starEach (e :: es) X.env = (false, eval e X.env) :: starEach es X.env := by rfl) (hpl : (backTo pos (starEach es X.env)).any (·.1) = false := by rfl) : PE X (.Call (.Name x p) (e :: es) [] pos) (tCallSD sp dvs (WE W) t) := by
  obtain ⟨f, fd, ds, F, hm, hk, hb, hd⟩ := C.ex
  refine ⟨fun pins s σ H Q I h => wpAny_Call_Name_kw (ld_glob I hg hm (PySem.W.callWith_K (h₀ := X.base) I.ok.mod.kin hk (thn (ha.run pos pins s σ H _ I h) fun us s1 ⟨vs, H1, I1, r, q⟩ => ⟨I1.kIn, ?_⟩) he hpl) hdb)⟩
  have r2 : Vals (vs ++ dvs) (us ++ ds) := r.append hd
  refine wpAny_call (codeAny_mono (F.run X.A X.stack s1 H1 ⟨us, []⟩ (us ++ ds) (vs ++ dvs) Q (WE W σ) hr I1.env0 (hb s1 us I1.kIn (r2.length.symm.trans (F.len _ _ _ _ q))) r2 q) fun r s' hq => ?_)
  rcases r with er | fl
  · exact passAt tk σ pins H1 s1 er s' I1 hq
  · cases fl with
    | ret u => exact I1.after hq
    | next => exact False.elim hq
    | brk => exact False.elim hq
    | cont => exact False.elim hq
theorem me_callG0 {CX : CXT} {E : XK} (C : CalG X.prog X.w X.K X.mg X.base CX x k ps dvs sp) (hr : RoomG k X.A) (hg : Gl X x) (hx : Passes CX X E) (hdb : (x == ("__debug__" : Str)) = false := by decide) : PE X (.Call (.Name x p) [] [] pos) (tCall sp dvs E tNil) := by
  obtain ⟨f, fd, ds, F, hm, hk, hb, hd⟩ := C.ex
  refine ⟨fun pins s σ H Q I h => wpAny_Call_Name_kw (ld_glob I hg hm (PySem.W.callWith_K0 I.kIn hk ?_) hdb)⟩
  refine wpAny_call (codeAny_mono (F.run X.A X.stack s H ⟨[], []⟩ ([] ++ ds) ([] ++ dvs) Q E hr I.env0 (hb s [] I.kIn (hd.length.symm.trans (F.len _ _ _ _ h))) hd h) fun r s' hq => ?_)
  rcases r with er | fl
  · exact hx pins σ H s er s' I hq
  · cases fl with
    | ret u => exact I.after hq
    | next => exact False.elim hq
    | brk => exact False.elim hq
    | cont => exact False.elim hq
theorem CalG.mono {P : Program} {w : World} {K : PySem.W.Frag} {mg : Str → Option Value} {base : Heap} {CX : CXT} {x : Str} {k j : Nat} {ps : List Str} {dvs : List V} {sp : Sp} (C : CalG P w K mg base CX x k ps dvs sp) (h : k ≤ j) : CalG P w K mg base CX x j ps dvs sp := by
  obtain ⟨f, fd, ds, F, r⟩ := C.ex
  exact ⟨f, fd, ds, F.mono h, r⟩
end
end M
namespace M
open PySem PySem.Spec PyProof.Rows L2
/-- no error is wished for: none comes -/
theorem passF {X : Cx} : Passes (L2.CX X.prog X.w) X E0 := fun _ _ _ _ _ _ _ c => by
  obtain ⟨_, _, _, _, _, _, _, _, _, _, _, _, z⟩ := c
  exact z.elim
end M

namespace M
open PySem PySem.Spec PyProof.Rows L2
/-- (a, b, ..) = a tuple or a list -/
def mgSeq (K : PySem.W.Frag) (n : Nat) (t : TGs) : TG := fun v σ H Q => match v with
  | .ref a => ∃ xs, (SqT K H a xs ∨ SqL K H a xs) ∧ xs.length = n ∧ t xs σ H Q
  | _ => False
theorem mg_seq {X : Cx} {es : List Expr} {k : Nat} {t : TGs} {n : Nat} {pos : Pos} (hc : X.calm = true) (h : PGs X es t)
    (hn : (assignEach es X.env).length = n := by rfl) (hst : (assignEach es X.env).findIdx? (·.1) = none := by rfl) : PG X (.Tuple es k pos) (mgSeq X.K n t) := by
  refine ⟨fun pins s σ H v u Q I r q => ?_⟩
  unfold mgSeq at q
  split at q
  · obtain ⟨xs, h1 | h1, h2, h3⟩ := q
    · exact (pg_tup hc h hn hst).run pins s σ H _ u Q I r ⟨_, xs, rfl, h1, h2, h3⟩
    · exact (pg_unl hc h hn hst).run pins s σ H _ u Q I r ⟨_, xs, rfl, h1, h2, h3⟩
  · exact q.elim
end M

/-! ### comprehensions with two clauses; sorted texts -/
namespace M
open PySem PySem.Spec PyProof.Rows L2
section
variable {X : Cx}
/-- sorted(l), l a list of texts of any length -/
def mSorted (K : PySem.W.Frag) : List V → Hp → VK → Prop := fun vs H Q => match vs with
  | [.ref a] => ∃ xs : List Str, SqL K H a (xs.map V.str) ∧ ∀ (ys : List Str) (p : Addr), ys.Perm xs → sortedS ys = true → H p = none → Q (.ref p) (upd H p (.lst (ys.map V.str)))
  | _ => False
theorem call_sortedM : CallR X (.builtin "sorted") (mSorted X.K) := by
  intro pins s σ H vs us Q I r h
  unfold mSorted at h
  split at h
  · rename_i a
    obtain ⟨xs, hs, q⟩ := h
    obtain ⟨its, rv, hl, hz⟩ := I.list hs
    rw [Vals.ref1 r]
    refine PyProof.Rows.sorted_strsAny hl.isList rv.strs (by rw [← rv.length]; exact hz) fun out ys h1 h2 h3 => ?_
    obtain ⟨ep, he'⟩ := PyProof.Rows.sortedAll_at s.heap its out
    have hlen : (ys.map V.str).length ≤ sizeLine := by
      rw [List.length_map, h2.length_eq]
      rw [List.length_map] at hz
      exact hz
    exact ⟨.ref _, upd H (s.heap.objs.size + 1) (.lst (ys.map V.str)), I.laid (t' := s.toks) (fun _ _ => PyProof.Rows.sortedAll_old) (Nat.le_succ _) ⟨hlen, out.toList, ep, vals_of_strs h1, he'⟩, rfl, q ys _ h2 h3 (I.hok.fresh (Nat.le_succ _))⟩
  · exact h.elim
end
/-- what a clause's source hands on -/
def inner (s : Src) (g1 : TG) (tt1 : TT) (te : TE) (vs1 : List Nat) (τ : Sl) (D : Addr) (N : Hp → Prop) (H : Hp) : Prop := match s with
  | .v G L => cV G g1 tt1 te vs1 τ D N L H
  | .p G L => cP G g1 tt1 te vs1 τ D N L H
def dV (G : Hp → Prop) (g : TG) (tt : TT) (wi1 : MI) (g1 : TG) (tt1 : TT) (te : TE) (vs vs1 : List Nat) (τ : Sl) (D : Addr) (Q : Hp → Prop) : List V → Hp → Prop
  | [], H => G H ∧ Q H
  | x :: r, H => G H ∧ g x τ H fun σ2 H2 => wipe σ2 vs = τ ∧ tt σ2 H2 fun b H3 => if b = true then wi1 σ2 H3 fun s H4 => inner s g1 tt1 te vs1 (wipe σ2 vs1) D (dV G g tt wi1 g1 tt1 te vs vs1 τ D Q r) H4 else dV G g tt wi1 g1 tt1 te vs vs1 τ D Q r H3
def dP (G : Hp → Prop) (g : TG) (tt : TT) (wi1 : MI) (g1 : TG) (tt1 : TT) (te : TE) (vs vs1 : List Nat) (τ : Sl) (D : Addr) (Q : Hp → Prop) : List (V × V) → Hp → Prop
  | [], H => G H ∧ Q H
  | x :: r, H => G H ∧ ∀ T, H T = none → g (.ref T) τ (upd H T (.tup [x.1, x.2])) fun σ2 H2 => wipe σ2 vs = τ ∧ tt σ2 H2 fun b H3 => if b = true then wi1 σ2 H3 fun s H4 => inner s g1 tt1 te vs1 (wipe σ2 vs1) D (dP G g tt wi1 g1 tt1 te vs vs1 τ D Q r) H4 else dP G g tt wi1 g1 tt1 te vs vs1 τ D Q r H3
def mLc2 (wi : MI) (g : TG) (tt : TT) (wi1 : MI) (g1 : TG) (tt1 : TT) (te : TE) (vs vs1 : List Nat) : TE := fun σ H Q => wi σ H fun s H1 => ∀ D, H1 D = none → match s with
  | .v G L => dV G g tt wi1 g1 tt1 te vs vs1 (wipe σ vs) D (Q (.ref D)) L (upd H1 D (.lst []))
  | .p G L => dP G g tt wi1 g1 tt1 te vs vs1 (wipe σ vs) D (Q (.ref D)) L (upd H1 D (.lst []))
/-- the second source's own loop, over what feeds -/
theorem inner_W {J : It} {s : Src} (f : Feeds J s) {g1 : TG} {tt1 : TT} {te : TE} {vs1 : List Nat} {σ2 : Sl} {D : Addr} {N : Hp → Prop} {H4 : Hp} (z : inner s g1 tt1 te vs1 (wipe σ2 vs1) D N H4) :
    ∃ W1 : Nat → Nat → Hp → Prop, (∃ m, W1 0 m H4) ∧ ∀ j k H, W1 j k H →
      (J.stop j H ∧ N H) ∨ (J.go j H ∧ ∃ Nx1 : Hp → Prop, (∀ H', Nx1 H' → ∃ k', k' < k ∧ W1 (j + 1) k' H') ∧ ∀ x H', J.yld j H x H' → g1 x (wipe σ2 vs1) H' fun σ3 H5 => wipe σ3 vs1 = wipe σ2 vs1 ∧ tt1 σ3 H5 fun b H6 =>
        if b = true then te σ3 H6 fun y H7 => ∃ acc, H7 D = some (.lst acc) ∧ acc.length < sizeLine ∧ Nx1 (upd H7 D (.lst (acc ++ [y]))) else Nx1 H6) := by
  cases s with
  | v G L =>
    have w : Walk J L.length G (YAt L) := f
    refine ⟨fun i m H => m = L.length - i ∧ i ≤ L.length ∧ cV G g1 tt1 te vs1 (wipe σ2 vs1) D N (L.drop i) H, ⟨_, rfl, Nat.zero_le _, z⟩, ?_⟩
    rintro i m H ⟨rfl, hi, p⟩
    by_cases hlt : i < L.length
    · refine .inr ⟨w.goes i H hlt (cV_G p), fun H' => cV G g1 tt1 te vs1 (wipe σ2 vs1) D N (L.drop (i + 1)) H', fun H' p' => ⟨L.length - (i + 1), by omega, rfl, hlt, p'⟩, fun x H' y => ?_⟩
      obtain ⟨e, hx⟩ := w.yields i H x H' hlt (cV_G p) y
      subst e
      rw [drop_at hx] at p
      exact p.2
    · have e : i = L.length := by omega
      subst e
      refine .inl ⟨w.stops H (cV_G p), ?_⟩
      rw [List.drop_length] at p
      exact p.2
  | p G L =>
    have w : Walk J L.length G (YPair (fun i => L[i]?.map (·.1)) (fun i => L[i]?.map (·.2))) := f
    refine ⟨fun i m H => m = L.length - i ∧ i ≤ L.length ∧ cP G g1 tt1 te vs1 (wipe σ2 vs1) D N (L.drop i) H, ⟨_, rfl, Nat.zero_le _, z⟩, ?_⟩
    rintro i m H ⟨rfl, hi, p⟩
    by_cases hlt : i < L.length
    · refine .inr ⟨w.goes i H hlt (cP_G p), fun H' => cP G g1 tt1 te vs1 (wipe σ2 vs1) D N (L.drop (i + 1)) H', fun H' p' => ⟨L.length - (i + 1), by omega, rfl, hlt, p'⟩, fun x H' y => ?_⟩
      obtain ⟨T, a, b, e1, e2, e3, e4, e5⟩ := w.yields i H x H' hlt (cP_G p) y
      subst e1 e3
      have hx : L[i]? = some L[i] := List.getElem?_eq_getElem hlt
      rw [drop_at hx] at p
      have q := p.2 T e2
      have e4' : L[i]?.map (·.1) = some a := e4
      have e5' : L[i]?.map (·.2) = some b := e5
      rw [hx] at e4' e5'
      cases e4'
      cases e5'
      exact q
    · have e : i = L.length := by omega
      subst e
      refine .inl ⟨w.stops H (cP_G p), ?_⟩
      rw [List.drop_length] at p
      exact p.2
theorem dV_G {G : Hp → Prop} {g : TG} {tt : TT} {wi1 : MI} {g1 : TG} {tt1 : TT} {te : TE} {vs vs1 : List Nat} {τ : Sl} {D : Addr} {Q : Hp → Prop} {L : List V} {H : Hp} (h : dV G g tt wi1 g1 tt1 te vs vs1 τ D Q L H) : G H := by
  cases L <;> exact h.1
theorem dP_G {G : Hp → Prop} {g : TG} {tt : TT} {wi1 : MI} {g1 : TG} {tt1 : TT} {te : TE} {vs vs1 : List Nat} {τ : Sl} {D : Addr} {Q : Hp → Prop} {L : List (V × V)} {H : Hp} (h : dP G g tt wi1 g1 tt1 te vs vs1 τ D Q L H) : G H := by
  cases L <;> exact h.1
def clG (g : TG) : TG := fun v σ H Q => ∃ Q' : Sl → Hp → Prop, g v σ H Q' ∧ ∀ σ' H', Q' σ' H' → Q σ' H'
theorem pg_cl {X : Cx} {e : Expr} {g : TG} (h : PG X e g) : PG X e (clG g) := ⟨fun pins s σ H v u Q I r ⟨Q', q, w⟩ => thn (h.run pins s σ H v u Q' I r q) fun _ _ ⟨σ', H', I', z⟩ => ⟨σ', H', I', w _ _ z⟩⟩
theorem pts_cl {X : Cx} {es : List Expr} {t : TT} (h : PTs X es t) : PTs X es (clT t) := ⟨fun pins s σ H Q I ⟨Q', q, w⟩ => thn (h.run pins s σ H Q' I q) fun _ _ ⟨H', I', z⟩ => ⟨H', I', w _ H' z⟩⟩
theorem lc2_toM {wi : MI} {g : TG} {tt : TT} {wi1 : MI} {g1 : TG} {tt1 : TT} {te : TE} {vs vs1 : List Nat} {σ : Sl} {H : Hp} {Q : VK} (q : mLc2 wi g tt wi1 g1 tt1 te vs vs1 σ H Q) : tLc2 (toTI wi) (clG g) (clT tt) (toTI wi1) g1 tt1 te vs vs1 σ H Q :=
  ⟨_, q, fun s H1 J z f D hD => by
    have z := z D hD
    have nxt : ∀ {N : Hp → Prop} {σ2 : Sl} {H3 : Hp} {b : Bool} (q : if b = true then wi1 σ2 H3 fun s H4 => inner s g1 tt1 te vs1 (wipe σ2 vs1) D N H4 else N H3),
        if b = true then toTI wi1 σ2 H3 fun J1 H4 => ∃ W1 : Nat → Nat → Hp → Prop, (∃ m, W1 0 m H4) ∧ ∀ j k H, W1 j k H →
          (J1.stop j H ∧ N H) ∨ (J1.go j H ∧ ∃ Nx1 : Hp → Prop, (∀ H', Nx1 H' → ∃ k', k' < k ∧ W1 (j + 1) k' H') ∧ ∀ x H', J1.yld j H x H' → g1 x (wipe σ2 vs1) H' fun σ3 H5 => wipe σ3 vs1 = wipe σ2 vs1 ∧ tt1 σ3 H5 fun b H6 =>
            if b = true then te σ3 H6 fun y H7 => ∃ acc, H7 D = some (.lst acc) ∧ acc.length < sizeLine ∧ Nx1 (upd H7 D (.lst (acc ++ [y]))) else Nx1 H6) else N H3 := fun {N σ2 H3 b} q => by
      cases b with
      | false => exact q
      | true => exact ⟨_, q, fun s1 H4 J1 z1 f1 => inner_W f1 z1⟩
    cases s with
    | v G L =>
      have w : Walk J L.length G (YAt L) := f
      refine ⟨fun i m H => m = L.length - i ∧ i ≤ L.length ∧ dV G g tt wi1 g1 tt1 te vs vs1 (wipe σ vs) D (Q (.ref D)) (L.drop i) H, ⟨_, rfl, Nat.zero_le _, z⟩, ?_⟩
      rintro i m H ⟨rfl, hi, p⟩
      by_cases hlt : i < L.length
      · refine .inr ⟨w.goes i H hlt (dV_G p), fun H' => dV G g tt wi1 g1 tt1 te vs vs1 (wipe σ vs) D (Q (.ref D)) (L.drop (i + 1)) H', fun H' p' => ⟨L.length - (i + 1), by omega, rfl, hlt, p'⟩, fun x H' y => ?_⟩
        obtain ⟨e, hx⟩ := w.yields i H x H' hlt (dV_G p) y
        subst e
        rw [drop_at hx] at p
        exact ⟨_, p.2, fun σ2 H2 h => ⟨h.1, _, h.2, fun b H3 h => nxt h⟩⟩
      · have e : i = L.length := by omega
        subst e
        refine .inl ⟨w.stops H (dV_G p), ?_⟩
        rw [List.drop_length] at p
        exact p.2
    | p G L =>
      have w : Walk J L.length G (YPair (fun i => L[i]?.map (·.1)) (fun i => L[i]?.map (·.2))) := f
      refine ⟨fun i m H => m = L.length - i ∧ i ≤ L.length ∧ dP G g tt wi1 g1 tt1 te vs vs1 (wipe σ vs) D (Q (.ref D)) (L.drop i) H, ⟨_, rfl, Nat.zero_le _, z⟩, ?_⟩
      rintro i m H ⟨rfl, hi, p⟩
      by_cases hlt : i < L.length
      · refine .inr ⟨w.goes i H hlt (dP_G p), fun H' => dP G g tt wi1 g1 tt1 te vs vs1 (wipe σ vs) D (Q (.ref D)) (L.drop (i + 1)) H', fun H' p' => ⟨L.length - (i + 1), by omega, rfl, hlt, p'⟩, fun x H' y => ?_⟩
        obtain ⟨T, a, b, e1, e2, e3, e4, e5⟩ := w.yields i H x H' hlt (dP_G p) y
        subst e1 e3
        have hx : L[i]? = some L[i] := List.getElem?_eq_getElem hlt
        rw [drop_at hx] at p
        have q := p.2 T e2
        have e4' : L[i]?.map (·.1) = some a := e4
        have e5' : L[i]?.map (·.2) = some b := e5
        rw [hx] at e4' e5'
        cases e4'
        cases e5'
        exact ⟨_, q, fun σ2 H2 h => ⟨h.1, _, h.2, fun b H3 h => nxt h⟩⟩
      · have e : i = L.length := by omega
        subst e
        refine .inl ⟨w.stops H (dP_G p), ?_⟩
        rw [List.drop_length] at p
        exact p.2⟩
section
variable {X : Cx}
theorem me_lc2 {elt tg iter tg1 iter1 : Expr} {ifs ifs1 : List Expr} {scope : Scope} {own : List (Str × Nat)} {vs1 : List Nat} {pos : Pos} {wi wi1 : MI} {g g1 : TG} {tt tt1 : TT} {te : TE} (hc : X.calm = true) (hN : X.N.Nodup) (hi : PI X tg iter (toTI wi)) (ok : BlkOk X.N X.env.scope scope own) (hv : ∀ i ∈ vs1, i ∈ own.map (·.2))
    (hg : ∀ (s : Shared) (H : Hp) (C : Addr) (cl : List (Str × Addr)) (fp : List Addr), PG (X.blk s H scope (compEnvC scope cl C X.env) fp) tg g) (ht : ∀ (s : Shared) (H : Hp) (C : Addr) (cl : List (Str × Addr)) (fp : List Addr), PTs (X.blk s H scope (compEnvC scope cl C X.env) fp) ifs tt)
    (hi1 : ∀ (s : Shared) (H : Hp) (C : Addr) (cl : List (Str × Addr)) (fp : List Addr), PI (X.blk s H scope (compEnvC scope cl C X.env) fp) tg1 iter1 (toTI wi1))
    (hg1 : ∀ (s : Shared) (H : Hp) (C : Addr) (cl : List (Str × Addr)) (fp : List Addr), PG (X.blk s H scope (compEnvC scope cl C X.env) fp) tg1 g1) (ht1 : ∀ (s : Shared) (H : Hp) (C : Addr) (cl : List (Str × Addr)) (fp : List Addr), PTs (X.blk s H scope (compEnvC scope cl C X.env) fp) ifs1 tt1)
    (he : ∀ (s : Shared) (H : Hp) (C : Addr) (cl : List (Str × Addr)) (fp : List Addr), PE (X.blk s H scope (compEnvC scope cl C X.env) fp) elt te) (hs : ∀ x, foldedSetIterable iter X.env x = pure x := by intro _; rfl) (hs1 : ∀ env x, foldedSetIterable iter1 env x = pure x := by intro _ _; rfl) :
    PE X (.ListComp elt [⟨tg, iter, ifs, 0⟩, ⟨tg1, iter1, ifs1, 0⟩] scope pos) (mLc2 wi g tt wi1 g1 tt1 te (own.map (·.2)) vs1) :=
  pe_imp (pe_lc2 hc hN hi ok hv (fun s H C cl fp => pg_cl (hg s H C cl fp)) (fun s H C cl fp => pts_cl (ht s H C cl fp)) hi1 hg1 ht1 he hs hs1) fun σ H Q q => lc2_toM q
end
end M

/-! ### [f, g, ..][i](a, ..): one of several defs is called -/
namespace M
open PySem PySem.Spec PyProof.Rows L2
/-- the def at an address, as a value and called -/
structure CalV (P : Program) (w : World) (K : PySem.W.Frag) (mg : Str → Option Value) (base : Heap) (CX : CXT) (x : Str) (k : Nat) (ps : List Str) (sp : Sp) (a : Addr) : Prop where
  g : mg x = some (.ref a)
  ex : ∃ fd, FnG P w K mg base CX k a fd ps sp ∧ PySem.W.keepIn K (.ref a) = true ∧ Binds K fd ps []
theorem CalV.mono {P : Program} {w : World} {K : PySem.W.Frag} {mg : Str → Option Value} {base : Heap} {CX : CXT} {x : Str} {k j : Nat} {ps : List Str} {sp : Sp} {a : Addr} (C : CalV P w K mg base CX x k ps sp a) (h : k ≤ j) : CalV P w K mg base CX x j ps sp a := by
  obtain ⟨fd, F, r⟩ := C.ex
  exact ⟨C.g, fd, F.mono h, r⟩
/-- what may be called -/
inductive May (P : Program) (w : World) (K : PySem.W.Frag) (mg : Str → Option Value) (base : Heap) (CX : CXT) (k : Nat) : List (V × Sp) → Prop
  | nil : May P w K mg base CX k []
  | cons {x : Str} {ps : List Str} {sp : Sp} {a : Addr} {r : List (V × Sp)} : CalV P w K mg base CX x k ps sp a → May P w K mg base CX k r → May P w K mg base CX k ((.ref a, sp) :: r)
theorem May.get {P : Program} {w : World} {K : PySem.W.Frag} {mg : Str → Option Value} {base : Heap} {CX : CXT} {k : Nat} {fs : List (V × Sp)} (m : May P w K mg base CX k fs) {p : V × Sp} (h : p ∈ fs) : ∃ x ps a, p.1 = .ref a ∧ CalV P w K mg base CX x k ps p.2 a := by
  induction m with
  | nil => cases h
  | cons c _ ih =>
    rcases List.mem_cons.mp h with rfl | h
    · exact ⟨_, _, _, rfl, c⟩
    · exact ih h
def tCallV (fs : List (V × Sp)) (W : WX) (te : TE) (t : TA) : TE := fun σ H Q => te σ H fun x H1 => ∃ p, p ∈ fs ∧ x = p.1 ∧ t σ H1 fun vs H2 => p.2 vs H2 Q (WE W σ)
section
variable {X : Cx} {k : Nat} {fs : List (V × Sp)} {W : WX} {pos spos : Pos} {v i e : Expr} {es : List Expr} {te : TE} {t : TA}
theorem me_callVS (C : May X.prog X.w X.K X.mg X.base (L2.CX X.prog X.w) k fs) (hr : RoomG k X.A) (hf : PE X (.Subscript v i spos) te) (tk : Takes X W) (ha : PA X (e :: es) t)
    (hc : eval (.Call (.Subscript v i spos) (e :: es) [] pos) X.env = (do callWith pos (← eval (.Subscript v i spos) X.env) [] (backTo pos (starEach (e :: es) X.env)) (backToKw pos (keywordEach [] X.env))) := by rfl)
    (he : starEach (e :: es) X.env = (false, eval e X.env) :: starEach es X.env := by rfl) (hpl : (backTo pos (starEach es X.env)).any (·.1) = false := by rfl) : PE X (.Call (.Subscript v i spos) (e :: es) [] pos) (tCallV fs W te t) := by
  refine ⟨fun pins s σ H Q I h => ?_⟩
  rw [hc]
  refine wpAny_bind (thn (hf.run pins s σ H _ I h) fun u s0 ⟨x, H0, I0, rx, p, hp, ex, h0⟩ => ?_)
  obtain ⟨y, ps, a, ea, C⟩ := C.get hp
  obtain ⟨fd, F, hk, hb⟩ := C.ex
  rw [ex, ea] at rx
  cases rx
  refine PySem.W.callWith_K (h₀ := X.base) I0.ok.mod.kin hk (thn (ha.run pos pins s0 σ H0 _ I0 h0) fun us s1 ⟨vs, H1, I1, r, q⟩ => ⟨I1.kIn, ?_⟩) he hpl
  have hl := F.len _ _ _ _ q
  refine wpAny_call (codeAny_mono (F.run X.A X.stack s1 H1 ⟨us, []⟩ us vs Q (WE W σ) hr I1.env0 (by simpa using hb s1 us I1.kIn (by simpa using r.length.symm.trans hl)) r q) fun r s' hq => ?_)
  rcases r with er | fl
  · exact passAt tk σ pins H1 s1 er s' I1 hq
  · cases fl with
    | ret u => exact I1.after hq
    | next => exact False.elim hq
    | brk => exact False.elim hq
    | cont => exact False.elim hq
end
end M

/-! ### a text turned about -/
namespace M
open PySem PySem.Spec PyProof.Rows L2
theorem rev_cps (z : List Nat) : ((Builtin.Str.strSliceIndices none none (-1) (S z).length).filterMap ((S z).cps[·]?)) = z.reverse := by
  rw [picked_rev, filterMap_get]
  · rw [List.map_map, S_len]
    apply List.ext_getElem
    · simp
    · intro i h1 h2
      simp only [List.length_map, List.length_range] at h1
      simp only [List.getElem_map, List.getElem_range, List.getElem_reverse, Function.comp_apply]
      unfold S
      simp [Array.getD, show z.length - 1 - i < z.length by omega]
  · intro i hi
    obtain ⟨k, hk, rfl⟩ := List.mem_map.mp hi
    have hk' := List.mem_range.mp hk
    show (S z).length - 1 - k < (S z).length
    omega
def mRevS (te : TE) : TE := fun σ H Q => te σ H fun x H1 => match x with
  | .str a => a.length ≤ sizeLine ∧ Q (.str (S a.cps.toList.reverse)) H1
  | _ => False
section
variable {X : Cx} {e : Expr} {te : TE}
theorem me_revS {k : Nat} {p1 p2 p3 pos : Pos} (he : PE X e te) : PE X (.Subscript e (.Slice none none (some (.UnaryOp .USub (.Constant (.int 1) k p1) p2)) p3) pos) (mRevS te) := by
  refine ⟨fun pins s σ H Q I h => ?_⟩
  have h' : cl te σ H (fun x H1 => ∃ z : List Nat, x = .str (S z) ∧ z.length ≤ sizeLine ∧ Q (.str (S z.reverse)) H1) := ⟨_, h, fun x H1 q => by
    cases x with
    | str a =>
      refine ⟨a.cps.toList, by rw [S_of], ?_, q.2⟩
      have := q.1
      rw [← S_of a, S_len] at this
      exact this
    | _ => exact q.elim⟩
  refine Subscript_ (thn ((pe_cl he).run pins s σ H _ I h') fun v s1 ⟨x, H1, I1, r1, z, ex, hz, q⟩ => ?_)
  subst ex
  obtain ⟨t, rfl⟩ := r1
  have hst : PO X (some (.UnaryOp .USub (.Constant (.int 1) k p1) p2)) (tPart (tUn (rU fun i => .int (-i)) (tC (.int 1)))) := po_some (pe_un un_neg pe_int)
  refine wpAny_Slice (thn (po_none.run pins s1 σ H1 (fun o H2 => o = none ∧ H2 = H1) I1 ⟨rfl, rfl⟩) fun vl s2 ⟨l, H2, I2, pl, el, e2⟩ => ?_)
  subst el e2
  refine thn (po_none.run pins s2 σ H2 (fun o H3 => o = none ∧ H3 = H2) I2 ⟨rfl, rfl⟩) fun vu s3 ⟨u, H3, I3, pu, eu, e3⟩ => ?_
  subst eu e3
  refine thn (hst.run pins s3 σ H3 (fun o H4 => o = some (-1) ∧ H4 = H3) I3 ⟨1, rfl, -1, rfl, rfl, rfl⟩) fun vs s4 ⟨o, H4, I4, ps, eo, e4⟩ => ?_
  subst eo e4
  have I5 : Inv X pins σ H4 { s4 with heap := s4.heap.push { cls := .type "slice", data := .fields #[vl, vu, vs] } } := I4.kept (t' := s4.toks) fun b ob q => Heap.get?_push_of_some _ q
  obtain ⟨l, rfl, hl⟩ := IsPart.raw pl
  obtain ⟨u, rfl, hu⟩ := IsPart.raw pu
  obtain ⟨w, rfl, hw⟩ := IsPart.raw ps
  obtain ⟨os, hos, hcs, hds⟩ := Heap.IsSliceOf.new s4.heap (partValue l) (partValue u) (partValue w)
  refine tail_any (ops := [.str (S z) t, .ref s4.heap.objs.size]) (typeIs_str _ _ _) (F.slot_str_getitem.lookup) ?_ (by with_unfolding_all rfl)
  refine wpAny_getItem_str_slice (l := l) (u := u) (st := w) ⟨os, hos, hcs, hds⟩ (by first | (rw [hw]; rfl) | (rw [← hw]; rfl)) ?_
  have hm : sliceMade (S z) t l u w = Made.str (S z.reverse) := by
    have a1 : l.map (·.1) = none := by first | exact hl | exact hl.symm
    have a2 : u.map (·.1) = none := by first | exact hu | exact hu.symm
    have a3 : w.map (·.1) = some (-1) := by first | exact hw | exact hw.symm
    unfold sliceMade slicePicked
    rw [a1, a2, a3]
    show (if ((-1 : Int) == 1 && _) = true then _ else Made.str ⟨((Builtin.Str.strSliceIndices none none (-1) (S z).length).filterMap ((S z).cps[·]?)).toArray⟩) = _
    rw [if_neg (by simp), rev_cps]
    rfl
  rw [hm]
  have hlen : (S z.reverse).length ≤ sizeLine := by rw [S_len, List.length_reverse]; exact hz
  exact ⟨hlen, .str _, H4, I5.tok _, ⟨_, rfl⟩, q⟩
end
end M

/-! ### tuple(x); a list's first item popped -/
namespace M
open PySem PySem.Spec PyProof.Rows L2
section
variable {X : Cx} {pos apos : Pos} {o e : Expr} {to te : TE}
def mTuple (K : PySem.W.Frag) : List V → Hp → VK → Prop := fun xs H Q => match xs with
  | [.ref p] => ∃ ys, (SqL K H p ys ∧ ∀ l, H l = none → Q (.ref l) (upd H l (.tup ys))) ∨ (SqT K H p ys ∧ Q (.ref p) H)
  | _ => False
theorem call_tupleM : CallR X (.type "tuple") (mTuple X.K) := callR_imp call_tuple_of fun xs H Q q => by
  unfold mTuple at q
  split at q
  · obtain ⟨ys, h⟩ := q
    exact ⟨_, ys, rfl, h⟩
  · exact q.elim
def mPop0 : Addr → List V → List V → Hp → VK → Prop := fun l xs vs H Q => match vs with
  | [.int i] => i = 0 ∧ ∃ y r, xs = y :: r ∧ Q y (upd H l (.lst r))
  | _ => False
theorem me_pop0 (ho : PE X o to) (he : PE X e te) (hbase : attributeBase o "pop" X.env (eval o X.env) = eval o X.env := by rfl)
    (hfew : ((backTo pos (starEach [e] X.env)).all (fun x => !x.1) && (backToKw pos (keywordEach [] X.env)).all (fun x => x.1.isSome) && decide (([e] : List Expr).length + ([] : List Keyword).length + (if ([] : List Keyword).isEmpty then 0 else 1) < 30)) = true := by rfl)
    (hline : (apos.endLine == pos.line) = true := by rfl) (hs : starEach [e] X.env = (false, eval e X.env) :: starEach [] X.env := by rfl) (hplain : (backTo pos (starEach [] X.env)).any (·.1) = false := by rfl) :
    PE X (.Call (.Attribute o "pop" apos) [e] [] pos) (mLstM mPop0 to (tCons te tNil)) :=
  pe_imp (pe_bm PySem.F.plainAttrs_list PySem.F.slot_list_pop PySem.F.type_list_pop mt_popAt (pe_cl ho) (pa_cons (pe_cl he) pa_nil hs) hbase hfew hline hs hplain) fun σ H Q q => ⟨_, q, fun x H1 z => by
    cases x with
    | ref l =>
      obtain ⟨⟨ys, h⟩, z⟩ := z
      exact ⟨.inl ⟨rfl, _, SqL.of h⟩, _, z, fun y H2 w => by
        obtain ⟨xs, h2, w⟩ := w
        cases y with
        | int i =>
          obtain ⟨rfl, y', r, rfl, w⟩ := w
          exact ⟨l, _, 0, 0, y', rfl, rfl, h2, by decide, by decide, by simp [seqIndex?], rfl, w⟩
        | _ => exact w.elim⟩
    | _ => exact z.elim⟩
/-- lists of other lengths differ, whatever they hold -/
def mNeE (K : PySem.W.Frag) : R2 := fun x y H Q => (∃ a b xs ys, x = .ref a ∧ y = .ref b ∧ SqL K H a xs ∧ SqL K H b ys ∧ xs.length ≠ ys.length ∧ Q (.bl true) H) ∨ mNe K x y H Q
theorem op_neE (hu : X.A.units + 64 < cLine) : OpR X (compareOp .NotEq) (mNeE X.K) := by
  intro pins s σ H x y v u Q I rx ry h
  rcases h with ⟨a, b, xs, ys, rfl, rfl, h1, h2, hl, q⟩ | h
  · cases rx
    cases ry
    obtain ⟨is1, rv1, ⟨o1, n1, ho1, hc1, _, hd1⟩, _⟩ := I.list h1
    obtain ⟨is2, rv2, ⟨o2, n2, ho2, hc2, _, hd2⟩, _⟩ := I.list h2
    have l1 := rv1.length
    have l2 := rv2.length
    exact SeqAt.RcNeAt.lists_lengths ⟨_, ho1, hc1, _, hd1⟩ ⟨_, ho2, hc2, _, hd2⟩ (by simp; omega) (by omega) _ _ _ _ ⟨.bl _, H, I, rfl, q⟩
  · exact op_neM hu pins s σ H _ _ v u Q I rx ry h
/-- + whose new list is none of the system's -/
def mAddF : R2 := fun x y H Q => match x, y with
  | .ref a, .ref b => (∃ xs zs, H a = some (.lst xs) ∧ H b = some (.lst zs) ∧ xs.length + zs.length ≤ sizeLine ∧ ∀ p, H p = none → p ≠ sysModules → Q (.ref p) (upd H p (.lst (xs ++ zs))))
  | _, _ => mAdd x y H Q
theorem op_addF : OpR X (binaryOp .Add) mAddF := by
  intro pins s σ H x y v u Q I rx ry q
  unfold mAddF at q
  split at q
  · obtain ⟨xs, zs, hH, hB, hz, q⟩ := q
    cases rx
    cases ry
    obtain ⟨z, its, n, r, hl, e⟩ := I.lstM hH
    obtain ⟨z2, its2, n2, r2, hl2, e2⟩ := I.lstM hB
    refine PySem.P.add_list e e2 ?_ (by rw [List.size_toArray, List.size_toArray]; omega)
    have ea : its.toArray ++ its2.toArray = (its ++ its2).toArray := by simp
    rw [ea]
    exact ⟨.ref _, _, I.lnew (t' := s.toks) (r.append r2) (by rw [List.length_append]; omega), rfl, q _ I.fresh (Nat.ne_of_gt I.big)⟩
  · exact op_addM pins s σ H _ _ v u Q I rx ry q
/-- what repr shows of a list that holds dicts, too -/
inductive ShA (K : PySem.W.Frag) (H : Hp) : List V → List PyData → Prop
  | nil : ShA K H [] []
  | one {v : V} {d : PyData} {vs : List V} {ds : List PyData} : fd1 v = some d → ShA K H vs ds → ShA K H (v :: vs) (d :: ds)
  | dct {a : Addr} {kvs : List (Key × V)} {es : List (PyData × PyData)} {vs : List V} {ds : List PyData} : H a = some (.dK kvs) → fdKV kvs = some es → ShA K H vs ds → ShA K H (.ref a :: vs) (.dict es :: ds)
inductive ShD (K : PySem.W.Frag) (H : Hp) : V → PyData → Prop
  | sh {v : V} {d : PyData} : Sh K H v d → ShD K H v d
  | lst {a : Addr} {xs : List V} {ds : List PyData} : H a = some (.lst xs) → a ≠ sysModules → ShA K H xs ds → ShD K H (.ref a) (.list ds)
def mReprD (K : PySem.W.Frag) : List V → Hp → VK → Prop := fun xs H Q => match xs with
  | [x] => ∃ d, ShD K H x d ∧ d.showable = true ∧ d.depth ≤ 64 ∧ d.shown.length ≤ sizeLine ∧ Q (.str d.shown) H
  | _ => False
theorem ShA.reads {pins : List (Addr × Obj)} {σ : L2.St} {H : Hp} {s : Shared} (I : L2.Inv X pins σ H s) : ∀ {vs : List V} {ds : List PyData} {us : List Value}, ShA X.K H vs ds → Vals vs us → ∃ as, ReadsAll s.heap us ds as ∧ sysModules ∉ as
  | _, _, _, .nil, .nil => ⟨[], .nil, by simp⟩
  | _, _, _, .one e r, .cons r1 rs => by
    obtain ⟨as, h1, h2⟩ := ShA.reads I r rs
    exact ⟨[] ++ as, .cons (rd1 r1 e) h1, by simpa using h2⟩
  | _, _, _, @ShA.dct _ _ a kvs es vs ds ha hf r, .cons r1 rs => by
    obtain ⟨as, h1, h2⟩ := ShA.reads I r rs
    cases r1
    obtain ⟨_, hns, ws, hkv, o, oes, ep, e1, e2, e3, e4, e5, e6⟩ := dk_of I.hok ha
    obtain ⟨q1, q2⟩ := rdKV (h := s.heap) hkv e5 hf
    refine ⟨([a] ++ [] ++ []) ++ as, .cons (.dict e1 e2.1 e3 q1 q2) h1, fun hm => ?_⟩
    simp only [List.append_nil, List.mem_append, List.mem_singleton] at hm
    rcases hm with z | z
    · rw [z] at hns; simp at hns
    · exact h2 z
theorem call_reprD {k : Nat} (hr : RoomG k X.A) : CallR X (.builtin "repr") (mReprD X.K) := by
  intro pins s σ H xs us Q I r h
  unfold mReprD at h
  split at h
  · rename_i x
    obtain ⟨d, hs, h1, h2, h3, q⟩ := h
    cases hs with
    | sh hs => exact call_reprM hr pins s σ H _ us Q I r ⟨d, hs, h1, h2, h3, q⟩
    | @lst a xs ds ha hn hx =>
      obtain ⟨u, rfl, ru⟩ := vals_one r
      cases ru
      have hun := hr.un
      obtain ⟨its, rv, ⟨o, n, ho, hc, _, hd⟩, _⟩ := I.list (SqL.of (K := X.K) ha)
      obtain ⟨as, r1, r2⟩ := ShA.reads I hx rv
      have rd : Reads s.heap (.ref a) (.list ds) (a :: as) := .list ho hc hd r1
      refine repr_of_reads' rd h1 (fun _ hm => ?_) hr.gd (by omega) (fun _ _ e => e) (fun h' u tk k => ⟨.str (PyData.list ds).shown, H, I.kept (t' := tk) k, ⟨u, rfl⟩, q⟩) h3
      rcases List.mem_cons.mp hm with z | z
      · exact hn z.symm
      · exact r2 z
  · exact h.elim
end
end M

namespace M
open PySem PySem.Spec PyProof.Rows L2

/-! ### cuts -/
section
variable {α : Type} (l : List α)
theorem cut_from (i : Nat) : cutL l (some (i : Int)) none = l.drop i := by
  unfold cutL
  rw [HT.sIx_nat, HT.sIx_none]
  by_cases h : i ≤ l.length
  · rw [Nat.min_eq_left h]
    exact List.take_of_length_le (by rw [List.length_drop]; omega)
  · rw [Nat.min_eq_right (by omega), List.drop_length, List.drop_eq_nil_of_le (by omega)]; simp
theorem cut_to (i : Nat) : cutL l none (some (i : Int)) = l.take i := by
  unfold cutL
  rw [HT.sIx_nat, HT.sIx_none, List.drop_zero, Nat.sub_zero]
  by_cases h : i ≤ l.length
  · rw [Nat.min_eq_left h]
  · rw [Nat.min_eq_right (by omega), List.take_length, List.take_of_length_le (by omega)]
theorem cut_mid (i j : Nat) : cutL l (some (i : Int)) (some (j : Int)) = (l.drop i).take (j - i) := by
  unfold cutL
  rw [HT.sIx_nat, HT.sIx_nat]
  by_cases h : i ≤ l.length
  · rw [Nat.min_eq_left h]
    by_cases h2 : j ≤ l.length
    · rw [Nat.min_eq_left h2]
    · rw [Nat.min_eq_right (by omega), List.take_of_length_le (by rw [List.length_drop]; omega), List.take_of_length_le (by rw [List.length_drop]; omega)]
  · rw [Nat.min_eq_right (show l.length ≤ i by omega), List.drop_length, List.drop_eq_nil_of_le (show l.length ≤ i by omega)]; simp
theorem cut_all : cutL l none none = l := by
  unfold cutL
  rw [HT.sIx_none, HT.sIx_none, List.drop_zero, Nat.sub_zero, List.take_length]
theorem sIx_neg (n d k : Nat) (hk : 0 < k) : HT.sIx n d (some (-(k : Int))) = n - k := by
  show (if (-(k : Int)) < 0 then (-(k : Int) + (n : Int)).toNat else _) = _
  rw [if_pos (by omega)]; omega
theorem cut_fromN (k : Nat) (hk : 0 < k) : cutL l (some (-(k : Int))) none = l.drop (l.length - k) := by
  unfold cutL
  rw [sIx_neg _ _ _ hk, HT.sIx_none]
  exact List.take_of_length_le (by rw [List.length_drop]; omega)
theorem cut_toN (k : Nat) (hk : 0 < k) : cutL l none (some (-(k : Int))) = l.take (l.length - k) := by
  unfold cutL
  rw [sIx_neg _ _ _ hk, HT.sIx_none, List.drop_zero, Nat.sub_zero]
theorem cut_midN (i k : Nat) (hk : 0 < k) : cutL l (some (i : Int)) (some (-(k : Int))) = (l.drop i).take (l.length - k - i) := by
  unfold cutL
  rw [sIx_neg _ _ _ hk, HT.sIx_nat]
  by_cases h : i ≤ l.length
  · rw [Nat.min_eq_left h]
  · rw [Nat.min_eq_right (show l.length ≤ i by omega), List.drop_length, List.drop_eq_nil_of_le (show l.length ≤ i by omega)]; simp
end
theorem cut_m3 {α : Type} (l : List α) : cutL l (some (-3)) none = l.drop (l.length - 3) := cut_fromN l 3 (by decide)
theorem cut_t3 {α : Type} (l : List α) : cutL l none (some (-3)) = l.take (l.length - 3) := cut_toN l 3 (by decide)
theorem cut_m1 {α : Type} (l : List α) : cutL l (some (-1)) none = l.drop (l.length - 1) := cut_fromN l 1 (by decide)
theorem cut_t1 {α : Type} (l : List α) : cutL l none (some (-1)) = l.take (l.length - 1) := cut_toN l 1 (by decide)
theorem cut_t2 {α : Type} (l : List α) : cutL l none (some (-2)) = l.take (l.length - 2) := cut_toN l 2 (by decide)
theorem S_def (z : Str) : ∃ l, z = S l := ⟨_, (S_of z).symm⟩
theorem S_eq {a b : List Nat} : (S a = S b) = (a = b) := propext S_inj
theorem szl : (sizeLine : Nat) = 16777216 := sizeLine_eq

/-! ### trees -/
inductive Tr where
  | lf
  | nd (l r : Tr)
  deriving DecidableEq
namespace Tr
def s : Tr → List Nat
  | .lf => [46]
  | .nd l r => 40 :: (l.s ++ (r.s ++ [41]))
def n : Tr → Nat
  | .lf => 0
  | .nd l r => l.n + r.n + 1
theorem s_len : ∀ t : Tr, t.s.length = 3 * t.n + 1
  | .lf => rfl
  | .nd l r => by simp only [s, n, List.length_cons, List.length_append, List.length_nil, s_len l, s_len r]; omega
end Tr

/-! ### is_tree -/
/-- one sign onto the waiting ones -/
def itStep (w : List Nat) (c : Nat) : Option (List Nat) :=
  if c = 41 then (if w.drop (w.length - 3) = [40, 46, 46] then some (w.take (w.length - 3) ++ [46]) else none)
  else if c = 40 ∨ c = 46 then some (w ++ [c]) else none
def itRun : List Nat → List Nat → Option (List Nat)
  | w, [] => some w
  | w, c :: r => (itStep w c).bind fun w' => itRun w' r
def isTr (l : List Nat) : Bool := decide (itRun [] l = some [46])
theorem itRun_app : ∀ (a b w : List Nat), itRun w (a ++ b) = (itRun w a).bind fun w' => itRun w' b
  | [], b, w => rfl
  | c :: a, b, w => by
    show (itStep w c).bind _ = ((itStep w c).bind _).bind _
    cases itStep w c with
    | none => rfl
    | some w' => exact itRun_app a b w'
theorem itRun_tree : ∀ (t : Tr) (w : List Nat), itRun w t.s = some (w ++ [46])
  | .lf, w => by simp [Tr.s, itRun, itStep]
  | .nd l r, w => by
    show (itStep w 40).bind _ = _
    have e1 : itStep w 40 = some (w ++ [40]) := by simp [itStep]
    rw [e1]
    show itRun (w ++ [40]) (l.s ++ (r.s ++ [41])) = _
    rw [itRun_app, itRun_tree l]
    show itRun (w ++ [40] ++ [46]) (r.s ++ [41]) = _
    rw [itRun_app, itRun_tree r]
    show (itStep (w ++ [40] ++ [46] ++ [46]) 41).bind _ = _
    have e2 : itStep (w ++ [40] ++ [46] ++ [46]) 41 = some (w ++ [46]) := by
      simp [itStep]
    rw [e2]; rfl
/-- waiting signs stand for the signs read -/
inductive Waits : List Nat → List Nat → Prop where
  | nil : Waits [] []
  | op {w l : List Nat} : Waits w l → Waits (w ++ [40]) (l ++ [40])
  | tr {w l : List Nat} (t : Tr) : Waits w l → Waits (w ++ [46]) (l ++ t.s)
theorem Waits.last {w l : List Nat} {c : Nat} (h : Waits (w ++ [c]) l) : (c = 40 ∧ ∃ l', l = l' ++ [40] ∧ Waits w l') ∨ (c = 46 ∧ ∃ (l' : List Nat) (t : Tr), l = l' ++ t.s ∧ Waits w l') := by
  generalize e : w ++ [c] = v at h
  cases h with
  | nil => simp at e
  | op h =>
    obtain ⟨rfl, e2⟩ := List.append_inj' e rfl
    cases e2
    exact .inl ⟨rfl, _, rfl, h⟩
  | tr t h =>
    obtain ⟨rfl, e2⟩ := List.append_inj' e rfl
    cases e2
    exact .inr ⟨rfl, _, t, rfl, h⟩
theorem Waits.step {w l w' : List Nat} {c : Nat} (h : Waits w l) (e : itStep w c = some w') : Waits w' (l ++ [c]) := by
  unfold itStep at e
  split at e
  · rename_i hc
    subst hc
    split at e
    · rename_i h3
      cases e
      have ew : w = w.take (w.length - 3) ++ [40] ++ [46] ++ [46] := by
        have := List.take_append_drop (w.length - 3) w
        rw [h3] at this
        simpa using this.symm
      rw [ew] at h
      rcases h.last with ⟨q, _⟩ | ⟨_, l1, t1, rfl, h1⟩
      · cases q
      rcases h1.last with ⟨q, _⟩ | ⟨_, l2, t2, rfl, h2⟩
      · cases q
      rcases h2.last with ⟨_, l3, rfl, h3⟩ | ⟨q, _⟩
      · have := Waits.tr (.nd t2 t1) h3
        simpa [Tr.s] using this
      · cases q
    · cases e
  · split at e
    · rename_i hc
      cases e
      rcases hc with rfl | rfl
      · exact .op h
      · exact .tr .lf h
    · cases e
theorem Waits.run : ∀ {r w l w' : List Nat}, Waits w l → itRun w r = some w' → Waits w' (l ++ r)
  | [], w, l, w', h, e => by
    cases e; simpa using h
  | c :: r, w, l, w', h, e => by
    have e' : (itStep w c).bind (fun w' => itRun w' r) = some w' := e
    cases q : itStep w c with
    | none => rw [q] at e'; cases e'
    | some v =>
      rw [q] at e'
      have := Waits.run (h.step q) e'
      simpa using this
theorem isTr_iff (l : List Nat) : isTr l = true ↔ ∃ t : Tr, l = t.s := by
  unfold isTr
  rw [decide_eq_true_eq]
  constructor
  · intro h
    have q := Waits.run .nil h
    have q' : Waits ([] ++ [46]) l := by simpa using q
    rcases q'.last with ⟨z, _⟩ | ⟨_, l', t, rfl, z⟩
    · cases z
    · generalize e : ([] : List Nat) = v at z
      cases z with
      | nil => exact ⟨t, by simp⟩
      | op _ => simp at e
      | tr _ _ => simp at e
  · rintro ⟨t, rfl⟩
    simpa using itRun_tree t []
theorem isTr_s (t : Tr) : isTr t.s = true := (isTr_iff _).mpr ⟨t, rfl⟩
theorem itStep_len {w w' : List Nat} {c : Nat} (e : itStep w c = some w') : w'.length ≤ w.length + 1 := by
  unfold itStep at e
  split at e
  · split at e
    · cases e; simp
      try omega
    · cases e
  · split at e
    · cases e; simp
    · cases e
end M

namespace M
open PySem PySem.Spec PyProof.Rows L2

/-! ### places -/
section
variable {α : Type}
theorem aI_nat (xs : List α) (i : Nat) : atI xs (i : Int) = xs[i]? := by
  unfold atI ixN
  rw [if_pos (by omega)]
  by_cases h : i < xs.length
  · rw [if_pos (by omega)]; simp
  · rw [if_neg (by omega), List.getElem?_eq_none (by omega)]; rfl
theorem aI_neg (xs : List α) (k : Nat) (hk : 0 < k) (h : k ≤ xs.length) : atI xs (-(k : Int)) = xs[xs.length - k]? := by
  unfold atI ixN
  rw [if_neg (by omega), if_pos (by omega)]
  show xs[(-(k : Int) + (xs.length : Int)).toNat]? = _
  congr 1
  omega
theorem aI_0 (x : α) (xs : List α) : atI (x :: xs) 0 = some x := aI_nat (x :: xs) 0
theorem aI_1 (x y : α) (xs : List α) : atI (x :: y :: xs) 1 = some y := aI_nat (x :: y :: xs) 1
theorem aI_2 (x y z : α) (xs : List α) : atI (x :: y :: z :: xs) 2 = some z := aI_nat (x :: y :: z :: xs) 2
theorem aI_3 (x y z u : α) (xs : List α) : atI (x :: y :: z :: u :: xs) 3 = some u := aI_nat (x :: y :: z :: u :: xs) 3
theorem aI_m1 (xs : List α) (v : α) : atI (xs ++ [v]) (-1) = some v := atI_last xs v
theorem aI_m2 (xs : List α) (u v : α) : atI (xs ++ [u, v]) (-2) = some u := by
  have e := aI_neg (xs ++ [u, v]) 2 (by decide) (by simp)
  rw [show ((2 : Nat) : Int) = 2 from rfl] at e
  rw [e]
  simp
theorem aI_m1' (xs : List α) (u v : α) : atI (xs ++ [u, v]) (-1) = some v := by
  have e := aI_neg (xs ++ [u, v]) 1 (by decide) (by simp)
  rw [show ((1 : Nat) : Int) = 1 from rfl] at e
  rw [e]
  simp
theorem iN_nat {n i : Nat} (h : i < n) : ixN n (i : Int) = some i := by
  unfold ixN
  rw [if_pos (by omega), if_pos (by omega)]; simp
theorem iN_m1 {n : Nat} (h : 0 < n) : ixN n (-1) = some (n - 1) := by
  unfold ixN
  rw [if_neg (by omega), if_pos (by omega)]
  congr 1
  omega
end

/-! ### data -/
def dStrs (l : List (List Nat)) : List PyData := l.map fun z => .str (S z)
def dInts (l : List Int) : List PyData := l.map .int
theorem dp_strs {K : PySem.W.Frag} {H : Hp} : ∀ l : List (List Nat), DpAll K H (l.map fun z => V.str (S z)) (dStrs l)
  | [] => .nil
  | z :: l => .cons (.str _) (dp_strs l)
theorem dp_ints {K : PySem.W.Frag} {H : Hp} : ∀ l : List Int, DpAll K H (l.map V.int) (dInts l)
  | [] => .nil
  | z :: l => .cons (.int _) (dp_ints l)
/-- codes of a text -/
def okc (l : List Nat) : Prop := ∀ c ∈ l, c < 1114112
theorem okc_app {a b : List Nat} (h1 : okc a) (h2 : okc b) : okc (a ++ b) := fun c h => (List.mem_append.mp h).elim (h1 c) (h2 c)
theorem okS {z : List Nat} (h : okc z) : PyData.strOk (S z) = true := by
  unfold PyData.strOk
  simp only [S, List.all_toArray, List.all_eq_true, decide_eq_true_eq]
  exact h
theorem lay_strs : ∀ l : List (List Nat), (∀ z ∈ l, okc z) → PyData.canLayAll0 (dStrs l) = true
  | [], _ => rfl
  | z :: l, h => by
    show PyData.canLayAll0 (.str (S z) :: dStrs l) = true
    simp only [PyData.canLayAll0, PyData.canLay0, lay_strs l fun y hy => h y (List.mem_cons_of_mem _ hy), okS (h z List.mem_cons_self), Bool.and_self]
theorem lay_ints : ∀ l, PyData.canLayAll0 (dInts l) = true
  | [] => rfl
  | z :: l => by show PyData.canLayAll0 (.int z :: dInts l) = true; simp only [PyData.canLayAll0, PyData.canLay0, lay_ints l, Bool.and_self]
theorem dep_strs : ∀ l, PyData.depthAll (dStrs l) = 0
  | [] => rfl
  | z :: l => by show PyData.depthAll (.str (S z) :: dStrs l) = 0; simp only [PyData.depthAll, PyData.depth, dep_strs l]; rfl
theorem dep_ints : ∀ l, PyData.depthAll (dInts l) = 0
  | [] => rfl
  | z :: l => by show PyData.depthAll (.int z :: dInts l) = 0; simp only [PyData.depthAll, PyData.depth, dep_ints l]; rfl
theorem eqv_strs : ∀ a b : List (List Nat), PyData.eqvAll (dStrs a) (dStrs b) = decide (a = b)
  | [], [] => rfl
  | [], z :: b => rfl
  | z :: a, [] => rfl
  | y :: a, z :: b => by
    show PyData.eqvAll (.str (S y) :: dStrs a) (.str (S z) :: dStrs b) = _
    simp only [PyData.eqvAll, PyData.eqv, eqv_strs a b]
    by_cases h : y = z
    · subst h; simp
    · have : ¬ S y = S z := fun q => h (S_inj.mp q)
      simp [h, this]
theorem eqv_ints : ∀ a b : List Int, PyData.eqvAll (dInts a) (dInts b) = decide (a = b)
  | [], [] => rfl
  | [], z :: b => rfl
  | z :: a, [] => rfl
  | y :: a, z :: b => by
    show PyData.eqvAll (.int y :: dInts a) (.int z :: dInts b) = _
    simp only [PyData.eqvAll, PyData.eqv, eqv_ints a b]
    by_cases h : y = z
    · subst h; simp
    · simp [h]
section
variable {K : PySem.W.Frag} {neg : Bool} {H : Hp} {Q : VK}
/-- two lists of texts compared -/
theorem eq_strs {p q : Addr} {a b : List (List Nat)} (h1 : SqL K H p (a.map fun z => V.str (S z))) (h2 : SqL K H q (b.map fun z => V.str (S z))) (oa : ∀ z ∈ a, okc z) (ob : ∀ z ∈ b, okc z) (k : Q (.bl (if neg then !decide (a = b) else decide (a = b))) H) : rEqW K neg (.ref p) (.ref q) H Q :=
  ⟨.list (dStrs a), .list (dStrs b), .lst h1 (dp_strs a), .lst h2 (dp_strs b), by simpa only [PyData.canLay0] using lay_strs a oa, by simpa only [PyData.canLay0] using lay_strs b ob, by simp only [PyData.depth, dep_strs]; decide, by simpa only [PyData.eqv, eqv_strs] using k⟩
theorem eq_ints {p q : Addr} {a b : List Int} (h1 : SqL K H p (a.map V.int)) (h2 : SqL K H q (b.map V.int)) (k : Q (.bl (if neg then !decide (a = b) else decide (a = b))) H) : rEqW K neg (.ref p) (.ref q) H Q :=
  ⟨.list (dInts a), .list (dInts b), .lst h1 (dp_ints a), .lst h2 (dp_ints b), by simpa only [PyData.canLay0] using lay_ints a, by simpa only [PyData.canLay0] using lay_ints b, by simp only [PyData.depth, dep_ints]; decide, by simpa only [PyData.eqv, eqv_ints] using k⟩
end

/-! ### nests: trees as pairs -/
inductive Nst (K : PySem.W.Frag) (H : Hp) : V → Tr → Prop
  | lf {a : Addr} : SqT K H a [] → Nst K H (.ref a) .lf
  | nd {a : Addr} {l r : V} {t u : Tr} : SqT K H a [l, r] → Nst K H l t → Nst K H r u → Nst K H (.ref a) (.nd t u)
theorem Nst.ex {K : PySem.W.Frag} {H H' : Hp} (e : Ex H H') {v : V} {t : Tr} (h : Nst K H v t) : Nst K H' v t := by
  induction h with
  | lf h => exact .lf (e.T h)
  | nd h _ _ i1 i2 => exact .nd (e.T h) i1 i2
def Tr.dat : Tr → PyData
  | .lf => .tuple []
  | .nd l r => .tuple [l.dat, r.dat]
theorem Nst.dp {K : PySem.W.Frag} {H : Hp} {v : V} {t : Tr} (h : Nst K H v t) : Dp K H v t.dat := by
  induction h with
  | lf h => exact .tup h .nil
  | nd h _ _ i1 i2 => exact .tup h (.cons i1 (.cons i2 .nil))
theorem Tr.lay : ∀ t : Tr, t.dat.canLay0 = true
  | .lf => rfl
  | .nd l r => by simp only [Tr.dat, PyData.canLay0, PyData.canLayAll0, Tr.lay l, Tr.lay r, Bool.and_self]
/-- a nest == () -/
theorem eq_nil {K : PySem.W.Frag} {H : Hp} {Q : VK} {v : V} {t : Tr} {q : Addr} (h : Nst K H v t) (h2 : SqT K H q []) (k : Q (.bl (decide (t = .lf))) H) : rEqW K false v (.ref q) H Q := by
  refine ⟨t.dat, .tuple [], h.dp, .tup h2 .nil, t.lay, rfl, Nat.le_trans (Nat.min_le_right _ _) (by simp only [PyData.depth, PyData.depthAll]; decide), ?_⟩
  have e : PyData.eqv t.dat (.tuple []) = decide (t = .lf) := by
    cases t with
    | lf => rfl
    | nd l r => simp [Tr.dat, PyData.eqv, PyData.eqvAll]
  rw [if_neg Bool.false_ne_true, e]
  exact k
theorem Nst.ref {K : PySem.W.Frag} {H : Hp} {v : V} {t : Tr} (h : Nst K H v t) : ∃ a, v = .ref a := by
  cases h <;> exact ⟨_, rfl⟩

/-! ### roads to leaves and nodes -/
namespace Tr
def lvs : Tr → List Nat → List (List Nat)
  | .lf, r => [r]
  | .nd a b, r => a.lvs (r ++ [108]) ++ b.lvs (r ++ [114])
def nds : Tr → List Nat → List (List Nat)
  | .lf, _ => []
  | .nd a b, r => a.nds (r ++ [108]) ++ ([r] ++ b.nds (r ++ [114]))
theorem lvs_len : ∀ (t : Tr) (r : List Nat), (t.lvs r).length = t.n + 1
  | .lf, _ => rfl
  | .nd a b, r => by simp only [lvs, n, List.length_append, lvs_len a, lvs_len b]; omega
theorem nds_len : ∀ (t : Tr) (r : List Nat), (t.nds r).length = t.n
  | .lf, _ => rfl
  | .nd a b, r => by simp only [nds, n, List.length_append, nds_len a, nds_len b, List.length_cons, List.length_nil]; omega
end Tr
end M
namespace M
open PySem PySem.Spec PyProof.Rows L2
theorem Fm.refl (m : List Addr) (H : Hp) : Fm m H H := fun _ _ _ h => h
theorem Fm.trans {m : List Addr} {H H1 H2 : Hp} (a : Fm m H H1) (b : Fm m H1 H2) : Fm m H H2 := fun x o n h => b x o n (a x o n h)
theorem Fm.ex {m : List Addr} {H H1 : Hp} (a : Ex H H1) : Fm m H H1 := fun x o _ h => a x o h
theorem Fm.new {m : List Addr} {H : Hp} {p : Addr} {o : HO} (h : H p = none) : Fm m H (upd H p o) := Fm.ex (Ex.new h)
theorem Fm.mut {m : List Addr} {H : Hp} {p : Addr} {o : HO} (h : p ∈ m) : Fm m H (upd H p o) := fun a u n e => by
  have : a ≠ p := fun z => n (z ▸ h)
  rw [upd_ne this]; exact e
theorem Fm.nil {H H1 : Hp} (a : Fm [] H H1) : Ex H H1 := fun x o h => a x o (by simp) h
theorem Fm.at_ {m : List Addr} {H H1 : Hp} (a : Fm m H H1) {p : Addr} {o : HO} (n : p ∉ m) (h : H p = some o) : H1 p = some o := a p o n h
/-- a purse of random numbers -/
def Pu (H : Hp) (g : Addr) (n : Nat) : Prop := ∃ a b c : Int, H g = some (.lst [.int a, .int b, .int c]) ∧ 0 ≤ a ∧ a < 2 ^ 2000 ∧ 0 ≤ b ∧ b < 2 ^ 31 ∧ 0 ≤ c ∧ c < n
theorem Pu.mono {H : Hp} {g : Addr} {n m : Nat} (h : n ≤ m) (p : Pu H g n) : Pu H g m := by
  obtain ⟨a, b, c, h1, h2, h3, h4, h5, h6, h7⟩ := p
  exact ⟨a, b, c, h1, h2, h3, h4, h5, h6, by omega⟩
theorem Pu.fm {H H1 : Hp} {g : Addr} {n : Nat} (e : Ex H H1) (p : Pu H g n) : Pu H1 g n := by
  obtain ⟨a, b, c, h1, r⟩ := p
  exact ⟨a, b, c, e _ _ h1, r⟩
theorem mulOk (a b : Nat) {i j : Int} (h1 : 0 ≤ i) (h2 : i < (2 : Int) ^ a) (h3 : 0 ≤ j) (h4 : j < (2 : Int) ^ b) (h0 : 0 < a := by decide) (h5 : 0 < b := by decide) (h6 : a + b ≤ 1000000 := by decide) : MulOk i j := by
  refine MulOk.of a b ?_ ?_ h0 h5 h6
  · have : (i.natAbs : Int) < ((2 ^ a : Nat) : Int) := by rw [Int.natAbs_of_nonneg h1]; exact_mod_cast h2
    exact_mod_cast this
  · have : (j.natAbs : Int) < ((2 ^ b : Nat) : Int) := by rw [Int.natAbs_of_nonneg h3]; exact_mod_cast h4
    exact_mod_cast this
theorem divOk (b : Nat) {j : Int} (h : 0 < j) (h4 : j < (2 : Int) ^ b) (h0 : 0 < b := by decide) (h9 : b ≤ 9000 := by decide) : DivOk j := by
  refine DivOk.of b h ?_ h0 h9
  have : (j.natAbs : Int) < ((2 ^ b : Nat) : Int) := by rw [Int.natAbs_of_nonneg (by omega)]; exact_mod_cast h4
  exact_mod_cast this
theorem bits_le {i : Int} {b : Nat} (h : 0 ≤ i) (h4 : i < (2 : Int) ^ b) : Builtin.Int.intBits i ≤ b := by
  unfold Builtin.Int.intBits
  by_cases e : i = 0
  · subst e; simp
  · have e' : (i == 0) = false := by simpa using e
    rw [e', if_neg Bool.false_ne_true]
    have : (i.natAbs : Int) < ((2 ^ b : Nat) : Int) := by rw [Int.natAbs_of_nonneg h]; exact_mod_cast h4
    have h5 : i.natAbs < 2 ^ b := by exact_mod_cast this
    have h6 : i.natAbs ≠ 0 := by omega
    have := (Nat.log2_lt h6).mpr h5
    omega
end M
namespace M
open PySem PySem.Spec PyProof.Rows L2
/-- what is no list stays -/
def Nl (H H' : Hp) : Prop := ∀ a o, (∀ xs, o ≠ .lst xs) → H a = some o → H' a = some o
theorem Nl.refl (H : Hp) : Nl H H := fun _ _ _ h => h
theorem Nl.trans {H H1 H2 : Hp} (a : Nl H H1) (b : Nl H1 H2) : Nl H H2 := fun x o n h => b x o n (a x o n h)
theorem Nl.ex {H H1 : Hp} (a : Ex H H1) : Nl H H1 := fun x o _ h => a x o h
theorem Nl.new {H : Hp} {p : Addr} {o : HO} (h : H p = none) : Nl H (upd H p o) := Nl.ex (Ex.new h)
theorem Nl.mut {H : Hp} {p : Addr} {o : HO} {xs : List V} (h : H p = some (.lst xs)) : Nl H (upd H p o) := fun a u n e => by
  have : a ≠ p := fun z => by rw [z, h] at e; cases e; exact n _ rfl
  rw [upd_ne this]; exact e
theorem Nl.T {K : PySem.W.Frag} {H H' : Hp} {a : Addr} {xs : List V} (e : Nl H H') (h : SqT K H a xs) : SqT K H' a xs := by
  rcases h with h | h
  · rcases h with h | ⟨o, h⟩
    · exact .inl (.inl (e a _ (fun _ z => by cases z) h))
    · exact .inl (.inr ⟨o, e a _ (fun _ z => by cases z) h⟩)
  · exact .inr h
theorem Nst.nl {K : PySem.W.Frag} {H H' : Hp} (e : Nl H H') {v : V} {t : Tr} (h : Nst K H v t) : Nst K H' v t := by
  induction h with
  | lf h => exact .lf (e.T h)
  | nd h _ _ i1 i2 => exact .nd (e.T h) i1 i2
/-- one of the lists that H does not know changes -/
theorem Ex.chg {H H1 : Hp} {p : Addr} {o : HO} (e : Ex H H1) (h : H p = none) : Ex H (upd H1 p o) := e.mut h
end M

/-! ### the readings at values that are known -/
namespace M
open PySem PySem.Spec PyProof.Rows L2
section
variable {K : PySem.W.Frag} {H : Hp} {Q : VK} {i j : Int} {a b : Str} {k l : Bool} {p q : Addr} {x y : V} {lo hi : Option Int}
theorem q_add1 : mAdd (.int i) (.int j) H Q = Q (.int (i + j)) H := rfl
theorem q_add2 : mAdd (.str a) (.str b) H Q = (a.length + b.length ≤ sizeLine ∧ Q (.str (a ++ b)) H) := rfl
theorem q_add3 : mAdd (.ref p) (.ref q) H Q = (∃ xs zs, H p = some (.lst xs) ∧ H q = some (.lst zs) ∧ xs.length + zs.length ≤ sizeLine ∧ ∀ r, H r = none → Q (.ref r) (upd H r (.lst (xs ++ zs)))) := rfl
theorem q_add4 : mAdd (.int i) (.bl k) H Q = Q (.int (i + b2i k)) H := rfl
theorem q_iadd1 : iAdd (.int i) (.int j) H Q = Q (.int (i + j)) H := rfl
theorem q_iadd2 : iAdd (.str a) (.str b) H Q = (a.length + b.length ≤ sizeLine ∧ Q (.str (a ++ b)) H) := rfl
theorem q_iadd3 : iAdd (.ref p) (.ref q) H Q = (∃ xs zs, H p = some (.lst xs) ∧ H q = some (.lst zs) ∧ xs.length + zs.length ≤ sizeLine ∧ Q (.ref p) (upd H p (.lst (xs ++ zs)))) := rfl
theorem q_sub : mSub (.int i) (.int j) H Q = Q (.int (i - j)) H := rfl
theorem q_mul1 : mMul (.int i) (.int j) H Q = (MulOk i j ∧ Q (.int (i * j)) H) := rfl
theorem q_mul2 : mMul (.ref p) (.int i) H Q = (∃ xs, H p = some (.lst xs) ∧ -(2 ^ 63) ≤ i ∧ i < 2 ^ 63 ∧ xs.length * i.toNat ≤ sizeLine ∧ ∀ r, H r = none → Q (.ref r) (upd H r (.lst (List.replicate i.toNat xs).flatten))) := rfl
theorem foldl_S (z : List Nat) : ∀ (n : Nat) (acc : List Nat), ((List.replicate n z.toArray).foldl (· ++ ·) acc.toArray) = (acc ++ (List.replicate n z).flatten).toArray
  | 0, acc => by simp
  | n + 1, acc => by
    rw [List.replicate_succ, List.foldl_cons, List.append_toArray, foldl_S z n, List.replicate_succ, List.flatten_cons, List.append_assoc]
theorem mul_S (z : List Nat) (k : Int) : Txt.mul (S z) k = S (List.replicate k.toNat z).flatten := by
  unfold Txt.mul
  by_cases h1 : k < 1
  · rw [if_pos h1, show k.toNat = 0 by omega]; rfl
  · rw [if_neg h1]
    split
    · rename_i h
      rcases Bool.or_eq_true_iff.mp h with h | h
      · have : k = 1 := by simpa using h
        subst this
        simp
      · have : z = [] := by
          have h2 : (S z).length = 0 := by simpa using h
          rw [S_len] at h2
          exact List.length_eq_zero_iff.mp h2
        subst this
        simp
    · have := foldl_S z k.toNat []
      simp only [List.nil_append] at this
      unfold S
      rw [← this]
theorem q_mul3 {z : List Nat} : mMul (.str (S z)) (.int i) H Q = ((z.length * 4096 ≤ 16777216 ∧ 0 ≤ i ∧ i ≤ 4096) ∧ Q (.str (S (List.replicate i.toNat z).flatten)) H) := by
  show (((S z).length * 4096 ≤ 16777216 ∧ 0 ≤ i ∧ i ≤ 4096) ∧ Q (.str (Txt.mul (S z) i)) H) = _
  rw [S_len, mul_S]
theorem q_mod : mMod (.int i) (.int j) H Q = (0 < j ∧ Q (.int (i % j)) H) := rfl
theorem q_div : mDiv (.int i) (.int j) H Q = (DivOk j ∧ Q (.int (i / j)) H) := rfl
theorem q_pow : mPow (.int i) (.int j) H Q = ((0 ≤ j ∧ (Builtin.Int.intBits i : Int) * j ≤ 2 ^ 27) ∧ Q (.int (i ^ j.toNat)) H) := rfl
theorem q_eq1 : mEq K (.int i) (.int j) H Q = Q (.bl (decide (i = j))) H := rfl
theorem q_eq2 : mEq K (.str a) (.str b) H Q = Q (.bl (decide (a = b))) H := rfl
theorem q_eq3 : mEq K (.bl k) (.bl l) H Q = Q (.bl (decide (k = l))) H := rfl
theorem q_eq4 : mEq K .non .non H Q = Q (.bl true) H := rfl
theorem q_eq5 : mEq K .non (.int j) H Q = Q (.bl false) H := rfl
theorem q_eq6 : mEq K (.int j) .non H Q = Q (.bl false) H := rfl
theorem q_eq7 : mEq K (.str a) .non H Q = Q (.bl false) H := rfl
theorem q_eq8 : mEq K .non (.str a) H Q = Q (.bl false) H := rfl
theorem q_eq9 : mEq K (.ref p) y H Q = rEqW K false (.ref p) y H Q := by cases y <;> rfl
theorem q_eq10 : mEq K x (.ref p) H Q = rEqW K false x (.ref p) H Q := by cases x <;> rfl
theorem q_ne1 : mNe K (.int i) (.int j) H Q = Q (.bl (!decide (i = j))) H := rfl
theorem q_ne2 : mNe K (.str a) (.str b) H Q = Q (.bl (!decide (a = b))) H := rfl
theorem q_ne3 : mNe K (.bl k) (.bl l) H Q = Q (.bl (!decide (k = l))) H := rfl
theorem q_ne9 : mNe K (.ref p) y H Q = rEqW K true (.ref p) y H Q := by cases y <;> rfl
theorem q_ne10 : mNe K x (.ref p) H Q = rEqW K true x (.ref p) H Q := by cases x <;> rfl
theorem q_lt : mLt (.int i) (.int j) H Q = Q (.bl (decide (i < j))) H := rfl
theorem q_le : mLe (.int i) (.int j) H Q = Q (.bl (decide (i ≤ j))) H := rfl
theorem q_gt : mGt (.int i) (.int j) H Q = Q (.bl (decide (j < i))) H := rfl
theorem q_ge : mGe (.int i) (.int j) H Q = Q (.bl (decide (j ≤ i))) H := rfl
theorem q_inc : mInC (.str a) (.str b) H Q = (∃ k, a = S [k] ∧ Q (.bl (decide (k ∈ b.cps.toList))) H) := rfl
theorem q_ninc : mNinC (.str a) (.str b) H Q = (∃ k, a = S [k] ∧ Q (.bl (!decide (k ∈ b.cps.toList))) H) := rfl
theorem q_inc1 {c : Nat} {z : List Nat} : mInC (.str (S [c])) (.str (S z)) H Q = Q (.bl (decide (c ∈ z))) H := by
  rw [q_inc, S_cps]
  refine propext ⟨fun ⟨k, e, h⟩ => ?_, fun h => ⟨c, rfl, h⟩⟩
  have := S_inj.mp e
  simp only [List.cons.injEq, and_true] at this
  rw [this]; exact h
theorem q_ix1 : mIx K (.str a) (.int i) H Q = (a.length ≤ sizeLine ∧ ∃ c, atI a.cps.toList i = some c ∧ Q (.str (S [c])) H) := rfl
theorem q_ix2 : mIx K (.ref p) (.int i) H Q = (∃ xs v, (SqL K H p xs ∨ SqT K H p xs) ∧ atI xs i = some v ∧ Q v H) := rfl
theorem q_sl1 : mSl K (.str a) lo hi H Q = (a.length ≤ sizeLine ∧ Q (.str (S (cutL a.cps.toList lo hi))) H) := rfl
theorem q_sl2 : mSl K (.ref p) lo hi H Q = (∃ xs, SqL K H p xs ∧ ∀ r, H r = none → Q (.ref r) (upd H r (.lst (cutL xs lo hi)))) := rfl
theorem q_set {R : Hp → Prop} : mSetL (.ref p) (.int i) x H R = (∃ xs j, H p = some (.lst xs) ∧ ixN xs.length i = some j ∧ R (upd H p (.lst (xs.set j x)))) := rfl
theorem q_len1 : mLen K [.str a] H Q = (a.length ≤ sizeLine ∧ Q (.int a.length) H) := rfl
theorem q_len2 : mLen K [.ref p] H Q = (∃ ys, (SqL K H p ys ∨ SqT K H p ys) ∧ Q (.int ys.length) H) := rfl
theorem q_int1 : mInt [.int i] H Q = Q (.int i) H := rfl
theorem q_int2 : mInt [.bl k] H Q = Q (.int (if k then 1 else 0)) H := rfl
theorem q_max : mMax [.int i, .int j] H Q = Q (.int (max i j)) H := rfl
theorem q_min : mMin [.int i, .int j] H Q = Q (.int (min i j)) H := rfl
theorem q_abs : mAbs [.int i] H Q = Q (.int (i.natAbs : Int)) H := rfl
theorem q_sum : mSum K [.ref p] H Q = (∃ ns : List Int, SqL K H p (ns.map V.int) ∧ Q (.int ns.sum) H) := rfl
theorem q_list : mList K [.ref p] H Q = (∃ ys, (SqL K H p ys ∨ SqT K H p ys) ∧ ∀ l, H l = none → Q (.ref l) (upd H l (.lst ys))) := rfl
theorem q_isi1 {z : Str} : mIsi K [.str z, .ty "str"] H Q = Q (.bl true) H := by unfold mIsi; simp only [tyN, kb1]
theorem q_is1 : mIs x .non H Q = Q (.bl (isN x)) H := rfl
theorem q_not1 : mNot x .non H Q = Q (.bl (!isN x)) H := rfl
theorem q_isN1 : isN .non = true := rfl
theorem q_isN2 : isN (.ref p) = false := rfl
theorem q_isN3 : isN (.str a) = false := rfl
theorem q_isN4 : isN (.int i) = false := rfl
theorem q_join : mJoin K a (.ref p) H Q = (∃ ys : List Str, (SqL K H p (ys.map V.str) ∨ SqT K H p (ys.map V.str)) ∧ (ys.map (·.length)).sum + ys.length * a.length ≤ 16777216 ∧ Q (.str (Txt.join a ys)) H) := rfl
theorem q_count : mCount a (.str b) H Q = Q (.int (Txt.count a b)) H := rfl
theorem q_split : mSplit a (.str b) H Q = ((b.length == 0) = false ∧ a.length + 2 ≤ sizeLine ∧ ∀ r, H r = none → Q (.ref r) (upd H r (.lst ((Txt.split a b).map V.str)))) := rfl
theorem q_app {xs : List V} : mApp p xs [y] H Q = (xs.length < sizeLine ∧ Q .non (upd H p (.lst (xs ++ [y])))) := rfl
theorem q_pop {xs : List V} : mPop p xs [] H Q = (∃ y, xs.getLast? = some y ∧ Q y (upd H p (.lst xs.dropLast))) := rfl
theorem q_clear {xs : List V} : mClear p xs [] H Q = Q .non (upd H p (.lst [])) := rfl
theorem q_isiE {C : Addr} : mIsiE K [.ref p, .ref C] H Q = (∃ (D d : Addr) (fl : Str) (fs : List (Str × V)) (b : Bool), ExcK K fl D ∧ H p = some (exk p (.ref D) (some d)) ∧ H d = some (.xd fs) ∧ PySem.W.kitOne K (.ref D) (.ref C) = some b ∧ Q (.bl b) H) := rfl
theorem q_sorted : mSorted K [.ref p] H Q = (∃ xs : List Str, SqL K H p (xs.map V.str) ∧ ∀ (ys : List Str) (r : Addr), ys.Perm xs → sortedS ys = true → H r = none → Q (.ref r) (upd H r (.lst (ys.map V.str)))) := rfl
theorem q_repr : mRepr K [x] H Q = (∃ d, Sh K H x d ∧ d.showable = true ∧ d.depth ≤ 64 ∧ d.shown.length ≤ sizeLine ∧ Q (.str d.shown) H) := rfl
/-- joined texts -/
theorem join_S : ∀ l : List (List Nat), Txt.join (S []) (l.map S) = S l.flatten := by
  intro l
  show PySem.Builtin.Str.glued (S []) (l.map S) = _
  rw [StrLaws.glued_eq_join]
  induction l with
  | nil => rfl
  | cons z l ih =>
    cases l with
    | nil => show S z = S (z ++ []); rw [List.append_nil]
    | cons y r =>
      show S z ++ S [] ++ Str.join (S []) ((y :: r).map S) = _
      rw [ih, S_app, S_app, List.append_nil]
      simp only [List.flatten_cons]
theorem join_signs (l : List Nat) : Txt.join (S []) (l.map fun c => S [c]) = S l := by
  have e : (l.map fun c => S [c]) = (l.map fun c => [c]).map S := by rw [List.map_map]; rfl
  rw [e, join_S]
  congr 1
  induction l with
  | nil => rfl
  | cons c r ih => show [c] ++ (r.map fun c => [c]).flatten = _; rw [ih (by rw [List.map_map]; rfl)]; rfl
end
def sg (P : List Nat) : List V := P.map fun c => V.str (S [c])
def tx (l : List (List Nat)) : List V := l.map fun z => V.str (S z)
theorem sg_tx (P : List Nat) : sg P = tx (P.map fun c => [c]) := by unfold sg tx; rw [List.map_map]; rfl
theorem sg_str (P : List Nat) : sg P = (P.map fun c => S [c]).map V.str := by unfold sg; rw [List.map_map]; rfl
theorem sg_len (P : List Nat) : (sg P).length = P.length := by unfold sg; rw [List.length_map]
theorem tx_len (P : List (List Nat)) : (tx P).length = P.length := by unfold tx; rw [List.length_map]
theorem sg_app (a b : List Nat) : sg (a ++ b) = sg a ++ sg b := by unfold sg; rw [List.map_append]
theorem tx_app (a b : List (List Nat)) : tx (a ++ b) = tx a ++ tx b := by unfold tx; rw [List.map_append]
theorem one_len (P : List Nat) : ((P.map fun c => S [c]).map (·.length)).sum = P.length := by
  induction P with
  | nil => rfl
  | cons c r ih => simp only [List.map_cons, List.sum_cons, List.length_cons, ih, S_len, List.length_nil]; omega
end M

/-! ### texts counted and cut at a sign -/
namespace M
open PySem PySem.Spec PyProof.Rows L2
theorem splitS {z : List Nat} {c : Nat} (hc : c < 256) : Txt.split (S z) (S [c]) = (TL.spl [c] 0 [] z).map S := SX.split_S (by simp) (by simpa using hc)
theorem spl_one {c d : Nat} {acc r : List Nat} : TL.spl [c] 0 acc (d :: r) = if d = c then acc :: TL.spl [c] 0 [] r else TL.spl [c] 0 (acc ++ [d]) r := by
  show (if TL.pre [c] (d :: r) = true then acc :: TL.spl [c] 0 [] r else TL.spl [c] 0 (acc ++ [d]) r) = _
  have : (TL.pre [c] (d :: r) = true) = (d = c) := by simp [TL.pre]
  simp only [this]
theorem spl_count (c : Nat) : ∀ (z acc : List Nat), (TL.spl [c] 0 acc z).length = z.count c + 1
  | [], acc => rfl
  | d :: r, acc => by
    rw [spl_one, List.count_cons]
    by_cases h : d = c
    · rw [if_pos h, List.length_cons, spl_count c r]; simp [h]
    · rw [if_neg h, spl_count c r]; simp [h]
theorem count_split {z : List Nat} {c : Nat} (hc : c < 256) : Txt.count (S z) (S [c]) + 1 = ((Txt.split (S z) (S [c])).length : Int) := by
  unfold Txt.count Txt.split
  by_cases h1 : (decide ((S z).length < (S [c]).length) || decide (Builtin.Str.strKind (S z) < Builtin.Str.strKind (S [c]))) = true
  · rw [if_pos h1]
    have hz : z = [] := by
      rcases Bool.or_eq_true_iff.mp h1 with h | h
      · have := of_decide_eq_true h
        simp only [S_len, List.length_singleton] at this
        exact List.length_eq_zero_iff.mp (by omega)
      · exact absurd (of_decide_eq_true h) (TL.kind_ok (SX.all256 (by simpa using hc)))
    subst hz
    have : Builtin.Str.occurrences (S []) (S [c]) 0 (S []).length ((S []).length + 1) = [] := by
      show Builtin.Str.occurrences (S []) (S [c]) 0 0 1 = []
      simp [Builtin.Str.occurrences, S_len]
    rw [this]; rfl
  · rw [if_neg h1]
    split
    · rename_i h2
      rw [List.isEmpty_iff.mp h2]; rfl
    · rw [length_partsBetween]
      push_cast
      rfl
theorem count_S {z : List Nat} {c : Nat} (hc : c < 256) : Txt.count (S z) (S [c]) = (z.count c : Int) := by
  have h := count_split (z := z) hc
  rw [splitS hc, List.length_map, spl_count] at h
  omega
theorem Tr.cnt_op : ∀ t : Tr, t.s.count 40 = t.n
  | .lf => rfl
  | .nd a b => by
    have h1 := Tr.cnt_op a
    have h2 := Tr.cnt_op b
    simp only [Tr.s, Tr.n, List.count_cons, List.count_append, List.count_nil, h1, h2]
    simp
theorem Tr.cnt_lf : ∀ t : Tr, t.s.count 46 = t.n + 1
  | .lf => rfl
  | .nd a b => by
    have h1 := Tr.cnt_lf a
    have h2 := Tr.cnt_lf b
    simp only [Tr.s, Tr.n, List.count_cons, List.count_append, List.count_nil, h1, h2]
    simp
    omega
/-- the pieces with texts between them -/
def fillP : List (List Nat) → List (List Nat) → List Nat
  | [], _ => []
  | p :: _, [] => p
  | p :: ps, h :: hs => p ++ h ++ fillP ps hs
theorem fill_acc (c : Nat) : ∀ (z acc : List Nat) (hs : List (List Nat)), fillP (TL.spl [c] 0 acc z) hs = acc ++ fillP (TL.spl [c] 0 [] z) hs
  | [], acc, hs => by cases hs <;> simp [TL.spl_nil, fillP]
  | d :: r, acc, hs => by
    rw [spl_one, spl_one]
    by_cases h : d = c
    · rw [if_pos h, if_pos h]
      cases hs <;> simp [fillP]
    · rw [if_neg h, if_neg h, fill_acc c r (acc ++ [d]), fill_acc c r ([] ++ [d])]
      simp
end M

/-! ### trees as a lattice -/
namespace M
namespace Tr
theorem s_cons (t : Tr) : ∃ c r, t.s = c :: r := by cases t <;> exact ⟨_, _, rfl⟩
theorem s_pre : ∀ (t u : Tr) (a b : List Nat), t.s ++ a = u.s ++ b → t = u ∧ a = b
  | .lf, .lf, a, b, h => ⟨rfl, by simpa [s] using h⟩
  | .lf, .nd l r, a, b, h => by simp [s] at h
  | .nd l r, .lf, a, b, h => by simp [s] at h
  | .nd l r, .nd l' r', a, b, h => by
    simp only [s, List.cons_append, List.append_assoc, List.cons.injEq, true_and] at h
    obtain ⟨rfl, h2⟩ := s_pre l l' _ _ h
    obtain ⟨rfl, h3⟩ := s_pre r r' _ _ h2
    exact ⟨rfl, by simpa using h3⟩
theorem s_inj {t u : Tr} : t.s = u.s ↔ t = u := ⟨fun h => (s_pre t u [] [] (by rw [h])).1, fun h => by rw [h]⟩
def join : Tr → Tr → Tr
  | .lf, t => t
  | .nd a b, .lf => .nd a b
  | .nd a b, .nd c d => .nd (join a c) (join b d)
def meet : Tr → Tr → Tr
  | .lf, _ => .lf
  | .nd _ _, .lf => .lf
  | .nd a b, .nd c d => .nd (meet a c) (meet b d)
/-- the first one grows into the second one -/
def le : Tr → Tr → Bool
  | .lf, _ => true
  | .nd _ _, .lf => false
  | .nd a b, .nd c d => le a c && le b d
theorem join_lf (t : Tr) : join t .lf = t := by cases t <;> rfl
theorem meet_lf (t : Tr) : meet t .lf = .lf := by cases t <;> rfl
theorem join_comm : ∀ t u : Tr, join t u = join u t
  | .lf, u => (join_lf u).symm
  | .nd a b, .lf => rfl
  | .nd a b, .nd c d => by simp only [join, join_comm a c, join_comm b d]
theorem meet_comm : ∀ t u : Tr, meet t u = meet u t
  | .lf, u => (meet_lf u).symm
  | .nd a b, .lf => rfl
  | .nd a b, .nd c d => by simp only [meet, meet_comm a c, meet_comm b d]
theorem join_self : ∀ t : Tr, join t t = t
  | .lf => rfl
  | .nd a b => by simp only [join, join_self a, join_self b]
theorem meet_self : ∀ t : Tr, meet t t = t
  | .lf => rfl
  | .nd a b => by simp only [meet, meet_self a, meet_self b]
theorem join_meet : ∀ t u : Tr, join t (meet t u) = t
  | .lf, u => rfl
  | .nd a b, .lf => rfl
  | .nd a b, .nd c d => by simp only [join, meet, join_meet a c, join_meet b d]
theorem meet_join : ∀ t u : Tr, meet t (join t u) = t
  | .lf, u => rfl
  | .nd a b, .lf => by show meet (.nd a b) (.nd a b) = _; exact meet_self _
  | .nd a b, .nd c d => by simp only [join, meet, meet_join a c, meet_join b d]
theorem join_assoc : ∀ t u v : Tr, join (join t u) v = join t (join u v)
  | .lf, u, v => rfl
  | .nd a b, .lf, v => rfl
  | .nd a b, .nd c d, .lf => rfl
  | .nd a b, .nd c d, .nd e f => by simp only [join, join_assoc a c e, join_assoc b d f]
theorem meet_assoc : ∀ t u v : Tr, meet (meet t u) v = meet t (meet u v)
  | .lf, u, v => rfl
  | .nd a b, .lf, v => rfl
  | .nd a b, .nd c d, .lf => rfl
  | .nd a b, .nd c d, .nd e f => by simp only [meet, meet_assoc a c e, meet_assoc b d f]
theorem join_dist : ∀ t u v : Tr, join t (meet u v) = meet (join t u) (join t v)
  | .lf, u, v => rfl
  | .nd a b, .lf, .lf => by show Tr.nd a b = meet (.nd a b) (.nd a b); rw [meet_self]
  | .nd a b, .lf, .nd e f => by
    show Tr.nd a b = meet (.nd a b) (.nd (join a e) (join b f))
    simp only [meet, meet_join]
  | .nd a b, .nd c d, .lf => by
    show Tr.nd a b = meet (.nd (join a c) (join b d)) (.nd a b)
    rw [meet_comm]; simp only [meet, meet_join]
  | .nd a b, .nd c d, .nd e f => by simp only [join, meet, join_dist a c e, join_dist b d f]
theorem n_join : ∀ t u : Tr, (join t u).n + (meet t u).n = t.n + u.n
  | .lf, u => by show u.n + 0 = 0 + u.n; omega
  | .nd a b, .lf => rfl
  | .nd a b, .nd c d => by
    have h1 := n_join a c
    have h2 := n_join b d
    simp only [join, meet, n]; omega
theorem le_join_iff : ∀ t u : Tr, le u t = true ↔ join t u = t
  | t, .lf => by simp [le, join_lf]
  | .lf, .nd c d => by simp [le, join]
  | .nd a b, .nd c d => by simp only [le, join, Bool.and_eq_true, le_join_iff a c, le_join_iff b d, Tr.nd.injEq]
theorem le_meet_iff : ∀ t u : Tr, le u t = true ↔ meet t u = u
  | t, .lf => by simp [le, meet_lf]
  | .lf, .nd c d => by simp [le, meet]
  | .nd a b, .nd c d => by simp only [le, meet, Bool.and_eq_true, le_meet_iff a c, le_meet_iff b d, Tr.nd.injEq]
theorem le_join (t u : Tr) : le t (join t u) = true := (le_meet_iff _ _).mpr (by rw [meet_comm, meet_join])
theorem meet_le (t u : Tr) : le (meet t u) t = true := (le_join_iff _ _).mpr (join_meet t u)
theorem join_n_le (t u : Tr) : (join t u).n ≤ t.n + u.n := by have := n_join t u; omega
theorem meet_n_le (t u : Tr) : (meet t u).n ≤ t.n + u.n := by have := n_join t u; omega
theorem le_n : ∀ t u : Tr, le t u = true → t.n ≤ u.n
  | .lf, u, _ => Nat.zero_le _
  | .nd a b, .lf, h => by simp [le] at h
  | .nd a b, .nd c d, h => by
    simp only [le, Bool.and_eq_true] at h
    have h1 := le_n a c h.1
    have h2 := le_n b d h.2
    simp only [n]; omega
/-- the trees with which a top grows into a tree -/
def hang : Tr → Tr → List Tr
  | .lf, t => [t]
  | .nd _ _, .lf => []
  | .nd a b, .nd c d => hang a c ++ hang b d
/-- the leaves replaced, from left to right -/
def grow : Tr → List Tr → Tr × List Tr
  | .lf, [] => (.lf, [])
  | .lf, h :: r => (h, r)
  | .nd a b, l => (.nd (grow a l).1 (grow b (grow a l).2).1, (grow b (grow a l).2).2)
theorem hang_len : ∀ t u : Tr, le t u = true → (hang t u).length = t.n + 1
  | .lf, u, _ => rfl
  | .nd a b, .lf, h => by simp [le] at h
  | .nd a b, .nd c d, h => by
    simp only [le, Bool.and_eq_true] at h
    simp only [hang, n, List.length_append, hang_len a c h.1, hang_len b d h.2]; omega
theorem grow_hang : ∀ (t u : Tr) (r : List Tr), le t u = true → grow t (hang t u ++ r) = (u, r)
  | .lf, u, r, _ => rfl
  | .nd a b, .lf, r, h => by simp [le] at h
  | .nd a b, .nd c d, r, h => by
    simp only [le, Bool.and_eq_true] at h
    simp only [grow, hang, List.append_assoc, grow_hang a c _ h.1, grow_hang b d _ h.2]
theorem hang_n : ∀ (t u h : Tr), h ∈ hang t u → h.n ≤ u.n
  | .lf, u, h, hm => by rw [List.mem_singleton.mp hm]; exact Nat.le_refl _
  | .nd a b, .lf, h, hm => by cases hm
  | .nd a b, .nd c d, h, hm => by
    simp only [n]
    rcases List.mem_append.mp hm with hm | hm
    · have := hang_n a c h hm; omega
    · have := hang_n b d h hm; omega
theorem fill_grow : ∀ (t : Tr) (hs : List Tr) (r : List Nat), t.n + 1 ≤ hs.length → fillP (TL.spl [46] 0 [] (t.s ++ r)) (hs.map Tr.s) = (grow t hs).1.s ++ fillP (TL.spl [46] 0 [] r) ((grow t hs).2.map Tr.s) ∧ (grow t hs).2.length + (t.n + 1) = hs.length
  | .lf, [], r, h => by simp [n] at h
  | .lf, x :: hs, r, h => by
    show fillP (TL.spl [46] 0 [] (46 :: r)) _ = _ ∧ _
    rw [spl_one, if_pos rfl]
    exact ⟨by simp [fillP, grow], by simp [grow, n]⟩
  | .nd a b, hs, r, h => by
    simp only [n] at h
    obtain ⟨a1, a2⟩ := fill_grow a hs (b.s ++ 41 :: r) (by omega)
    obtain ⟨b1, b2⟩ := fill_grow b (grow a hs).2 (41 :: r) (by omega)
    have e0 : TL.spl [46] 0 [] ((Tr.nd a b).s ++ r) = TL.spl [46] 0 [40] (a.s ++ (b.s ++ 41 :: r)) := by
      show TL.spl [46] 0 [] (40 :: ((a.s ++ (b.s ++ [41])) ++ r)) = _
      rw [spl_one, if_neg (by decide)]
      simp
    have e1 : fillP (TL.spl [46] 0 [] (41 :: r)) ((grow b (grow a hs).2).2.map Tr.s) = 41 :: fillP (TL.spl [46] 0 [] r) ((grow b (grow a hs).2).2.map Tr.s) := by
      rw [spl_one, if_neg (by decide), fill_acc]
      rfl
    refine ⟨?_, by simp only [grow, n]; omega⟩
    rw [e0, fill_acc, a1, b1, e1]
    simp [grow, s]
theorem fill_all (t : Tr) (hs : List Tr) (h : hs.length = t.n + 1) : fillP (TL.spl [46] 0 [] t.s) (hs.map Tr.s) = (grow t hs).1.s := by
  obtain ⟨h1, h2⟩ := fill_grow t hs [] (by omega)
  rw [List.append_nil] at h1
  have : (grow t hs).2 = [] := List.length_eq_zero_iff.mp (by omega)
  rw [h1, this]
  simp [TL.spl_nil, fillP]
theorem grow_n : ∀ (t : Tr) (hs : List Tr), (grow t hs).1.n + ((grow t hs).2.map Tr.n).sum ≤ t.n + (hs.map Tr.n).sum
  | .lf, [] => by simp [grow]
  | .lf, x :: hs => by simp [grow, n]
  | .nd a b, hs => by
    have h1 := grow_n a hs
    have h2 := grow_n b (grow a hs).2
    simp only [grow, n]
    omega
end Tr
end M

namespace M
open PySem PySem.Spec PyProof.Rows L2
namespace Tr
/-- the part at an address -/
def att : Tr → List Nat → Option Tr
  | t, [] => some t
  | .lf, _ :: _ => none
  | .nd a b, c :: r => if c = 114 then att b r else att a r
/-- another tree put at an address -/
def put : Tr → List Nat → Tr → Tr
  | _, [], o => o
  | .lf, _ :: _, _ => .lf
  | .nd a b, c :: r, o => if c = 114 then .nd a (put b r o) else .nd (put a r o) b
theorem att_lf (c : Nat) (r : List Nat) : att .lf (c :: r) = none := rfl
theorem att_nil (t : Tr) : att t [] = some t := by cases t <;> rfl
theorem put_nil (t o : Tr) : put t [] o = o := by cases t <;> rfl
theorem att_put : ∀ (r : List Nat) (t u : Tr), att t r = some u → ∃ pre post : List Nat, t.s = pre ++ u.s ++ post ∧ ∀ o, (put t r o).s = pre ++ o.s ++ post
  | [], t, u, h => by
    rw [att_nil] at h
    cases h
    exact ⟨[], [], by simp, fun o => by rw [put_nil]; simp⟩
  | c :: r, .lf, u, h => by cases h
  | c :: r, .nd a b, u, h => by
    by_cases z : c = 114
    · simp only [att, if_pos z] at h
      obtain ⟨p, q, h1, h2⟩ := att_put r b u h
      refine ⟨40 :: (a.s ++ p), q ++ [41], ?_, fun o => ?_⟩
      · simp only [Tr.s, h1, List.cons_append, List.append_assoc, List.nil_append]
      · simp only [put, if_pos z, Tr.s, h2, List.cons_append, List.append_assoc, List.nil_append]
    · simp only [att, if_neg z] at h
      obtain ⟨p, q, h1, h2⟩ := att_put r a u h
      refine ⟨40 :: p, q ++ (b.s ++ [41]), ?_, fun o => ?_⟩
      · simp only [Tr.s, h1, List.cons_append, List.append_assoc, List.nil_append]
      · simp only [put, if_neg z, Tr.s, h2, List.cons_append, List.append_assoc, List.nil_append]
theorem att_n : ∀ (r : List Nat) (t u : Tr), att t r = some u → u.n + r.length ≤ t.n
  | [], t, u, h => by rw [att_nil] at h; cases h; simp
  | c :: r, .lf, u, h => by cases h
  | c :: r, .nd a b, u, h => by
    simp only [att] at h
    simp only [Tr.n, List.length_cons]
    split at h
    · have := att_n r b u h; omega
    · have := att_n r a u h; omega
theorem put_n : ∀ (r : List Nat) (t o : Tr), (put t r o).n ≤ t.n + o.n
  | [], t, o => by rw [put_nil]; omega
  | c :: r, .lf, o => by simp [put, Tr.n]
  | c :: r, .nd a b, o => by
    simp only [put]
    split
    · have := put_n r b o; simp only [Tr.n]; omega
    · have := put_n r a o; simp only [Tr.n]; omega
end Tr
/-- an address' letters -/
def isAd (z : List Nat) : Bool := decide (∀ c ∈ z, c = 108 ∨ c = 114)
end M

/-! ### small tactics for heaps -/
namespace M
open PySem PySem.Spec PyProof.Rows L2
theorem Ex.at {H H1 : Hp} {a : Addr} {o : HO} (e : Ex H H1) (h : H a = some o) : H1 a = some o := e a o h
/-- what stands is not what is new -/
theorem ne_new {H : Hp} {p q : Addr} {o : HO} (h : H p = some o) (n : H q = none) : q ≠ p := fun z => by rw [z, h] at n; cases n
/-- what is refused: the error with the value -/
def Fail (E : XK) (H : Hp) (C : Addr) (v : V) : Prop := ∀ H' d, Ex H H' → H d = none → H' d = some (.xd [("value", v)]) → E (.ref C) (some d) H'
theorem Fail.ex {E : XK} {H H1 : Hp} {C : Addr} {v : V} (e : Ex H H1) (h : Fail E H C v) : Fail E H1 C v := fun H' d e1 n hd => h H' d (e.trans e1) (e.free n) hd
end M

/-! ### values shown by repr; a list of texts may grow -/
namespace M
open PySem PySem.Spec PyProof.Rows L2
theorem shown_str_le {z : List Nat} (h : okc z) : (PyData.str (S z)).shown.length ≤ 10 * z.length + 2 := by
  have := StrLaws.reprText_len (S z) fun c hc => by
    rw [S_cps] at hc
    have := h c hc
    exact Nat.lt_trans this (by decide)
  rw [S_len] at this
  simpa only [PyData.shown] using this
theorem shown_strs_sum (n : Nat) : ∀ l : List (List Nat), (∀ z ∈ l, z.length ≤ n ∧ okc z) → ((PyData.shownAll (dStrs l)).map (·.length)).sum ≤ (10 * n + 2) * l.length
  | [], _ => by simp [dStrs, PyData.shownAll]
  | z :: l, h => by
    have ih := shown_strs_sum n l fun y hy => h y (List.mem_cons_of_mem _ hy)
    have h1 := h z List.mem_cons_self
    have h2 := shown_str_le h1.2
    show ((PyData.shownAll (.str (S z) :: dStrs l)).map (·.length)).sum ≤ _
    simp only [PyData.shownAll, List.map_cons, List.sum_cons, List.length_cons, Nat.mul_add, Nat.mul_one]
    have : 10 * z.length ≤ 10 * n := by omega
    omega
theorem shownAll_len : ∀ l : List PyData, (PyData.shownAll l).length = l.length
  | [] => rfl
  | z :: l => by simp only [PyData.shownAll, List.length_cons, shownAll_len l]
theorem shown_list_le {n : Nat} {l : List (List Nat)} (h : ∀ z ∈ l, z.length ≤ n ∧ okc z) : (PyData.list (dStrs l)).shown.length ≤ (10 * n + 4) * l.length + 3 := by
  have h1 := listText_len_le (PyData.shownAll (dStrs l))
  have h2 := shown_strs_sum n l h
  rw [shownAll_len] at h1
  have h3 : (dStrs l).length = l.length := by unfold dStrs; rw [List.length_map]
  rw [h3] at h1
  simp only [PyData.shown]
  have : (10 * n + 4) * l.length = (10 * n + 2) * l.length + 2 * l.length := by rw [← Nat.add_mul]
  omega
theorem shown_tuple_le {n : Nat} {l : List (List Nat)} (h : ∀ z ∈ l, z.length ≤ n ∧ okc z) : (PyData.tuple (dStrs l)).shown.length ≤ (10 * n + 4) * l.length + 3 := by
  have h1 := tupleText_len_le (PyData.shownAll (dStrs l))
  have h2 := shown_strs_sum n l h
  rw [shownAll_len] at h1
  have h3 : (dStrs l).length = l.length := by unfold dStrs; rw [List.length_map]
  rw [h3] at h1
  simp only [PyData.shown]
  have : (10 * n + 4) * l.length = (10 * n + 2) * l.length + 2 * l.length := by rw [← Nat.add_mul]
  omega
theorem showable_strs : ∀ l : List (List Nat), PyData.showableAll (dStrs l) = true
  | [] => rfl
  | z :: l => by show PyData.showableAll (.str (S z) :: dStrs l) = true; simp only [PyData.showableAll, PyData.showable, showable_strs l, Bool.and_self]
theorem noDict_strs : ∀ l : List (List Nat), PyData.hasDictAll (dStrs l) = false
  | [] => rfl
  | z :: l => by show PyData.hasDictAll (.str (S z) :: dStrs l) = false; simp only [PyData.hasDictAll, PyData.hasDict, noDict_strs l, Bool.or_self]
end M

/-! ### texts told by repr have good signs -/
namespace M
open PySem PySem.Spec PyProof.Rows L2
def okT (x : Str) : Prop := ∀ c ∈ x.cps.toList, c < 1114112
theorem okT_strOk {x : Str} (h : okT x) : PyData.strOk x = true := by
  unfold PyData.strOk
  rw [← Array.all_toList, List.all_eq_true]
  intro c hc
  exact decide_eq_true (h c hc)
theorem char_lt (c : Char) : c.toNat < 1114112 := by
  have := c.valid
  rcases this with h | ⟨_, h⟩
  · exact Nat.lt_trans h (by decide)
  · exact h
theorem okT_app {a b : Str} (h1 : okT a) (h2 : okT b) : okT (a ++ b) := by
  intro c hc
  have e : (a ++ b).cps.toList = a.cps.toList ++ b.cps.toList := by
    show (a.cps ++ b.cps).toList = _
    simp
  rw [e] at hc
  exact (List.mem_append.mp hc).elim (h1 c) (h2 c)
theorem okT_of (s : String) : okT (Str.ofString s) := by
  intro c hc
  have e : (Str.ofString s).cps.toList = s.toList.map Char.toNat := by
    unfold Str.ofString
    rw [List.toList_toArray, cpsOfBytes_string]
  rw [e] at hc
  obtain ⟨d, _, rfl⟩ := List.mem_map.mp hc
  exact char_lt d
theorem okT_S {z : List Nat} (h : okc z) : okT (S z) := fun c hc => h c (by rw [S_cps] at hc; exact hc)
theorem hex_ok (w c : Nat) : ∀ d ∈ List.replicate (w - ((Nat.toDigits 16 c).map Char.toNat).length) 48 ++ (Nat.toDigits 16 c).map Char.toNat, d < 1114112 := fun d hd => by
  rcases List.mem_append.mp hd with h | h
  · rw [(List.mem_replicate.mp h).2]; decide
  · obtain ⟨x, _, rfl⟩ := List.mem_map.mp h
    exact char_lt x
theorem reprChar_ok (q c : Nat) (hq : q < 1114112) (hc : c < 1114112) : ∀ d ∈ Builtin.Str.reprChar q c, d < 1114112 := by
  intro d hd
  unfold Builtin.Str.reprChar at hd
  dsimp only at hd
  have h2 := hex_ok 2 c
  have h4 := hex_ok 4 c
  have h8 := hex_ok 8 c
  repeat' split at hd
  all_goals first
    | (simp only [List.mem_cons, List.not_mem_nil, or_false] at hd; omega)
    | (rcases List.mem_append.mp hd with hd | hd
       · simp only [List.mem_cons, List.not_mem_nil, or_false] at hd; omega
       · first | exact h2 d hd | exact h4 d hd | exact h8 d hd)
theorem foldl_repr_ok (q : Nat) (hq : q < 1114112) : ∀ (l : List Nat) (acc : Array Nat), (∀ c ∈ l, c < 1114112) → (∀ c ∈ acc.toList, c < 1114112) → ∀ c ∈ (l.foldl (fun out c => out ++ (Builtin.Str.reprChar q c).toArray) acc).toList, c < 1114112
  | [], acc, _, h => h
  | x :: r, acc, h1, h2 => by
    rw [List.foldl_cons]
    refine foldl_repr_ok q hq r _ (fun c hc => h1 c (List.mem_cons_of_mem _ hc)) fun c hc => ?_
    rw [Array.toList_append, List.toList_toArray] at hc
    exact (List.mem_append.mp hc).elim (h2 c) (reprChar_ok q x hq (h1 x List.mem_cons_self) c)
theorem okT_repr {x : Str} (h : okT x) : okT (reprText x) := by
  have hq : reprQuote x < 1114112 := by
    unfold reprQuote
    split <;> decide
  intro c hc
  unfold reprText at hc
  rw [← Array.foldl_toList] at hc
  simp only [Array.toList_push] at hc
  rcases List.mem_append.mp hc with hc | hc
  · exact foldl_repr_ok _ hq _ _ h (fun c hc => by rw [List.mem_singleton.mp hc]; exact hq) c hc
  · rw [List.mem_singleton.mp hc]; exact hq
theorem okT_join {s : Str} (hs : okT s) : ∀ l : List Str, (∀ x ∈ l, okT x) → okT (Str.join s l)
  | [], _ => fun c hc => by cases hc
  | [x], h => h x List.mem_cons_self
  | x :: y :: r, h => by
    have ih := okT_join hs (y :: r) fun z hz => h z (List.mem_cons_of_mem _ hz)
    show okT (x ++ s ++ Str.join s (y :: r))
    exact okT_app (okT_app (h x List.mem_cons_self) hs) ih
theorem okT_textFrom : ∀ (l : List Str) (k : Nat) (acc : Str), okT acc → (∀ x ∈ l, okT x) → okT (PySem.textFrom k acc l)
  | [], k, acc, h, _ => h
  | x :: r, k, acc, h, hl => by
    refine okT_textFrom r (k + 1) _ (okT_app (okT_app h (okT_of _)) (hl x List.mem_cons_self)) fun z hz => hl z (List.mem_cons_of_mem _ hz)
theorem okT_strs : ∀ l : List (List Nat), (∀ z ∈ l, okc z) → ∀ x ∈ PyData.shownAll (dStrs l), okT x
  | [], _ => fun x hx => by cases hx
  | z :: l, h => fun x hx => by
    have hx' : x ∈ PyData.shownAll (.str (S z) :: dStrs l) := hx
    simp only [PyData.shownAll, PyData.shown] at hx'
    rcases List.mem_cons.mp hx' with rfl | hx'
    · exact okT_repr (okT_S (h z List.mem_cons_self))
    · exact okT_strs l (fun y hy => h y (List.mem_cons_of_mem _ hy)) x hx'
theorem okT_list {l : List (List Nat)} (h : ∀ z ∈ l, okc z) : okT (PyData.list (dStrs l)).shown := by
  simp only [PyData.shown]
  exact okT_app (okT_textFrom _ 0 _ (okT_of "[") (okT_strs l h)) (okT_of "]")
theorem okT_tuple {l : List (List Nat)} (h : ∀ z ∈ l, okc z) : okT (PyData.tuple (dStrs l)).shown := by
  simp only [PyData.shown]
  exact okT_app (okT_app (okT_of "(") (okT_join (okT_of ", ") _ (okT_strs l h))) (okT_of _)
end M

namespace M
open PySem PySem.Spec PyProof.Rows L2
/-- what is shown: a value that stays, or a list of at most n texts that may grow -/
inductive Bd (K : PySem.W.Frag) (n : Nat) (H : Hp) : V → List Addr → PyData → Prop
  | st {v : V} {d : PyData} : (∀ H', Ex H H' → Sh K H' v d) → d.showable = true → d.depth ≤ 64 → d.shown.length ≤ sizeLine → okT d.shown → (∀ (H' : Hp) (Q : VK), Ex H H' → Q (.bl false) H' → mIsi K [v, .ty "list"] H' Q) → Bd K n H v [] d
  | ls {p : Addr} {l : List (List Nat)} : H p = some (.lst (tx l)) → l.length ≤ n → (∀ z ∈ l, z.length ≤ 1000 ∧ okc z) → Bd K n H (.ref p) [p] (.list (dStrs l))
theorem Bd.ex {K : PySem.W.Frag} {n : Nat} {H H' : Hp} {v : V} {m : List Addr} {d : PyData} (e : Ex H H') (h : Bd K n H v m d) : Bd K n H' v m d := by
  cases h with
  | st h1 h2 h3 h4 h6 h5 => exact .st (fun H2 e2 => h1 H2 (e.trans e2)) h2 h3 h4 h6 fun H2 Q e2 => h5 H2 Q (e.trans e2)
  | ls h1 h2 h3 => exact .ls (e _ _ h1) h2 h3
theorem Bd.mono {K : PySem.W.Frag} {n k : Nat} {H : Hp} {v : V} {m : List Addr} {d : PyData} (hk : n ≤ k) (h : Bd K n H v m d) : Bd K k H v m d := by
  cases h with
  | st h1 h2 h3 h4 h6 h5 => exact .st h1 h2 h3 h4 h6 h5
  | ls h1 h2 h3 => exact .ls h1 (by omega) h3
theorem Bd.shows {K : PySem.W.Frag} {n : Nat} {H : Hp} {v : V} {m : List Addr} {d : PyData} (h : Bd K n H v m d) (hn : n ≤ 1000) : Sh K H v d ∧ d.showable = true ∧ d.depth ≤ 64 ∧ d.shown.length ≤ sizeLine ∧ okT d.shown := by
  cases h with
  | st h1 h2 h3 h4 h6 h5 => exact ⟨h1 H (Ex.refl H), h2, h3, h4, h6⟩
  | @ls p l h1 h2 h3 =>
    have := shown_list_le h3
    refine ⟨.dp (.lst (SqL.of h1) (dp_strs l)) (by simpa only [PyData.hasDict] using noDict_strs l), by simpa only [PyData.showable] using showable_strs l, by simp only [PyData.depth, dep_strs]; decide, ?_, okT_list fun z hz => (h3 z hz).2⟩
    have h4 : (10 * 1000 + 4) * l.length ≤ (10 * 1000 + 4) * 1000 := Nat.mul_le_mul_left _ (by omega)
    rw [szl]; omega
section
variable {K : PySem.W.Frag} {n : Nat} {H : Hp}
theorem Bd.non : Bd K n H .non [] .none := .st (fun _ _ => .dp .non rfl) rfl (by decide) (by decide +kernel) (okT_of "None") fun H' Q _ q => by unfold mIsi; simp only [tyN, kb19]; exact q
theorem Bd.int (i : Int) (h1 : (PyData.int i).showable = true) (h2 : (PyData.int i).shown.length ≤ sizeLine) : Bd K n H (.int i) [] (.int i) := .st (fun _ _ => .dp (.int i) rfl) h1 (by simp only [PyData.depth]; decide) h2 (by simp only [PyData.shown]; exact okT_of _) fun H' Q _ q => by unfold mIsi; simp only [tyN, kb9]; exact q
theorem Bd.bl (b : Bool) : Bd K n H (.bl b) [] (.bool b) := .st (fun _ _ => .dp (.bl b) rfl) rfl (by simp only [PyData.depth]; decide) (by cases b <;> decide +kernel) (by simp only [PyData.shown]; cases b <;> exact okT_of _) fun H' Q _ q => by unfold mIsi; simp only [tyN, kb14]; exact q
theorem Bd.str {z : List Nat} (hz : okc z) (hl : z.length ≤ 1000000) : Bd K n H (.str (S z)) [] (.str (S z)) := .st (fun _ _ => .dp (.str _) rfl) rfl (by simp only [PyData.depth]; decide) (by have := shown_str_le hz; rw [szl]; omega) (by simp only [PyData.shown]; exact okT_repr (okT_S hz)) fun H' Q _ q => by unfold mIsi; simp only [tyN, kb4]; exact q
theorem Bd.tup {a : Addr} {l : List (List Nat)} (h : SqT K H a (tx l)) (hl : l.length ≤ 1000) (h3 : ∀ z ∈ l, z.length ≤ 1000 ∧ okc z) : Bd K n H (.ref a) [] (.tuple (dStrs l)) :=
  .st (fun _ e => .dp (.tup (e.T h) (dp_strs l)) (by simpa only [PyData.hasDict] using noDict_strs l)) (by simpa only [PyData.showable] using showable_strs l) (by simp only [PyData.depth, dep_strs]; decide) (by
    have := shown_tuple_le h3
    have h4 : (10 * 1000 + 4) * l.length ≤ (10 * 1000 + 4) * 1000 := Nat.mul_le_mul_left _ (by omega)
    rw [szl]; omega) (okT_tuple fun z hz => (h3 z hz).2) fun H' Q e q => ⟨_, _, tyX_tup (e.T h), ki_tup.2.2.2.1, q⟩
theorem Bd.dct {a : Addr} (h : H a = some (.dK [])) : Bd K n H (.ref a) [] (.dict []) := .st (fun _ e => .dct (e _ _ h) rfl) rfl (by decide) (by decide +kernel) (okT_app (okT_app (okT_of "{") (okT_join (okT_of ", ") _ fun x hx => by cases hx)) (okT_of "}")) fun H' Q e q => ⟨_, _, .base (.dK (e _ _ h)), ki_dict.2.2.2.1, q⟩
end
/-- a bad value shown stays one -/
theorem Bd.fm {K : PySem.W.Frag} {n k : Nat} {H H' : Hp} {v : V} {m : List Addr} {d d' : PyData} (h : Bd K n H v m d) (f : Fm m H H') (h' : Bd K k H' v m d') : Ex H H' ∨ ∃ p xs, v = .ref p ∧ m = [p] ∧ SqL K H' p xs := by
  cases h with
  | st => exact .inl (Fm.nil f)
  | ls => cases h' with
    | ls h1 => exact .inr ⟨_, _, rfl, rfl, SqL.of h1⟩
/-- lists [b, c, text] compared -/
theorem eq_bbs {K : PySem.W.Frag} {neg : Bool} {H : Hp} {Q : VK} {p q : Addr} {b c : Bool} {x : Str} (h1 : SqL K H p [.bl b, .bl c, .str x]) (h2 : SqL K H q [.bl b, .bl c, .str x]) (hx : okT x) (k : Q (.bl (!neg)) H) : rEqW K neg (.ref p) (.ref q) H Q := by
  have lay : (PyData.list [.bool b, .bool c, .str x]).canLay0 = true := by simp only [PyData.canLay0, PyData.canLayAll0, okT_strOk hx, Bool.and_self]
  have dp : ∀ {r : Addr}, SqL K H r [.bl b, .bl c, .str x] → Dp K H (.ref r) (.list [.bool b, .bool c, .str x]) := fun h => .lst h (.cons (.bl b) (.cons (.bl c) (.cons (.str x) .nil)))
  refine ⟨_, _, dp h1, dp h2, lay, lay, by simp only [PyData.depth, PyData.depthAll]; decide, ?_⟩
  have e : PyData.eqv (.list [.bool b, .bool c, .str x]) (.list [.bool b, .bool c, .str x]) = true := by simp [PyData.eqv, PyData.eqvAll]
  rw [e]
  cases neg <;> exact k
end M

/-! ### bad values in a row, each of them a list that may grow -/
namespace M
open PySem PySem.Spec PyProof.Rows L2
def gdL (l : List (List Nat)) : Prop := ∀ z ∈ l, z.length ≤ 1000 ∧ okc z
inductive Bw (K : PySem.W.Frag) (n : Nat) (H : Hp) : V → Prop
  | non : Bw K n H .non
  | int {i : Int} : (PyData.int i).showable = true → (PyData.int i).shown.length ≤ sizeLine → Bw K n H (.int i)
  | bl (b : Bool) : Bw K n H (.bl b)
  | str {z : List Nat} : okc z → z.length ≤ 1000000 → Bw K n H (.str (S z))
  | lst {p : Addr} {l : List (List Nat)} : H p = some (.lst (tx l)) → l.length ≤ n → gdL l → Bw K n H (.ref p)
  | tup {p : Addr} {l : List (List Nat)} : H p = some (.tup (tx l)) → l.length ≤ 1000 → gdL l → Bw K n H (.ref p)
  | dct {p : Addr} : H p = some (.dK []) → Bw K n H (.ref p)
theorem Bw.bd {K : PySem.W.Frag} {n : Nat} {H : Hp} {w : V} (h : Bw K n H w) : ∃ m d, Bd K n H w m d ∧ ∀ p ∈ m, w = .ref p := by
  cases h with
  | non => exact ⟨_, _, .non, fun p h => by cases h⟩
  | int h1 h2 => exact ⟨_, _, .int _ h1 h2, fun p h => by cases h⟩
  | bl b => exact ⟨_, _, .bl b, fun p h => by cases h⟩
  | str h1 h2 => exact ⟨_, _, .str h1 h2, fun p h => by cases h⟩
  | lst h1 h2 h3 => exact ⟨_, _, .ls h1 h2 h3, fun p h => by rw [List.mem_singleton.mp h]⟩
  | tup h1 h2 h3 => exact ⟨_, _, .tup (SqT.of h1) h2 h3, fun p h => by cases h⟩
  | dct h1 => exact ⟨_, _, .dct h1, fun p h => by cases h⟩
theorem Bw.ex {K : PySem.W.Frag} {n : Nat} {H H' : Hp} {w : V} (e : Ex H H') (h : Bw K n H w) : Bw K n H' w := by
  cases h with
  | non => exact .non
  | int h1 h2 => exact .int h1 h2
  | bl b => exact .bl b
  | str h1 h2 => exact .str h1 h2
  | lst h1 h2 h3 => exact .lst (e _ _ h1) h2 h3
  | tup h1 h2 h3 => exact .tup (e _ _ h1) h2 h3
  | dct h1 => exact .dct (e _ _ h1)
theorem Bw.step {K : PySem.W.Frag} {n k : Nat} {H H' : Hp} {v w : V} {m : List Addr} {d d' : PyData} (h : Bw K n H w) (bd : Bd K n H v m d) (f : Fm m H H') (bd' : Bd K k H' v m d') (hk : n ≤ k) : Bw K k H' w := by
  have at_ : ∀ {p : Addr} {o : HO}, H p = some o → (∀ l, o ≠ .lst (tx l)) → H' p = some o := fun {p o} h n => by
    refine f p o (fun hp => ?_) h
    cases bd with
    | st => cases hp
    | ls h1 => rw [List.mem_singleton.mp hp, h1] at h; cases h; exact n _ rfl
  cases h with
  | non => exact .non
  | int h1 h2 => exact .int h1 h2
  | bl b => exact .bl b
  | str h1 h2 => exact .str h1 h2
  | @lst p l h1 h2 h3 =>
    by_cases hp : p ∈ m
    · cases bd' with
      | st => cases hp
      | ls g1 g2 g3 => rw [List.mem_singleton.mp hp]; exact .lst g1 g2 g3
    · exact .lst (f p _ hp h1) (by omega) h3
  | tup h1 h2 h3 => exact .tup (at_ h1 fun l z => by cases z) h2 h3
  | dct h1 => exact .dct (at_ h1 fun l z => by cases z)
/-- the addresses of a value -/
def rf : V → List Addr
  | .ref p => [p]
  | _ => []
theorem rf_mem {v : V} {p : Addr} : p ∈ rf v ↔ v = .ref p := by
  cases v <;> simp [rf, eq_comm]
theorem Bw.stp {K : PySem.W.Frag} {n k : Nat} {H H' : Hp} {v w : V} (h : Bw K n H w) (f : Fm (rf v) H H') (b : Bw K k H' v) (hk : n ≤ k) : Bw K k H' w := by
  have at_ : ∀ {p : Addr} {o : HO}, H p = some o → v ≠ .ref p → H' p = some o := fun {p o} h n => f p o (fun hp => n (rf_mem.mp hp)) h
  cases h with
  | non => exact .non
  | int h1 h2 => exact .int h1 h2
  | bl b => exact .bl b
  | str h1 h2 => exact .str h1 h2
  | @lst p l h1 h2 h3 =>
    by_cases e : v = .ref p
    · rw [← e]; exact b
    · exact .lst (at_ h1 e) (by omega) h3
  | @tup p l h1 h2 h3 =>
    by_cases e : v = .ref p
    · rw [← e]; exact b
    · exact .tup (at_ h1 e) h2 h3
  | @dct p h1 =>
    by_cases e : v = .ref p
    · rw [← e]; exact b
    · exact .dct (at_ h1 e)
theorem SqL.fm {K : PySem.W.Frag} {H H' : Hp} {m : List Addr} {q : Addr} {xs : List V} (hq : q ∉ m) (f : Fm m H H') (hL : SqL K H q xs) : SqL K H' q xs := by
  rcases hL with h | h
  · rcases h with h | ⟨o, h⟩
    · exact .inl (.inl (f _ _ hq h))
    · exact .inl (.inr ⟨o, f _ _ hq h⟩)
  · exact .inr h
theorem Fm.mono {a b : List Addr} {H H' : Hp} (h : ∀ x ∈ a, x ∈ b) (f : Fm a H H') : Fm b H H' := fun x o n => f x o fun y => n (h x y)
theorem Tr.s_okc : ∀ t : Tr, okc t.s
  | .lf => fun c h => by rw [List.mem_singleton.mp h]; decide
  | .nd a b => fun c h => by
    simp only [Tr.s, List.mem_cons, List.mem_append, List.not_mem_nil, or_false] at h
    rcases h with rfl | h | h | rfl
    · decide
    · exact Tr.s_okc a c h
    · exact Tr.s_okc b c h
    · decide
/-- what is new may change -/
theorem Fm.exN {m : List Addr} {H H1 H2 : Hp} (e : Ex H H1) (n : ∀ p ∈ m, H p = none) (f : Fm m H1 H2) : Ex H H2 := fun a o h => f a o (fun z => by rw [n a z] at h; cases h) (e a o h)
end M

/-! ### roads and parts -/
namespace M
open PySem PySem.Spec PyProof.Rows L2
theorem isAd_app {a b : List Nat} (h1 : isAd a = true) (h2 : isAd b = true) : isAd (a ++ b) = true := by
  unfold isAd at h1 h2 ⊢
  rw [decide_eq_true_eq] at h1 h2 ⊢
  exact fun c hc => (List.mem_append.mp hc).elim (h1 c) (h2 c)
theorem Tr.att_app : ∀ (a b : List Nat) (t : Tr), t.att (a ++ b) = (t.att a).bind fun u => u.att b
  | [], b, t => by rw [Tr.att_nil]; rfl
  | c :: a, b, .lf => rfl
  | c :: a, b, .nd l r => by
    show (if c = 114 then r.att (a ++ b) else l.att (a ++ b)) = (if c = 114 then r.att a else l.att a).bind _
    split
    · exact Tr.att_app a b r
    · exact Tr.att_app a b l
theorem lvs_att : ∀ (t : Tr) (r z : List Nat), z ∈ t.lvs r → ∃ s, z = r ++ s ∧ isAd s = true ∧ t.att s = some .lf
  | .lf, r, z, h => ⟨[], by rw [List.mem_singleton.mp h]; simp, rfl, rfl⟩
  | .nd a b, r, z, h => by
    rcases List.mem_append.mp h with h | h
    · obtain ⟨s, e, h1, h2⟩ := lvs_att a _ z h
      exact ⟨108 :: s, by rw [e]; simp, isAd_app (a := [108]) (by decide) h1, h2⟩
    · obtain ⟨s, e, h1, h2⟩ := lvs_att b _ z h
      exact ⟨114 :: s, by rw [e]; simp, isAd_app (a := [114]) (by decide) h1, h2⟩
theorem nds_att : ∀ (t : Tr) (r z : List Nat), z ∈ t.nds r → ∃ s a b, z = r ++ s ∧ isAd s = true ∧ t.att s = some (.nd a b)
  | .lf, r, z, h => by cases h
  | .nd a b, r, z, h => by
    rcases List.mem_append.mp h with h | h
    · obtain ⟨s, x, y, e, h1, h2⟩ := nds_att a _ z h
      exact ⟨108 :: s, x, y, by rw [e]; simp, isAd_app (a := [108]) (by decide) h1, h2⟩
    · rcases List.mem_append.mp h with h | h
      · exact ⟨[], a, b, by rw [List.mem_singleton.mp h]; simp, rfl, rfl⟩
      · obtain ⟨s, x, y, e, h1, h2⟩ := nds_att b _ z h
        exact ⟨114 :: s, x, y, by rw [e]; simp, isAd_app (a := [114]) (by decide) h1, h2⟩
theorem lvs_off {t : Tr} {z w : List Nat} (h : t.att z = some .lf) (hw : w ≠ []) : t.att (z ++ w) = none := by
  rw [Tr.att_app, h]
  cases w with
  | nil => exact absurd rfl hw
  | cons c w => rfl
/-- the tuples of a nest are no list -/
theorem Nst.fm {K : PySem.W.Frag} {m : List Addr} {H H' : Hp} {v : V} {t : Tr} (hm : ∀ p ∈ m, H p = none ∨ ∃ xs, H p = some (.lst xs)) (f : Fm m H H') (h : Nst K H v t) : Nst K H' v t := by
  have T : ∀ {a : Addr} {xs : List V}, SqT K H a xs → SqT K H' a xs := fun {a xs} h => by
    have no : ∀ {o : HO}, H a = some o → (∀ ys, o ≠ .lst ys) → H' a = some o := fun {o} e n => f a o (fun z => by
      rcases hm a z with w | ⟨ys, w⟩
      · rw [w] at e; cases e
      · rw [w] at e; cases e; exact n _ rfl) e
    rcases h with h | h
    · rcases h with h | ⟨o, h⟩
      · exact .inl (.inl (no h fun _ z => by cases z))
      · exact .inl (.inr ⟨o, no h fun _ z => by cases z⟩)
    · exact .inr h
  induction h with
  | lf h => exact .lf (T h)
  | nd h _ _ i1 i2 => exact .nd (T h) i1 i2
theorem Pu.fmo {H H1 : Hp} {g : Addr} {n : Nat} {m : List Addr} (h : g ∉ m) (e : Fm m H H1) (p : Pu H g n) : Pu H1 g n := by
  obtain ⟨a, b, c, h1, r⟩ := p
  exact ⟨a, b, c, e _ _ h h1, r⟩
theorem isTr_dot (t : Tr) : isTr (t.s ++ [46]) = false := by
  unfold isTr
  rw [itRun_app, itRun_tree]
  rfl
theorem Fm.exg {H H1 H2 : Hp} {g : Addr} (e : Ex H H1) (n : H g = none) (f : Fm [g] H1 H2) : Ex H H2 := Fm.exN e (fun p hp => by rw [List.mem_singleton.mp hp]; exact n) f
theorem Pu.lst {H : Hp} {g : Addr} {n : Nat} (p : Pu H g n) : ∃ xs, H g = some (.lst xs) := by
  obtain ⟨a, b, c, h1, r⟩ := p
  exact ⟨_, h1⟩
theorem Pu.ne {H : Hp} {g p : Addr} {n : Nat} (h : Pu H g n) (hp : H p = none) : p ≠ g := fun z => by
  obtain ⟨_, _, _, z1, _⟩ := h
  rw [z, z1] at hp; cases hp
end M

/-! ### a refusal that is caught; values that are shown and stay -/
namespace M
open PySem PySem.Spec PyProof.Rows L2
theorem fin_go {K : PySem.W.Frag} {aT C : Addr} {i j : Nat} {D : Ends} {σ : Sl} {H : Hp} {v : V} (x1 : PySem.W.exmOne K (.ref C) (.ref aT) = some true)
    (k : ∀ (a dd : Addr) (H' : Hp), Ex H H' → H' a = some (exk a (.ref C) (some dd)) → H' dd = some (.xd [("value", v)]) → H a = none → H dd = none → D.nx ((σ.set j (some (.ref a))).set i none) H') : Fail (WE (wK K (.ref aT) i j D) σ) H C v := fun H' dd e nd hd =>
  ⟨x1, fun a na => k a dd _ (e.push na) upd_same (Ex.new na _ _ hd) (e.free na) nd⟩
theorem okT_none : okT (PyData.none).shown := okT_of "None"
theorem okT_dct : okT (PyData.dict []).shown := okT_app (okT_app (okT_of "{") (okT_join (okT_of ", ") [] fun x hx => by cases hx)) (okT_of "}")
theorem okT_int (i : Int) : okT (PyData.int i).shown := by simp only [PyData.shown]; exact okT_of _
theorem okT_bl (b : Bool) : okT (PyData.bool b).shown := by simp only [PyData.shown]; cases b <;> exact okT_of _
theorem okT_str {z : List Nat} (h : okc z) : okT (PyData.str (S z)).shown := by simp only [PyData.shown]; exact okT_repr (okT_S h)
/-- a value that stays, and is shown -/
def Sv (K : PySem.W.Frag) (H : Hp) (v : V) (d : PyData) : Prop := (∀ H', Ex H H' → Sh K H' v d) ∧ d.showable = true ∧ d.depth ≤ 64 ∧ d.shown.length ≤ sizeLine
theorem Sv.ex {K : PySem.W.Frag} {H H' : Hp} {v : V} {d : PyData} (e : Ex H H') (h : Sv K H v d) : Sv K H' v d := ⟨fun H2 e2 => h.1 H2 (e.trans e2), h.2⟩
section
variable {K : PySem.W.Frag} {H : Hp}
theorem Sv.non : Sv K H .non .none := ⟨fun _ _ => .dp .non rfl, rfl, by decide, by decide +kernel⟩
theorem Sv.int (i : Int) (h1 : (PyData.int i).showable = true) (h2 : (PyData.int i).shown.length ≤ sizeLine) : Sv K H (.int i) (.int i) := ⟨fun _ _ => .dp (.int i) rfl, h1, by simp only [PyData.depth]; decide, h2⟩
theorem Sv.bl (b : Bool) : Sv K H (.bl b) (.bool b) := ⟨fun _ _ => .dp (.bl b) rfl, rfl, by simp only [PyData.depth]; decide, by cases b <;> decide +kernel⟩
theorem Sv.str {z : List Nat} (hz : okc z) (hl : z.length ≤ 1000000) : Sv K H (.str (S z)) (.str (S z)) := ⟨fun _ _ => .dp (.str _) rfl, rfl, by simp only [PyData.depth]; decide, by have := shown_str_le hz; rw [szl]; omega⟩
theorem Sv.dct {a : Addr} (h : H a = some (.dK [])) : Sv K H (.ref a) (.dict []) := ⟨fun _ e => .dct (e _ _ h) rfl, rfl, by decide, by decide +kernel⟩
theorem Sv.lst {a : Addr} {xs : List V} {ds : List PyData} (h : SqL K H a xs) (hd : ∀ H', Ex H H' → DpAll K H' xs ds) (h1 : (PyData.list ds).hasDict = false) (h2 : (PyData.list ds).showable = true) (h3 : (PyData.list ds).depth ≤ 64) (h4 : (PyData.list ds).shown.length ≤ sizeLine) : Sv K H (.ref a) (.list ds) :=
  ⟨fun H' e => .dp (.lst (e.L h) (hd H' e)) h1, h2, h3, h4⟩
theorem Sv.tup {a : Addr} {xs : List V} {ds : List PyData} (h : SqT K H a xs) (hd : ∀ H', Ex H H' → DpAll K H' xs ds) (h1 : (PyData.tuple ds).hasDict = false) (h2 : (PyData.tuple ds).showable = true) (h3 : (PyData.tuple ds).depth ≤ 64) (h4 : (PyData.tuple ds).shown.length ≤ sizeLine) : Sv K H (.ref a) (.tuple ds) :=
  ⟨fun H' e => .dp (.tup (e.T h) (hd H' e)) h1, h2, h3, h4⟩
end
end M

/-! ### a text read into nested pairs: the open parts, the inmost first -/
namespace M
open PySem PySem.Spec PyProof.Rows L2
def rtStep : List (List Tr) → Nat → Option (List (List Tr))
  | [], _ => none
  | top :: rest, c => if c = 40 then some ([] :: top :: rest) else if c = 46 then some ((top ++ [.lf]) :: rest) else if c = 41 then (match top, rest with
    | [a, b], up :: r => some ((up ++ [.nd a b]) :: r)
    | _, _ => none) else none
def rtRun : List (List Tr) → List Nat → Option (List (List Tr))
  | st, [] => some st
  | st, c :: r => (rtStep st c).bind fun st' => rtRun st' r
theorem rtStep_cons (top : List Tr) (rest : List (List Tr)) (c : Nat) : rtStep (top :: rest) c = if c = 40 then some ([] :: top :: rest) else if c = 46 then some ((top ++ [.lf]) :: rest) else if c = 41 then (match top, rest with
    | [a, b], up :: r => some ((up ++ [.nd a b]) :: r)
    | _, _ => none) else none := rfl
theorem rt_tree : ∀ (t : Tr) (top : List Tr) (rest : List (List Tr)) (z : List Nat), rtRun (top :: rest) (t.s ++ z) = rtRun ((top ++ [t]) :: rest) z
  | .lf, top, rest, z => by simp [Tr.s, rtRun, rtStep]
  | .nd a b, top, rest, z => by
    show (rtStep (top :: rest) 40).bind (fun st' => rtRun st' ((a.s ++ (b.s ++ [41])) ++ z)) = _
    have e : rtStep (top :: rest) 40 = some ([] :: top :: rest) := by simp [rtStep]
    rw [e]
    show rtRun ([] :: top :: rest) ((a.s ++ (b.s ++ [41])) ++ z) = _
    rw [List.append_assoc, List.append_assoc, rt_tree a, rt_tree b]
    show (rtStep _ 41).bind (fun st' => rtRun st' z) = _
    have e2 : rtStep ((([] ++ [a]) ++ [b]) :: top :: rest) 41 = some ((top ++ [.nd a b]) :: rest) := by simp [rtStep]
    rw [e2]; rfl
def catT (l : List Tr) : List Nat := l.flatMap Tr.s
def unp : List (List Tr) → List Nat
  | [] => []
  | [l] => catT l
  | top :: r => unp r ++ 40 :: catT top
theorem unp_top (top : List Tr) (t : Tr) (rest : List (List Tr)) : unp ((top ++ [t]) :: rest) = unp (top :: rest) ++ t.s := by
  cases rest with
  | nil => simp [unp, catT]
  | cons a r => simp [unp, catT]
theorem rt_unp {st st' : List (List Tr)} {c : Nat} (h : rtStep st c = some st') : unp st' = unp st ++ [c] := by
  cases st with
  | nil => cases h
  | cons top rest =>
    rw [rtStep_cons] at h
    split at h
    · rename_i e; cases h; subst e; simp [unp, catT]
    · split at h
      · rename_i e; cases h; subst e; rw [unp_top]; rfl
      · split at h
        · rename_i e
          subst e
          split at h
          · cases h
            rw [unp_top]
            simp [unp, catT, Tr.s]
          · cases h
        · cases h
theorem rt_unpR : ∀ (z : List Nat) (st st' : List (List Tr)), rtRun st z = some st' → unp st' = unp st ++ z
  | [], st, st', h => by cases h; simp
  | c :: z, st, st', h => by
    have h' : (rtStep st c).bind (fun s => rtRun s z) = some st' := h
    cases e : rtStep st c with
    | none => rw [e] at h'; cases h'
    | some s =>
      rw [e] at h'
      rw [rt_unpR z s st' h', rt_unp e]
      simp
theorem rt_yes (t : Tr) : rtRun [[]] t.s = some [[t]] := by
  have := rt_tree t [] [] []
  simpa [rtRun] using this
theorem rt_back {z : List Nat} {t : Tr} (h : rtRun [[]] z = some [[t]]) : z = t.s := by
  have := rt_unpR z _ _ h
  simpa [unp, catT] using this.symm
theorem rt_ne {st st' : List (List Tr)} {c : Nat} (h : rtStep st c = some st') : st' ≠ [] := by
  cases st with
  | nil => cases h
  | cons top rest =>
    rw [rtStep_cons] at h
    split at h
    · cases h; simp
    · split at h
      · cases h; simp
      · split at h
        · split at h
          · cases h; simp
          · cases h
        · cases h
/-! the heap of the open parts -/
inductive NsA (K : PySem.W.Frag) (H : Hp) : List V → List Tr → Prop
  | nil : NsA K H [] []
  | cons {v : V} {t : Tr} {vs : List V} {ts : List Tr} : Nst K H v t → NsA K H vs ts → NsA K H (v :: vs) (t :: ts)
theorem NsA.nl {K : PySem.W.Frag} {H H' : Hp} (e : Nl H H') {vs : List V} {ts : List Tr} (h : NsA K H vs ts) : NsA K H' vs ts := by
  induction h with
  | nil => exact .nil
  | cons h _ ih => exact .cons (h.nl e) ih
theorem NsA.app {K : PySem.W.Frag} {H : Hp} {vs ws : List V} {ts us : List Tr} (h : NsA K H vs ts) (g : NsA K H ws us) : NsA K H (vs ++ ws) (ts ++ us) := by
  induction h with
  | nil => exact g
  | cons h _ ih => exact .cons h ih
theorem NsA.len {K : PySem.W.Frag} {H : Hp} {vs : List V} {ts : List Tr} (h : NsA K H vs ts) : vs.length = ts.length := by
  induction h with
  | nil => rfl
  | cons h _ ih => simp [ih]
inductive StA (K : PySem.W.Frag) (H : Hp) : List Addr → List (List Tr) → Prop
  | nil : StA K H [] []
  | cons {p : Addr} {ps : List Addr} {vs : List V} {l : List Tr} {st : List (List Tr)} : H p = some (.lst vs) → NsA K H vs l → StA K H ps st → StA K H (p :: ps) (l :: st)
theorem StA.len {K : PySem.W.Frag} {H : Hp} {ps : List Addr} {st : List (List Tr)} (h : StA K H ps st) : ps.length = st.length := by
  induction h with
  | nil => rfl
  | cons h _ _ ih => simp [ih]
theorem StA.keep {K : PySem.W.Frag} {H H' : Hp} (e : Nl H H') {ps : List Addr} {st : List (List Tr)} (f : ∀ p ∈ ps, ∀ o, H p = some o → H' p = some o) (h : StA K H ps st) : StA K H' ps st := by
  induction h with
  | nil => exact .nil
  | cons h n _ ih => exact .cons (f _ List.mem_cons_self _ h) (n.nl e) (ih fun p hp => f p (List.mem_cons_of_mem _ hp))
structure Rt (K : PySem.W.Frag) (H0 H : Hp) (o : Addr) (ps : List Addr) (st : List (List Tr)) : Prop where
  ex : Ex H0 H
  ho : H o = some (.lst (ps.reverse.map V.ref))
  n0 : H0 o = none
  nd : ps.Nodup
  no : o ∉ ps
  np : ∀ p ∈ ps, H0 p = none
  sa : StA K H ps st
theorem Rt.new {K : PySem.W.Frag} {H0 H : Hp} {o : Addr} {ps : List Addr} {st : List (List Tr)} (r : Rt K H0 H o ps st) {q : Addr} {x : HO} (h : H q = none) : Rt K H0 (upd H q x) o ps st :=
  ⟨r.ex.push h, Ex.new h _ _ r.ho, r.n0, r.nd, r.no, r.np, r.sa.keep (Nl.new h) fun p _ o ho => Ex.new h _ _ ho⟩
theorem Rt.top {K : PySem.W.Frag} {H0 H : Hp} {o p : Addr} {ps : List Addr} {l : List Tr} {st : List (List Tr)} (r : Rt K H0 H o (p :: ps) (l :: st)) : ∃ vs, H p = some (.lst vs) ∧ NsA K H vs l := by
  cases r.sa with
  | cons h n _ => exact ⟨_, h, n⟩
/-- the inmost open part gets one more -/
theorem Rt.put {K : PySem.W.Frag} {H0 H : Hp} {o p : Addr} {ps : List Addr} {l : List Tr} {st : List (List Tr)} {vs : List V} {v : V} {t : Tr} (r : Rt K H0 H o (p :: ps) (l :: st)) (hp : H p = some (.lst vs)) (hv : Nst K H v t) : Rt K H0 (upd H p (.lst (vs ++ [v]))) o (p :: ps) ((l ++ [t]) :: st) := by
  have op : o ≠ p := fun z => r.no (by rw [z]; exact List.mem_cons_self)
  have e : Nl H (upd H p (.lst (vs ++ [v]))) := Nl.mut hp
  refine ⟨r.ex.mut (r.np p List.mem_cons_self), (upd_ne op).trans r.ho, r.n0, r.nd, r.no, r.np, ?_⟩
  cases r.sa with
  | cons h n s =>
    rw [hp] at h
    cases h
    refine .cons upd_same (NsA.app (n.nl e) (.cons (hv.nl e) .nil)) (s.keep e fun q hq o ho => ?_)
    have : q ≠ p := fun z => (List.nodup_cons.mp r.nd).1 (z ▸ hq)
    exact (upd_ne this).trans ho
/-- one more open part -/
theorem Rt.open_ {K : PySem.W.Frag} {H0 H : Hp} {o q : Addr} {ps : List Addr} {st : List (List Tr)} (r : Rt K H0 H o ps st) (h : H q = none) : Rt K H0 (upd (upd H q (.lst [])) o (.lst (ps.reverse.map V.ref ++ [.ref q]))) o (q :: ps) ([] :: st) := by
  have r1 := r.new (x := .lst []) h
  have qo : q ≠ o := fun z => by rw [z, r.ho] at h; cases h
  have qp : q ∉ ps := fun hq => by
    have : ∀ {ps : List Addr} {st : List (List Tr)}, StA K H ps st → q ∈ ps → False := fun {ps st} s => by
      induction s with
      | nil => intro z; cases z
      | cons a _ _ ih =>
        intro z
        rcases List.mem_cons.mp z with e | z
        · rw [← e, h] at a; cases a
        · exact ih z
    exact this r.sa hq
  have e : Nl (upd H q (.lst [])) (upd (upd H q (.lst [])) o (.lst (ps.reverse.map V.ref ++ [.ref q]))) := Nl.mut r1.ho
  refine ⟨r1.ex.mut r.n0, by rw [upd_same]; simp, r.n0, List.nodup_cons.mpr ⟨qp, r.nd⟩, ?_, ?_, .cons ((upd_ne qo).trans upd_same) .nil (r1.sa.keep e fun p hp x hx => ?_)⟩
  · intro z
    rcases List.mem_cons.mp z with e | z
    · exact qo e.symm
    · exact r.no z
  · intro p hp
    rcases List.mem_cons.mp hp with rfl | hp
    · exact r.ex.free h
    · exact r.np p hp
  · have : p ≠ o := fun z => r.no (z ▸ hp)
    exact (upd_ne this).trans hx
/-- the inmost open part is taken off -/
theorem Rt.pop {K : PySem.W.Frag} {H0 H : Hp} {o p : Addr} {ps : List Addr} {l : List Tr} {st : List (List Tr)} (r : Rt K H0 H o (p :: ps) (l :: st)) : Rt K H0 (upd H o (.lst (ps.reverse.map V.ref))) o ps st := by
  have e : Nl H (upd H o (.lst (ps.reverse.map V.ref))) := Nl.mut r.ho
  refine ⟨r.ex.mut r.n0, upd_same, r.n0, (List.nodup_cons.mp r.nd).2, fun z => r.no (List.mem_cons_of_mem _ z), fun q hq => r.np q (List.mem_cons_of_mem _ hq), ?_⟩
  cases r.sa with
  | cons h n s => exact s.keep e fun q hq x hx => (upd_ne (fun z => r.no (by rw [← z]; exact List.mem_cons_of_mem _ hq))).trans hx
end M

/-! ### heights and leans -/
namespace M
open PySem PySem.Spec PyProof.Rows L2
namespace Tr
def meas : Tr → List Int → Int × List Int
  | .lf, row => (row.headD 0, [])
  | .nd a b, row => (1 + max (a.meas (row.take (a.n + 1))).1 (b.meas (row.drop (a.n + 1))).1, (a.meas (row.take (a.n + 1))).2 ++ ([(a.meas (row.take (a.n + 1))).1 - (b.meas (row.drop (a.n + 1))).1] ++ (b.meas (row.drop (a.n + 1))).2))
theorem meas_len : ∀ (t : Tr) (row : List Int), (t.meas row).2.length = t.n
  | .lf, _ => rfl
  | .nd a b, row => by
    simp only [meas, n, List.length_append, List.length_singleton, meas_len a, meas_len b]; omega
def evn (t : Tr) (row : List Int) (s : Int) : Bool := (t.meas row).2.all fun d => decide ((d.natAbs : Int) ≤ s)
end Tr
/-- the fewest nodes by heights -/
def nup (s : Nat) : Nat → List Nat
  | 0 => [0]
  | n + 1 => nup s n ++ [1 + (nup s n).getD n 0 + (nup s n).getD (n - s) 0]
def least (s n : Nat) : Nat := (nup s n).getD n 0
theorem nup_len (s : Nat) : ∀ n, (nup s n).length = n + 1
  | 0 => rfl
  | n + 1 => by simp [nup, nup_len s n]
theorem nup_get (s : Nat) : ∀ n i, i ≤ n → (nup s n).getD i 0 = least s i
  | 0, i, h => by obtain rfl : i = 0 := by omega
                  rfl
  | n + 1, i, h => by
    by_cases e : i = n + 1
    · subst e; rfl
    · have := nup_get s n i (by omega)
      rw [← this, nup, List.getD_eq_getElem?_getD, List.getD_eq_getElem?_getD, List.getElem?_append_left (by rw [nup_len]; omega)]
      first | rfl | simp [List.getD_eq_getElem?_getD]
theorem least_succ (s n : Nat) : least s (n + 1) = 1 + least s n + least s (n - s) := by
  have e : least s (n + 1) = 1 + (nup s n).getD n 0 + (nup s n).getD (n - s) 0 := by
    unfold least
    rw [nup, List.getD_eq_getElem?_getD, List.getElem?_append_right (by rw [nup_len]; exact Nat.le_refl _), nup_len]
    simp
  rw [e, nup_get s n n (Nat.le_refl _), nup_get s n (n - s) (by omega)]
theorem least_zero (s : Nat) : least s 0 = 0 := rfl
theorem least_le (s : Nat) : ∀ n, least s n ≤ least s (n + 1) := fun n => by rw [least_succ]; omega
theorem least_mono (s : Nat) {m n : Nat} (h : m ≤ n) : least s m ≤ least s n := by
  induction h with
  | refl => exact Nat.le_refl _
  | step _ ih => exact Nat.le_trans ih (least_le s _)
theorem nup_at (s n i : Nat) (h : i ≤ n) : atI ((nup s n).map fun (k : Nat) => V.int (k : Int)) (i : Int) = some (.int (least s i : Int)) := by
  rw [aI_nat, List.getElem?_map, ← nup_get s n i h, List.getD_eq_getElem?_getD, List.getElem?_eq_getElem (by rw [nup_len]; omega)]
  rfl
namespace Tr
def ht : Tr → Nat
  | .lf => 0
  | .nd a b => 1 + max a.ht b.ht
def lz : Tr → List Int
  | .lf => []
  | .nd a b => a.lz ++ ([(a.ht : Int) - (b.ht : Int)] ++ b.lz)
theorem meas_zero : ∀ t : Tr, t.meas (List.replicate (t.n + 1) 0) = ((t.ht : Int), t.lz)
  | .lf => rfl
  | .nd a b => by
    have h1 : (List.replicate (a.n + b.n + 1 + 1) (0 : Int)).take (a.n + 1) = List.replicate (a.n + 1) 0 := by rw [List.take_replicate]; congr 1; omega
    have h2 : (List.replicate (a.n + b.n + 1 + 1) (0 : Int)).drop (a.n + 1) = List.replicate (b.n + 1) 0 := by rw [List.drop_replicate]; congr 1; omega
    simp only [meas, n, h1, h2, meas_zero a, meas_zero b, ht, lz]
    congr 1
    omega
end Tr
def combL : Nat → Tr
  | 0 => .lf
  | k + 1 => .nd (combL k) .lf
def combR : Nat → Tr
  | 0 => .lf
  | k + 1 => .nd .lf (combR k)
theorem combL_n : ∀ k, (combL k).n = k
  | 0 => rfl
  | k + 1 => by show (combL k).n + 0 + 1 = k + 1; rw [combL_n k]
theorem combR_n : ∀ k, (combR k).n = k
  | 0 => rfl
  | k + 1 => by show 0 + (combR k).n + 1 = k + 1; rw [combR_n k]; omega
theorem Tr.ht_le : ∀ t : Tr, t.ht ≤ t.n
  | .lf => Nat.le_refl _
  | .nd a b => by
    have := Tr.ht_le a
    have := Tr.ht_le b
    simp only [Tr.ht, Tr.n]; omega
theorem combL_ht : ∀ k, (combL k).ht = k
  | 0 => rfl
  | k + 1 => by show 1 + max (combL k).ht 0 = k + 1; rw [combL_ht k]; omega
theorem combR_ht : ∀ k, (combR k).ht = k
  | 0 => rfl
  | k + 1 => by show 1 + max 0 (combR k).ht = k + 1; rw [combR_ht k]; omega
theorem repl0M (n : Nat) : (List.replicate n [V.int 0]).flatten = (List.replicate n (0 : Int)).map V.int := by simp
theorem eq_nilI {K : PySem.W.Frag} {H : Hp} {Q : VK} {p q : Addr} {l : List Int} (h1 : SqL K H p (l.map V.int)) (h2 : SqL K H q []) (k : Q (.bl (decide (l = []))) H) : rEqW K false (.ref p) (.ref q) H Q :=
  eq_ints (a := l) (b := []) h1 h2 k
end M

namespace Pf
open PySem PySem.Spec PyProof.Rows L2 M
def top (i : Nat) : Stmt := PySem.Challenge.pw_treeturns_k04_trees_that_grow.main.body.getD i (.Pass ⟨0, 0, 0, 0⟩)
@[reducible] def rd_is_tree_b1 (K : PySem.W.Frag) (D : Ends) (σ : Sl) (H : Hp) : Prop := ((tIfS (mTest (tOp (mEq K) (mVar 2) (mC (.str (S [41]))))) (tSeq (tIfS (mTest (tOp (mNe K) (tSl (mSl K) (mVar 1) (mPart (mUn (fun i => -i) (mC (.int 3)))) tNoPart) (mC (.str (S [40, 46, 46]))))) (tRet (mC (.bl false))) tNext)
  (tAsg (tOp mAdd (tSl (mSl K) (mVar 1) tNoPart (mPart (mUn (fun i => -i) (mC (.int 3))))) (mC (.str (S [46])))) (gName 1))) (tIfS (mInTT false (mVar 2) (tCons (mC (.str (S [40]))) (tCons (mC (.str (S [46]))) tNil))) (tAsg (tOp mAdd (mVar 1) (mVar 2)) (gName 1)) (tRet (mC (.bl false))))) : TS) D σ H
def rd_is_tree (K : PySem.W.Frag) : TS := (tSeq (tIfS (tNot (mTest (tCB (mIsi K) (tCons (mVar 0) (tCons (mC (.ty "str")) tNil))))) (tRet (mC (.bl false))) tNext)
  (tSeq (tAsg (mC (.str (S []))) (gName 1))
  (tSeq (mFor (mIter K (mVar 0)) (gName 2) (rd_is_tree_b1 K))
  (tRet (tOp (mEq K) (mVar 1) (mC (.str (S [46]))))))))
abbrev N_is_tree : List Str := ["value", "waiting", "sign"]
def rd_check_tree (K : PySem.W.Frag) (sp_is_tree : Sp) (a_InvalidTree : Addr) (E : XK) : TS := (tIfS (tNot (mTest (tCall sp_is_tree [] E0 (tCons (mVar 0) tNil)))) (mRaise a_InvalidTree "value" (tCons (mVar 0) tNil) E) tNext)
abbrev N_check_tree : List Str := ["value"]
@[reducible] def rd_end_of_b1 (K : PySem.W.Frag) (D : Ends) (σ : Sl) (H : Hp) : Prop := ((tSeq (tIfS (mTest (tOp (mEq K) (tOp (mIx K) (mVar 0) (mVar 2)) (mC (.str (S [40]))))) (tAsg (tOp mAdd (mVar 3) (mC (.int 1))) (gName 3)) (tIfS (mTest (tOp (mEq K) (tOp (mIx K) (mVar 0) (mVar 2)) (mC (.str (S [41]))))) (tAsg (tOp mSub (mVar 3) (mC (.int 1))) (gName 3)) tNext))
  (tSeq (tAsg (tOp mAdd (mVar 2) (mC (.int 1))) (gName 2))
  (tIfS (mTest (tOp (mEq K) (mVar 3) (mC (.int 0)))) (tRet (mVar 2)) tNext))) : TS) D σ H
def rd_end_of (K : PySem.W.Frag) : TS := (tSeq (tAsg (mVar 1) (gName 2))
  (tSeq (tAsg (mC (.int 0)) (gName 3))
  (mWhile (mTest (mC (.bl true))) (rd_end_of_b1 K))))
abbrev N_end_of : List Str := ["tree", "start", "at", "opened"]
def rd_grown_by (K : PySem.W.Frag) : TS := (tSeq (tAsg (mStrM (mSplit) (mVar 0) (mC (.str (S [46])))) (gName 2))
  (tRet (tOp mAdd (tOp (mIx K) (mVar 2) (mC (.int 0))) (mStrM (mJoin K) (mC (.str (S []))) (mLc (mEnum K (mVar 1)) (mgTup K 2 (mgCons (gName 3) (mgCons (gName 4) mgNil))) tYes (tOp mAdd (mVar 4) (tOp (mIx K) (mVar 2) (tOp mAdd (mVar 3) (mC (.int 1))))) [3, 4])))))
abbrev N_grown_by : List Str := ["tree", "trees", "pieces", "number", "other"]
def rd_grown (K : PySem.W.Frag) (sp_check_tree : Sp) (sp_is_tree : Sp) (sp_grown_by : Sp) (a_InvalidList : Addr) (E : XK) : TS := (tSeq (tDrop (tCall sp_check_tree [] E (tCons (mVar 0) tNil)))
  (tSeq (tIfS (tOr (tNot (mTest (tCB (mIsi K) (tCons (mVar 1) (tCons (mC (.ty "list")) tNil))))) (mTest (tOp (mNe K) (tCB (mLen K) (tCons (mVar 1) tNil)) (mStrM (mCount) (mVar 0) (mC (.str (S [46]))))))) (mRaise a_InvalidList "value" (tCons (mVar 1) tNil) E) tNext)
  (tSeq (tIfS (mTest (tOp (mNeE K) (mLc (mIter K (mVar 1)) (gName 2) (tNot (mTest (tCall sp_is_tree [] E0 (tCons (mVar 2) tNil)))) (mVar 2) [2]) (tLst tNil))) (mRaise a_InvalidList "value" (tCons (mVar 1) tNil) E) tNext)
  (tRet (tCall sp_grown_by [] E0 (tCons (mVar 0) (tCons (mVar 1) tNil)))))))
abbrev N_grown : List Str := ["tree", "hung", "other"]
@[reducible] def rd_hung_on_b1 (K : PySem.W.Frag) (sp_end_of : Sp) (D : Ends) (σ : Sl) (H : Hp) : Prop := ((tIfS (mTest (tOp (mEq K) (mVar 4) (mC (.str (S [46]))))) (tSeq (tAsg (tCall sp_end_of [] E0 (tCons (mVar 0) (tCons (mVar 3) tNil))) (gName 5))
  (tSeq (tAsg (tOp mAdd (mVar 2) (tLst (tCons (tSl (mSl K) (mVar 0) (mPart (mVar 3)) (mPart (mVar 5))) tNil))) (gName 2))
  (tAsg (mVar 5) (gName 3)))) (tIfS (mTest (tOp (mEq K) (tOp (mIx K) (mVar 0) (mVar 3)) (mVar 4))) (tAsg (tOp mAdd (mVar 3) (mC (.int 1))) (gName 3)) (tRet (mC .non)))) : TS) D σ H
def rd_hung_on (K : PySem.W.Frag) (sp_end_of : Sp) : TS := (tSeq (tAsg (tLst tNil) (gName 2))
  (tSeq (tAsg (mC (.int 0)) (gName 3))
  (tSeq (mFor (mIter K (mVar 1)) (gName 4) (rd_hung_on_b1 K sp_end_of))
  (tRet (mVar 2)))))
abbrev N_hung_on : List Str := ["tree", "top", "found", "at", "sign", "end"]
def rd_hung (K : PySem.W.Frag) (sp_check_tree : Sp) (sp_hung_on : Sp) (E : XK) : TS := (tSeq (tDrop (tCall sp_check_tree [] E (tCons (mVar 0) tNil)))
  (tSeq (tDrop (tCall sp_check_tree [] E (tCons (mVar 1) tNil)))
  (tRet (tCall sp_hung_on [] E0 (tCons (mVar 0) (tCons (mVar 1) tNil))))))
abbrev N_hung : List Str := ["tree", "top"]
@[reducible] def rd_joined_trees_b1 (K : PySem.W.Frag) (sp_end_of : Sp) (D : Ends) (σ : Sl) (H : Hp) : Prop := ((tIfS (mTest (tOp (mEq K) (tOp (mIx K) (mVar 0) (mVar 3)) (mC (.str (S [46]))))) (tSeq (tAsg (tCall sp_end_of [] E0 (tCons (mVar 1) (tCons (mVar 4) tNil))) (gName 5))
  (tSeq (tAsg (tOp mAdd (mVar 2) (tSl (mSl K) (mVar 1) (mPart (mVar 4)) (mPart (mVar 5)))) (gName 2))
  (tSeq (tAsg (tOp mAdd (mVar 3) (mC (.int 1))) (gName 3))
  (tAsg (mVar 5) (gName 4))))) (tIfS (mTest (tOp (mEq K) (tOp (mIx K) (mVar 1) (mVar 4)) (mC (.str (S [46]))))) (tSeq (tAsg (tCall sp_end_of [] E0 (tCons (mVar 0) (tCons (mVar 3) tNil))) (gName 5))
  (tSeq (tAsg (tOp mAdd (mVar 2) (tSl (mSl K) (mVar 0) (mPart (mVar 3)) (mPart (mVar 5)))) (gName 2))
  (tSeq (tAsg (mVar 5) (gName 3))
  (tAsg (tOp mAdd (mVar 4) (mC (.int 1))) (gName 4))))) (tSeq (tAsg (tOp mAdd (mVar 2) (tOp (mIx K) (mVar 0) (mVar 3))) (gName 2))
  (tSeq (tAsg (tOp mAdd (mVar 3) (mC (.int 1))) (gName 3))
  (tAsg (tOp mAdd (mVar 4) (mC (.int 1))) (gName 4)))))) : TS) D σ H
def rd_joined_trees (K : PySem.W.Frag) (sp_end_of : Sp) : TS := (tSeq (tAsg (mC (.str (S []))) (gName 2))
  (tSeq (tAsg (mC (.int 0)) (gName 3))
  (tSeq (tAsg (mC (.int 0)) (gName 4))
  (tSeq (mWhile (mTest (tOp (mLt) (mVar 3) (tCB (mLen K) (tCons (mVar 0) tNil)))) (rd_joined_trees_b1 K sp_end_of))
  (tRet (mVar 2))))))
abbrev N_joined_trees : List Str := ["one", "other", "found", "at", "place", "end"]
def rd_joined (K : PySem.W.Frag) (sp_check_tree : Sp) (sp_joined_trees : Sp) (E : XK) : TS := (tSeq (tDrop (tCall sp_check_tree [] E (tCons (mVar 0) tNil)))
  (tSeq (tDrop (tCall sp_check_tree [] E (tCons (mVar 1) tNil)))
  (tRet (tCall sp_joined_trees [] E0 (tCons (mVar 0) (tCons (mVar 1) tNil))))))
abbrev N_joined : List Str := ["one", "other"]
@[reducible] def rd_shared_b1 (K : PySem.W.Frag) (sp_check_tree : Sp) (sp_end_of : Sp) (E : XK) (D : Ends) (σ : Sl) (H : Hp) : Prop := ((tIfS (tOr (mTest (tOp (mEq K) (tOp (mIx K) (mVar 0) (mVar 3)) (mC (.str (S [46]))))) (mTest (tOp (mEq K) (tOp (mIx K) (mVar 1) (mVar 4)) (mC (.str (S [46])))))) (tSeq (tDrop (mLstM mApp (mVar 2) (tCons (mC (.str (S [46]))) tNil)))
  (mPar 3 4 (tCons (tCall sp_end_of [] E0 (tCons (mVar 0) (tCons (mVar 3) tNil))) (tCons (tCall sp_end_of [] E0 (tCons (mVar 1) (tCons (mVar 4) tNil))) tNil)))) (tSeq (tDrop (mLstM mApp (mVar 2) (tCons (tOp (mIx K) (mVar 0) (mVar 3)) tNil)))
  (mPar 3 4 (tCons (tOp mAdd (mVar 3) (mC (.int 1))) (tCons (tOp mAdd (mVar 4) (mC (.int 1))) tNil))))) : TS) D σ H
def rd_shared (K : PySem.W.Frag) (sp_check_tree : Sp) (sp_end_of : Sp) (E : XK) : TS := (tSeq (tDrop (tCall sp_check_tree [] E (tCons (mVar 0) tNil)))
  (tSeq (tDrop (tCall sp_check_tree [] E (tCons (mVar 1) tNil)))
  (tSeq (mPar3 2 3 4 (tCons (tLst tNil) (tCons (mC (.int 0)) (tCons (mC (.int 0)) tNil))))
  (tSeq (mWhile (mTest (tOp (mLt) (mVar 3) (tCB (mLen K) (tCons (mVar 0) tNil)))) (rd_shared_b1 K sp_check_tree sp_end_of E))
  (tRet (mStrM (mJoin K) (mC (.str (S []))) (mVar 2)))))))
abbrev N_shared : List Str := ["one", "other", "found", "at", "place"]
def rd__law_cell (K : PySem.W.Frag) : TS := (tSeq (tIfS (mTest (tOp (mLt) (mVar 1) (tCB (mLen K) (tCons (mVar 0) tNil)))) (tRet (tOp (mIx K) (mVar 0) (mVar 1))) tNext)
  (tRet (mC (.int 0))))
abbrev N__law_cell : List Str := ["_law_script", "_law_index"]
def rd__law_hash (K : PySem.W.Frag) : TS := (tSeq (tAsg (tOp mMod (tCB (mInt) (tCons (tOp mAdd (tOp mAdd (tOp mAdd (tOp mMul (mVar 0) (mC (.int 1103515245))) (tOp mMul (tOp mMul (mC (.int 7919)) (mVar 1)) (mVar 1))) (mVar 1)) (mC (.int 1))) tNil)) (mC (.int 2147483647))) (gName 2))
  (tSeq (tAsg (tOp mMod (tCB (mInt) (tCons (tOp mAdd (tOp mMul (mVar 2) (mVar 2)) (mC (.int 69621))) tNil)) (mC (.int 2147483629))) (gName 2))
  (tRet (tOp mMod (tCB (mInt) (tCons (tOp mMul (mVar 2) (mC (.int 48271))) tNil)) (mC (.int 2147483587))))))
abbrev N__law_hash : List Str := ["_law_seed", "_law_index", "_law_mixed"]
def rd__law_generator (K : PySem.W.Frag) (sp__law_cell : Sp) : TS := (tSeq (tAsg (tCall sp__law_cell [] E0 (tCons (mVar 0) (tCons (mVar 1) tNil))) (gName 2))
  (tRet (tLst (tCons (tOp mMod (tCB (mInt) (tCons (tCB (mMax) (tCons (tOp mSub (mVar 2) (tOp mPow (mC (.int 10)) (mC (.int 18)))) (tCons (mC (.int 0)) tNil))) tNil)) (tOp mPow (tOp mPow (mC (.int 10)) (mC (.int 60))) (mC (.int 10)))) (tCons (tOp mMod (tCB (mInt) (tCons (mVar 2) tNil)) (mC (.int 2147483647))) (tCons (tOp mMul (mC (.int 1000)) (mVar 1)) tNil))))))
abbrev N__law_generator : List Str := ["_law_script", "_law_index", "_law_seed"]
@[reducible] def rd__law_random_b1 (K : PySem.W.Frag) (sp__law_hash : Sp) (D : Ends) (σ : Sl) (H : Hp) : Prop := ((tSeq (tAsg (tOp mAdd (tOp (mIx K) (mVar 0) (mC (.int 2))) (mC (.int 1))) (gSub (mVar 0) (mC (.int 2)) mSetL))
  (tAsg (tOp mAdd (tOp mMul (mVar 2) (mC (.int 2147483587))) (tCall sp__law_hash [] E0 (tCons (tOp (mIx K) (mVar 0) (mC (.int 1))) (tCons (tOp (mIx K) (mVar 0) (mC (.int 2))) tNil)))) (gName 2))) : TS) D σ H
def rd__law_random (K : PySem.W.Frag) (sp__law_hash : Sp) : TS := (tSeq (tIfS (mTest (tOp (mGt) (tOp (mIx K) (mVar 0) (mC (.int 0))) (mC (.int 0)))) (tSeq (tAsg (tOp mMod (tCB (mInt) (tCons (tOp (mIx K) (mVar 0) (mC (.int 0))) tNil)) (mVar 1)) (gName 2))
  (tSeq (tAsg (tOp mDiv (tOp (mIx K) (mVar 0) (mC (.int 0))) (mVar 1)) (gSub (mVar 0) (mC (.int 0)) mSetL))
  (tRet (mVar 2)))) tNext)
  (tSeq (tAsg (mC (.int 0)) (gName 2))
  (tSeq (mFor (mRng1 (tOp mAdd (mC (.int 1)) (tOp mDiv (mBits (mVar 1)) (mC (.int 30))))) (gName 3) (rd__law_random_b1 K sp__law_hash))
  (tRet (tOp mMod (tCB (mInt) (tCons (mVar 2) tNil)) (mVar 1))))))
abbrev N__law_random : List Str := ["_law_generator_here", "_law_bound", "_law_drawn", "_law_turn"]
def rd__law_tree (K : PySem.W.Frag) (sp__law_random : Sp) (sp__law_tree : Sp) : TS := (tSeq (tIfS (mTest (tOp (mEq K) (mVar 1) (mC (.int 0)))) (tRet (mC (.str (S [46])))) tNext)
  (tSeq (tAsg (tOp (mIx K) (tLst (tCons (mC (.int 0)) (tCons (tOp mSub (mVar 1) (mC (.int 1))) (tCons (tCall sp__law_random [] E0 (tCons (mVar 0) (tCons (mVar 1) tNil))) (tCons (tOp mDiv (mVar 1) (mC (.int 2))) tNil))))) (tCall sp__law_random [] E0 (tCons (mVar 0) (tCons (mC (.int 4)) tNil)))) (gName 2))
  (tRet (tOp mAdd (tOp mAdd (tOp mAdd (mC (.str (S [40]))) (tCall sp__law_tree [] E0 (tCons (mVar 0) (tCons (mVar 2) tNil)))) (tCall sp__law_tree [] E0 (tCons (mVar 0) (tCons (tOp mSub (tOp mSub (mVar 1) (mC (.int 1))) (mVar 2)) tNil)))) (mC (.str (S [41])))))))
abbrev N__law_tree : List Str := ["_law_generator_here", "_law_many", "_law_left"]
@[reducible] def rd__law_parsed_b1 (K : PySem.W.Frag) (D : Ends) (σ : Sl) (H : Hp) : Prop := ((tIfS (mTest (tOp (mEq K) (mVar 2) (mC (.str (S [41]))))) (tAsg (tOp mAdd (tSl (mSl K) (mVar 1) tNoPart (mPart (mUn (fun i => -i) (mC (.int 2))))) (tLst (tCons (tTup (tCons (tOp (mIx K) (mVar 1) (mUn (fun i => -i) (mC (.int 2)))) (tCons (tOp (mIx K) (mVar 1) (mUn (fun i => -i) (mC (.int 1)))) tNil))) tNil))) (gName 1)) (tIfS (mTest (tOp (mEq K) (mVar 2) (mC (.str (S [46]))))) (tDrop (mLstM mApp (mVar 1) (tCons (tTup tNil) tNil))) tNext)) : TS) D σ H
def rd__law_parsed (K : PySem.W.Frag) : TS := (tSeq (tAsg (tLst tNil) (gName 1))
  (tSeq (mFor (mIter K (mVar 0)) (gName 2) (rd__law_parsed_b1 K))
  (tRet (tOp (mIx K) (mVar 1) (mC (.int 0))))))
abbrev N__law_parsed : List Str := ["_law_tree_here", "_law_found", "_law_sign"]
def rd__law_text (K : PySem.W.Frag) (sp__law_text : Sp) : TS := (tSeq (tIfS (mTest (tOp (mEq K) (mVar 0) (tTup tNil))) (tRet (mC (.str (S [46])))) tNext)
  (tRet (tOp mAdd (tOp mAdd (tOp mAdd (mC (.str (S [40]))) (tCall sp__law_text [] E0 (tCons (tOp (mIx K) (mVar 0) (mC (.int 0))) tNil))) (tCall sp__law_text [] E0 (tCons (tOp (mIx K) (mVar 0) (mC (.int 1))) tNil))) (mC (.str (S [41]))))))
abbrev N__law_text : List Str := ["_law_parsed_here"]
def rd__law_filled (K : PySem.W.Frag) (sp__law_filled : Sp) : TS := (tSeq (tIfS (mTest (tOp (mEq K) (mVar 0) (tTup tNil))) (tRet (mLstM mPop0 (mVar 1) (tCons (mC (.int 0)) tNil))) tNext)
  (tSeq (tAsg (tCall sp__law_filled [] E0 (tCons (tOp (mIx K) (mVar 0) (mC (.int 0))) (tCons (mVar 1) tNil))) (gName 2))
  (tRet (tTup (tCons (mVar 2) (tCons (tCall sp__law_filled [] E0 (tCons (tOp (mIx K) (mVar 0) (mC (.int 1))) (tCons (mVar 1) tNil))) tNil))))))
abbrev N__law_filled : List Str := ["_law_parsed_here", "_law_pieces", "_law_left"]
def rd__law_hanging (K : PySem.W.Frag) (sp__law_hanging : Sp) : TS := (tSeq (tIfS (mTest (tOp (mEq K) (mVar 1) (tTup tNil))) (tRet (tLst (tCons (mVar 0) tNil))) tNext)
  (tSeq (tIfS (mTest (tOp (mEq K) (mVar 0) (tTup tNil))) (tRet (mC .non)) tNext)
  (tSeq (mPar 2 3 (tCons (tCall sp__law_hanging [] E0 (tCons (tOp (mIx K) (mVar 0) (mC (.int 0))) (tCons (tOp (mIx K) (mVar 1) (mC (.int 0))) tNil))) (tCons (tCall sp__law_hanging [] E0 (tCons (tOp (mIx K) (mVar 0) (mC (.int 1))) (tCons (tOp (mIx K) (mVar 1) (mC (.int 1))) tNil))) tNil)))
  (tRet (tIf (tOr (mTest (tOp (mIs) (mVar 2) (mC .non))) (mTest (tOp (mIs) (mVar 3) (mC .non)))) (mC .non) (tOp mAdd (mVar 2) (mVar 3)))))))
abbrev N__law_hanging : List Str := ["_law_parsed_here", "_law_top", "_law_left", "_law_right"]
def rd__law_both (K : PySem.W.Frag) (sp__law_both : Sp) : TS := (tSeq (tIfS (mTest (tOp (mEq K) (mVar 0) (tTup tNil))) (tRet (mVar 1)) tNext)
  (tSeq (tIfS (mTest (tOp (mEq K) (mVar 1) (tTup tNil))) (tRet (mVar 0)) tNext)
  (tRet (tTup (tCons (tCall sp__law_both [] E0 (tCons (tOp (mIx K) (mVar 0) (mC (.int 0))) (tCons (tOp (mIx K) (mVar 1) (mC (.int 0))) tNil))) (tCons (tCall sp__law_both [] E0 (tCons (tOp (mIx K) (mVar 0) (mC (.int 1))) (tCons (tOp (mIx K) (mVar 1) (mC (.int 1))) tNil))) tNil))))))
abbrev N__law_both : List Str := ["_law_one", "_law_other"]
@[reducible] def rd__law_trees_b1 (K : PySem.W.Frag) (sp__law_tree : Sp) (sp__law_random : Sp) (D : Ends) (σ : Sl) (H : Hp) : Prop := ((tDrop (mLstM mApp (mVar 2) (tCons (tIf (mTest (tOp (mLt) (mVar 3) (mC (.int 30)))) (tCall sp__law_tree [] E0 (tCons (mVar 0) (tCons (tOp (mIx K) (tLst (tCons (mC (.int 0)) (tCons (mC (.int 0)) (tCons (mC (.int 1)) (tCons (mC (.int 2)) (tCons (mC (.int 3)) tNil)))))) (tCall sp__law_random [] E0 (tCons (mVar 0) (tCons (mC (.int 5)) tNil)))) tNil))) (mC (.str (S [46])))) tNil))) : TS) D σ H
def rd__law_trees (K : PySem.W.Frag) (sp__law_tree : Sp) (sp__law_random : Sp) : TS := (tSeq (tAsg (tLst tNil) (gName 2))
  (tSeq (mFor (mRng1 (mVar 1)) (gName 3) (rd__law_trees_b1 K sp__law_tree sp__law_random))
  (tRet (mVar 2))))
abbrev N__law_trees : List Str := ["_law_generator_here", "_law_many", "_law_found", "_law_leaf"]
def rd__law_core (K : PySem.W.Frag) (sp__law_core : Sp) : TS := (tSeq (tIfS (tOr (mTest (tOp (mEq K) (mVar 0) (tTup tNil))) (mTest (tOp (mEq K) (mVar 1) (tTup tNil)))) (tRet (tTup tNil)) tNext)
  (tRet (tTup (tCons (tCall sp__law_core [] E0 (tCons (tOp (mIx K) (mVar 0) (mC (.int 0))) (tCons (tOp (mIx K) (mVar 1) (mC (.int 0))) tNil))) (tCons (tCall sp__law_core [] E0 (tCons (tOp (mIx K) (mVar 0) (mC (.int 1))) (tCons (tOp (mIx K) (mVar 1) (mC (.int 1))) tNil))) tNil)))))
abbrev N__law_core : List Str := ["_law_one", "_law_other"]
@[reducible] def rd__law_pair_right_b1 (K : PySem.W.Frag) (sp__law_parsed : Sp) (sp_joined : Sp) (sp__law_text : Sp) (sp__law_both : Sp) (sp_shared : Sp) (sp__law_core : Sp) (sp__law_hanging : Sp) (sp_hung : Sp) (D : Ends) (σ : Sl) (H : Hp) : Prop := ((tSeq (tAsg (tCall sp_hung [] E0 (tCons (mVar 0) (tCons (mVar 1) tNil))) (gName 7))
  (tSeq (tIfS (mTest (tOp (mNe K) (mVar 7) (mVar 5))) (tRet (mC (.bl false))) tNext)
  (tIfS (mTest (tOp (mNot) (mVar 7) (mC .non))) (tDrop (mLstM mApp (mVar 7) (tCons (mC (.str (S [120]))) tNil))) tNext))) : TS) D σ H
def rd__law_pair_right (K : PySem.W.Frag) (sp__law_parsed : Sp) (sp_joined : Sp) (sp__law_text : Sp) (sp__law_both : Sp) (sp_shared : Sp) (sp__law_core : Sp) (sp__law_hanging : Sp) (sp_hung : Sp) : TS := (tSeq (mPar 2 3 (tCons (tCall sp__law_parsed [] E0 (tCons (mVar 0) tNil)) (tCons (tCall sp__law_parsed [] E0 (tCons (mVar 1) tNil)) tNil)))
  (tSeq (tIfS (mTest (tOp (mNe K) (tCall sp_joined [] E0 (tCons (mVar 0) (tCons (mVar 1) tNil))) (tCall sp__law_text [] E0 (tCons (tCall sp__law_both [] E0 (tCons (mVar 2) (tCons (mVar 3) tNil))) tNil)))) (tRet (mC (.bl false))) tNext)
  (tSeq (tIfS (mTest (tOp (mNe K) (tCall sp_shared [] E0 (tCons (mVar 0) (tCons (mVar 1) tNil))) (tCall sp__law_text [] E0 (tCons (tCall sp__law_core [] E0 (tCons (mVar 2) (tCons (mVar 3) tNil))) tNil)))) (tRet (mC (.bl false))) tNext)
  (tSeq (tAsg (tCall sp__law_hanging [] E0 (tCons (mVar 2) (tCons (mVar 3) tNil))) (gName 4))
  (tSeq (tAsg (tIf (mTest (tOp (mIs) (mVar 4) (mC .non))) (mC .non) (mLc (mIter K (mVar 4)) (gName 8) tYes (tCall sp__law_text [] E0 (tCons (mVar 8) tNil)) [8])) (gName 5))
  (tSeq (mFor (mRng1 (mC (.int 2))) (gName 6) (rd__law_pair_right_b1 K sp__law_parsed sp_joined sp__law_text sp__law_both sp_shared sp__law_core sp__law_hanging sp_hung))
  (tRet (mC (.bl true)))))))))
abbrev N__law_pair_right : List Str := ["_law_one", "_law_other", "_law_first", "_law_second", "_law_found", "_law_due", "_law_turn", "_law_told", "_law_piece"]
def rd__law_caught (K : PySem.W.Frag) (sp_grown : Sp) (a_TurnError : Addr) (a_InvalidList : Addr) : TS := (tSeq (tAsg (mC .non) (gName 2))
  (tSeq (mTry K (.ref a_TurnError) 3 2 (fun W => (tDrop (tCallSD sp_grown [] (WE W) (tCons (mVar 0) (tCons (mVar 1) tNil))))))
  (tSeq (tIfS (tNot (mTest (tCB (mIsiE K) (tCons (mVar 2) (tCons (mC (.ref a_InvalidList)) tNil))))) (tRet (mC (.bl false))) tNext)
  (tSeq (tAsg (tCB (mReprD K) (tCons (mVar 1) tNil)) (gName 4))
  (tSeq (tIfS (mTest (tCB (mIsi K) (tCons (mVar 1) (tCons (mC (.ty "list")) tNil)))) (tSeq (tDrop (mLstM mApp (mVar 1) (tCons (mC (.str (S [109, 111, 114, 101]))) tNil)))
  (tRet (tOp (mEq K) (tCB (mLen K) (tCons (mFld K "value" (mVar 2)) tNil)) (tCB (mLen K) (tCons (mVar 1) tNil))))) tNext)
  (tRet (tOp (mEq K) (tCB (mReprD K) (tCons (mFld K "value" (mVar 2)) tNil)) (mVar 4))))))))
abbrev N__law_caught : List Str := ["_law_tree_here", "_law_trees_here", "_law_caught_here", "error", "_law_kept"]
def rd__law_no_tree (K : PySem.W.Frag) (sp_grown : Sp) (sp_hung : Sp) (sp_joined : Sp) (sp_shared : Sp) (a_TurnError : Addr) (a_InvalidTree : Addr) (a_grown : Addr) (a_hung : Addr) (a_joined : Addr) (a_shared : Addr) : TS := (tSeq (tAsg (mC .non) (gName 4))
  (tSeq (mTry K (.ref a_TurnError) 5 4 (fun W => (tDrop (tCallV [(.ref a_grown, sp_grown), (.ref a_hung, sp_hung), (.ref a_joined, sp_joined), (.ref a_shared, sp_shared)] W (tOp (mIx K) (tLst (tCons (mC (.ref a_grown)) (tCons (mC (.ref a_hung)) (tCons (mC (.ref a_joined)) (tCons (mC (.ref a_shared)) tNil))))) (mVar 0)) (tCons (mVar 1) (tCons (mVar 2) tNil))))))
  (tRet (mAndV (tCB (mIsiE K) (tCons (mVar 4) (tCons (mC (.ref a_InvalidTree)) tNil))) (tOp (mEq K) (tCB (mRepr K) (tCons (mFld K "value" (mVar 4)) tNil)) (tCB (mRepr K) (tCons (mVar 3) tNil)))))))
abbrev N__law_no_tree : List Str := ["_law_door", "_law_one", "_law_other", "_law_bad", "_law_caught_here", "error"]
@[reducible] def rd__law_refused_b1 (K : PySem.W.Frag) (sp__law_no_tree : Sp) (D : Ends) (σ : Sl) (H : Hp) : Prop := ((tIfS (tNot (mTest (tCall sp__law_no_tree [] E0 (tCons (mVar 2) (tCons (mVar 3) (tCons (mVar 4) (tCons (mVar 1) tNil))))))) (tRet (mC (.bl false))) tNext) : TS) D σ H
@[reducible] def rd__law_refused_b2 (K : PySem.W.Frag) (sp__law_no_tree : Sp) (D : Ends) (σ : Sl) (H : Hp) : Prop := ((mFor (mIter K (tLst (tCons (tTup (tCons (mVar 1) (tCons (mC (.int 7)) tNil))) (tCons (tTup (tCons (mVar 0) (tCons (mVar 1) tNil))) (tCons (tTup (tCons (mVar 1) (tCons (mC (.str (S [46]))) tNil))) (tCons (tTup (tCons (mC (.str (S [46]))) (tCons (mVar 1) tNil))) (tCons (tTup (tCons (mVar 1) (tCons (mVar 0) tNil))) (tCons (tTup (tCons (mVar 1) (tCons (mVar 1) tNil))) tNil)))))))) (mgTup K 2 (mgCons (gName 3) (mgCons (gName 4) mgNil))) (rd__law_refused_b1 K sp__law_no_tree)) : TS) D σ H
@[reducible] def rd__law_refused_b3 (K : PySem.W.Frag) (sp__law_no_tree : Sp) (D : Ends) (σ : Sl) (H : Hp) : Prop := ((tSeq (tIfS (tOr (tNot (mTest (tCall sp__law_no_tree [] E0 (tCons (mC (.int 0)) (tCons (mVar 1) (tCons (mC .non) (tCons (mVar 1) tNil))))))) (tNot (mTest (tCall sp__law_no_tree [] E0 (tCons (mC (.int 0)) (tCons (mVar 1) (tCons (tLst (tCons (mC (.str (S [46]))) tNil)) (tCons (mVar 1) tNil)))))))) (tRet (mC (.bl false))) tNext)
  (mFor (mRng2 (mC (.int 1)) (mC (.int 4))) (gName 2) (rd__law_refused_b2 K sp__law_no_tree))) : TS) D σ H
def rd__law_refused (K : PySem.W.Frag) (sp__law_no_tree : Sp) : TS := (tSeq (mFor (mIter K (tLst (tCons (mC (.str (S []))) (tCons (mC (.str (S [40, 46, 46]))) (tCons (mC (.str (S [46, 46]))) (tCons (mC (.str (S [40, 46, 41]))) (tCons (mC .non) (tCons (mC (.int 5)) (tCons (mC (.bl true)) (tCons (tLst (tCons (mVar 0) tNil)) (tCons (tTup (tCons (mC (.str (S [46]))) (tCons (mC (.str (S [46]))) tNil))) (tCons tDNewK tNil)))))))))))) (gName 1) (rd__law_refused_b3 K sp__law_no_tree))
  (tRet (mC (.bl true))))
abbrev N__law_refused : List Str := ["_law_tree_here", "_law_bad", "_law_door", "_law_first", "_law_second"]
@[reducible] def rd__law_great_right_b1 (K : PySem.W.Frag) (sp__law_random : Sp) (sp_joined : Sp) (sp_shared : Sp) (sp_hung : Sp) (sp_grown : Sp) (D : Ends) (σ : Sl) (H : Hp) : Prop := ((mPar 1 2 (tCons (tOp mAdd (tOp mAdd (mC (.str (S [40]))) (mVar 1)) (mC (.str (S [46, 41])))) (tCons (tOp mAdd (tOp mAdd (mC (.str (S [40, 46]))) (mVar 2)) (mC (.str (S [41])))) tNil))) : TS) D σ H
def rd__law_great_right (K : PySem.W.Frag) (sp__law_random : Sp) (sp_joined : Sp) (sp_shared : Sp) (sp_hung : Sp) (sp_grown : Sp) : TS := (tSeq (tAsg (tTup (tCons (mC (.str (S [46]))) (tCons (mC (.str (S [46]))) tNil))) (mgTup K 2 (mgCons (gName 1) (mgCons (gName 2) mgNil))))
  (tSeq (mFor (mRng1 (tOp mAdd (mC (.int 151)) (tCall sp__law_random [] E0 (tCons (mVar 0) (tCons (mC (.int 50)) tNil))))) (gName 3) (rd__law_great_right_b1 K sp__law_random sp_joined sp_shared sp_hung sp_grown))
  (tSeq (tAsg (tCall sp_joined [] E0 (tCons (mVar 1) (tCons (mVar 2) tNil))) (gName 4))
  (tSeq (tIfS (tOr (mTest (tOp (mNe K) (mStrM (mCount) (mVar 4) (mC (.str (S [40])))) (tOp mSub (tOp mMul (mC (.int 2)) (mStrM (mCount) (mVar 1) (mC (.str (S [40]))))) (mC (.int 1))))) (tOr (mTest (tOp (mNe K) (tCall sp_shared [] E0 (tCons (mVar 4) (tCons (mVar 1) tNil))) (mVar 1))) (mTest (tOp (mNe K) (tCall sp_joined [] E0 (tCons (mVar 4) (tCons (mVar 2) tNil))) (mVar 4))))) (tRet (mC (.bl false))) tNext)
  (tSeq (tIfS (tOr (mTest (tOp (mNe K) (tCall sp_grown [] E0 (tCons (mVar 1) (tCons (tCall sp_hung [] E0 (tCons (mVar 4) (tCons (mVar 1) tNil))) tNil))) (mVar 4))) (mTest (tOp (mNe K) (tCall sp_hung [] E0 (tCons (mVar 4) (tCons (mC (.str (S [46]))) tNil))) (tLst (tCons (mVar 4) tNil))))) (tRet (mC (.bl false))) tNext)
  (tRet (tOp (mEq K) (tCall sp_grown [] E0 (tCons (mVar 4) (tCons (tOp mMul (tLst (tCons (mC (.str (S [46]))) tNil)) (mStrM (mCount) (mVar 4) (mC (.str (S [46]))))) tNil))) (mVar 4))))))))
abbrev N__law_great_right : List Str := ["_law_generator_here", "_law_left", "_law_right", "_law_turn", "_law_tree_here"]
@[reducible] def rd_law_b1 (K : PySem.W.Frag) (sp__law_generator : Sp) (sp__law_tree : Sp) (sp__law_random : Sp) (sp__law_trees : Sp) (sp_grown : Sp) (sp__law_parsed : Sp) (sp__law_text : Sp) (sp__law_filled : Sp) (sp_hung : Sp) (sp__law_pair_right : Sp) (sp__law_caught : Sp) (sp__law_refused : Sp) (sp__law_great_right : Sp) (D : Ends) (σ : Sl) (H : Hp) : Prop := ((tIfS (mTest (tOp (mNeE K) (mLc (mIter K (mVar 9)) (gName 13) (tNot (mTest (tCall sp__law_pair_right [] E0 (tCons (mVar 7) (tCons (mVar 13) tNil))))) (mVar 13) [13]) (tLst tNil))) (tRet (mC (.bl false))) tNext) : TS) D σ H
@[reducible] def rd_law_b2 (K : PySem.W.Frag) (sp__law_generator : Sp) (sp__law_tree : Sp) (sp__law_random : Sp) (sp__law_trees : Sp) (sp_grown : Sp) (sp__law_parsed : Sp) (sp__law_text : Sp) (sp__law_filled : Sp) (sp_hung : Sp) (sp__law_pair_right : Sp) (sp__law_caught : Sp) (sp__law_refused : Sp) (sp__law_great_right : Sp) (D : Ends) (σ : Sl) (H : Hp) : Prop := ((tSeq (tAsg (tCall sp__law_generator [] E0 (tCons (mVar 0) (tCons (mVar 1) tNil))) (gName 2))
  (tSeq (tAsg (tCall sp__law_tree [] E0 (tCons (mVar 2) (tCons (tCall sp__law_random [] E0 (tCons (mVar 2) (tCons (mC (.int 13)) tNil))) tNil))) (gName 3))
  (tSeq (tAsg (tCall sp__law_trees [] E0 (tCons (mVar 2) (tCons (mStrM (mCount) (mVar 3) (mC (.str (S [46])))) tNil))) (gName 4))
  (tSeq (tAsg (tCB (mList K) (tCons (mVar 4) tNil)) (gName 5))
  (tSeq (tAsg (tCall sp_grown [] E0 (tCons (mVar 3) (tCons (mVar 4) tNil))) (gName 6))
  (tSeq (tAsg (mLc (mIter K (mVar 5)) (gName 7) tYes (tCall sp__law_parsed [] E0 (tCons (mVar 7) tNil)) [7]) (gName 8))
  (tSeq (tIfS (tOr (mTest (tOp (mNe K) (mVar 4) (mVar 5))) (mTest (tOp (mNe K) (mVar 6) (tCall sp__law_text [] E0 (tCons (tCall sp__law_filled [] E0 (tCons (tCall sp__law_parsed [] E0 (tCons (mVar 3) tNil)) (tCons (mVar 8) tNil))) tNil))))) (tRet (mC (.bl false))) tNext)
  (tSeq (tIfS (mTest (tOp (mNe K) (tCall sp_hung [] E0 (tCons (mVar 6) (tCons (mVar 3) tNil))) (mVar 5))) (tRet (mC (.bl false))) tNext)
  (tSeq (tAsg (tOp mAddF (mLc (mRng1 (mC (.int 2))) (gName 12) tYes (tCall sp__law_tree [] E0 (tCons (mVar 2) (tCons (tCall sp__law_random [] E0 (tCons (mVar 2) (tCons (mC (.int 13)) tNil))) tNil))) [12]) (tLst (tCons (mVar 6) (tCons (mVar 3) (tCons (mC (.str (S [46]))) tNil))))) (gName 9))
  (tSeq (mFor (mIter K (mVar 9)) (gName 7) (rd_law_b1 K sp__law_generator sp__law_tree sp__law_random sp__law_trees sp_grown sp__law_parsed sp__law_text sp__law_filled sp_hung sp__law_pair_right sp__law_caught sp__law_refused sp__law_great_right))
  (tSeq (tAsg (tLst (tCons (mC .non) (tCons (tCB (mTuple K) (tCons (mVar 5) tNil)) (tCons (tOp mAddF (mVar 5) (tLst (tCons (mC (.str (S [46]))) tNil))) (tCons (tSl (mSl K) (mVar 5) (mPart (mC (.int 1))) tNoPart) (tCons (tOp mAddF (tLst (tCons (mC .non) tNil)) (tSl (mSl K) (mVar 5) (mPart (mC (.int 1))) tNoPart)) (tCons (tOp mAddF (tSl (mSl K) (mVar 5) tNoPart (mPart (mUn (fun i => -i) (mC (.int 1))))) (tLst (tCons (mC (.str (S [40, 46, 41]))) tNil))) (tCons (mC (.str (S [120]))) (tCons tDNewK tNil))))))))) (gName 10))
  (tSeq (tAsg (tOp mAddF (mVar 10) (tLst (tCons (tOp mAddF (tLst (tCons (tLst (tCons (mC (.str (S [46]))) tNil)) tNil)) (tSl (mSl K) (mVar 5) (mPart (mC (.int 1))) tNoPart)) (tCons (tOp mAddF (tSl (mSl K) (mVar 5) tNoPart (mPart (mUn (fun i => -i) (mC (.int 1))))) (tLst (tCons tDNewK tNil))) (tCons (tOp mAddF (tSl (mSl K) (mVar 5) tNoPart (mPart (mUn (fun i => -i) (mC (.int 1))))) (tLst (tCons (tTup (tCons (mC (.str (S [46]))) tNil)) tNil))) (tCons (tOp mAddF (tSl (mSl K) (mVar 5) tNoPart (mPart (mUn (fun i => -i) (mC (.int 1))))) (tLst (tCons (mC (.bl true)) tNil))) tNil)))))) (gName 10))
  (tSeq (tIfS (mTest (tOp (mGt) (tCB (mLen K) (tCons (mVar 5) tNil)) (mC (.int 1)))) (tSeq (tAsg (tOp mAddF (tOp (mIx K) (mVar 5) (mC (.int 0))) (tOp (mIx K) (mVar 5) (mC (.int 1)))) (gName 11))
  (tSeq (tAsg (tOp mAddF (mVar 10) (tLst (tCons (tOp mAddF (tLst (tCons (mC (.str (S []))) (tCons (mC (.str (S []))) tNil))) (tSl (mSl K) (mVar 5) (mPart (mC (.int 2))) tNoPart)) (tCons (tOp mAddF (tLst (tCons (mC (.str (S []))) (tCons (mVar 11) tNil))) (tSl (mSl K) (mVar 5) (mPart (mC (.int 2))) tNoPart)) (tCons (tOp mAddF (tLst (tCons (mVar 11) (tCons (mC (.str (S []))) tNil))) (tSl (mSl K) (mVar 5) (mPart (mC (.int 2))) tNoPart)) tNil))))) (gName 10))
  (tDrop (mLstM mApp (mVar 10) (tCons (tOp mAddF (tSl (mSl K) (mVar 5) tNoPart (mPart (mUn (fun i => -i) (mC (.int 2))))) (tLst (tCons (tSl (mSl K) (tOp (mIx K) (mVar 5) (mUn (fun i => -i) (mC (.int 2)))) tNoPart (mPart (mUn (fun i => -i) (mC (.int 1))))) (tCons (tOp mAddF (tSl (mSl K) (tOp (mIx K) (mVar 5) (mUn (fun i => -i) (mC (.int 2)))) (mPart (mUn (fun i => -i) (mC (.int 1)))) tNoPart) (tOp (mIx K) (mVar 5) (mUn (fun i => -i) (mC (.int 1))))) tNil)))) tNil))))) tNext)
  (tSeq (tIfS (mTest (tOp (mNeE K) (mLc (mIter K (mVar 10)) (gName 14) (tNot (mTest (tCall sp__law_caught [] E0 (tCons (mVar 3) (tCons (mVar 14) tNil))))) (mVar 14) [14]) (tLst tNil))) (tRet (mC (.bl false))) tNext)
  (tIfS (tNot (mTest (tCall sp__law_refused [] E0 (tCons (mVar 3) tNil)))) (tRet (mC (.bl false))) tNext))))))))))))))) : TS) D σ H
def rd_law (K : PySem.W.Frag) (sp__law_generator : Sp) (sp__law_tree : Sp) (sp__law_random : Sp) (sp__law_trees : Sp) (sp_grown : Sp) (sp__law_parsed : Sp) (sp__law_text : Sp) (sp__law_filled : Sp) (sp_hung : Sp) (sp__law_pair_right : Sp) (sp__law_caught : Sp) (sp__law_refused : Sp) (sp__law_great_right : Sp) : TS := (tSeq (mFor (mRng1 (mC (.int 4))) (gName 1) (rd_law_b2 K sp__law_generator sp__law_tree sp__law_random sp__law_trees sp_grown sp__law_parsed sp__law_text sp__law_filled sp_hung sp__law_pair_right sp__law_caught sp__law_refused sp__law_great_right))
  (tRet (tCall sp__law_great_right [] E0 (tCons (tCall sp__law_generator [] E0 (tCons (mVar 0) (tCons (mC (.int 9)) tNil))) tNil))))
abbrev N_law : List Str := ["_law_script", "_law_index", "_law_generator_here", "_law_tree_here", "_law_trees_here", "_law_kept", "_law_full", "_law_one", "_law_pieces", "_law_others", "_law_lists", "_law_both_here", "_law_turn", "_law_other", "_law_bad"]
structure Tx (K : PySem.W.Frag) (mg : Str → Option Value) : Prop where
  f_isinstance : mg "isinstance" = none
  f_str : mg "str" = none
  f_enumerate : mg "enumerate" = none
  f_len : mg "len" = none
  f_list : mg "list" = none
  f_int : mg "int" = none
  f_max : mg "max" = none
  f_range : mg "range" = none
  f_repr : mg "repr" = none
  f_tuple : mg "tuple" = none
section
variable {P : Program} {w : World} {K : PySem.W.Frag} {mg : Str → Option Value} {base : Heap} {f : Addr} {fd : FuncData}
abbrev s_is_tree : Stmt := top 5
theorem sc_is_tree : FnScope N_is_tree ["value"] (defScope s_is_tree) := ⟨rfl, rfl, rfl, by decide +kernel, rfl, by decide +kernel, by decide +kernel⟩
theorem ok_is_tree {k : Nat} {sp : Sp}  (F : FunD K "is_tree" "is_tree" (defArgs s_is_tree) (defBody s_is_tree) (defScope s_is_tree) [] [] f fd) (T : Tx K mg)  
    (len : ∀ vs H Q E, sp vs H Q E → vs.length = 1) (pu : ∀ vs H Q E, sp vs H Q E → rd_is_tree K { nx := fun _ H' => Q .non H', rt := Q } (start N_is_tree vs) H) :
    FnG P w K mg base CX0 (k + 1) f fd ["value"] sp :=
  okG F sc_is_tree len fun cdv A outer s H vs Q E hr h => ⟨rd_is_tree K, PSs.nox (
    have nd := sc_is_tree.nd
    let N := N_is_tree
    let scope := defScope s_is_tree
    (pss_cons (ps_if (pt_not (mt_val (pe_callB call_isiM (by rfl) T.f_isinstance (by decide +kernel) (pa_cons (mv 0) (pa_cons (me_ty "str" (by rfl) T.f_str (by decide +kernel)) pa_nil))))) (pss_one (ps_ret me_bl)) pss_nil)
  (pss_cons (ps_set (i := 1) nd rfl (by first | exact Or.inl rfl | exact Or.inr rfl) (me_str [] (by rfl)))
  (pss_cons (ms_for PassesOwn.never rfl (pi_iterM (mv 0)) (pg_name (i := 2) nd rfl (by first | exact Or.inl rfl | exact Or.inr rfl)) (pss_one (ps_if (mt_cmp (op_eqM hr.units) (mv 2) (me_str [41] (by rfl)) (by rfl)) (pss_cons (ps_if (mt_cmp (op_neM hr.units) (me_slice (mv 1) (mo_some (me_neg me_int)) po_none) (me_str [40, 46, 46] (by rfl)) (by rfl)) (pss_one (ps_ret me_bl)) pss_nil)
  (pss_one (ps_set (i := 1) nd rfl (by first | exact Or.inl rfl | exact Or.inr rfl) (pe_op op_addM (me_slice (mv 1) po_none (mo_some (me_neg me_int))) (me_str [46] (by rfl)))))) (pss_one (ps_if (mt_inT (mv 2) (pa_cons (me_str [40] (by rfl)) (pa_cons (me_str [46] (by rfl)) pa_nil))) (pss_one (ps_set (i := 1) nd rfl (by first | exact Or.inl rfl | exact Or.inr rfl) (pe_op op_addM (mv 1) (mv 2)))) (pss_one (ps_ret me_bl)))))))
  (pss_one (ps_ret (pe_cmpR (op_eqM hr.units) (mv 1) (me_str [46] (by rfl)) (by rfl)))))))), pu vs H Q E h⟩
abbrev s_check_tree : Stmt := top 6
theorem sc_check_tree : FnScope N_check_tree ["value"] (defScope s_check_tree) := ⟨rfl, rfl, rfl, by decide +kernel, rfl, by decide +kernel, by decide +kernel⟩
theorem ok_check_tree {k : Nat} {sp : Sp} {sp_is_tree : Sp} {k_is_tree : Nat} {p_is_tree : List Str} {a_InvalidTree : Addr} (F : FunD K "check_tree" "check_tree" (defArgs s_check_tree) (defBody s_check_tree) (defScope s_check_tree) [] [] f fd) (T : Tx K mg) (C_is_tree : CalG P w K mg base CX0 "is_tree" k_is_tree p_is_tree [] sp_is_tree) (X_InvalidTree : ExcAt P w K mg "InvalidTree" "value" a_InvalidTree) (l_is_tree : k_is_tree ≤ k)
    (len : ∀ vs H Q E, sp vs H Q E → vs.length = 1) (pu : ∀ vs H Q E, sp vs H Q E → rd_check_tree K sp_is_tree a_InvalidTree E { nx := fun _ H' => Q .non H', rt := Q } (start N_check_tree vs) H) :
    FnG P w K mg base (L2.CX P w) (k + 1) f fd ["value"] sp :=
  okG F sc_check_tree len fun cdv A outer s H vs Q E hr h => ⟨rd_check_tree K sp_is_tree a_InvalidTree E, (
    have nd := sc_check_tree.nd
    let N := N_check_tree
    let scope := defScope s_check_tree
    (pss_one (ps_if (pt_not (mt_val (me_callG C_is_tree (hr.mono l_is_tree) (by rfl) pass0 (pa_cons (mv 0) pa_nil)))) (pss_one (ms_raise X_InvalidTree hr.r0 rfl (takes_of rfl rfl rfl rfl) (by rfl) (pa_cons (mv 0) pa_nil))) pss_nil))), pu vs H Q E h⟩
abbrev s_end_of : Stmt := top 7
theorem sc_end_of : FnScope N_end_of ["tree", "start"] (defScope s_end_of) := ⟨rfl, rfl, rfl, by decide +kernel, rfl, by decide +kernel, by decide +kernel⟩
theorem ok_end_of {k : Nat} {sp : Sp}  (F : FunD K "end_of" "end_of" (defArgs s_end_of) (defBody s_end_of) (defScope s_end_of) [] [] f fd) (T : Tx K mg)  
    (len : ∀ vs H Q E, sp vs H Q E → vs.length = 2) (pu : ∀ vs H Q E, sp vs H Q E → rd_end_of K { nx := fun _ H' => Q .non H', rt := Q } (start N_end_of vs) H) :
    FnG P w K mg base CX0 (k + 1) f fd ["tree", "start"] sp :=
  okG F sc_end_of len fun cdv A outer s H vs Q E hr h => ⟨rd_end_of K, PSs.nox (
    have nd := sc_end_of.nd
    let N := N_end_of
    let scope := defScope s_end_of
    (pss_cons (ps_set (i := 2) nd rfl (by first | exact Or.inl rfl | exact Or.inr rfl) (mv 1))
  (pss_cons (ps_set (i := 3) nd rfl (by first | exact Or.inl rfl | exact Or.inr rfl) me_int)
  (pss_one (ms_while PassesOwn.never (mt_val me_bl) (pss_cons (ps_if (mt_cmp (op_eqM hr.units) (me_ix (mv 0) (mv 2) (fun _ _ => rfl)) (me_str [40] (by rfl)) (by rfl)) (pss_one (ps_set (i := 3) nd rfl (by first | exact Or.inl rfl | exact Or.inr rfl) (pe_op op_addM (mv 3) me_int))) (pss_one (ps_if (mt_cmp (op_eqM hr.units) (me_ix (mv 0) (mv 2) (fun _ _ => rfl)) (me_str [41] (by rfl)) (by rfl)) (pss_one (ps_set (i := 3) nd rfl (by first | exact Or.inl rfl | exact Or.inr rfl) (pe_op op_subM (mv 3) me_int))) pss_nil)))
  (pss_cons (ps_set (i := 2) nd rfl (by first | exact Or.inl rfl | exact Or.inr rfl) (pe_op op_addM (mv 2) me_int))
  (pss_one (ps_if (mt_cmp (op_eqM hr.units) (mv 3) me_int (by rfl)) (pss_one (ps_ret (mv 2))) pss_nil))))))))), pu vs H Q E h⟩
abbrev s_grown_by : Stmt := top 8
theorem sc_grown_by : FnScope N_grown_by ["tree", "trees"] (defScope s_grown_by) := ⟨rfl, rfl, rfl, by decide +kernel, rfl, by decide +kernel, by decide +kernel⟩
theorem ok_grown_by {k : Nat} {sp : Sp}  (F : FunD K "grown_by" "grown_by" (defArgs s_grown_by) (defBody s_grown_by) (defScope s_grown_by) [] [] f fd) (T : Tx K mg)  
    (len : ∀ vs H Q E, sp vs H Q E → vs.length = 2) (pu : ∀ vs H Q E, sp vs H Q E → rd_grown_by K { nx := fun _ H' => Q .non H', rt := Q } (start N_grown_by vs) H) :
    FnG P w K mg base CX0 (k + 1) f fd ["tree", "trees"] sp :=
  okG F sc_grown_by len fun cdv A outer s H vs Q E hr h => ⟨rd_grown_by K, PSs.nox (
    have nd := sc_grown_by.nd
    let N := N_grown_by
    let scope := defScope s_grown_by
    (pss_cons (ps_set (i := 2) nd rfl (by first | exact Or.inl rfl | exact Or.inr rfl) (me_split (mv 0) (me_str [46] (by rfl))))
  (pss_one (ps_ret (pe_op op_addM (me_ix (mv 2) me_int (fun _ _ => rfl)) (me_join (me_str [] (by rfl)) (me_lc (own := [("number", 3), ("other", 4)]) rfl nd (pi_enumM (by rfl) T.f_enumerate (mv 1)) (blkOk_by (own := [("number", 3), ("other", 4)]) (N := N) (sc := scope) (by decide +kernel)) (fun _ _ _ _ _ => (mg_tup rfl (mgs_cons (pg_name (i := 3) nd rfl (by first | exact Or.inl rfl | exact Or.inr rfl)) (mgs_cons (pg_name (i := 4) nd rfl (by first | exact Or.inl rfl | exact Or.inr rfl)) mgs_nil)))) (fun _ _ _ _ _ => pts_nil) (fun _ _ _ _ _ => (pe_op op_addM (mv 4) (me_ix (mv 2) (pe_op op_addM (mv 3) me_int) (fun _ _ => rfl))))))))))), pu vs H Q E h⟩
abbrev s_grown : Stmt := top 9
theorem sc_grown : FnScope N_grown ["tree", "hung"] (defScope s_grown) := ⟨rfl, rfl, rfl, by decide +kernel, rfl, by decide +kernel, by decide +kernel⟩
theorem ok_grown {k : Nat} {sp : Sp} {sp_check_tree : Sp} {sp_is_tree : Sp} {sp_grown_by : Sp} {k_check_tree : Nat} {p_check_tree : List Str} {k_is_tree : Nat} {p_is_tree : List Str} {k_grown_by : Nat} {p_grown_by : List Str} {a_InvalidList : Addr} (F : FunD K "grown" "grown" (defArgs s_grown) (defBody s_grown) (defScope s_grown) [] [] f fd) (T : Tx K mg) (C_check_tree : CalG P w K mg base (L2.CX P w) "check_tree" k_check_tree p_check_tree [] sp_check_tree) (C_is_tree : CalG P w K mg base CX0 "is_tree" k_is_tree p_is_tree [] sp_is_tree) (C_grown_by : CalG P w K mg base CX0 "grown_by" k_grown_by p_grown_by [] sp_grown_by) (X_InvalidList : ExcAt P w K mg "InvalidList" "value" a_InvalidList) (l_check_tree : k_check_tree ≤ k) (l_is_tree : k_is_tree ≤ k) (l_grown_by : k_grown_by ≤ k)
    (len : ∀ vs H Q E, sp vs H Q E → vs.length = 2) (pu : ∀ vs H Q E, sp vs H Q E → rd_grown K sp_check_tree sp_is_tree sp_grown_by a_InvalidList E { nx := fun _ H' => Q .non H', rt := Q } (start N_grown vs) H) :
    FnG P w K mg base (L2.CX P w) (k + 1) f fd ["tree", "hung"] sp :=
  okG F sc_grown len fun cdv A outer s H vs Q E hr h => ⟨rd_grown K sp_check_tree sp_is_tree sp_grown_by a_InvalidList E, (
    have nd := sc_grown.nd
    let N := N_grown
    let scope := defScope s_grown
    (pss_cons (ps_expr (me_callG C_check_tree (hr.mono l_check_tree) (by rfl) (passes_call (takes_of rfl rfl rfl rfl) fun _ _ _ _ h => h) (pa_cons (mv 0) pa_nil)))
  (pss_cons (ps_if (PW.pt (pw_or (pt_not (mt_val (pe_callB call_isiM (by rfl) T.f_isinstance (by decide +kernel) (pa_cons (mv 1) (pa_cons (me_ty "list" (by rfl) T.f_list (by decide +kernel)) pa_nil))))) (pw_or1 (mt_cmp (op_neM hr.units) (pe_callB call_lenM (by rfl) T.f_len (by decide +kernel) (pa_cons (mv 1) pa_nil)) (me_count (mv 0) (me_str [46] (by rfl))) (by rfl))))) (pss_one (ms_raise X_InvalidList hr.r0 rfl (takes_of rfl rfl rfl rfl) (by rfl) (pa_cons (mv 1) pa_nil))) pss_nil)
  (pss_cons (ps_if (mt_cmp (op_neE hr.units) (me_lc (own := [("other", 2)]) rfl nd (pi_iterM (mv 1)) (blkOk_by (own := [("other", 2)]) (N := N) (sc := scope) (by decide +kernel)) (fun _ _ _ _ _ => (pg_name (i := 2) nd rfl (by first | exact Or.inl rfl | exact Or.inr rfl))) (fun _ _ _ _ _ => (pts_one (pt_not (mt_val (me_callG C_is_tree (hr.mono l_is_tree) (by rfl) pass0 (pa_cons (mv 2) pa_nil)))))) (fun _ _ _ _ _ => (mv 2))) (pe_lst pa_nil) (by rfl)) (pss_one (ms_raise X_InvalidList hr.r0 rfl (takes_of rfl rfl rfl rfl) (by rfl) (pa_cons (mv 1) pa_nil))) pss_nil)
  (pss_one (ps_ret (me_callG C_grown_by (hr.mono l_grown_by) (by rfl) pass0 (pa_cons (mv 0) (pa_cons (mv 1) pa_nil))))))))), pu vs H Q E h⟩
abbrev s_hung_on : Stmt := top 10
theorem sc_hung_on : FnScope N_hung_on ["tree", "top"] (defScope s_hung_on) := ⟨rfl, rfl, rfl, by decide +kernel, rfl, by decide +kernel, by decide +kernel⟩
theorem ok_hung_on {k : Nat} {sp : Sp} {sp_end_of : Sp} {k_end_of : Nat} {p_end_of : List Str} (F : FunD K "hung_on" "hung_on" (defArgs s_hung_on) (defBody s_hung_on) (defScope s_hung_on) [] [] f fd) (T : Tx K mg) (C_end_of : CalG P w K mg base CX0 "end_of" k_end_of p_end_of [] sp_end_of) (l_end_of : k_end_of ≤ k)
    (len : ∀ vs H Q E, sp vs H Q E → vs.length = 2) (pu : ∀ vs H Q E, sp vs H Q E → rd_hung_on K sp_end_of { nx := fun _ H' => Q .non H', rt := Q } (start N_hung_on vs) H) :
    FnG P w K mg base CX0 (k + 1) f fd ["tree", "top"] sp :=
  okG F sc_hung_on len fun cdv A outer s H vs Q E hr h => ⟨rd_hung_on K sp_end_of, PSs.nox (
    have nd := sc_hung_on.nd
    let N := N_hung_on
    let scope := defScope s_hung_on
    (pss_cons (ps_set (i := 2) nd rfl (by first | exact Or.inl rfl | exact Or.inr rfl) (pe_lst pa_nil))
  (pss_cons (ps_set (i := 3) nd rfl (by first | exact Or.inl rfl | exact Or.inr rfl) me_int)
  (pss_cons (ms_for PassesOwn.never rfl (pi_iterM (mv 1)) (pg_name (i := 4) nd rfl (by first | exact Or.inl rfl | exact Or.inr rfl)) (pss_one (ps_if (mt_cmp (op_eqM hr.units) (mv 4) (me_str [46] (by rfl)) (by rfl)) (pss_cons (ps_set (i := 5) nd rfl (by first | exact Or.inl rfl | exact Or.inr rfl) (me_callG C_end_of (hr.mono l_end_of) (by rfl) pass0 (pa_cons (mv 0) (pa_cons (mv 3) pa_nil))))
  (pss_cons (ps_set (i := 2) nd rfl (by first | exact Or.inl rfl | exact Or.inr rfl) (pe_op op_addM (mv 2) (pe_lst (pa_cons (me_slice (mv 0) (mo_some (mv 3)) (mo_some (mv 5))) pa_nil))))
  (pss_one (ps_set (i := 3) nd rfl (by first | exact Or.inl rfl | exact Or.inr rfl) (mv 5))))) (pss_one (ps_if (mt_cmp (op_eqM hr.units) (me_ix (mv 0) (mv 3) (fun _ _ => rfl)) (mv 4) (by rfl)) (pss_one (ps_set (i := 3) nd rfl (by first | exact Or.inl rfl | exact Or.inr rfl) (pe_op op_addM (mv 3) me_int))) (pss_one (ps_ret me_non)))))))
  (pss_one (ps_ret (mv 2))))))), pu vs H Q E h⟩
abbrev s_hung : Stmt := top 11
theorem sc_hung : FnScope N_hung ["tree", "top"] (defScope s_hung) := ⟨rfl, rfl, rfl, by decide +kernel, rfl, by decide +kernel, by decide +kernel⟩
theorem ok_hung {k : Nat} {sp : Sp} {sp_check_tree : Sp} {sp_hung_on : Sp} {k_check_tree : Nat} {p_check_tree : List Str} {k_hung_on : Nat} {p_hung_on : List Str} (F : FunD K "hung" "hung" (defArgs s_hung) (defBody s_hung) (defScope s_hung) [] [] f fd) (T : Tx K mg) (C_check_tree : CalG P w K mg base (L2.CX P w) "check_tree" k_check_tree p_check_tree [] sp_check_tree) (C_hung_on : CalG P w K mg base CX0 "hung_on" k_hung_on p_hung_on [] sp_hung_on) (l_check_tree : k_check_tree ≤ k) (l_hung_on : k_hung_on ≤ k)
    (len : ∀ vs H Q E, sp vs H Q E → vs.length = 2) (pu : ∀ vs H Q E, sp vs H Q E → rd_hung K sp_check_tree sp_hung_on E { nx := fun _ H' => Q .non H', rt := Q } (start N_hung vs) H) :
    FnG P w K mg base (L2.CX P w) (k + 1) f fd ["tree", "top"] sp :=
  okG F sc_hung len fun cdv A outer s H vs Q E hr h => ⟨rd_hung K sp_check_tree sp_hung_on E, (
    have nd := sc_hung.nd
    let N := N_hung
    let scope := defScope s_hung
    (pss_cons (ps_expr (me_callG C_check_tree (hr.mono l_check_tree) (by rfl) (passes_call (takes_of rfl rfl rfl rfl) fun _ _ _ _ h => h) (pa_cons (mv 0) pa_nil)))
  (pss_cons (ps_expr (me_callG C_check_tree (hr.mono l_check_tree) (by rfl) (passes_call (takes_of rfl rfl rfl rfl) fun _ _ _ _ h => h) (pa_cons (mv 1) pa_nil)))
  (pss_one (ps_ret (me_callG C_hung_on (hr.mono l_hung_on) (by rfl) pass0 (pa_cons (mv 0) (pa_cons (mv 1) pa_nil)))))))), pu vs H Q E h⟩
abbrev s_joined_trees : Stmt := top 12
theorem sc_joined_trees : FnScope N_joined_trees ["one", "other"] (defScope s_joined_trees) := ⟨rfl, rfl, rfl, by decide +kernel, rfl, by decide +kernel, by decide +kernel⟩
theorem ok_joined_trees {k : Nat} {sp : Sp} {sp_end_of : Sp} {k_end_of : Nat} {p_end_of : List Str} (F : FunD K "joined_trees" "joined_trees" (defArgs s_joined_trees) (defBody s_joined_trees) (defScope s_joined_trees) [] [] f fd) (T : Tx K mg) (C_end_of : CalG P w K mg base CX0 "end_of" k_end_of p_end_of [] sp_end_of) (l_end_of : k_end_of ≤ k)
    (len : ∀ vs H Q E, sp vs H Q E → vs.length = 2) (pu : ∀ vs H Q E, sp vs H Q E → rd_joined_trees K sp_end_of { nx := fun _ H' => Q .non H', rt := Q } (start N_joined_trees vs) H) :
    FnG P w K mg base CX0 (k + 1) f fd ["one", "other"] sp :=
  okG F sc_joined_trees len fun cdv A outer s H vs Q E hr h => ⟨rd_joined_trees K sp_end_of, PSs.nox (
    have nd := sc_joined_trees.nd
    let N := N_joined_trees
    let scope := defScope s_joined_trees
    (pss_cons (ps_set (i := 2) nd rfl (by first | exact Or.inl rfl | exact Or.inr rfl) (me_str [] (by rfl)))
  (pss_cons (ps_set (i := 3) nd rfl (by first | exact Or.inl rfl | exact Or.inr rfl) me_int)
  (pss_cons (ps_set (i := 4) nd rfl (by first | exact Or.inl rfl | exact Or.inr rfl) me_int)
  (pss_cons (ms_while PassesOwn.never (mt_cmp op_ltM (mv 3) (pe_callB call_lenM (by rfl) T.f_len (by decide +kernel) (pa_cons (mv 0) pa_nil)) (by rfl)) (pss_one (ps_if (mt_cmp (op_eqM hr.units) (me_ix (mv 0) (mv 3) (fun _ _ => rfl)) (me_str [46] (by rfl)) (by rfl)) (pss_cons (ps_set (i := 5) nd rfl (by first | exact Or.inl rfl | exact Or.inr rfl) (me_callG C_end_of (hr.mono l_end_of) (by rfl) pass0 (pa_cons (mv 1) (pa_cons (mv 4) pa_nil))))
  (pss_cons (ps_set (i := 2) nd rfl (by first | exact Or.inl rfl | exact Or.inr rfl) (pe_op op_addM (mv 2) (me_slice (mv 1) (mo_some (mv 4)) (mo_some (mv 5)))))
  (pss_cons (ps_set (i := 3) nd rfl (by first | exact Or.inl rfl | exact Or.inr rfl) (pe_op op_addM (mv 3) me_int))
  (pss_one (ps_set (i := 4) nd rfl (by first | exact Or.inl rfl | exact Or.inr rfl) (mv 5)))))) (pss_one (ps_if (mt_cmp (op_eqM hr.units) (me_ix (mv 1) (mv 4) (fun _ _ => rfl)) (me_str [46] (by rfl)) (by rfl)) (pss_cons (ps_set (i := 5) nd rfl (by first | exact Or.inl rfl | exact Or.inr rfl) (me_callG C_end_of (hr.mono l_end_of) (by rfl) pass0 (pa_cons (mv 0) (pa_cons (mv 3) pa_nil))))
  (pss_cons (ps_set (i := 2) nd rfl (by first | exact Or.inl rfl | exact Or.inr rfl) (pe_op op_addM (mv 2) (me_slice (mv 0) (mo_some (mv 3)) (mo_some (mv 5)))))
  (pss_cons (ps_set (i := 3) nd rfl (by first | exact Or.inl rfl | exact Or.inr rfl) (mv 5))
  (pss_one (ps_set (i := 4) nd rfl (by first | exact Or.inl rfl | exact Or.inr rfl) (pe_op op_addM (mv 4) me_int)))))) (pss_cons (ps_set (i := 2) nd rfl (by first | exact Or.inl rfl | exact Or.inr rfl) (pe_op op_addM (mv 2) (me_ix (mv 0) (mv 3) (fun _ _ => rfl))))
  (pss_cons (ps_set (i := 3) nd rfl (by first | exact Or.inl rfl | exact Or.inr rfl) (pe_op op_addM (mv 3) me_int))
  (pss_one (ps_set (i := 4) nd rfl (by first | exact Or.inl rfl | exact Or.inr rfl) (pe_op op_addM (mv 4) me_int))))))))))
  (pss_one (ps_ret (mv 2)))))))), pu vs H Q E h⟩
abbrev s_joined : Stmt := top 13
theorem sc_joined : FnScope N_joined ["one", "other"] (defScope s_joined) := ⟨rfl, rfl, rfl, by decide +kernel, rfl, by decide +kernel, by decide +kernel⟩
theorem ok_joined {k : Nat} {sp : Sp} {sp_check_tree : Sp} {sp_joined_trees : Sp} {k_check_tree : Nat} {p_check_tree : List Str} {k_joined_trees : Nat} {p_joined_trees : List Str} (F : FunD K "joined" "joined" (defArgs s_joined) (defBody s_joined) (defScope s_joined) [] [] f fd) (T : Tx K mg) (C_check_tree : CalG P w K mg base (L2.CX P w) "check_tree" k_check_tree p_check_tree [] sp_check_tree) (C_joined_trees : CalG P w K mg base CX0 "joined_trees" k_joined_trees p_joined_trees [] sp_joined_trees) (l_check_tree : k_check_tree ≤ k) (l_joined_trees : k_joined_trees ≤ k)
    (len : ∀ vs H Q E, sp vs H Q E → vs.length = 2) (pu : ∀ vs H Q E, sp vs H Q E → rd_joined K sp_check_tree sp_joined_trees E { nx := fun _ H' => Q .non H', rt := Q } (start N_joined vs) H) :
    FnG P w K mg base (L2.CX P w) (k + 1) f fd ["one", "other"] sp :=
  okG F sc_joined len fun cdv A outer s H vs Q E hr h => ⟨rd_joined K sp_check_tree sp_joined_trees E, (
    have nd := sc_joined.nd
    let N := N_joined
    let scope := defScope s_joined
    (pss_cons (ps_expr (me_callG C_check_tree (hr.mono l_check_tree) (by rfl) (passes_call (takes_of rfl rfl rfl rfl) fun _ _ _ _ h => h) (pa_cons (mv 0) pa_nil)))
  (pss_cons (ps_expr (me_callG C_check_tree (hr.mono l_check_tree) (by rfl) (passes_call (takes_of rfl rfl rfl rfl) fun _ _ _ _ h => h) (pa_cons (mv 1) pa_nil)))
  (pss_one (ps_ret (me_callG C_joined_trees (hr.mono l_joined_trees) (by rfl) pass0 (pa_cons (mv 0) (pa_cons (mv 1) pa_nil)))))))), pu vs H Q E h⟩
abbrev s_shared : Stmt := top 14
theorem sc_shared : FnScope N_shared ["one", "other"] (defScope s_shared) := ⟨rfl, rfl, rfl, by decide +kernel, rfl, by decide +kernel, by decide +kernel⟩
theorem ok_shared {k : Nat} {sp : Sp} {sp_check_tree : Sp} {sp_end_of : Sp} {k_check_tree : Nat} {p_check_tree : List Str} {k_end_of : Nat} {p_end_of : List Str} (F : FunD K "shared" "shared" (defArgs s_shared) (defBody s_shared) (defScope s_shared) [] [] f fd) (T : Tx K mg) (C_check_tree : CalG P w K mg base (L2.CX P w) "check_tree" k_check_tree p_check_tree [] sp_check_tree) (C_end_of : CalG P w K mg base CX0 "end_of" k_end_of p_end_of [] sp_end_of) (l_check_tree : k_check_tree ≤ k) (l_end_of : k_end_of ≤ k)
    (len : ∀ vs H Q E, sp vs H Q E → vs.length = 2) (pu : ∀ vs H Q E, sp vs H Q E → rd_shared K sp_check_tree sp_end_of E { nx := fun _ H' => Q .non H', rt := Q } (start N_shared vs) H) :
    FnG P w K mg base (L2.CX P w) (k + 1) f fd ["one", "other"] sp :=
  okG F sc_shared len fun cdv A outer s H vs Q E hr h => ⟨rd_shared K sp_check_tree sp_end_of E, (
    have nd := sc_shared.nd
    let N := N_shared
    let scope := defScope s_shared
    (pss_cons (ps_expr (me_callG C_check_tree (hr.mono l_check_tree) (by rfl) (passes_call (takes_of rfl rfl rfl rfl) fun _ _ _ _ h => h) (pa_cons (mv 0) pa_nil)))
  (pss_cons (ps_expr (me_callG C_check_tree (hr.mono l_check_tree) (by rfl) (passes_call (takes_of rfl rfl rfl rfl) fun _ _ _ _ h => h) (pa_cons (mv 1) pa_nil)))
  (pss_cons (ms_par3 (i := 2) (j := 3) (l := 4) rfl nd rfl rfl rfl (by decide) (by decide) (by decide) rfl rfl rfl (pa_cons (pe_lst pa_nil) (pa_cons me_int (pa_cons me_int pa_nil))) (by rfl))
  (pss_cons (ms_while (passes_of rfl) (mt_cmp op_ltM (mv 3) (pe_callB call_lenM (by rfl) T.f_len (by decide +kernel) (pa_cons (mv 0) pa_nil)) (by rfl)) (pss_one (ps_if (PW.pt (pw_or (mt_cmp (op_eqM hr.units) (me_ix (mv 0) (mv 3) (fun _ _ => rfl)) (me_str [46] (by rfl)) (by rfl)) (pw_or1 (mt_cmp (op_eqM hr.units) (me_ix (mv 1) (mv 4) (fun _ _ => rfl)) (me_str [46] (by rfl)) (by rfl))))) (pss_cons (ps_expr (me_append (mv 2) (me_str [46] (by rfl))))
  (pss_one (ms_par (i := 3) (j := 4) rfl nd rfl rfl (by decide) rfl rfl (pa_cons (me_callG C_end_of (hr.mono l_end_of) (by rfl) pass0 (pa_cons (mv 0) (pa_cons (mv 3) pa_nil))) (pa_cons (me_callG C_end_of (hr.mono l_end_of) (by rfl) pass0 (pa_cons (mv 1) (pa_cons (mv 4) pa_nil))) pa_nil)) (by rfl)))) (pss_cons (ps_expr (me_append (mv 2) (me_ix (mv 0) (mv 3) (fun _ _ => rfl))))
  (pss_one (ms_par (i := 3) (j := 4) rfl nd rfl rfl (by decide) rfl rfl (pa_cons (pe_op op_addM (mv 3) me_int) (pa_cons (pe_op op_addM (mv 4) me_int) pa_nil)) (by rfl)))))))
  (pss_one (ps_ret (me_join (me_str [] (by rfl)) (mv 2))))))))), pu vs H Q E h⟩
abbrev s__law_cell : Stmt := top 16
theorem sc__law_cell : FnScope N__law_cell ["_law_script", "_law_index"] (defScope s__law_cell) := ⟨rfl, rfl, rfl, by decide +kernel, rfl, by decide +kernel, by decide +kernel⟩
theorem ok__law_cell {k : Nat} {sp : Sp}  (F : FunD K "_law_cell" "_law_cell" (defArgs s__law_cell) (defBody s__law_cell) (defScope s__law_cell) [] [] f fd) (T : Tx K mg)  
    (len : ∀ vs H Q E, sp vs H Q E → vs.length = 2) (pu : ∀ vs H Q E, sp vs H Q E → rd__law_cell K { nx := fun _ H' => Q .non H', rt := Q } (start N__law_cell vs) H) :
    FnG P w K mg base CX0 (k + 1) f fd ["_law_script", "_law_index"] sp :=
  okG F sc__law_cell len fun cdv A outer s H vs Q E hr h => ⟨rd__law_cell K, PSs.nox (
    have nd := sc__law_cell.nd
    let N := N__law_cell
    let scope := defScope s__law_cell
    (pss_cons (ps_if (mt_cmp op_ltM (mv 1) (pe_callB call_lenM (by rfl) T.f_len (by decide +kernel) (pa_cons (mv 0) pa_nil)) (by rfl)) (pss_one (ps_ret (me_ix (mv 0) (mv 1) (fun _ _ => rfl)))) pss_nil)
  (pss_one (ps_ret me_int)))), pu vs H Q E h⟩
abbrev s__law_hash : Stmt := top 17
theorem sc__law_hash : FnScope N__law_hash ["_law_seed", "_law_index"] (defScope s__law_hash) := ⟨rfl, rfl, rfl, by decide +kernel, rfl, by decide +kernel, by decide +kernel⟩
theorem ok__law_hash {k : Nat} {sp : Sp}  (F : FunD K "_law_hash" "_law_hash" (defArgs s__law_hash) (defBody s__law_hash) (defScope s__law_hash) [] [] f fd) (T : Tx K mg)  
    (len : ∀ vs H Q E, sp vs H Q E → vs.length = 2) (pu : ∀ vs H Q E, sp vs H Q E → rd__law_hash K { nx := fun _ H' => Q .non H', rt := Q } (start N__law_hash vs) H) :
    FnG P w K mg base CX0 (k + 1) f fd ["_law_seed", "_law_index"] sp :=
  okG F sc__law_hash len fun cdv A outer s H vs Q E hr h => ⟨rd__law_hash K, PSs.nox (
    have nd := sc__law_hash.nd
    let N := N__law_hash
    let scope := defScope s__law_hash
    (pss_cons (ps_set (i := 2) nd rfl (by first | exact Or.inl rfl | exact Or.inr rfl) (pe_op op_modM (pe_callTy call_intM (by rfl) T.f_int (by decide +kernel) (pa_cons (pe_op op_addM (pe_op op_addM (pe_op op_addM (pe_op op_mulM (mv 0) me_int) (pe_op op_mulM (pe_op op_mulM me_int (mv 1)) (mv 1))) (mv 1)) me_int) pa_nil)) me_int))
  (pss_cons (ps_set (i := 2) nd rfl (by first | exact Or.inl rfl | exact Or.inr rfl) (pe_op op_modM (pe_callTy call_intM (by rfl) T.f_int (by decide +kernel) (pa_cons (pe_op op_addM (pe_op op_mulM (mv 2) (mv 2)) me_int) pa_nil)) me_int))
  (pss_one (ps_ret (pe_op op_modM (pe_callTy call_intM (by rfl) T.f_int (by decide +kernel) (pa_cons (pe_op op_mulM (mv 2) me_int) pa_nil)) me_int)))))), pu vs H Q E h⟩
abbrev s__law_generator : Stmt := top 18
theorem sc__law_generator : FnScope N__law_generator ["_law_script", "_law_index"] (defScope s__law_generator) := ⟨rfl, rfl, rfl, by decide +kernel, rfl, by decide +kernel, by decide +kernel⟩
theorem ok__law_generator {k : Nat} {sp : Sp} {sp__law_cell : Sp} {k__law_cell : Nat} {p__law_cell : List Str} (F : FunD K "_law_generator" "_law_generator" (defArgs s__law_generator) (defBody s__law_generator) (defScope s__law_generator) [] [] f fd) (T : Tx K mg) (C__law_cell : CalG P w K mg base CX0 "_law_cell" k__law_cell p__law_cell [] sp__law_cell) (l__law_cell : k__law_cell ≤ k)
    (len : ∀ vs H Q E, sp vs H Q E → vs.length = 2) (pu : ∀ vs H Q E, sp vs H Q E → rd__law_generator K sp__law_cell { nx := fun _ H' => Q .non H', rt := Q } (start N__law_generator vs) H) :
    FnG P w K mg base CX0 (k + 1) f fd ["_law_script", "_law_index"] sp :=
  okG F sc__law_generator len fun cdv A outer s H vs Q E hr h => ⟨rd__law_generator K sp__law_cell, PSs.nox (
    have nd := sc__law_generator.nd
    let N := N__law_generator
    let scope := defScope s__law_generator
    (pss_cons (ps_set (i := 2) nd rfl (by first | exact Or.inl rfl | exact Or.inr rfl) (me_callG C__law_cell (hr.mono l__law_cell) (by rfl) pass0 (pa_cons (mv 0) (pa_cons (mv 1) pa_nil))))
  (pss_one (ps_ret (pe_lst (pa_cons (pe_op op_modM (pe_callTy call_intM (by rfl) T.f_int (by decide +kernel) (pa_cons (pe_callB (call_maxM rfl) (by rfl) T.f_max (by decide +kernel) (pa_cons (pe_op op_subM (mv 2) (pe_op op_powM me_int me_int)) (pa_cons me_int pa_nil))) pa_nil)) (pe_op op_powM (pe_op op_powM me_int me_int) me_int)) (pa_cons (pe_op op_modM (pe_callTy call_intM (by rfl) T.f_int (by decide +kernel) (pa_cons (mv 2) pa_nil)) me_int) (pa_cons (pe_op op_mulM me_int (mv 1)) pa_nil)))))))), pu vs H Q E h⟩
abbrev s__law_random : Stmt := top 19
theorem sc__law_random : FnScope N__law_random ["_law_generator_here", "_law_bound"] (defScope s__law_random) := ⟨rfl, rfl, rfl, by decide +kernel, rfl, by decide +kernel, by decide +kernel⟩
theorem ok__law_random {k : Nat} {sp : Sp} {sp__law_hash : Sp} {k__law_hash : Nat} {p__law_hash : List Str} (F : FunD K "_law_random" "_law_random" (defArgs s__law_random) (defBody s__law_random) (defScope s__law_random) [] [] f fd) (T : Tx K mg) (C__law_hash : CalG P w K mg base CX0 "_law_hash" k__law_hash p__law_hash [] sp__law_hash) (l__law_hash : k__law_hash ≤ k)
    (len : ∀ vs H Q E, sp vs H Q E → vs.length = 2) (pu : ∀ vs H Q E, sp vs H Q E → rd__law_random K sp__law_hash { nx := fun _ H' => Q .non H', rt := Q } (start N__law_random vs) H) :
    FnG P w K mg base CX0 (k + 1) f fd ["_law_generator_here", "_law_bound"] sp :=
  okG F sc__law_random len fun cdv A outer s H vs Q E hr h => ⟨rd__law_random K sp__law_hash, PSs.nox (
    have nd := sc__law_random.nd
    let N := N__law_random
    let scope := defScope s__law_random
    (pss_cons (ps_if (mt_cmp op_gtM (me_ix (mv 0) me_int (fun _ _ => rfl)) me_int (by rfl)) (pss_cons (ps_set (i := 2) nd rfl (by first | exact Or.inl rfl | exact Or.inr rfl) (pe_op op_modM (pe_callTy call_intM (by rfl) T.f_int (by decide +kernel) (pa_cons (me_ix (mv 0) me_int (fun _ _ => rfl)) pa_nil)) (mv 1)))
  (pss_cons (ps_asg (pe_op op_divM (me_ix (mv 0) me_int (fun _ _ => rfl)) (mv 1)) (pg_sub (mv 0) me_int set_listM))
  (pss_one (ps_ret (mv 2))))) pss_nil)
  (pss_cons (ps_set (i := 2) nd rfl (by first | exact Or.inl rfl | exact Or.inr rfl) me_int)
  (pss_cons (ms_for PassesOwn.never rfl (pi_rng1M (by rfl) T.f_range (pe_op op_addM me_int (pe_op op_divM (me_bits (mv 1)) me_int))) (pg_name (i := 3) nd rfl (by first | exact Or.inl rfl | exact Or.inr rfl)) (pss_cons (ps_asg (pe_op op_addM (me_ix (mv 0) me_int (fun _ _ => rfl)) me_int) (pg_sub (mv 0) me_int set_listM))
  (pss_one (ps_set (i := 2) nd rfl (by first | exact Or.inl rfl | exact Or.inr rfl) (pe_op op_addM (pe_op op_mulM (mv 2) me_int) (me_callG C__law_hash (hr.mono l__law_hash) (by rfl) pass0 (pa_cons (me_ix (mv 0) me_int (fun _ _ => rfl)) (pa_cons (me_ix (mv 0) me_int (fun _ _ => rfl)) pa_nil))))))))
  (pss_one (ps_ret (pe_op op_modM (pe_callTy call_intM (by rfl) T.f_int (by decide +kernel) (pa_cons (mv 2) pa_nil)) (mv 1)))))))), pu vs H Q E h⟩
abbrev s__law_tree : Stmt := top 20
theorem sc__law_tree : FnScope N__law_tree ["_law_generator_here", "_law_many"] (defScope s__law_tree) := ⟨rfl, rfl, rfl, by decide +kernel, rfl, by decide +kernel, by decide +kernel⟩
theorem ok__law_tree {k : Nat} {sp : Sp} {sp__law_random : Sp} {sp__law_tree : Sp} {k__law_random : Nat} {p__law_random : List Str} {k__law_tree : Nat} {p__law_tree : List Str} (F : FunD K "_law_tree" "_law_tree" (defArgs s__law_tree) (defBody s__law_tree) (defScope s__law_tree) [] [] f fd) (T : Tx K mg) (C__law_random : CalG P w K mg base CX0 "_law_random" k__law_random p__law_random [] sp__law_random) (C__law_tree : CalG P w K mg base CX0 "_law_tree" k__law_tree p__law_tree [] sp__law_tree) (l__law_random : k__law_random ≤ k) (l__law_tree : k__law_tree ≤ k)
    (len : ∀ vs H Q E, sp vs H Q E → vs.length = 2) (pu : ∀ vs H Q E, sp vs H Q E → rd__law_tree K sp__law_random sp__law_tree { nx := fun _ H' => Q .non H', rt := Q } (start N__law_tree vs) H) :
    FnG P w K mg base CX0 (k + 1) f fd ["_law_generator_here", "_law_many"] sp :=
  okG F sc__law_tree len fun cdv A outer s H vs Q E hr h => ⟨rd__law_tree K sp__law_random sp__law_tree, PSs.nox (
    have nd := sc__law_tree.nd
    let N := N__law_tree
    let scope := defScope s__law_tree
    (pss_cons (ps_if (mt_cmp (op_eqM hr.units) (mv 1) me_int (by rfl)) (pss_one (ps_ret (me_str [46] (by rfl)))) pss_nil)
  (pss_cons (ps_set (i := 2) nd rfl (by first | exact Or.inl rfl | exact Or.inr rfl) (me_ix (pe_lst (pa_cons me_int (pa_cons (pe_op op_subM (mv 1) me_int) (pa_cons (me_callG C__law_random (hr.mono l__law_random) (by rfl) pass0 (pa_cons (mv 0) (pa_cons (mv 1) pa_nil))) (pa_cons (pe_op op_divM (mv 1) me_int) pa_nil))))) (me_callG C__law_random (hr.mono l__law_random) (by rfl) pass0 (pa_cons (mv 0) (pa_cons me_int pa_nil))) (fun _ _ => rfl)))
  (pss_one (ps_ret (pe_op op_addM (pe_op op_addM (pe_op op_addM (me_str [40] (by rfl)) (me_callG C__law_tree (hr.mono l__law_tree) (by rfl) pass0 (pa_cons (mv 0) (pa_cons (mv 2) pa_nil)))) (me_callG C__law_tree (hr.mono l__law_tree) (by rfl) pass0 (pa_cons (mv 0) (pa_cons (pe_op op_subM (pe_op op_subM (mv 1) me_int) (mv 2)) pa_nil)))) (me_str [41] (by rfl)))))))), pu vs H Q E h⟩
abbrev s__law_parsed : Stmt := top 21
theorem sc__law_parsed : FnScope N__law_parsed ["_law_tree_here"] (defScope s__law_parsed) := ⟨rfl, rfl, rfl, by decide +kernel, rfl, by decide +kernel, by decide +kernel⟩
theorem ok__law_parsed {k : Nat} {sp : Sp}  (F : FunD K "_law_parsed" "_law_parsed" (defArgs s__law_parsed) (defBody s__law_parsed) (defScope s__law_parsed) [] [] f fd) (T : Tx K mg)  
    (len : ∀ vs H Q E, sp vs H Q E → vs.length = 1) (pu : ∀ vs H Q E, sp vs H Q E → rd__law_parsed K { nx := fun _ H' => Q .non H', rt := Q } (start N__law_parsed vs) H) :
    FnG P w K mg base CX0 (k + 1) f fd ["_law_tree_here"] sp :=
  okG F sc__law_parsed len fun cdv A outer s H vs Q E hr h => ⟨rd__law_parsed K, PSs.nox (
    have nd := sc__law_parsed.nd
    let N := N__law_parsed
    let scope := defScope s__law_parsed
    (pss_cons (ps_set (i := 1) nd rfl (by first | exact Or.inl rfl | exact Or.inr rfl) (pe_lst pa_nil))
  (pss_cons (ms_for PassesOwn.never rfl (pi_iterM (mv 0)) (pg_name (i := 2) nd rfl (by first | exact Or.inl rfl | exact Or.inr rfl)) (pss_one (ps_if (mt_cmp (op_eqM hr.units) (mv 2) (me_str [41] (by rfl)) (by rfl)) (pss_one (ps_set (i := 1) nd rfl (by first | exact Or.inl rfl | exact Or.inr rfl) (pe_op op_addM (me_slice (mv 1) po_none (mo_some (me_neg me_int))) (pe_lst (pa_cons (pe_tup (pa_cons (me_ix (mv 1) (me_neg me_int) (fun _ _ => rfl)) (pa_cons (me_ix (mv 1) (me_neg me_int) (fun _ _ => rfl)) pa_nil))) pa_nil))))) (pss_one (ps_if (mt_cmp (op_eqM hr.units) (mv 2) (me_str [46] (by rfl)) (by rfl)) (pss_one (ps_expr (me_append (mv 1) (pe_tup pa_nil)))) pss_nil)))))
  (pss_one (ps_ret (me_ix (mv 1) me_int (fun _ _ => rfl))))))), pu vs H Q E h⟩
abbrev s__law_text : Stmt := top 22
theorem sc__law_text : FnScope N__law_text ["_law_parsed_here"] (defScope s__law_text) := ⟨rfl, rfl, rfl, by decide +kernel, rfl, by decide +kernel, by decide +kernel⟩
theorem ok__law_text {k : Nat} {sp : Sp} {sp__law_text : Sp} {k__law_text : Nat} {p__law_text : List Str} (F : FunD K "_law_text" "_law_text" (defArgs s__law_text) (defBody s__law_text) (defScope s__law_text) [] [] f fd) (T : Tx K mg) (C__law_text : CalG P w K mg base CX0 "_law_text" k__law_text p__law_text [] sp__law_text) (l__law_text : k__law_text ≤ k)
    (len : ∀ vs H Q E, sp vs H Q E → vs.length = 1) (pu : ∀ vs H Q E, sp vs H Q E → rd__law_text K sp__law_text { nx := fun _ H' => Q .non H', rt := Q } (start N__law_text vs) H) :
    FnG P w K mg base CX0 (k + 1) f fd ["_law_parsed_here"] sp :=
  okG F sc__law_text len fun cdv A outer s H vs Q E hr h => ⟨rd__law_text K sp__law_text, PSs.nox (
    have nd := sc__law_text.nd
    let N := N__law_text
    let scope := defScope s__law_text
    (pss_cons (ps_if (mt_cmp (op_eqM hr.units) (mv 0) (pe_tup pa_nil) (by rfl)) (pss_one (ps_ret (me_str [46] (by rfl)))) pss_nil)
  (pss_one (ps_ret (pe_op op_addM (pe_op op_addM (pe_op op_addM (me_str [40] (by rfl)) (me_callG C__law_text (hr.mono l__law_text) (by rfl) pass0 (pa_cons (me_ix (mv 0) me_int (fun _ _ => rfl)) pa_nil))) (me_callG C__law_text (hr.mono l__law_text) (by rfl) pass0 (pa_cons (me_ix (mv 0) me_int (fun _ _ => rfl)) pa_nil))) (me_str [41] (by rfl))))))), pu vs H Q E h⟩
abbrev s__law_filled : Stmt := top 23
theorem sc__law_filled : FnScope N__law_filled ["_law_parsed_here", "_law_pieces"] (defScope s__law_filled) := ⟨rfl, rfl, rfl, by decide +kernel, rfl, by decide +kernel, by decide +kernel⟩
theorem ok__law_filled {k : Nat} {sp : Sp} {sp__law_filled : Sp} {k__law_filled : Nat} {p__law_filled : List Str} (F : FunD K "_law_filled" "_law_filled" (defArgs s__law_filled) (defBody s__law_filled) (defScope s__law_filled) [] [] f fd) (T : Tx K mg) (C__law_filled : CalG P w K mg base CX0 "_law_filled" k__law_filled p__law_filled [] sp__law_filled) (l__law_filled : k__law_filled ≤ k)
    (len : ∀ vs H Q E, sp vs H Q E → vs.length = 2) (pu : ∀ vs H Q E, sp vs H Q E → rd__law_filled K sp__law_filled { nx := fun _ H' => Q .non H', rt := Q } (start N__law_filled vs) H) :
    FnG P w K mg base CX0 (k + 1) f fd ["_law_parsed_here", "_law_pieces"] sp :=
  okG F sc__law_filled len fun cdv A outer s H vs Q E hr h => ⟨rd__law_filled K sp__law_filled, PSs.nox (
    have nd := sc__law_filled.nd
    let N := N__law_filled
    let scope := defScope s__law_filled
    (pss_cons (ps_if (mt_cmp (op_eqM hr.units) (mv 0) (pe_tup pa_nil) (by rfl)) (pss_one (ps_ret (me_pop0 (mv 1) me_int))) pss_nil)
  (pss_cons (ps_set (i := 2) nd rfl (by first | exact Or.inl rfl | exact Or.inr rfl) (me_callG C__law_filled (hr.mono l__law_filled) (by rfl) pass0 (pa_cons (me_ix (mv 0) me_int (fun _ _ => rfl)) (pa_cons (mv 1) pa_nil))))
  (pss_one (ps_ret (pe_tup (pa_cons (mv 2) (pa_cons (me_callG C__law_filled (hr.mono l__law_filled) (by rfl) pass0 (pa_cons (me_ix (mv 0) me_int (fun _ _ => rfl)) (pa_cons (mv 1) pa_nil))) pa_nil)))))))), pu vs H Q E h⟩
abbrev s__law_hanging : Stmt := top 24
theorem sc__law_hanging : FnScope N__law_hanging ["_law_parsed_here", "_law_top"] (defScope s__law_hanging) := ⟨rfl, rfl, rfl, by decide +kernel, rfl, by decide +kernel, by decide +kernel⟩
theorem ok__law_hanging {k : Nat} {sp : Sp} {sp__law_hanging : Sp} {k__law_hanging : Nat} {p__law_hanging : List Str} (F : FunD K "_law_hanging" "_law_hanging" (defArgs s__law_hanging) (defBody s__law_hanging) (defScope s__law_hanging) [] [] f fd) (T : Tx K mg) (C__law_hanging : CalG P w K mg base CX0 "_law_hanging" k__law_hanging p__law_hanging [] sp__law_hanging) (l__law_hanging : k__law_hanging ≤ k)
    (len : ∀ vs H Q E, sp vs H Q E → vs.length = 2) (pu : ∀ vs H Q E, sp vs H Q E → rd__law_hanging K sp__law_hanging { nx := fun _ H' => Q .non H', rt := Q } (start N__law_hanging vs) H) :
    FnG P w K mg base CX0 (k + 1) f fd ["_law_parsed_here", "_law_top"] sp :=
  okG F sc__law_hanging len fun cdv A outer s H vs Q E hr h => ⟨rd__law_hanging K sp__law_hanging, PSs.nox (
    have nd := sc__law_hanging.nd
    let N := N__law_hanging
    let scope := defScope s__law_hanging
    (pss_cons (ps_if (mt_cmp (op_eqM hr.units) (mv 1) (pe_tup pa_nil) (by rfl)) (pss_one (ps_ret (pe_lst (pa_cons (mv 0) pa_nil)))) pss_nil)
  (pss_cons (ps_if (mt_cmp (op_eqM hr.units) (mv 0) (pe_tup pa_nil) (by rfl)) (pss_one (ps_ret me_non)) pss_nil)
  (pss_cons (ms_par (i := 2) (j := 3) rfl nd rfl rfl (by decide) rfl rfl (pa_cons (me_callG C__law_hanging (hr.mono l__law_hanging) (by rfl) pass0 (pa_cons (me_ix (mv 0) me_int (fun _ _ => rfl)) (pa_cons (me_ix (mv 1) me_int (fun _ _ => rfl)) pa_nil))) (pa_cons (me_callG C__law_hanging (hr.mono l__law_hanging) (by rfl) pass0 (pa_cons (me_ix (mv 0) me_int (fun _ _ => rfl)) (pa_cons (me_ix (mv 1) me_int (fun _ _ => rfl)) pa_nil))) pa_nil)) (by rfl))
  (pss_one (ps_ret (pe_ifExp (PW.pt (pw_or (mt_cmp op_isM (mv 2) me_non (by rfl)) (pw_or1 (mt_cmp op_isM (mv 3) me_non (by rfl))))) me_non (pe_op op_addM (mv 2) (mv 3))))))))), pu vs H Q E h⟩
abbrev s__law_both : Stmt := top 25
theorem sc__law_both : FnScope N__law_both ["_law_one", "_law_other"] (defScope s__law_both) := ⟨rfl, rfl, rfl, by decide +kernel, rfl, by decide +kernel, by decide +kernel⟩
theorem ok__law_both {k : Nat} {sp : Sp} {sp__law_both : Sp} {k__law_both : Nat} {p__law_both : List Str} (F : FunD K "_law_both" "_law_both" (defArgs s__law_both) (defBody s__law_both) (defScope s__law_both) [] [] f fd) (T : Tx K mg) (C__law_both : CalG P w K mg base CX0 "_law_both" k__law_both p__law_both [] sp__law_both) (l__law_both : k__law_both ≤ k)
    (len : ∀ vs H Q E, sp vs H Q E → vs.length = 2) (pu : ∀ vs H Q E, sp vs H Q E → rd__law_both K sp__law_both { nx := fun _ H' => Q .non H', rt := Q } (start N__law_both vs) H) :
    FnG P w K mg base CX0 (k + 1) f fd ["_law_one", "_law_other"] sp :=
  okG F sc__law_both len fun cdv A outer s H vs Q E hr h => ⟨rd__law_both K sp__law_both, PSs.nox (
    have nd := sc__law_both.nd
    let N := N__law_both
    let scope := defScope s__law_both
    (pss_cons (ps_if (mt_cmp (op_eqM hr.units) (mv 0) (pe_tup pa_nil) (by rfl)) (pss_one (ps_ret (mv 1))) pss_nil)
  (pss_cons (ps_if (mt_cmp (op_eqM hr.units) (mv 1) (pe_tup pa_nil) (by rfl)) (pss_one (ps_ret (mv 0))) pss_nil)
  (pss_one (ps_ret (pe_tup (pa_cons (me_callG C__law_both (hr.mono l__law_both) (by rfl) pass0 (pa_cons (me_ix (mv 0) me_int (fun _ _ => rfl)) (pa_cons (me_ix (mv 1) me_int (fun _ _ => rfl)) pa_nil))) (pa_cons (me_callG C__law_both (hr.mono l__law_both) (by rfl) pass0 (pa_cons (me_ix (mv 0) me_int (fun _ _ => rfl)) (pa_cons (me_ix (mv 1) me_int (fun _ _ => rfl)) pa_nil))) pa_nil)))))))), pu vs H Q E h⟩
abbrev s__law_trees : Stmt := top 26
theorem sc__law_trees : FnScope N__law_trees ["_law_generator_here", "_law_many"] (defScope s__law_trees) := ⟨rfl, rfl, rfl, by decide +kernel, rfl, by decide +kernel, by decide +kernel⟩
theorem ok__law_trees {k : Nat} {sp : Sp} {sp__law_tree : Sp} {sp__law_random : Sp} {k__law_random : Nat} {p__law_random : List Str} {k__law_tree : Nat} {p__law_tree : List Str} (F : FunD K "_law_trees" "_law_trees" (defArgs s__law_trees) (defBody s__law_trees) (defScope s__law_trees) [] [] f fd) (T : Tx K mg) (C__law_random : CalG P w K mg base CX0 "_law_random" k__law_random p__law_random [] sp__law_random) (C__law_tree : CalG P w K mg base CX0 "_law_tree" k__law_tree p__law_tree [] sp__law_tree) (l__law_random : k__law_random ≤ k) (l__law_tree : k__law_tree ≤ k)
    (len : ∀ vs H Q E, sp vs H Q E → vs.length = 2) (pu : ∀ vs H Q E, sp vs H Q E → rd__law_trees K sp__law_tree sp__law_random { nx := fun _ H' => Q .non H', rt := Q } (start N__law_trees vs) H) :
    FnG P w K mg base CX0 (k + 1) f fd ["_law_generator_here", "_law_many"] sp :=
  okG F sc__law_trees len fun cdv A outer s H vs Q E hr h => ⟨rd__law_trees K sp__law_tree sp__law_random, PSs.nox (
    have nd := sc__law_trees.nd
    let N := N__law_trees
    let scope := defScope s__law_trees
    (pss_cons (ps_set (i := 2) nd rfl (by first | exact Or.inl rfl | exact Or.inr rfl) (pe_lst pa_nil))
  (pss_cons (ms_for PassesOwn.never rfl (pi_rng1M (by rfl) T.f_range (mv 1)) (pg_name (i := 3) nd rfl (by first | exact Or.inl rfl | exact Or.inr rfl)) (pss_one (ps_expr (me_append (mv 2) (pe_ifExp (mt_cmp op_ltM (mv 3) me_int (by rfl)) (me_callG C__law_tree (hr.mono l__law_tree) (by rfl) pass0 (pa_cons (mv 0) (pa_cons (me_ix (pe_lst (pa_cons me_int (pa_cons me_int (pa_cons me_int (pa_cons me_int (pa_cons me_int pa_nil)))))) (me_callG C__law_random (hr.mono l__law_random) (by rfl) pass0 (pa_cons (mv 0) (pa_cons me_int pa_nil))) (fun _ _ => rfl)) pa_nil))) (me_str [46] (by rfl)))))))
  (pss_one (ps_ret (mv 2)))))), pu vs H Q E h⟩
abbrev s__law_core : Stmt := top 27
theorem sc__law_core : FnScope N__law_core ["_law_one", "_law_other"] (defScope s__law_core) := ⟨rfl, rfl, rfl, by decide +kernel, rfl, by decide +kernel, by decide +kernel⟩
theorem ok__law_core {k : Nat} {sp : Sp} {sp__law_core : Sp} {k__law_core : Nat} {p__law_core : List Str} (F : FunD K "_law_core" "_law_core" (defArgs s__law_core) (defBody s__law_core) (defScope s__law_core) [] [] f fd) (T : Tx K mg) (C__law_core : CalG P w K mg base CX0 "_law_core" k__law_core p__law_core [] sp__law_core) (l__law_core : k__law_core ≤ k)
    (len : ∀ vs H Q E, sp vs H Q E → vs.length = 2) (pu : ∀ vs H Q E, sp vs H Q E → rd__law_core K sp__law_core { nx := fun _ H' => Q .non H', rt := Q } (start N__law_core vs) H) :
    FnG P w K mg base CX0 (k + 1) f fd ["_law_one", "_law_other"] sp :=
  okG F sc__law_core len fun cdv A outer s H vs Q E hr h => ⟨rd__law_core K sp__law_core, PSs.nox (
    have nd := sc__law_core.nd
    let N := N__law_core
    let scope := defScope s__law_core
    (pss_cons (ps_if (PW.pt (pw_or (mt_cmp (op_eqM hr.units) (mv 0) (pe_tup pa_nil) (by rfl)) (pw_or1 (mt_cmp (op_eqM hr.units) (mv 1) (pe_tup pa_nil) (by rfl))))) (pss_one (ps_ret (pe_tup pa_nil))) pss_nil)
  (pss_one (ps_ret (pe_tup (pa_cons (me_callG C__law_core (hr.mono l__law_core) (by rfl) pass0 (pa_cons (me_ix (mv 0) me_int (fun _ _ => rfl)) (pa_cons (me_ix (mv 1) me_int (fun _ _ => rfl)) pa_nil))) (pa_cons (me_callG C__law_core (hr.mono l__law_core) (by rfl) pass0 (pa_cons (me_ix (mv 0) me_int (fun _ _ => rfl)) (pa_cons (me_ix (mv 1) me_int (fun _ _ => rfl)) pa_nil))) pa_nil))))))), pu vs H Q E h⟩
abbrev s__law_pair_right : Stmt := top 28
theorem sc__law_pair_right : FnScope N__law_pair_right ["_law_one", "_law_other"] (defScope s__law_pair_right) := ⟨rfl, rfl, rfl, by decide +kernel, rfl, by decide +kernel, by decide +kernel⟩
theorem ok__law_pair_right {k : Nat} {sp : Sp} {sp__law_parsed : Sp} {sp_joined : Sp} {sp__law_text : Sp} {sp__law_both : Sp} {sp_shared : Sp} {sp__law_core : Sp} {sp__law_hanging : Sp} {sp_hung : Sp} {k__law_parsed : Nat} {p__law_parsed : List Str} {k_joined : Nat} {p_joined : List Str} {k__law_both : Nat} {p__law_both : List Str} {k__law_text : Nat} {p__law_text : List Str} {k_shared : Nat} {p_shared : List Str} {k__law_core : Nat} {p__law_core : List Str} {k__law_hanging : Nat} {p__law_hanging : List Str} {k_hung : Nat} {p_hung : List Str} (F : FunD K "_law_pair_right" "_law_pair_right" (defArgs s__law_pair_right) (defBody s__law_pair_right) (defScope s__law_pair_right) [] [] f fd) (T : Tx K mg) (C__law_parsed : CalG P w K mg base CX0 "_law_parsed" k__law_parsed p__law_parsed [] sp__law_parsed) (C_joined : CalG P w K mg base (L2.CX P w) "joined" k_joined p_joined [] sp_joined) (C__law_both : CalG P w K mg base CX0 "_law_both" k__law_both p__law_both [] sp__law_both) (C__law_text : CalG P w K mg base CX0 "_law_text" k__law_text p__law_text [] sp__law_text) (C_shared : CalG P w K mg base (L2.CX P w) "shared" k_shared p_shared [] sp_shared) (C__law_core : CalG P w K mg base CX0 "_law_core" k__law_core p__law_core [] sp__law_core) (C__law_hanging : CalG P w K mg base CX0 "_law_hanging" k__law_hanging p__law_hanging [] sp__law_hanging) (C_hung : CalG P w K mg base (L2.CX P w) "hung" k_hung p_hung [] sp_hung) (l__law_parsed : k__law_parsed ≤ k) (l_joined : k_joined ≤ k) (l__law_both : k__law_both ≤ k) (l__law_text : k__law_text ≤ k) (l_shared : k_shared ≤ k) (l__law_core : k__law_core ≤ k) (l__law_hanging : k__law_hanging ≤ k) (l_hung : k_hung ≤ k)
    (len : ∀ vs H Q E, sp vs H Q E → vs.length = 2) (pu : ∀ vs H Q E, sp vs H Q E → rd__law_pair_right K sp__law_parsed sp_joined sp__law_text sp__law_both sp_shared sp__law_core sp__law_hanging sp_hung { nx := fun _ H' => Q .non H', rt := Q } (start N__law_pair_right vs) H) :
    FnG P w K mg base CX0 (k + 1) f fd ["_law_one", "_law_other"] sp :=
  okG F sc__law_pair_right len fun cdv A outer s H vs Q E hr h => ⟨rd__law_pair_right K sp__law_parsed sp_joined sp__law_text sp__law_both sp_shared sp__law_core sp__law_hanging sp_hung, PSs.nox (
    have nd := sc__law_pair_right.nd
    let N := N__law_pair_right
    let scope := defScope s__law_pair_right
    (pss_cons (ms_par (i := 2) (j := 3) rfl nd rfl rfl (by decide) rfl rfl (pa_cons (me_callG C__law_parsed (hr.mono l__law_parsed) (by rfl) pass0 (pa_cons (mv 0) pa_nil)) (pa_cons (me_callG C__law_parsed (hr.mono l__law_parsed) (by rfl) pass0 (pa_cons (mv 1) pa_nil)) pa_nil)) (by rfl))
  (pss_cons (ps_if (mt_cmp (op_neM hr.units) (me_callG C_joined (hr.mono l_joined) (by rfl) passF (pa_cons (mv 0) (pa_cons (mv 1) pa_nil))) (me_callG C__law_text (hr.mono l__law_text) (by rfl) pass0 (pa_cons (me_callG C__law_both (hr.mono l__law_both) (by rfl) pass0 (pa_cons (mv 2) (pa_cons (mv 3) pa_nil))) pa_nil)) (by rfl)) (pss_one (ps_ret me_bl)) pss_nil)
  (pss_cons (ps_if (mt_cmp (op_neM hr.units) (me_callG C_shared (hr.mono l_shared) (by rfl) passF (pa_cons (mv 0) (pa_cons (mv 1) pa_nil))) (me_callG C__law_text (hr.mono l__law_text) (by rfl) pass0 (pa_cons (me_callG C__law_core (hr.mono l__law_core) (by rfl) pass0 (pa_cons (mv 2) (pa_cons (mv 3) pa_nil))) pa_nil)) (by rfl)) (pss_one (ps_ret me_bl)) pss_nil)
  (pss_cons (ps_set (i := 4) nd rfl (by first | exact Or.inl rfl | exact Or.inr rfl) (me_callG C__law_hanging (hr.mono l__law_hanging) (by rfl) pass0 (pa_cons (mv 2) (pa_cons (mv 3) pa_nil))))
  (pss_cons (ps_set (i := 5) nd rfl (by first | exact Or.inl rfl | exact Or.inr rfl) (pe_ifExp (mt_cmp op_isM (mv 4) me_non (by rfl)) me_non (me_lc (own := [("_law_piece", 8)]) rfl nd (pi_iterM (mv 4)) (blkOk_by (own := [("_law_piece", 8)]) (N := N) (sc := scope) (by decide +kernel)) (fun _ _ _ _ _ => (pg_name (i := 8) nd rfl (by first | exact Or.inl rfl | exact Or.inr rfl))) (fun _ _ _ _ _ => pts_nil) (fun _ _ _ _ _ => (me_callG C__law_text (hr.mono l__law_text) (by rfl) pass0 (pa_cons (mv 8) pa_nil))))))
  (pss_cons (ms_for PassesOwn.never rfl (pi_rng1M (by rfl) T.f_range me_int) (pg_name (i := 6) nd rfl (by first | exact Or.inl rfl | exact Or.inr rfl)) (pss_cons (ps_set (i := 7) nd rfl (by first | exact Or.inl rfl | exact Or.inr rfl) (me_callG C_hung (hr.mono l_hung) (by rfl) passF (pa_cons (mv 0) (pa_cons (mv 1) pa_nil))))
  (pss_cons (ps_if (mt_cmp (op_neM hr.units) (mv 7) (mv 5) (by rfl)) (pss_one (ps_ret me_bl)) pss_nil)
  (pss_one (ps_if (mt_cmp op_notM (mv 7) me_non (by rfl)) (pss_one (ps_expr (me_append (mv 7) (me_str [120] (by rfl))))) pss_nil)))))
  (pss_one (ps_ret me_bl))))))))), pu vs H Q E h⟩
abbrev s__law_caught : Stmt := top 29
theorem sc__law_caught : FnScope N__law_caught ["_law_tree_here", "_law_trees_here"] (defScope s__law_caught) := ⟨rfl, rfl, rfl, by decide +kernel, rfl, by decide +kernel, by decide +kernel⟩
theorem ok__law_caught {k : Nat} {sp : Sp} {sp_grown : Sp} {k_grown : Nat} {p_grown : List Str} {a_TurnError : Addr} {a_InvalidList : Addr} (F : FunD K "_law_caught" "_law_caught" (defArgs s__law_caught) (defBody s__law_caught) (defScope s__law_caught) [] [] f fd) (T : Tx K mg) (C_grown : CalG P w K mg base (L2.CX P w) "grown" k_grown p_grown [] sp_grown) (G_TurnError : mg "TurnError" = some (.ref a_TurnError)) (X_InvalidList : ExcAt P w K mg "InvalidList" "value" a_InvalidList) (l_grown : k_grown ≤ k)
    (len : ∀ vs H Q E, sp vs H Q E → vs.length = 2) (pu : ∀ vs H Q E, sp vs H Q E → rd__law_caught K sp_grown a_TurnError a_InvalidList { nx := fun _ H' => Q .non H', rt := Q } (start N__law_caught vs) H) :
    FnG P w K mg base CX0 (k + 1) f fd ["_law_tree_here", "_law_trees_here"] sp :=
  okG F sc__law_caught len fun cdv A outer s H vs Q E hr h => ⟨rd__law_caught K sp_grown a_TurnError a_InvalidList, PSs.nox (
    have nd := sc__law_caught.nd
    let N := N__law_caught
    let scope := defScope s__law_caught
    (pss_cons (ps_set (i := 2) nd rfl (by first | exact Or.inl rfl | exact Or.inr rfl) me_non)
  (pss_cons (ms_try (i := 3) (j := 2) (tb := fun W => (tDrop (tCallSD sp_grown [] (WE W) (tCons (mVar 0) (tCons (mVar 1) tNil))))) rfl rfl rfl nd rfl rfl ⟨by rfl, by decide, Or.inl G_TurnError⟩ (fun W pn xe tk po => (pss_one (ps_expr (me_callS C_grown (hr.mono l_grown) (by rfl) tk (pa_cons (mv 0) (pa_cons (mv 1) pa_nil)))))) (fun a oe pn hf => pss_one (ps_set (i := 2) nd rfl (by first | exact Or.inl rfl | exact Or.inr rfl) (mv 3))))
  (pss_cons (ps_if (pt_not (mt_val (pe_callB call_isiE (by rfl) T.f_isinstance (by decide +kernel) (pa_cons (mv 2) (pa_cons (pe_glob (by rfl) X_InvalidList.gC rfl) pa_nil))))) (pss_one (ps_ret me_bl)) pss_nil)
  (pss_cons (ps_set (i := 4) nd rfl (by first | exact Or.inl rfl | exact Or.inr rfl) (pe_callB (call_reprD hr) (by rfl) T.f_repr (by decide +kernel) (pa_cons (mv 1) pa_nil)))
  (pss_cons (ps_if (mt_val (pe_callB call_isiM (by rfl) T.f_isinstance (by decide +kernel) (pa_cons (mv 1) (pa_cons (me_ty "list" (by rfl) T.f_list (by decide +kernel)) pa_nil)))) (pss_cons (ps_expr (me_append (mv 1) (me_str [109, 111, 114, 101] (by rfl))))
  (pss_one (ps_ret (pe_cmpR (op_eqM hr.units) (pe_callB call_lenM (by rfl) T.f_len (by decide +kernel) (pa_cons (me_fld (mv 2)) pa_nil)) (pe_callB call_lenM (by rfl) T.f_len (by decide +kernel) (pa_cons (mv 1) pa_nil)) (by rfl))))) pss_nil)
  (pss_one (ps_ret (pe_cmpR (op_eqM hr.units) (pe_callB (call_reprD hr) (by rfl) T.f_repr (by decide +kernel) (pa_cons (me_fld (mv 2)) pa_nil)) (mv 4) (by rfl)))))))))), pu vs H Q E h⟩
abbrev s__law_no_tree : Stmt := top 30
theorem sc__law_no_tree : FnScope N__law_no_tree ["_law_door", "_law_one", "_law_other", "_law_bad"] (defScope s__law_no_tree) := ⟨rfl, rfl, rfl, by decide +kernel, rfl, by decide +kernel, by decide +kernel⟩
theorem ok__law_no_tree {k : Nat} {sp : Sp} {sp_grown : Sp} {sp_hung : Sp} {sp_joined : Sp} {sp_shared : Sp} {a_grown : Addr} {k_grown__v : Nat} {p_grown__v : List Str} {a_hung : Addr} {k_hung__v : Nat} {p_hung__v : List Str} {a_joined : Addr} {k_joined__v : Nat} {p_joined__v : List Str} {a_shared : Addr} {k_shared__v : Nat} {p_shared__v : List Str} {a_TurnError : Addr} {a_InvalidTree : Addr} (F : FunD K "_law_no_tree" "_law_no_tree" (defArgs s__law_no_tree) (defBody s__law_no_tree) (defScope s__law_no_tree) [] [] f fd) (T : Tx K mg) (V_grown : CalV P w K mg base (L2.CX P w) "grown" k_grown__v p_grown__v sp_grown a_grown) (V_hung : CalV P w K mg base (L2.CX P w) "hung" k_hung__v p_hung__v sp_hung a_hung) (V_joined : CalV P w K mg base (L2.CX P w) "joined" k_joined__v p_joined__v sp_joined a_joined) (V_shared : CalV P w K mg base (L2.CX P w) "shared" k_shared__v p_shared__v sp_shared a_shared) (G_TurnError : mg "TurnError" = some (.ref a_TurnError)) (X_InvalidTree : ExcAt P w K mg "InvalidTree" "value" a_InvalidTree) (l_grown__v : k_grown__v ≤ k) (l_hung__v : k_hung__v ≤ k) (l_joined__v : k_joined__v ≤ k) (l_shared__v : k_shared__v ≤ k)
    (len : ∀ vs H Q E, sp vs H Q E → vs.length = 4) (pu : ∀ vs H Q E, sp vs H Q E → rd__law_no_tree K sp_grown sp_hung sp_joined sp_shared a_TurnError a_InvalidTree a_grown a_hung a_joined a_shared { nx := fun _ H' => Q .non H', rt := Q } (start N__law_no_tree vs) H) :
    FnG P w K mg base CX0 (k + 1) f fd ["_law_door", "_law_one", "_law_other", "_law_bad"] sp :=
  okG F sc__law_no_tree len fun cdv A outer s H vs Q E hr h => ⟨rd__law_no_tree K sp_grown sp_hung sp_joined sp_shared a_TurnError a_InvalidTree a_grown a_hung a_joined a_shared, PSs.nox (
    have nd := sc__law_no_tree.nd
    let N := N__law_no_tree
    let scope := defScope s__law_no_tree
    (pss_cons (ps_set (i := 4) nd rfl (by first | exact Or.inl rfl | exact Or.inr rfl) me_non)
  (pss_cons (ms_try (i := 5) (j := 4) (tb := fun W => (tDrop (tCallV [(.ref a_grown, sp_grown), (.ref a_hung, sp_hung), (.ref a_joined, sp_joined), (.ref a_shared, sp_shared)] W (tOp (mIx K) (tLst (tCons (mC (.ref a_grown)) (tCons (mC (.ref a_hung)) (tCons (mC (.ref a_joined)) (tCons (mC (.ref a_shared)) tNil))))) (mVar 0)) (tCons (mVar 1) (tCons (mVar 2) tNil))))) rfl rfl rfl nd rfl rfl ⟨by rfl, by decide, Or.inl G_TurnError⟩ (fun W pn xe tk po => (pss_one (ps_expr (me_callVS (k := k) (.cons (V_grown.mono l_grown__v) (.cons (V_hung.mono l_hung__v) (.cons (V_joined.mono l_joined__v) (.cons (V_shared.mono l_shared__v) .nil)))) hr (me_ix (pe_lst (pa_cons (pe_glob (by rfl) V_grown.g rfl) (pa_cons (pe_glob (by rfl) V_hung.g rfl) (pa_cons (pe_glob (by rfl) V_joined.g rfl) (pa_cons (pe_glob (by rfl) V_shared.g rfl) pa_nil))))) (mv 0) (fun _ _ => rfl)) tk (pa_cons (mv 1) (pa_cons (mv 2) pa_nil)))))) (fun a oe pn hf => pss_one (ps_set (i := 4) nd rfl (by first | exact Or.inl rfl | exact Or.inr rfl) (mv 5))))
  (pss_one (ps_ret (me_and (pe_callB call_isiE (by rfl) T.f_isinstance (by decide +kernel) (pa_cons (mv 4) (pa_cons (pe_glob (by rfl) X_InvalidTree.gC rfl) pa_nil))) (pe_one (pe_cmpR (op_eqM hr.units) (pe_callB (call_reprM hr) (by rfl) T.f_repr (by decide +kernel) (pa_cons (me_fld (mv 4)) pa_nil)) (pe_callB (call_reprM hr) (by rfl) T.f_repr (by decide +kernel) (pa_cons (mv 3) pa_nil)) (by rfl))))))))), pu vs H Q E h⟩
abbrev s__law_refused : Stmt := top 31
theorem sc__law_refused : FnScope N__law_refused ["_law_tree_here"] (defScope s__law_refused) := ⟨rfl, rfl, rfl, by decide +kernel, rfl, by decide +kernel, by decide +kernel⟩
theorem ok__law_refused {k : Nat} {sp : Sp} {sp__law_no_tree : Sp} {k__law_no_tree : Nat} {p__law_no_tree : List Str} (F : FunD K "_law_refused" "_law_refused" (defArgs s__law_refused) (defBody s__law_refused) (defScope s__law_refused) [] [] f fd) (T : Tx K mg) (C__law_no_tree : CalG P w K mg base CX0 "_law_no_tree" k__law_no_tree p__law_no_tree [] sp__law_no_tree) (l__law_no_tree : k__law_no_tree ≤ k)
    (len : ∀ vs H Q E, sp vs H Q E → vs.length = 1) (pu : ∀ vs H Q E, sp vs H Q E → rd__law_refused K sp__law_no_tree { nx := fun _ H' => Q .non H', rt := Q } (start N__law_refused vs) H) :
    FnG P w K mg base CX0 (k + 1) f fd ["_law_tree_here"] sp :=
  okG F sc__law_refused len fun cdv A outer s H vs Q E hr h => ⟨rd__law_refused K sp__law_no_tree, PSs.nox (
    have nd := sc__law_refused.nd
    let N := N__law_refused
    let scope := defScope s__law_refused
    (pss_cons (ms_for PassesOwn.never rfl (pi_iterM (pe_lst (pa_cons (me_str [] (by rfl)) (pa_cons (me_str [40, 46, 46] (by rfl)) (pa_cons (me_str [46, 46] (by rfl)) (pa_cons (me_str [40, 46, 41] (by rfl)) (pa_cons me_non (pa_cons me_int (pa_cons me_bl (pa_cons (pe_lst (pa_cons (mv 0) pa_nil)) (pa_cons (pe_tup (pa_cons (me_str [46] (by rfl)) (pa_cons (me_str [46] (by rfl)) pa_nil))) (pa_cons pe_dnewK pa_nil)))))))))))) (pg_name (i := 1) nd rfl (by first | exact Or.inl rfl | exact Or.inr rfl)) (pss_cons (ps_if (PW.pt (pw_or (pt_not (mt_val (me_callG C__law_no_tree (hr.mono l__law_no_tree) (by rfl) pass0 (pa_cons me_int (pa_cons (mv 1) (pa_cons me_non (pa_cons (mv 1) pa_nil))))))) (pw_or1 (pt_not (mt_val (me_callG C__law_no_tree (hr.mono l__law_no_tree) (by rfl) pass0 (pa_cons me_int (pa_cons (mv 1) (pa_cons (pe_lst (pa_cons (me_str [46] (by rfl)) pa_nil)) (pa_cons (mv 1) pa_nil)))))))))) (pss_one (ps_ret me_bl)) pss_nil)
  (pss_one (ms_for PassesOwn.never rfl (pi_rng2M (by rfl) T.f_range me_int me_int) (pg_name (i := 2) nd rfl (by first | exact Or.inl rfl | exact Or.inr rfl)) (pss_one (ms_for PassesOwn.never rfl (pi_iterM (pe_lst (pa_cons (pe_tup (pa_cons (mv 1) (pa_cons me_int pa_nil))) (pa_cons (pe_tup (pa_cons (mv 0) (pa_cons (mv 1) pa_nil))) (pa_cons (pe_tup (pa_cons (mv 1) (pa_cons (me_str [46] (by rfl)) pa_nil))) (pa_cons (pe_tup (pa_cons (me_str [46] (by rfl)) (pa_cons (mv 1) pa_nil))) (pa_cons (pe_tup (pa_cons (mv 1) (pa_cons (mv 0) pa_nil))) (pa_cons (pe_tup (pa_cons (mv 1) (pa_cons (mv 1) pa_nil))) pa_nil)))))))) (mg_tup rfl (mgs_cons (pg_name (i := 3) nd rfl (by first | exact Or.inl rfl | exact Or.inr rfl)) (mgs_cons (pg_name (i := 4) nd rfl (by first | exact Or.inl rfl | exact Or.inr rfl)) mgs_nil))) (pss_one (ps_if (pt_not (mt_val (me_callG C__law_no_tree (hr.mono l__law_no_tree) (by rfl) pass0 (pa_cons (mv 2) (pa_cons (mv 3) (pa_cons (mv 4) (pa_cons (mv 1) pa_nil))))))) (pss_one (ps_ret me_bl)) pss_nil))))))))
  (pss_one (ps_ret me_bl)))), pu vs H Q E h⟩
abbrev s__law_great_right : Stmt := top 32
theorem sc__law_great_right : FnScope N__law_great_right ["_law_generator_here"] (defScope s__law_great_right) := ⟨rfl, rfl, rfl, by decide +kernel, rfl, by decide +kernel, by decide +kernel⟩
theorem ok__law_great_right {k : Nat} {sp : Sp} {sp__law_random : Sp} {sp_joined : Sp} {sp_shared : Sp} {sp_hung : Sp} {sp_grown : Sp} {k__law_random : Nat} {p__law_random : List Str} {k_joined : Nat} {p_joined : List Str} {k_shared : Nat} {p_shared : List Str} {k_hung : Nat} {p_hung : List Str} {k_grown : Nat} {p_grown : List Str} (F : FunD K "_law_great_right" "_law_great_right" (defArgs s__law_great_right) (defBody s__law_great_right) (defScope s__law_great_right) [] [] f fd) (T : Tx K mg) (C__law_random : CalG P w K mg base CX0 "_law_random" k__law_random p__law_random [] sp__law_random) (C_joined : CalG P w K mg base (L2.CX P w) "joined" k_joined p_joined [] sp_joined) (C_shared : CalG P w K mg base (L2.CX P w) "shared" k_shared p_shared [] sp_shared) (C_hung : CalG P w K mg base (L2.CX P w) "hung" k_hung p_hung [] sp_hung) (C_grown : CalG P w K mg base (L2.CX P w) "grown" k_grown p_grown [] sp_grown) (l__law_random : k__law_random ≤ k) (l_joined : k_joined ≤ k) (l_shared : k_shared ≤ k) (l_hung : k_hung ≤ k) (l_grown : k_grown ≤ k)
    (len : ∀ vs H Q E, sp vs H Q E → vs.length = 1) (pu : ∀ vs H Q E, sp vs H Q E → rd__law_great_right K sp__law_random sp_joined sp_shared sp_hung sp_grown { nx := fun _ H' => Q .non H', rt := Q } (start N__law_great_right vs) H) :
    FnG P w K mg base CX0 (k + 1) f fd ["_law_generator_here"] sp :=
  okG F sc__law_great_right len fun cdv A outer s H vs Q E hr h => ⟨rd__law_great_right K sp__law_random sp_joined sp_shared sp_hung sp_grown, PSs.nox (
    have nd := sc__law_great_right.nd
    let N := N__law_great_right
    let scope := defScope s__law_great_right
    (pss_cons (ps_asg (pe_tup (pa_cons (me_str [46] (by rfl)) (pa_cons (me_str [46] (by rfl)) pa_nil))) (mg_tup rfl (mgs_cons (pg_name (i := 1) nd rfl (by first | exact Or.inl rfl | exact Or.inr rfl)) (mgs_cons (pg_name (i := 2) nd rfl (by first | exact Or.inl rfl | exact Or.inr rfl)) mgs_nil))))
  (pss_cons (ms_for PassesOwn.never rfl (pi_rng1M (by rfl) T.f_range (pe_op op_addM me_int (me_callG C__law_random (hr.mono l__law_random) (by rfl) pass0 (pa_cons (mv 0) (pa_cons me_int pa_nil))))) (pg_name (i := 3) nd rfl (by first | exact Or.inl rfl | exact Or.inr rfl)) (pss_one (ms_par (i := 1) (j := 2) rfl nd rfl rfl (by decide) rfl rfl (pa_cons (pe_op op_addM (pe_op op_addM (me_str [40] (by rfl)) (mv 1)) (me_str [46, 41] (by rfl))) (pa_cons (pe_op op_addM (pe_op op_addM (me_str [40, 46] (by rfl)) (mv 2)) (me_str [41] (by rfl))) pa_nil)) (by rfl))))
  (pss_cons (ps_set (i := 4) nd rfl (by first | exact Or.inl rfl | exact Or.inr rfl) (me_callG C_joined (hr.mono l_joined) (by rfl) passF (pa_cons (mv 1) (pa_cons (mv 2) pa_nil))))
  (pss_cons (ps_if (PW.pt (pw_or (mt_cmp (op_neM hr.units) (me_count (mv 4) (me_str [40] (by rfl))) (pe_op op_subM (pe_op op_mulM me_int (me_count (mv 1) (me_str [40] (by rfl)))) me_int) (by rfl)) (pw_or (mt_cmp (op_neM hr.units) (me_callG C_shared (hr.mono l_shared) (by rfl) passF (pa_cons (mv 4) (pa_cons (mv 1) pa_nil))) (mv 1) (by rfl)) (pw_or1 (mt_cmp (op_neM hr.units) (me_callG C_joined (hr.mono l_joined) (by rfl) passF (pa_cons (mv 4) (pa_cons (mv 2) pa_nil))) (mv 4) (by rfl)))))) (pss_one (ps_ret me_bl)) pss_nil)
  (pss_cons (ps_if (PW.pt (pw_or (mt_cmp (op_neM hr.units) (me_callG C_grown (hr.mono l_grown) (by rfl) passF (pa_cons (mv 1) (pa_cons (me_callG C_hung (hr.mono l_hung) (by rfl) passF (pa_cons (mv 4) (pa_cons (mv 1) pa_nil))) pa_nil))) (mv 4) (by rfl)) (pw_or1 (mt_cmp (op_neM hr.units) (me_callG C_hung (hr.mono l_hung) (by rfl) passF (pa_cons (mv 4) (pa_cons (me_str [46] (by rfl)) pa_nil))) (pe_lst (pa_cons (mv 4) pa_nil)) (by rfl))))) (pss_one (ps_ret me_bl)) pss_nil)
  (pss_one (ps_ret (pe_cmpR (op_eqM hr.units) (me_callG C_grown (hr.mono l_grown) (by rfl) passF (pa_cons (mv 4) (pa_cons (pe_op op_mulM (pe_lst (pa_cons (me_str [46] (by rfl)) pa_nil)) (me_count (mv 4) (me_str [46] (by rfl)))) pa_nil))) (mv 4) (by rfl)))))))))), pu vs H Q E h⟩
abbrev s_law : Stmt := top 33
theorem sc_law : FnScope N_law ["_law_script"] (defScope s_law) := ⟨rfl, rfl, rfl, by decide +kernel, rfl, by decide +kernel, by decide +kernel⟩
theorem ok_law {k : Nat} {sp : Sp} {sp__law_generator : Sp} {sp__law_tree : Sp} {sp__law_random : Sp} {sp__law_trees : Sp} {sp_grown : Sp} {sp__law_parsed : Sp} {sp__law_text : Sp} {sp__law_filled : Sp} {sp_hung : Sp} {sp__law_pair_right : Sp} {sp__law_caught : Sp} {sp__law_refused : Sp} {sp__law_great_right : Sp} {k__law_generator : Nat} {p__law_generator : List Str} {k__law_random : Nat} {p__law_random : List Str} {k__law_tree : Nat} {p__law_tree : List Str} {k__law_trees : Nat} {p__law_trees : List Str} {k_grown : Nat} {p_grown : List Str} {k__law_parsed : Nat} {p__law_parsed : List Str} {k__law_filled : Nat} {p__law_filled : List Str} {k__law_text : Nat} {p__law_text : List Str} {k_hung : Nat} {p_hung : List Str} {k__law_pair_right : Nat} {p__law_pair_right : List Str} {k__law_caught : Nat} {p__law_caught : List Str} {k__law_refused : Nat} {p__law_refused : List Str} {k__law_great_right : Nat} {p__law_great_right : List Str} (F : FunD K "law" "law" (defArgs s_law) (defBody s_law) (defScope s_law) [] [] f fd) (T : Tx K mg) (C__law_generator : CalG P w K mg base CX0 "_law_generator" k__law_generator p__law_generator [] sp__law_generator) (C__law_random : CalG P w K mg base CX0 "_law_random" k__law_random p__law_random [] sp__law_random) (C__law_tree : CalG P w K mg base CX0 "_law_tree" k__law_tree p__law_tree [] sp__law_tree) (C__law_trees : CalG P w K mg base CX0 "_law_trees" k__law_trees p__law_trees [] sp__law_trees) (C_grown : CalG P w K mg base (L2.CX P w) "grown" k_grown p_grown [] sp_grown) (C__law_parsed : CalG P w K mg base CX0 "_law_parsed" k__law_parsed p__law_parsed [] sp__law_parsed) (C__law_filled : CalG P w K mg base CX0 "_law_filled" k__law_filled p__law_filled [] sp__law_filled) (C__law_text : CalG P w K mg base CX0 "_law_text" k__law_text p__law_text [] sp__law_text) (C_hung : CalG P w K mg base (L2.CX P w) "hung" k_hung p_hung [] sp_hung) (C__law_pair_right : CalG P w K mg base CX0 "_law_pair_right" k__law_pair_right p__law_pair_right [] sp__law_pair_right) (C__law_caught : CalG P w K mg base CX0 "_law_caught" k__law_caught p__law_caught [] sp__law_caught) (C__law_refused : CalG P w K mg base CX0 "_law_refused" k__law_refused p__law_refused [] sp__law_refused) (C__law_great_right : CalG P w K mg base CX0 "_law_great_right" k__law_great_right p__law_great_right [] sp__law_great_right) (l__law_generator : k__law_generator ≤ k) (l__law_random : k__law_random ≤ k) (l__law_tree : k__law_tree ≤ k) (l__law_trees : k__law_trees ≤ k) (l_grown : k_grown ≤ k) (l__law_parsed : k__law_parsed ≤ k) (l__law_filled : k__law_filled ≤ k) (l__law_text : k__law_text ≤ k) (l_hung : k_hung ≤ k) (l__law_pair_right : k__law_pair_right ≤ k) (l__law_caught : k__law_caught ≤ k) (l__law_refused : k__law_refused ≤ k) (l__law_great_right : k__law_great_right ≤ k)
    (len : ∀ vs H Q E, sp vs H Q E → vs.length = 1) (pu : ∀ vs H Q E, sp vs H Q E → rd_law K sp__law_generator sp__law_tree sp__law_random sp__law_trees sp_grown sp__law_parsed sp__law_text sp__law_filled sp_hung sp__law_pair_right sp__law_caught sp__law_refused sp__law_great_right { nx := fun _ H' => Q .non H', rt := Q } (start N_law vs) H) :
    FnG P w K mg base CX0 (k + 1) f fd ["_law_script"] sp :=
  okG F sc_law len fun cdv A outer s H vs Q E hr h => ⟨rd_law K sp__law_generator sp__law_tree sp__law_random sp__law_trees sp_grown sp__law_parsed sp__law_text sp__law_filled sp_hung sp__law_pair_right sp__law_caught sp__law_refused sp__law_great_right, PSs.nox (
    have nd := sc_law.nd
    let N := N_law
    let scope := defScope s_law
    (pss_cons (ms_for PassesOwn.never rfl (pi_rng1M (by rfl) T.f_range me_int) (pg_name (i := 1) nd rfl (by first | exact Or.inl rfl | exact Or.inr rfl)) (pss_cons (ps_set (i := 2) nd rfl (by first | exact Or.inl rfl | exact Or.inr rfl) (me_callG C__law_generator (hr.mono l__law_generator) (by rfl) pass0 (pa_cons (mv 0) (pa_cons (mv 1) pa_nil))))
  (pss_cons (ps_set (i := 3) nd rfl (by first | exact Or.inl rfl | exact Or.inr rfl) (me_callG C__law_tree (hr.mono l__law_tree) (by rfl) pass0 (pa_cons (mv 2) (pa_cons (me_callG C__law_random (hr.mono l__law_random) (by rfl) pass0 (pa_cons (mv 2) (pa_cons me_int pa_nil))) pa_nil))))
  (pss_cons (ps_set (i := 4) nd rfl (by first | exact Or.inl rfl | exact Or.inr rfl) (me_callG C__law_trees (hr.mono l__law_trees) (by rfl) pass0 (pa_cons (mv 2) (pa_cons (me_count (mv 3) (me_str [46] (by rfl))) pa_nil))))
  (pss_cons (ps_set (i := 5) nd rfl (by first | exact Or.inl rfl | exact Or.inr rfl) (pe_callTy call_listM (by rfl) T.f_list (by decide +kernel) (pa_cons (mv 4) pa_nil)))
  (pss_cons (ps_set (i := 6) nd rfl (by first | exact Or.inl rfl | exact Or.inr rfl) (me_callG C_grown (hr.mono l_grown) (by rfl) passF (pa_cons (mv 3) (pa_cons (mv 4) pa_nil))))
  (pss_cons (ms_setLc (i := 8) (own := [("_law_one", 7)]) rfl nd rfl rfl (sw_true rfl rfl rfl (by decide +kernel)) (pi_iterM (mv 5)) (blkOk_by (own := [("_law_one", 7)]) (N := N) (sc := scope) (by decide +kernel)) (fun _ _ _ _ _ => (pg_name (i := 7) nd rfl (by first | exact Or.inl rfl | exact Or.inr rfl))) (fun _ _ _ _ _ => pts_nil) (fun _ _ _ _ _ => (me_callG C__law_parsed (hr.mono l__law_parsed) (by rfl) pass0 (pa_cons (mv 7) pa_nil))))
  (pss_cons (ps_if (PW.pt (pw_or (mt_cmp (op_neM hr.units) (mv 4) (mv 5) (by rfl)) (pw_or1 (mt_cmp (op_neM hr.units) (mv 6) (me_callG C__law_text (hr.mono l__law_text) (by rfl) pass0 (pa_cons (me_callG C__law_filled (hr.mono l__law_filled) (by rfl) pass0 (pa_cons (me_callG C__law_parsed (hr.mono l__law_parsed) (by rfl) pass0 (pa_cons (mv 3) pa_nil)) (pa_cons (mv 8) pa_nil))) pa_nil)) (by rfl))))) (pss_one (ps_ret me_bl)) pss_nil)
  (pss_cons (ps_if (mt_cmp (op_neM hr.units) (me_callG C_hung (hr.mono l_hung) (by rfl) passF (pa_cons (mv 6) (pa_cons (mv 3) pa_nil))) (mv 5) (by rfl)) (pss_one (ps_ret me_bl)) pss_nil)
  (pss_cons (ps_set (i := 9) nd rfl (by first | exact Or.inl rfl | exact Or.inr rfl) (pe_op op_addF (me_lc (own := [("_law_turn", 12)]) rfl nd (pi_rng1M (by rfl) T.f_range me_int) (blkOk_by (own := [("_law_turn", 12)]) (N := N) (sc := scope) (by decide +kernel)) (fun _ _ _ _ _ => (pg_name (i := 12) nd rfl (by first | exact Or.inl rfl | exact Or.inr rfl))) (fun _ _ _ _ _ => pts_nil) (fun _ _ _ _ _ => (me_callG C__law_tree (hr.mono l__law_tree) (by rfl) pass0 (pa_cons (mv 2) (pa_cons (me_callG C__law_random (hr.mono l__law_random) (by rfl) pass0 (pa_cons (mv 2) (pa_cons me_int pa_nil))) pa_nil))))) (pe_lst (pa_cons (mv 6) (pa_cons (mv 3) (pa_cons (me_str [46] (by rfl)) pa_nil))))))
  (pss_cons (ms_for PassesOwn.never rfl (pi_iterM (mv 9)) (pg_name (i := 7) nd rfl (by first | exact Or.inl rfl | exact Or.inr rfl)) (pss_one (ps_if (mt_cmp (op_neE hr.units) (me_lc (own := [("_law_other", 13)]) rfl nd (pi_iterM (mv 9)) (blkOk_by (own := [("_law_other", 13)]) (N := N) (sc := scope) (by decide +kernel)) (fun _ _ _ _ _ => (pg_name (i := 13) nd rfl (by first | exact Or.inl rfl | exact Or.inr rfl))) (fun _ _ _ _ _ => (pts_one (pt_not (mt_val (me_callG C__law_pair_right (hr.mono l__law_pair_right) (by rfl) pass0 (pa_cons (mv 7) (pa_cons (mv 13) pa_nil))))))) (fun _ _ _ _ _ => (mv 13))) (pe_lst pa_nil) (by rfl)) (pss_one (ps_ret me_bl)) pss_nil)))
  (pss_cons (ps_set (i := 10) nd rfl (by first | exact Or.inl rfl | exact Or.inr rfl) (pe_lst (pa_cons me_non (pa_cons (pe_callTy call_tupleM (by rfl) T.f_tuple (by decide +kernel) (pa_cons (mv 5) pa_nil)) (pa_cons (pe_op op_addF (mv 5) (pe_lst (pa_cons (me_str [46] (by rfl)) pa_nil))) (pa_cons (me_slice (mv 5) (mo_some me_int) po_none) (pa_cons (pe_op op_addF (pe_lst (pa_cons me_non pa_nil)) (me_slice (mv 5) (mo_some me_int) po_none)) (pa_cons (pe_op op_addF (me_slice (mv 5) po_none (mo_some (me_neg me_int))) (pe_lst (pa_cons (me_str [40, 46, 41] (by rfl)) pa_nil))) (pa_cons (me_str [120] (by rfl)) (pa_cons pe_dnewK pa_nil))))))))))
  (pss_cons (ps_set (i := 10) nd rfl (by first | exact Or.inl rfl | exact Or.inr rfl) (pe_op op_addF (mv 10) (pe_lst (pa_cons (pe_op op_addF (pe_lst (pa_cons (pe_lst (pa_cons (me_str [46] (by rfl)) pa_nil)) pa_nil)) (me_slice (mv 5) (mo_some me_int) po_none)) (pa_cons (pe_op op_addF (me_slice (mv 5) po_none (mo_some (me_neg me_int))) (pe_lst (pa_cons pe_dnewK pa_nil))) (pa_cons (pe_op op_addF (me_slice (mv 5) po_none (mo_some (me_neg me_int))) (pe_lst (pa_cons (pe_tup (pa_cons (me_str [46] (by rfl)) pa_nil)) pa_nil))) (pa_cons (pe_op op_addF (me_slice (mv 5) po_none (mo_some (me_neg me_int))) (pe_lst (pa_cons me_bl pa_nil))) pa_nil)))))))
  (pss_cons (ps_if (mt_cmp op_gtM (pe_callB call_lenM (by rfl) T.f_len (by decide +kernel) (pa_cons (mv 5) pa_nil)) me_int (by rfl)) (pss_cons (ps_set (i := 11) nd rfl (by first | exact Or.inl rfl | exact Or.inr rfl) (pe_op op_addF (me_ix (mv 5) me_int (fun _ _ => rfl)) (me_ix (mv 5) me_int (fun _ _ => rfl))))
  (pss_cons (ps_set (i := 10) nd rfl (by first | exact Or.inl rfl | exact Or.inr rfl) (pe_op op_addF (mv 10) (pe_lst (pa_cons (pe_op op_addF (pe_lst (pa_cons (me_str [] (by rfl)) (pa_cons (me_str [] (by rfl)) pa_nil))) (me_slice (mv 5) (mo_some me_int) po_none)) (pa_cons (pe_op op_addF (pe_lst (pa_cons (me_str [] (by rfl)) (pa_cons (mv 11) pa_nil))) (me_slice (mv 5) (mo_some me_int) po_none)) (pa_cons (pe_op op_addF (pe_lst (pa_cons (mv 11) (pa_cons (me_str [] (by rfl)) pa_nil))) (me_slice (mv 5) (mo_some me_int) po_none)) pa_nil))))))
  (pss_one (ps_expr (me_append (mv 10) (pe_op op_addF (me_slice (mv 5) po_none (mo_some (me_neg me_int))) (pe_lst (pa_cons (me_slice (me_ix (mv 5) (me_neg me_int) (fun _ _ => rfl)) po_none (mo_some (me_neg me_int))) (pa_cons (pe_op op_addF (me_slice (me_ix (mv 5) (me_neg me_int) (fun _ _ => rfl)) (mo_some (me_neg me_int)) po_none) (me_ix (mv 5) (me_neg me_int) (fun _ _ => rfl))) pa_nil))))))))) pss_nil)
  (pss_cons (ps_if (mt_cmp (op_neE hr.units) (me_lc (own := [("_law_bad", 14)]) rfl nd (pi_iterM (mv 10)) (blkOk_by (own := [("_law_bad", 14)]) (N := N) (sc := scope) (by decide +kernel)) (fun _ _ _ _ _ => (pg_name (i := 14) nd rfl (by first | exact Or.inl rfl | exact Or.inr rfl))) (fun _ _ _ _ _ => (pts_one (pt_not (mt_val (me_callG C__law_caught (hr.mono l__law_caught) (by rfl) pass0 (pa_cons (mv 3) (pa_cons (mv 14) pa_nil))))))) (fun _ _ _ _ _ => (mv 14))) (pe_lst pa_nil) (by rfl)) (pss_one (ps_ret me_bl)) pss_nil)
  (pss_one (ps_if (pt_not (mt_val (me_callG C__law_refused (hr.mono l__law_refused) (by rfl) pass0 (pa_cons (mv 3) pa_nil)))) (pss_one (ps_ret me_bl)) pss_nil)))))))))))))))))
  (pss_one (ps_ret (me_callG C__law_great_right (hr.mono l__law_great_right) (by rfl) pass0 (pa_cons (me_callG C__law_generator (hr.mono l__law_generator) (by rfl) pass0 (pa_cons (mv 0) (pa_cons me_int pa_nil))) pa_nil)))))), pu vs H Q E h⟩
end
end Pf
namespace Pf
open PySem PySem.Spec PyProof.Rows L2 M
local macro_rules | `(tactic| walk_at "go") => `(tactic| try simp only [tSeq, tIfS, tIf, tNot, mTest, tCB, tCons, tNil, mVar, M.gt, mC, Bool.not_true, Bool.not_false, Bool.false_eq_true, if_false, if_true, tNext, tAsg, gName, gSub, List.set_cons_zero, List.set_cons_succ, mFor, mIter, mRevS, S_cps, S_len, S_app, tOp, tSl, mPart, mUn, tNoPart, tRet, tRetN, tTup, tLst, tAnd, tOr, mAndV, mOrV, mNotV, tCall, tCallSD, tDrop, mPar, mPar3, mLstM, mStrM, mBits, mRng1, mRng2, mgTup, mgSeq, mgCons, mgNil, q_add1, q_add2, q_add3, q_add4, q_iadd1, q_iadd2, q_iadd3, q_sorted, q_sub, q_mul1, q_mul2, q_mul3, q_mod, q_div, q_pow, q_eq1, q_eq2, q_eq3, q_eq4, q_eq5, q_eq6, q_eq7, q_eq8, q_eq9, q_eq10, q_ne1, q_ne2, q_ne3, q_ne9, q_ne10, q_lt, q_le, q_gt, q_ge, q_inc1, q_ix1, q_ix2, q_sl1, q_sl2, q_set, q_len1, q_len2, q_int1, q_int2, q_max, q_min, q_abs, q_sum, q_list, q_isi1, q_is1, q_not1, q_isN1, q_isN2, q_isN3, q_isN4, q_join, q_count, q_split, q_app, q_pop, q_clear, q_isiE, q_repr, wipe, List.map_cons, List.map_nil, List.length_cons, List.length_nil, List.length_append, List.length_map, List.nil_append, List.cons_append, List.append_nil, cut_m3, cut_t3, cut_m1, cut_t1, cut_t2, S_eq, decide_eq_true_eq, Bool.not_eq_true', decide_eq_false_iff_not, ne_eq])
def sp__law_cell (K : PySem.W.Frag) : Sp := fun vs H Q _ => ∃ (a : Addr) (ns : List Int) (i : Nat), vs = [.ref a, .int i] ∧ SqL K H a (ns.map V.int) ∧ ∀ r : Int, Q (.int r) H
theorem pu__law_cell (K : PySem.W.Frag) (vs : List V) (H : Hp) (Q : VK) (E : XK) (h : sp__law_cell K vs H Q E) : rd__law_cell K { nx := fun _ H' => Q .non H', rt := Q } (L2.start N__law_cell vs) H := by
  obtain ⟨a, ns, i, rfl, hL, k⟩ := h
  show rd__law_cell K _ [some _, some _] H
  unfold rd__law_cell
  walk_at "go"
  refine ⟨_, .inl hL, ?_⟩
  by_cases c : (i : Int) < ((ns.map V.int).length : Int)
  · rw [if_pos c]
    have hc : i < ns.length := by simpa using c
    refine ⟨_, .int ns[i], .inl hL, ?_, k _⟩
    rw [aI_nat]; simp [hc]
  · rw [if_neg c]; exact k 0
def sp__law_hash : Sp := fun vs H Q _ => ∃ i j : Int, vs = [.int i, .int j] ∧ 0 ≤ i ∧ i < 2 ^ 40 ∧ 0 ≤ j ∧ j < 2 ^ 200 ∧ ∀ r : Int, 0 ≤ r → r < 2147483587 → Q (.int r) H
theorem pu__law_hash (K : PySem.W.Frag) (vs : List V) (H : Hp) (Q : VK) (E : XK) (h : sp__law_hash vs H Q E) : rd__law_hash K { nx := fun _ H' => Q .non H', rt := Q } (L2.start N__law_hash vs) H := by
  obtain ⟨i, j, rfl, h1, h2, h3, h4, k⟩ := h
  show rd__law_hash K _ [some _, some _, none] H
  unfold rd__law_hash
  walk_at "go"
  have m1 : ∀ x : Int, 0 ≤ x % 2147483647 ∧ x % 2147483647 < 2 ^ 31 := fun x => ⟨Int.emod_nonneg _ (by decide), Int.lt_of_lt_of_le (Int.emod_lt_of_pos _ (by decide)) (by decide)⟩
  have m2 : ∀ x : Int, 0 ≤ x % 2147483629 ∧ x % 2147483629 < 2 ^ 31 := fun x => ⟨Int.emod_nonneg _ (by decide), Int.lt_of_lt_of_le (Int.emod_lt_of_pos _ (by decide)) (by decide)⟩
  refine ⟨mulOk 40 31 h1 h2 (by decide) (by decide), mulOk 20 200 (by decide) (by decide) h3 h4, ?_, by decide, mulOk 31 31 (m1 _).1 (m1 _).2 (m1 _).1 (m1 _).2, by decide, mulOk 31 31 (m2 _).1 (m2 _).2 (by decide) (by decide), by decide, k _ (Int.emod_nonneg _ (by decide)) (Int.emod_lt_of_pos _ (by decide))⟩
  refine mulOk 220 200 (Int.mul_nonneg (by decide) h3) ?_ h3 h4
  calc 7919 * j ≤ 7919 * 2 ^ 200 := Int.mul_le_mul_of_nonneg_left (Int.le_of_lt h4) (by decide)
    _ < 2 ^ 220 := by decide
def sp__law_generator (K : PySem.W.Frag) : Sp := fun vs H Q _ => ∃ (a : Addr) (ns : List Int) (i : Nat), vs = [.ref a, .int i] ∧ SqL K H a (ns.map V.int) ∧ i ≤ 1000 ∧ ∀ p o, H p = none → Pu (upd H p o) p 2000000 → Q (.ref p) (upd H p o)
theorem pu__law_generator (K : PySem.W.Frag) (vs : List V) (H : Hp) (Q : VK) (E : XK) (h : sp__law_generator K vs H Q E) : rd__law_generator K (sp__law_cell K) { nx := fun _ H' => Q .non H', rt := Q } (L2.start N__law_generator vs) H := by
  obtain ⟨a, ns, i, rfl, hL, hi, k⟩ := h
  show rd__law_generator K _ _ [some _, some _, none] H
  unfold rd__law_generator
  walk_at "go"
  refine ⟨a, ns, i, rfl, hL, fun r => ?_⟩
  walk_at "go"
  refine ⟨by decide, by decide +kernel, by decide +kernel, by decide, by decide, ?_, by decide, fun p hp => k p _ hp ⟨_, _, _, upd_same, ?_⟩⟩
  · exact mulOk 20 20 (by decide) (by decide) (by omega) (by omega)
  · have e : (((10 : Int) ^ (60 : Int).toNat) ^ (10 : Int).toNat) = 10 ^ 600 := by decide +kernel
    rw [e]
    have e2 : (10 : Int) ^ 600 < 2 ^ 2000 := by decide +kernel
    refine ⟨Int.emod_nonneg _ (by decide +kernel), Int.lt_trans (Int.emod_lt_of_pos _ (by decide +kernel)) e2, Int.emod_nonneg _ (by decide), Int.lt_of_lt_of_le (Int.emod_lt_of_pos _ (by decide)) (by decide), by omega, by omega⟩
def sp__law_random : Sp := fun vs H Q _ => ∃ (g : Addr) (n : Nat) (m : Int), vs = [.ref g, .int m] ∧ 0 < m ∧ m < 2 ^ 200 ∧ n < 2 ^ 100 ∧ Pu H g n ∧ ∀ H' r, Fm [g] H H' → Pu H' g (n + 10) → 0 ≤ r → r < m → Q (.int r) H'
theorem pu__law_random (K : PySem.W.Frag) (vs : List V) (H : Hp) (Q : VK) (E : XK) (h : sp__law_random vs H Q E) : rd__law_random K sp__law_hash { nx := fun _ H' => Q .non H', rt := Q } (L2.start N__law_random vs) H := by
  obtain ⟨g, n, m, rfl, m0, m1, hn, ⟨a, b, c, hg, a0, a1, b0, b1, c0, c1⟩, k⟩ := h
  show rd__law_random K _ _ [some _, some _, none, none] H
  unfold rd__law_random
  walk_at "go"
  refine ⟨_, _, .inl (SqL.of hg), aI_0 _ _, ?_⟩
  walk_at "go"
  by_cases ca : 0 < a
  · rw [if_pos ca]
    refine ⟨_, _, .inl (SqL.of hg), aI_0 _ _, ?_⟩
    walk_at "go"
    refine ⟨m0, _, _, .inl (SqL.of hg), aI_0 _ _, ?_⟩
    walk_at "go"
    refine ⟨divOk 200 m0 m1, _, 0, hg, rfl, ?_⟩
    refine k _ _ (Fm.mut (by simp)) ⟨_, b, c, upd_same, ?_⟩ (Int.emod_nonneg _ (by omega)) (Int.emod_lt_of_pos _ m0)
    refine ⟨Int.ediv_nonneg a0 (by omega), Int.lt_of_le_of_lt (Int.ediv_le_self _ a0) a1, b0, b1, c0, by omega⟩
  · rw [if_neg ca]
    walk_at "go"
    have hb := bits_le (Int.le_of_lt m0) m1
    have hd : ((Builtin.Int.intBits m : Int) / 30) ≤ 6 := by omega
    have hd0 : 0 ≤ ((Builtin.Int.intBits m : Int) / 30) := by omega
    refine ⟨divOk 10 (by decide) (by decide), ⟨by omega, by omega⟩, ?_⟩
    refine (?lp : ∀ (r : List V) (w : Int) (v : Option V) (j : Nat) (c : Int) (H1 : Hp), Fm [g] H H1 → H1 g = some (.lst [.int a, .int b, .int c]) → 0 ≤ c → c < n + j → 0 ≤ w → w < 2 ^ (40 * j + 1) → r.length + j ≤ 7 → fV _ _ _ _ r [some _, some _, some (.int w), v] H1) _ 0 none 0 c H (Fm.refl _ _) hg c0 (by omega) (by decide) (by decide) (by simp [upto]; omega)
    intro r
    induction r with
    | nil =>
      intro w v j c H1 e h1 c0 c1 w0 w1 hl
      simp only [fV]
      walk_at "go"
      refine ⟨trivial, m0, k _ _ e ⟨a, b, c, h1, a0, a1, b0, b1, c0, ?_⟩ (Int.emod_nonneg _ (by omega)) (Int.emod_lt_of_pos _ m0)⟩
      simp only [List.length_nil] at hl; omega
    | cons x r ih =>
      intro w v j c H1 e h1 c0 c1 w0 w1 hl
      simp only [fV]
      walk_at "go"
      refine ⟨trivial, _, _, .inl (SqL.of h1), aI_2 _ _ _ _, ?_⟩
      walk_at "go"
      refine ⟨_, 2, h1, rfl, ?_⟩
      simp only [List.set_cons_zero, List.set_cons_succ]
      refine ⟨?_, _, _, .inl (SqL.of upd_same), aI_1 _ _ _, _, _, .inl (SqL.of upd_same), aI_2 _ _ _ _, ?_⟩
      · refine mulOk 400 40 w0 (Int.lt_of_lt_of_le w1 ?_) (by decide) (by decide)
        exact_mod_cast Nat.pow_le_pow_right (by decide) (by simp only [List.length_cons] at hl; omega)
      · refine ⟨b, c + 1, rfl, b0, Int.lt_of_lt_of_le b1 (by decide), by omega, ?_, fun z z0 z1 => ?_⟩
        · have : (n : Int) < 2 ^ 100 := by exact_mod_cast hn
          simp only [List.length_cons] at hl
          calc c + 1 ≤ (2 : Int) ^ 100 + 8 := by omega
            _ < 2 ^ 200 := by decide
        · walk_at "go"
          refine ih _ _ (j + 1) (c + 1) _ (e.trans (Fm.mut (by simp))) upd_same (by omega) (by omega) ?_ ?_ (by simp only [List.length_cons] at hl; omega)
          · exact Int.add_nonneg (Int.mul_nonneg w0 (by decide)) z0
          · have e1 : (2 : Int) ^ (40 * (j + 1) + 1) = 2 ^ (40 * j + 1) * 2 ^ 40 := by
              rw [show 40 * (j + 1) + 1 = (40 * j + 1) + 40 by omega, Int.pow_add]
            have w2 : w + 1 ≤ 2 ^ (40 * j + 1) := w1
            calc w * 2147483587 + z < w * 2147483587 + 2147483587 := by omega
              _ = (w + 1) * 2147483587 := by rw [Int.add_mul]; omega
              _ ≤ 2 ^ (40 * j + 1) * 2147483587 := Int.mul_le_mul_of_nonneg_right w2 (by decide)
              _ ≤ 2 ^ (40 * j + 1) * 2 ^ 40 := Int.mul_le_mul_of_nonneg_left (by decide) (by omega)
              _ = _ := e1.symm
end Pf

namespace Pf
open PySem PySem.Spec PyProof.Rows L2 M
local macro_rules | `(tactic| walk_at "go") => `(tactic| try simp only [tSeq, tIfS, tIf, tNot, mTest, tCB, tCons, tNil, mVar, M.gt, mC, Bool.not_true, Bool.not_false, Bool.false_eq_true, if_false, if_true, tNext, tAsg, gName, gSub, List.set_cons_zero, List.set_cons_succ, mFor, mIter, mRevS, S_cps, S_len, S_app, tOp, tSl, mPart, mUn, tNoPart, tRet, tRetN, tTup, tLst, tAnd, tOr, mAndV, mOrV, mNotV, tCall, tCallSD, tDrop, mPar, mPar3, mLstM, mStrM, mBits, mRng1, mRng2, mgTup, mgSeq, mgCons, mgNil, q_add1, q_add2, q_add3, q_add4, q_iadd1, q_iadd2, q_iadd3, q_sorted, q_sub, q_mul1, q_mul2, q_mul3, q_mod, q_div, q_pow, q_eq1, q_eq2, q_eq3, q_eq4, q_eq5, q_eq6, q_eq7, q_eq8, q_eq9, q_eq10, q_ne1, q_ne2, q_ne3, q_ne9, q_ne10, q_lt, q_le, q_gt, q_ge, q_inc1, q_ix1, q_ix2, q_sl1, q_sl2, q_set, q_len1, q_len2, q_int1, q_int2, q_max, q_min, q_abs, q_sum, q_list, q_isi1, q_is1, q_not1, q_isN1, q_isN2, q_isN3, q_isN4, q_join, q_count, q_split, q_app, q_pop, q_clear, q_isiE, q_repr, wipe, List.map_cons, List.map_nil, List.length_cons, List.length_nil, List.length_append, List.length_map, List.nil_append, List.cons_append, List.append_nil, cut_m3, cut_t3, cut_m1, cut_t1, cut_t2, S_eq, decide_eq_true_eq, Bool.not_eq_true', decide_eq_false_iff_not, ne_eq])
def sp__law_tree (N : Nat) : Sp := fun vs H Q _ => ∃ (g : Addr) (n m : Nat), vs = [.ref g, .int m] ∧ m < N ∧ m ≤ 2000 ∧ n + 20 * m < 2 ^ 90 ∧ Pu H g n ∧ ∀ H' (t : Tr), t.n = m → Fm [g] H H' → Pu H' g (n + 20 * m) → Q (.str (S t.s)) H'
theorem pu__law_tree (K : PySem.W.Frag) (N : Nat) (vs : List V) (H : Hp) (Q : VK) (E : XK) (h : sp__law_tree (N + 1) vs H Q E) : rd__law_tree K sp__law_random (sp__law_tree N) { nx := fun _ H' => Q .non H', rt := Q } (L2.start N__law_tree vs) H := by
  obtain ⟨g, n, m, rfl, mN, mm, hn, hp, k⟩ := h
  show rd__law_tree K _ _ _ [some _, some _, none] H
  unfold rd__law_tree
  walk_at "go"
  by_cases c : (m : Int) = 0
  · rw [if_pos c]
    walk_at "go"
    exact k H .lf (by show 0 = m; omega) (Fm.refl _ _) (hp.mono (by omega))
  · rw [if_neg c]
    walk_at "go"
    refine ⟨g, n, (m : Int), rfl, by omega, ?_, by omega, hp, fun H1 r e1 p1 r0 r1 => ?_⟩
    · have : (m : Int) ≤ 2000 := by exact_mod_cast mm
      exact Int.lt_of_le_of_lt this (by decide)
    walk_at "go"
    refine ⟨divOk 10 (by decide) (by decide), ?_⟩
    refine ⟨by rw [szl]; omega, fun p hp1 => ⟨g, n + 10, 4, rfl, by decide, by decide, by omega, p1.fm (Ex.new hp1), fun H2 j e2 p2 j0 j1 => ?_⟩⟩
    have hgp : p ≠ g := fun z => by
      obtain ⟨_, _, _, z1, _⟩ := p1
      rw [z, z1] at hp1; cases hp1
    have h2 := e2 p _ (by simpa using hgp) (upd_same (H := H1))
    have e3 : Fm [g] H H2 := e1.trans ((Fm.new hp1).trans e2)
    obtain ⟨j, rfl⟩ := Int.eq_ofNat_of_zero_le j0
    have hj : j < 4 := by omega
    obtain ⟨q, hq, hqm⟩ : ∃ q : Nat, atI [V.int 0, V.int ((m : Int) - 1), V.int r, V.int ((m : Int) / 2)] (j : Int) = some (.int q) ∧ q < m := by
      rcases j with _ | _ | _ | _ | j
      · exact ⟨0, rfl, by omega⟩
      · exact ⟨m - 1, by rw [aI_nat]; show some (V.int _) = _; congr 2; omega, by omega⟩
      · exact ⟨r.toNat, by rw [aI_nat]; show some (V.int _) = _; congr 2; omega, by omega⟩
      · exact ⟨m / 2, by rw [aI_nat]; show some (V.int _) = _; congr 2, by omega⟩
      · omega
    walk_at "go"
    refine ⟨_, _, .inl (SqL.of h2), hq, ?_⟩
    refine ⟨g, n + 10 + 10, q, rfl, by omega, by omega, by omega, p2, fun H3 t1 ht1 e4 p3 => ?_⟩
    walk_at "go"
    have hs1 := t1.s_len
    refine ⟨by rw [szl]; omega, ?_⟩
    refine ⟨g, n + 10 + 10 + 20 * q, m - 1 - q, by congr 3; omega, by omega, by omega, by omega, p3, fun H4 t2 ht2 e5 p4 => ?_⟩
    have hs2 := t2.s_len
    walk_at "go"
    refine ⟨by rw [szl]; omega, by rw [szl]; omega, ?_⟩
    have := k H4 (.nd t1 t2) (by show t1.n + t2.n + 1 = m; omega) (e3.trans (e4.trans e5)) (p4.mono (by omega))
    simpa only [Tr.s, List.append_assoc, List.cons_append, List.nil_append] using this
end Pf

namespace Pf
open PySem PySem.Spec PyProof.Rows L2 M
local macro_rules | `(tactic| walk_at "go") => `(tactic| try simp only [tSeq, tIfS, tIf, tNot, mTest, tCB, tCons, tNil, mVar, M.gt, mC, Bool.not_true, Bool.not_false, Bool.false_eq_true, if_false, if_true, tNext, tAsg, gName, gSub, List.set_cons_zero, List.set_cons_succ, mFor, mIter, mRevS, S_cps, S_len, S_app, tOp, tSl, mPart, mUn, tNoPart, tRet, tRetN, tTup, tLst, tAnd, tOr, mAndV, mOrV, mNotV, tCall, tCallSD, tDrop, mPar, mPar3, mLstM, mStrM, mBits, mRng1, mRng2, mgTup, mgSeq, mgCons, mgNil, q_add1, q_add2, q_add3, q_add4, q_iadd1, q_iadd2, q_iadd3, q_sorted, q_sub, q_mul1, q_mul2, q_mul3, q_mod, q_div, q_pow, q_eq1, q_eq2, q_eq3, q_eq4, q_eq5, q_eq6, q_eq7, q_eq8, q_eq9, q_eq10, q_ne1, q_ne2, q_ne3, q_ne9, q_ne10, q_lt, q_le, q_gt, q_ge, q_inc1, q_ix1, q_ix2, q_sl1, q_sl2, q_set, q_len1, q_len2, q_int1, q_int2, q_max, q_min, q_abs, q_sum, q_list, q_isi1, q_is1, q_not1, q_isN1, q_isN2, q_isN3, q_isN4, q_join, q_count, q_split, q_app, q_pop, q_clear, q_isiE, q_repr, wipe, List.map_cons, List.map_nil, List.length_cons, List.length_nil, List.length_append, List.length_map, List.nil_append, List.cons_append, List.append_nil, cut_m3, cut_t3, cut_m1, cut_t1, cut_t2, S_eq, decide_eq_true_eq, Bool.not_eq_true', decide_eq_false_iff_not, ne_eq])
theorem take_two {α : Type} (L : List α) (a b : α) : (L ++ [a, b]).take ((L ++ [a, b]).length - 2) = L := by simp
theorem lp__law_parsed (K : PySem.W.Frag) (D : Ends) (H : Hp) (x : Option V) : ∀ (t : Tr) (rest : List V) (p : Addr) (H1 : Hp) (L : List V) (v2 : Option V), Ex H H1 → H p = none → H1 p = some (.lst L) → L.length + t.n + 10 ≤ 1000000 →
    (∀ p' H2 v v2', Ex H H2 → H p' = none → Nl H1 H2 → H2 p' = some (.lst (L ++ [v])) → Nst K H2 v t → fV (fun _ => True) (gName 2) (rd__law_parsed_b1 K) D rest [x, some (.ref p'), v2'] H2) →
    fV (fun _ => True) (gName 2) (rd__law_parsed_b1 K) D (t.s.map (fun c => V.str (S [c])) ++ rest) [x, some (.ref p), v2] H1 := by
  intro t
  induction t with
  | lf =>
    intro rest p H1 L v2 e n h hl k
    simp only [Tr.s, List.map_cons, List.map_nil, List.cons_append, List.nil_append, fV]
    walk_at "go"
    refine ⟨trivial, ?_⟩
    rw [if_neg (by decide)]
    walk_at "go"
    refine ⟨⟨_, h⟩, by rw [szl]; omega, fun q hq => ?_⟩
    have hpq : p ≠ q := ne_of_none h hq
    refine ⟨_, (by rw [upd_ne hpq]; exact h), by rw [szl]; omega, ?_⟩
    refine k p _ (.ref q) _ ((Ex.push e hq).mut n) n ?_ upd_same ?_
    · exact (Nl.new hq).trans (Nl.mut (by rw [upd_ne hpq]; exact h))
    · exact .lf (SqT.of (by rw [upd_ne (Ne.symm hpq)]; exact upd_same))
  | nd a b iha ihb =>
    intro rest p H1 L v2 e n h hl k
    simp only [Tr.n] at hl
    simp only [Tr.s, List.map_cons, List.map_append, List.map_nil, List.cons_append, List.append_assoc, List.nil_append, fV]
    walk_at "go"
    refine ⟨trivial, ?_⟩
    rw [if_neg (by decide), if_neg (by decide)]
    walk_at "go"
    refine iha _ p H1 L _ e n h (by omega) fun p1 H2 va v2' e1 n1 m1 h1 ta => ?_
    refine ihb _ p1 H2 _ _ e1 n1 h1 (by rw [List.length_append, List.length_singleton]; omega) fun p2 H3 vb v2'' e2 n2 m2 h2 tb => ?_
    rw [List.append_assoc] at h2
    have h2' : H3 p2 = some (.lst (L ++ [va, vb])) := h2
    simp only [fV]
    walk_at "go"
    refine ⟨trivial, ?_⟩
    refine ⟨_, SqL.of h2', fun q1 hq1 => ?_⟩
    rw [take_two]
    have n21 : p2 ≠ q1 := ne_of_none h2' hq1
    have h3 : upd H3 q1 (.lst L) p2 = some (.lst (L ++ [va, vb])) := by rw [upd_ne n21]; exact h2'
    walk_at "go"
    refine ⟨_, _, .inl (SqL.of h3), aI_m2 _ _ _, _, _, .inl (SqL.of h3), aI_m1' _ _ _, ?_⟩
    walk_at "go"
    refine ⟨by rw [szl]; omega, fun q2 hq2 => ?_⟩
    walk_at "go"
    refine ⟨by rw [szl]; omega, fun q3 hq3 => ?_⟩
    have n13 : q1 ≠ q3 := fun z => by rw [← z, upd_ne (fun y => by rw [← y, upd_same] at hq2; cases hq2), upd_same] at hq3; cases hq3
    have n12 : q1 ≠ q2 := fun y => by rw [← y, upd_same] at hq2; cases hq2
    walk_at "go"
    refine ⟨_, _, by rw [upd_ne n13, upd_ne n12]; exact upd_same, upd_same, by rw [szl, List.length_singleton]; omega, fun q4 hq4 => ?_⟩
    have E4 : Ex H3 (upd (upd (upd (upd H3 q1 (.lst L)) q2 (.tup [va, vb])) q3 (.lst [.ref q2])) q4 (.lst (L ++ [.ref q2]))) := (((Ex.new hq1).push hq2).push hq3).push hq4
    refine k q4 _ (.ref q2) _ (e2.trans E4) (e2.free (Ex.free (((Ex.new hq1).push hq2).push hq3) hq4)) (m1.trans (m2.trans (Nl.ex E4))) upd_same ?_
    have n24 : q2 ≠ q4 := fun z => by rw [← z, upd_ne (fun y => by rw [← y, upd_same] at hq3; cases hq3), upd_same] at hq4; cases hq4
    have n23 : q2 ≠ q3 := fun y => by rw [← y, upd_same] at hq3; cases hq3
    refine .nd (SqT.of (by rw [upd_ne n24, upd_ne n23]; exact upd_same)) ((ta.nl m2).ex E4) (tb.ex E4)
def sp__law_parsed (K : PySem.W.Frag) : Sp := fun vs H Q _ => ∃ t : Tr, vs = [.str (S t.s)] ∧ t.n ≤ 100000 ∧ ∀ H' v, Ex H H' → Nst K H' v t → Q v H'
theorem pu__law_parsed (K : PySem.W.Frag) (vs : List V) (H : Hp) (Q : VK) (E : XK) (h : sp__law_parsed K vs H Q E) : rd__law_parsed K { nx := fun _ H' => Q .non H', rt := Q } (L2.start N__law_parsed vs) H := by
  obtain ⟨t, rfl, hn, k⟩ := h
  show rd__law_parsed K _ [some _, none, none] H
  unfold rd__law_parsed
  walk_at "go"
  refine ⟨by rw [szl]; omega, fun p0 hp0 => ?_⟩
  rw [show t.s.map (fun c => V.str (S [c])) = t.s.map (fun c => V.str (S [c])) ++ [] by simp]
  refine lp__law_parsed K _ H _ t [] p0 _ [] none (Ex.new hp0) hp0 upd_same (by simp; omega) fun p' H2 v v2' e n m h2 ht => ?_
  simp only [fV]
  walk_at "go"
  exact ⟨trivial, _, _, .inl (SqL.of h2), rfl, k _ _ e ht⟩
end Pf

namespace Pf
open PySem PySem.Spec PyProof.Rows L2 M
local macro_rules | `(tactic| walk_at "go") => `(tactic| try simp only [tSeq, tIfS, tIf, tNot, mTest, tCB, tCons, tNil, mVar, M.gt, mC, Bool.not_true, Bool.not_false, Bool.false_eq_true, if_false, if_true, tNext, tAsg, gName, gSub, List.set_cons_zero, List.set_cons_succ, mFor, mIter, mRevS, S_cps, S_len, S_app, tOp, tSl, mPart, mUn, tNoPart, tRet, tRetN, tTup, tLst, tAnd, tOr, mAndV, mOrV, mNotV, tCall, tCallSD, tDrop, mPar, mPar3, mLstM, mStrM, mBits, mRng1, mRng2, mgTup, mgSeq, mgCons, mgNil, q_add1, q_add2, q_add3, q_add4, q_iadd1, q_iadd2, q_iadd3, q_sorted, q_sub, q_mul1, q_mul2, q_mul3, q_mod, q_div, q_pow, q_eq1, q_eq2, q_eq3, q_eq4, q_eq5, q_eq6, q_eq7, q_eq8, q_eq9, q_eq10, q_ne1, q_ne2, q_ne3, q_ne9, q_ne10, q_lt, q_le, q_gt, q_ge, q_inc1, q_ix1, q_ix2, q_sl1, q_sl2, q_set, q_len1, q_len2, q_int1, q_int2, q_max, q_min, q_abs, q_sum, q_list, q_isi1, q_is1, q_not1, q_isN1, q_isN2, q_isN3, q_isN4, q_join, q_count, q_split, q_app, q_pop, q_clear, q_isiE, q_repr, wipe, List.map_cons, List.map_nil, List.length_cons, List.length_nil, List.length_append, List.length_map, List.nil_append, List.cons_append, List.append_nil, cut_m3, cut_t3, cut_m1, cut_t1, cut_t2, S_eq, decide_eq_true_eq, Bool.not_eq_true', decide_eq_false_iff_not, ne_eq])
/-- a value that is no text -/
inductive Oth (K : PySem.W.Frag) (H : Hp) : V → Prop
  | non : Oth K H .non
  | int (i : Int) : Oth K H (.int i)
  | bl (b : Bool) : Oth K H (.bl b)
  | lst {a : Addr} {xs : List V} : SqL K H a xs → Oth K H (.ref a)
  | tup {a : Addr} {xs : List V} : SqT K H a xs → Oth K H (.ref a)
  | dct {a : Addr} {kvs : List (Key × V)} : H a = some (.dK kvs) → Oth K H (.ref a)
theorem Oth.ex {K : PySem.W.Frag} {H H' : Hp} (e : Ex H H') {v : V} (h : Oth K H v) : Oth K H' v := by
  cases h with
  | non => exact .non
  | int i => exact .int i
  | bl b => exact .bl b
  | lst h => exact .lst (e.L h)
  | tup h => exact .tup (e.T h)
  | dct h => exact .dct (e _ _ h)
theorem Oth.isi {K : PySem.W.Frag} {H : Hp} {v : V} {Q : VK} (h : Oth K H v) (q : Q (.bl false) H) : mIsi K [v, .ty "str"] H Q := by
  cases h with
  | non => unfold mIsi; simp only [tyN, kb16]; exact q
  | int i => unfold mIsi; simp only [tyN, kb6]; exact q
  | bl b => unfold mIsi; simp only [tyN, kb11]; exact q
  | lst h => exact ⟨_, _, tyX_list h, ki_list.1, q⟩
  | tup h => exact ⟨_, _, tyX_tup h, ki_tup.1, q⟩
  | dct h => exact ⟨_, _, .base (.dK h), ki_dict.1, q⟩
def TV (K : PySem.W.Frag) (H : Hp) (v : V) (b : Bool) : Prop := (∃ z, v = .str (S z) ∧ z.length ≤ 1000000 ∧ b = isTr z) ∨ (Oth K H v ∧ b = false)
theorem TV.ex {K : PySem.W.Frag} {H H' : Hp} (e : Ex H H') {v : V} {b : Bool} (h : TV K H v b) : TV K H' v b := h.imp id fun ⟨h1, h2⟩ => ⟨h1.ex e, h2⟩
def sp_is_tree (K : PySem.W.Frag) : Sp := fun vs H Q _ => ∃ v b, vs = [v] ∧ TV K H v b ∧ ∀ H', Ex H H' → Q (.bl b) H'
theorem pu_is_tree (K : PySem.W.Frag) (vs : List V) (H : Hp) (Q : VK) (E : XK) (h : sp_is_tree K vs H Q E) : rd_is_tree K { nx := fun _ H' => Q .non H', rt := Q } (L2.start N_is_tree vs) H := by
  obtain ⟨v, b, rfl, ⟨z, rfl, hz, rfl⟩ | ⟨ho, rfl⟩, k⟩ := h
  · show rd_is_tree K _ [some _, none, none] H
    unfold rd_is_tree
    walk_at "go"
    refine (?lp : ∀ (r w : List Nat) (v : Option V) (H1 : Hp), Ex H H1 → (isTr z = true ↔ itRun w r = some [46]) → w.length + r.length ≤ z.length → fV _ _ _ _ (List.map (fun c => V.str (S [c])) r) [some (V.str (S z)), some (V.str (S w)), v] H1) z [] none H (Ex.refl H) (by unfold isTr; exact decide_eq_true_iff) (by simp)
    intro r
    induction r with
    | nil =>
      intro w v H1 e hi hl
      simp only [List.map_nil, fV]
      walk_at "go"
      refine ⟨trivial, ?_⟩
      have e2 : isTr z = decide (w = [46]) := by
        rw [Bool.eq_iff_iff, hi, decide_eq_true_iff]
        simp [itRun]
      have := k H1 e
      rw [e2] at this
      exact this
    | cons c r ih =>
      intro w v H1 e hi hl
      simp only [List.length_cons] at hl
      simp only [List.map_cons, fV]
      walk_at "go"
      simp only [itRun] at hi
      refine ⟨trivial, ?_⟩
      by_cases c1 : [c] = [41]
      · rw [if_pos c1]
        simp only [List.cons.injEq, and_true] at c1
        subst c1
        refine ⟨by rw [szl]; omega, ?_⟩
        by_cases c2 : w.drop (w.length - 3) = [40, 46, 46]
        · have e1 : itStep w 41 = some (w.take (w.length - 3) ++ [46]) := by unfold itStep; rw [if_pos rfl, if_pos c2]
          rw [e1, Option.bind_some] at hi
          rw [if_neg (by simpa using c2)]
          walk_at "go"
          refine ⟨by rw [szl]; omega, by rw [szl, List.length_take]; omega, ?_⟩
          exact ih _ _ _ e hi (by rw [List.length_append, List.length_take, List.length_singleton]; omega)
        · have e1 : itStep w 41 = none := by unfold itStep; rw [if_pos rfl, if_neg c2]
          rw [e1] at hi
          rw [if_pos (by simpa using c2)]
          walk_at "go"
          have e2 : isTr z = false := by rw [Bool.eq_false_iff, Ne, hi]; simp
          have := k H1 e
          rw [e2] at this
          exact this
      · rw [if_neg c1]
        simp only [List.cons.injEq, and_true] at c1
        walk_at "go"
        unfold mInTT
        walk_at "go"
        refine ⟨rfl, rfl, by rw [szl]; omega, fun p hp => ?_⟩
        by_cases c2 : c = 40 ∨ c = 46
        · have e1 : itStep w c = some (w ++ [c]) := by unfold itStep; rw [if_neg c1, if_pos c2]
          rw [e1, Option.bind_some] at hi
          have e2 : inV (.str (S [c])) [.str (S [40]), .str (S [46])] = true := by
            simp only [inV_cons, inV_nil, eqV_SS, Bool.or_false, Bool.or_eq_true, decide_eq_true_eq, List.cons.injEq, and_true]
            rcases c2 with rfl | rfl <;> simp
          rw [e2]
          walk_at "go"
          refine ⟨by rw [szl]; omega, ?_⟩
          exact ih _ _ _ (e.push hp) hi (by rw [List.length_append, List.length_singleton]; omega)
        · have e1 : itStep w c = none := by unfold itStep; rw [if_neg c1, if_neg c2]
          rw [e1] at hi
          have e2 : inV (.str (S [c])) [.str (S [40]), .str (S [46])] = false := by
            simp only [inV_cons, inV_nil, eqV_SS, Bool.or_false, Bool.or_eq_false_iff, decide_eq_false_iff_not, List.cons.injEq, and_true]
            exact ⟨fun z => c2 (.inl z.symm), fun z => c2 (.inr z.symm)⟩
          rw [e2]
          walk_at "go"
          have e3 : isTr z = false := by rw [Bool.eq_false_iff, Ne, hi]; simp
          rw [e3] at k
          exact k _ (e.push hp)
  · show rd_is_tree K _ [some _, none, none] H
    unfold rd_is_tree
    walk_at "go"
    refine ho.isi ?_
    walk_at "go"
    exact k H (Ex.refl H)
end Pf

namespace Pf
open PySem PySem.Spec PyProof.Rows L2 M
local macro_rules | `(tactic| walk_at "go") => `(tactic| try simp only [tSeq, tIfS, tIf, tNot, mTest, tCB, tCons, tNil, mVar, M.gt, mC, Bool.not_true, Bool.not_false, Bool.false_eq_true, if_false, if_true, tNext, tAsg, gName, gSub, List.set_cons_zero, List.set_cons_succ, mFor, mIter, mRevS, S_cps, S_len, S_app, tOp, tSl, mPart, mUn, tNoPart, tRet, tRetN, tTup, tLst, tAnd, tOr, mAndV, mOrV, mNotV, tCall, tCallSD, tDrop, mPar, mPar3, mLstM, mStrM, mBits, mRng1, mRng2, mgTup, mgSeq, mgCons, mgNil, q_add1, q_add2, q_add3, q_add4, q_iadd1, q_iadd2, q_iadd3, q_sorted, q_sub, q_mul1, q_mul2, q_mul3, q_mod, q_div, q_pow, q_eq1, q_eq2, q_eq3, q_eq4, q_eq5, q_eq6, q_eq7, q_eq8, q_eq9, q_eq10, q_ne1, q_ne2, q_ne3, q_ne9, q_ne10, q_lt, q_le, q_gt, q_ge, q_inc1, q_ix1, q_ix2, q_sl1, q_sl2, q_set, q_len1, q_len2, q_int1, q_int2, q_max, q_min, q_abs, q_sum, q_list, q_isi1, q_is1, q_not1, q_isN1, q_isN2, q_isN3, q_isN4, q_join, q_count, q_split, q_app, q_pop, q_clear, q_isiE, q_repr, wipe, List.map_cons, List.map_nil, List.length_cons, List.length_nil, List.length_append, List.length_map, List.nil_append, List.cons_append, List.append_nil, cut_m3, cut_t3, cut_m1, cut_t1, cut_t2, S_eq, decide_eq_true_eq, Bool.not_eq_true', decide_eq_false_iff_not, ne_eq])
def sp_check_tree (K : PySem.W.Frag) (a_InvalidTree : Addr) : Sp := fun vs H Q E => ∃ v b, vs = [v] ∧ TV K H v b ∧ (b = true → ∀ H', Ex H H' → Q .non H') ∧ (b = false → ∀ H' d, Ex H H' → H d = none → H' d = some (.xd [("value", v)]) → E (.ref a_InvalidTree) (some d) H')
theorem pu_check_tree (K : PySem.W.Frag) (a : Addr) (vs : List V) (H : Hp) (Q : VK) (E : XK) (h : sp_check_tree K a vs H Q E) : rd_check_tree K (sp_is_tree K) a E { nx := fun _ H' => Q .non H', rt := Q } (L2.start N_check_tree vs) H := by
  obtain ⟨v, b, rfl, tv, k1, k2⟩ := h
  show rd_check_tree K _ _ _ _ [some _] H
  unfold rd_check_tree
  walk_at "go"
  refine ⟨v, b, rfl, tv, fun H1 e => ?_⟩
  cases b with
  | true =>
    walk_at "go"
    exact k1 rfl H1 e
  | false =>
    walk_at "go"
    unfold mRaise mMk
    walk_at "go"
    exact fun d hd => k2 rfl _ d (e.push hd) (e.free hd) upd_same
end Pf

namespace Pf
open PySem PySem.Spec PyProof.Rows L2 M
local macro_rules | `(tactic| walk_at "go") => `(tactic| try simp only [tSeq, tIfS, tIf, tNot, mTest, tCB, tCons, tNil, mVar, M.gt, mC, Bool.not_true, Bool.not_false, Bool.false_eq_true, if_false, if_true, tNext, tAsg, gName, gSub, List.set_cons_zero, List.set_cons_succ, mFor, mIter, mRevS, S_cps, S_len, S_app, tOp, tSl, mPart, mUn, tNoPart, tRet, tRetN, tTup, tLst, tAnd, tOr, mAndV, mOrV, mNotV, tCall, tCallSD, tDrop, mPar, mPar3, mLstM, mStrM, mBits, mRng1, mRng2, mgTup, mgSeq, mgCons, mgNil, q_add1, q_add2, q_add3, q_add4, q_iadd1, q_iadd2, q_iadd3, q_sorted, q_sub, q_mul1, q_mul2, q_mul3, q_mod, q_div, q_pow, q_eq1, q_eq2, q_eq3, q_eq4, q_eq5, q_eq6, q_eq7, q_eq8, q_eq9, q_eq10, q_ne1, q_ne2, q_ne3, q_ne9, q_ne10, q_lt, q_le, q_gt, q_ge, q_inc1, q_ix1, q_ix2, q_sl1, q_sl2, q_set, q_len1, q_len2, q_int1, q_int2, q_max, q_min, q_abs, q_sum, q_list, q_isi1, q_is1, q_not1, q_isN1, q_isN2, q_isN3, q_isN4, q_join, q_count, q_split, q_app, q_pop, q_clear, q_isiE, q_repr, wipe, List.map_cons, List.map_nil, List.length_cons, List.length_nil, List.length_append, List.length_map, List.nil_append, List.cons_append, List.append_nil, cut_m3, cut_t3, cut_m1, cut_t1, cut_t2, S_eq, decide_eq_true_eq, Bool.not_eq_true', decide_eq_false_iff_not, ne_eq])
def sp_end_of : Sp := fun vs H Q _ => ∃ (z : List Nat) (i : Nat) (t : Tr) (rest : List Nat), vs = [.str (S z), .int i] ∧ z.drop i = t.s ++ rest ∧ z.length ≤ 1000000 ∧ Q (.int ((i + t.s.length : Nat) : Int)) H
theorem drop_get {z r : List Nat} {i c : Nat} (h : z.drop i = c :: r) : z[i]? = some c ∧ z.drop (i + 1) = r := by
  constructor
  · have := congrArg (fun l => l[0]?) h
    simpa [List.getElem?_drop] using this
  · rw [← List.drop_drop, h]; rfl
theorem lp_end_of (K : PySem.W.Frag) (D : Ends) (H : Hp) (z : List Nat) (hz : z.length ≤ 1000000) (x : Option V) : ∀ (t : Tr) (rest : List Nat) (i d n : Nat), z.drop i = t.s ++ rest → 0 < d →
    whW (mTest (mC (.bl true))) (rd_end_of_b1 K) D n [some (.str (S z)), x, some (.int ((i + t.s.length : Nat) : Int)), some (.int d)] H →
    whW (mTest (mC (.bl true))) (rd_end_of_b1 K) D (n + t.s.length) [some (.str (S z)), x, some (.int i), some (.int d)] H := by
  intro t
  induction t with
  | lf =>
    intro rest i d n hd h0 k
    obtain ⟨hg, hr⟩ := drop_get hd
    show whW _ _ _ (n + 1) _ _
    simp only [whW]
    walk_at "go"
    refine ⟨by rw [szl]; omega, 46, by rw [aI_nat]; exact hg, ?_⟩
    walk_at "go"
    rw [if_neg (by decide)]
    refine ⟨by rw [szl]; omega, 46, by rw [aI_nat]; exact hg, ?_⟩
    walk_at "go"
    rw [if_neg (by decide)]
    walk_at "go"
    rw [if_neg (by omega)]
    walk_at "go"
    exact k
  | nd a b iha ihb =>
    intro rest i d n hd h0 k
    simp only [Tr.s, List.cons_append, List.append_assoc] at hd
    obtain ⟨hg, hr⟩ := drop_get hd
    have hr2 : z.drop (i + 1 + a.s.length) = b.s ++ ([41] ++ rest) := by
      rw [← List.drop_drop, hr]; simp
    have hr3 : z.drop (i + 1 + a.s.length + b.s.length) = 41 :: rest := by
      rw [← List.drop_drop, hr2]; simp
    obtain ⟨hg3, _⟩ := drop_get hr3
    have e : n + (Tr.nd a b).s.length = (n + 1 + b.s.length + a.s.length) + 1 := by simp [Tr.s]; omega
    rw [e]
    simp only [whW]
    walk_at "go"
    refine ⟨by rw [szl]; omega, 40, by rw [aI_nat]; exact hg, ?_⟩
    walk_at "go"
    rw [if_neg (by omega)]
    walk_at "go"
    refine iha _ (i + 1) (d + 1) _ hr (by omega) ?_
    refine ihb _ (i + 1 + a.s.length) (d + 1) _ hr2 (by omega) ?_
    simp only [whW]
    walk_at "go"
    refine ⟨by rw [szl]; omega, 41, by rw [aI_nat]; exact hg3, ?_⟩
    walk_at "go"
    rw [if_neg (by decide)]
    refine ⟨by rw [szl]; omega, 41, by rw [aI_nat]; exact hg3, ?_⟩
    walk_at "go"
    rw [if_neg (by omega)]
    have e1 : ((d + 1 : Nat) : Int) - 1 = (d : Int) := by omega
    have e2 : ((i + 1 + a.s.length + b.s.length : Nat) : Int) + 1 = ((i + (Tr.nd a b).s.length : Nat) : Int) := by simp [Tr.s]; omega
    rw [e1, e2]
    exact k
theorem pu_end_of (K : PySem.W.Frag) (vs : List V) (H : Hp) (Q : VK) (E : XK) (h : sp_end_of vs H Q E) : rd_end_of K { nx := fun _ H' => Q .non H', rt := Q } (L2.start N_end_of vs) H := by
  obtain ⟨z, i, t, rest, rfl, hd, hz, k⟩ := h
  show rd_end_of K _ [some _, some _, none, none] H
  unfold rd_end_of
  walk_at "go"
  cases t with
  | lf =>
    obtain ⟨hg, hr⟩ := drop_get hd
    refine ⟨1, ?_⟩
    simp only [whW]
    walk_at "go"
    refine ⟨by rw [szl]; omega, 46, by rw [aI_nat]; exact hg, ?_⟩
    walk_at "go"
    rw [if_neg (by decide)]
    refine ⟨by rw [szl]; omega, 46, by rw [aI_nat]; exact hg, ?_⟩
    walk_at "go"
    rw [if_neg (by decide)]
    walk_at "go"
    exact k
  | nd a b =>
    simp only [Tr.s, List.cons_append, List.append_assoc] at hd
    obtain ⟨hg, hr⟩ := drop_get hd
    have hr2 : z.drop (i + 1 + a.s.length) = b.s ++ ([41] ++ rest) := by
      rw [← List.drop_drop, hr]; simp
    have hr3 : z.drop (i + 1 + a.s.length + b.s.length) = 41 :: rest := by
      rw [← List.drop_drop, hr2]; simp
    obtain ⟨hg3, _⟩ := drop_get hr3
    refine ⟨(0 + 1 + b.s.length + a.s.length) + 1, ?_⟩
    simp only [whW]
    walk_at "go"
    refine ⟨by rw [szl]; omega, 40, by rw [aI_nat]; exact hg, ?_⟩
    walk_at "go"
    rw [if_neg (by decide)]
    refine lp_end_of K _ H z hz _ a _ (i + 1) 1 _ hr (by omega) ?_
    refine lp_end_of K _ H z hz _ b _ (i + 1 + a.s.length) 1 _ hr2 (by omega) ?_
    simp only [whW]
    walk_at "go"
    refine ⟨by rw [szl]; omega, 41, by rw [aI_nat]; exact hg3, ?_⟩
    walk_at "go"
    rw [if_neg (by decide)]
    refine ⟨by rw [szl]; omega, 41, by rw [aI_nat]; exact hg3, ?_⟩
    walk_at "go"
    have e2 : ((i + 1 + a.s.length + b.s.length : Nat) : Int) + 1 = ((i + (Tr.nd a b).s.length : Nat) : Int) := by simp [Tr.s]; omega
    rw [e2]
    exact k
end Pf

namespace Pf
open PySem PySem.Spec PyProof.Rows L2 M
local macro_rules | `(tactic| walk_at "go") => `(tactic| try simp only [tSeq, tIfS, tIf, tNot, mTest, tCB, tCons, tNil, mVar, M.gt, mC, Bool.not_true, Bool.not_false, Bool.false_eq_true, if_false, if_true, tNext, tAsg, gName, gSub, List.set_cons_zero, List.set_cons_succ, mFor, mIter, mRevS, S_cps, S_len, S_app, tOp, tSl, mPart, mUn, tNoPart, tRet, tRetN, tTup, tLst, tAnd, tOr, mAndV, mOrV, mNotV, tCall, tCallSD, tDrop, mPar, mPar3, mLstM, mStrM, mBits, mRng1, mRng2, mgTup, mgSeq, mgCons, mgNil, q_add1, q_add2, q_add3, q_add4, q_iadd1, q_iadd2, q_iadd3, q_sorted, q_sub, q_mul1, q_mul2, q_mul3, q_mod, q_div, q_pow, q_eq1, q_eq2, q_eq3, q_eq4, q_eq5, q_eq6, q_eq7, q_eq8, q_eq9, q_eq10, q_ne1, q_ne2, q_ne3, q_ne9, q_ne10, q_lt, q_le, q_gt, q_ge, q_inc1, q_ix1, q_ix2, q_sl1, q_sl2, q_set, q_len1, q_len2, q_int1, q_int2, q_max, q_min, q_abs, q_sum, q_list, q_isi1, q_is1, q_not1, q_isN1, q_isN2, q_isN3, q_isN4, q_join, q_count, q_split, q_app, q_pop, q_clear, q_isiE, q_repr, wipe, List.map_cons, List.map_nil, List.length_cons, List.length_nil, List.length_append, List.length_map, List.nil_append, List.cons_append, List.append_nil, cut_m3, cut_t3, cut_m1, cut_t1, cut_t2, S_eq, decide_eq_true_eq, Bool.not_eq_true', decide_eq_false_iff_not, ne_eq])
theorem cut_at {z r m : List Nat} {i : Nat} (h : z.drop i = m ++ r) : cutL z (some (i : Int)) (some ((i + m.length : Nat) : Int)) = m := by
  rw [cut_mid, h, Nat.add_sub_cancel_left]; simp
theorem drop_app {z r m : List Nat} {i : Nat} (h : z.drop i = m ++ r) : z.drop (i + m.length) = r := by
  rw [← List.drop_drop, h]; simp
theorem drop_lt {z r m : List Nat} {i : Nat} (h : z.drop i = m ++ r) (hm : m ≠ []) : i + m.length ≤ z.length := by
  have := congrArg List.length h
  rw [List.length_drop, List.length_append] at this
  have : 0 < m.length := List.length_pos_iff.mpr hm
  omega
theorem s_ne (t : Tr) : t.s ≠ [] := by cases t <;> simp [Tr.s]
theorem lp_joined (K : PySem.W.Frag) (D : Ends) (H : Hp) (z y : List Nat) (hz : z.length ≤ 1000000) (hy : y.length ≤ 1000000) : ∀ (t u : Tr) (r1 r2 F : List Nat) (i j : Nat) (v5 : Option V), z.drop i = t.s ++ r1 → y.drop j = u.s ++ r2 → F.length ≤ i + j →
    (∀ v5', ∃ n, whW (mTest (tOp mLt (mVar 3) (tCB (mLen K) (tCons (mVar 0) tNil)))) (rd_joined_trees_b1 K sp_end_of) D n [some (.str (S z)), some (.str (S y)), some (.str (S (F ++ (Tr.join t u).s))), some (.int ((i + t.s.length : Nat) : Int)), some (.int ((j + u.s.length : Nat) : Int)), v5'] H) →
    ∃ n, whW (mTest (tOp mLt (mVar 3) (tCB (mLen K) (tCons (mVar 0) tNil)))) (rd_joined_trees_b1 K sp_end_of) D n [some (.str (S z)), some (.str (S y)), some (.str (S F)), some (.int i), some (.int j), v5] H := by
  intro t
  induction t with
  | lf =>
    intro u r1 r2 F i j v5 h1 h2 hF k
    obtain ⟨hg, _⟩ := drop_get h1
    have l1 := drop_lt h1 (s_ne _)
    have l2 := drop_lt h2 (s_ne _)
    obtain ⟨n, k⟩ := k (some (.int ((j + u.s.length : Nat) : Int)))
    refine ⟨n + 1, ?_⟩
    simp only [whW]
    walk_at "go"
    simp only [Tr.s, List.length_singleton] at l1
    refine ⟨by rw [szl]; omega, ?_⟩
    rw [if_pos (by omega)]
    refine ⟨by rw [szl]; omega, 46, by rw [aI_nat]; exact hg, ?_⟩
    walk_at "go"
    refine ⟨y, j, u, r2, rfl, h2, hy, ?_⟩
    walk_at "go"
    refine ⟨by rw [szl]; omega, ?_⟩
    rw [cut_at h2]
    refine ⟨by rw [szl]; omega, ?_⟩
    exact k
  | nd a b iha ihb =>
    intro u r1 r2 F i j v5 h1 h2 hF k
    have l1 := drop_lt h1 (s_ne _)
    have l2 := drop_lt h2 (s_ne _)
    cases u with
    | lf =>
      have h1' := h1
      simp only [Tr.s, List.cons_append, List.append_assoc] at h1'
      obtain ⟨hg, _⟩ := drop_get h1'
      obtain ⟨hg2, _⟩ := drop_get h2
      obtain ⟨n, k⟩ := k (some (.int ((i + (Tr.nd a b).s.length : Nat) : Int)))
      have ls := (Tr.nd a b).s_len
      refine ⟨n + 1, ?_⟩
      simp only [whW]
      walk_at "go"
      refine ⟨by rw [szl]; omega, ?_⟩
      rw [if_pos (by omega)]
      refine ⟨by rw [szl]; omega, 40, by rw [aI_nat]; exact hg, ?_⟩
      walk_at "go"
      rw [if_neg (by decide)]
      refine ⟨by rw [szl]; omega, 46, by rw [aI_nat]; exact hg2, ?_⟩
      walk_at "go"
      refine ⟨z, i, .nd a b, r1, rfl, h1, hz, ?_⟩
      walk_at "go"
      refine ⟨by rw [szl]; omega, ?_⟩
      rw [cut_at h1]
      refine ⟨by rw [szl]; omega, ?_⟩
      exact k
    | nd c d =>
      have h1' := h1
      have h2' := h2
      simp only [Tr.s, List.cons_append, List.append_assoc] at h1' h2'
      obtain ⟨hg, ha⟩ := drop_get h1'
      obtain ⟨hg2, hc⟩ := drop_get h2'
      have hb := drop_app ha
      have hd := drop_app hc
      have he1 := drop_app hb
      have he2 := drop_app hd
      obtain ⟨hg3, _⟩ := drop_get he1
      obtain ⟨hg4, _⟩ := drop_get he2
      have x1 : (Tr.nd a b).s.length = a.s.length + b.s.length + 2 := by simp [Tr.s]; omega
      have x2 : (Tr.nd c d).s.length = c.s.length + d.s.length + 2 := by simp [Tr.s]; omega
      have y1 := (Tr.join a c).s_len
      have y2 := (Tr.join b d).s_len
      have y3 := Tr.join_n_le a c
      have y4 := Tr.join_n_le b d
      have y5 := a.s_len
      have y6 := b.s_len
      have y7 := c.s_len
      have y8 := d.s_len
      suffices hs : ∃ n, whW (mTest (tOp mLt (mVar 3) (tCB (mLen K) (tCons (mVar 0) tNil)))) (rd_joined_trees_b1 K sp_end_of) D n [some (.str (S z)), some (.str (S y)), some (.str (S (F ++ [40]))), some (.int ((i + 1 : Nat) : Int)), some (.int ((j + 1 : Nat) : Int)), v5] H by
        obtain ⟨n, k⟩ := hs
        refine ⟨n + 1, ?_⟩
        simp only [whW]
        walk_at "go"
        refine ⟨by rw [szl]; omega, ?_⟩
        rw [if_pos (by omega)]
        refine ⟨by rw [szl]; omega, 40, by rw [aI_nat]; exact hg, ?_⟩
        walk_at "go"
        rw [if_neg (by decide)]
        refine ⟨by rw [szl]; omega, 40, by rw [aI_nat]; exact hg2, ?_⟩
        walk_at "go"
        rw [if_neg (by decide)]
        refine ⟨by rw [szl]; omega, 40, by rw [aI_nat]; exact hg, ?_⟩
        walk_at "go"
        exact ⟨by rw [szl]; omega, k⟩
      refine iha c _ _ (F ++ [40]) (i + 1) (j + 1) v5 ha hc (by rw [List.length_append, List.length_singleton]; omega) fun v6 => ?_
      refine ihb d _ _ _ (i + 1 + a.s.length) (j + 1 + c.s.length) v6 hb hd (by simp only [List.length_append, List.length_singleton]; omega) fun v7 => ?_
      obtain ⟨n, k⟩ := k v7
      refine ⟨n + 1, ?_⟩
      simp only [whW]
      walk_at "go"
      refine ⟨by rw [szl]; omega, ?_⟩
      rw [if_pos (by omega)]
      refine ⟨by rw [szl]; omega, 41, by rw [aI_nat]; exact hg3, ?_⟩
      walk_at "go"
      rw [if_neg (by decide)]
      refine ⟨by rw [szl]; omega, 41, by rw [aI_nat]; exact hg4, ?_⟩
      walk_at "go"
      rw [if_neg (by decide)]
      refine ⟨by rw [szl]; omega, 41, by rw [aI_nat]; exact hg3, ?_⟩
      walk_at "go"
      refine ⟨by rw [szl]; try simp only [List.length_append, List.length_singleton]
                 omega, ?_⟩
      have e1 : F ++ [40] ++ (Tr.join a c).s ++ (Tr.join b d).s ++ [41] = F ++ (Tr.join (.nd a b) (.nd c d)).s := by simp [Tr.join, Tr.s]
      have e2 : ((i + 1 + a.s.length + b.s.length : Nat) : Int) + 1 = ((i + (Tr.nd a b).s.length : Nat) : Int) := by omega
      have e3 : ((j + 1 + c.s.length + d.s.length : Nat) : Int) + 1 = ((j + (Tr.nd c d).s.length : Nat) : Int) := by omega
      rw [e1, e2, e3]
      exact k
def sp_joined_trees : Sp := fun vs H Q _ => ∃ t u : Tr, vs = [.str (S t.s), .str (S u.s)] ∧ t.n ≤ 100000 ∧ u.n ≤ 100000 ∧ Q (.str (S (Tr.join t u).s)) H
theorem pu_joined_trees (K : PySem.W.Frag) (vs : List V) (H : Hp) (Q : VK) (E : XK) (h : sp_joined_trees vs H Q E) : rd_joined_trees K sp_end_of { nx := fun _ H' => Q .non H', rt := Q } (L2.start N_joined_trees vs) H := by
  obtain ⟨t, u, rfl, ht, hu, k⟩ := h
  show rd_joined_trees K _ _ [some _, some _, none, none, none, none] H
  unfold rd_joined_trees
  walk_at "go"
  have l1 := t.s_len
  have l2 := u.s_len
  unfold mWhile
  refine lp_joined K _ H t.s u.s (by omega) (by omega) t u [] [] [] 0 0 none (by simp) (by simp) (by simp) fun v => ⟨1, ?_⟩
  simp only [whW]
  walk_at "go"
  refine ⟨by rw [szl]; omega, ?_⟩
  rw [if_neg (by omega)]
  exact k
theorem tv_tree (K : PySem.W.Frag) (H : Hp) (t : Tr) (h : t.n ≤ 100000) : TV K H (.str (S t.s)) true := .inl ⟨t.s, rfl, by rw [t.s_len]; omega, (isTr_s t).symm⟩
/-- what is asked of two trees: the first that is none is refused -/
def Two (K : PySem.W.Frag) (aI : Addr) (E : XK) (H : Hp) (v w : V) (k : Tr → Tr → Prop) : Prop :=
  (TV K H v false ∧ Fail E H aI v) ∨ ∃ t : Tr, v = .str (S t.s) ∧ t.n ≤ 100000 ∧ ((TV K H w false ∧ Fail E H aI w) ∨ ∃ u : Tr, w = .str (S u.s) ∧ u.n ≤ 100000 ∧ k t u)
theorem two_checks {K : PySem.W.Frag} {aI : Addr} {E : XK} {H : Hp} {v w : V} {k : Tr → Tr → Prop} {P : Hp → Prop} (h : Two K aI E H v w k) (hk : ∀ t u H', v = .str (S t.s) → w = .str (S u.s) → t.n ≤ 100000 → u.n ≤ 100000 → k t u → Ex H H' → P H') :
    sp_check_tree K aI [v] H (fun _ H1 => sp_check_tree K aI [w] H1 (fun _ H2 => P H2) E) E := by
  rcases h with ⟨tv, f⟩ | ⟨t, rfl, ht, ⟨tv, f⟩ | ⟨u, rfl, hu, kk⟩⟩
  · exact ⟨v, false, rfl, tv, fun z => (by cases z), fun _ => f⟩
  · exact ⟨_, true, rfl, tv_tree K H t ht, fun _ H1 e1 => ⟨w, false, rfl, tv.ex e1, fun z => (by cases z), fun _ => f.ex e1⟩, fun z => (by cases z)⟩
  · exact ⟨_, true, rfl, tv_tree K H t ht, fun _ H1 e1 => ⟨_, true, rfl, tv_tree K H1 u hu, fun _ H2 e2 => hk t u H2 rfl rfl ht hu kk (e1.trans e2), fun z => (by cases z)⟩, fun z => (by cases z)⟩
def sp_joined (K : PySem.W.Frag) (aI : Addr) : Sp := fun vs H Q E => ∃ v w, vs = [v, w] ∧ Two K aI E H v w fun t u => ∀ H', Ex H H' → Q (.str (S (Tr.join t u).s)) H'
theorem pu_joined (K : PySem.W.Frag) (aI : Addr) (vs : List V) (H : Hp) (Q : VK) (E : XK) (h : sp_joined K aI vs H Q E) : rd_joined K (sp_check_tree K aI) sp_joined_trees E { nx := fun _ H' => Q .non H', rt := Q } (L2.start N_joined vs) H := by
  obtain ⟨v, w, rfl, h⟩ := h
  show rd_joined K _ _ _ _ [some _, some _] H
  unfold rd_joined
  walk_at "go"
  refine two_checks h fun t u H2 ev ew ht hu k e => ?_
  subst ev ew
  walk_at "go"
  exact ⟨t, u, rfl, ht, hu, k _ e⟩
end Pf

namespace Pf
open PySem PySem.Spec PyProof.Rows L2 M
local macro_rules | `(tactic| walk_at "go") => `(tactic| try simp only [tSeq, tIfS, tIf, tNot, mTest, tCB, tCons, tNil, mVar, M.gt, mC, Bool.not_true, Bool.not_false, Bool.false_eq_true, if_false, if_true, tNext, tAsg, gName, gSub, List.set_cons_zero, List.set_cons_succ, mFor, mIter, mRevS, S_cps, S_len, S_app, tOp, tSl, mPart, mUn, tNoPart, tRet, tRetN, tTup, tLst, tAnd, tOr, mAndV, mOrV, mNotV, tCall, tCallSD, tDrop, mPar, mPar3, mLstM, mStrM, mBits, mRng1, mRng2, mgTup, mgSeq, mgCons, mgNil, q_add1, q_add2, q_add3, q_add4, q_iadd1, q_iadd2, q_iadd3, q_sorted, q_sub, q_mul1, q_mul2, q_mul3, q_mod, q_div, q_pow, q_eq1, q_eq2, q_eq3, q_eq4, q_eq5, q_eq6, q_eq7, q_eq8, q_eq9, q_eq10, q_ne1, q_ne2, q_ne3, q_ne9, q_ne10, q_lt, q_le, q_gt, q_ge, q_inc1, q_ix1, q_ix2, q_sl1, q_sl2, q_set, q_len1, q_len2, q_int1, q_int2, q_max, q_min, q_abs, q_sum, q_list, q_isi1, q_is1, q_not1, q_isN1, q_isN2, q_isN3, q_isN4, q_join, q_count, q_split, q_app, q_pop, q_clear, q_isiE, q_repr, wipe, List.map_cons, List.map_nil, List.length_cons, List.length_nil, List.length_append, List.length_map, List.nil_append, List.cons_append, List.append_nil, cut_m3, cut_t3, cut_m1, cut_t1, cut_t2, S_eq, decide_eq_true_eq, Bool.not_eq_true', decide_eq_false_iff_not, ne_eq])
theorem lp_shared (K : PySem.W.Frag) (a : Addr) (E : XK) (D : Ends) (H0 : Hp) (p : Addr) (np : H0 p = none) (z y : List Nat) (hz : z.length ≤ 1000000) (hy : y.length ≤ 1000000) : ∀ (t u : Tr) (r1 r2 F : List Nat) (i j : Nat) (H : Hp), z.drop i = t.s ++ r1 → y.drop j = u.s ++ r2 → F.length ≤ i + j → Ex H0 H → H p = some (.lst (sg F)) →
    (∀ H', Ex H0 H' → H' p = some (.lst (sg (F ++ (Tr.meet t u).s))) → ∃ n, whW (mTest (tOp mLt (mVar 3) (tCB (mLen K) (tCons (mVar 0) tNil)))) (rd_shared_b1 K (sp_check_tree K a) sp_end_of E) D n [some (.str (S z)), some (.str (S y)), some (.ref p), some (.int ((i + t.s.length : Nat) : Int)), some (.int ((j + u.s.length : Nat) : Int))] H') →
    ∃ n, whW (mTest (tOp mLt (mVar 3) (tCB (mLen K) (tCons (mVar 0) tNil)))) (rd_shared_b1 K (sp_check_tree K a) sp_end_of E) D n [some (.str (S z)), some (.str (S y)), some (.ref p), some (.int i), some (.int j)] H := by
  intro t
  induction t with
  | lf =>
    intro u r1 r2 F i j H h1 h2 hF e hp k
    obtain ⟨hg, _⟩ := drop_get h1
    have l1 := drop_lt h1 (s_ne _)
    have l2 := drop_lt h2 (s_ne _)
    obtain ⟨n, k⟩ := k (upd H p (.lst (sg (F ++ [46])))) (e.mut np) upd_same
    refine ⟨n + 1, ?_⟩
    simp only [whW]
    walk_at "go"
    simp only [Tr.s, List.length_singleton] at l1
    refine ⟨by rw [szl]; omega, ?_⟩
    rw [if_pos (by omega)]
    refine ⟨by rw [szl]; omega, 46, by rw [aI_nat]; exact hg, ?_⟩
    walk_at "go"
    refine ⟨⟨_, hp⟩, _, hp, by rw [szl, sg_len]; omega, ?_⟩
    rw [show sg F ++ [V.str (S [46])] = sg (F ++ [46]) by rw [sg_app]; rfl]
    refine ⟨z, i, .lf, r1, rfl, h1, hz, ?_⟩
    refine ⟨y, j, u, r2, rfl, h2, hy, ?_⟩
    exact k
  | nd b c ihb ihc =>
    intro u r1 r2 F i j H h1 h2 hF e hp k
    have l1 := drop_lt h1 (s_ne _)
    have l2 := drop_lt h2 (s_ne _)
    have h1' := h1
    simp only [Tr.s, List.cons_append, List.append_assoc] at h1'
    obtain ⟨hg, hb⟩ := drop_get h1'
    cases u with
    | lf =>
      obtain ⟨hg2, _⟩ := drop_get h2
      obtain ⟨n, k⟩ := k (upd H p (.lst (sg (F ++ [46])))) (e.mut np) upd_same
      have ls := (Tr.nd b c).s_len
      refine ⟨n + 1, ?_⟩
      simp only [whW]
      walk_at "go"
      refine ⟨by rw [szl]; omega, ?_⟩
      rw [if_pos (by omega)]
      refine ⟨by rw [szl]; omega, 40, by rw [aI_nat]; exact hg, ?_⟩
      walk_at "go"
      rw [if_neg (by decide)]
      refine ⟨by rw [szl]; omega, 46, by rw [aI_nat]; exact hg2, ?_⟩
      walk_at "go"
      refine ⟨⟨_, hp⟩, _, hp, by rw [szl, sg_len]; omega, ?_⟩
      rw [show sg F ++ [V.str (S [46])] = sg (F ++ [46]) by rw [sg_app]; rfl]
      refine ⟨z, i, .nd b c, r1, rfl, h1, hz, ?_⟩
      refine ⟨y, j, .lf, r2, rfl, h2, hy, ?_⟩
      exact k
    | nd d f =>
      have h2' := h2
      simp only [Tr.s, List.cons_append, List.append_assoc] at h2'
      obtain ⟨hg2, hd⟩ := drop_get h2'
      have hc := drop_app hb
      have hf := drop_app hd
      have he1 := drop_app hc
      have he2 := drop_app hf
      obtain ⟨hg3, _⟩ := drop_get he1
      obtain ⟨hg4, _⟩ := drop_get he2
      have x1 : (Tr.nd b c).s.length = b.s.length + c.s.length + 2 := by simp [Tr.s]; omega
      have x2 : (Tr.nd d f).s.length = d.s.length + f.s.length + 2 := by simp [Tr.s]; omega
      have y1 := (Tr.meet b d).s_len
      have y2 := (Tr.meet c f).s_len
      have y3 := Tr.meet_n_le b d
      have y4 := Tr.meet_n_le c f
      have y5 := b.s_len
      have y6 := c.s_len
      have y7 := d.s_len
      have y8 := f.s_len
      suffices hs : ∃ n, whW (mTest (tOp mLt (mVar 3) (tCB (mLen K) (tCons (mVar 0) tNil)))) (rd_shared_b1 K (sp_check_tree K a) sp_end_of E) D n [some (.str (S z)), some (.str (S y)), some (.ref p), some (.int ((i + 1 : Nat) : Int)), some (.int ((j + 1 : Nat) : Int))] (upd H p (.lst (sg (F ++ [40])))) by
        obtain ⟨n, k⟩ := hs
        refine ⟨n + 1, ?_⟩
        simp only [whW]
        walk_at "go"
        refine ⟨by rw [szl]; omega, ?_⟩
        rw [if_pos (by omega)]
        refine ⟨by rw [szl]; omega, 40, by rw [aI_nat]; exact hg, ?_⟩
        walk_at "go"
        rw [if_neg (by decide)]
        refine ⟨by rw [szl]; omega, 40, by rw [aI_nat]; exact hg2, ?_⟩
        walk_at "go"
        rw [if_neg (by decide)]
        refine ⟨⟨_, hp⟩, by rw [szl]; omega, 40, by rw [aI_nat]; exact hg, _, hp, by rw [szl, sg_len]; omega, ?_⟩
        rw [show sg F ++ [V.str (S [40])] = sg (F ++ [40]) by rw [sg_app]; rfl]
        exact k
      refine ihb d _ _ (F ++ [40]) (i + 1) (j + 1) _ hb hd (by rw [List.length_append, List.length_singleton]; omega) (e.mut np) upd_same fun H1 e1 hp1 => ?_
      refine ihc f _ _ _ (i + 1 + b.s.length) (j + 1 + d.s.length) H1 hc hf (by simp only [List.length_append, List.length_singleton]; omega) e1 hp1 fun H2 e2 hp2 => ?_
      have e5 : F ++ [40] ++ (Tr.meet b d).s ++ (Tr.meet c f).s ++ [41] = F ++ (Tr.meet (.nd b c) (.nd d f)).s := by simp [Tr.meet, Tr.s]
      obtain ⟨n, k⟩ := k (upd H2 p (.lst (sg (F ++ (Tr.meet (.nd b c) (.nd d f)).s)))) (e2.mut np) upd_same
      refine ⟨n + 1, ?_⟩
      simp only [whW]
      walk_at "go"
      refine ⟨by rw [szl]; omega, ?_⟩
      rw [if_pos (by omega)]
      refine ⟨by rw [szl]; omega, 41, by rw [aI_nat]; exact hg3, ?_⟩
      walk_at "go"
      rw [if_neg (by decide)]
      refine ⟨by rw [szl]; omega, 41, by rw [aI_nat]; exact hg4, ?_⟩
      walk_at "go"
      rw [if_neg (by decide)]
      refine ⟨⟨_, hp2⟩, by rw [szl]; omega, 41, by rw [aI_nat]; exact hg3, _, hp2, by rw [szl, sg_len]; simp only [List.length_append, List.length_singleton]; omega, ?_⟩
      rw [show sg (F ++ [40] ++ (Tr.meet b d).s ++ (Tr.meet c f).s) ++ [V.str (S [41])] = sg (F ++ (Tr.meet (.nd b c) (.nd d f)).s) by rw [← e5, sg_app (F ++ [40] ++ (Tr.meet b d).s ++ (Tr.meet c f).s)]; rfl]
      have e3 : ((i + 1 + b.s.length + c.s.length : Nat) : Int) + 1 = ((i + (Tr.nd b c).s.length : Nat) : Int) := by omega
      have e4 : ((j + 1 + d.s.length + f.s.length : Nat) : Int) + 1 = ((j + (Tr.nd d f).s.length : Nat) : Int) := by omega
      rw [e3, e4]
      exact k
def sp_shared (K : PySem.W.Frag) (aI : Addr) : Sp := fun vs H Q E => ∃ v w, vs = [v, w] ∧ Two K aI E H v w fun t u => ∀ H', Ex H H' → Q (.str (S (Tr.meet t u).s)) H'
theorem pu_shared (K : PySem.W.Frag) (aI : Addr) (vs : List V) (H : Hp) (Q : VK) (E : XK) (h : sp_shared K aI vs H Q E) : rd_shared K (sp_check_tree K aI) sp_end_of E { nx := fun _ H' => Q .non H', rt := Q } (L2.start N_shared vs) H := by
  obtain ⟨v, w, rfl, h⟩ := h
  show rd_shared K _ _ _ _ [some _, some _, none, none, none] H
  unfold rd_shared
  walk_at "go"
  refine two_checks h fun t u H2 ev ew ht hu k e => ?_
  subst ev ew
  walk_at "go"
  have l1 := t.s_len
  have l2 := u.s_len
  refine ⟨by rw [szl]; omega, fun p hp => ?_⟩
  walk_at "go"
  unfold mWhile
  refine lp_shared K aI E _ H2 p hp t.s u.s (by omega) (by omega) t u [] [] [] 0 0 _ (by simp) (by simp) (by simp) (Ex.new hp) upd_same fun H3 e3 hp3 => ⟨1, ?_⟩
  simp only [whW]
  walk_at "go"
  refine ⟨by rw [szl]; omega, ?_⟩
  rw [if_neg (by omega)]
  walk_at "go"
  have l3 := (Tr.meet t u).s_len
  have l4 := Tr.meet_n_le t u
  simp only [List.nil_append] at hp3
  refine ⟨(Tr.meet t u).s.map fun c => S [c], .inl (SqL.of (by rw [← sg_str]; exact hp3)), ?_, ?_⟩
  · rw [one_len]; simp only [List.length_map, Nat.mul_zero, Nat.add_zero]; omega
  rw [show Txt.join (S []) ((Tr.meet t u).s.map fun c => S [c]) = S (Tr.meet t u).s from join_signs _]
  exact k _ (e.trans e3)
end Pf

namespace Pf
open PySem PySem.Spec PyProof.Rows L2 M
local macro_rules | `(tactic| walk_at "go") => `(tactic| try simp only [tSeq, tIfS, tIf, tNot, mTest, tCB, tCons, tNil, mVar, M.gt, mC, Bool.not_true, Bool.not_false, Bool.false_eq_true, if_false, if_true, tNext, tAsg, gName, gSub, List.set_cons_zero, List.set_cons_succ, mFor, mIter, mRevS, S_cps, S_len, S_app, tOp, tSl, mPart, mUn, tNoPart, tRet, tRetN, tTup, tLst, tAnd, tOr, mAndV, mOrV, mNotV, tCall, tCallSD, tDrop, mPar, mPar3, mLstM, mStrM, mBits, mRng1, mRng2, mgTup, mgSeq, mgCons, mgNil, q_add1, q_add2, q_add3, q_add4, q_iadd1, q_iadd2, q_iadd3, q_sorted, q_sub, q_mul1, q_mul2, q_mul3, q_mod, q_div, q_pow, q_eq1, q_eq2, q_eq3, q_eq4, q_eq5, q_eq6, q_eq7, q_eq8, q_eq9, q_eq10, q_ne1, q_ne2, q_ne3, q_ne9, q_ne10, q_lt, q_le, q_gt, q_ge, q_inc1, q_ix1, q_ix2, q_sl1, q_sl2, q_set, q_len1, q_len2, q_int1, q_int2, q_max, q_min, q_abs, q_sum, q_list, q_isi1, q_is1, q_not1, q_isN1, q_isN2, q_isN3, q_isN4, q_join, q_count, q_split, q_app, q_pop, q_clear, q_isiE, q_repr, wipe, List.map_cons, List.map_nil, List.length_cons, List.length_nil, List.length_append, List.length_map, List.nil_append, List.cons_append, List.append_nil, cut_m3, cut_t3, cut_m1, cut_t1, cut_t2, S_eq, decide_eq_true_eq, Bool.not_eq_true', decide_eq_false_iff_not, ne_eq])
def trs (l : List Tr) : List V := l.map fun t => V.str (S t.s)
theorem trs_app (a b : List Tr) : trs (a ++ b) = trs a ++ trs b := by unfold trs; rw [List.map_append]
theorem trs_len (a : List Tr) : (trs a).length = a.length := by unfold trs; rw [List.length_map]
theorem lp_hung (K : PySem.W.Frag) (D : Ends) (H0 : Hp) (z : List Nat) (hz : z.length ≤ 1000000) (x : Option V) : ∀ (u t : Tr) (r1 : List Nat) (rest : List V) (L : List Tr) (p : Addr) (i : Nat) (v4 v5 : Option V) (H : Hp), z.drop i = t.s ++ r1 → Ex H0 H → H p = some (.lst (trs L)) → H0 p = none → L.length + u.n + 10 ≤ 1000000 → (Tr.le u t = false → ∀ H', Ex H0 H' → D.rt .non H') →
    (Tr.le u t = true → ∀ p' w4 w5 H', Ex H0 H' → H0 p' = none → H' p' = some (.lst (trs (L ++ Tr.hang u t))) → fV (fun _ => True) (gName 4) (rd_hung_on_b1 K sp_end_of) D rest [some (.str (S z)), x, some (.ref p'), some (.int ((i + t.s.length : Nat) : Int)), w4, w5] H') →
    fV (fun _ => True) (gName 4) (rd_hung_on_b1 K sp_end_of) D (u.s.map (fun c => V.str (S [c])) ++ rest) [some (.str (S z)), x, some (.ref p), some (.int i), v4, v5] H := by
  intro u
  induction u with
  | lf =>
    intro t r1 rest L p i v4 v5 H h1 e hp np hl kN k
    have l1 := drop_lt h1 (s_ne _)
    simp only [Tr.s, List.map_cons, List.map_nil, List.cons_append, List.nil_append, fV]
    refine ⟨trivial, ?_⟩
    walk_at "go"
    refine ⟨z, i, t, r1, rfl, h1, hz, ?_⟩
    walk_at "go"
    refine ⟨by rw [szl]; omega, ?_⟩
    rw [cut_at h1]
    refine ⟨by rw [szl]; omega, fun q hq => ?_⟩
    have d1 : p ≠ q := ne_of_none hp hq
    walk_at "go"
    refine ⟨_, _, by rw [upd_ne d1]; exact hp, upd_same, by rw [szl, trs_len, List.length_singleton]; omega, fun q2 hq2 => ?_⟩
    walk_at "go"
    refine k rfl q2 _ _ _ ((e.push hq).push hq2) ((e.push hq).free hq2) ?_
    rw [upd_same, trs_app]; rfl
  | nd a b iha ihb =>
    intro t r1 rest L p i v4 v5 H h1 e hp np hl kN k
    have l1 := drop_lt h1 (s_ne _)
    simp only [Tr.n] at hl
    simp only [Tr.s, List.map_cons, List.map_append, List.map_nil, List.cons_append, List.append_assoc, List.nil_append, fV]
    refine ⟨trivial, ?_⟩
    cases t with
    | lf =>
      obtain ⟨hg, _⟩ := drop_get h1
      walk_at "go"
      rw [if_neg (by decide)]
      refine ⟨by rw [szl]; omega, 46, by rw [aI_nat]; exact hg, ?_⟩
      walk_at "go"
      rw [if_neg (by decide)]
      walk_at "go"
      exact kN rfl H e
    | nd c d =>
      have h1' := h1
      simp only [Tr.s, List.cons_append, List.append_assoc] at h1'
      obtain ⟨hg, hc⟩ := drop_get h1'
      have hd := drop_app hc
      have he := drop_app hd
      obtain ⟨hg2, _⟩ := drop_get he
      walk_at "go"
      rw [if_neg (by decide)]
      refine ⟨by rw [szl]; omega, 40, by rw [aI_nat]; exact hg, ?_⟩
      walk_at "go"
      have ii : ((i : Int) + 1) = ((i + 1 : Nat) : Int) := by omega
      rw [ii]
      refine iha c _ _ L p (i + 1) _ _ H hc e hp np (by omega) (fun z => kN (by simp only [Tr.le, z, Bool.false_and])) fun la p1 w4 w5 H1 e1 np1 hp1 => ?_
      have lla := Tr.hang_len a c la
      refine ihb d _ _ _ p1 (i + 1 + c.s.length) _ _ H1 hd e1 hp1 np1 (by rw [List.length_append, lla]; omega) (fun z => kN (by simp only [Tr.le, z, Bool.and_false])) fun lb p2 w4 w5 H2 e2 np2 hp2 => ?_
      simp only [fV]
      refine ⟨trivial, ?_⟩
      have x1 : (Tr.nd c d).s.length = c.s.length + d.s.length + 2 := by simp [Tr.s]; omega
      walk_at "go"
      rw [if_neg (by decide)]
      refine ⟨by rw [szl]; omega, 41, by rw [aI_nat]; exact hg2, ?_⟩
      walk_at "go"
      have jj : ((i + 1 + c.s.length + d.s.length : Nat) : Int) + 1 = ((i + (Tr.nd c d).s.length : Nat) : Int) := by omega
      rw [jj]
      exact k (by simp only [Tr.le, la, lb, Bool.and_self]) p2 _ _ H2 e2 np2 (by simpa only [Tr.hang, List.append_assoc] using hp2)
def sp_hung_on : Sp := fun vs H Q _ => ∃ t u : Tr, vs = [.str (S t.s), .str (S u.s)] ∧ t.n ≤ 100000 ∧ u.n ≤ 100000 ∧ (Tr.le u t = false → ∀ H', Ex H H' → Q .non H') ∧ (Tr.le u t = true → ∀ H' p, Ex H H' → H p = none → H' p = some (.lst (trs (Tr.hang u t))) → Q (.ref p) H')
theorem pu_hung_on (K : PySem.W.Frag) (vs : List V) (H : Hp) (Q : VK) (E : XK) (h : sp_hung_on vs H Q E) : rd_hung_on K sp_end_of { nx := fun _ H' => Q .non H', rt := Q } (L2.start N_hung_on vs) H := by
  obtain ⟨t, u, rfl, ht, hu, k0, k1⟩ := h
  show rd_hung_on K _ _ [some _, some _, none, none, none, none] H
  unfold rd_hung_on
  walk_at "go"
  have l1 := t.s_len
  refine ⟨by rw [szl]; omega, fun p hp => ?_⟩
  walk_at "go"
  rw [show u.s.map (fun c => V.str (S [c])) = u.s.map (fun c => V.str (S [c])) ++ [] by simp]
  refine lp_hung K _ H t.s (by omega) _ u t [] [] [] p 0 _ _ _ (by simp) (Ex.new hp) upd_same hp (by simp; omega) (fun z H' e => k0 z H' e) fun hl p' w4 w5 H1 e1 np1 hp1 => ?_
  simp only [fV]
  walk_at "go"
  exact ⟨trivial, k1 hl H1 p' e1 np1 (by simpa only [List.nil_append] using hp1)⟩
def sp_hung (K : PySem.W.Frag) (aI : Addr) : Sp := fun vs H Q E => ∃ v w, vs = [v, w] ∧ Two K aI E H v w fun t u => (Tr.le u t = false → ∀ H', Ex H H' → Q .non H') ∧ (Tr.le u t = true → ∀ H' p, Ex H H' → H p = none → H' p = some (.lst (trs (Tr.hang u t))) → Q (.ref p) H')
theorem pu_hung (K : PySem.W.Frag) (aI : Addr) (vs : List V) (H : Hp) (Q : VK) (E : XK) (h : sp_hung K aI vs H Q E) : rd_hung K (sp_check_tree K aI) sp_hung_on E { nx := fun _ H' => Q .non H', rt := Q } (L2.start N_hung vs) H := by
  obtain ⟨v, w, rfl, h⟩ := h
  show rd_hung K _ _ _ _ [some _, some _] H
  unfold rd_hung
  walk_at "go"
  refine two_checks h fun t u H2 ev ew ht hu k e => ?_
  subst ev ew
  walk_at "go"
  exact ⟨t, u, rfl, ht, hu, fun z H' e3 => k.1 z H' (e.trans e3), fun z H' p e3 np hp => k.2 z H' p (e.trans e3) (e.free np) hp⟩
end Pf

namespace Pf
open PySem PySem.Spec PyProof.Rows L2 M
local macro_rules | `(tactic| walk_at "go") => `(tactic| try simp only [tSeq, tIfS, tIf, tNot, mTest, tCB, tCons, tNil, mVar, M.gt, mC, Bool.not_true, Bool.not_false, Bool.false_eq_true, if_false, if_true, tNext, tAsg, gName, gSub, List.set_cons_zero, List.set_cons_succ, mFor, mIter, mRevS, S_cps, S_len, S_app, tOp, tSl, mPart, mUn, tNoPart, tRet, tRetN, tTup, tLst, tAnd, tOr, mAndV, mOrV, mNotV, tCall, tCallSD, tDrop, mPar, mPar3, mLstM, mStrM, mBits, mRng1, mRng2, mgTup, mgSeq, mgCons, mgNil, q_add1, q_add2, q_add3, q_add4, q_iadd1, q_iadd2, q_iadd3, q_sorted, q_sub, q_mul1, q_mul2, q_mul3, q_mod, q_div, q_pow, q_eq1, q_eq2, q_eq3, q_eq4, q_eq5, q_eq6, q_eq7, q_eq8, q_eq9, q_eq10, q_ne1, q_ne2, q_ne3, q_ne9, q_ne10, q_lt, q_le, q_gt, q_ge, q_inc1, q_ix1, q_ix2, q_sl1, q_sl2, q_set, q_len1, q_len2, q_int1, q_int2, q_max, q_min, q_abs, q_sum, q_list, q_isi1, q_is1, q_not1, q_isN1, q_isN2, q_isN3, q_isN4, q_join, q_count, q_split, q_app, q_pop, q_clear, q_isiE, q_repr, wipe, List.map_cons, List.map_nil, List.length_cons, List.length_nil, List.length_append, List.length_map, List.nil_append, List.cons_append, List.append_nil, cut_m3, cut_t3, cut_m1, cut_t1, cut_t2, S_eq, decide_eq_true_eq, Bool.not_eq_true', decide_eq_false_iff_not, ne_eq])
theorem fill_zip : ∀ (P hs : List (List Nat)) (p : List Nat), P.length = hs.length → fillP (p :: P) hs = p ++ (List.zipWith (fun h q => h ++ q) hs P).flatten
  | [], [], p, _ => by simp [fillP]
  | [], h :: hs, p, hl => by simp at hl
  | q :: P, [], p, hl => by simp at hl
  | q :: P, h :: hs, p, hl => by
    show p ++ h ++ fillP (q :: P) hs = _
    rw [fill_zip P hs q (by simpa using hl)]
    simp
theorem spl_le (c : Nat) : ∀ (z acc p : List Nat), p ∈ TL.spl [c] 0 acc z → p.length ≤ acc.length + z.length
  | [], acc, p, h => by
    rw [TL.spl_nil] at h
    rw [List.mem_singleton.mp h]; simp
  | d :: r, acc, p, h => by
    rw [spl_one] at h
    by_cases e : d = c
    · rw [if_pos e] at h
      rcases List.mem_cons.mp h with rfl | h
      · simp
      · have := spl_le c r [] p h
        simp only [List.length_nil, List.length_cons] at *; omega
    · rw [if_neg e] at h
      have := spl_le c r _ p h
      simp only [List.length_append, List.length_cons, List.length_nil] at *; omega
theorem sum_flat (l : List (List Nat)) : ((l.map S).map (·.length)).sum = l.flatten.length := by
  induction l with
  | nil => rfl
  | cons a l ih => simp only [List.map_cons, List.sum_cons, ih, S_len, List.flatten_cons, List.length_append]
theorem le_sum : ∀ {l : List Nat} {a : Nat}, a ∈ l → a ≤ l.sum
  | b :: l, a, h => by
    rw [List.sum_cons]
    rcases List.mem_cons.mp h with rfl | h
    · omega
    · have := le_sum h; omega
theorem tx_S (l : List (List Nat)) : tx l = (l.map S).map V.str := by unfold tx; rw [List.map_map]; rfl
theorem tx_at {l : List (List Nat)} {i : Nat} {z : List Nat} (h : l[i]? = some z) : (tx l)[i]? = some (V.str (S z)) := by unfold tx; rw [List.getElem?_map, h]; rfl
def sp_grown_by (K : PySem.W.Frag) : Sp := fun vs H Q _ => ∃ (t : Tr) (hs : List Tr) (b : Addr), vs = [.str (S t.s), .ref b] ∧ SqL K H b (trs hs) ∧ hs.length = t.n + 1 ∧ t.n ≤ 100000 ∧ (hs.map Tr.n).sum ≤ 100000 ∧ ∀ H', Ex H H' → Q (.str (S (Tr.grow t hs).1.s)) H'
theorem pu_grown_by (K : PySem.W.Frag) (vs : List V) (H : Hp) (Q : VK) (E : XK) (h : sp_grown_by K vs H Q E) : rd_grown_by K { nx := fun _ H' => Q .non H', rt := Q } (L2.start N_grown_by vs) H := by
  obtain ⟨t, hs, b, rfl, hb, hl, hn, hsum, k⟩ := h
  show rd_grown_by K _ [some _, some _, none, none, none] H
  unfold rd_grown_by mLc mEnum
  walk_at "go"
  have l1 := t.s_len
  have gs := (Tr.grow t hs).1.s_len
  have gn : (Tr.grow t hs).1.n ≤ t.n + (hs.map Tr.n).sum := by have := Tr.grow_n t hs; omega
  have hfill := Tr.fill_all t hs hl
  have hpl := spl_count 46 t.s []
  rw [Tr.cnt_lf] at hpl
  rw [splitS (by decide)]
  have hple := spl_le 46 t.s []
  generalize hP : TL.spl [46] 0 [] t.s = P at *
  obtain ⟨p0, P, rfl⟩ : ∃ p P', P = p :: P' := by
    cases P with
    | nil => simp at hpl
    | cons p P' => exact ⟨p, P', rfl⟩
  rw [fill_zip _ _ _ (by rw [List.length_map]; simp only [List.length_cons] at hpl; omega)] at hfill
  refine ⟨by simp, by rw [szl]; omega, fun p hp => ?_⟩
  rw [← tx_S]
  walk_at "go"
  have e1 := Ex.new (o := .lst (tx (p0 :: P))) hp
  refine ⟨_, _, .inl (SqL.of upd_same), aI_0 _ _, _, e1.L hb, fun D hD => ?_⟩
  have d1 : p ≠ D := fun z => by rw [← z, upd_same] at hD; cases hD
  refine (?lp : ∀ (s : List Tr) (acc : List (List Nat)) (H2 : Hp), Ex H H2 → H2 p = some (.lst (tx (p0 :: P))) → H2 D = some (.lst (tx acc)) → acc.length + s.length = hs.length → (∀ x ∈ s, x ∈ hs) → acc ++ List.zipWith (fun h q => h ++ q) (s.map Tr.s) (P.drop acc.length) = List.zipWith (fun h q => h ++ q) (hs.map Tr.s) P →
      cP _ _ _ _ _ _ D _ (numd acc.length (trs s)) H2) hs [] _ (e1.push hD) (by rw [upd_ne d1]; exact upd_same) upd_same (by simp) (fun x h => h) (by simp)
  intro s
  induction s with
  | nil =>
    intro acc H2 e2 h1 h2 ha hm hz
    simp only [trs, List.map_nil, numd, cP]
    refine ⟨?_, ?_⟩
    · exact e2.L hb
    rw [List.map_nil, List.zipWith_nil_left, List.append_nil] at hz
    walk_at "go"
    have hfl : (p0 ++ acc.flatten).length = 3 * (Tr.grow t hs).1.n + 1 := by rw [hz, hfill, gs]
    rw [List.length_append] at hfl
    refine ⟨acc.map S, .inl (SqL.of (by rw [← tx_S]; exact h2)), ?_, ?_⟩
    · rw [sum_flat]; simp only [Nat.mul_zero, Nat.add_zero]; omega
    rw [join_S]
    walk_at "go"
    refine ⟨by rw [szl]; omega, ?_⟩
    rw [hz, hfill]
    exact k _ e2
  | cons x s ih =>
    intro acc H2 e2 h1 h2 ha hm hz
    simp only [trs, List.map_cons, numd, cP]
    refine ⟨e2.L hb, fun T hT => ?_⟩
    walk_at "go"
    refine ⟨_, SqT.of upd_same, rfl, ?_⟩
    walk_at "go"
    have dT : p ≠ T := ne_of_none h1 hT
    have dT2 : D ≠ T := ne_of_none h2 hT
    simp only [List.length_cons] at ha hpl
    obtain ⟨q, hq⟩ : ∃ q, P[acc.length]? = some q := ⟨P[acc.length]'(by omega), List.getElem?_eq_getElem (by omega)⟩
    refine ⟨trivial, ?_⟩
    unfold tYes
    walk_at "go"
    have jj : ((acc.length : Int) + 1) = ((acc.length + 1 : Nat) : Int) := by omega
    rw [jj]
    have hqm : q ∈ p0 :: P := List.mem_cons_of_mem _ (List.mem_of_getElem? hq)
    have hql := hple q hqm
    have hxs := x.s_len
    have hxn : x.n ≤ (hs.map Tr.n).sum := le_sum (List.mem_map_of_mem (hm x List.mem_cons_self))
    simp only [List.length_nil] at hql
    refine ⟨_, _, .inl (SqL.of (by rw [upd_ne dT]; exact h1)), by rw [aI_nat]; exact tx_at (l := p0 :: P) (by simpa using hq), ?_⟩
    walk_at "go"
    refine ⟨by rw [szl]; omega, _, by rw [upd_ne dT2]; exact h2, by rw [szl, tx_len]; omega, ?_⟩
    have hz' : acc ++ [x.s ++ q] ++ List.zipWith (fun h q => h ++ q) (s.map Tr.s) (P.drop (acc ++ [x.s ++ q]).length) = List.zipWith (fun h q => h ++ q) (hs.map Tr.s) P := by
      rw [← hz]
      have hd : P.drop acc.length = q :: P.drop (acc.length + 1) := by
        rw [List.drop_eq_getElem_cons (by omega)]
        congr 1
        exact Option.some.inj ((List.getElem?_eq_getElem (by omega)).symm.trans hq)
      rw [hd, List.length_append, List.length_singleton]
      simp
    have := ih (acc ++ [x.s ++ q]) (upd (upd H2 T (.tup [.int acc.length, .str (S x.s)])) D (.lst (tx acc ++ [.str (S (x.s ++ q))]))) ((e2.push hT).mut (e1.free hD)) (by rw [upd_ne d1, upd_ne dT]; exact h1) (by rw [upd_same, tx_app]; rfl) (by rw [List.length_append, List.length_singleton]; omega) (fun y hy => hm y (List.mem_cons_of_mem _ hy)) hz'
    rw [List.length_append, List.length_singleton] at this
    exact this
end Pf

namespace Pf
open PySem PySem.Spec PyProof.Rows L2 M
local macro_rules | `(tactic| walk_at "go") => `(tactic| try simp only [tSeq, tIfS, tIf, tNot, mTest, tCB, tCons, tNil, mVar, M.gt, mC, Bool.not_true, Bool.not_false, Bool.false_eq_true, if_false, if_true, tNext, tAsg, gName, gSub, List.set_cons_zero, List.set_cons_succ, mFor, mIter, mRevS, S_cps, S_len, S_app, tOp, tSl, mPart, mUn, tNoPart, tRet, tRetN, tTup, tLst, tAnd, tOr, mAndV, mOrV, mNotV, tCall, tCallSD, tDrop, mPar, mPar3, mLstM, mStrM, mBits, mRng1, mRng2, mgTup, mgSeq, mgCons, mgNil, q_add1, q_add2, q_add3, q_add4, q_iadd1, q_iadd2, q_iadd3, q_sorted, q_sub, q_mul1, q_mul2, q_mul3, q_mod, q_div, q_pow, q_eq1, q_eq2, q_eq3, q_eq4, q_eq5, q_eq6, q_eq7, q_eq8, q_eq9, q_eq10, q_ne1, q_ne2, q_ne3, q_ne9, q_ne10, q_lt, q_le, q_gt, q_ge, q_inc1, q_ix1, q_ix2, q_sl1, q_sl2, q_set, q_len1, q_len2, q_int1, q_int2, q_max, q_min, q_abs, q_sum, q_list, q_isi1, q_is1, q_not1, q_isN1, q_isN2, q_isN3, q_isN4, q_join, q_count, q_split, q_app, q_pop, q_clear, q_isiE, q_repr, wipe, List.map_cons, List.map_nil, List.length_cons, List.length_nil, List.length_append, List.length_map, List.nil_append, List.cons_append, List.append_nil, cut_m3, cut_t3, cut_m1, cut_t1, cut_t2, S_eq, decide_eq_true_eq, Bool.not_eq_true', decide_eq_false_iff_not, ne_eq])
/-- why what should be a list of trees is refused -/
inductive BadL (K : PySem.W.Frag) (H : Hp) (t : Tr) : V → Prop
  | noL {w : V} : (∀ (H' : Hp) (Q : VK), Ex H H' → Q (.bl false) H' → mIsi K [w, .ty "list"] H' Q) → BadL K H t w
  | len {p : Addr} {xs : List V} : SqL K H p xs → xs.length ≠ t.n + 1 → BadL K H t (.ref p)
  | bad {p : Addr} {ps : List (V × Bool)} : SqL K H p (ps.map (·.1)) → ps.length = t.n + 1 → (∀ x ∈ ps, TV K H x.1 x.2) → (∃ x ∈ ps, x.2 = false) → BadL K H t (.ref p)
def sp_grown (K : PySem.W.Frag) (aI aL : Addr) : Sp := fun vs H Q E => ∃ v w, vs = [v, w] ∧ ((TV K H v false ∧ Fail E H aI v) ∨ ∃ t : Tr, v = .str (S t.s) ∧ t.n ≤ 100000 ∧ ((BadL K H t w ∧ Fail E H aL w) ∨
  ∃ (hs : List Tr) (b : Addr), w = .ref b ∧ SqL K H b (trs hs) ∧ hs.length = t.n + 1 ∧ (hs.map Tr.n).sum ≤ 100000 ∧ ∀ H', Ex H H' → Q (.str (S (Tr.grow t hs).1.s)) H'))
theorem pu_grown (K : PySem.W.Frag) (aI aL : Addr) (vs : List V) (H : Hp) (Q : VK) (E : XK) (h : sp_grown K aI aL vs H Q E) : rd_grown K (sp_check_tree K aI) (sp_is_tree K) (sp_grown_by K) aL E { nx := fun _ H' => Q .non H', rt := Q } (L2.start N_grown vs) H := by
  obtain ⟨v, w, rfl, ⟨tv, f⟩ | ⟨t, rfl, hn, ⟨bad, f⟩ | ⟨hs, b, rfl, hb, hl, hsum, k⟩⟩⟩ := h
  · show rd_grown K _ _ _ _ _ _ [some _, some _, none] H
    unfold rd_grown
    walk_at "go"
    exact ⟨v, false, rfl, tv, fun z => (by cases z), fun _ => f⟩
  · show rd_grown K _ _ _ _ _ _ [some _, some _, none] H
    unfold rd_grown mLc
    walk_at "go"
    have l1 := t.s_len
    refine ⟨_, true, rfl, tv_tree K H t hn, fun _ H1 e1 => ?_, fun z => (by cases z)⟩
    walk_at "go"
    cases bad with
    | noL h =>
      refine h H1 _ e1 ?_
      walk_at "go"
      unfold mRaise mMk
      walk_at "go"
      exact fun d hd => f _ d (e1.push hd) (e1.free hd) upd_same
    | len hp hl =>
      have hb1 := e1.L hp
      refine ⟨_, _, tyX_list hb1, ki_list.2.2.2.1, ?_⟩
      walk_at "go"
      refine ⟨_, .inl hb1, ?_⟩
      rw [count_S (by decide), Tr.cnt_lf]
      walk_at "go"
      rw [if_pos (by omega)]
      unfold mRaise mMk
      walk_at "go"
      exact fun d hd => f _ d (e1.push hd) (e1.free hd) upd_same
    | @bad p ps hp hl hx hf =>
      have hb1 := e1.L hp
      refine ⟨_, _, tyX_list hb1, ki_list.2.2.2.1, ?_⟩
      walk_at "go"
      refine ⟨_, .inl hb1, ?_⟩
      rw [count_S (by decide), Tr.cnt_lf, List.length_map]
      walk_at "go"
      rw [if_neg (by rw [hl]; simp)]
      refine ⟨_, .inl ⟨hb1, fun D hD => ?_⟩⟩
      refine (?lp : ∀ (s : List (V × Bool)) (acc : List V) (H2 : Hp), Ex H1 H2 → H2 D = some (.lst acc) → acc.length + s.length ≤ 100001 → (∀ x ∈ s, TV K H x.1 x.2) → (acc ≠ [] ∨ ∃ x ∈ s, x.2 = false) → cV _ _ _ _ _ _ D _ (s.map (·.1)) H2) ps [] _ (Ex.new hD) upd_same (by simp; omega) hx (.inr hf)
      intro s
      induction s with
      | nil =>
        intro acc H2 e2 h2 hl2 hx2 hf2
        have hne : acc ≠ [] := hf2.resolve_right (by rintro ⟨x, hx, _⟩; cases hx)
        simp only [List.map_nil, cV]
        refine ⟨e2.L hb1, ?_⟩
        walk_at "go"
        refine ⟨by rw [szl]; omega, fun q hq => ?_⟩
        refine .inl ⟨_, _, acc, [], rfl, rfl, SqL.of (by rw [upd_ne (ne_of_none h2 hq)]; exact h2), SqL.of upd_same, fun z => hne (List.eq_nil_of_length_eq_zero z), ?_⟩
        walk_at "go"
        unfold mRaise mMk
        walk_at "go"
        have e3 := (e1.trans e2).push (o := .lst []) hq
        exact fun d hd => f _ d (e3.push hd) (e3.free hd) upd_same
      | cons x s ih =>
        intro acc H2 e2 h2 hl2 hx2 hf2
        simp only [List.length_cons] at hl2
        obtain ⟨x, c⟩ := x
        have tvx := hx2 _ List.mem_cons_self
        simp only [List.map_cons, cV]
        refine ⟨e2.L hb1, ?_⟩
        walk_at "go"
        refine ⟨trivial, x, c, rfl, tvx.ex (e1.trans e2), fun H3 e3 => ?_⟩
        walk_at "go"
        cases c with
        | true =>
          walk_at "go"
          refine ih acc H3 (e2.trans e3) (e3 _ _ h2) (by omega) (fun y hy => hx2 y (List.mem_cons_of_mem _ hy)) ?_
          rcases hf2 with h | ⟨y, hy, hc⟩
          · exact .inl h
          · rcases List.mem_cons.mp hy with rfl | hy
            · cases hc
            · exact .inr ⟨y, hy, hc⟩
        | false =>
          walk_at "go"
          refine ⟨_, e3 _ _ h2, by rw [szl]; omega, ?_⟩
          exact ih (acc ++ [x]) _ ((e2.trans e3).mut hD) upd_same (by rw [List.length_append, List.length_singleton]; omega) (fun y hy => hx2 y (List.mem_cons_of_mem _ hy)) (.inl (by simp))
  · show rd_grown K _ _ _ _ _ _ [some _, some _, none] H
    unfold rd_grown mLc
    walk_at "go"
    refine ⟨_, true, rfl, tv_tree K H t hn, fun _ H1 e1 => ?_, fun z => (by cases z)⟩
    have hb1 := e1.L hb
    walk_at "go"
    refine ⟨_, _, tyX_list hb1, ki_list.2.2.2.1, ?_⟩
    walk_at "go"
    refine ⟨_, .inl hb1, ?_⟩
    rw [count_S (by decide), Tr.cnt_lf, trs_len]
    walk_at "go"
    rw [if_neg (by rw [hl]; simp)]
    refine ⟨_, .inl ⟨hb1, fun D hD => ?_⟩⟩
    refine (?lq : ∀ (s : List Tr) (H2 : Hp), Ex H1 H2 → H2 D = some (.lst []) → (∀ x ∈ s, x ∈ hs) → cV _ _ _ _ _ _ D _ (trs s) H2) hs _ (Ex.new hD) upd_same (fun x h => h)
    intro s
    induction s with
    | nil =>
      intro H2 e2 h2 hm
      simp only [trs, List.map_nil, cV]
      refine ⟨e2.L hb1, ?_⟩
      walk_at "go"
      refine ⟨by rw [szl]; omega, fun q hq => .inr ?_⟩
      walk_at "go"
      refine eq_strs (a := []) (b := []) (SqL.of (by rw [upd_ne (ne_of_none h2 hq)]; exact h2)) (SqL.of upd_same) (fun z hz => by cases hz) (fun z hz => by cases hz) ?_
      rw [show (decide (([] : List (List Nat)) = [])) = true by decide]
      walk_at "go"
      have e3 := e2.push (o := .lst []) hq
      exact ⟨t, hs, b, rfl, e3.L hb1, hl, hn, hsum, fun H3 e4 => k H3 (e1.trans (e3.trans e4))⟩
    | cons x s ih =>
      intro H2 e2 h2 hm
      simp only [trs, List.map_cons, cV]
      refine ⟨e2.L hb1, ?_⟩
      walk_at "go"
      have hxn : x.n ≤ (hs.map Tr.n).sum := le_sum (List.mem_map_of_mem (hm x List.mem_cons_self))
      refine ⟨trivial, _, true, rfl, tv_tree K H2 x (by omega), fun H3 e3 => ?_⟩
      walk_at "go"
      exact ih H3 (e2.trans e3) (e3 _ _ h2) (fun y hy => hm y (List.mem_cons_of_mem _ hy))
end Pf

namespace Pf
open PySem PySem.Spec PyProof.Rows L2 M
local macro_rules | `(tactic| walk_at "go") => `(tactic| try simp only [tSeq, tIfS, tIf, tNot, mTest, tCB, tCons, tNil, mVar, M.gt, mC, Bool.not_true, Bool.not_false, Bool.false_eq_true, if_false, if_true, tNext, tAsg, gName, gSub, List.set_cons_zero, List.set_cons_succ, mFor, mIter, mRevS, S_cps, S_len, S_app, tOp, tSl, mPart, mUn, tNoPart, tRet, tRetN, tTup, tLst, tAnd, tOr, mAndV, mOrV, mNotV, tCall, tCallSD, tDrop, mPar, mPar3, mLstM, mStrM, mBits, mRng1, mRng2, mgTup, mgSeq, mgCons, mgNil, q_add1, q_add2, q_add3, q_add4, q_iadd1, q_iadd2, q_iadd3, q_sorted, q_sub, q_mul1, q_mul2, q_mul3, q_mod, q_div, q_pow, q_eq1, q_eq2, q_eq3, q_eq4, q_eq5, q_eq6, q_eq7, q_eq8, q_eq9, q_eq10, q_ne1, q_ne2, q_ne3, q_ne9, q_ne10, q_lt, q_le, q_gt, q_ge, q_inc1, q_ix1, q_ix2, q_sl1, q_sl2, q_set, q_len1, q_len2, q_int1, q_int2, q_max, q_min, q_abs, q_sum, q_list, q_isi1, q_is1, q_not1, q_isN1, q_isN2, q_isN3, q_isN4, q_join, q_count, q_split, q_app, q_pop, q_clear, q_isiE, q_repr, wipe, List.map_cons, List.map_nil, List.length_cons, List.length_nil, List.length_append, List.length_map, List.nil_append, List.cons_append, List.append_nil, cut_m3, cut_t3, cut_m1, cut_t1, cut_t2, S_eq, decide_eq_true_eq, Bool.not_eq_true', decide_eq_false_iff_not, ne_eq])
def sp__law_trees : Sp := fun vs H Q _ => ∃ (g : Addr) (n m : Nat), vs = [.ref g, .int m] ∧ m ≤ 1000 ∧ n < 2 ^ 40 ∧ Pu H g n ∧ ∀ H' p (hs : List Tr), Fm [g] H H' → Pu H' g (n + 100 * m) → H p = none → H' p = some (.lst (trs hs)) → hs.length = m → (∀ x ∈ hs, x.n ≤ 3) → Q (.ref p) H'
theorem pu__law_trees (K : PySem.W.Frag) (N : Nat) (hN : 4 ≤ N) (vs : List V) (H : Hp) (Q : VK) (E : XK) (h : sp__law_trees vs H Q E) : rd__law_trees K (sp__law_tree N) sp__law_random { nx := fun _ H' => Q .non H', rt := Q } (L2.start N__law_trees vs) H := by
  obtain ⟨g, n, m, rfl, hm, hn, pu, k⟩ := h
  show rd__law_trees K _ _ _ [some _, some _, none, none] H
  unfold rd__law_trees
  walk_at "go"
  refine ⟨by rw [szl]; omega, fun p hp => ?_⟩
  have dg : p ≠ g := fun z => by obtain ⟨_, _, _, z1, _⟩ := pu; rw [z, z1] at hp; cases hp
  walk_at "go"
  refine ⟨⟨by omega, by omega⟩, ?_⟩
  rw [show upto 0 ((m : Int)).toNat = (List.range m).map fun (i : Nat) => V.int (0 + (i : Int)) by simp [upto]]
  refine (?lp : ∀ (s : List Nat) (hs : List Tr) (v : Option V) (H1 : Hp), Fm [g] H H1 → Pu H1 g (n + 100 * hs.length) → H1 p = some (.lst (trs hs)) → hs.length + s.length = m → (∀ x ∈ hs, x.n ≤ 3) → fV _ _ _ _ (s.map fun (i : Nat) => V.int (0 + (i : Int))) [some (.ref g), some (.int m), some (.ref p), v] H1) (List.range m) [] none _ (Fm.new hp) ((pu.fm (Ex.new hp)).mono (by simp)) upd_same (by simp) (fun x h => by cases h)
  intro s
  induction s with
  | nil =>
    intro hs v H1 f1 p1 h1 hl hx
    simp only [List.map_nil, fV]
    walk_at "go"
    simp only [List.length_nil, Nat.add_zero] at hl
    subst hl
    exact ⟨trivial, k H1 p hs f1 p1 hp h1 rfl hx⟩
  | cons i s ih =>
    intro hs v H1 f1 p1 h1 hl hx
    simp only [List.length_cons] at hl
    simp only [List.map_cons, fV]
    refine ⟨trivial, ?_⟩
    rw [Int.zero_add]
    walk_at "go"
    refine ⟨⟨_, h1⟩, ?_⟩
    by_cases c : (i : Int) < 30
    · rw [if_pos c]
      refine ⟨by rw [szl]; omega, fun q hq => ?_⟩
      have dq : q ≠ g := fun z => by obtain ⟨_, _, _, z1, _⟩ := p1; rw [z, z1] at hq; cases hq
      have dpq : p ≠ q := ne_of_none h1 hq
      refine ⟨g, n + 100 * hs.length, 5, rfl, by decide, by decide, by omega, p1.fm (Ex.new hq), fun H2 r f2 p2 r0 r1 => ?_⟩
      have hq2 := f2 q _ (by simpa using dq) upd_same
      have hp2 : H2 p = some (.lst (trs hs)) := f2 p _ (by simpa using dg) (by rw [upd_ne dpq]; exact h1)
      obtain ⟨r, rfl⟩ := Int.eq_ofNat_of_zero_le r0
      obtain ⟨w, hw, hw3⟩ : ∃ w : Nat, atI [V.int 0, V.int 0, V.int 1, V.int 2, V.int 3] (r : Int) = some (.int w) ∧ w ≤ 3 := by
        rcases r with _ | _ | _ | _ | _ | r
        · exact ⟨0, rfl, by decide⟩
        · exact ⟨0, rfl, by decide⟩
        · exact ⟨1, rfl, by decide⟩
        · exact ⟨2, rfl, by decide⟩
        · exact ⟨3, rfl, by decide⟩
        · omega
      walk_at "go"
      refine ⟨_, _, .inl (SqL.of hq2), hw, ?_⟩
      refine ⟨g, n + 100 * hs.length + 10, w, rfl, by omega, by omega, by omega, p2, fun H3 t ht f3 p3 => ?_⟩
      have hp3 : H3 p = some (.lst (trs hs)) := f3 p _ (by simpa using dg) hp2
      refine ⟨_, hp3, by rw [szl, trs_len]; omega, ?_⟩
      have f4 : Fm [g] H (upd H3 p (.lst (trs hs ++ [.str (S t.s)]))) := fun a o na ha => by
        have : a ≠ p := fun z => by rw [z, hp] at ha; cases ha
        rw [upd_ne this]
        refine f3 a o na (f2 a o na ?_)
        have := f1 a o na ha
        rw [upd_ne (ne_of_none this hq)]
        exact this
      refine ih (hs ++ [t]) _ _ f4 ?_ (by rw [upd_same, trs_app]; rfl) (by rw [List.length_append, List.length_singleton]; omega) (fun x hx2 => (List.mem_append.mp hx2).elim (hx x) fun z => by rw [List.mem_singleton.mp z]; omega)
      obtain ⟨aa, bb, cc, z1, z2⟩ := p3
      have : Pu (upd H3 p (.lst (trs hs ++ [.str (S t.s)]))) g (n + 100 * hs.length + 10 + 20 * w) := ⟨aa, bb, cc, by rw [upd_ne (Ne.symm dg)]; exact z1, z2⟩
      exact this.mono (by rw [List.length_append, List.length_singleton]; omega)
    · rw [if_neg c]
      walk_at "go"
      refine ⟨_, h1, by rw [szl, trs_len]; omega, ?_⟩
      refine ih (hs ++ [.lf]) _ _ (fun a o na ha => ?_) ?_ (by rw [upd_same, trs_app]; rfl) (by rw [List.length_append, List.length_singleton]; omega) (fun x hx2 => (List.mem_append.mp hx2).elim (hx x) fun z => by rw [List.mem_singleton.mp z]; decide)
      · have : a ≠ p := fun z => by rw [z, hp] at ha; cases ha
        rw [upd_ne this]
        exact f1 a o na ha
      · obtain ⟨aa, bb, cc, z1, z2⟩ := p1
        have : Pu (upd H1 p (.lst (trs hs ++ [.str (S [46])]))) g (n + 100 * hs.length) := ⟨aa, bb, cc, by rw [upd_ne (Ne.symm dg)]; exact z1, z2⟩
        exact this.mono (by rw [List.length_append, List.length_singleton]; omega)
end Pf

namespace Pf
open PySem PySem.Spec PyProof.Rows L2 M
local macro_rules | `(tactic| walk_at "go") => `(tactic| try simp only [tSeq, tIfS, tIf, tNot, mTest, tCB, tCons, tNil, mVar, M.gt, mC, Bool.not_true, Bool.not_false, Bool.false_eq_true, if_false, if_true, tNext, tAsg, gName, gSub, List.set_cons_zero, List.set_cons_succ, mFor, mIter, mRevS, S_cps, S_len, S_app, tOp, tSl, mPart, mUn, tNoPart, tRet, tRetN, tTup, tLst, tAnd, tOr, mAndV, mOrV, mNotV, tCall, tCallSD, tDrop, mPar, mPar3, mLstM, mStrM, mBits, mRng1, mRng2, mgTup, mgSeq, mgCons, mgNil, q_add1, q_add2, q_add3, q_add4, q_iadd1, q_iadd2, q_iadd3, q_sorted, q_sub, q_mul1, q_mul2, q_mul3, q_mod, q_div, q_pow, q_eq1, q_eq2, q_eq3, q_eq4, q_eq5, q_eq6, q_eq7, q_eq8, q_eq9, q_eq10, q_ne1, q_ne2, q_ne3, q_ne9, q_ne10, q_lt, q_le, q_gt, q_ge, q_inc1, q_ix1, q_ix2, q_sl1, q_sl2, q_set, q_len1, q_len2, q_int1, q_int2, q_max, q_min, q_abs, q_sum, q_list, q_isi1, q_is1, q_not1, q_isN1, q_isN2, q_isN3, q_isN4, q_join, q_count, q_split, q_app, q_pop, q_clear, q_isiE, q_repr, wipe, List.map_cons, List.map_nil, List.length_cons, List.length_nil, List.length_append, List.length_map, List.nil_append, List.cons_append, List.append_nil, cut_m3, cut_t3, cut_m1, cut_t1, cut_t2, S_eq, decide_eq_true_eq, Bool.not_eq_true', decide_eq_false_iff_not, ne_eq])
local macro_rules | `(tactic| walk_at "hh") => `(tactic| first | assumption | exact upd_same | exact Ex.new (by assumption) _ _ (by walk_at "hh") | exact Ex.at (by assumption) (by assumption) | solve_by_elim [Ex.at])
local macro_rules | `(tactic| walk_at "ee") => `(tactic| first | assumption | exact Ex.refl _ | exact Ex.push (by walk_at "ee") (by assumption) | exact Ex.trans (by assumption) (by assumption) | solve_by_elim [Ex.trans])
local macro_rules | `(tactic| walk_at "sz") => `(tactic| first | (rw [szl]; omega) | (simp only [szl, tx_len, sg_len, List.length_map, List.length_append, List.length_cons, List.length_nil, List.length_singleton, List.length_take, List.length_drop, List.length_reverse, S_len]; omega))
def sp__law_text (K : PySem.W.Frag) (N : Nat) : Sp := fun vs H Q _ => ∃ (v : V) (t : Tr), vs = [v] ∧ Nst K H v t ∧ t.n < N ∧ t.n ≤ 100000 ∧ ∀ H', Ex H H' → Q (.str (S t.s)) H'
theorem pu__law_text (K : PySem.W.Frag) (N : Nat) (vs : List V) (H : Hp) (Q : VK) (E : XK) (h : sp__law_text K (N + 1) vs H Q E) : rd__law_text K (sp__law_text K N) { nx := fun _ H' => Q .non H', rt := Q } (L2.start N__law_text vs) H := by
  obtain ⟨v, t, rfl, ht, hN, hl, k⟩ := h
  obtain ⟨a, rfl⟩ := ht.ref
  show rd__law_text K _ _ [some _] H
  unfold rd__law_text
  walk_at "go"
  refine ⟨by walk_at "sz", fun p hp => ?_⟩
  refine eq_nil (ht.ex (Ex.new hp)) (SqT.of upd_same) ?_
  have e1 := Ex.new (o := .tup []) hp
  cases ht with
  | lf h1 =>
    walk_at "go"
    exact k _ e1
  | @nd _ l r t u h1 h2 h3 =>
    simp only [Tr.n] at hN hl
    have l1 := t.s_len
    have l2 := u.s_len
    walk_at "go"
    rw [if_neg (by simp)]
    refine ⟨_, _, .inr (e1.T h1), aI_0 _ _, ?_⟩
    refine ⟨l, t, rfl, h2.ex e1, by omega, by omega, fun H1 e2 => ?_⟩
    walk_at "go"
    have e3 := e1.trans e2
    refine ⟨by walk_at "sz", _, _, .inr (e3.T h1), aI_1 _ _ _, ?_⟩
    refine ⟨r, u, rfl, h3.ex e3, by omega, by omega, fun H2 e4 => ?_⟩
    walk_at "go"
    refine ⟨by walk_at "sz", by walk_at "sz", ?_⟩
    have := k H2 (e3.trans e4)
    simpa only [Tr.s, List.append_assoc, List.cons_append, List.nil_append] using this
end Pf

namespace Pf
open PySem PySem.Spec PyProof.Rows L2 M
local macro_rules | `(tactic| walk_at "go") => `(tactic| try simp only [tSeq, tIfS, tIf, tNot, mTest, tCB, tCons, tNil, mVar, M.gt, mC, Bool.not_true, Bool.not_false, Bool.false_eq_true, if_false, if_true, tNext, tAsg, gName, gSub, List.set_cons_zero, List.set_cons_succ, mFor, mIter, mRevS, S_cps, S_len, S_app, tOp, tSl, mPart, mUn, tNoPart, tRet, tRetN, tTup, tLst, tAnd, tOr, mAndV, mOrV, mNotV, tCall, tCallSD, tDrop, mPar, mPar3, mLstM, mStrM, mBits, mRng1, mRng2, mgTup, mgSeq, mgCons, mgNil, q_add1, q_add2, q_add3, q_add4, q_iadd1, q_iadd2, q_iadd3, q_sorted, q_sub, q_mul1, q_mul2, q_mul3, q_mod, q_div, q_pow, q_eq1, q_eq2, q_eq3, q_eq4, q_eq5, q_eq6, q_eq7, q_eq8, q_eq9, q_eq10, q_ne1, q_ne2, q_ne3, q_ne9, q_ne10, q_lt, q_le, q_gt, q_ge, q_inc1, q_ix1, q_ix2, q_sl1, q_sl2, q_set, q_len1, q_len2, q_int1, q_int2, q_max, q_min, q_abs, q_sum, q_list, q_isi1, q_is1, q_not1, q_isN1, q_isN2, q_isN3, q_isN4, q_join, q_count, q_split, q_app, q_pop, q_clear, q_isiE, q_repr, wipe, List.map_cons, List.map_nil, List.length_cons, List.length_nil, List.length_append, List.length_map, List.nil_append, List.cons_append, List.append_nil, cut_m3, cut_t3, cut_m1, cut_t1, cut_t2, S_eq, decide_eq_true_eq, Bool.not_eq_true', decide_eq_false_iff_not, ne_eq])
local macro_rules | `(tactic| walk_at "hh") => `(tactic| first | assumption | exact upd_same | exact Ex.new (by assumption) _ _ (by walk_at "hh") | exact Ex.at (by assumption) (by assumption) | solve_by_elim [Ex.at])
local macro_rules | `(tactic| walk_at "ee") => `(tactic| first | assumption | exact Ex.refl _ | exact Ex.push (by walk_at "ee") (by assumption) | exact Ex.trans (by assumption) (by assumption) | solve_by_elim [Ex.trans])
local macro_rules | `(tactic| walk_at "sz") => `(tactic| first | (rw [szl]; omega) | (simp only [szl, tx_len, sg_len, List.length_map, List.length_append, List.length_cons, List.length_nil, List.length_singleton, List.length_take, List.length_drop, List.length_reverse, S_len]; omega))
/-- a row of nests -/
inductive NL (K : PySem.W.Frag) (H : Hp) : List V → List Tr → Prop
  | nil : NL K H [] []
  | cons {v : V} {t : Tr} {vs : List V} {ts : List Tr} : Nst K H v t → NL K H vs ts → NL K H (v :: vs) (t :: ts)
theorem NL.ex {K : PySem.W.Frag} {H H' : Hp} (e : Ex H H') {vs : List V} {ts : List Tr} (h : NL K H vs ts) : NL K H' vs ts := by
  induction h with
  | nil => exact .nil
  | cons h _ ih => exact .cons (h.ex e) ih
theorem NL.fm {K : PySem.W.Frag} {H H' : Hp} {m : List Addr} (hm : ∀ p ∈ m, H p = none ∨ ∃ xs, H p = some (.lst xs)) (f : Fm m H H') {vs : List V} {ts : List Tr} (h : NL K H vs ts) : NL K H' vs ts := by
  induction h with
  | nil => exact .nil
  | cons h _ ih => exact .cons (Nst.fm hm f h) ih
theorem NL.len {K : PySem.W.Frag} {H : Hp} {vs : List V} {ts : List Tr} (h : NL K H vs ts) : vs.length = ts.length := by
  induction h with
  | nil => rfl
  | cons _ _ ih => rw [List.length_cons, List.length_cons, ih]
theorem NL.app {K : PySem.W.Frag} {H : Hp} {vs us : List V} {ts rs : List Tr} (h : NL K H vs ts) (g : NL K H us rs) : NL K H (vs ++ us) (ts ++ rs) := by
  induction h with
  | nil => exact g
  | cons h _ ih => exact .cons h ih
theorem grow_rest : ∀ (t : Tr) (hs : List Tr), t.n + 1 ≤ hs.length → (Tr.grow t hs).2.length + t.n + 1 = hs.length
  | .lf, hs, h => by
    cases hs with
    | nil => simp at h
    | cons x r => simp [Tr.grow, Tr.n]
  | .nd a b, hs, h => by
    simp only [Tr.n] at h
    have h1 := grow_rest a hs (by omega)
    have h2 := grow_rest b (Tr.grow a hs).2 (by omega)
    simp only [Tr.grow, Tr.n]
    omega
def sp__law_filled (K : PySem.W.Frag) (N : Nat) : Sp := fun vs H Q _ => ∃ (v : V) (t : Tr) (p : Addr) (us : List V) (hs : List Tr), vs = [v, .ref p] ∧ Nst K H v t ∧ t.n < N ∧ H p = some (.lst us) ∧ NL K H us hs ∧ t.n + 1 ≤ hs.length ∧
  ∀ H' r us', Fm [p] H H' → H' p = some (.lst us') → NL K H' us' (Tr.grow t hs).2 → Nst K H' r (Tr.grow t hs).1 → Q r H'
theorem pu__law_filled (K : PySem.W.Frag) (N : Nat) (vs : List V) (H : Hp) (Q : VK) (E : XK) (h : sp__law_filled K (N + 1) vs H Q E) : rd__law_filled K (sp__law_filled K N) { nx := fun _ H' => Q .non H', rt := Q } (L2.start N__law_filled vs) H := by
  obtain ⟨v, t, p, us, hs, rfl, ht, hN, hp, hu, hl, k⟩ := h
  obtain ⟨a, rfl⟩ := ht.ref
  show rd__law_filled K _ _ [some _, some _, none] H
  unfold rd__law_filled
  walk_at "go"
  refine ⟨by walk_at "sz", fun q hq => ?_⟩
  refine eq_nil (ht.ex (Ex.new hq)) (SqT.of upd_same) ?_
  have e1 := Ex.new (o := .tup []) hq
  have hp1 := e1 _ _ hp
  cases ht with
  | lf h1 =>
    walk_at "go"
    cases hu with
    | nil => simp at hl
    | @cons w u ws ts hw hws =>
      refine ⟨⟨_, hp1⟩, _, hp1, ?_⟩
      refine ⟨rfl, w, ws, rfl, ?_⟩
      have hm : ∀ x ∈ [p], (upd H q (.tup [])) x = none ∨ ∃ xs, (upd H q (.tup [])) x = some (.lst xs) := fun x hx => by rw [List.mem_singleton.mp hx]; exact .inr ⟨_, hp1⟩
      have f : Fm [p] (upd H q (.tup [])) _ := Fm.mut (o := .lst ws) List.mem_cons_self
      refine k _ w ws ((Fm.ex e1).trans f) upd_same ?_ ?_
      · exact NL.fm hm f (hws.ex e1)
      · exact Nst.fm hm f (hw.ex e1)
  | @nd _ l r t u h1 h2 h3 =>
    simp only [Tr.n] at hN hl
    simp only [Tr.grow] at k
    have g1 := grow_rest t hs (by omega)
    walk_at "go"
    rw [if_neg (by simp)]
    refine ⟨_, _, .inr (e1.T h1), aI_0 _ _, ?_⟩
    refine ⟨l, t, p, us, hs, rfl, h2.ex e1, by omega, hp1, hu.ex e1, by omega, fun H1 x us1 f1 hp2 hu1 hx => ?_⟩
    walk_at "go"
    have hm1 : ∀ x ∈ [p], (upd H q (.tup [])) x = none ∨ ∃ xs, (upd H q (.tup [])) x = some (.lst xs) := fun x hx => by rw [List.mem_singleton.mp hx]; exact .inr ⟨_, hp1⟩
    have hv1 := Nst.fm hm1 f1 ((Nst.nd h1 h2 h3).ex e1)
    cases hv1 with
    | @nd _ l' r' _ _ j1 j2 j3 =>
      refine ⟨_, _, .inr j1, aI_1 _ _ _, ?_⟩
      refine ⟨r', u, p, us1, _, rfl, j3, by omega, hp2, hu1, by omega, fun H2 y us2 f2 hp3 hu2 hy => ?_⟩
      walk_at "go"
      refine ⟨by walk_at "sz", fun z hz => ?_⟩
      have hm2 : ∀ x ∈ [p], H1 x = none ∨ ∃ xs, H1 x = some (.lst xs) := fun x hx => by rw [List.mem_singleton.mp hx]; exact .inr ⟨_, hp2⟩
      have e2 := Ex.new (o := .tup [x, y]) hz
      refine k _ _ us2 ((Fm.ex e1).trans (f1.trans (f2.trans (Fm.ex e2)))) (e2 _ _ hp3) (hu2.ex e2) ?_
      exact .nd (SqT.of upd_same) ((Nst.fm hm2 f2 hx).ex e2) (hy.ex e2)
def sp__law_both (K : PySem.W.Frag) (N : Nat) : Sp := fun vs H Q _ => ∃ (v w : V) (t u : Tr), vs = [v, w] ∧ Nst K H v t ∧ Nst K H w u ∧ t.n < N ∧ ∀ H' r, Ex H H' → Nst K H' r (Tr.join t u) → Q r H'
theorem pu__law_both (K : PySem.W.Frag) (N : Nat) (vs : List V) (H : Hp) (Q : VK) (E : XK) (h : sp__law_both K (N + 1) vs H Q E) : rd__law_both K (sp__law_both K N) { nx := fun _ H' => Q .non H', rt := Q } (L2.start N__law_both vs) H := by
  obtain ⟨v, w, t, u, rfl, ht, hu, hN, k⟩ := h
  obtain ⟨a, rfl⟩ := ht.ref
  obtain ⟨b, rfl⟩ := hu.ref
  show rd__law_both K _ _ [some _, some _] H
  unfold rd__law_both
  walk_at "go"
  refine ⟨by walk_at "sz", fun q hq => ?_⟩
  refine eq_nil (ht.ex (Ex.new hq)) (SqT.of upd_same) ?_
  have e1 := Ex.new (o := .tup []) hq
  have ht1 := ht.ex e1
  cases ht with
  | lf h1 =>
    walk_at "go"
    refine k _ _ e1 (hu.ex e1)
  | @nd _ l r t1 t2 h1 h2 h3 =>
    simp only [Tr.n] at hN
    walk_at "go"
    rw [if_neg (by simp)]
    refine ⟨by walk_at "sz", fun q2 hq2 => ?_⟩
    have e2 := e1.push (o := .tup []) hq2
    refine eq_nil (hu.ex e2) (SqT.of upd_same) ?_
    cases hu with
    | lf g1 =>
      walk_at "go"
      refine k _ _ e2 ?_
      rw [Tr.join_lf]
      exact ht1.ex (Ex.new hq2)
    | @nd _ l2 r2 u1 u2 g1 g2 g3 =>
      walk_at "go"
      rw [if_neg (by simp)]
      refine ⟨_, _, .inr (e2.T h1), aI_0 _ _, _, _, .inr (e2.T g1), aI_0 _ _, ?_⟩
      refine ⟨l, l2, t1, u1, rfl, h2.ex e2, g2.ex e2, by omega, fun H1 x e3 hx => ?_⟩
      have e4 := e2.trans e3
      refine ⟨_, _, .inr (e4.T h1), aI_1 _ _ _, _, _, .inr (e4.T g1), aI_1 _ _ _, ?_⟩
      refine ⟨r, r2, t2, u2, rfl, h3.ex e4, g3.ex e4, by omega, fun H2 y e5 hy => ?_⟩
      walk_at "go"
      refine ⟨by walk_at "sz", fun z hz => ?_⟩
      have e6 := Ex.new (o := .tup [x, y]) hz
      refine k _ _ ((e4.trans e5).trans e6) ?_
      exact .nd (SqT.of upd_same) ((hx.ex e5).ex e6) (hy.ex e6)
end Pf

namespace Pf
open PySem PySem.Spec PyProof.Rows L2 M
local macro_rules | `(tactic| walk_at "go") => `(tactic| try simp only [tSeq, tIfS, tIf, tNot, mTest, tCB, tCons, tNil, mVar, M.gt, mC, Bool.not_true, Bool.not_false, Bool.false_eq_true, if_false, if_true, tNext, tAsg, gName, gSub, List.set_cons_zero, List.set_cons_succ, mFor, mIter, mRevS, S_cps, S_len, S_app, tOp, tSl, mPart, mUn, tNoPart, tRet, tRetN, tTup, tLst, tAnd, tOr, mAndV, mOrV, mNotV, tCall, tCallSD, tDrop, mPar, mPar3, mLstM, mStrM, mBits, mRng1, mRng2, mgTup, mgSeq, mgCons, mgNil, q_add1, q_add2, q_add3, q_add4, q_iadd1, q_iadd2, q_iadd3, q_sorted, q_sub, q_mul1, q_mul2, q_mul3, q_mod, q_div, q_pow, q_eq1, q_eq2, q_eq3, q_eq4, q_eq5, q_eq6, q_eq7, q_eq8, q_eq9, q_eq10, q_ne1, q_ne2, q_ne3, q_ne9, q_ne10, q_lt, q_le, q_gt, q_ge, q_inc1, q_ix1, q_ix2, q_sl1, q_sl2, q_set, q_len1, q_len2, q_int1, q_int2, q_max, q_min, q_abs, q_sum, q_list, q_isi1, q_is1, q_not1, q_isN1, q_isN2, q_isN3, q_isN4, q_join, q_count, q_split, q_app, q_pop, q_clear, q_isiE, q_repr, wipe, List.map_cons, List.map_nil, List.length_cons, List.length_nil, List.length_append, List.length_map, List.nil_append, List.cons_append, List.append_nil, cut_m3, cut_t3, cut_m1, cut_t1, cut_t2, S_eq, decide_eq_true_eq, Bool.not_eq_true', decide_eq_false_iff_not, ne_eq])
local macro_rules | `(tactic| walk_at "hh") => `(tactic| first | assumption | exact upd_same | exact Ex.new (by assumption) _ _ (by walk_at "hh") | exact Ex.at (by assumption) (by assumption) | solve_by_elim [Ex.at])
local macro_rules | `(tactic| walk_at "ee") => `(tactic| first | assumption | exact Ex.refl _ | exact Ex.push (by walk_at "ee") (by assumption) | exact Ex.trans (by assumption) (by assumption) | solve_by_elim [Ex.trans])
local macro_rules | `(tactic| walk_at "sz") => `(tactic| first | (rw [szl]; omega) | (simp only [szl, tx_len, sg_len, List.length_map, List.length_append, List.length_cons, List.length_nil, List.length_singleton, List.length_take, List.length_drop, List.length_reverse, S_len]; omega))
def sp__law_core (K : PySem.W.Frag) (N : Nat) : Sp := fun vs H Q _ => ∃ (v w : V) (t u : Tr), vs = [v, w] ∧ Nst K H v t ∧ Nst K H w u ∧ t.n < N ∧ ∀ H' r, Ex H H' → Nst K H' r (Tr.meet t u) → Q r H'
theorem pu__law_core (K : PySem.W.Frag) (N : Nat) (vs : List V) (H : Hp) (Q : VK) (E : XK) (h : sp__law_core K (N + 1) vs H Q E) : rd__law_core K (sp__law_core K N) { nx := fun _ H' => Q .non H', rt := Q } (L2.start N__law_core vs) H := by
  obtain ⟨v, w, t, u, rfl, ht, hu, hN, k⟩ := h
  obtain ⟨a, rfl⟩ := ht.ref
  obtain ⟨b, rfl⟩ := hu.ref
  show rd__law_core K _ _ [some _, some _] H
  unfold rd__law_core
  walk_at "go"
  refine ⟨by walk_at "sz", fun q hq => ?_⟩
  refine eq_nil (ht.ex (Ex.new hq)) (SqT.of upd_same) ?_
  have e1 := Ex.new (o := .tup []) hq
  cases ht with
  | lf h1 =>
    walk_at "go"
    refine ⟨by walk_at "sz", fun q2 hq2 => ?_⟩
    exact k _ _ (e1.push hq2) (.lf (SqT.of upd_same))
  | @nd _ l r t1 t2 h1 h2 h3 =>
    simp only [Tr.n] at hN
    walk_at "go"
    rw [if_neg (by simp)]
    refine ⟨by walk_at "sz", fun q2 hq2 => ?_⟩
    have e2 := e1.push (o := .tup []) hq2
    refine eq_nil (hu.ex e2) (SqT.of upd_same) ?_
    cases hu with
    | lf g1 =>
      walk_at "go"
      refine ⟨by walk_at "sz", fun q3 hq3 => ?_⟩
      refine k _ _ (e2.push hq3) ?_
      rw [Tr.meet_lf]
      exact .lf (SqT.of upd_same)
    | @nd _ l2 r2 u1 u2 g1 g2 g3 =>
      walk_at "go"
      rw [if_neg (by simp)]
      refine ⟨_, _, .inr (e2.T h1), aI_0 _ _, _, _, .inr (e2.T g1), aI_0 _ _, ?_⟩
      refine ⟨l, l2, t1, u1, rfl, h2.ex e2, g2.ex e2, by omega, fun H1 x e3 hx => ?_⟩
      have e4 := e2.trans e3
      refine ⟨_, _, .inr (e4.T h1), aI_1 _ _ _, _, _, .inr (e4.T g1), aI_1 _ _ _, ?_⟩
      refine ⟨r, r2, t2, u2, rfl, h3.ex e4, g3.ex e4, by omega, fun H2 y e5 hy => ?_⟩
      walk_at "go"
      refine ⟨by walk_at "sz", fun z hz => ?_⟩
      have e6 := Ex.new (o := .tup [x, y]) hz
      refine k _ _ ((e4.trans e5).trans e6) ?_
      exact .nd (SqT.of upd_same) ((hx.ex e5).ex e6) (hy.ex e6)
def sp__law_hanging (K : PySem.W.Frag) (N : Nat) : Sp := fun vs H Q _ => ∃ (v w : V) (t u : Tr), vs = [v, w] ∧ Nst K H v t ∧ Nst K H w u ∧ u.n < N ∧ u.n ≤ 100000 ∧ (Tr.le u t = false → ∀ H', Ex H H' → Q .non H') ∧
  (Tr.le u t = true → ∀ H' p us, Ex H H' → H p = none → H' p = some (.lst us) → NL K H' us (Tr.hang u t) → Q (.ref p) H')
theorem pu__law_hanging (K : PySem.W.Frag) (N : Nat) (vs : List V) (H : Hp) (Q : VK) (E : XK) (h : sp__law_hanging K (N + 1) vs H Q E) : rd__law_hanging K (sp__law_hanging K N) { nx := fun _ H' => Q .non H', rt := Q } (L2.start N__law_hanging vs) H := by
  obtain ⟨v, w, t, u, rfl, ht, hu, hN, hn, k0, k1⟩ := h
  obtain ⟨a, rfl⟩ := ht.ref
  obtain ⟨b, rfl⟩ := hu.ref
  show rd__law_hanging K _ _ [some _, some _, none, none] H
  unfold rd__law_hanging
  walk_at "go"
  refine ⟨by walk_at "sz", fun q hq => ?_⟩
  refine eq_nil (hu.ex (Ex.new hq)) (SqT.of upd_same) ?_
  have e1 := Ex.new (o := .tup []) hq
  have ht1 := ht.ex e1
  cases hu with
  | lf g1 =>
    walk_at "go"
    refine ⟨by walk_at "sz", fun q2 hq2 => ?_⟩
    refine k1 rfl _ q2 [.ref a] (e1.push hq2) (e1.free hq2) upd_same ?_
    exact .cons (ht1.ex (Ex.new hq2)) .nil
  | @nd _ l2 r2 u1 u2 g1 g2 g3 =>
    simp only [Tr.n] at hN hn
    walk_at "go"
    rw [if_neg (by simp)]
    refine ⟨by walk_at "sz", fun q2 hq2 => ?_⟩
    have e2 := e1.push (o := .tup []) hq2
    refine eq_nil (ht.ex e2) (SqT.of upd_same) ?_
    cases ht with
    | lf h1 =>
      walk_at "go"
      exact k0 rfl _ e2
    | @nd _ l r t1 t2 h1 h2 h3 =>
      simp only [Tr.le, Tr.hang] at k0 k1
      walk_at "go"
      rw [if_neg (by simp)]
      refine ⟨_, _, .inr (e2.T h1), aI_0 _ _, _, _, .inr (e2.T g1), aI_0 _ _, ?_⟩
      refine ⟨l, l2, t1, u1, rfl, h2.ex e2, g2.ex e2, by omega, by omega, fun la H1 e3 => ?_, fun la H1 p1 us1 e3 n1 hp1 hu1 => ?_⟩
      · have e4 := e2.trans e3
        refine ⟨_, _, .inr (e4.T h1), aI_1 _ _ _, _, _, .inr (e4.T g1), aI_1 _ _ _, ?_⟩
        refine ⟨r, r2, t2, u2, rfl, h3.ex e4, g3.ex e4, by omega, by omega, fun lb H2 e5 => ?_, fun lb H2 p2 us2 e5 n2 hp2 hu2 => ?_⟩
        · walk_at "go"
          exact k0 (by rw [la]; rfl) _ (e4.trans e5)
        · walk_at "go"
          exact k0 (by rw [la]; rfl) _ (e4.trans e5)
      · have e4 := e2.trans e3
        refine ⟨_, _, .inr (e4.T h1), aI_1 _ _ _, _, _, .inr (e4.T g1), aI_1 _ _ _, ?_⟩
        refine ⟨r, r2, t2, u2, rfl, h3.ex e4, g3.ex e4, by omega, by omega, fun lb H2 e5 => ?_, fun lb H2 p2 us2 e5 n2 hp2 hu2 => ?_⟩
        · walk_at "go"
          exact k0 (by rw [lb, Bool.and_false]) _ (e4.trans e5)
        · walk_at "go"
          have c1 := hu1.len
          have c2 := hu2.len
          rw [Tr.hang_len _ _ la] at c1
          rw [Tr.hang_len _ _ lb] at c2
          refine ⟨us1, us2, e5 _ _ hp1, hp2, by rw [szl]; omega, fun p3 hp3 => ?_⟩
          have e6 := Ex.new (o := .lst (us1 ++ us2)) hp3
          exact k1 (by rw [la, lb]; rfl) _ p3 (us1 ++ us2) ((e4.trans e5).trans e6) ((e4.trans e5).free hp3) upd_same ((hu1.ex (e5.trans e6)).app (hu2.ex e6))
end Pf

namespace Pf
open PySem PySem.Spec PyProof.Rows L2 M
local macro_rules | `(tactic| walk_at "go") => `(tactic| try simp only [tSeq, tIfS, tIf, tNot, mTest, tCB, tCons, tNil, mVar, M.gt, mC, Bool.not_true, Bool.not_false, Bool.false_eq_true, if_false, if_true, tNext, tAsg, gName, gSub, List.set_cons_zero, List.set_cons_succ, mFor, mIter, mRevS, S_cps, S_len, S_app, tOp, tSl, mPart, mUn, tNoPart, tRet, tRetN, tTup, tLst, tAnd, tOr, mAndV, mOrV, mNotV, tCall, tCallSD, tDrop, mPar, mPar3, mLstM, mStrM, mBits, mRng1, mRng2, mgTup, mgSeq, mgCons, mgNil, q_add1, q_add2, q_add3, q_add4, q_iadd1, q_iadd2, q_iadd3, q_sorted, q_sub, q_mul1, q_mul2, q_mul3, q_mod, q_div, q_pow, q_eq1, q_eq2, q_eq3, q_eq4, q_eq5, q_eq6, q_eq7, q_eq8, q_eq9, q_eq10, q_ne1, q_ne2, q_ne3, q_ne9, q_ne10, q_lt, q_le, q_gt, q_ge, q_inc1, q_ix1, q_ix2, q_sl1, q_sl2, q_set, q_len1, q_len2, q_int1, q_int2, q_max, q_min, q_abs, q_sum, q_list, q_isi1, q_is1, q_not1, q_isN1, q_isN2, q_isN3, q_isN4, q_join, q_count, q_split, q_app, q_pop, q_clear, q_isiE, q_repr, wipe, List.map_cons, List.map_nil, List.length_cons, List.length_nil, List.length_append, List.length_map, List.nil_append, List.cons_append, List.append_nil, cut_m3, cut_t3, cut_m1, cut_t1, cut_t2, S_eq, decide_eq_true_eq, Bool.not_eq_true', decide_eq_false_iff_not, ne_eq])
theorem trs_tx (l : List Tr) : trs l = tx (l.map Tr.s) := by unfold trs tx; rw [List.map_map]; rfl
def sp__law_pair_right (K : PySem.W.Frag) (N : Nat) : Sp := fun vs H Q _ => ∃ t u : Tr, vs = [.str (S t.s), .str (S u.s)] ∧ t.n + u.n < N ∧ t.n + u.n ≤ 10000 ∧ ∀ H', Ex H H' → Q (.bl true) H'
section
variable (K : PySem.W.Frag) (aI : Addr) (N : Nat)

theorem lp_pair (D : Ends) (t u : Tr) (hn : t.n + u.n ≤ 10000) (v2 v3 v4 v5 v8 : Option V) (w : V) (e5 : v5 = some w) (H0 : Hp) (hw : (Tr.le u t = false ∧ w = .non) ∨ (Tr.le u t = true ∧ ∃ p, w = .ref p ∧ H0 p = some (.lst (trs (Tr.hang u t))))) : ∀ (s : List V) (x6 x7 : Option V) (H1 : Hp), Ex H0 H1 →
    (∀ (w6 w7 : Option V) H2, Ex H0 H2 → D.nx [some (.str (S t.s)), some (.str (S u.s)), v2, v3, v4, v5, w6, w7, v8] H2) →
    fV (fun _ => True) (gName 6) ((rd__law_pair_right_b1 K (sp__law_parsed K) (sp_joined K aI) (sp__law_text K N) (sp__law_both K N) (sp_shared K aI) (sp__law_core K N) (sp__law_hanging K N) (sp_hung K aI))) D s [some (.str (S t.s)), some (.str (S u.s)), v2, v3, v4, v5, x6, x7, v8] H1
  | [], x6, x7, H1, e, k => ⟨trivial, k _ _ H1 e⟩
  | y :: s, x6, x7, H1, e, k => by
    have ih := lp_pair D t u hn v2 v3 v4 v5 v8 w e5 H0 hw s
    subst e5
    simp only [fV]
    refine ⟨trivial, ?_⟩
    walk_at "go"
    refine ⟨_, _, rfl, .inr ⟨t, rfl, by omega, .inr ⟨u, rfl, by omega, fun la H2 e2 => ?_, fun la H2 p e2 np hp => ?_⟩⟩⟩
    · obtain ⟨_, rfl⟩ := hw.resolve_right (by rintro ⟨z, _⟩; rw [z] at la; cases la)
      walk_at "go"
      have nn : mNe K .non .non = fun H Q => Q (.bl false) H := rfl
      rw [nn]
      walk_at "go"
      exact ih _ _ H2 (e.trans e2) k
    · obtain ⟨_, q, rfl, hq⟩ := hw.resolve_left (by rintro ⟨z, _⟩; rw [z] at la; cases la)
      walk_at "go"
      rw [trs_tx] at hp hq
      have hL : ∀ z ∈ (Tr.hang u t).map Tr.s, okc z := fun z hz => by
        obtain ⟨x, _, rfl⟩ := List.mem_map.mp hz
        exact x.s_okc
      refine eq_strs (SqL.of hp) (SqL.of ((e.trans e2) _ _ hq)) hL hL ?_
      simp only [decide_true, if_true, Bool.not_true]
      walk_at "go"
      refine ⟨⟨_, hp⟩, _, hp, by rw [szl, tx_len, List.length_map, Tr.hang_len _ _ la]; omega, ?_⟩
      exact ih _ _ _ ((e.trans e2).mut (e.free np)) k
theorem pu__law_pair_right (vs : List V) (H : Hp) (Q : VK) (E : XK) (h : sp__law_pair_right K N vs H Q E) : rd__law_pair_right K (sp__law_parsed K) (sp_joined K aI) (sp__law_text K N) (sp__law_both K N) (sp_shared K aI) (sp__law_core K N) (sp__law_hanging K N) (sp_hung K aI) { nx := fun _ H' => Q .non H', rt := Q } (L2.start N__law_pair_right vs) H := by
  obtain ⟨t, u, rfl, hN, hn, k⟩ := h
  show rd__law_pair_right K _ _ _ _ _ _ _ _ _ [some _, some _, none, none, none, none, none, none, none] H
  unfold rd__law_pair_right mLc
  have j1 := Tr.join_n_le t u
  have j2 := Tr.meet_n_le t u
  walk_at "go"
  refine ⟨t, rfl, by omega, fun H1 v e1 hv => ?_⟩
  refine ⟨u, rfl, by omega, fun H2 w e2 hw => ?_⟩
  walk_at "go"
  refine ⟨_, _, rfl, .inr ⟨t, rfl, by omega, .inr ⟨u, rfl, by omega, fun H3 e3 => ?_⟩⟩⟩
  have hv3 := hv.ex (e2.trans e3)
  have hw3 := hw.ex e3
  refine ⟨v, w, t, u, rfl, hv3, hw3, by omega, fun H4 r e4 hr => ?_⟩
  refine ⟨r, _, rfl, hr, by omega, by omega, fun H5 e5 => ?_⟩
  walk_at "go"
  rw [if_neg (fun z => z trivial)]
  refine ⟨_, _, rfl, .inr ⟨t, rfl, by omega, .inr ⟨u, rfl, by omega, fun H6 e6 => ?_⟩⟩⟩
  have e36 := (e4.trans e5).trans e6
  refine ⟨v, w, t, u, rfl, hv3.ex e36, hw3.ex e36, by omega, fun H7 r2 e7 hr2 => ?_⟩
  refine ⟨r2, _, rfl, hr2, by omega, by omega, fun H8 e8 => ?_⟩
  walk_at "go"
  rw [if_neg (fun z => z trivial)]
  have e38 := e36.trans (e7.trans e8)
  have eH8 := (e1.trans (e2.trans e3)).trans e38
  refine ⟨v, w, t, u, rfl, hv3.ex e38, hw3.ex e38, by omega, by omega, fun la H9 e9 => ?_, fun la H9 p us e9 np hp hu => ?_⟩
  · walk_at "go"
    refine ⟨⟨by decide, by decide⟩, ?_⟩
    refine lp_pair K aI N _ t u hn _ _ _ _ _ .non rfl _ (.inl ⟨la, rfl⟩) _ _ _ _ (Ex.refl _) fun w6 w7 H10 e10 => ?_
    walk_at "go"
    exact k H10 ((eH8.trans e9).trans e10)
  · walk_at "go"
    have hgl := Tr.hang_len _ _ la
    refine ⟨_, .inl ⟨SqL.of hp, fun D hD => ?_⟩⟩
    refine (?lp : ∀ (ys : List V) (ts acc : List Tr) (Hx : Hp), NL K H9 ys ts → Ex H9 Hx → Hx D = some (.lst (trs acc)) → acc ++ ts = Tr.hang u t → cV _ _ _ _ _ _ D _ ys Hx) us (Tr.hang u t) [] _ hu (Ex.new hD) upd_same rfl
    intro ys
    induction ys with
    | nil =>
      intro ts acc Hx hts ex hx hacc
      cases hts
      rw [List.append_nil] at hacc
      subst hacc
      simp only [cV]
      refine ⟨SqL.of (ex _ _ hp), ⟨by decide, by decide⟩, ?_⟩
      refine lp_pair K aI N _ t u hn _ _ _ _ _ (.ref D) rfl _ (.inr ⟨la, D, rfl, hx⟩) _ _ _ _ (Ex.refl _) fun w6 w7 H10 e10 => ?_
      walk_at "go"
      exact k H10 (((eH8.trans e9).trans ex).trans e10)
    | cons y ys ih =>
      intro ts acc Hx hts ex hx hacc
      cases hts with
      | @cons _ t1 _ ts h1 h2 =>
        have hm := Tr.hang_n u t t1 (by rw [← hacc]; simp)
        have hal := congrArg List.length hacc
        simp only [List.length_append, List.length_cons] at hal
        simp only [cV]
        refine ⟨SqL.of (ex _ _ hp), ?_⟩
        simp only [tYes]
        walk_at "go"
        refine ⟨trivial, y, t1, rfl, h1.ex ex, by omega, by omega, fun H10 e10 => ?_⟩
        walk_at "go"
        refine ⟨_, e10 _ _ hx, by rw [szl, trs_len]; omega, ?_⟩
        refine ih ts (acc ++ [t1]) _ h2 ((ex.trans e10).mut hD) ?_ (by rw [← hacc]; simp)
        rw [upd_same, trs_app]; rfl
end
end Pf

namespace Pf
open PySem PySem.Spec PyProof.Rows L2 M
local macro_rules | `(tactic| walk_at "go") => `(tactic| try simp only [tSeq, tIfS, tIf, tNot, mTest, tCB, tCons, tNil, mVar, M.gt, mC, Bool.not_true, Bool.not_false, Bool.false_eq_true, if_false, if_true, tNext, tAsg, gName, gSub, List.set_cons_zero, List.set_cons_succ, mFor, mIter, mRevS, S_cps, S_len, S_app, tOp, tSl, mPart, mUn, tNoPart, tRet, tRetN, tTup, tLst, tAnd, tOr, mAndV, mOrV, mNotV, tCall, tCallSD, tDrop, mPar, mPar3, mLstM, mStrM, mBits, mRng1, mRng2, mgTup, mgSeq, mgCons, mgNil, q_add1, q_add2, q_add3, q_add4, q_iadd1, q_iadd2, q_iadd3, q_sorted, q_sub, q_mul1, q_mul2, q_mul3, q_mod, q_div, q_pow, q_eq1, q_eq2, q_eq3, q_eq4, q_eq5, q_eq6, q_eq7, q_eq8, q_eq9, q_eq10, q_ne1, q_ne2, q_ne3, q_ne9, q_ne10, q_lt, q_le, q_gt, q_ge, q_inc1, q_ix1, q_ix2, q_sl1, q_sl2, q_set, q_len1, q_len2, q_int1, q_int2, q_max, q_min, q_abs, q_sum, q_list, q_isi1, q_is1, q_not1, q_isN1, q_isN2, q_isN3, q_isN4, q_join, q_count, q_split, q_app, q_pop, q_clear, q_isiE, q_repr, wipe, List.map_cons, List.map_nil, List.length_cons, List.length_nil, List.length_append, List.length_map, List.nil_append, List.cons_append, List.append_nil, cut_m3, cut_t3, cut_m1, cut_t1, cut_t2, S_eq, decide_eq_true_eq, Bool.not_eq_true', decide_eq_false_iff_not, ne_eq])
local macro_rules | `(tactic| walk_at "hh") => `(tactic| first | assumption | exact upd_same | exact Ex.new (by assumption) _ _ (by walk_at "hh") | exact Ex.at (by assumption) (by assumption) | solve_by_elim [Ex.at])
local macro_rules | `(tactic| walk_at "ee") => `(tactic| first | assumption | exact Ex.refl _ | exact Ex.push (by walk_at "ee") (by assumption) | exact Ex.trans (by assumption) (by assumption) | solve_by_elim [Ex.trans])
local macro_rules | `(tactic| walk_at "sz") => `(tactic| first | (rw [szl]; omega) | (simp only [szl, tx_len, sg_len, List.length_map, List.length_append, List.length_cons, List.length_nil, List.length_singleton, List.length_take, List.length_drop, List.length_reverse, S_len]; omega))
theorem two_bad {K : PySem.W.Frag} {aI : Addr} {E : XK} {H : Hp} {v w bad : V} {k : Tr → Tr → Prop} (h : v = bad ∨ ∃ t : Tr, v = .str (S t.s) ∧ t.n ≤ 100000 ∧ w = bad) (tv : TV K H bad false) (f : Fail E H aI bad) : Two K aI E H v w k := by
  rcases h with rfl | ⟨t, rfl, hn, rfl⟩
  · exact .inl ⟨tv, f⟩
  · exact .inr ⟨t, rfl, hn, .inl ⟨tv, f⟩⟩
def noEnd (K : PySem.W.Frag) (aI : Addr) : TS := (tRet (mAndV (tCB (mIsiE K) (tCons (mVar 4) (tCons (mC (.ref aI)) tNil))) (tOp (mEq K) (tCB (mRepr K) (tCons (mFld K "value" (mVar 4)) tNil)) (tCB (mRepr K) (tCons (mVar 3) tNil)))))
theorem lp_noEnd (K : PySem.W.Frag) (aI a dd : Addr) (D : Ends) (H H' : Hp) (v : V) (d : PyData) (x0 x1 x2 : Option V) (x : ExcK K "value" aI) (z1 : PySem.W.kitOne K (.ref aI) (.ref aI) = some true)
    (e : Ex H H') (ha : H' a = some (exk a (.ref aI) (some dd))) (hd : H' dd = some (.xd [("value", v)])) (sv : Sv K H v d) (k : D.rt (.bl true) H') : noEnd K aI D [x0, x1, x2, some v, some (.ref a), none] H' := by
  unfold noEnd
  walk_at "go"
  unfold mFld
  walk_at "go"
  obtain ⟨s1, s2, s3, s4⟩ := sv
  refine ⟨aI, dd, "value", _, true, x, ha, hd, z1, ?_⟩
  walk_at "go"
  refine ⟨aI, dd, v, x, ha, hd, ?_⟩
  walk_at "go"
  refine ⟨d, s1 _ e, s2, s3, s4, d, s1 _ e, s2, s3, s4, ?_⟩
  simpa using k
def sp__law_no_tree (K : PySem.W.Frag) : Sp := fun vs H Q _ => ∃ (i : Int) (v w bad : V) (d : PyData), vs = [.int i, v, w, bad] ∧ 0 ≤ i ∧ i < 4 ∧ (v = bad ∨ ∃ t : Tr, i ≠ 0 ∧ v = .str (S t.s) ∧ t.n ≤ 100000 ∧ w = bad) ∧ TV K H bad false ∧ Sv K H bad d ∧ ∀ H', Ex H H' → Q (.bl true) H'
theorem pu__law_no_tree (K : PySem.W.Frag) (aT aI aL s1 s2 s3 s4 : Addr) (x0 : PySem.W.exmOne K (.ref aI) (.ref aT) = some true) (x : ExcK K "value" aI) (z1 : PySem.W.kitOne K (.ref aI) (.ref aI) = some true) (vs : List V) (H : Hp) (Q : VK) (E : XK) (h : sp__law_no_tree K vs H Q E) :
    rd__law_no_tree K (sp_grown K aI aL) (sp_hung K aI) (sp_joined K aI) (sp_shared K aI) aT aI s1 s2 s3 s4 { nx := fun _ H' => Q .non H', rt := Q } (L2.start N__law_no_tree vs) H := by
  obtain ⟨i, v, w, bad, d, rfl, i0, i4, hc, tv, sv, k⟩ := h
  show rd__law_no_tree K _ _ _ _ _ _ _ _ _ _ _ [some _, some _, some _, some _, none, none] H
  unfold rd__law_no_tree
  walk_at "go"
  unfold mTry
  walk_at "go"
  unfold tCallV
  walk_at "go"
  refine ⟨by walk_at "sz", fun p hp => ?_⟩
  have e1 := Ex.new (o := .lst [.ref s1, .ref s2, .ref s3, .ref s4]) hp
  have tv1 := tv.ex e1
  have sv1 := sv.ex e1
  have hc2 : v = bad ∨ ∃ t : Tr, v = .str (S t.s) ∧ t.n ≤ 100000 ∧ w = bad := hc.imp id fun ⟨t, _, h1, h2, h3⟩ => ⟨t, h1, h2, h3⟩
  obtain ⟨i, rfl⟩ := Int.eq_ofNat_of_zero_le i0
  rcases i with _ | _ | _ | _ | i
  · have hv : v = bad := hc.resolve_right (by rintro ⟨t, z, _⟩; exact z rfl)
    subst hv
    refine ⟨_, _, .inl (SqL.of upd_same), aI_0 _ _, _, List.mem_cons_self, rfl, _, _, rfl, .inl ⟨tv1, fin_go x0 fun a dd H' e ha hd na nd => ?_⟩⟩
    exact lp_noEnd K aI a dd _ _ H' _ d _ _ _ x z1 e ha hd sv1 (k H' (e1.trans e))
  · refine ⟨_, .ref s2, .inl (SqL.of upd_same), rfl, (.ref s2, sp_hung K aI), by simp, rfl, _, _, rfl, two_bad hc2 tv1 (fin_go x0 fun a dd H' e ha hd na nd => ?_)⟩
    exact lp_noEnd K aI a dd _ _ H' _ d _ _ _ x z1 e ha hd sv1 (k H' (e1.trans e))
  · refine ⟨_, .ref s3, .inl (SqL.of upd_same), rfl, (.ref s3, sp_joined K aI), by simp, rfl, _, _, rfl, two_bad hc2 tv1 (fin_go x0 fun a dd H' e ha hd na nd => ?_)⟩
    exact lp_noEnd K aI a dd _ _ H' _ d _ _ _ x z1 e ha hd sv1 (k H' (e1.trans e))
  · refine ⟨_, .ref s4, .inl (SqL.of upd_same), rfl, (.ref s4, sp_shared K aI), by simp, rfl, _, _, rfl, two_bad hc2 tv1 (fin_go x0 fun a dd H' e ha hd na nd => ?_)⟩
    exact lp_noEnd K aI a dd _ _ H' _ d _ _ _ x z1 e ha hd sv1 (k H' (e1.trans e))
  · omega
end Pf

namespace Pf
open PySem PySem.Spec PyProof.Rows L2 M
local macro_rules | `(tactic| walk_at "go") => `(tactic| try simp only [tSeq, tIfS, tIf, tNot, mTest, tCB, tCons, tNil, mVar, M.gt, mC, Bool.not_true, Bool.not_false, Bool.false_eq_true, if_false, if_true, tNext, tAsg, gName, gSub, List.set_cons_zero, List.set_cons_succ, mFor, mIter, mRevS, S_cps, S_len, S_app, tOp, tSl, mPart, mUn, tNoPart, tRet, tRetN, tTup, tLst, tAnd, tOr, mAndV, mOrV, mNotV, tCall, tCallSD, tDrop, mPar, mPar3, mLstM, mStrM, mBits, mRng1, mRng2, mgTup, mgSeq, mgCons, mgNil, q_add1, q_add2, q_add3, q_add4, q_iadd1, q_iadd2, q_iadd3, q_sorted, q_sub, q_mul1, q_mul2, q_mul3, q_mod, q_div, q_pow, q_eq1, q_eq2, q_eq3, q_eq4, q_eq5, q_eq6, q_eq7, q_eq8, q_eq9, q_eq10, q_ne1, q_ne2, q_ne3, q_ne9, q_ne10, q_lt, q_le, q_gt, q_ge, q_inc1, q_ix1, q_ix2, q_sl1, q_sl2, q_set, q_len1, q_len2, q_int1, q_int2, q_max, q_min, q_abs, q_sum, q_list, q_isi1, q_is1, q_not1, q_isN1, q_isN2, q_isN3, q_isN4, q_join, q_count, q_split, q_app, q_pop, q_clear, q_isiE, q_repr, wipe, List.map_cons, List.map_nil, List.length_cons, List.length_nil, List.length_append, List.length_map, List.nil_append, List.cons_append, List.append_nil, cut_m3, cut_t3, cut_m1, cut_t1, cut_t2, S_eq, decide_eq_true_eq, Bool.not_eq_true', decide_eq_false_iff_not, ne_eq])
local macro_rules | `(tactic| walk_at "hh") => `(tactic| first | assumption | exact upd_same | exact Ex.new (by assumption) _ _ (by walk_at "hh") | exact Ex.at (by assumption) (by assumption) | solve_by_elim [Ex.at])
local macro_rules | `(tactic| walk_at "ee") => `(tactic| first | assumption | exact Ex.refl _ | exact Ex.push (by walk_at "ee") (by assumption) | exact Ex.trans (by assumption) (by assumption) | solve_by_elim [Ex.trans])
local macro_rules | `(tactic| walk_at "sz") => `(tactic| first | (rw [szl]; omega) | (simp only [szl, tx_len, sg_len, List.length_map, List.length_append, List.length_cons, List.length_nil, List.length_singleton, List.length_take, List.length_drop, List.length_reverse, S_len]; omega))
section
variable (K : PySem.W.Frag)
theorem lp_rf1 (D : Ends) (bad : V) (d : PyData) (i : Int) (i0 : 0 < i) (i4 : i < 4) (x0 : Option V) (q : Addr) (xs : List V) : ∀ (s : List V) (x3 x4 : Option V) (H : Hp), SqL K H q xs → TV K H bad false → Sv K H bad d →
    (∀ w ∈ s, ∃ p f g, w = .ref p ∧ SqT K H p [f, g] ∧ (f = bad ∨ ∃ t : Tr, f = .str (S t.s) ∧ t.n ≤ 100000 ∧ g = bad)) →
    (∀ (w3 w4 : Option V) H', Ex H H' → D.nx [x0, some bad, some (.int i), w3, w4] H') →
    fV (fun H => SqL K H q xs) (mgTup K 2 (mgCons (gName 3) (mgCons (gName 4) mgNil))) (rd__law_refused_b1 K (sp__law_no_tree K)) D s [x0, some bad, some (.int i), x3, x4] H
  | [], x3, x4, H, hL, tv, sv, hs, k => ⟨hL, k _ _ H (Ex.refl H)⟩
  | w :: s, x3, x4, H, hL, tv, sv, hs, k => by
    have ih := lp_rf1 D bad d i i0 i4 x0 q xs s
    obtain ⟨p, f, g, rfl, hp, hc⟩ := hs w List.mem_cons_self
    simp only [fV]
    refine ⟨hL, ?_⟩
    walk_at "go"
    refine ⟨_, hp, rfl, ?_⟩
    refine ⟨i, f, g, bad, d, rfl, by omega, i4, hc.imp id (fun ⟨t, h1, h2, h3⟩ => ⟨t, by omega, h1, h2, h3⟩), tv, sv, fun H1 e1 => ?_⟩
    walk_at "go"
    exact ih _ _ H1 (e1.L hL) (tv.ex e1) (sv.ex e1) (fun y hy => by
      obtain ⟨p, f, g, h1, h2, h3⟩ := hs y (List.mem_cons_of_mem _ hy)
      exact ⟨p, f, g, h1, e1.T h2, h3⟩) fun w3 w4 H2 e2 => k w3 w4 H2 (e1.trans e2)
theorem lp_rf2 (D : Ends) (t : Tr) (ht : t.n ≤ 100000) (bad : V) (d : PyData) : ∀ (s : List V) (x2 x3 x4 : Option V) (H : Hp), TV K H bad false → Sv K H bad d → (∀ w ∈ s, ∃ i : Int, w = .int i ∧ 0 < i ∧ i < 4) →
    (∀ (w2 w3 w4 : Option V) H', Ex H H' → D.nx [some (.str (S t.s)), some bad, w2, w3, w4] H') →
    fV (fun _ => True) (gName 2) (rd__law_refused_b2 K (sp__law_no_tree K)) D s [some (.str (S t.s)), some bad, x2, x3, x4] H
  | [], x2, x3, x4, H, tv, sv, hs, k => ⟨trivial, k _ _ _ H (Ex.refl H)⟩
  | w :: s, x2, x3, x4, H, tv, sv, hs, k => by
    have ih := lp_rf2 D t ht bad d s
    obtain ⟨i, rfl, i0, i4⟩ := hs w List.mem_cons_self
    simp only [fV]
    refine ⟨trivial, ?_⟩
    walk_at "go"
    refine ⟨by walk_at "sz", fun p1 h1 => ⟨by walk_at "sz", fun p2 h2 => ⟨by walk_at "sz", fun p3 h3 => ⟨by walk_at "sz", fun p4 h4 => ⟨by walk_at "sz", fun p5 h5 => ⟨by walk_at "sz", fun p6 h6 => ⟨by walk_at "sz", fun q hq => ?_⟩⟩⟩⟩⟩⟩⟩
    have eA : Ex H _ := ((((((Ex.new h1).push h2).push h3).push h4).push h5).push h6).push (o := .lst [.ref p1, .ref p2, .ref p3, .ref p4, .ref p5, .ref p6]) hq
    have eDot : (V.str (S [46])) = .str (S (Tr.lf).s) := rfl
    refine ⟨_, .inl ⟨SqL.of upd_same, ?_⟩⟩
    refine lp_rf1 K _ bad d i i0 i4 _ q _ _ _ _ _ (SqL.of upd_same) (tv.ex eA) (sv.ex eA) ?row fun w3 w4 H1 e1 => ?_
    case row =>
      intro w hw
      simp only [List.mem_cons, List.not_mem_nil, or_false] at hw
      rcases hw with rfl | rfl | rfl | rfl | rfl | rfl
      · exact ⟨p1, _, _, rfl, SqT.of (by walk_at "hh"), .inl rfl⟩
      · exact ⟨p2, _, _, rfl, SqT.of (by walk_at "hh"), .inr ⟨t, rfl, ht, rfl⟩⟩
      · exact ⟨p3, _, _, rfl, SqT.of (by walk_at "hh"), .inl rfl⟩
      · exact ⟨p4, _, _, rfl, SqT.of (by walk_at "hh"), .inr ⟨.lf, eDot, by decide, rfl⟩⟩
      · exact ⟨p5, _, _, rfl, SqT.of (by walk_at "hh"), .inl rfl⟩
      · exact ⟨p6, _, _, rfl, SqT.of (by walk_at "hh"), .inl rfl⟩
    have e2 := eA.trans e1
    exact ih _ _ _ H1 (tv.ex e2) (sv.ex e2) (fun y hy => hs y (List.mem_cons_of_mem _ hy)) fun w2 w3 w4 H2 e3 => k w2 w3 w4 H2 (e2.trans e3)
theorem lp_rf3 (D : Ends) (t : Tr) (ht : t.n ≤ 100000) (q : Addr) (xs : List V) : ∀ (s : List V) (x1 x2 x3 x4 : Option V) (H : Hp), SqL K H q xs → (∀ w ∈ s, TV K H w false ∧ ∃ d, Sv K H w d) →
    (∀ (w1 w2 w3 w4 : Option V) H', Ex H H' → D.nx [some (.str (S t.s)), w1, w2, w3, w4] H') →
    fV (fun H => SqL K H q xs) (gName 1) (rd__law_refused_b3 K (sp__law_no_tree K)) D s [some (.str (S t.s)), x1, x2, x3, x4] H
  | [], x1, x2, x3, x4, H, hL, hs, k => ⟨hL, k _ _ _ _ H (Ex.refl H)⟩
  | w :: s, x1, x2, x3, x4, H, hL, hs, k => by
    have ih := lp_rf3 D t ht q xs s
    obtain ⟨tv, d, sv⟩ := hs w List.mem_cons_self
    simp only [fV]
    refine ⟨hL, ?_⟩
    walk_at "go"
    refine ⟨0, w, .non, w, d, rfl, by decide, by decide, .inl rfl, tv, sv, fun H1 e1 => ?_⟩
    walk_at "go"
    refine ⟨by walk_at "sz", fun p hp => ?_⟩
    have e2 := e1.push (o := .lst [.str (S [46])]) hp
    refine ⟨0, w, .ref p, w, d, rfl, by decide, by decide, .inl rfl, tv.ex e2, sv.ex e2, fun H2 e3 => ?_⟩
    walk_at "go"
    refine ⟨⟨by decide, by decide, by decide, by decide⟩, ?_⟩
    have e4 := e2.trans e3
    refine lp_rf2 K _ t ht w d _ _ _ _ H2 (tv.ex e4) (sv.ex e4) (fun y hy => ?_) fun w2 w3 w4 H3 e5 => ?_
    · unfold upto at hy
      obtain ⟨j, hj, rfl⟩ := List.mem_map.mp hy
      have := List.mem_range.mp hj
      exact ⟨_, rfl, by omega, by simp at this; omega⟩
    have e6 := e4.trans e5
    exact ih _ _ _ _ H3 (e6.L hL) (fun y hy => by
      obtain ⟨b1, d, b2⟩ := hs y (List.mem_cons_of_mem _ hy)
      exact ⟨b1.ex e6, d, b2.ex e6⟩) fun w1 w2 w3 w4 H4 e7 => k w1 w2 w3 w4 H4 (e6.trans e7)
def sp__law_refused (K : PySem.W.Frag) : Sp := fun vs H Q _ => ∃ t : Tr, vs = [.str (S t.s)] ∧ t.n ≤ 1000 ∧ ∀ H', Ex H H' → Q (.bl true) H'
theorem tvs {H : Hp} {z : List Nat} (h : isTr z = false) (hc : okc z) (hl : z.length ≤ 1000000) : TV K H (.str (S z)) false ∧ ∃ d, Sv K H (.str (S z)) d := ⟨.inl ⟨z, rfl, hl, h.symm⟩, _, .str hc hl⟩
theorem pu__law_refused (vs : List V) (H : Hp) (Q : VK) (E : XK) (h : sp__law_refused K vs H Q E) : rd__law_refused K (sp__law_no_tree K) { nx := fun _ H' => Q .non H', rt := Q } (L2.start N__law_refused vs) H := by
  obtain ⟨t, rfl, ht, k⟩ := h
  show rd__law_refused K _ _ [some _, none, none, none, none] H
  unfold rd__law_refused
  have hsl := t.s_len
  walk_at "go"
  refine ⟨by walk_at "sz", fun p1 h1 => ⟨by walk_at "sz", fun p2 h2 => ?_⟩⟩
  unfold tDNewK
  walk_at "go"
  refine fun p3 h3 => ?_
  walk_at "go"
  refine ⟨by walk_at "sz", fun q hq => ?_⟩
  have sl : (PyData.list (dStrs [t.s])).shown.length ≤ sizeLine := by
    have := shown_list_le (l := [t.s]) (n := 4000) (fun z hz => by rw [List.mem_singleton.mp hz]; exact ⟨by omega, t.s_okc⟩)
    rw [szl]; simp at this; omega
  refine ⟨_, .inl ⟨SqL.of upd_same, ?_⟩⟩
  refine lp_rf3 K _ t (by omega) q _ _ _ _ _ _ _ (SqL.of upd_same) (fun w hw => ?_) fun w1 w2 w3 w4 H1 e1 => ?_
  · simp only [List.mem_cons, List.not_mem_nil, or_false] at hw
    rcases hw with rfl | rfl | rfl | rfl | rfl | rfl | rfl | rfl | rfl | rfl
    iterate 4
      · exact tvs K (by decide) (by show ∀ c ∈ _, c < 1114112; decide) (by decide)
    · exact ⟨.inr ⟨.non, rfl⟩, _, .non⟩
    · exact ⟨.inr ⟨.int _, rfl⟩, _, .int _ (by decide) (by decide +kernel)⟩
    · exact ⟨.inr ⟨.bl _, rfl⟩, _, .bl _⟩
    · exact ⟨.inr ⟨.lst (SqL.of (by walk_at "hh")), rfl⟩, .list (dStrs [t.s]), .lst (SqL.of (xs := tx [t.s]) (by walk_at "hh")) (fun H' e => dp_strs [t.s]) (by simpa only [PyData.hasDict] using noDict_strs [t.s]) (by simpa only [PyData.showable] using showable_strs [t.s]) (by simp only [PyData.depth, dep_strs]; decide) sl⟩
    · exact ⟨.inr ⟨.tup (SqT.of (by walk_at "hh")), rfl⟩, .tuple [.str (S [46]), .str (S [46])], .tup (SqT.of (xs := [.str (S [46]), .str (S [46])]) (by walk_at "hh")) (fun H' e => .cons (.str _) (.cons (.str _) .nil)) (by decide) (by decide) (by decide) (by decide +kernel)⟩
    · exact ⟨.inr ⟨.dct (by walk_at "hh"), rfl⟩, _, .dct (by walk_at "hh")⟩
  · walk_at "go"
    exact k H1 (((((Ex.new h1).push h2).push h3).push hq).trans e1)
end
end Pf

namespace Pf
open PySem PySem.Spec PyProof.Rows L2 M
local macro_rules | `(tactic| walk_at "go") => `(tactic| try simp only [tSeq, tIfS, tIf, tNot, mTest, tCB, tCons, tNil, mVar, M.gt, mC, Bool.not_true, Bool.not_false, Bool.false_eq_true, if_false, if_true, tNext, tAsg, gName, gSub, List.set_cons_zero, List.set_cons_succ, mFor, mIter, mRevS, S_cps, S_len, S_app, tOp, tSl, mPart, mUn, tNoPart, tRet, tRetN, tTup, tLst, tAnd, tOr, mAndV, mOrV, mNotV, tCall, tCallSD, tDrop, mPar, mPar3, mLstM, mStrM, mBits, mRng1, mRng2, mgTup, mgSeq, mgCons, mgNil, q_add1, q_add2, q_add3, q_add4, q_iadd1, q_iadd2, q_iadd3, q_sorted, q_sub, q_mul1, q_mul2, q_mul3, q_mod, q_div, q_pow, q_eq1, q_eq2, q_eq3, q_eq4, q_eq5, q_eq6, q_eq7, q_eq8, q_eq9, q_eq10, q_ne1, q_ne2, q_ne3, q_ne9, q_ne10, q_lt, q_le, q_gt, q_ge, q_inc1, q_ix1, q_ix2, q_sl1, q_sl2, q_set, q_len1, q_len2, q_int1, q_int2, q_max, q_min, q_abs, q_sum, q_list, q_isi1, q_is1, q_not1, q_isN1, q_isN2, q_isN3, q_isN4, q_join, q_count, q_split, q_app, q_pop, q_clear, q_isiE, q_repr, wipe, List.map_cons, List.map_nil, List.length_cons, List.length_nil, List.length_append, List.length_map, List.nil_append, List.cons_append, List.append_nil, cut_m3, cut_t3, cut_m1, cut_t1, cut_t2, S_eq, decide_eq_true_eq, Bool.not_eq_true', decide_eq_false_iff_not, ne_eq])
/-- a bad list of trees, as it is shown: no list, or a list that may grow -/
def BadS (K : PySem.W.Frag) (H : Hp) (w : V) (k : Hp → Prop) : Prop :=
  ((∀ (H' : Hp) (Q : VK), Ex H H' → Q (.bl false) H' → mIsi K [w, .ty "list"] H' Q) ∧ (∃ d, Sv K H w d) ∧ ∀ H', Ex H H' → k H') ∨
  ∃ (p : Addr) (xs : List V) (d : PyData), w = .ref p ∧ H p = some (.lst xs) ∧ xs.length ≤ 100000 ∧ (∀ H', Ex H H' → ShD K H' w d) ∧ d.showable = true ∧ d.depth ≤ 64 ∧ d.shown.length ≤ sizeLine ∧ ∀ H', Fm [p] H H' → k H'
def cgEnd (K : PySem.W.Frag) (aL : Addr) : TS := (tSeq (tIfS (tNot (mTest (tCB (mIsiE K) (tCons (mVar 2) (tCons (mC (.ref aL)) tNil))))) (tRet (mC (.bl false))) tNext)
  (tSeq (tAsg (tCB (mReprD K) (tCons (mVar 1) tNil)) (gName 4))
  (tSeq (tIfS (mTest (tCB (mIsi K) (tCons (mVar 1) (tCons (mC (.ty "list")) tNil)))) (tSeq (tDrop (mLstM mApp (mVar 1) (tCons (mC (.str (S [109, 111, 114, 101]))) tNil)))
  (tRet (tOp (mEq K) (tCB (mLen K) (tCons (mFld K "value" (mVar 2)) tNil)) (tCB (mLen K) (tCons (mVar 1) tNil))))) tNext)
  (tRet (tOp (mEq K) (tCB (mReprD K) (tCons (mFld K "value" (mVar 2)) tNil)) (mVar 4))))))
theorem lp_cgEnd (K : PySem.W.Frag) (aL a dd : Addr) (H H' : Hp) (Q : VK) (w : V) (x0 x4 : Option V) (x : ExcK K "value" aL) (z1 : PySem.W.kitOne K (.ref aL) (.ref aL) = some true)
    (e : Ex H H') (ha : H' a = some (exk a (.ref aL) (some dd))) (hd : H' dd = some (.xd [("value", w)])) (bs : BadS K H w (Q (.bl true))) : cgEnd K aL { nx := fun _ H' => Q .non H', rt := Q } [x0, some w, some (.ref a), none, x4] H' := by
  unfold cgEnd
  walk_at "go"
  unfold mFld
  walk_at "go"
  refine ⟨aL, dd, "value", _, true, x, ha, hd, z1, ?_⟩
  walk_at "go"
  rcases bs with ⟨hi, ⟨d, s1, s2, s3, s4⟩, k⟩ | ⟨p, xs, d, rfl, hp, hl, s1, s2, s3, s4, k⟩
  · refine ⟨d, .sh (s1 _ e), s2, s3, s4, ?_⟩
    walk_at "go"
    refine hi H' _ e ?_
    walk_at "go"
    refine ⟨aL, dd, w, x, ha, hd, ?_⟩
    walk_at "go"
    refine ⟨d, .sh (s1 _ e), s2, s3, s4, ?_⟩
    show mEq K (V.str d.shown) (V.str d.shown) H' Q
    rw [q_eq2]
    simpa using k H' e
  · have l1 := e _ _ hp
    refine ⟨d, s1 _ e, s2, s3, s4, ?_⟩
    walk_at "go"
    refine ⟨_, _, tyX_list (SqL.of l1), ki_list.2.2.2.1, ?_⟩
    walk_at "go"
    refine ⟨⟨_, l1⟩, _, l1, by rw [szl]; omega, ?_⟩
    have na : a ≠ p := fun z => by rw [z, l1] at ha; cases ha
    have nd : dd ≠ p := fun z => by rw [z, l1] at hd; cases hd
    refine ⟨aL, dd, _, x, (upd_ne na).trans ha, (upd_ne nd).trans hd, ?_⟩
    walk_at "go"
    refine ⟨_, .inl (SqL.of upd_same), _, .inl (SqL.of upd_same), ?_⟩
    simpa using k _ (fun q o nq hq => (upd_ne (show q ≠ p from fun z => nq (by simp [z]))).trans (e _ _ hq))
def sp__law_caught (K : PySem.W.Frag) : Sp := fun vs H Q _ => ∃ (t : Tr) (w : V), vs = [.str (S t.s), w] ∧ t.n ≤ 100000 ∧ BadL K H t w ∧ BadS K H w (Q (.bl true))
theorem pu__law_caught (K : PySem.W.Frag) (aT aI aL : Addr) (x0 : PySem.W.exmOne K (.ref aL) (.ref aT) = some true) (x : ExcK K "value" aL) (z1 : PySem.W.kitOne K (.ref aL) (.ref aL) = some true) (vs : List V) (H : Hp) (Q : VK) (E : XK) (h : sp__law_caught K vs H Q E) :
    rd__law_caught K (sp_grown K aI aL) aT aL { nx := fun _ H' => Q .non H', rt := Q } (L2.start N__law_caught vs) H := by
  obtain ⟨t, w, rfl, ht, bad, bs⟩ := h
  show rd__law_caught K _ _ _ _ [some _, some _, none, none, none] H
  unfold rd__law_caught mTry
  walk_at "go"
  refine ⟨_, w, rfl, .inr ⟨t, rfl, ht, .inl ⟨bad, fin_go x0 fun a dd H' e ha hd na nd => ?_⟩⟩⟩
  exact lp_cgEnd K aL a dd H H' Q w _ _ x z1 e ha hd bs
end Pf

namespace Pf
open PySem PySem.Spec PyProof.Rows L2 M
local macro_rules | `(tactic| walk_at "go") => `(tactic| try simp only [tSeq, tIfS, tIf, tNot, mTest, tCB, tCons, tNil, mVar, M.gt, mC, Bool.not_true, Bool.not_false, Bool.false_eq_true, if_false, if_true, tNext, tAsg, gName, gSub, List.set_cons_zero, List.set_cons_succ, mFor, mIter, mRevS, S_cps, S_len, S_app, tOp, tSl, mPart, mUn, tNoPart, tRet, tRetN, tTup, tLst, tAnd, tOr, mAndV, mOrV, mNotV, tCall, tCallSD, tDrop, mPar, mPar3, mLstM, mStrM, mBits, mRng1, mRng2, mgTup, mgSeq, mgCons, mgNil, q_add1, q_add2, q_add3, q_add4, q_iadd1, q_iadd2, q_iadd3, q_sorted, q_sub, q_mul1, q_mul2, q_mul3, q_mod, q_div, q_pow, q_eq1, q_eq2, q_eq3, q_eq4, q_eq5, q_eq6, q_eq7, q_eq8, q_eq9, q_eq10, q_ne1, q_ne2, q_ne3, q_ne9, q_ne10, q_lt, q_le, q_gt, q_ge, q_inc1, q_ix1, q_ix2, q_sl1, q_sl2, q_set, q_len1, q_len2, q_int1, q_int2, q_max, q_min, q_abs, q_sum, q_list, q_isi1, q_is1, q_not1, q_isN1, q_isN2, q_isN3, q_isN4, q_join, q_count, q_split, q_app, q_pop, q_clear, q_isiE, q_repr, wipe, List.map_cons, List.map_nil, List.length_cons, List.length_nil, List.length_append, List.length_map, List.nil_append, List.cons_append, List.append_nil, cut_m3, cut_t3, cut_m1, cut_t1, cut_t2, S_eq, decide_eq_true_eq, Bool.not_eq_true', decide_eq_false_iff_not, ne_eq])
local macro_rules | `(tactic| walk_at "hh") => `(tactic| first | assumption | exact upd_same | exact Ex.new (by assumption) _ _ (by walk_at "hh") | exact Ex.at (by assumption) (by assumption) | solve_by_elim [Ex.at])
local macro_rules | `(tactic| walk_at "ee") => `(tactic| first | assumption | exact Ex.refl _ | exact Ex.push (by walk_at "ee") (by assumption) | exact Ex.trans (by assumption) (by assumption) | solve_by_elim [Ex.trans])
local macro_rules | `(tactic| walk_at "sz") => `(tactic| first | (rw [szl]; omega) | (simp only [szl, tx_len, sg_len, List.length_map, List.length_append, List.length_cons, List.length_nil, List.length_singleton, List.length_take, List.length_drop, List.length_reverse, S_len]; omega))
/-- the left and the right comb -/
def lcm : Nat → Tr
  | 0 => .lf
  | n + 1 => .nd (lcm n) .lf
def rcm : Nat → Tr
  | 0 => .lf
  | n + 1 => .nd .lf (rcm n)
theorem lcm_n : ∀ m, (lcm m).n = m
  | 0 => rfl
  | m + 1 => by simp [lcm, Tr.n, lcm_n m]
theorem rcm_n : ∀ m, (rcm m).n = m
  | 0 => rfl
  | m + 1 => by simp [rcm, Tr.n, rcm_n m]
theorem comb_n (m : Nat) : (Tr.join (lcm (m + 1)) (rcm (m + 1))).n = 2 * m + 1 := by
  simp only [lcm, rcm, Tr.join, Tr.join_lf, Tr.n, lcm_n, rcm_n]
  omega
theorem hang_sum : ∀ t u : Tr, Tr.le t u = true → ((Tr.hang t u).map Tr.n).sum ≤ u.n
  | .lf, u, _ => by simp [Tr.hang]
  | .nd a b, .lf, h => by simp [Tr.le] at h
  | .nd a b, .nd c d, h => by
    simp only [Tr.le, Bool.and_eq_true] at h
    have h1 := hang_sum a c h.1
    have h2 := hang_sum b d h.2
    simp only [Tr.hang, List.map_append, List.sum_append, Tr.n]
    omega
theorem grow_dots : ∀ (t : Tr) (r : List Tr), Tr.grow t (List.replicate (t.n + 1) Tr.lf ++ r) = (t, r)
  | .lf, r => rfl
  | .nd a b, r => by
    have e : List.replicate ((Tr.nd a b).n + 1) Tr.lf ++ r = List.replicate (a.n + 1) Tr.lf ++ (List.replicate (b.n + 1) Tr.lf ++ r) := by
      rw [← List.append_assoc, List.replicate_append_replicate]
      simp only [Tr.n]
      congr 2
      omega
    rw [e]
    simp only [Tr.grow, grow_dots a, grow_dots b]
theorem dots_row (n : Nat) : (List.replicate n [V.str (S [46])]).flatten = trs (List.replicate n Tr.lf) := by
  induction n with
  | zero => rfl
  | succ n ih => rw [List.replicate_succ, List.flatten_cons, ih, List.replicate_succ]; rfl
theorem dots_sum (n : Nat) : ((List.replicate n Tr.lf).map Tr.n).sum = 0 := by
  induction n with
  | zero => rfl
  | succ n ih => rw [List.replicate_succ, List.map_cons, List.sum_cons, ih]; rfl
def sp__law_great_right : Sp := fun vs H Q _ => ∃ (g : Addr) (n : Nat), vs = [.ref g] ∧ Pu H g n ∧ n ≤ 2 ^ 80 ∧ ∀ H', Q (.bl true) H'
section
variable (K : PySem.W.Frag) (aI aL : Addr)
theorem lp_great (D : Ends) (x0 x4 : Option V) (H : Hp) : ∀ (s : List V) (m : Nat) (x3 : Option V), m + s.length ≤ 300 →
    (∀ (w3 : Option V), D.nx [x0, some (.str (S (lcm (m + s.length)).s)), some (.str (S (rcm (m + s.length)).s)), w3, x4] H) →
    fV (fun _ => True) (gName 3) (rd__law_great_right_b1 K sp__law_random (sp_joined K aI) (sp_shared K aI) (sp_hung K aI) (sp_grown K aI aL)) D s [x0, some (.str (S (lcm m).s)), some (.str (S (rcm m).s)), x3, x4] H
  | [], m, x3, hm, k => ⟨trivial, k _⟩
  | w :: s, m, x3, hm, k => by
    have ih := lp_great D x0 x4 H s (m + 1)
    simp only [List.length_cons] at hm k
    have l1 := (lcm m).s_len
    have l2 := (rcm m).s_len
    rw [lcm_n] at l1
    rw [rcm_n] at l2
    simp only [fV]
    refine ⟨trivial, ?_⟩
    walk_at "go"
    refine ⟨by walk_at "sz", by walk_at "sz", by walk_at "sz", by walk_at "sz", ?_⟩
    have := ih (some w) (by omega) (fun w3 => by rw [show m + 1 + s.length = m + (s.length + 1) by omega]; exact k w3)
    have ea : (lcm (m + 1)).s = [40] ++ (lcm m).s ++ [46, 41] := by simp [lcm, Tr.s]
    have eb : (rcm (m + 1)).s = [40, 46] ++ (rcm m).s ++ [41] := by simp [rcm, Tr.s]
    rw [ea, eb] at this
    simpa using this
theorem pu__law_great_right (vs : List V) (H : Hp) (Q : VK) (E : XK) (h : sp__law_great_right vs H Q E) : rd__law_great_right K sp__law_random (sp_joined K aI) (sp_shared K aI) (sp_hung K aI) (sp_grown K aI aL) { nx := fun _ H' => Q .non H', rt := Q } (L2.start N__law_great_right vs) H := by
  obtain ⟨g, n, rfl, pu, hn, k⟩ := h
  show rd__law_great_right K _ _ _ _ _ _ [some _, none, none, none, none] H
  unfold rd__law_great_right
  walk_at "go"
  refine ⟨by walk_at "sz", fun p hp => ?_⟩
  refine ⟨_, SqT.of upd_same, rfl, ?_⟩
  walk_at "go"
  refine ⟨g, n, 50, rfl, by decide, by decide, by omega, pu.fm (Ex.new hp), fun H1 r f1 p1 r0 r1 => ?_⟩
  obtain ⟨r, rfl⟩ := Int.eq_ofNat_of_zero_le r0
  walk_at "go"
  refine ⟨⟨by omega, by omega⟩, ?_⟩
  have eL : (upto 0 (151 + (r : Int)).toNat).length = 151 + r := by simp [upto]; omega
  refine lp_great K aI aL _ _ _ H1 _ 0 _ (by rw [eL]; omega) fun w3 => ?_
  rw [eL, Nat.zero_add, show 151 + r = (150 + r) + 1 by omega]
  have cn := comb_n (150 + r)
  have ln := lcm_n (150 + r + 1)
  have rn := rcm_n (150 + r + 1)
  have m1 : Tr.meet (Tr.join (lcm (150 + r + 1)) (rcm (150 + r + 1))) (lcm (150 + r + 1)) = lcm (150 + r + 1) := by rw [Tr.meet_comm, Tr.meet_join]
  have m2 : Tr.join (Tr.join (lcm (150 + r + 1)) (rcm (150 + r + 1))) (rcm (150 + r + 1)) = Tr.join (lcm (150 + r + 1)) (rcm (150 + r + 1)) := by rw [Tr.join_assoc, Tr.join_self]
  have m3 := Tr.le_join (lcm (150 + r + 1)) (rcm (150 + r + 1))
  generalize lcm (150 + r + 1) = L at *
  generalize rcm (150 + r + 1) = R at *
  generalize hT : Tr.join L R = T at *
  walk_at "go"
  refine ⟨_, _, rfl, .inr ⟨L, rfl, by omega, .inr ⟨R, rfl, by omega, fun H2 e2 => ?_⟩⟩⟩
  rw [hT]
  walk_at "go"
  rw [count_S (by decide), count_S (by decide), Tr.cnt_op, Tr.cnt_op]
  have lt := T.s_len
  have eD : (V.str (S [46])) = .str (S (Tr.lf).s) := rfl
  refine ⟨.of 10 20 (by decide) (by rw [Int.natAbs_natCast]; omega), ?_⟩
  rw [if_neg (by omega)]
  refine ⟨_, _, rfl, .inr ⟨T, rfl, by omega, .inr ⟨L, rfl, by omega, fun H3 e3 => ?_⟩⟩⟩
  rw [m1]
  walk_at "go"
  rw [if_neg (fun z => z trivial)]
  refine ⟨_, _, rfl, .inr ⟨T, rfl, by omega, .inr ⟨R, rfl, by omega, fun H4 e4 => ?_⟩⟩⟩
  rw [m2]
  walk_at "go"
  rw [if_neg (fun z => z trivial)]
  refine ⟨_, _, rfl, .inr ⟨T, rfl, by omega, .inr ⟨L, rfl, by omega, fun la => ?_, fun la H5 p5 e5 n5 h5 => ?_⟩⟩⟩
  · rw [m3] at la; cases la
  have hg := Tr.grow_hang L T [] m3
  rw [List.append_nil] at hg
  have hgl := Tr.hang_len L T m3
  have hgs := hang_sum L T m3
  refine ⟨_, _, rfl, .inr ⟨L, rfl, by omega, .inr ⟨Tr.hang L T, p5, rfl, SqL.of h5, hgl, by omega, fun H6 e6 => ?_⟩⟩⟩
  rw [hg]
  walk_at "go"
  rw [if_neg (fun z => z trivial)]
  refine ⟨_, _, rfl, .inr ⟨T, rfl, by omega, .inr ⟨.lf, rfl, by decide, fun la => ?_, fun la H7 p7 e7 n7 h7 => ?_⟩⟩⟩
  · cases la
  refine ⟨by walk_at "sz", fun q hq => ?_⟩
  walk_at "go"
  have hL : ∀ z ∈ [T.s], okc z := fun z hz => by rw [List.mem_singleton.mp hz]; exact T.s_okc
  refine eq_strs (a := [T.s]) (b := [T.s]) (SqL.of ((Ex.new hq) _ _ h7)) (SqL.of upd_same) hL hL ?_
  simp only [decide_true, if_true, Bool.not_true]
  walk_at "go"
  refine ⟨by walk_at "sz", fun q2 hq2 => ?_⟩
  rw [count_S (by decide), Tr.cnt_lf]
  refine ⟨_, upd_same, by omega, by omega, by rw [szl]; simp; omega, fun q3 hq3 => ?_⟩
  rw [Int.toNat_natCast, dots_row]
  have hg2 := grow_dots T []
  rw [List.append_nil] at hg2
  refine ⟨_, _, rfl, .inr ⟨T, rfl, by omega, .inr ⟨List.replicate (T.n + 1) .lf, q3, rfl, SqL.of upd_same, List.length_replicate, by rw [dots_sum]; omega, fun H8 e8 => ?_⟩⟩⟩
  rw [hg2]
  show mEq K (V.str (S T.s)) (V.str (S T.s)) H8 Q
  rw [q_eq2]
  simpa using k H8
end
end Pf

namespace Pf
open PySem PySem.Spec PyProof.Rows L2 M
local macro_rules | `(tactic| walk_at "go") => `(tactic| try simp only [tSeq, tIfS, tIf, tNot, mTest, tCB, tCons, tNil, mVar, M.gt, mC, Bool.not_true, Bool.not_false, Bool.false_eq_true, if_false, if_true, tNext, tAsg, gName, gSub, List.set_cons_zero, List.set_cons_succ, mFor, mIter, mRevS, S_cps, S_len, S_app, tOp, tSl, mPart, mUn, tNoPart, tRet, tRetN, tTup, tLst, tAnd, tOr, mAndV, mOrV, mNotV, tCall, tCallSD, tDrop, mPar, mPar3, mLstM, mStrM, mBits, mRng1, mRng2, mgTup, mgSeq, mgCons, mgNil, q_add1, q_add2, q_add3, q_add4, q_iadd1, q_iadd2, q_iadd3, q_sorted, q_sub, q_mul1, q_mul2, q_mul3, q_mod, q_div, q_pow, q_eq1, q_eq2, q_eq3, q_eq4, q_eq5, q_eq6, q_eq7, q_eq8, q_eq9, q_eq10, q_ne1, q_ne2, q_ne3, q_ne9, q_ne10, q_lt, q_le, q_gt, q_ge, q_inc1, q_ix1, q_ix2, q_sl1, q_sl2, q_set, q_len1, q_len2, q_int1, q_int2, q_max, q_min, q_abs, q_sum, q_list, q_isi1, q_is1, q_not1, q_isN1, q_isN2, q_isN3, q_isN4, q_join, q_count, q_split, q_app, q_pop, q_clear, q_isiE, q_repr, wipe, List.map_cons, List.map_nil, List.length_cons, List.length_nil, List.length_append, List.length_map, List.nil_append, List.cons_append, List.append_nil, cut_m3, cut_t3, cut_m1, cut_t1, cut_t2, S_eq, decide_eq_true_eq, Bool.not_eq_true', decide_eq_false_iff_not, ne_eq])
theorem hang_grow : ∀ (t : Tr) (hs : List Tr), t.n + 1 ≤ hs.length → Tr.le t (Tr.grow t hs).1 = true ∧ Tr.hang t (Tr.grow t hs).1 = hs.take (t.n + 1) ∧ (Tr.grow t hs).2 = hs.drop (t.n + 1)
  | .lf, hs, h => by
    cases hs with
    | nil => simp at h
    | cons x r => exact ⟨rfl, rfl, rfl⟩
  | .nd a b, hs, h => by
    simp only [Tr.n] at h
    obtain ⟨h1, h2, h3⟩ := hang_grow a hs (by omega)
    obtain ⟨g1, g2, g3⟩ := hang_grow b (Tr.grow a hs).2 (by rw [h3, List.length_drop]; omega)
    simp only [Tr.grow, Tr.le, Tr.hang, Tr.n, h1, g1, h2, g2, g3, Bool.and_self]
    rw [h3, show a.n + b.n + 1 + 1 = (a.n + 1) + (b.n + 1) by omega, List.drop_drop]
    exact ⟨trivial, (List.take_add (i := a.n + 1) (j := b.n + 1)).symm, rfl⟩
section
variable (K : PySem.W.Frag) (aI aL : Addr) (N : Nat)

/-- each of some trees with each of them -/
theorem lw_oth (hN : 210 ≤ N) (D : Ends) (L : List Tr) (hL : ∀ t ∈ L, t.n ≤ 60) (hl : L.length ≤ 100) (q : Addr) (x0 x1 x2 x3 x4 x5 x6 x8 x10 x11 x12 x13 x14 : Option V) : ∀ (s : List Tr) (x7 : Option V) (H : Hp), (∀ t ∈ s, t.n ≤ 60) → SqL K H q (trs L) →
    (∀ (w7 : Option V) H', Ex H H' → D.nx [x0, x1, x2, x3, x4, x5, x6, w7, x8, some (.ref q), x10, x11, x12, none, x14] H') →
    fV (fun H => SqL K H q (trs L)) (gName 7) ((rd_law_b1 K (sp__law_generator K) (sp__law_tree N) sp__law_random sp__law_trees (sp_grown K aI aL) (sp__law_parsed K) (sp__law_text K N) (sp__law_filled K N) (sp_hung K aI) (sp__law_pair_right K N) (sp__law_caught K) (sp__law_refused K) sp__law_great_right)) D (trs s) [x0, x1, x2, x3, x4, x5, x6, x7, x8, some (.ref q), x10, x11, x12, none, x14] H
  | [], x7, H, hs, h, k => ⟨h, k _ H (Ex.refl H)⟩
  | t :: s, x7, H, hs, h, k => by
    have ih := lw_oth hN D L hL hl q x0 x1 x2 x3 x4 x5 x6 x8 x10 x11 x12 x13 x14 s
    have ht := hs t List.mem_cons_self
    show fV _ _ _ _ (.str (S t.s) :: trs s) _ _
    simp only [fV]
    refine ⟨h, ?_⟩
    walk_at "go"
    unfold mLc
    walk_at "go"
    refine ⟨_, .inl ⟨h, fun A hA => ?_⟩⟩
    refine (?lp : ∀ (r : List Tr) (H2 : Hp), Ex H H2 → H2 A = some (.lst []) → (∀ x ∈ r, x.n ≤ 60) → cV _ _ _ _ _ _ A _ (trs r) H2) L _ (Ex.new hA) upd_same hL
    intro r
    induction r with
    | nil =>
      intro H2 e2 h2 hm
      simp only [trs, List.map_nil, cV]
      refine ⟨e2.L h, ?_⟩
      walk_at "go"
      refine ⟨by rw [szl]; omega, fun p hp => .inr ?_⟩
      walk_at "go"
      refine eq_strs (a := []) (b := []) (SqL.of (by rw [upd_ne (ne_of_none h2 hp)]; exact h2)) (SqL.of upd_same) (fun z hz => by cases hz) (fun z hz => by cases hz) ?_
      rw [show (decide (([] : List (List Nat)) = [])) = true by decide]
      walk_at "go"
      have e3 := e2.push (o := .lst []) hp
      exact ih _ _ (fun y hy => hs y (List.mem_cons_of_mem _ hy)) (e3.L h) fun w7 H' e4 => k w7 H' (e3.trans e4)
    | cons x r ih2 =>
      intro H2 e2 h2 hm
      have hx := hm x List.mem_cons_self
      simp only [trs, List.map_cons, cV]
      refine ⟨e2.L h, ?_⟩
      walk_at "go"
      refine ⟨trivial, t, x, rfl, by omega, by omega, fun H3 e3 => ?_⟩
      walk_at "go"
      exact ih2 H3 (e2.trans e3) (e3 _ _ h2) (fun y hy => hm y (List.mem_cons_of_mem _ hy))
end
end Pf

namespace Pf
open PySem PySem.Spec PyProof.Rows L2 M
local macro_rules | `(tactic| walk_at "go") => `(tactic| try simp only [tSeq, tIfS, tIf, tNot, mTest, tCB, tCons, tNil, mVar, M.gt, mC, Bool.not_true, Bool.not_false, Bool.false_eq_true, if_false, if_true, tNext, tAsg, gName, gSub, List.set_cons_zero, List.set_cons_succ, mFor, mIter, mRevS, S_cps, S_len, S_app, tOp, tSl, mPart, mUn, tNoPart, tRet, tRetN, tTup, tLst, tAnd, tOr, mAndV, mOrV, mNotV, tCall, tCallSD, tDrop, mPar, mPar3, mLstM, mStrM, mBits, mRng1, mRng2, mgTup, mgSeq, mgCons, mgNil, q_add1, q_add2, q_add3, q_add4, q_iadd1, q_iadd2, q_iadd3, q_sorted, q_sub, q_mul1, q_mul2, q_mul3, q_mod, q_div, q_pow, q_eq1, q_eq2, q_eq3, q_eq4, q_eq5, q_eq6, q_eq7, q_eq8, q_eq9, q_eq10, q_ne1, q_ne2, q_ne3, q_ne9, q_ne10, q_lt, q_le, q_gt, q_ge, q_inc1, q_ix1, q_ix2, q_sl1, q_sl2, q_set, q_len1, q_len2, q_int1, q_int2, q_max, q_min, q_abs, q_sum, q_list, q_isi1, q_is1, q_not1, q_isN1, q_isN2, q_isN3, q_isN4, q_join, q_count, q_split, q_app, q_pop, q_clear, q_isiE, q_repr, wipe, List.map_cons, List.map_nil, List.length_cons, List.length_nil, List.length_append, List.length_map, List.nil_append, List.cons_append, List.append_nil, cut_m3, cut_t3, cut_m1, cut_t1, cut_t2, S_eq, decide_eq_true_eq, Bool.not_eq_true', decide_eq_false_iff_not, ne_eq])
theorem BadS.go {K : PySem.W.Frag} {H : Hp} {w : V} {k : Hp → Prop} (h : BadS K H w fun _ => True) (g : ∀ H', Fm (rf w) H H' → k H') : BadS K H w k := by
  rcases h with ⟨h1, h2, _⟩ | ⟨p, xs, d, rfl, h1, h2, h3, h4, h5, h6, _⟩
  · exact .inl ⟨h1, h2, fun H' e => g H' (Fm.ex e)⟩
  · exact .inr ⟨p, xs, d, rfl, h1, h2, h3, h4, h5, h6, fun H' f => g H' f⟩
/-- a bad list that stays bad where the objects at some addresses stay -/
def BadK (K : PySem.W.Frag) (t : Tr) (Hc : Hp) (w : V) (sup : List Addr) : Prop := ∀ H', (∀ a ∈ sup, ∀ o, Hc a = some o → H' a = some o) → BadL K H' t w ∧ BadS K H' w fun _ => True
section
variable (K : PySem.W.Frag)
theorem lw_bad (t : Tr) (ht : t.n ≤ 1000) (q A : Addr) (xs : List V) (fin : Hp → Prop) (Hc : Hp) (all : List Addr) (hq : Hc q = some (.lst xs)) (qa : q ∉ all) (Aa : A ∉ all) (hA : Hc A = some (.lst [])) (x0 x1 x2 x4 x5 x6 x7 x8 x9 x10 x11 x12 x13 : Option V)
    (k : ∀ H', Fm all Hc H' → H' A = some (.lst []) → fin H') :
    ∀ (r : List (V × List Addr)) (done : List Addr) (Hx : Hp), (∀ a ∈ done, a ∈ all) → (∀ x ∈ r, ∀ a ∈ rf x.1, a ∈ all) → Fm done Hc Hx → (∀ x ∈ r, ∀ a ∈ x.2, a ∉ done) → r.Pairwise (fun x y => ∀ a ∈ rf x.1, a ∉ y.2) → (∀ x ∈ r, BadK K t Hc x.1 x.2) →
      cV (fun H => SqL K H q xs) (gName 14) (tNot (mTest (tCall (sp__law_caught K) [] E0 (tCons (mVar 3) (tCons (mVar 14) tNil))))) (mVar 14) [14] [x0, x1, x2, some (.str (S t.s)), x4, x5, x6, x7, x8, x9, x10, x11, x12, x13, none] A fin (r.map (·.1)) Hx
  | [], done, Hx, hd, ho, f, hs, hp, hb => by
    have f2 := f.mono hd
    simp only [List.map_nil, cV]
    exact ⟨SqL.of (f2 _ _ qa hq), k Hx f2 (f2 _ _ Aa hA)⟩
  | x :: r, done, Hx, hd, ho, f, hs, hp, hb => by
    have ih := lw_bad t ht q A xs fin Hc all hq qa Aa hA x0 x1 x2 x4 x5 x6 x7 x8 x9 x10 x11 x12 x13 k r
    obtain ⟨hp1, hp2⟩ := List.pairwise_cons.mp hp
    have f2 := f.mono hd
    obtain ⟨b1, b2⟩ := hb x List.mem_cons_self Hx fun a ha o h => f a o (hs x List.mem_cons_self a ha) h
    simp only [List.map_cons, cV]
    refine ⟨SqL.of (f2 _ _ qa hq), ?_⟩
    walk_at "go"
    refine ⟨trivial, t, x.1, rfl, by omega, b1, b2.go fun H2 g2 => ?_⟩
    walk_at "go"
    refine ih (rf x.1 ++ done) H2 (fun a ha => (List.mem_append.mp ha).elim (ho x List.mem_cons_self a) (hd a)) (fun y hy => ho y (List.mem_cons_of_mem _ hy)) ?_ (fun y hy a ha hm => ?_) hp2 (fun y hy => hb y (List.mem_cons_of_mem _ hy))
    · exact (f.mono fun a ha => List.mem_append_right _ ha).trans (g2.mono fun a ha => List.mem_append_left _ ha)
    · rcases List.mem_append.mp hm with h | h
      · exact hp1 y hy a h ha
      · exact hs y (List.mem_cons_of_mem _ hy) a ha h
end
end Pf

namespace Pf
open PySem PySem.Spec PyProof.Rows L2 M
local macro_rules | `(tactic| walk_at "go") => `(tactic| try simp only [tSeq, tIfS, tIf, tNot, mTest, tCB, tCons, tNil, mVar, M.gt, mC, Bool.not_true, Bool.not_false, Bool.false_eq_true, if_false, if_true, tNext, tAsg, gName, gSub, List.set_cons_zero, List.set_cons_succ, mFor, mIter, mRevS, S_cps, S_len, S_app, tOp, tSl, mPart, mUn, tNoPart, tRet, tRetN, tTup, tLst, tAnd, tOr, mAndV, mOrV, mNotV, tCall, tCallSD, tDrop, mPar, mPar3, mLstM, mStrM, mBits, mRng1, mRng2, mgTup, mgSeq, mgCons, mgNil, q_add1, q_add2, q_add3, q_add4, q_iadd1, q_iadd2, q_iadd3, q_sorted, q_sub, q_mul1, q_mul2, q_mul3, q_mod, q_div, q_pow, q_eq1, q_eq2, q_eq3, q_eq4, q_eq5, q_eq6, q_eq7, q_eq8, q_eq9, q_eq10, q_ne1, q_ne2, q_ne3, q_ne9, q_ne10, q_lt, q_le, q_gt, q_ge, q_inc1, q_ix1, q_ix2, q_sl1, q_sl2, q_set, q_len1, q_len2, q_int1, q_int2, q_max, q_min, q_abs, q_sum, q_list, q_isi1, q_is1, q_not1, q_isN1, q_isN2, q_isN3, q_isN4, q_join, q_count, q_split, q_app, q_pop, q_clear, q_isiE, q_repr, wipe, List.map_cons, List.map_nil, List.length_cons, List.length_nil, List.length_append, List.length_map, List.nil_append, List.cons_append, List.append_nil, cut_m3, cut_t3, cut_m1, cut_t1, cut_t2, S_eq, decide_eq_true_eq, Bool.not_eq_true', decide_eq_false_iff_not, ne_eq])
def Agr (sup : List Addr) (Hc H' : Hp) : Prop := ∀ a ∈ sup, ∀ o, Hc a = some o → H' a = some o
theorem Agr.ex {sup : List Addr} {Hc H H' : Hp} (h : Agr sup Hc H) (e : Ex H H') : Agr sup Hc H' := fun a ha o x => e _ _ (h a ha o x)
section
variable {K : PySem.W.Frag} {t : Tr} {Hc : Hp}
theorem bk_non : BadK K t Hc .non [] := fun H' _ =>
  have hi : ∀ (H2 : Hp) (Q : VK), Q (.bl false) H2 → mIsi K [.non, .ty "list"] H2 Q := fun H2 Q q => by unfold mIsi; simp only [tyN, kb19]; exact q
  ⟨.noL fun H2 Q _ q => hi H2 Q q, .inl ⟨fun H2 Q _ q => hi H2 Q q, ⟨_, .non⟩, fun _ _ => trivial⟩⟩
theorem bk_str {z : List Nat} (hz : okc z) (hl : z.length ≤ 1000000) : BadK K t Hc (.str (S z)) [] := fun H' _ =>
  have hi : ∀ (H2 : Hp) (Q : VK), Q (.bl false) H2 → mIsi K [.str (S z), .ty "list"] H2 Q := fun H2 Q q => by unfold mIsi; simp only [tyN, kb4]; exact q
  ⟨.noL fun H2 Q _ q => hi H2 Q q, .inl ⟨fun H2 Q _ q => hi H2 Q q, ⟨_, .str hz hl⟩, fun _ _ => trivial⟩⟩
theorem bk_dct {p : Addr} (hp : Hc p = some (.dK [])) : BadK K t Hc (.ref p) [p] := fun H' g =>
  have h1 : H' p = some (.dK []) := g p List.mem_cons_self _ hp
  have hi : ∀ (H2 : Hp) (Q : VK), Ex H' H2 → Q (.bl false) H2 → mIsi K [.ref p, .ty "list"] H2 Q := fun H2 Q e q => ⟨_, _, .base (.dK (e _ _ h1)), ki_dict.2.2.2.1, q⟩
  ⟨.noL hi, .inl ⟨hi, ⟨_, .dct h1⟩, fun _ _ => trivial⟩⟩
theorem bk_tup {p : Addr} {l : List (List Nat)} (hp : Hc p = some (.tup (tx l))) (hl : l.length ≤ 1000) (h3 : ∀ z ∈ l, z.length ≤ 1000 ∧ okc z) : BadK K t Hc (.ref p) [p] := fun H' g =>
  have h1 : SqT K H' p (tx l) := SqT.of (g p List.mem_cons_self _ hp)
  have hi : ∀ (H2 : Hp) (Q : VK), Ex H' H2 → Q (.bl false) H2 → mIsi K [.ref p, .ty "list"] H2 Q := fun H2 Q e q => ⟨_, _, tyX_tup (e.T h1), ki_tup.2.2.2.1, q⟩
  ⟨.noL hi, .inl ⟨hi, ⟨_, .tup h1 (fun H2 e => dp_strs l) (by simpa only [PyData.hasDict] using noDict_strs l) (by simpa only [PyData.showable] using showable_strs l) (by simp only [PyData.depth, dep_strs]; decide) (by
    have := shown_tuple_le h3
    have h4 : (10 * 1000 + 4) * l.length ≤ (10 * 1000 + 4) * 1000 := Nat.mul_le_mul_left _ (by omega)
    rw [szl]; omega)⟩, fun _ _ => trivial⟩⟩
/-- a list, by its items -/
theorem bk_list {p : Addr} {ps : List (V × Bool)} {d : PyData} {sup : List Addr} (hp : Hc p = some (.lst (ps.map (·.1)))) (hl : ps.length ≤ 1000) (tv : ∀ H', Agr sup Hc H' → ∀ x ∈ ps, TV K H' x.1 x.2) (hb : ps.length ≠ t.n + 1 ∨ ∃ x ∈ ps, x.2 = false)
    (sh : ∀ H', Agr (p :: sup) Hc H' → ShD K H' (.ref p) d) (s2 : d.showable = true) (s3 : d.depth ≤ 64) (s4 : d.shown.length ≤ sizeLine) : BadK K t Hc (.ref p) (p :: sup) := fun H' g => by
  have h1 : H' p = some (.lst (ps.map (·.1))) := g p List.mem_cons_self _ hp
  have gs : Agr sup Hc H' := fun a ha => g a (List.mem_cons_of_mem _ ha)
  refine ⟨?_, .inr ⟨p, _, d, rfl, h1, by rw [List.length_map]; omega, fun H2 e => sh H2 (Agr.ex g e), s2, s3, s4, fun _ _ => trivial⟩⟩
  by_cases c : ps.length = t.n + 1
  · exact .bad (SqL.of h1) c (tv H' gs) (hb.resolve_left fun z => z c)
  · exact .len (SqL.of h1) (by rw [List.length_map]; exact c)
end
end Pf

namespace Pf
open PySem PySem.Spec PyProof.Rows L2 M
local macro_rules | `(tactic| walk_at "go") => `(tactic| try simp only [tSeq, tIfS, tIf, tNot, mTest, tCB, tCons, tNil, mVar, M.gt, mC, Bool.not_true, Bool.not_false, Bool.false_eq_true, if_false, if_true, tNext, tAsg, gName, gSub, List.set_cons_zero, List.set_cons_succ, mFor, mIter, mRevS, S_cps, S_len, S_app, tOp, tSl, mPart, mUn, tNoPart, tRet, tRetN, tTup, tLst, tAnd, tOr, mAndV, mOrV, mNotV, tCall, tCallSD, tDrop, mPar, mPar3, mLstM, mStrM, mBits, mRng1, mRng2, mgTup, mgSeq, mgCons, mgNil, q_add1, q_add2, q_add3, q_add4, q_iadd1, q_iadd2, q_iadd3, q_sorted, q_sub, q_mul1, q_mul2, q_mul3, q_mod, q_div, q_pow, q_eq1, q_eq2, q_eq3, q_eq4, q_eq5, q_eq6, q_eq7, q_eq8, q_eq9, q_eq10, q_ne1, q_ne2, q_ne3, q_ne9, q_ne10, q_lt, q_le, q_gt, q_ge, q_inc1, q_ix1, q_ix2, q_sl1, q_sl2, q_set, q_len1, q_len2, q_int1, q_int2, q_max, q_min, q_abs, q_sum, q_list, q_isi1, q_is1, q_not1, q_isN1, q_isN2, q_isN3, q_isN4, q_join, q_count, q_split, q_app, q_pop, q_clear, q_isiE, q_repr, wipe, List.map_cons, List.map_nil, List.length_cons, List.length_nil, List.length_append, List.length_map, List.nil_append, List.cons_append, List.append_nil, cut_m3, cut_t3, cut_m1, cut_t1, cut_t2, S_eq, decide_eq_true_eq, Bool.not_eq_true', decide_eq_false_iff_not, ne_eq])
/-- an item of a bad list -/
inductive Itm
  | s (z : List Nat)
  | n
  | b
  | l (q : Addr)
  | tp (q : Addr)
  | d (q : Addr)
namespace Itm
def val : Itm → V
  | s z => .str (S z)
  | n => .non
  | b => .bl true
  | l q => .ref q
  | tp q => .ref q
  | d q => .ref q
def dat : Itm → PyData
  | s z => .str (S z)
  | n => .none
  | b => .bool true
  | l _ => .list [.str (S [46])]
  | tp _ => .tuple [.str (S [46])]
  | d _ => .dict []
def tr : Itm → Bool
  | s z => isTr z
  | _ => false
def sup : Itm → List Addr
  | l q => [q]
  | tp q => [q]
  | d q => [q]
  | _ => []
def ok (Hc : Hp) : Itm → Prop
  | s z => z.length ≤ 1000 ∧ okc z
  | l q => Hc q = some (.lst [.str (S [46])])
  | tp q => Hc q = some (.tup [.str (S [46])])
  | d q => Hc q = some (.dK [])
  | _ => True
/-- no dict -/
def pl : Itm → Bool
  | d _ => false
  | _ => true
/-- no list, no tuple -/
def fl : Itm → Bool
  | l _ => false
  | tp _ => false
  | _ => true
theorem tv {K : PySem.W.Frag} {Hc H' : Hp} {i : Itm} (h : i.ok Hc) (g : Agr i.sup Hc H') : TV K H' i.val i.tr := by
  cases i with
  | s z => exact .inl ⟨z, rfl, by have := h.1; omega, rfl⟩
  | n => exact .inr ⟨.non, rfl⟩
  | b => exact .inr ⟨.bl _, rfl⟩
  | l q => exact .inr ⟨.lst (SqL.of (g q List.mem_cons_self _ h)), rfl⟩
  | tp q => exact .inr ⟨.tup (SqT.of (g q List.mem_cons_self _ h)), rfl⟩
  | d q => exact .inr ⟨.dct (g q List.mem_cons_self _ h), rfl⟩
theorem dp {K : PySem.W.Frag} {Hc H' : Hp} {i : Itm} (h : i.ok Hc) (g : Agr i.sup Hc H') (p : i.pl = true) : Dp K H' i.val i.dat ∧ i.dat.hasDict = false := by
  cases i with
  | s z => exact ⟨.str _, rfl⟩
  | n => exact ⟨.non, rfl⟩
  | b => exact ⟨.bl _, rfl⟩
  | l q => exact ⟨.lst (SqL.of (g q List.mem_cons_self _ h)) (.cons (.str _) .nil), rfl⟩
  | tp q => exact ⟨.tup (SqT.of (g q List.mem_cons_self _ h)) (.cons (.str _) .nil), rfl⟩
  | d q => cases p
theorem shb (i : Itm) {Hc : Hp} (h : i.ok Hc) : i.dat.showable = true ∧ i.dat.depth ≤ 1 ∧ i.dat.shown.length ≤ 10010 := by
  cases i with
  | s z => exact ⟨rfl, by simp only [dat, PyData.depth]; decide, by have := shown_str_le h.2; have := h.1; simp only [dat]; omega⟩
  | n => exact ⟨rfl, by decide, by decide +kernel⟩
  | b => exact ⟨rfl, by decide, by decide +kernel⟩
  | l q => exact ⟨show (PyData.list [.str (S [46])]).showable = true by decide, show (PyData.list [.str (S [46])]).depth ≤ 1 by decide, show (PyData.list [.str (S [46])]).shown.length ≤ 10010 by decide +kernel⟩
  | tp q => exact ⟨show (PyData.tuple [.str (S [46])]).showable = true by decide, show (PyData.tuple [.str (S [46])]).depth ≤ 1 by decide, show (PyData.tuple [.str (S [46])]).shown.length ≤ 10010 by decide +kernel⟩
  | d q => exact ⟨show (PyData.dict []).showable = true by decide, show (PyData.dict []).depth ≤ 1 by decide, show (PyData.dict []).shown.length ≤ 10010 by decide +kernel⟩
end Itm
section
variable {K : PySem.W.Frag} {Hc H' : Hp}
theorem it_dps : ∀ {is : List Itm}, (∀ i ∈ is, i.ok Hc) → Agr (is.flatMap Itm.sup) Hc H' → (∀ i ∈ is, i.pl = true) → DpAll K H' (is.map Itm.val) (is.map Itm.dat) ∧ PyData.hasDictAll (is.map Itm.dat) = false
  | [], _, _, _ => ⟨.nil, rfl⟩
  | i :: is, h, g, p => by
    obtain ⟨h1, h2⟩ := Itm.dp (K := K) (h i List.mem_cons_self) (fun a ha => g a (List.mem_flatMap.mpr ⟨i, List.mem_cons_self, ha⟩)) (p i List.mem_cons_self)
    obtain ⟨g1, g2⟩ := it_dps (is := is) (fun j hj => h j (List.mem_cons_of_mem _ hj)) (fun a ha => g a (by rw [List.flatMap_cons]; exact List.mem_append_right _ ha)) (fun j hj => p j (List.mem_cons_of_mem _ hj))
    exact ⟨.cons h1 g1, by simp only [List.map_cons, PyData.hasDictAll, h2, g2, Bool.or_self]⟩
theorem it_sha : ∀ {is : List Itm}, (∀ i ∈ is, i.ok Hc) → Agr (is.flatMap Itm.sup) Hc H' → (∀ i ∈ is, i.fl = true) → ShA K H' (is.map Itm.val) (is.map Itm.dat)
  | [], _, _, _ => .nil
  | i :: is, h, g, p => by
    have g1 := it_sha (is := is) (fun j hj => h j (List.mem_cons_of_mem _ hj)) (fun a ha => g a (by rw [List.flatMap_cons]; exact List.mem_append_right _ ha)) (fun j hj => p j (List.mem_cons_of_mem _ hj))
    have hi := h i List.mem_cons_self
    have gi : Agr i.sup Hc H' := fun a ha => g a (List.mem_flatMap.mpr ⟨i, List.mem_cons_self, ha⟩)
    have pi := p i List.mem_cons_self
    cases i with
    | s z => exact .one rfl g1
    | n => exact .one rfl g1
    | b => exact .one rfl g1
    | l q => cases pi
    | tp q => cases pi
    | d q => exact .dct (gi q List.mem_cons_self _ hi) rfl g1
theorem it_sum : ∀ {is : List Itm}, (∀ i ∈ is, i.ok Hc) → ((PyData.shownAll (is.map Itm.dat)).map (·.length)).sum ≤ 10010 * is.length ∧ PyData.showableAll (is.map Itm.dat) = true ∧ PyData.depthAll (is.map Itm.dat) ≤ 1
  | [], _ => ⟨by simp [PyData.shownAll], rfl, by decide⟩
  | i :: is, h => by
    obtain ⟨h1, h2, h3⟩ := i.shb (h i List.mem_cons_self)
    obtain ⟨g1, g2, g3⟩ := it_sum (is := is) fun j hj => h j (List.mem_cons_of_mem _ hj)
    refine ⟨?_, by simp only [List.map_cons, PyData.showableAll, h1, g2, Bool.and_self], ?_⟩
    · simp only [List.map_cons, PyData.shownAll, List.sum_cons, List.length_cons]; omega
    · simp only [List.map_cons, PyData.depthAll]; exact Nat.max_le.mpr ⟨h2, g3⟩
theorem bk_items {t : Tr} {p : Addr} {is : List Itm} (hp : Hc p = some (.lst (is.map Itm.val))) (hl : is.length ≤ 1000) (ho : ∀ i ∈ is, i.ok Hc) (hb : is.length ≠ t.n + 1 ∨ ∃ i ∈ is, i.tr = false) (hk : (∀ i ∈ is, i.pl = true) ∨ ((∀ i ∈ is, i.fl = true) ∧ p ≠ sysModules)) : BadK K t Hc (.ref p) (p :: is.flatMap Itm.sup) := by
  obtain ⟨s1, s2, s3⟩ := it_sum ho
  refine bk_list (ps := is.map fun i => (i.val, i.tr)) (d := .list (is.map Itm.dat)) (by rw [List.map_map]; exact hp) (by rw [List.length_map]; exact hl) (fun H2 g x hx => ?_) ?_ (fun H2 g => ?_) (by simpa only [PyData.showable] using s2) (by simp only [PyData.depth]; omega) ?_
  · obtain ⟨i, hi, rfl⟩ := List.mem_map.mp hx
    exact Itm.tv (ho i hi) fun a ha => g a (List.mem_flatMap.mpr ⟨i, hi, ha⟩)
  · rw [List.length_map]
    exact hb.imp id fun ⟨i, h1, h2⟩ => ⟨_, List.mem_map.mpr ⟨i, h1, rfl⟩, h2⟩
  · have gs : Agr (is.flatMap Itm.sup) Hc H2 := fun a ha => g a (List.mem_cons_of_mem _ ha)
    have h1 := g p List.mem_cons_self _ hp
    rcases hk with hk | ⟨hk, hn⟩
    · obtain ⟨q1, q2⟩ := it_dps (K := K) ho gs hk
      exact .sh (.dp (.lst (SqL.of h1) q1) (by simpa only [PyData.hasDict] using q2))
    · exact .lst h1 hn (it_sha ho gs hk)
  · have h1 := listText_len_le (PyData.shownAll (is.map Itm.dat))
    rw [shownAll_len, List.length_map] at h1
    simp only [PyData.shown]
    rw [szl]
    omega
end
end Pf

namespace Pf
open PySem PySem.Spec PyProof.Rows L2 M
local macro_rules | `(tactic| walk_at "go") => `(tactic| try simp only [tSeq, tIfS, tIf, tNot, mTest, tCB, tCons, tNil, mVar, M.gt, mC, Bool.not_true, Bool.not_false, Bool.false_eq_true, if_false, if_true, tNext, tAsg, gName, gSub, List.set_cons_zero, List.set_cons_succ, mFor, mIter, mRevS, S_cps, S_len, S_app, tOp, tSl, mPart, mUn, tNoPart, tRet, tRetN, tTup, tLst, tAnd, tOr, mAndV, mOrV, mNotV, tCall, tCallSD, tDrop, mPar, mPar3, mLstM, mStrM, mBits, mRng1, mRng2, mgTup, mgSeq, mgCons, mgNil, q_add1, q_add2, q_add3, q_add4, q_iadd1, q_iadd2, q_iadd3, q_sorted, q_sub, q_mul1, q_mul2, q_mul3, q_mod, q_div, q_pow, q_eq1, q_eq2, q_eq3, q_eq4, q_eq5, q_eq6, q_eq7, q_eq8, q_eq9, q_eq10, q_ne1, q_ne2, q_ne3, q_ne9, q_ne10, q_lt, q_le, q_gt, q_ge, q_inc1, q_ix1, q_ix2, q_sl1, q_sl2, q_set, q_len1, q_len2, q_int1, q_int2, q_max, q_min, q_abs, q_sum, q_list, q_isi1, q_is1, q_not1, q_isN1, q_isN2, q_isN3, q_isN4, q_join, q_count, q_split, q_app, q_pop, q_clear, q_isiE, q_repr, wipe, List.map_cons, List.map_nil, List.length_cons, List.length_nil, List.length_append, List.length_map, List.nil_append, List.cons_append, List.append_nil, cut_m3, cut_t3, cut_m1, cut_t1, cut_t2, S_eq, decide_eq_true_eq, Bool.not_eq_true', decide_eq_false_iff_not, ne_eq])
/-- what was laid since H0: the objects at new places -/
def St (H0 H : Hp) (L : List (Addr × HO)) : Prop := Ex H0 H ∧ (L.map (·.1)).Nodup ∧ ∀ x ∈ L, H x.1 = some x.2 ∧ H0 x.1 = none
theorem St.nil (H : Hp) : St H H [] := ⟨Ex.refl H, List.nodup_nil, fun _ h => by cases h⟩
theorem St.push {H0 H : Hp} {L : List (Addr × HO)} {p : Addr} {o : HO} (h : St H0 H L) (hp : H p = none) : St H0 (upd H p o) ((p, o) :: L) := by
  obtain ⟨e, n, f⟩ := h
  refine ⟨e.push hp, ?_, ?_⟩
  · rw [List.map_cons, List.nodup_cons]
    refine ⟨fun hm => ?_, n⟩
    obtain ⟨x, hx, hxp⟩ := List.mem_map.mp hm
    have hxp' : x.1 = p := hxp
    rw [← hxp', (f x hx).1] at hp
    cases hp
  · intro x hx
    rcases List.mem_cons.mp hx with rfl | hx
    · exact ⟨upd_same, e.free hp⟩
    · exact ⟨(Ex.new hp) _ _ (f x hx).1, (f x hx).2⟩
theorem St.ex {H0 H H' : Hp} {L : List (Addr × HO)} (h : St H0 H L) (e : Ex H H') : St H0 H' L := ⟨h.1.trans e, h.2.1, fun x hx => ⟨e _ _ (h.2.2 x hx).1, (h.2.2 x hx).2⟩⟩
theorem St.mut {H0 H : Hp} {L : List (Addr × HO)} {p : Addr} {o o' : HO} (h : St H0 H ((p, o) :: L)) : St H0 (upd H p o') ((p, o') :: L) := by
  obtain ⟨e, n, f⟩ := h
  refine ⟨e.mut (f _ List.mem_cons_self).2, n, ?_⟩
  intro x hx
  rcases List.mem_cons.mp hx with rfl | hx
  · exact ⟨upd_same, (f _ List.mem_cons_self).2⟩
  · have g := f x (List.mem_cons_of_mem _ hx)
    refine ⟨?_, g.2⟩
    rw [upd_ne]
    · exact g.1
    · intro z
      have : p ∈ L.map (·.1) := z ▸ List.mem_map.mpr ⟨x, hx, rfl⟩
      rw [List.map_cons, List.nodup_cons] at n
      exact n.1 this
theorem St.set {H0 H : Hp} {A B : List (Addr × HO)} {p : Addr} {o o' : HO} (h : St H0 H (A ++ (p, o) :: B)) : St H0 (upd H p o') (A ++ (p, o') :: B) := by
  obtain ⟨e, n, f⟩ := h
  have fp := f (p, o) (by simp)
  have n' := n
  rw [List.map_append, List.map_cons, List.nodup_append] at n'
  obtain ⟨_, n2, n3⟩ := n'
  have n4 := (List.nodup_cons.mp n2).1
  refine ⟨e.mut fp.2, by simpa using n, ?_⟩
  intro x hx
  have cs : x = (p, o') ∨ (x.1 ≠ p ∧ x ∈ A ++ (p, o) :: B) := by
    rcases List.mem_append.mp hx with z | z
    · refine .inr ⟨fun q => ?_, List.mem_append_left _ z⟩
      exact n3 x.1 (List.mem_map.mpr ⟨x, z, rfl⟩) p List.mem_cons_self q
    · rcases List.mem_cons.mp z with z | z
      · exact .inl z
      · refine .inr ⟨fun q => n4 ?_, List.mem_append_right _ (List.mem_cons_of_mem _ z)⟩
        exact List.mem_map.mpr ⟨x, z, q⟩
  rcases cs with rfl | ⟨c1, c2⟩
  · exact ⟨upd_same, fp.2⟩
  · exact ⟨by rw [upd_ne c1]; exact (f x c2).1, (f x c2).2⟩
theorem St.at {H0 H : Hp} {L : List (Addr × HO)} (h : St H0 H L) (i : Nat) {p : Addr} {o : HO} (hi : L[i]? = some (p, o)) : H p = some o := (h.2.2 (p, o) (List.mem_of_getElem? hi)).1
theorem St.keys {H0 H : Hp} {L : List (Addr × HO)} (h : St H0 H L) {l : List Addr} (s : l.Sublist (L.map (·.1))) : l.Nodup ∧ ∀ a ∈ l, H0 a = none ∧ H a ≠ none := ⟨h.2.1.sublist s, fun a ha => by
  obtain ⟨x, hx, rfl⟩ := List.mem_map.mp (s.subset ha)
  exact ⟨(h.2.2 x hx).2, by rw [(h.2.2 x hx).1]; simp⟩⟩
section
variable (K : PySem.W.Frag)
def lwF : TS := ((tSeq (tIfS (mTest (tOp (mNeE K) (mLc (mIter K (mVar 10)) (gName 14) (tNot (mTest (tCall (sp__law_caught K) [] E0 (tCons (mVar 3) (tCons (mVar 14) tNil))))) (mVar 14) [14]) (tLst tNil))) (tRet (mC (.bl false))) tNext) (tIfS (tNot (mTest (tCall (sp__law_refused K) [] E0 (tCons (mVar 3) tNil)))) (tRet (mC (.bl false))) tNext)) : TS)
theorem lw_fin (D : Ends) (t : Tr) (ht : t.n ≤ 1000) (q : Addr) (r : List (V × List Addr)) (Hc : Hp) (hq : Hc q = some (.lst (r.map (·.1)))) (hb : ∀ x ∈ r, BadK K t Hc x.1 x.2) (hs : ∀ x ∈ r, ∀ a ∈ rf x.1, a ∈ x.2)
    (nd : (q :: r.reverse.flatMap (·.2)).Nodup) (hk : ∀ a ∈ r.reverse.flatMap (·.2), Hc a ≠ none) (x0 x1 x2 x4 x5 x6 x7 x8 x9 x11 x12 x13 x14 : Option V)
    (k : ∀ H', Fm (r.reverse.flatMap (·.2)) Hc H' → D.nx [x0, x1, x2, some (.str (S t.s)), x4, x5, x6, x7, x8, x9, some (.ref q), x11, x12, x13, x14] H') :
    lwF K D [x0, x1, x2, some (.str (S t.s)), x4, x5, x6, x7, x8, x9, some (.ref q), x11, x12, x13, x14] Hc := by
  unfold lwF
  obtain ⟨nq, nr⟩ := List.nodup_cons.mp nd
  obtain ⟨_, nr⟩ := List.pairwise_flatMap.mp nr
  have pw := List.pairwise_reverse.mp nr
  unfold mLc
  walk_at "go"
  refine ⟨_, .inl ⟨SqL.of hq, fun A hA => ?_⟩⟩
  have eA := Ex.new (o := .lst []) hA
  have Aa : A ∉ r.reverse.flatMap (·.2) := fun z => hk A z hA
  have mem : ∀ x ∈ r, ∀ a ∈ x.2, a ∈ r.reverse.flatMap (·.2) := fun x hx a ha => List.mem_flatMap.mpr ⟨x, List.mem_reverse.mpr hx, ha⟩
  refine lw_bad K t ht q A _ _ _ (r.reverse.flatMap (·.2)) (eA _ _ hq) nq Aa upd_same _ _ _ _ _ _ _ _ _ _ _ _ _ (fun H2 f2 h2 => ?_) r [] _ (fun a ha => by cases ha) (fun x hx a ha => mem x hx a (hs x hx a ha)) (Fm.refl _ _) (fun x hx a ha hm => by cases hm) ?_ fun x hx H' g => hb x hx H' fun a ha o h => g a ha o (eA _ _ h)
  · walk_at "go"
    refine ⟨by rw [szl]; omega, fun p hp => .inr ?_⟩
    walk_at "go"
    refine eq_strs (a := []) (b := []) (SqL.of (by rw [upd_ne (ne_of_none h2 hp)]; exact h2)) (SqL.of upd_same) (fun z hz => by cases hz) (fun z hz => by cases hz) ?_
    rw [show (decide (([] : List (List Nat)) = [])) = true by decide]
    walk_at "go"
    refine ⟨t, rfl, ht, fun H3 e3 => ?_⟩
    walk_at "go"
    exact k H3 ((Fm.ex eA).trans (f2.trans (Fm.ex ((Ex.new hp).trans e3))))
  · refine (pw.imp_of_mem fun {x y} hx hy dj a ha hm => ?_)
    exact dj a hm a (hs x hx a ha) rfl
end
end Pf

namespace Pf
open PySem PySem.Spec PyProof.Rows L2 M
local macro_rules | `(tactic| walk_at "go") => `(tactic| try simp only [tSeq, tIfS, tIf, tNot, mTest, tCB, tCons, tNil, mVar, M.gt, mC, Bool.not_true, Bool.not_false, Bool.false_eq_true, if_false, if_true, tNext, tAsg, gName, gSub, List.set_cons_zero, List.set_cons_succ, mFor, mIter, mRevS, S_cps, S_len, S_app, tOp, tSl, mPart, mUn, tNoPart, tRet, tRetN, tTup, tLst, tAnd, tOr, mAndV, mOrV, mNotV, tCall, tCallSD, tDrop, mPar, mPar3, mLstM, mStrM, mBits, mRng1, mRng2, mgTup, mgSeq, mgCons, mgNil, q_add1, q_add2, q_add3, q_add4, q_iadd1, q_iadd2, q_iadd3, q_sorted, q_sub, q_mul1, q_mul2, q_mul3, q_mod, q_div, q_pow, q_eq1, q_eq2, q_eq3, q_eq4, q_eq5, q_eq6, q_eq7, q_eq8, q_eq9, q_eq10, q_ne1, q_ne2, q_ne3, q_ne9, q_ne10, q_lt, q_le, q_gt, q_ge, q_inc1, q_ix1, q_ix2, q_sl1, q_sl2, q_set, q_len1, q_len2, q_int1, q_int2, q_max, q_min, q_abs, q_sum, q_list, q_isi1, q_is1, q_not1, q_isN1, q_isN2, q_isN3, q_isN4, q_join, q_count, q_split, q_app, q_pop, q_clear, q_isiE, q_repr, wipe, List.map_cons, List.map_nil, List.length_cons, List.length_nil, List.length_append, List.length_map, List.nil_append, List.cons_append, List.append_nil, cut_m3, cut_t3, cut_m1, cut_t1, cut_t2, S_eq, decide_eq_true_eq, Bool.not_eq_true', decide_eq_false_iff_not, ne_eq])
theorem q_af1 {p q : Addr} {H : Hp} {Q : VK} : mAddF (.ref p) (.ref q) H Q = (∃ xs zs, H p = some (.lst xs) ∧ H q = some (.lst zs) ∧ xs.length + zs.length ≤ sizeLine ∧ ∀ r, H r = none → r ≠ sysModules → Q (.ref r) (upd H r (.lst (xs ++ zs)))) := rfl
theorem q_af2 {a b : Str} {H : Hp} {Q : VK} : mAddF (.str a) (.str b) H Q = mAdd (.str a) (.str b) H Q := rfl
theorem cf1 (hs : List Tr) : cutL (trs hs) (some 1) none = trs (hs.drop 1) := (cut_from (trs hs) 1).trans (by unfold trs; rw [List.map_drop])
theorem cf2 (hs : List Tr) : cutL (trs hs) (some 2) none = trs (hs.drop 2) := (cut_from (trs hs) 2).trans (by unfold trs; rw [List.map_drop])
theorem trs_l (hs : List Tr) : (trs hs).length = hs.length := List.length_map _
theorem ct1 (hs : List Tr) : (trs hs).take ((trs hs).length - 1) = trs (hs.take (hs.length - 1)) := by rw [trs_l]; unfold trs; rw [List.map_take]
theorem ct2 (hs : List Tr) : (trs hs).take ((trs hs).length - 2) = trs (hs.take (hs.length - 2)) := by rw [trs_l]; unfold trs; rw [List.map_take]
def its (hs : List Tr) : List Itm := hs.map fun t => .s t.s
theorem its_v (hs : List Tr) : (its hs).map Itm.val = trs hs := by unfold its trs; rw [List.map_map]; rfl
theorem its_sup : ∀ hs : List Tr, (its hs).flatMap Itm.sup = []
  | [] => rfl
  | x :: hs => by show [] ++ (its hs).flatMap Itm.sup = []; rw [its_sup hs]; rfl
theorem its_ok {Hc : Hp} {hs : List Tr} (h : ∀ x ∈ hs, x.n ≤ 3) : ∀ i ∈ its hs, i.ok Hc := fun i hi => by
  obtain ⟨x, hx, rfl⟩ := List.mem_map.mp hi
  have := x.s_len
  have := h x hx
  exact ⟨by omega, x.s_okc⟩
theorem its_pl {hs : List Tr} : ∀ i ∈ its hs, i.pl = true ∧ i.fl = true := fun i hi => by
  obtain ⟨x, hx, rfl⟩ := List.mem_map.mp hi
  exact ⟨rfl, rfl⟩
section
variable {K : PySem.W.Frag} {t : Tr} {Hc : Hp} {hs : List Tr} {p : Addr} {pre : List Itm}
theorem bk_a (hn : ∀ x ∈ hs, x.n ≤ 3) (hp : Hc p = some (.lst (pre.map Itm.val ++ trs hs))) (hl : hs.length + pre.length ≤ 1000) (ho : ∀ i ∈ pre, i.ok Hc) (hb : hs.length + pre.length ≠ t.n + 1 ∨ ∃ i ∈ pre, i.tr = false) (hk : (∀ i ∈ pre, i.pl = true) ∨ ((∀ i ∈ pre, i.fl = true) ∧ p ≠ sysModules)) :
    BadK K t Hc (.ref p) (p :: pre.flatMap Itm.sup) := by
  have := bk_items (K := K) (t := t) (Hc := Hc) (p := p) (is := pre ++ its hs) (by rw [List.map_append, its_v]; exact hp) (by rw [List.length_append]; simp only [its, List.length_map]; omega) (fun i hi => (List.mem_append.mp hi).elim (ho i) (its_ok hn i)) (by
    rw [List.length_append]; simp only [its, List.length_map]
    exact hb.imp (by omega) fun ⟨i, h1, h2⟩ => ⟨i, List.mem_append_left _ h1, h2⟩) (hk.imp (fun h i hi => (List.mem_append.mp hi).elim (h i) fun z => (its_pl i z).1) fun h => ⟨fun i hi => (List.mem_append.mp hi).elim (h.1 i) fun z => (its_pl i z).2, h.2⟩)
  rwa [List.flatMap_append, its_sup, List.append_nil] at this
theorem bk_b (hn : ∀ x ∈ hs, x.n ≤ 3) (hp : Hc p = some (.lst (trs hs ++ pre.map Itm.val))) (hl : hs.length + pre.length ≤ 1000) (ho : ∀ i ∈ pre, i.ok Hc) (hb : hs.length + pre.length ≠ t.n + 1 ∨ ∃ i ∈ pre, i.tr = false) (hk : (∀ i ∈ pre, i.pl = true) ∨ ((∀ i ∈ pre, i.fl = true) ∧ p ≠ sysModules)) :
    BadK K t Hc (.ref p) (p :: pre.flatMap Itm.sup) := by
  have := bk_items (K := K) (t := t) (Hc := Hc) (p := p) (is := its hs ++ pre) (by rw [List.map_append, its_v]; exact hp) (by rw [List.length_append]; simp only [its, List.length_map]; omega) (fun i hi => (List.mem_append.mp hi).elim (its_ok hn i) (ho i)) (by
    rw [List.length_append]; simp only [its, List.length_map]
    exact hb.imp (by omega) fun ⟨i, h1, h2⟩ => ⟨i, List.mem_append_right _ h1, h2⟩) (hk.imp (fun h i hi => (List.mem_append.mp hi).elim (fun z => (its_pl i z).1) (h i)) fun h => ⟨fun i hi => (List.mem_append.mp hi).elim (fun z => (its_pl i z).2) (h.1 i), h.2⟩)
  rwa [List.flatMap_append, its_sup, List.nil_append] at this
theorem tr_mod {z : List Nat} (h : z.length % 3 ≠ 1) : isTr z = false := by
  rw [Bool.eq_false_iff]
  intro h2
  obtain ⟨x, rfl⟩ := (isTr_iff z).mp h2
  rw [x.s_len] at h
  omega
end
end Pf

namespace Pf
open PySem PySem.Spec PyProof.Rows L2 M
local macro_rules | `(tactic| walk_at "go") => `(tactic| try simp only [tSeq, tIfS, tIf, tNot, mTest, tCB, tCons, tNil, mVar, M.gt, mC, Bool.not_true, Bool.not_false, Bool.false_eq_true, if_false, if_true, tNext, tAsg, gName, gSub, List.set_cons_zero, List.set_cons_succ, mFor, mIter, mRevS, S_cps, S_len, S_app, tOp, tSl, mPart, mUn, tNoPart, tRet, tRetN, tTup, tLst, tAnd, tOr, mAndV, mOrV, mNotV, tCall, tCallSD, tDrop, mPar, mPar3, mLstM, mStrM, mBits, mRng1, mRng2, mgTup, mgSeq, mgCons, mgNil, q_add1, q_add2, q_add3, q_add4, q_iadd1, q_iadd2, q_iadd3, q_sorted, q_sub, q_mul1, q_mul2, q_mul3, q_mod, q_div, q_pow, q_eq1, q_eq2, q_eq3, q_eq4, q_eq5, q_eq6, q_eq7, q_eq8, q_eq9, q_eq10, q_ne1, q_ne2, q_ne3, q_ne9, q_ne10, q_lt, q_le, q_gt, q_ge, q_inc1, q_ix1, q_ix2, q_sl1, q_sl2, q_set, q_len1, q_len2, q_int1, q_int2, q_max, q_min, q_abs, q_sum, q_list, q_isi1, q_is1, q_not1, q_isN1, q_isN2, q_isN3, q_isN4, q_join, q_count, q_split, q_app, q_pop, q_clear, q_isiE, q_repr, wipe, List.map_cons, List.map_nil, List.length_cons, List.length_nil, List.length_append, List.length_map, List.nil_append, List.cons_append, List.append_nil, cut_m3, cut_t3, cut_m1, cut_t1, cut_t2, S_eq, decide_eq_true_eq, Bool.not_eq_true', decide_eq_false_iff_not, ne_eq])
local macro_rules | `(tactic| walk_at "hh") => `(tactic| first | assumption | exact upd_same | exact Ex.new (by assumption) _ _ (by walk_at "hh") | exact Ex.at (by assumption) (by assumption) | solve_by_elim [Ex.at])
local macro_rules | `(tactic| walk_at "ee") => `(tactic| first | assumption | exact Ex.refl _ | exact Ex.push (by walk_at "ee") (by assumption) | exact Ex.trans (by assumption) (by assumption) | solve_by_elim [Ex.trans])
local macro_rules | `(tactic| walk_at "sz") => `(tactic| first | (rw [szl]; omega) | (simp only [szl, tx_len, sg_len, List.length_map, List.length_append, List.length_cons, List.length_nil, List.length_singleton, List.length_take, List.length_drop, List.length_reverse, S_len]; omega))
theorem St.pu {H0 H H1 : Hp} {L : List (Addr × HO)} {p : Addr} {o : HO} (h : St H0 H L) (hp : H p = none) (e : upd H p o = H1) : St H0 H1 ((p, o) :: L) := e ▸ h.push hp
theorem gAl {P : Hp → Prop} {H0 H1 : Hp} {L : List (Addr × HO)} (s : St H0 H1 L) (k : ∀ H', St H0 H' L → P H') : P H1 := k _ s
theorem last2 {α : Type} (l : List α) (h : 1 < l.length) : ∃ r u v, l = r ++ [u, v] := by
  refine ⟨l.take (l.length - 2), l[l.length - 2], l[l.length - 1], ?_⟩
  apply List.ext_getElem
  · simp; omega
  · intro i h1 h2
    by_cases c : i < l.length - 2
    · rw [List.getElem_append_left (by simp; omega)]; simp
    · rw [List.getElem_append_right (by simp; omega)]
      by_cases d : i = l.length - 2
      · subst d; simp
      · have : i = l.length - 1 := by omega
        subst this
        simp only [List.length_take]
        have e : l.length - 1 - min (l.length - 2) l.length = 1 := by omega
        simp only [e, show l.length - 1 - (l.length - 2) = 1 by omega]
        rfl
section
variable (K : PySem.W.Frag)
def lwR : TS := (tSeq (tAsg (tLst (tCons (mC .non) (tCons (tCB (mTuple K) (tCons (mVar 5) tNil)) (tCons (tOp mAddF (mVar 5) (tLst (tCons (mC (.str (S [46]))) tNil))) (tCons (tSl (mSl K) (mVar 5) (mPart (mC (.int 1))) tNoPart) (tCons (tOp mAddF (tLst (tCons (mC .non) tNil)) (tSl (mSl K) (mVar 5) (mPart (mC (.int 1))) tNoPart)) (tCons (tOp mAddF (tSl (mSl K) (mVar 5) tNoPart (mPart (mUn (fun i => -i) (mC (.int 1))))) (tLst (tCons (mC (.str (S [40, 46, 41]))) tNil))) (tCons (mC (.str (S [120]))) (tCons tDNewK tNil))))))))) (gName 10))
  (tSeq (tAsg (tOp mAddF (mVar 10) (tLst (tCons (tOp mAddF (tLst (tCons (tLst (tCons (mC (.str (S [46]))) tNil)) tNil)) (tSl (mSl K) (mVar 5) (mPart (mC (.int 1))) tNoPart)) (tCons (tOp mAddF (tSl (mSl K) (mVar 5) tNoPart (mPart (mUn (fun i => -i) (mC (.int 1))))) (tLst (tCons tDNewK tNil))) (tCons (tOp mAddF (tSl (mSl K) (mVar 5) tNoPart (mPart (mUn (fun i => -i) (mC (.int 1))))) (tLst (tCons (tTup (tCons (mC (.str (S [46]))) tNil)) tNil))) (tCons (tOp mAddF (tSl (mSl K) (mVar 5) tNoPart (mPart (mUn (fun i => -i) (mC (.int 1))))) (tLst (tCons (mC (.bl true)) tNil))) tNil)))))) (gName 10))
  (tSeq (tIfS (mTest (tOp (mGt) (tCB (mLen K) (tCons (mVar 5) tNil)) (mC (.int 1)))) (tSeq (tAsg (tOp mAddF (tOp (mIx K) (mVar 5) (mC (.int 0))) (tOp (mIx K) (mVar 5) (mC (.int 1)))) (gName 11))
  (tSeq (tAsg (tOp mAddF (mVar 10) (tLst (tCons (tOp mAddF (tLst (tCons (mC (.str (S []))) (tCons (mC (.str (S []))) tNil))) (tSl (mSl K) (mVar 5) (mPart (mC (.int 2))) tNoPart)) (tCons (tOp mAddF (tLst (tCons (mC (.str (S []))) (tCons (mVar 11) tNil))) (tSl (mSl K) (mVar 5) (mPart (mC (.int 2))) tNoPart)) (tCons (tOp mAddF (tLst (tCons (mVar 11) (tCons (mC (.str (S []))) tNil))) (tSl (mSl K) (mVar 5) (mPart (mC (.int 2))) tNoPart)) tNil))))) (gName 10))
  (tDrop (mLstM mApp (mVar 10) (tCons (tOp mAddF (tSl (mSl K) (mVar 5) tNoPart (mPart (mUn (fun i => -i) (mC (.int 2))))) (tLst (tCons (tSl (mSl K) (tOp (mIx K) (mVar 5) (mUn (fun i => -i) (mC (.int 2)))) tNoPart (mPart (mUn (fun i => -i) (mC (.int 1))))) (tCons (tOp mAddF (tSl (mSl K) (tOp (mIx K) (mVar 5) (mUn (fun i => -i) (mC (.int 2)))) (mPart (mUn (fun i => -i) (mC (.int 1)))) tNoPart) (tOp (mIx K) (mVar 5) (mUn (fun i => -i) (mC (.int 1))))) tNil)))) tNil))))) tNext)
  (lwF K))))
theorem lw_end (D : Ends) (t : Tr) (ht : t.n ≤ 12) (hs : List Tr) (hl : hs.length = t.n + 1) (hn : ∀ x ∈ hs, x.n ≤ 3) (p : Addr) (H : Hp) (hp : H p = some (.lst (trs hs))) (x0 x1 x2 x4 x6 x7 x8 x9 x10 x11 x12 x13 x14 : Option V)
    (k : ∀ w10 w11 H', Ex H H' → D.nx [x0, x1, x2, some (.str (S t.s)), x4, some (.ref p), x6, x7, x8, x9, w10, w11, x12, x13, x14] H') :
    lwR K D [x0, x1, x2, some (.str (S t.s)), x4, some (.ref p), x6, x7, x8, x9, x10, x11, x12, x13, x14] H := by
  unfold lwR
  have s0 := St.nil H
  have pp : ∀ {H' : Hp} {L : List (Addr × HO)}, St H H' L → H' p = some (.lst (trs hs)) := fun s => s.1 _ _ hp
  walk_at "go"
  refine ⟨_, .inl ⟨SqL.of hp, fun p1 g1 => ?_⟩⟩
  generalize e1 : upd H p1 _ = H1
  have s1 := s0.pu g1 e1
  clear e1
  walk_at "go"
  try simp only [cf1, cf2, ct1, ct2]
  refine ⟨by walk_at "sz", fun a2 ga2 => ?_⟩
  generalize e2 : upd H1 a2 _ = H2
  have s2 := s1.pu ga2 e2
  clear e2
  clear s1
  walk_at "go"
  try simp only [cf1, cf2, ct1, ct2]
  refine ⟨_, _, pp s2, s2.at 0 rfl, by (simp only [trs_l, List.length_cons, List.length_nil, List.length_append, List.length_take, List.length_drop]; rw [szl]; omega), fun p2 gp2 np2 => ?_⟩
  generalize e3 : upd H2 p2 _ = H3
  have s3 := s2.pu gp2 e3
  clear e3
  clear s2
  walk_at "go"
  try simp only [cf1, cf2, ct1, ct2]
  refine ⟨_, SqL.of (pp s3), fun p3 gp3 => ?_⟩
  try simp only [cf1, cf2, ct1, ct2]
  generalize e4 : upd H3 p3 _ = H4
  have s4 := s3.pu gp3 e4
  clear e4
  clear s3
  walk_at "go"
  try simp only [cf1, cf2, ct1, ct2]
  refine ⟨by walk_at "sz", fun a4 ga4 => ?_⟩
  generalize e5 : upd H4 a4 _ = H5
  have s5 := s4.pu ga4 e5
  clear e5
  clear s4
  walk_at "go"
  try simp only [cf1, cf2, ct1, ct2]
  refine ⟨_, SqL.of (pp s5), fun b4 gb4 => ?_⟩
  try simp only [cf1, cf2, ct1, ct2]
  generalize e6 : upd H5 b4 _ = H6
  have s6 := s5.pu gb4 e6
  clear e6
  clear s5
  walk_at "go"
  try simp only [cf1, cf2, ct1, ct2]
  refine ⟨_, _, s6.at 1 rfl, s6.at 0 rfl, by (simp only [trs_l, List.length_cons, List.length_nil, List.length_append, List.length_take, List.length_drop]; rw [szl]; omega), fun p4 gp4 np4 => ?_⟩
  generalize e7 : upd H6 p4 _ = H7
  have s7 := s6.pu gp4 e7
  clear e7
  clear s6
  walk_at "go"
  try simp only [cf1, cf2, ct1, ct2]
  refine ⟨_, SqL.of (pp s7), fun a5 ga5 => ?_⟩
  try simp only [cf1, cf2, ct1, ct2]
  generalize e8 : upd H7 a5 _ = H8
  have s8 := s7.pu ga5 e8
  clear e8
  clear s7
  walk_at "go"
  try simp only [cf1, cf2, ct1, ct2]
  refine ⟨by walk_at "sz", fun b5 gb5 => ?_⟩
  generalize e9 : upd H8 b5 _ = H9
  have s9 := s8.pu gb5 e9
  clear e9
  clear s8
  walk_at "go"
  try simp only [cf1, cf2, ct1, ct2]
  refine ⟨_, _, s9.at 1 rfl, s9.at 0 rfl, by (simp only [trs_l, List.length_cons, List.length_nil, List.length_append, List.length_take, List.length_drop]; rw [szl]; omega), fun p5 gp5 np5 => ?_⟩
  generalize e10 : upd H9 p5 _ = H10
  have s10 := s9.pu gp5 e10
  clear e10
  clear s9
  walk_at "go"
  try simp only [cf1, cf2, ct1, ct2]
  try unfold tDNewK
  walk_at "go"
  refine fun p6 gp6 => ?_
  generalize e11 : upd H10 p6 _ = H11
  have s11 := s10.pu gp6 e11
  clear e11
  clear s10
  walk_at "go"
  try simp only [cf1, cf2, ct1, ct2]
  refine ⟨by walk_at "sz", fun q1 gq1 => ?_⟩
  generalize e12 : upd H11 q1 _ = H12
  have s12 := s11.pu gq1 e12
  clear e12
  clear s11
  walk_at "go"
  try simp only [cf1, cf2, ct1, ct2]
  refine ⟨by walk_at "sz", fun i7 gi7 => ?_⟩
  generalize e13 : upd H12 i7 _ = H13
  have s13 := s12.pu gi7 e13
  clear e13
  clear s12
  walk_at "go"
  try simp only [cf1, cf2, ct1, ct2]
  refine ⟨by walk_at "sz", fun a7 ga7 => ?_⟩
  generalize e14 : upd H13 a7 _ = H14
  have s14 := s13.pu ga7 e14
  clear e14
  clear s13
  walk_at "go"
  try simp only [cf1, cf2, ct1, ct2]
  refine ⟨_, SqL.of (pp s14), fun b7 gb7 => ?_⟩
  try simp only [cf1, cf2, ct1, ct2]
  generalize e15 : upd H14 b7 _ = H15
  have s15 := s14.pu gb7 e15
  clear e15
  clear s14
  walk_at "go"
  try simp only [cf1, cf2, ct1, ct2]
  refine ⟨_, _, s15.at 1 rfl, s15.at 0 rfl, by (simp only [trs_l, List.length_cons, List.length_nil, List.length_append, List.length_take, List.length_drop]; rw [szl]; omega), fun p7 gp7 np7 => ?_⟩
  generalize e16 : upd H15 p7 _ = H16
  have s16 := s15.pu gp7 e16
  clear e16
  clear s15
  walk_at "go"
  try simp only [cf1, cf2, ct1, ct2]
  refine ⟨_, SqL.of (pp s16), fun a8 ga8 => ?_⟩
  try simp only [cf1, cf2, ct1, ct2]
  generalize e17 : upd H16 a8 _ = H17
  have s17 := s16.pu ga8 e17
  clear e17
  clear s16
  walk_at "go"
  try simp only [cf1, cf2, ct1, ct2]
  try unfold tDNewK
  walk_at "go"
  refine fun i8 gi8 => ?_
  generalize e18 : upd H17 i8 _ = H18
  have s18 := s17.pu gi8 e18
  clear e18
  clear s17
  walk_at "go"
  try simp only [cf1, cf2, ct1, ct2]
  refine ⟨by walk_at "sz", fun b8 gb8 => ?_⟩
  generalize e19 : upd H18 b8 _ = H19
  have s19 := s18.pu gb8 e19
  clear e19
  clear s18
  walk_at "go"
  try simp only [cf1, cf2, ct1, ct2]
  refine ⟨_, _, s19.at 2 rfl, s19.at 0 rfl, by (simp only [trs_l, List.length_cons, List.length_nil, List.length_append, List.length_take, List.length_drop]; rw [szl]; omega), fun p8 gp8 np8 => ?_⟩
  generalize e20 : upd H19 p8 _ = H20
  have s20 := s19.pu gp8 e20
  clear e20
  clear s19
  walk_at "go"
  try simp only [cf1, cf2, ct1, ct2]
  refine ⟨_, SqL.of (pp s20), fun a9 ga9 => ?_⟩
  try simp only [cf1, cf2, ct1, ct2]
  generalize e21 : upd H20 a9 _ = H21
  have s21 := s20.pu ga9 e21
  clear e21
  clear s20
  walk_at "go"
  try simp only [cf1, cf2, ct1, ct2]
  refine ⟨by walk_at "sz", fun i9 gi9 => ?_⟩
  generalize e22 : upd H21 i9 _ = H22
  have s22 := s21.pu gi9 e22
  clear e22
  clear s21
  walk_at "go"
  try simp only [cf1, cf2, ct1, ct2]
  refine ⟨by walk_at "sz", fun b9 gb9 => ?_⟩
  generalize e23 : upd H22 b9 _ = H23
  have s23 := s22.pu gb9 e23
  clear e23
  clear s22
  walk_at "go"
  try simp only [cf1, cf2, ct1, ct2]
  refine ⟨_, _, s23.at 2 rfl, s23.at 0 rfl, by (simp only [trs_l, List.length_cons, List.length_nil, List.length_append, List.length_take, List.length_drop]; rw [szl]; omega), fun p9 gp9 np9 => ?_⟩
  generalize e24 : upd H23 p9 _ = H24
  have s24 := s23.pu gp9 e24
  clear e24
  clear s23
  walk_at "go"
  try simp only [cf1, cf2, ct1, ct2]
  refine ⟨_, SqL.of (pp s24), fun a10 ga10 => ?_⟩
  try simp only [cf1, cf2, ct1, ct2]
  generalize e25 : upd H24 a10 _ = H25
  have s25 := s24.pu ga10 e25
  clear e25
  clear s24
  walk_at "go"
  try simp only [cf1, cf2, ct1, ct2]
  refine ⟨by walk_at "sz", fun b10 gb10 => ?_⟩
  generalize e26 : upd H25 b10 _ = H26
  have s26 := s25.pu gb10 e26
  clear e26
  clear s25
  walk_at "go"
  try simp only [cf1, cf2, ct1, ct2]
  refine ⟨_, _, s26.at 1 rfl, s26.at 0 rfl, by (simp only [trs_l, List.length_cons, List.length_nil, List.length_append, List.length_take, List.length_drop]; rw [szl]; omega), fun p10 gp10 np10 => ?_⟩
  generalize e27 : upd H26 p10 _ = H27
  have s27 := s26.pu gp10 e27
  clear e27
  clear s26
  walk_at "go"
  try simp only [cf1, cf2, ct1, ct2]
  refine ⟨by walk_at "sz", fun q2 gq2 => ?_⟩
  generalize e28 : upd H27 q2 _ = H28
  have s28 := s27.pu gq2 e28
  clear e28
  clear s27
  walk_at "go"
  try simp only [cf1, cf2, ct1, ct2]
  refine ⟨_, _, s28.at 16 rfl, s28.at 0 rfl, by (simp only [trs_l, List.length_cons, List.length_nil, List.length_append, List.length_take, List.length_drop]; rw [szl]; omega), fun q3 gq3 nq3 => ?_⟩
  generalize e29 : upd H28 q3 _ = H29
  have s29 := s28.pu gq3 e29
  clear e29
  clear s28
  walk_at "go"
  try simp only [cf1, cf2, ct1, ct2]
  have base : ∀ Hc : Hp, (∀ x ∈ ([(p10, .lst (trs (List.take (hs.length - 1) hs) ++ [V.bl true])), (p9, .lst (trs (List.take (hs.length - 1) hs) ++ [V.ref i9])), (i9, .tup [V.str (S [46])]), (p8, .lst (trs (List.take (hs.length - 1) hs) ++ [V.ref i8])), (i8, .dK []), (p7, .lst ([V.ref i7] ++ trs (List.drop 1 hs))), (i7, .lst [V.str (S [46])]), (p6, .dK []), (p5, .lst (trs (List.take (hs.length - 1) hs) ++ [V.str (S [40, 46, 41])])), (p4, .lst ([V.non] ++ trs (List.drop 1 hs))), (p3, .lst (trs (List.drop 1 hs))), (p2, .lst (trs hs ++ [V.str (S [46])])), (p1, .tup (trs hs))] : List (Addr × HO)), Hc x.1 = some x.2) → ∀ x ∈ ([(.non, []), (.ref p1, [p1]), (.ref p2, [p2]), (.ref p3, [p3]), (.ref p4, [p4]), (.ref p5, [p5]), (.str (S [120]), []), (.ref p6, [p6]), (.ref p7, [p7, i7]), (.ref p8, [p8, i8]), (.ref p9, [p9, i9]), (.ref p10, [p10])] : List (V × List Addr)), BadK K t Hc x.1 x.2 := by
    intro Hc f x hx
    have ff : ∀ (i : Nat) {a : Addr} {o : HO}, ([(p10, .lst (trs (List.take (hs.length - 1) hs) ++ [V.bl true])), (p9, .lst (trs (List.take (hs.length - 1) hs) ++ [V.ref i9])), (i9, .tup [V.str (S [46])]), (p8, .lst (trs (List.take (hs.length - 1) hs) ++ [V.ref i8])), (i8, .dK []), (p7, .lst ([V.ref i7] ++ trs (List.drop 1 hs))), (i7, .lst [V.str (S [46])]), (p6, .dK []), (p5, .lst (trs (List.take (hs.length - 1) hs) ++ [V.str (S [40, 46, 41])])), (p4, .lst ([V.non] ++ trs (List.drop 1 hs))), (p3, .lst (trs (List.drop 1 hs))), (p2, .lst (trs hs ++ [V.str (S [46])])), (p1, .tup (trs hs))] : List (Addr × HO))[i]? = some (a, o) → Hc a = some o := fun i a o h => f _ (List.mem_of_getElem? h)
    have hd : ∀ x ∈ hs.drop 1, x.n ≤ 3 := fun x hx => hn x (List.mem_of_mem_drop hx)
    have hk : ∀ x ∈ hs.take (hs.length - 1), x.n ≤ 3 := fun x hx => hn x (List.mem_of_mem_take hx)
    have ld : (hs.drop 1).length = t.n := by rw [List.length_drop]; omega
    have lk : (hs.take (hs.length - 1)).length = t.n := by rw [List.length_take]; omega
    simp only [List.mem_cons, List.not_mem_nil, or_false] at hx
    rcases hx with rfl | rfl | rfl | rfl | rfl | rfl | rfl | rfl | rfl | rfl | rfl | rfl
    · exact bk_non
    · exact bk_tup (l := hs.map Tr.s) (by rw [← trs_tx]; exact (ff 12 rfl)) (by rw [List.length_map]; omega) fun z hz => by
        obtain ⟨x, hx, rfl⟩ := List.mem_map.mp hz
        have := x.s_len
        have := hn x hx
        exact ⟨by omega, x.s_okc⟩
    · exact bk_b (hs := hs) (pre := [.s [46]]) hn (ff 11 rfl) (by simp; omega) (by simp [Itm.ok, okc]) (.inl (by simp; omega)) (.inl (by simp [Itm.pl]))
    · exact bk_a (hs := hs.drop 1) (pre := []) hd (ff 10 rfl) (by simp; omega) (by simp) (.inl (by rw [ld]; simp)) (.inl (by simp))
    · exact bk_a (hs := hs.drop 1) (pre := [.n]) hd (ff 9 rfl) (by rw [ld]; simp; omega) (by simp [Itm.ok]) (.inr (by simp [Itm.tr])) (.inl (by simp [Itm.pl]))
    · exact bk_b (hs := hs.take (hs.length - 1)) (pre := [.s [40, 46, 41]]) hk (ff 8 rfl) (by rw [lk]; simp; omega) (by simp [Itm.ok, okc]) (.inr ⟨_, List.mem_singleton.mpr rfl, tr_mod (by decide)⟩) (.inl (by simp [Itm.pl]))
    · exact bk_str (by simp [okc]) (by decide)
    · exact bk_dct (ff 7 rfl)
    · exact bk_a (hs := hs.drop 1) (pre := [.l i7]) hd (ff 5 rfl) (by rw [ld]; simp; omega) (by simpa [Itm.ok] using (ff 6 rfl)) (.inr (by simp [Itm.tr])) (.inl (by simp [Itm.pl]))
    · exact bk_b (hs := hs.take (hs.length - 1)) (pre := [.d i8]) hk (ff 3 rfl) (by rw [lk]; simp; omega) (by simpa [Itm.ok] using (ff 4 rfl)) (.inr (by simp [Itm.tr])) (.inr ⟨by simp [Itm.fl], np8⟩)
    · exact bk_b (hs := hs.take (hs.length - 1)) (pre := [.tp i9]) hk (ff 1 rfl) (by rw [lk]; simp; omega) (by simpa [Itm.ok] using (ff 2 rfl)) (.inr (by simp [Itm.tr])) (.inl (by simp [Itm.pl]))
    · exact bk_b (hs := hs.take (hs.length - 1)) (pre := [.b]) hk (ff 0 rfl) (by rw [lk]; simp; omega) (by simp [Itm.ok]) (.inr (by simp [Itm.tr])) (.inl (by simp [Itm.pl]))
  have rf1 : ∀ x ∈ ([(.non, []), (.ref p1, [p1]), (.ref p2, [p2]), (.ref p3, [p3]), (.ref p4, [p4]), (.ref p5, [p5]), (.str (S [120]), []), (.ref p6, [p6]), (.ref p7, [p7, i7]), (.ref p8, [p8, i8]), (.ref p9, [p9, i9]), (.ref p10, [p10])] : List (V × List Addr)), ∀ a ∈ rf x.1, a ∈ x.2 := by
    intro x hx a ha
    simp only [List.mem_cons, List.not_mem_nil, or_false] at hx
    rcases hx with rfl | rfl | rfl | rfl | rfl | rfl | rfl | rfl | rfl | rfl | rfl | rfl <;> simp_all [rf]
  refine ⟨_, .inl (SqL.of (pp s29)), ?_⟩
  rw [trs_l]
  by_cases c : 1 < hs.length
  · rw [if_pos (by omega)]
    obtain ⟨u, v, r, e1⟩ : ∃ u v r, hs = u :: v :: r := by
      match hs, c with
      | u :: v :: r, _ => exact ⟨u, v, r, rfl⟩
    obtain ⟨l, y, z, e2⟩ := last2 hs c
    have a0 : atI (trs hs) 0 = some (.str (S u.s)) := by rw [e1]; exact aI_0 _ _
    have a1 : atI (trs hs) 1 = some (.str (S v.s)) := by rw [e1]; exact aI_1 _ _ _
    have a2' : atI (trs hs) (-2) = some (.str (S y.s)) := by rw [e2, trs_app]; exact aI_m2 _ _ _
    have a3 : atI (trs hs) (-1) = some (.str (S z.s)) := by rw [e2, trs_app]; exact aI_m1' _ _ _
    have lu := hn u (by rw [e1]; simp)
    have lv := hn v (by rw [e1]; simp)
    have ly := hn y (by rw [e2]; simp)
    have lz := hn z (by rw [e2]; simp)
    have su := u.s_len
    have sv := v.s_len
    have sy := y.s_len
    have sz := z.s_len
    refine ⟨_, _, .inl (SqL.of (pp s29)), a0, _, _, .inl (SqL.of (pp s29)), a1, ?_⟩
    rw [q_af2, q_add2]
    walk_at "go"
    refine ⟨by rw [szl]; omega, ?_⟩
    refine ⟨by walk_at "sz", fun a11 ga11 => ?_⟩
    generalize e30 : upd H29 a11 _ = H30
    have s30 := s29.pu ga11 e30
    clear e30
    clear s29
    walk_at "go"
    try simp only [cf1, cf2, ct1, ct2]
    refine ⟨_, SqL.of (pp s30), fun b11 gb11 => ?_⟩
    try simp only [cf1, cf2, ct1, ct2]
    generalize e31 : upd H30 b11 _ = H31
    have s31 := s30.pu gb11 e31
    clear e31
    clear s30
    walk_at "go"
    try simp only [cf1, cf2, ct1, ct2]
    refine ⟨_, _, s31.at 1 rfl, s31.at 0 rfl, by (simp only [trs_l, List.length_cons, List.length_nil, List.length_append, List.length_take, List.length_drop]; rw [szl]; omega), fun p11 gp11 np11 => ?_⟩
    generalize e32 : upd H31 p11 _ = H32
    have s32 := s31.pu gp11 e32
    clear e32
    clear s31
    walk_at "go"
    try simp only [cf1, cf2, ct1, ct2]
    refine ⟨by walk_at "sz", fun a12 ga12 => ?_⟩
    generalize e33 : upd H32 a12 _ = H33
    have s33 := s32.pu ga12 e33
    clear e33
    clear s32
    walk_at "go"
    try simp only [cf1, cf2, ct1, ct2]
    refine ⟨_, SqL.of (pp s33), fun b12 gb12 => ?_⟩
    try simp only [cf1, cf2, ct1, ct2]
    generalize e34 : upd H33 b12 _ = H34
    have s34 := s33.pu gb12 e34
    clear e34
    clear s33
    walk_at "go"
    try simp only [cf1, cf2, ct1, ct2]
    refine ⟨_, _, s34.at 1 rfl, s34.at 0 rfl, by (simp only [trs_l, List.length_cons, List.length_nil, List.length_append, List.length_take, List.length_drop]; rw [szl]; omega), fun p12 gp12 np12 => ?_⟩
    generalize e35 : upd H34 p12 _ = H35
    have s35 := s34.pu gp12 e35
    clear e35
    clear s34
    walk_at "go"
    try simp only [cf1, cf2, ct1, ct2]
    refine ⟨by walk_at "sz", fun a13 ga13 => ?_⟩
    generalize e36 : upd H35 a13 _ = H36
    have s36 := s35.pu ga13 e36
    clear e36
    clear s35
    walk_at "go"
    try simp only [cf1, cf2, ct1, ct2]
    refine ⟨_, SqL.of (pp s36), fun b13 gb13 => ?_⟩
    try simp only [cf1, cf2, ct1, ct2]
    generalize e37 : upd H36 b13 _ = H37
    have s37 := s36.pu gb13 e37
    clear e37
    clear s36
    walk_at "go"
    try simp only [cf1, cf2, ct1, ct2]
    refine ⟨_, _, s37.at 1 rfl, s37.at 0 rfl, by (simp only [trs_l, List.length_cons, List.length_nil, List.length_append, List.length_take, List.length_drop]; rw [szl]; omega), fun p13 gp13 np13 => ?_⟩
    generalize e38 : upd H37 p13 _ = H38
    have s38 := s37.pu gp13 e38
    clear e38
    clear s37
    walk_at "go"
    try simp only [cf1, cf2, ct1, ct2]
    refine ⟨by walk_at "sz", fun q4 gq4 => ?_⟩
    generalize e39 : upd H38 q4 _ = H39
    have s39 := s38.pu gq4 e39
    clear e39
    clear s38
    walk_at "go"
    try simp only [cf1, cf2, ct1, ct2]
    refine ⟨_, _, s39.at 10 rfl, s39.at 0 rfl, by (simp only [trs_l, List.length_cons, List.length_nil, List.length_append, List.length_take, List.length_drop]; rw [szl]; omega), fun q5 gq5 nq5 => ?_⟩
    generalize e40 : upd H39 q5 _ = H40
    have s40 := s39.pu gq5 e40
    clear e40
    clear s39
    walk_at "go"
    try simp only [cf1, cf2, ct1, ct2]
    refine ⟨⟨_, s40.at 0 rfl⟩, ?_⟩
    refine ⟨_, SqL.of (pp s40), fun a14 ga14 => ?_⟩
    try simp only [cf1, cf2, ct1, ct2]
    generalize e41 : upd H40 a14 _ = H41
    have s41 := s40.pu ga14 e41
    clear e41
    clear s40
    walk_at "go"
    try simp only [cf1, cf2, ct1, ct2]
    refine ⟨_, _, .inl (SqL.of (pp s41)), a2', ?_⟩
    rw [q_sl1]
    walk_at "go"
    refine ⟨by rw [szl]; omega, ?_⟩
    refine ⟨_, _, .inl (SqL.of (pp s41)), a2', ?_⟩
    rw [q_sl1]
    walk_at "go"
    refine ⟨by rw [szl]; omega, ?_⟩
    refine ⟨_, _, .inl (SqL.of (pp s41)), a3, ?_⟩
    rw [q_af2, q_add2]
    walk_at "go"
    refine ⟨by rw [szl]; simp only [List.length_drop]; omega, ?_⟩
    refine ⟨by walk_at "sz", fun b14 gb14 => ?_⟩
    generalize e42 : upd H41 b14 _ = H42
    have s42 := s41.pu gb14 e42
    clear e42
    clear s41
    walk_at "go"
    try simp only [cf1, cf2, ct1, ct2]
    refine ⟨_, _, s42.at 1 rfl, s42.at 0 rfl, by (simp only [trs_l, List.length_cons, List.length_nil, List.length_append, List.length_take, List.length_drop]; rw [szl]; omega), fun p14 gp14 np14 => ?_⟩
    generalize e43 : upd H42 p14 _ = H43
    have s43 := s42.pu gp14 e43
    clear e43
    clear s42
    walk_at "go"
    try simp only [cf1, cf2, ct1, ct2]
    refine ⟨_, s43.at 3 rfl, by rw [szl]; simp only [List.length_append, List.length_cons, List.length_nil]; omega, ?_⟩
    have sF := St.set (A := [_, _, _]) (o' := .lst (([.non, .ref p1, .ref p2, .ref p3, .ref p4, .ref p5, .str (S [120]), .ref p6] ++ [.ref p7, .ref p8, .ref p9, .ref p10] ++ [.ref p11, .ref p12, .ref p13]) ++ [.ref p14])) s43
    revert sF
    generalize upd H43 q5 _ = HF
    intro sF
    have hd2 : ∀ x ∈ hs.drop 2, x.n ≤ 3 := fun x hx => hn x (List.mem_of_mem_drop hx)
    have hk2 : ∀ x ∈ hs.take (hs.length - 2), x.n ≤ 3 := fun x hx => hn x (List.mem_of_mem_take hx)
    have ld2 : (hs.drop 2).length + 2 = t.n + 1 := by rw [List.length_drop]; omega
    have lk2 : (hs.take (hs.length - 2)).length + 2 = t.n + 1 := by rw [List.length_take]; omega
    have oe : ∀ {Hc : Hp}, (Itm.s []).ok Hc := ⟨by decide, fun _ h => by cases h⟩
    have ob : ∀ {Hc : Hp}, (Itm.s (u.s ++ v.s)).ok Hc := ⟨by rw [List.length_append]; omega, okc_app u.s_okc v.s_okc⟩
    have oy : ∀ {Hc : Hp}, (Itm.s (y.s.take (y.s.length - 1))).ok Hc := ⟨by rw [List.length_take]; omega, fun c h => y.s_okc c (List.mem_of_mem_take h)⟩
    have oz : ∀ {Hc : Hp}, (Itm.s (y.s.drop (y.s.length - 1) ++ z.s)).ok Hc := ⟨by rw [List.length_append, List.length_drop]; omega, okc_app (fun c h => y.s_okc c (List.mem_of_mem_drop h)) z.s_okc⟩
    have te : (Itm.s []).tr = false := tr_mod (by decide)
    have ty : (Itm.s (y.s.take (y.s.length - 1))).tr = false := tr_mod (by rw [List.length_take]; omega)
    have two : ∀ {P : Itm → Prop} {a b : Itm}, P a → P b → ∀ i ∈ [a, b], P i := fun ha hb i hi => by
      simp only [List.mem_cons, List.not_mem_nil, or_false] at hi
      rcases hi with rfl | rfl
      · exact ha
      · exact hb
    have bF : ∀ x ∈ ((([(.non, []), (.ref p1, [p1]), (.ref p2, [p2]), (.ref p3, [p3]), (.ref p4, [p4]), (.ref p5, [p5]), (.str (S [120]), []), (.ref p6, [p6]), (.ref p7, [p7, i7]), (.ref p8, [p8, i8]), (.ref p9, [p9, i9]), (.ref p10, [p10])] : List (V × List Addr)) ++ ([(.ref p11, [p11]), (.ref p12, [p12]), (.ref p13, [p13]), (.ref p14, [p14])] : List (V × List Addr))) : List (V × List Addr)), BadK K t HF x.1 x.2 := by
      intro x hx
      rcases List.mem_append.mp hx with hx | hx
      · exact base _ (fun x hx => (sF.2.2 x ((show List.Sublist _ _ from by repeat (first | exact List.nil_sublist _ | apply List.Sublist.cons₂ | apply List.Sublist.cons)).subset hx)).1) x hx
      · simp only [List.mem_cons, List.not_mem_nil, or_false] at hx
        rcases hx with rfl | rfl | rfl | rfl
        · exact bk_a (hs := hs.drop 2) (pre := [.s [], .s []]) hd2 (sF.at 11 rfl) (by simp only [List.length_cons, List.length_nil]; omega) (two oe oe) (.inr ⟨_, List.mem_cons_self, te⟩) (.inl (two rfl rfl))
        · exact bk_a (hs := hs.drop 2) (pre := [.s [], .s (u.s ++ v.s)]) hd2 (sF.at 8 rfl) (by simp only [List.length_cons, List.length_nil]; omega) (two oe ob) (.inr ⟨_, List.mem_cons_self, te⟩) (.inl (two rfl rfl))
        · exact bk_a (hs := hs.drop 2) (pre := [.s (u.s ++ v.s), .s []]) hd2 (sF.at 5 rfl) (by simp only [List.length_cons, List.length_nil]; omega) (two ob oe) (.inr ⟨.s [], List.mem_cons_of_mem _ List.mem_cons_self, te⟩) (.inl (two rfl rfl))
        · exact bk_b (hs := hs.take (hs.length - 2)) (pre := [.s (y.s.take (y.s.length - 1)), .s (y.s.drop (y.s.length - 1) ++ z.s)]) hk2 (sF.at 0 rfl) (by simp only [List.length_cons, List.length_nil]; omega) (two oy oz) (.inr ⟨_, List.mem_cons_self, ty⟩) (.inl (two rfl rfl))
    have rf2 : ∀ x ∈ ((([(.non, []), (.ref p1, [p1]), (.ref p2, [p2]), (.ref p3, [p3]), (.ref p4, [p4]), (.ref p5, [p5]), (.str (S [120]), []), (.ref p6, [p6]), (.ref p7, [p7, i7]), (.ref p8, [p8, i8]), (.ref p9, [p9, i9]), (.ref p10, [p10])] : List (V × List Addr)) ++ ([(.ref p11, [p11]), (.ref p12, [p12]), (.ref p13, [p13]), (.ref p14, [p14])] : List (V × List Addr))) : List (V × List Addr)), ∀ a ∈ rf x.1, a ∈ x.2 := by
      intro x hx a ha
      rcases List.mem_append.mp hx with hx | hx
      · exact rf1 x hx a ha
      · simp only [List.mem_cons, List.not_mem_nil, or_false] at hx
        rcases hx with rfl | rfl | rfl | rfl <;> simp_all [rf]
    obtain ⟨nd, hf⟩ := sF.keys (l := [p14, q5, p13, p12, p11, p10, p9, i9, p8, i8, p7, i7, p6, p5, p4, p3, p2, p1]) (by repeat (first | exact List.nil_sublist _ | apply List.Sublist.cons₂ | apply List.Sublist.cons))
    have nd2 : (q5 :: [p14, p13, p12, p11, p10, p9, i9, p8, i8, p7, i7, p6, p5, p4, p3, p2, p1]).Nodup := ((List.Perm.swap p14 q5 _).nodup_iff).mpr nd
    have hf2 : ∀ a ∈ [p14, p13, p12, p11, p10, p9, i9, p8, i8, p7, i7, p6, p5, p4, p3, p2, p1], H a = none ∧ HF a ≠ none := fun a ha => hf a (by
      rcases List.mem_cons.mp ha with rfl | ha
      · exact List.mem_cons_self
      · exact List.mem_cons_of_mem _ (List.mem_cons_of_mem _ ha))
    exact lw_fin K D t (by omega) q5 (([(.non, []), (.ref p1, [p1]), (.ref p2, [p2]), (.ref p3, [p3]), (.ref p4, [p4]), (.ref p5, [p5]), (.str (S [120]), []), (.ref p6, [p6]), (.ref p7, [p7, i7]), (.ref p8, [p8, i8]), (.ref p9, [p9, i9]), (.ref p10, [p10])] : List (V × List Addr)) ++ ([(.ref p11, [p11]), (.ref p12, [p12]), (.ref p13, [p13]), (.ref p14, [p14])] : List (V × List Addr))) HF (sF.at 3 rfl) bF rf2 nd2 (fun a ha => (hf2 a ha).2) _ _ _ _ _ _ _ _ _ _ _ _ _ fun H' f => k _ _ H' (Fm.exN sF.1 (fun a ha => (hf2 a ha).1) f)
  · rw [if_neg (by omega)]
    obtain ⟨nd, hf⟩ := s29.keys (l := [q3, p10, p9, i9, p8, i8, p7, i7, p6, p5, p4, p3, p2, p1]) (by repeat (first | exact List.nil_sublist _ | apply List.Sublist.cons₂ | apply List.Sublist.cons))
    exact lw_fin K D t (by omega) q3 [(.non, []), (.ref p1, [p1]), (.ref p2, [p2]), (.ref p3, [p3]), (.ref p4, [p4]), (.ref p5, [p5]), (.str (S [120]), []), (.ref p6, [p6]), (.ref p7, [p7, i7]), (.ref p8, [p8, i8]), (.ref p9, [p9, i9]), (.ref p10, [p10])] H29 (s29.at 0 rfl) (base _ fun x hx => (s29.2.2 x ((show List.Sublist _ _ from by repeat (first | exact List.nil_sublist _ | apply List.Sublist.cons₂ | apply List.Sublist.cons)).subset hx)).1) rf1 nd (fun a ha => (hf a (List.mem_cons_of_mem _ ha)).2) _ _ _ _ _ _ _ _ _ _ _ _ _ fun H' f => k _ _ H' (Fm.exN s29.1 (fun a ha => (hf a (List.mem_cons_of_mem _ ha)).1) f)
end
end Pf

namespace Pf
open PySem PySem.Spec PyProof.Rows L2 M
local macro_rules | `(tactic| walk_at "go") => `(tactic| try simp only [tSeq, tIfS, tIf, tNot, mTest, tCB, tCons, tNil, mVar, M.gt, mC, Bool.not_true, Bool.not_false, Bool.false_eq_true, if_false, if_true, tNext, tAsg, gName, gSub, List.set_cons_zero, List.set_cons_succ, mFor, mIter, mRevS, S_cps, S_len, S_app, tOp, tSl, mPart, mUn, tNoPart, tRet, tRetN, tTup, tLst, tAnd, tOr, mAndV, mOrV, mNotV, tCall, tCallSD, tDrop, mPar, mPar3, mLstM, mStrM, mBits, mRng1, mRng2, mgTup, mgSeq, mgCons, mgNil, q_add1, q_add2, q_add3, q_add4, q_iadd1, q_iadd2, q_iadd3, q_sorted, q_sub, q_mul1, q_mul2, q_mul3, q_mod, q_div, q_pow, q_eq1, q_eq2, q_eq3, q_eq4, q_eq5, q_eq6, q_eq7, q_eq8, q_eq9, q_eq10, q_ne1, q_ne2, q_ne3, q_ne9, q_ne10, q_lt, q_le, q_gt, q_ge, q_inc1, q_ix1, q_ix2, q_sl1, q_sl2, q_set, q_len1, q_len2, q_int1, q_int2, q_max, q_min, q_abs, q_sum, q_list, q_isi1, q_is1, q_not1, q_isN1, q_isN2, q_isN3, q_isN4, q_join, q_count, q_split, q_app, q_pop, q_clear, q_isiE, q_repr, wipe, List.map_cons, List.map_nil, List.length_cons, List.length_nil, List.length_append, List.length_map, List.nil_append, List.cons_append, List.append_nil, cut_m3, cut_t3, cut_m1, cut_t1, cut_t2, S_eq, decide_eq_true_eq, Bool.not_eq_true', decide_eq_false_iff_not, ne_eq])
local macro_rules | `(tactic| walk_at "hh") => `(tactic| first | assumption | exact upd_same | exact Ex.new (by assumption) _ _ (by walk_at "hh") | exact Ex.at (by assumption) (by assumption) | solve_by_elim [Ex.at])
local macro_rules | `(tactic| walk_at "ee") => `(tactic| first | assumption | exact Ex.refl _ | exact Ex.push (by walk_at "ee") (by assumption) | exact Ex.trans (by assumption) (by assumption) | solve_by_elim [Ex.trans])
local macro_rules | `(tactic| walk_at "sz") => `(tactic| first | (rw [szl]; omega) | (simp only [szl, tx_len, sg_len, List.length_map, List.length_append, List.length_cons, List.length_nil, List.length_singleton, List.length_take, List.length_drop, List.length_reverse, S_len]; omega))
theorem sum_le3 : ∀ hs : List Tr, (∀ x ∈ hs, x.n ≤ 3) → (hs.map Tr.n).sum ≤ 3 * hs.length
  | [], _ => by simp
  | x :: hs, h => by
    have h1 := h x List.mem_cons_self
    have h2 := sum_le3 hs fun y hy => h y (List.mem_cons_of_mem _ hy)
    simp only [List.map_cons, List.sum_cons, List.length_cons]
    omega
section
variable (K : PySem.W.Frag) (aI aL : Addr) (N : Nat)


theorem lw_4 (hN : 210 ≤ N) (D : Ends) (a : Addr) (ns : List Int) (H : Hp) (hL : SqL K H a (ns.map V.int)) (i : Nat) (hi : i ≤ 1000) (x2 x3 x4 x5 x6 x7 x8 x9 x10 x11 : Option V) (H1 : Hp) (e1 : Ex H H1)
    (k : ∀ (w2 w3 w4 w5 w6 w7 w8 w9 w10 w11 : Option V) H2, Ex H H2 → D.nx [some (.ref a), some (.int i), w2, w3, w4, w5, w6, w7, w8, w9, w10, w11, none, none, none] H2) :
    (rd_law_b2 K (sp__law_generator K) (sp__law_tree N) sp__law_random sp__law_trees (sp_grown K aI aL) (sp__law_parsed K) (sp__law_text K N) (sp__law_filled K N) (sp_hung K aI) (sp__law_pair_right K N) (sp__law_caught K) (sp__law_refused K) sp__law_great_right) D [some (.ref a), some (.int i), x2, x3, x4, x5, x6, x7, x8, x9, x10, x11, none, none, none] H1 := by
  walk_at "go"
  refine ⟨a, ns, i, rfl, e1.L hL, hi, fun g o hg pu => ?_⟩
  have ng : H g = none := e1.free hg
  have e2 := e1.push (o := o) hg
  walk_at "go"
  refine ⟨g, 2000000, 13, rfl, by decide, by decide, by decide, pu, fun H2 r f2 p2 r0 r1 => ?_⟩
  obtain ⟨r, rfl⟩ := Int.eq_ofNat_of_zero_le r0
  refine ⟨g, 2000010, r, rfl, by omega, by omega, by omega, p2, fun H3 t ht f3 p3 => ?_⟩
  have e3 : Ex H H3 := Fm.exg e2 ng (f2.trans f3)
  walk_at "go"
  rw [count_S (by decide), Tr.cnt_lf]
  refine ⟨g, _, t.n + 1, rfl, by omega, by omega, p3, fun H4 q4 hs f4 p4 n4 h4 hsl hsn => ?_⟩
  have e4 : Ex H H4 := Fm.exg e3 ng f4
  walk_at "go"
  have hsum := sum_le3 hs hsn
  have hgn := Tr.grow_n t hs
  obtain ⟨hg1, hg2, hg3⟩ := hang_grow t hs (by omega)
  rw [← hsl, List.take_length] at hg2
  have hok : ∀ z ∈ hs.map Tr.s, okc z := fun z hz => by
    obtain ⟨x, _, rfl⟩ := List.mem_map.mp hz
    exact x.s_okc
  refine ⟨_, .inl (SqL.of h4), fun q5 n5 => ?_⟩
  have x5 := Ex.new (o := .lst (trs hs)) n5
  refine ⟨_, _, rfl, .inr ⟨t, rfl, by omega, .inr ⟨hs, q4, rfl, SqL.of (x5 _ _ h4), hsl, by omega, fun H5 e5 => ?_⟩⟩⟩
  generalize hF : (Tr.grow t hs).1 = F at *
  have h5 : H5 q5 = some (.lst (trs hs)) := e5 _ _ upd_same
  have h45 : H5 q4 = some (.lst (trs hs)) := e5 _ _ (x5 _ _ h4)
  have y5 : Ex H H5 := e4.trans (x5.trans e5)
  have p5 := p4.fm (x5.trans e5)
  unfold mLc
  walk_at "go"
  refine ⟨_, .inl ⟨SqL.of h5, fun A hA => ?_⟩⟩
  refine (?lp : ∀ (s acc : List Tr) (us : List V) (Hx : Hp), Ex H5 Hx → Hx A = some (.lst us) → NL K Hx us acc → acc ++ s = hs → cV _ _ _ _ _ _ A _ (trs s) Hx) hs [] [] _ (Ex.new hA) upd_same .nil rfl
  intro s
  induction s with
  | cons x s ih =>
    intro acc us Hx ex hx hu hacc
    have hxn := hsn x (by rw [← hacc]; simp)
    have hal := congrArg List.length hacc
    simp only [List.length_append, List.length_cons] at hal
    have hul := hu.len
    simp only [trs, List.map_cons, cV]
    refine ⟨SqL.of (ex _ _ h5), ?_⟩
    simp only [tYes]
    walk_at "go"
    refine ⟨trivial, x, rfl, by omega, fun H6 v e6 hv => ?_⟩
    walk_at "go"
    refine ⟨_, e6 _ _ hx, by rw [szl]; omega, ?_⟩
    have m1 : ∀ y ∈ [A], H6 y = none ∨ ∃ xs, H6 y = some (.lst xs) := fun y hy => by rw [List.mem_singleton.mp hy]; exact .inr ⟨_, e6 _ _ hx⟩
    have fm : Fm [A] H6 (upd H6 A (.lst (us ++ [v]))) := Fm.mut List.mem_cons_self
    exact ih (acc ++ [x]) (us ++ [v]) _ ((ex.trans e6).mut hA) upd_same ((NL.fm m1 fm (hu.ex e6)).app (.cons (Nst.fm m1 fm hv) .nil)) (by rw [← hacc]; simp)
  | nil =>
    intro acc us Hx ex hx hu hacc
    rw [List.append_nil] at hacc
    subst hacc
    simp only [trs, List.map_nil, cV]
    refine ⟨SqL.of (ex _ _ h5), ?_⟩
    walk_at "go"
    have q1 := ex _ _ h45
    have q2 := ex _ _ h5
    rw [trs_tx] at q1 q2
    refine eq_strs (SqL.of q1) (SqL.of q2) hok hok ?_
    simp only [decide_true, if_true, Bool.not_true]
    walk_at "go"
    refine ⟨t, rfl, by omega, fun H6 v e6 hv => ?_⟩
    have hx6 := e6 _ _ hx
    refine ⟨v, t, A, us, acc, rfl, hv, by omega, hx6, hu.ex e6, by omega, fun H7 r7 us' f7 h7 hu7 hr7 => ?_⟩
    rw [hF] at hr7
    refine ⟨r7, F, rfl, hr7, by omega, by omega, fun H8 e8 => ?_⟩
    walk_at "go"
    rw [if_neg (fun z => z trivial)]
    have e58 : Ex H5 H8 := (Fm.exN (ex.trans e6) (fun p hp => by rw [List.mem_singleton.mp hp]; exact hA) f7).trans e8
    refine ⟨_, _, rfl, .inr ⟨F, rfl, by omega, .inr ⟨t, rfl, by omega, fun la => ?_, fun la H9 q9 e9 n9 h9 => ?_⟩⟩⟩
    · rw [hg1] at la; cases la
    rw [hg2] at h9
    have e59 := e58.trans e9
    have r1 := e59 _ _ h5
    rw [trs_tx] at h9 r1
    refine eq_strs (SqL.of h9) (SqL.of r1) hok hok ?_
    simp only [decide_true, if_true, Bool.not_true]
    walk_at "go"
    refine ⟨⟨by decide, by decide⟩, fun B hB => ?_⟩
    have p9 := p5.fm e59
    simp only [upto, show Int.toNat 2 = 2 from rfl, List.range_succ, List.range_zero, List.nil_append, List.cons_append, List.map_cons, List.map_nil, cV, tYes]
    walk_at "go"
    have gB : B ≠ g := p9.ne hB
    have Bg : g ∉ [B] := by simpa using fun z : g = B => gB z.symm
    refine ⟨trivial, trivial, g, _, 13, rfl, by decide, by decide, by omega, p9.fm (Ex.new hB), fun H10 ra f10 p10 ra0 ra1 => ?_⟩
    obtain ⟨ra, rfl⟩ := Int.eq_ofNat_of_zero_le ra0
    refine ⟨g, _, ra, rfl, by omega, by omega, by omega, p10, fun H11 t1 ht1 f11 p11 => ?_⟩
    have b11 := (f10.trans f11) B _ (by simpa using gB) upd_same
    refine ⟨_, b11, by walk_at "sz", trivial, trivial, ?_⟩
    have m11 : Fm [B] H11 (upd H11 B (.lst ([] ++ [V.str (S t1.s)]))) := Fm.mut List.mem_cons_self
    refine ⟨g, _, 13, rfl, by decide, by decide, by omega, p11.fmo Bg m11, fun H12 rb f12 p12 rb0 rb1 => ?_⟩
    obtain ⟨rb, rfl⟩ := Int.eq_ofNat_of_zero_le rb0
    refine ⟨g, _, rb, rfl, by omega, by omega, by omega, p12, fun H13 t2 ht2 f13 p13 => ?_⟩
    have b13 := (f12.trans f13) B _ (by simpa using gB) upd_same
    refine ⟨_, b13, by walk_at "sz", trivial, by walk_at "sz", fun p hp => ?_⟩
    have m13 : Fm [g, B] H13 (upd H13 B (.lst ([] ++ [V.str (S t1.s)] ++ [V.str (S t2.s)]))) := Fm.mut (by simp)
    have gs : ∀ {Ha Hb : Hp}, Fm [g] Ha Hb → Fm [g, B] Ha Hb := fun f => f.mono (by simp)
    have m11' : Fm [g, B] H11 _ := m11.mono (by simp)
    have fgB := (Fm.new (m := [g, B]) (o := .lst []) hB).trans ((gs f10).trans ((gs f11).trans (m11'.trans ((gs f12).trans ((gs f13).trans m13)))))
    have f9 : Fm [g] H9 (upd H13 B (.lst ([] ++ [V.str (S t1.s)] ++ [V.str (S t2.s)]))) := fun x o nx hx => fgB x o (fun z => by
      rcases List.mem_cons.mp z with z | z
      · exact nx (by simp [z])
      · rw [List.mem_singleton.mp z, hB] at hx; cases hx) hx
    have e9H : Ex H _ := Fm.exg (y5.trans e59) ng f9
    refine ⟨_, _, (Ex.new hp) _ _ upd_same, upd_same, by walk_at "sz", fun q hq hsys => ?_⟩
    refine ⟨_, .inl ⟨SqL.of upd_same, ?_⟩⟩
    have hL5 : ∀ y ∈ [t1, t2, F, t, Tr.lf], y.n ≤ 60 := fun y hy => by
      simp only [List.mem_cons, List.not_mem_nil, or_false] at hy
      rcases hy with rfl | rfl | rfl | rfl | rfl
      · omega
      · omega
      · omega
      · omega
      · decide
    refine lw_oth K aI aL N hN _ [t1, t2, F, t, Tr.lf] hL5 (Nat.le_of_ble_eq_true rfl) q _ _ _ _ _ _ _ _ _ _ _ none _ [t1, t2, F, t, Tr.lf] _ _ hL5 (SqL.of upd_same) fun w7 H14 e14 => ?_
    have q5g : q5 ∉ [g] := by simpa using p4.ne n5
    have a14 := e14 _ _ ((Ex.new hq) _ _ ((Ex.new hp) _ _ (f9 _ _ q5g (e59 _ _ h5))))
    exact lw_end K _ t (by omega) acc hsl hsn q5 H14 a14 _ _ _ _ _ _ _ _ _ _ _ _ _ fun w10 w11 H15 e15 => k _ _ _ _ _ _ _ _ _ _ _ (e9H.trans (((Ex.new hp).push hq).trans (e14.trans e15)))
end
end Pf

namespace Pf
open PySem PySem.Spec PyProof.Rows L2 M
local macro_rules | `(tactic| walk_at "go") => `(tactic| try simp only [tSeq, tIfS, tIf, tNot, mTest, tCB, tCons, tNil, mVar, M.gt, mC, Bool.not_true, Bool.not_false, Bool.false_eq_true, if_false, if_true, tNext, tAsg, gName, gSub, List.set_cons_zero, List.set_cons_succ, mFor, mIter, mRevS, S_cps, S_len, S_app, tOp, tSl, mPart, mUn, tNoPart, tRet, tRetN, tTup, tLst, tAnd, tOr, mAndV, mOrV, mNotV, tCall, tCallSD, tDrop, mPar, mPar3, mLstM, mStrM, mBits, mRng1, mRng2, mgTup, mgSeq, mgCons, mgNil, q_add1, q_add2, q_add3, q_add4, q_iadd1, q_iadd2, q_iadd3, q_sorted, q_sub, q_mul1, q_mul2, q_mul3, q_mod, q_div, q_pow, q_eq1, q_eq2, q_eq3, q_eq4, q_eq5, q_eq6, q_eq7, q_eq8, q_eq9, q_eq10, q_ne1, q_ne2, q_ne3, q_ne9, q_ne10, q_lt, q_le, q_gt, q_ge, q_inc1, q_ix1, q_ix2, q_sl1, q_sl2, q_set, q_len1, q_len2, q_int1, q_int2, q_max, q_min, q_abs, q_sum, q_list, q_isi1, q_is1, q_not1, q_isN1, q_isN2, q_isN3, q_isN4, q_join, q_count, q_split, q_app, q_pop, q_clear, q_isiE, q_repr, wipe, List.map_cons, List.map_nil, List.length_cons, List.length_nil, List.length_append, List.length_map, List.nil_append, List.cons_append, List.append_nil, cut_m3, cut_t3, cut_m1, cut_t1, cut_t2, S_eq, decide_eq_true_eq, Bool.not_eq_true', decide_eq_false_iff_not, ne_eq])
def sp_law (K : PySem.W.Frag) : Sp := fun vs H Q _ => ∃ (a : Addr) (ns : List Int), vs = [.ref a] ∧ SqL K H a (ns.map V.int) ∧ ∀ H', Q (.bl true) H'
section
variable (K : PySem.W.Frag) (aI aL : Addr) (N : Nat)
theorem pu_law (hN : 210 ≤ N) (vs : List V) (H : Hp) (Q : VK) (E : XK) (h : sp_law K vs H Q E) :
    rd_law K (sp__law_generator K) (sp__law_tree N) sp__law_random sp__law_trees (sp_grown K aI aL) (sp__law_parsed K) (sp__law_text K N) (sp__law_filled K N) (sp_hung K aI) (sp__law_pair_right K N) (sp__law_caught K) (sp__law_refused K) sp__law_great_right { nx := fun _ H' => Q .non H', rt := Q } (L2.start N_law vs) H := by
  obtain ⟨a, ns, rfl, hL, k⟩ := h
  show rd_law K _ _ _ _ _ _ _ _ _ _ _ _ _ _ [some _, none, none, none, none, none, none, none, none, none, none, none, none, none, none] H
  unfold rd_law
  walk_at "go"
  refine ⟨⟨by decide, by decide⟩, ?_⟩
  refine (?l1 : ∀ (s : List Nat) (v1 v2 v3 v4 v5 v6 v7 v8 v9 v10 v11 : Option V) (H1 : Hp), (∀ i ∈ s, i ≤ 1000) → Ex H H1 → fV _ _ _ _ (s.map fun (i : Nat) => V.int (0 + (i : Int))) [some (.ref a), v1, v2, v3, v4, v5, v6, v7, v8, v9, v10, v11, none, none, none] H1) (List.range 4) none none none none none none none none none none none H (fun i hi => by have := List.mem_range.mp hi; omega) (Ex.refl H)
  intro s
  induction s with
  | cons i s ih =>
    intro v1 v2 v3 v4 v5 v6 v7 v8 v9 v10 v11 H1 hs e1
    simp only [List.map_cons, fV]
    refine ⟨trivial, ?_⟩
    rw [Int.zero_add]
    exact lw_4 K aI aL N hN _ a ns H hL i (hs i List.mem_cons_self) v2 v3 v4 v5 v6 v7 v8 v9 v10 v11 H1 e1 fun w2 w3 w4 w5 w6 w7 w8 w9 w10 w11 H2 e2 => ih _ _ _ _ _ _ _ _ _ _ _ H2 (fun j hj => hs j (List.mem_cons_of_mem _ hj)) e2
  | nil =>
    intro v1 v2 v3 v4 v5 v6 v7 v8 v9 v10 v11 H1 hs e1
    simp only [List.map_nil, fV]
    refine ⟨trivial, ?_⟩
    walk_at "go"
    refine ⟨a, ns, 9, rfl, e1.L hL, by decide, fun g o hg pu => ?_⟩
    exact ⟨g, 2000000, rfl, pu, by decide, k⟩
end
end Pf

namespace Pf
open PySem PySem.Spec PyProof.Rows L2 M
abbrev Rw : PySem.W.OpenRow := PySem.W.OpenLaw.row PySem.Challenge.rw_treeturns_k04_trees_that_grow
abbrev Pg : Program := (PySem.Challenge.rw_treeturns_k04_trees_that_grow).prog
def dx_InvalidTree___init__ : DefX := ⟨("InvalidTree", some "__init__"), "__init__", "InvalidTree.__init__", defArgs (inClass (top 2) 0), defBody (inClass (top 2) 0), defScope (inClass (top 2) 0), [.non], [], ["__class__"]⟩
def dx_InvalidList___init__ : DefX := ⟨("InvalidList", some "__init__"), "__init__", "InvalidList.__init__", defArgs (inClass (top 3) 0), defBody (inClass (top 3) 0), defScope (inClass (top 3) 0), [.non], [], ["__class__"]⟩
def dx_is_tree : DefX := ⟨("is_tree", none), "is_tree", "is_tree", defArgs (top 5), defBody (top 5), defScope (top 5), [], [], []⟩
def dx_check_tree : DefX := ⟨("check_tree", none), "check_tree", "check_tree", defArgs (top 6), defBody (top 6), defScope (top 6), [], [], []⟩
def dx_end_of : DefX := ⟨("end_of", none), "end_of", "end_of", defArgs (top 7), defBody (top 7), defScope (top 7), [], [], []⟩
def dx_grown_by : DefX := ⟨("grown_by", none), "grown_by", "grown_by", defArgs (top 8), defBody (top 8), defScope (top 8), [], [], []⟩
def dx_grown : DefX := ⟨("grown", none), "grown", "grown", defArgs (top 9), defBody (top 9), defScope (top 9), [], [], []⟩
def dx_hung_on : DefX := ⟨("hung_on", none), "hung_on", "hung_on", defArgs (top 10), defBody (top 10), defScope (top 10), [], [], []⟩
def dx_hung : DefX := ⟨("hung", none), "hung", "hung", defArgs (top 11), defBody (top 11), defScope (top 11), [], [], []⟩
def dx_joined_trees : DefX := ⟨("joined_trees", none), "joined_trees", "joined_trees", defArgs (top 12), defBody (top 12), defScope (top 12), [], [], []⟩
def dx_joined : DefX := ⟨("joined", none), "joined", "joined", defArgs (top 13), defBody (top 13), defScope (top 13), [], [], []⟩
def dx_shared : DefX := ⟨("shared", none), "shared", "shared", defArgs (top 14), defBody (top 14), defScope (top 14), [], [], []⟩
def dx__law_cell : DefX := ⟨("_law_cell", none), "_law_cell", "_law_cell", defArgs (top 16), defBody (top 16), defScope (top 16), [], [], []⟩
def dx__law_hash : DefX := ⟨("_law_hash", none), "_law_hash", "_law_hash", defArgs (top 17), defBody (top 17), defScope (top 17), [], [], []⟩
def dx__law_generator : DefX := ⟨("_law_generator", none), "_law_generator", "_law_generator", defArgs (top 18), defBody (top 18), defScope (top 18), [], [], []⟩
def dx__law_random : DefX := ⟨("_law_random", none), "_law_random", "_law_random", defArgs (top 19), defBody (top 19), defScope (top 19), [], [], []⟩
def dx__law_tree : DefX := ⟨("_law_tree", none), "_law_tree", "_law_tree", defArgs (top 20), defBody (top 20), defScope (top 20), [], [], []⟩
def dx__law_parsed : DefX := ⟨("_law_parsed", none), "_law_parsed", "_law_parsed", defArgs (top 21), defBody (top 21), defScope (top 21), [], [], []⟩
def dx__law_text : DefX := ⟨("_law_text", none), "_law_text", "_law_text", defArgs (top 22), defBody (top 22), defScope (top 22), [], [], []⟩
def dx__law_filled : DefX := ⟨("_law_filled", none), "_law_filled", "_law_filled", defArgs (top 23), defBody (top 23), defScope (top 23), [], [], []⟩
def dx__law_hanging : DefX := ⟨("_law_hanging", none), "_law_hanging", "_law_hanging", defArgs (top 24), defBody (top 24), defScope (top 24), [], [], []⟩
def dx__law_both : DefX := ⟨("_law_both", none), "_law_both", "_law_both", defArgs (top 25), defBody (top 25), defScope (top 25), [], [], []⟩
def dx__law_trees : DefX := ⟨("_law_trees", none), "_law_trees", "_law_trees", defArgs (top 26), defBody (top 26), defScope (top 26), [], [], []⟩
def dx__law_core : DefX := ⟨("_law_core", none), "_law_core", "_law_core", defArgs (top 27), defBody (top 27), defScope (top 27), [], [], []⟩
def dx__law_pair_right : DefX := ⟨("_law_pair_right", none), "_law_pair_right", "_law_pair_right", defArgs (top 28), defBody (top 28), defScope (top 28), [], [], []⟩
def dx__law_caught : DefX := ⟨("_law_caught", none), "_law_caught", "_law_caught", defArgs (top 29), defBody (top 29), defScope (top 29), [], [], []⟩
def dx__law_no_tree : DefX := ⟨("_law_no_tree", none), "_law_no_tree", "_law_no_tree", defArgs (top 30), defBody (top 30), defScope (top 30), [], [], []⟩
def dx__law_refused : DefX := ⟨("_law_refused", none), "_law_refused", "_law_refused", defArgs (top 31), defBody (top 31), defScope (top 31), [], [], []⟩
def dx__law_great_right : DefX := ⟨("_law_great_right", none), "_law_great_right", "_law_great_right", defArgs (top 32), defBody (top 32), defScope (top 32), [], [], []⟩
def dx_law : DefX := ⟨("law", none), "law", "law", defArgs (top 33), defBody (top 33), defScope (top 33), [], [], []⟩
def fnL : List DefX := ([dx_InvalidTree___init__,
  dx_InvalidList___init__,
  dx_is_tree,
  dx_check_tree,
  dx_end_of,
  dx_grown_by,
  dx_grown,
  dx_hung_on,
  dx_hung,
  dx_joined_trees,
  dx_joined,
  dx_shared,
  dx__law_cell,
  dx__law_hash,
  dx__law_generator,
  dx__law_random,
  dx__law_tree,
  dx__law_parsed,
  dx__law_text,
  dx__law_filled,
  dx__law_hanging,
  dx__law_both,
  dx__law_trees,
  dx__law_core,
  dx__law_pair_right] : List DefX) ++ ([dx__law_caught,
  dx__law_no_tree,
  dx__law_refused,
  dx__law_great_right,
  dx_law] : List DefX)
def faL : List FaX := ([fun K => (He.Fa.glo "TurnError").ok K,
  fun K => (He.Fa.glo "InvalidTree").ok K,
  fun K => (He.Fa.glo "InvalidList").ok K,
  fun K => (He.Fa.glo "is_tree").ok K,
  fun K => (He.Fa.glo "check_tree").ok K,
  fun K => (He.Fa.glo "end_of").ok K,
  fun K => (He.Fa.glo "grown_by").ok K,
  fun K => (He.Fa.glo "grown").ok K,
  fun K => (He.Fa.glo "hung_on").ok K,
  fun K => (He.Fa.glo "hung").ok K,
  fun K => (He.Fa.glo "joined_trees").ok K,
  fun K => (He.Fa.glo "joined").ok K,
  fun K => (He.Fa.glo "shared").ok K,
  fun K => (He.Fa.glo "_law_cell").ok K,
  fun K => (He.Fa.glo "_law_hash").ok K] : List FaX) ++ ([fun K => (He.Fa.glo "_law_generator").ok K,
  fun K => (He.Fa.glo "_law_random").ok K,
  fun K => (He.Fa.glo "_law_tree").ok K,
  fun K => (He.Fa.glo "_law_parsed").ok K,
  fun K => (He.Fa.glo "_law_text").ok K,
  fun K => (He.Fa.glo "_law_filled").ok K,
  fun K => (He.Fa.glo "_law_hanging").ok K,
  fun K => (He.Fa.glo "_law_both").ok K,
  fun K => (He.Fa.glo "_law_trees").ok K,
  fun K => (He.Fa.glo "_law_core").ok K,
  fun K => (He.Fa.glo "_law_pair_right").ok K,
  fun K => (He.Fa.glo "_law_caught").ok K,
  fun K => (He.Fa.glo "_law_no_tree").ok K,
  fun K => (He.Fa.glo "_law_refused").ok K,
  fun K => (He.Fa.glo "_law_great_right").ok K] : List FaX) ++ ([fun K => (He.Fa.glo "law").ok K,
  fun K => (He.Fa.free "isinstance").ok K,
  fun K => (He.Fa.free "str").ok K,
  fun K => (He.Fa.free "enumerate").ok K,
  fun K => (He.Fa.free "len").ok K,
  fun K => (He.Fa.free "list").ok K,
  fun K => (He.Fa.free "int").ok K,
  fun K => (He.Fa.free "max").ok K,
  fun K => (He.Fa.free "range").ok K,
  fun K => (He.Fa.free "repr").ok K,
  fun K => (He.Fa.free "tuple").ok K,
  fun K => exB Pg "InvalidTree" "value" K,
  fun K => exB Pg "InvalidList" "value" K,
  fun K => (He.Fa.exm "InvalidTree" "TurnError" true).ok K,
  fun K => (He.Fa.exm "InvalidList" "TurnError" true).ok K] : List FaX) ++ ([fun K => decide (PySem.W.kitOne K (.ref (He.ga K "InvalidTree")) (.ref (He.ga K "InvalidTree")) = some true),
  fun K => decide (PySem.W.kitOne K (.ref (He.ga K "InvalidList")) (.ref (He.ga K "InvalidList")) = some true)] : List FaX)
def loose : List PySem.Str := (["TurnError",
  "InvalidTree",
  "InvalidList",
  "is_tree",
  "check_tree",
  "end_of",
  "grown_by",
  "grown",
  "hung_on",
  "hung",
  "joined_trees",
  "joined",
  "shared",
  "_law_cell",
  "_law_hash",
  "_law_generator",
  "_law_random",
  "_law_tree",
  "_law_parsed",
  "_law_text",
  "_law_filled",
  "_law_hanging",
  "_law_both",
  "_law_trees",
  "_law_core"] : List PySem.Str) ++ (["_law_pair_right",
  "_law_caught",
  "_law_no_tree",
  "_law_refused",
  "_law_great_right"] : List PySem.Str)
abbrev hk : PySem.W.Hook := hookX 4 faL fnL
def ob (s : PySem.W.SharedT) : AlX := obsXG 4 faL fnL (HandSHeadRun.getT s)
theorem ob_eq (s : PySem.W.SharedT) : ob s = hk.obs s.abs := obsXG_eq (HandSHeadRun.getT_eq s)
set_option maxHeartbeats 0 in
theorem run (w : World) : HandSHeadRun.RunEq Rw (PySem.W.view Rw.prog [33]) hk ob 6000 loose w := by
  intro os
  kernel_rfl
theorem facts {w : World} {K : PySem.W.Frag} {h : Heap} {mg : Str → Option Value} {fa : Addr} (X : K.In h) (G : h.Ns mainGlobals mg) (hfa : mg ("law" : Str) = some (.ref fa)) (c : SaysX faL fnL K) :
    ∃ fd : FuncData, (∀ (s : Shared) (v : Value), BindsTo s fd ⟨[v], []⟩ [("_law_script", v)]) ∧ ∀ base : Heap, K.In base → base.Ns mainGlobals mg → FnG Pg w K mg base CX0 250 fa fd ["_law_script"] (sp_law K) := by
  have g_TurnError : mg "TurnError" = some (.ref (He.ga K "TurnError")) := He.glo_ok X G (c.fact 0 (f := fun K => (He.Fa.glo "TurnError").ok K))
  have g_InvalidTree : mg "InvalidTree" = some (.ref (He.ga K "InvalidTree")) := He.glo_ok X G (c.fact 1 (f := fun K => (He.Fa.glo "InvalidTree").ok K))
  have g_InvalidList : mg "InvalidList" = some (.ref (He.ga K "InvalidList")) := He.glo_ok X G (c.fact 2 (f := fun K => (He.Fa.glo "InvalidList").ok K))
  have g_is_tree : mg "is_tree" = some (.ref (He.ga K "is_tree")) := He.glo_ok X G (c.fact 3 (f := fun K => (He.Fa.glo "is_tree").ok K))
  have g_check_tree : mg "check_tree" = some (.ref (He.ga K "check_tree")) := He.glo_ok X G (c.fact 4 (f := fun K => (He.Fa.glo "check_tree").ok K))
  have g_end_of : mg "end_of" = some (.ref (He.ga K "end_of")) := He.glo_ok X G (c.fact 5 (f := fun K => (He.Fa.glo "end_of").ok K))
  have g_grown_by : mg "grown_by" = some (.ref (He.ga K "grown_by")) := He.glo_ok X G (c.fact 6 (f := fun K => (He.Fa.glo "grown_by").ok K))
  have g_grown : mg "grown" = some (.ref (He.ga K "grown")) := He.glo_ok X G (c.fact 7 (f := fun K => (He.Fa.glo "grown").ok K))
  have g_hung_on : mg "hung_on" = some (.ref (He.ga K "hung_on")) := He.glo_ok X G (c.fact 8 (f := fun K => (He.Fa.glo "hung_on").ok K))
  have g_hung : mg "hung" = some (.ref (He.ga K "hung")) := He.glo_ok X G (c.fact 9 (f := fun K => (He.Fa.glo "hung").ok K))
  have g_joined_trees : mg "joined_trees" = some (.ref (He.ga K "joined_trees")) := He.glo_ok X G (c.fact 10 (f := fun K => (He.Fa.glo "joined_trees").ok K))
  have g_joined : mg "joined" = some (.ref (He.ga K "joined")) := He.glo_ok X G (c.fact 11 (f := fun K => (He.Fa.glo "joined").ok K))
  have g_shared : mg "shared" = some (.ref (He.ga K "shared")) := He.glo_ok X G (c.fact 12 (f := fun K => (He.Fa.glo "shared").ok K))
  have g__law_cell : mg "_law_cell" = some (.ref (He.ga K "_law_cell")) := He.glo_ok X G (c.fact 13 (f := fun K => (He.Fa.glo "_law_cell").ok K))
  have g__law_hash : mg "_law_hash" = some (.ref (He.ga K "_law_hash")) := He.glo_ok X G (c.fact 14 (f := fun K => (He.Fa.glo "_law_hash").ok K))
  have g__law_generator : mg "_law_generator" = some (.ref (He.ga K "_law_generator")) := He.glo_ok X G (c.fact 15 (f := fun K => (He.Fa.glo "_law_generator").ok K))
  have g__law_random : mg "_law_random" = some (.ref (He.ga K "_law_random")) := He.glo_ok X G (c.fact 16 (f := fun K => (He.Fa.glo "_law_random").ok K))
  have g__law_tree : mg "_law_tree" = some (.ref (He.ga K "_law_tree")) := He.glo_ok X G (c.fact 17 (f := fun K => (He.Fa.glo "_law_tree").ok K))
  have g__law_parsed : mg "_law_parsed" = some (.ref (He.ga K "_law_parsed")) := He.glo_ok X G (c.fact 18 (f := fun K => (He.Fa.glo "_law_parsed").ok K))
  have g__law_text : mg "_law_text" = some (.ref (He.ga K "_law_text")) := He.glo_ok X G (c.fact 19 (f := fun K => (He.Fa.glo "_law_text").ok K))
  have g__law_filled : mg "_law_filled" = some (.ref (He.ga K "_law_filled")) := He.glo_ok X G (c.fact 20 (f := fun K => (He.Fa.glo "_law_filled").ok K))
  have g__law_hanging : mg "_law_hanging" = some (.ref (He.ga K "_law_hanging")) := He.glo_ok X G (c.fact 21 (f := fun K => (He.Fa.glo "_law_hanging").ok K))
  have g__law_both : mg "_law_both" = some (.ref (He.ga K "_law_both")) := He.glo_ok X G (c.fact 22 (f := fun K => (He.Fa.glo "_law_both").ok K))
  have g__law_trees : mg "_law_trees" = some (.ref (He.ga K "_law_trees")) := He.glo_ok X G (c.fact 23 (f := fun K => (He.Fa.glo "_law_trees").ok K))
  have g__law_core : mg "_law_core" = some (.ref (He.ga K "_law_core")) := He.glo_ok X G (c.fact 24 (f := fun K => (He.Fa.glo "_law_core").ok K))
  have g__law_pair_right : mg "_law_pair_right" = some (.ref (He.ga K "_law_pair_right")) := He.glo_ok X G (c.fact 25 (f := fun K => (He.Fa.glo "_law_pair_right").ok K))
  have g__law_caught : mg "_law_caught" = some (.ref (He.ga K "_law_caught")) := He.glo_ok X G (c.fact 26 (f := fun K => (He.Fa.glo "_law_caught").ok K))
  have g__law_no_tree : mg "_law_no_tree" = some (.ref (He.ga K "_law_no_tree")) := He.glo_ok X G (c.fact 27 (f := fun K => (He.Fa.glo "_law_no_tree").ok K))
  have g__law_refused : mg "_law_refused" = some (.ref (He.ga K "_law_refused")) := He.glo_ok X G (c.fact 28 (f := fun K => (He.Fa.glo "_law_refused").ok K))
  have g__law_great_right : mg "_law_great_right" = some (.ref (He.ga K "_law_great_right")) := He.glo_ok X G (c.fact 29 (f := fun K => (He.Fa.glo "_law_great_right").ok K))
  have g_law : mg "law" = some (.ref (He.ga K "law")) := He.glo_ok X G (c.fact 30 (f := fun K => (He.Fa.glo "law").ok K))
  have T : Tx K mg := ⟨He.free_ok X G (c.fact 31 (f := fun K => (He.Fa.free "isinstance").ok K)), He.free_ok X G (c.fact 32 (f := fun K => (He.Fa.free "str").ok K)), He.free_ok X G (c.fact 33 (f := fun K => (He.Fa.free "enumerate").ok K)), He.free_ok X G (c.fact 34 (f := fun K => (He.Fa.free "len").ok K)), He.free_ok X G (c.fact 35 (f := fun K => (He.Fa.free "list").ok K)), He.free_ok X G (c.fact 36 (f := fun K => (He.Fa.free "int").ok K)), He.free_ok X G (c.fact 37 (f := fun K => (He.Fa.free "max").ok K)), He.free_ok X G (c.fact 38 (f := fun K => (He.Fa.free "range").ok K)), He.free_ok X G (c.fact 39 (f := fun K => (He.Fa.free "repr").ok K)), He.free_ok X G (c.fact 40 (f := fun K => (He.Fa.free "tuple").ok K))⟩
  have x0 : PySem.W.exmOne K (.ref (He.ga K "InvalidTree")) (.ref (He.ga K "TurnError")) = some true := He.exm_ok (c.fact 43 (f := fun K => (He.Fa.exm "InvalidTree" "TurnError" true).ok K))
  have x1 : PySem.W.exmOne K (.ref (He.ga K "InvalidList")) (.ref (He.ga K "TurnError")) = some true := He.exm_ok (c.fact 44 (f := fun K => (He.Fa.exm "InvalidList" "TurnError" true).ok K))
  have z1 : PySem.W.kitOne K (.ref (He.ga K "InvalidTree")) (.ref (He.ga K "InvalidTree")) = some true := of_decide_eq_true (c.fact 45 (f := fun K => decide (PySem.W.kitOne K (.ref (He.ga K "InvalidTree")) (.ref (He.ga K "InvalidTree")) = some true)))
  have z2 : PySem.W.kitOne K (.ref (He.ga K "InvalidList")) (.ref (He.ga K "InvalidList")) = some true := of_decide_eq_true (c.fact 46 (f := fun K => decide (PySem.W.kitOne K (.ref (He.ga K "InvalidList")) (.ref (He.ga K "InvalidList")) = some true)))
  obtain ⟨X_InvalidTree, E_InvalidTree⟩ : ExcAt Pg w K mg "InvalidTree" "value" (He.ga K "InvalidTree") ∧ ExcK K "value" (He.ga K "InvalidTree") := ex_of (q := [⟨7, 8, 7, 13⟩, ⟨7, 8, 7, 15⟩, ⟨7, 8, 7, 24⟩, ⟨7, 25, 7, 30⟩, ⟨7, 8, 7, 31⟩, ⟨7, 8, 7, 31⟩, ⟨8, 8, 8, 12⟩, ⟨8, 8, 8, 18⟩, ⟨8, 21, 8, 26⟩, ⟨8, 8, 8, 26⟩]) X G (c.fact 41 (f := fun K => exB Pg "InvalidTree" "value" K)) (c.def0 0 (d := dx_InvalidTree___init__)) rfl rfl rfl rfl rfl rfl rfl (by decide) (by decide) rfl rfl rfl rfl rfl rfl rfl (by decide) (by decide +kernel) (fun env h => by cases env; cases h; rfl) (fun env h => by cases env; cases h; exact ⟨_, rfl⟩) (fun env h => by cases env; cases h; rfl) (fun _ _ _ _ _ _ _ _ _ _ => ⟨_, rfl, rfl⟩) (fun _ _ _ _ _ _ _ _ _ => ⟨_, rfl, rfl⟩) (fun _ _ _ _ _ _ _ _ _ _ => ⟨_, rfl, rfl⟩)
  obtain ⟨X_InvalidList, E_InvalidList⟩ : ExcAt Pg w K mg "InvalidList" "value" (He.ga K "InvalidList") ∧ ExcK K "value" (He.ga K "InvalidList") := ex_of (q := [⟨12, 8, 12, 13⟩, ⟨12, 8, 12, 15⟩, ⟨12, 8, 12, 24⟩, ⟨12, 25, 12, 30⟩, ⟨12, 8, 12, 31⟩, ⟨12, 8, 12, 31⟩, ⟨13, 8, 13, 12⟩, ⟨13, 8, 13, 18⟩, ⟨13, 21, 13, 26⟩, ⟨13, 8, 13, 26⟩]) X G (c.fact 42 (f := fun K => exB Pg "InvalidList" "value" K)) (c.def0 1 (d := dx_InvalidList___init__)) rfl rfl rfl rfl rfl rfl rfl (by decide) (by decide) rfl rfl rfl rfl rfl rfl rfl (by decide) (by decide +kernel) (fun env h => by cases env; cases h; rfl) (fun env h => by cases env; cases h; exact ⟨_, rfl⟩) (fun env h => by cases env; cases h; rfl) (fun _ _ _ _ _ _ _ _ _ _ => ⟨_, rfl, rfl⟩) (fun _ _ _ _ _ _ _ _ _ => ⟨_, rfl, rfl⟩) (fun _ _ _ _ _ _ _ _ _ _ => ⟨_, rfl, rfl⟩)
  obtain ⟨fd_is_tree, F_is_tree⟩ := c.def_ 2 (d := dx_is_tree)
  obtain ⟨fd_check_tree, F_check_tree⟩ := c.def_ 3 (d := dx_check_tree)
  obtain ⟨fd_end_of, F_end_of⟩ := c.def_ 4 (d := dx_end_of)
  obtain ⟨fd_grown_by, F_grown_by⟩ := c.def_ 5 (d := dx_grown_by)
  obtain ⟨fd_grown, F_grown⟩ := c.def_ 6 (d := dx_grown)
  obtain ⟨fd_hung_on, F_hung_on⟩ := c.def_ 7 (d := dx_hung_on)
  obtain ⟨fd_hung, F_hung⟩ := c.def_ 8 (d := dx_hung)
  obtain ⟨fd_joined_trees, F_joined_trees⟩ := c.def_ 9 (d := dx_joined_trees)
  obtain ⟨fd_joined, F_joined⟩ := c.def_ 10 (d := dx_joined)
  obtain ⟨fd_shared, F_shared⟩ := c.def_ 11 (d := dx_shared)
  obtain ⟨fd__law_cell, F__law_cell⟩ := c.def_ 12 (d := dx__law_cell)
  obtain ⟨fd__law_hash, F__law_hash⟩ := c.def_ 13 (d := dx__law_hash)
  obtain ⟨fd__law_generator, F__law_generator⟩ := c.def_ 14 (d := dx__law_generator)
  obtain ⟨fd__law_random, F__law_random⟩ := c.def_ 15 (d := dx__law_random)
  obtain ⟨fd__law_tree, F__law_tree⟩ := c.def_ 16 (d := dx__law_tree)
  obtain ⟨fd__law_parsed, F__law_parsed⟩ := c.def_ 17 (d := dx__law_parsed)
  obtain ⟨fd__law_text, F__law_text⟩ := c.def_ 18 (d := dx__law_text)
  obtain ⟨fd__law_filled, F__law_filled⟩ := c.def_ 19 (d := dx__law_filled)
  obtain ⟨fd__law_hanging, F__law_hanging⟩ := c.def_ 20 (d := dx__law_hanging)
  obtain ⟨fd__law_both, F__law_both⟩ := c.def_ 21 (d := dx__law_both)
  obtain ⟨fd__law_trees, F__law_trees⟩ := c.def_ 22 (d := dx__law_trees)
  obtain ⟨fd__law_core, F__law_core⟩ := c.def_ 23 (d := dx__law_core)
  obtain ⟨fd__law_pair_right, F__law_pair_right⟩ := c.def_ 24 (d := dx__law_pair_right)
  obtain ⟨fd__law_caught, F__law_caught⟩ := c.def_ 25 (d := dx__law_caught)
  obtain ⟨fd__law_no_tree, F__law_no_tree⟩ := c.def_ 26 (d := dx__law_no_tree)
  obtain ⟨fd__law_refused, F__law_refused⟩ := c.def_ 27 (d := dx__law_refused)
  obtain ⟨fd__law_great_right, F__law_great_right⟩ := c.def_ 28 (d := dx__law_great_right)
  obtain ⟨fd_law, F_law⟩ := c.def_ 29 (d := dx_law)
  cases hfa.symm.trans g_law
  refine ⟨fd_law, fun s v => FunD.bindsA (ps := ["_law_script"]) F_law (fun _ _ _ _ _ _ us hl => match us, hl with | [_], _ => rfl) s [v] rfl, fun base _ _ => ?_⟩
  have C__law_cell : CalG Pg w K mg base CX0 "_law_cell" 1 ["_law_script", "_law_index"] [] (sp__law_cell K) := ⟨_, fd__law_cell, [], ok__law_cell (k := 0) F__law_cell T   (fun vs H Q E h => by first | (obtain ⟨rfl, _⟩ := h; rfl) | (obtain ⟨_, rfl, _⟩ := h; rfl) | (obtain ⟨_, _, rfl, _⟩ := h; rfl) | (obtain ⟨_, _, _, rfl, _⟩ := h; rfl) | (obtain ⟨_, _, _, _, rfl, _⟩ := h; rfl) | (obtain ⟨_, _, _, _, _, rfl, _⟩ := h; rfl) | (obtain ⟨_, _, _, _, _, _, rfl, _⟩ := h; rfl) | (obtain ⟨_, _, _, _, _, _, _, rfl, _⟩ := h; rfl) | (obtain ⟨_, _, _, _, _, _, _, _, rfl, _⟩ := h; rfl) | (obtain ⟨_, _, _, _, _, _, _, _, _, rfl, _⟩ := h; rfl) | (obtain ⟨_, _, _, _, _, _, _, _, _, _, rfl, _⟩ := h; rfl) | (obtain ⟨_, _, _, _, _, _, _, _, _, _, _, rfl, _⟩ := h; rfl) | (obtain ⟨_, _, _, _, _, _, _, _, _, _, _, _, rfl, _⟩ := h; rfl) | (obtain ⟨_, _, _, _, _, _, _, _, _, _, _, _, _, rfl, _⟩ := h; rfl) | (obtain ⟨_, _, _, _, _, _, _, _, _, _, _, _, _, _, rfl, _⟩ := h; rfl)) (pu__law_cell K), g__law_cell, F__law_cell.kp, F__law_cell.bindsN (ps := ["_law_script", "_law_index"]) fun _ _ _ _ _ _ us hl => match us, hl with | [_, _], _ => rfl, .nil⟩
  have C__law_generator : CalG Pg w K mg base CX0 "_law_generator" 2 ["_law_script", "_law_index"] [] (sp__law_generator K) := ⟨_, fd__law_generator, [], ok__law_generator (k := 1) F__law_generator T C__law_cell (by omega) (fun vs H Q E h => by first | (obtain ⟨rfl, _⟩ := h; rfl) | (obtain ⟨_, rfl, _⟩ := h; rfl) | (obtain ⟨_, _, rfl, _⟩ := h; rfl) | (obtain ⟨_, _, _, rfl, _⟩ := h; rfl) | (obtain ⟨_, _, _, _, rfl, _⟩ := h; rfl) | (obtain ⟨_, _, _, _, _, rfl, _⟩ := h; rfl) | (obtain ⟨_, _, _, _, _, _, rfl, _⟩ := h; rfl) | (obtain ⟨_, _, _, _, _, _, _, rfl, _⟩ := h; rfl) | (obtain ⟨_, _, _, _, _, _, _, _, rfl, _⟩ := h; rfl) | (obtain ⟨_, _, _, _, _, _, _, _, _, rfl, _⟩ := h; rfl) | (obtain ⟨_, _, _, _, _, _, _, _, _, _, rfl, _⟩ := h; rfl) | (obtain ⟨_, _, _, _, _, _, _, _, _, _, _, rfl, _⟩ := h; rfl) | (obtain ⟨_, _, _, _, _, _, _, _, _, _, _, _, rfl, _⟩ := h; rfl) | (obtain ⟨_, _, _, _, _, _, _, _, _, _, _, _, _, rfl, _⟩ := h; rfl) | (obtain ⟨_, _, _, _, _, _, _, _, _, _, _, _, _, _, rfl, _⟩ := h; rfl)) (pu__law_generator K), g__law_generator, F__law_generator.kp, F__law_generator.bindsN (ps := ["_law_script", "_law_index"]) fun _ _ _ _ _ _ us hl => match us, hl with | [_, _], _ => rfl, .nil⟩
  have C__law_hash : CalG Pg w K mg base CX0 "_law_hash" 1 ["_law_seed", "_law_index"] [] (sp__law_hash) := ⟨_, fd__law_hash, [], ok__law_hash (k := 0) F__law_hash T   (fun vs H Q E h => by first | (obtain ⟨rfl, _⟩ := h; rfl) | (obtain ⟨_, rfl, _⟩ := h; rfl) | (obtain ⟨_, _, rfl, _⟩ := h; rfl) | (obtain ⟨_, _, _, rfl, _⟩ := h; rfl) | (obtain ⟨_, _, _, _, rfl, _⟩ := h; rfl) | (obtain ⟨_, _, _, _, _, rfl, _⟩ := h; rfl) | (obtain ⟨_, _, _, _, _, _, rfl, _⟩ := h; rfl) | (obtain ⟨_, _, _, _, _, _, _, rfl, _⟩ := h; rfl) | (obtain ⟨_, _, _, _, _, _, _, _, rfl, _⟩ := h; rfl) | (obtain ⟨_, _, _, _, _, _, _, _, _, rfl, _⟩ := h; rfl) | (obtain ⟨_, _, _, _, _, _, _, _, _, _, rfl, _⟩ := h; rfl) | (obtain ⟨_, _, _, _, _, _, _, _, _, _, _, rfl, _⟩ := h; rfl) | (obtain ⟨_, _, _, _, _, _, _, _, _, _, _, _, rfl, _⟩ := h; rfl) | (obtain ⟨_, _, _, _, _, _, _, _, _, _, _, _, _, rfl, _⟩ := h; rfl) | (obtain ⟨_, _, _, _, _, _, _, _, _, _, _, _, _, _, rfl, _⟩ := h; rfl)) (pu__law_hash K), g__law_hash, F__law_hash.kp, F__law_hash.bindsN (ps := ["_law_seed", "_law_index"]) fun _ _ _ _ _ _ us hl => match us, hl with | [_, _], _ => rfl, .nil⟩
  have C__law_random : CalG Pg w K mg base CX0 "_law_random" 2 ["_law_generator_here", "_law_bound"] [] (sp__law_random) := ⟨_, fd__law_random, [], ok__law_random (k := 1) F__law_random T C__law_hash (by omega) (fun vs H Q E h => by first | (obtain ⟨rfl, _⟩ := h; rfl) | (obtain ⟨_, rfl, _⟩ := h; rfl) | (obtain ⟨_, _, rfl, _⟩ := h; rfl) | (obtain ⟨_, _, _, rfl, _⟩ := h; rfl) | (obtain ⟨_, _, _, _, rfl, _⟩ := h; rfl) | (obtain ⟨_, _, _, _, _, rfl, _⟩ := h; rfl) | (obtain ⟨_, _, _, _, _, _, rfl, _⟩ := h; rfl) | (obtain ⟨_, _, _, _, _, _, _, rfl, _⟩ := h; rfl) | (obtain ⟨_, _, _, _, _, _, _, _, rfl, _⟩ := h; rfl) | (obtain ⟨_, _, _, _, _, _, _, _, _, rfl, _⟩ := h; rfl) | (obtain ⟨_, _, _, _, _, _, _, _, _, _, rfl, _⟩ := h; rfl) | (obtain ⟨_, _, _, _, _, _, _, _, _, _, _, rfl, _⟩ := h; rfl) | (obtain ⟨_, _, _, _, _, _, _, _, _, _, _, _, rfl, _⟩ := h; rfl) | (obtain ⟨_, _, _, _, _, _, _, _, _, _, _, _, _, rfl, _⟩ := h; rfl) | (obtain ⟨_, _, _, _, _, _, _, _, _, _, _, _, _, _, rfl, _⟩ := h; rfl)) (pu__law_random K), g__law_random, F__law_random.kp, F__law_random.bindsN (ps := ["_law_generator_here", "_law_bound"]) fun _ _ _ _ _ _ us hl => match us, hl with | [_, _], _ => rfl, .nil⟩
  have R__law_tree : ∀ n : Nat, FnG Pg w K mg base CX0 (2 + n) (He.ga K "_law_tree") fd__law_tree ["_law_generator_here", "_law_many"] (sp__law_tree n) := by
    intro n
    induction n with
    | zero => exact FnG.zero (fun vs H Q E h => by obtain ⟨_, _, _, _, z, _⟩ := h; exact absurd z (Nat.not_lt_zero _))
    | succ n ih =>
      have I__law_tree : CalG Pg w K mg base CX0 "_law_tree" (2 + n) ["_law_generator_here", "_law_many"] [] (sp__law_tree n) := ⟨_, fd__law_tree, [], ih, g__law_tree, F__law_tree.kp, F__law_tree.bindsN (ps := ["_law_generator_here", "_law_many"]) fun _ _ _ _ _ _ us hl => match us, hl with | [_, _], _ => rfl, .nil⟩
      exact ok__law_tree (k := 2 + n) F__law_tree T C__law_random I__law_tree (by omega) (by omega) (fun vs H Q E h => by first | (obtain ⟨rfl, _⟩ := h; rfl) | (obtain ⟨_, rfl, _⟩ := h; rfl) | (obtain ⟨_, _, rfl, _⟩ := h; rfl) | (obtain ⟨_, _, _, rfl, _⟩ := h; rfl) | (obtain ⟨_, _, _, _, rfl, _⟩ := h; rfl) | (obtain ⟨_, _, _, _, _, rfl, _⟩ := h; rfl) | (obtain ⟨_, _, _, _, _, _, rfl, _⟩ := h; rfl) | (obtain ⟨_, _, _, _, _, _, _, rfl, _⟩ := h; rfl) | (obtain ⟨_, _, _, _, _, _, _, _, rfl, _⟩ := h; rfl) | (obtain ⟨_, _, _, _, _, _, _, _, _, rfl, _⟩ := h; rfl) | (obtain ⟨_, _, _, _, _, _, _, _, _, _, rfl, _⟩ := h; rfl) | (obtain ⟨_, _, _, _, _, _, _, _, _, _, _, rfl, _⟩ := h; rfl) | (obtain ⟨_, _, _, _, _, _, _, _, _, _, _, _, rfl, _⟩ := h; rfl) | (obtain ⟨_, _, _, _, _, _, _, _, _, _, _, _, _, rfl, _⟩ := h; rfl) | (obtain ⟨_, _, _, _, _, _, _, _, _, _, _, _, _, _, rfl, _⟩ := h; rfl)) (pu__law_tree K n)
  have C__law_tree : CalG Pg w K mg base CX0 "_law_tree" 214 ["_law_generator_here", "_law_many"] [] (sp__law_tree 212) := ⟨_, fd__law_tree, [], R__law_tree 212, g__law_tree, F__law_tree.kp, F__law_tree.bindsN (ps := ["_law_generator_here", "_law_many"]) fun _ _ _ _ _ _ us hl => match us, hl with | [_, _], _ => rfl, .nil⟩
  have C__law_trees : CalG Pg w K mg base CX0 "_law_trees" 215 ["_law_generator_here", "_law_many"] [] (sp__law_trees) := ⟨_, fd__law_trees, [], ok__law_trees (k := 214) F__law_trees T C__law_random C__law_tree (by omega) (by omega) (fun vs H Q E h => by first | (obtain ⟨rfl, _⟩ := h; rfl) | (obtain ⟨_, rfl, _⟩ := h; rfl) | (obtain ⟨_, _, rfl, _⟩ := h; rfl) | (obtain ⟨_, _, _, rfl, _⟩ := h; rfl) | (obtain ⟨_, _, _, _, rfl, _⟩ := h; rfl) | (obtain ⟨_, _, _, _, _, rfl, _⟩ := h; rfl) | (obtain ⟨_, _, _, _, _, _, rfl, _⟩ := h; rfl) | (obtain ⟨_, _, _, _, _, _, _, rfl, _⟩ := h; rfl) | (obtain ⟨_, _, _, _, _, _, _, _, rfl, _⟩ := h; rfl) | (obtain ⟨_, _, _, _, _, _, _, _, _, rfl, _⟩ := h; rfl) | (obtain ⟨_, _, _, _, _, _, _, _, _, _, rfl, _⟩ := h; rfl) | (obtain ⟨_, _, _, _, _, _, _, _, _, _, _, rfl, _⟩ := h; rfl) | (obtain ⟨_, _, _, _, _, _, _, _, _, _, _, _, rfl, _⟩ := h; rfl) | (obtain ⟨_, _, _, _, _, _, _, _, _, _, _, _, _, rfl, _⟩ := h; rfl) | (obtain ⟨_, _, _, _, _, _, _, _, _, _, _, _, _, _, rfl, _⟩ := h; rfl)) (pu__law_trees K 212 (by decide)), g__law_trees, F__law_trees.kp, F__law_trees.bindsN (ps := ["_law_generator_here", "_law_many"]) fun _ _ _ _ _ _ us hl => match us, hl with | [_, _], _ => rfl, .nil⟩
  have C_is_tree : CalG Pg w K mg base CX0 "is_tree" 1 ["value"] [] (sp_is_tree K) := ⟨_, fd_is_tree, [], ok_is_tree (k := 0) F_is_tree T   (fun vs H Q E h => by first | (obtain ⟨rfl, _⟩ := h; rfl) | (obtain ⟨_, rfl, _⟩ := h; rfl) | (obtain ⟨_, _, rfl, _⟩ := h; rfl) | (obtain ⟨_, _, _, rfl, _⟩ := h; rfl) | (obtain ⟨_, _, _, _, rfl, _⟩ := h; rfl) | (obtain ⟨_, _, _, _, _, rfl, _⟩ := h; rfl) | (obtain ⟨_, _, _, _, _, _, rfl, _⟩ := h; rfl) | (obtain ⟨_, _, _, _, _, _, _, rfl, _⟩ := h; rfl) | (obtain ⟨_, _, _, _, _, _, _, _, rfl, _⟩ := h; rfl) | (obtain ⟨_, _, _, _, _, _, _, _, _, rfl, _⟩ := h; rfl) | (obtain ⟨_, _, _, _, _, _, _, _, _, _, rfl, _⟩ := h; rfl) | (obtain ⟨_, _, _, _, _, _, _, _, _, _, _, rfl, _⟩ := h; rfl) | (obtain ⟨_, _, _, _, _, _, _, _, _, _, _, _, rfl, _⟩ := h; rfl) | (obtain ⟨_, _, _, _, _, _, _, _, _, _, _, _, _, rfl, _⟩ := h; rfl) | (obtain ⟨_, _, _, _, _, _, _, _, _, _, _, _, _, _, rfl, _⟩ := h; rfl)) (pu_is_tree K), g_is_tree, F_is_tree.kp, F_is_tree.bindsN (ps := ["value"]) fun _ _ _ _ _ _ us hl => match us, hl with | [_], _ => rfl, .nil⟩
  have C_check_tree : CalG Pg w K mg base (L2.CX Pg w) "check_tree" 2 ["value"] [] (sp_check_tree K (He.ga K "InvalidTree")) := ⟨_, fd_check_tree, [], ok_check_tree (k := 1) F_check_tree T C_is_tree X_InvalidTree (by omega) (fun vs H Q E h => by first | (obtain ⟨rfl, _⟩ := h; rfl) | (obtain ⟨_, rfl, _⟩ := h; rfl) | (obtain ⟨_, _, rfl, _⟩ := h; rfl) | (obtain ⟨_, _, _, rfl, _⟩ := h; rfl) | (obtain ⟨_, _, _, _, rfl, _⟩ := h; rfl) | (obtain ⟨_, _, _, _, _, rfl, _⟩ := h; rfl) | (obtain ⟨_, _, _, _, _, _, rfl, _⟩ := h; rfl) | (obtain ⟨_, _, _, _, _, _, _, rfl, _⟩ := h; rfl) | (obtain ⟨_, _, _, _, _, _, _, _, rfl, _⟩ := h; rfl) | (obtain ⟨_, _, _, _, _, _, _, _, _, rfl, _⟩ := h; rfl) | (obtain ⟨_, _, _, _, _, _, _, _, _, _, rfl, _⟩ := h; rfl) | (obtain ⟨_, _, _, _, _, _, _, _, _, _, _, rfl, _⟩ := h; rfl) | (obtain ⟨_, _, _, _, _, _, _, _, _, _, _, _, rfl, _⟩ := h; rfl) | (obtain ⟨_, _, _, _, _, _, _, _, _, _, _, _, _, rfl, _⟩ := h; rfl) | (obtain ⟨_, _, _, _, _, _, _, _, _, _, _, _, _, _, rfl, _⟩ := h; rfl)) (pu_check_tree K (He.ga K "InvalidTree")), g_check_tree, F_check_tree.kp, F_check_tree.bindsN (ps := ["value"]) fun _ _ _ _ _ _ us hl => match us, hl with | [_], _ => rfl, .nil⟩
  have C_grown_by : CalG Pg w K mg base CX0 "grown_by" 1 ["tree", "trees"] [] (sp_grown_by K) := ⟨_, fd_grown_by, [], ok_grown_by (k := 0) F_grown_by T   (fun vs H Q E h => by first | (obtain ⟨rfl, _⟩ := h; rfl) | (obtain ⟨_, rfl, _⟩ := h; rfl) | (obtain ⟨_, _, rfl, _⟩ := h; rfl) | (obtain ⟨_, _, _, rfl, _⟩ := h; rfl) | (obtain ⟨_, _, _, _, rfl, _⟩ := h; rfl) | (obtain ⟨_, _, _, _, _, rfl, _⟩ := h; rfl) | (obtain ⟨_, _, _, _, _, _, rfl, _⟩ := h; rfl) | (obtain ⟨_, _, _, _, _, _, _, rfl, _⟩ := h; rfl) | (obtain ⟨_, _, _, _, _, _, _, _, rfl, _⟩ := h; rfl) | (obtain ⟨_, _, _, _, _, _, _, _, _, rfl, _⟩ := h; rfl) | (obtain ⟨_, _, _, _, _, _, _, _, _, _, rfl, _⟩ := h; rfl) | (obtain ⟨_, _, _, _, _, _, _, _, _, _, _, rfl, _⟩ := h; rfl) | (obtain ⟨_, _, _, _, _, _, _, _, _, _, _, _, rfl, _⟩ := h; rfl) | (obtain ⟨_, _, _, _, _, _, _, _, _, _, _, _, _, rfl, _⟩ := h; rfl) | (obtain ⟨_, _, _, _, _, _, _, _, _, _, _, _, _, _, rfl, _⟩ := h; rfl)) (pu_grown_by K), g_grown_by, F_grown_by.kp, F_grown_by.bindsN (ps := ["tree", "trees"]) fun _ _ _ _ _ _ us hl => match us, hl with | [_, _], _ => rfl, .nil⟩
  have C_grown : CalG Pg w K mg base (L2.CX Pg w) "grown" 3 ["tree", "hung"] [] (sp_grown K (He.ga K "InvalidTree") (He.ga K "InvalidList")) := ⟨_, fd_grown, [], ok_grown (k := 2) F_grown T C_check_tree C_is_tree C_grown_by X_InvalidList (by omega) (by omega) (by omega) (fun vs H Q E h => by first | (obtain ⟨rfl, _⟩ := h; rfl) | (obtain ⟨_, rfl, _⟩ := h; rfl) | (obtain ⟨_, _, rfl, _⟩ := h; rfl) | (obtain ⟨_, _, _, rfl, _⟩ := h; rfl) | (obtain ⟨_, _, _, _, rfl, _⟩ := h; rfl) | (obtain ⟨_, _, _, _, _, rfl, _⟩ := h; rfl) | (obtain ⟨_, _, _, _, _, _, rfl, _⟩ := h; rfl) | (obtain ⟨_, _, _, _, _, _, _, rfl, _⟩ := h; rfl) | (obtain ⟨_, _, _, _, _, _, _, _, rfl, _⟩ := h; rfl) | (obtain ⟨_, _, _, _, _, _, _, _, _, rfl, _⟩ := h; rfl) | (obtain ⟨_, _, _, _, _, _, _, _, _, _, rfl, _⟩ := h; rfl) | (obtain ⟨_, _, _, _, _, _, _, _, _, _, _, rfl, _⟩ := h; rfl) | (obtain ⟨_, _, _, _, _, _, _, _, _, _, _, _, rfl, _⟩ := h; rfl) | (obtain ⟨_, _, _, _, _, _, _, _, _, _, _, _, _, rfl, _⟩ := h; rfl) | (obtain ⟨_, _, _, _, _, _, _, _, _, _, _, _, _, _, rfl, _⟩ := h; rfl)) (pu_grown K (He.ga K "InvalidTree") (He.ga K "InvalidList")), g_grown, F_grown.kp, F_grown.bindsN (ps := ["tree", "hung"]) fun _ _ _ _ _ _ us hl => match us, hl with | [_, _], _ => rfl, .nil⟩
  have V_grown : CalV Pg w K mg base (L2.CX Pg w) "grown" 3 ["tree", "hung"] (sp_grown K (He.ga K "InvalidTree") (He.ga K "InvalidList")) (He.ga K "grown") := ⟨g_grown, fd_grown, ok_grown (k := 2) F_grown T C_check_tree C_is_tree C_grown_by X_InvalidList (by omega) (by omega) (by omega) (fun vs H Q E h => by first | (obtain ⟨rfl, _⟩ := h; rfl) | (obtain ⟨_, rfl, _⟩ := h; rfl) | (obtain ⟨_, _, rfl, _⟩ := h; rfl) | (obtain ⟨_, _, _, rfl, _⟩ := h; rfl) | (obtain ⟨_, _, _, _, rfl, _⟩ := h; rfl) | (obtain ⟨_, _, _, _, _, rfl, _⟩ := h; rfl) | (obtain ⟨_, _, _, _, _, _, rfl, _⟩ := h; rfl) | (obtain ⟨_, _, _, _, _, _, _, rfl, _⟩ := h; rfl) | (obtain ⟨_, _, _, _, _, _, _, _, rfl, _⟩ := h; rfl) | (obtain ⟨_, _, _, _, _, _, _, _, _, rfl, _⟩ := h; rfl) | (obtain ⟨_, _, _, _, _, _, _, _, _, _, rfl, _⟩ := h; rfl) | (obtain ⟨_, _, _, _, _, _, _, _, _, _, _, rfl, _⟩ := h; rfl) | (obtain ⟨_, _, _, _, _, _, _, _, _, _, _, _, rfl, _⟩ := h; rfl) | (obtain ⟨_, _, _, _, _, _, _, _, _, _, _, _, _, rfl, _⟩ := h; rfl) | (obtain ⟨_, _, _, _, _, _, _, _, _, _, _, _, _, _, rfl, _⟩ := h; rfl)) (pu_grown K (He.ga K "InvalidTree") (He.ga K "InvalidList")), F_grown.kp, F_grown.bindsN (ps := ["tree", "hung"]) fun _ _ _ _ _ _ us hl => match us, hl with | [_, _], _ => rfl⟩
  have C__law_parsed : CalG Pg w K mg base CX0 "_law_parsed" 1 ["_law_tree_here"] [] (sp__law_parsed K) := ⟨_, fd__law_parsed, [], ok__law_parsed (k := 0) F__law_parsed T   (fun vs H Q E h => by first | (obtain ⟨rfl, _⟩ := h; rfl) | (obtain ⟨_, rfl, _⟩ := h; rfl) | (obtain ⟨_, _, rfl, _⟩ := h; rfl) | (obtain ⟨_, _, _, rfl, _⟩ := h; rfl) | (obtain ⟨_, _, _, _, rfl, _⟩ := h; rfl) | (obtain ⟨_, _, _, _, _, rfl, _⟩ := h; rfl) | (obtain ⟨_, _, _, _, _, _, rfl, _⟩ := h; rfl) | (obtain ⟨_, _, _, _, _, _, _, rfl, _⟩ := h; rfl) | (obtain ⟨_, _, _, _, _, _, _, _, rfl, _⟩ := h; rfl) | (obtain ⟨_, _, _, _, _, _, _, _, _, rfl, _⟩ := h; rfl) | (obtain ⟨_, _, _, _, _, _, _, _, _, _, rfl, _⟩ := h; rfl) | (obtain ⟨_, _, _, _, _, _, _, _, _, _, _, rfl, _⟩ := h; rfl) | (obtain ⟨_, _, _, _, _, _, _, _, _, _, _, _, rfl, _⟩ := h; rfl) | (obtain ⟨_, _, _, _, _, _, _, _, _, _, _, _, _, rfl, _⟩ := h; rfl) | (obtain ⟨_, _, _, _, _, _, _, _, _, _, _, _, _, _, rfl, _⟩ := h; rfl)) (pu__law_parsed K), g__law_parsed, F__law_parsed.kp, F__law_parsed.bindsN (ps := ["_law_tree_here"]) fun _ _ _ _ _ _ us hl => match us, hl with | [_], _ => rfl, .nil⟩
  have R__law_filled : ∀ n : Nat, FnG Pg w K mg base CX0 (0 + n) (He.ga K "_law_filled") fd__law_filled ["_law_parsed_here", "_law_pieces"] (sp__law_filled K n) := by
    intro n
    induction n with
    | zero => exact FnG.zero (fun vs H Q E h => by obtain ⟨_, _, _, _, _, _, _, z, _⟩ := h; exact absurd z (Nat.not_lt_zero _))
    | succ n ih =>
      have I__law_filled : CalG Pg w K mg base CX0 "_law_filled" (0 + n) ["_law_parsed_here", "_law_pieces"] [] (sp__law_filled K n) := ⟨_, fd__law_filled, [], ih, g__law_filled, F__law_filled.kp, F__law_filled.bindsN (ps := ["_law_parsed_here", "_law_pieces"]) fun _ _ _ _ _ _ us hl => match us, hl with | [_, _], _ => rfl, .nil⟩
      exact ok__law_filled (k := 0 + n) F__law_filled T I__law_filled (by omega) (fun vs H Q E h => by first | (obtain ⟨rfl, _⟩ := h; rfl) | (obtain ⟨_, rfl, _⟩ := h; rfl) | (obtain ⟨_, _, rfl, _⟩ := h; rfl) | (obtain ⟨_, _, _, rfl, _⟩ := h; rfl) | (obtain ⟨_, _, _, _, rfl, _⟩ := h; rfl) | (obtain ⟨_, _, _, _, _, rfl, _⟩ := h; rfl) | (obtain ⟨_, _, _, _, _, _, rfl, _⟩ := h; rfl) | (obtain ⟨_, _, _, _, _, _, _, rfl, _⟩ := h; rfl) | (obtain ⟨_, _, _, _, _, _, _, _, rfl, _⟩ := h; rfl) | (obtain ⟨_, _, _, _, _, _, _, _, _, rfl, _⟩ := h; rfl) | (obtain ⟨_, _, _, _, _, _, _, _, _, _, rfl, _⟩ := h; rfl) | (obtain ⟨_, _, _, _, _, _, _, _, _, _, _, rfl, _⟩ := h; rfl) | (obtain ⟨_, _, _, _, _, _, _, _, _, _, _, _, rfl, _⟩ := h; rfl) | (obtain ⟨_, _, _, _, _, _, _, _, _, _, _, _, _, rfl, _⟩ := h; rfl) | (obtain ⟨_, _, _, _, _, _, _, _, _, _, _, _, _, _, rfl, _⟩ := h; rfl)) (pu__law_filled K n)
  have C__law_filled : CalG Pg w K mg base CX0 "_law_filled" 212 ["_law_parsed_here", "_law_pieces"] [] (sp__law_filled K 212) := ⟨_, fd__law_filled, [], R__law_filled 212, g__law_filled, F__law_filled.kp, F__law_filled.bindsN (ps := ["_law_parsed_here", "_law_pieces"]) fun _ _ _ _ _ _ us hl => match us, hl with | [_, _], _ => rfl, .nil⟩
  have R__law_text : ∀ n : Nat, FnG Pg w K mg base CX0 (0 + n) (He.ga K "_law_text") fd__law_text ["_law_parsed_here"] (sp__law_text K n) := by
    intro n
    induction n with
    | zero => exact FnG.zero (fun vs H Q E h => by obtain ⟨_, _, _, _, z, _⟩ := h; exact absurd z (Nat.not_lt_zero _))
    | succ n ih =>
      have I__law_text : CalG Pg w K mg base CX0 "_law_text" (0 + n) ["_law_parsed_here"] [] (sp__law_text K n) := ⟨_, fd__law_text, [], ih, g__law_text, F__law_text.kp, F__law_text.bindsN (ps := ["_law_parsed_here"]) fun _ _ _ _ _ _ us hl => match us, hl with | [_], _ => rfl, .nil⟩
      exact ok__law_text (k := 0 + n) F__law_text T I__law_text (by omega) (fun vs H Q E h => by first | (obtain ⟨rfl, _⟩ := h; rfl) | (obtain ⟨_, rfl, _⟩ := h; rfl) | (obtain ⟨_, _, rfl, _⟩ := h; rfl) | (obtain ⟨_, _, _, rfl, _⟩ := h; rfl) | (obtain ⟨_, _, _, _, rfl, _⟩ := h; rfl) | (obtain ⟨_, _, _, _, _, rfl, _⟩ := h; rfl) | (obtain ⟨_, _, _, _, _, _, rfl, _⟩ := h; rfl) | (obtain ⟨_, _, _, _, _, _, _, rfl, _⟩ := h; rfl) | (obtain ⟨_, _, _, _, _, _, _, _, rfl, _⟩ := h; rfl) | (obtain ⟨_, _, _, _, _, _, _, _, _, rfl, _⟩ := h; rfl) | (obtain ⟨_, _, _, _, _, _, _, _, _, _, rfl, _⟩ := h; rfl) | (obtain ⟨_, _, _, _, _, _, _, _, _, _, _, rfl, _⟩ := h; rfl) | (obtain ⟨_, _, _, _, _, _, _, _, _, _, _, _, rfl, _⟩ := h; rfl) | (obtain ⟨_, _, _, _, _, _, _, _, _, _, _, _, _, rfl, _⟩ := h; rfl) | (obtain ⟨_, _, _, _, _, _, _, _, _, _, _, _, _, _, rfl, _⟩ := h; rfl)) (pu__law_text K n)
  have C__law_text : CalG Pg w K mg base CX0 "_law_text" 212 ["_law_parsed_here"] [] (sp__law_text K 212) := ⟨_, fd__law_text, [], R__law_text 212, g__law_text, F__law_text.kp, F__law_text.bindsN (ps := ["_law_parsed_here"]) fun _ _ _ _ _ _ us hl => match us, hl with | [_], _ => rfl, .nil⟩
  have C_end_of : CalG Pg w K mg base CX0 "end_of" 1 ["tree", "start"] [] (sp_end_of) := ⟨_, fd_end_of, [], ok_end_of (k := 0) F_end_of T   (fun vs H Q E h => by first | (obtain ⟨rfl, _⟩ := h; rfl) | (obtain ⟨_, rfl, _⟩ := h; rfl) | (obtain ⟨_, _, rfl, _⟩ := h; rfl) | (obtain ⟨_, _, _, rfl, _⟩ := h; rfl) | (obtain ⟨_, _, _, _, rfl, _⟩ := h; rfl) | (obtain ⟨_, _, _, _, _, rfl, _⟩ := h; rfl) | (obtain ⟨_, _, _, _, _, _, rfl, _⟩ := h; rfl) | (obtain ⟨_, _, _, _, _, _, _, rfl, _⟩ := h; rfl) | (obtain ⟨_, _, _, _, _, _, _, _, rfl, _⟩ := h; rfl) | (obtain ⟨_, _, _, _, _, _, _, _, _, rfl, _⟩ := h; rfl) | (obtain ⟨_, _, _, _, _, _, _, _, _, _, rfl, _⟩ := h; rfl) | (obtain ⟨_, _, _, _, _, _, _, _, _, _, _, rfl, _⟩ := h; rfl) | (obtain ⟨_, _, _, _, _, _, _, _, _, _, _, _, rfl, _⟩ := h; rfl) | (obtain ⟨_, _, _, _, _, _, _, _, _, _, _, _, _, rfl, _⟩ := h; rfl) | (obtain ⟨_, _, _, _, _, _, _, _, _, _, _, _, _, _, rfl, _⟩ := h; rfl)) (pu_end_of K), g_end_of, F_end_of.kp, F_end_of.bindsN (ps := ["tree", "start"]) fun _ _ _ _ _ _ us hl => match us, hl with | [_, _], _ => rfl, .nil⟩
  have C_hung_on : CalG Pg w K mg base CX0 "hung_on" 2 ["tree", "top"] [] (sp_hung_on) := ⟨_, fd_hung_on, [], ok_hung_on (k := 1) F_hung_on T C_end_of (by omega) (fun vs H Q E h => by first | (obtain ⟨rfl, _⟩ := h; rfl) | (obtain ⟨_, rfl, _⟩ := h; rfl) | (obtain ⟨_, _, rfl, _⟩ := h; rfl) | (obtain ⟨_, _, _, rfl, _⟩ := h; rfl) | (obtain ⟨_, _, _, _, rfl, _⟩ := h; rfl) | (obtain ⟨_, _, _, _, _, rfl, _⟩ := h; rfl) | (obtain ⟨_, _, _, _, _, _, rfl, _⟩ := h; rfl) | (obtain ⟨_, _, _, _, _, _, _, rfl, _⟩ := h; rfl) | (obtain ⟨_, _, _, _, _, _, _, _, rfl, _⟩ := h; rfl) | (obtain ⟨_, _, _, _, _, _, _, _, _, rfl, _⟩ := h; rfl) | (obtain ⟨_, _, _, _, _, _, _, _, _, _, rfl, _⟩ := h; rfl) | (obtain ⟨_, _, _, _, _, _, _, _, _, _, _, rfl, _⟩ := h; rfl) | (obtain ⟨_, _, _, _, _, _, _, _, _, _, _, _, rfl, _⟩ := h; rfl) | (obtain ⟨_, _, _, _, _, _, _, _, _, _, _, _, _, rfl, _⟩ := h; rfl) | (obtain ⟨_, _, _, _, _, _, _, _, _, _, _, _, _, _, rfl, _⟩ := h; rfl)) (pu_hung_on K), g_hung_on, F_hung_on.kp, F_hung_on.bindsN (ps := ["tree", "top"]) fun _ _ _ _ _ _ us hl => match us, hl with | [_, _], _ => rfl, .nil⟩
  have C_hung : CalG Pg w K mg base (L2.CX Pg w) "hung" 3 ["tree", "top"] [] (sp_hung K (He.ga K "InvalidTree")) := ⟨_, fd_hung, [], ok_hung (k := 2) F_hung T C_check_tree C_hung_on (by omega) (by omega) (fun vs H Q E h => by first | (obtain ⟨rfl, _⟩ := h; rfl) | (obtain ⟨_, rfl, _⟩ := h; rfl) | (obtain ⟨_, _, rfl, _⟩ := h; rfl) | (obtain ⟨_, _, _, rfl, _⟩ := h; rfl) | (obtain ⟨_, _, _, _, rfl, _⟩ := h; rfl) | (obtain ⟨_, _, _, _, _, rfl, _⟩ := h; rfl) | (obtain ⟨_, _, _, _, _, _, rfl, _⟩ := h; rfl) | (obtain ⟨_, _, _, _, _, _, _, rfl, _⟩ := h; rfl) | (obtain ⟨_, _, _, _, _, _, _, _, rfl, _⟩ := h; rfl) | (obtain ⟨_, _, _, _, _, _, _, _, _, rfl, _⟩ := h; rfl) | (obtain ⟨_, _, _, _, _, _, _, _, _, _, rfl, _⟩ := h; rfl) | (obtain ⟨_, _, _, _, _, _, _, _, _, _, _, rfl, _⟩ := h; rfl) | (obtain ⟨_, _, _, _, _, _, _, _, _, _, _, _, rfl, _⟩ := h; rfl) | (obtain ⟨_, _, _, _, _, _, _, _, _, _, _, _, _, rfl, _⟩ := h; rfl) | (obtain ⟨_, _, _, _, _, _, _, _, _, _, _, _, _, _, rfl, _⟩ := h; rfl)) (pu_hung K (He.ga K "InvalidTree")), g_hung, F_hung.kp, F_hung.bindsN (ps := ["tree", "top"]) fun _ _ _ _ _ _ us hl => match us, hl with | [_, _], _ => rfl, .nil⟩
  have V_hung : CalV Pg w K mg base (L2.CX Pg w) "hung" 3 ["tree", "top"] (sp_hung K (He.ga K "InvalidTree")) (He.ga K "hung") := ⟨g_hung, fd_hung, ok_hung (k := 2) F_hung T C_check_tree C_hung_on (by omega) (by omega) (fun vs H Q E h => by first | (obtain ⟨rfl, _⟩ := h; rfl) | (obtain ⟨_, rfl, _⟩ := h; rfl) | (obtain ⟨_, _, rfl, _⟩ := h; rfl) | (obtain ⟨_, _, _, rfl, _⟩ := h; rfl) | (obtain ⟨_, _, _, _, rfl, _⟩ := h; rfl) | (obtain ⟨_, _, _, _, _, rfl, _⟩ := h; rfl) | (obtain ⟨_, _, _, _, _, _, rfl, _⟩ := h; rfl) | (obtain ⟨_, _, _, _, _, _, _, rfl, _⟩ := h; rfl) | (obtain ⟨_, _, _, _, _, _, _, _, rfl, _⟩ := h; rfl) | (obtain ⟨_, _, _, _, _, _, _, _, _, rfl, _⟩ := h; rfl) | (obtain ⟨_, _, _, _, _, _, _, _, _, _, rfl, _⟩ := h; rfl) | (obtain ⟨_, _, _, _, _, _, _, _, _, _, _, rfl, _⟩ := h; rfl) | (obtain ⟨_, _, _, _, _, _, _, _, _, _, _, _, rfl, _⟩ := h; rfl) | (obtain ⟨_, _, _, _, _, _, _, _, _, _, _, _, _, rfl, _⟩ := h; rfl) | (obtain ⟨_, _, _, _, _, _, _, _, _, _, _, _, _, _, rfl, _⟩ := h; rfl)) (pu_hung K (He.ga K "InvalidTree")), F_hung.kp, F_hung.bindsN (ps := ["tree", "top"]) fun _ _ _ _ _ _ us hl => match us, hl with | [_, _], _ => rfl⟩
  have C_joined_trees : CalG Pg w K mg base CX0 "joined_trees" 2 ["one", "other"] [] (sp_joined_trees) := ⟨_, fd_joined_trees, [], ok_joined_trees (k := 1) F_joined_trees T C_end_of (by omega) (fun vs H Q E h => by first | (obtain ⟨rfl, _⟩ := h; rfl) | (obtain ⟨_, rfl, _⟩ := h; rfl) | (obtain ⟨_, _, rfl, _⟩ := h; rfl) | (obtain ⟨_, _, _, rfl, _⟩ := h; rfl) | (obtain ⟨_, _, _, _, rfl, _⟩ := h; rfl) | (obtain ⟨_, _, _, _, _, rfl, _⟩ := h; rfl) | (obtain ⟨_, _, _, _, _, _, rfl, _⟩ := h; rfl) | (obtain ⟨_, _, _, _, _, _, _, rfl, _⟩ := h; rfl) | (obtain ⟨_, _, _, _, _, _, _, _, rfl, _⟩ := h; rfl) | (obtain ⟨_, _, _, _, _, _, _, _, _, rfl, _⟩ := h; rfl) | (obtain ⟨_, _, _, _, _, _, _, _, _, _, rfl, _⟩ := h; rfl) | (obtain ⟨_, _, _, _, _, _, _, _, _, _, _, rfl, _⟩ := h; rfl) | (obtain ⟨_, _, _, _, _, _, _, _, _, _, _, _, rfl, _⟩ := h; rfl) | (obtain ⟨_, _, _, _, _, _, _, _, _, _, _, _, _, rfl, _⟩ := h; rfl) | (obtain ⟨_, _, _, _, _, _, _, _, _, _, _, _, _, _, rfl, _⟩ := h; rfl)) (pu_joined_trees K), g_joined_trees, F_joined_trees.kp, F_joined_trees.bindsN (ps := ["one", "other"]) fun _ _ _ _ _ _ us hl => match us, hl with | [_, _], _ => rfl, .nil⟩
  have C_joined : CalG Pg w K mg base (L2.CX Pg w) "joined" 3 ["one", "other"] [] (sp_joined K (He.ga K "InvalidTree")) := ⟨_, fd_joined, [], ok_joined (k := 2) F_joined T C_check_tree C_joined_trees (by omega) (by omega) (fun vs H Q E h => by first | (obtain ⟨rfl, _⟩ := h; rfl) | (obtain ⟨_, rfl, _⟩ := h; rfl) | (obtain ⟨_, _, rfl, _⟩ := h; rfl) | (obtain ⟨_, _, _, rfl, _⟩ := h; rfl) | (obtain ⟨_, _, _, _, rfl, _⟩ := h; rfl) | (obtain ⟨_, _, _, _, _, rfl, _⟩ := h; rfl) | (obtain ⟨_, _, _, _, _, _, rfl, _⟩ := h; rfl) | (obtain ⟨_, _, _, _, _, _, _, rfl, _⟩ := h; rfl) | (obtain ⟨_, _, _, _, _, _, _, _, rfl, _⟩ := h; rfl) | (obtain ⟨_, _, _, _, _, _, _, _, _, rfl, _⟩ := h; rfl) | (obtain ⟨_, _, _, _, _, _, _, _, _, _, rfl, _⟩ := h; rfl) | (obtain ⟨_, _, _, _, _, _, _, _, _, _, _, rfl, _⟩ := h; rfl) | (obtain ⟨_, _, _, _, _, _, _, _, _, _, _, _, rfl, _⟩ := h; rfl) | (obtain ⟨_, _, _, _, _, _, _, _, _, _, _, _, _, rfl, _⟩ := h; rfl) | (obtain ⟨_, _, _, _, _, _, _, _, _, _, _, _, _, _, rfl, _⟩ := h; rfl)) (pu_joined K (He.ga K "InvalidTree")), g_joined, F_joined.kp, F_joined.bindsN (ps := ["one", "other"]) fun _ _ _ _ _ _ us hl => match us, hl with | [_, _], _ => rfl, .nil⟩
  have V_joined : CalV Pg w K mg base (L2.CX Pg w) "joined" 3 ["one", "other"] (sp_joined K (He.ga K "InvalidTree")) (He.ga K "joined") := ⟨g_joined, fd_joined, ok_joined (k := 2) F_joined T C_check_tree C_joined_trees (by omega) (by omega) (fun vs H Q E h => by first | (obtain ⟨rfl, _⟩ := h; rfl) | (obtain ⟨_, rfl, _⟩ := h; rfl) | (obtain ⟨_, _, rfl, _⟩ := h; rfl) | (obtain ⟨_, _, _, rfl, _⟩ := h; rfl) | (obtain ⟨_, _, _, _, rfl, _⟩ := h; rfl) | (obtain ⟨_, _, _, _, _, rfl, _⟩ := h; rfl) | (obtain ⟨_, _, _, _, _, _, rfl, _⟩ := h; rfl) | (obtain ⟨_, _, _, _, _, _, _, rfl, _⟩ := h; rfl) | (obtain ⟨_, _, _, _, _, _, _, _, rfl, _⟩ := h; rfl) | (obtain ⟨_, _, _, _, _, _, _, _, _, rfl, _⟩ := h; rfl) | (obtain ⟨_, _, _, _, _, _, _, _, _, _, rfl, _⟩ := h; rfl) | (obtain ⟨_, _, _, _, _, _, _, _, _, _, _, rfl, _⟩ := h; rfl) | (obtain ⟨_, _, _, _, _, _, _, _, _, _, _, _, rfl, _⟩ := h; rfl) | (obtain ⟨_, _, _, _, _, _, _, _, _, _, _, _, _, rfl, _⟩ := h; rfl) | (obtain ⟨_, _, _, _, _, _, _, _, _, _, _, _, _, _, rfl, _⟩ := h; rfl)) (pu_joined K (He.ga K "InvalidTree")), F_joined.kp, F_joined.bindsN (ps := ["one", "other"]) fun _ _ _ _ _ _ us hl => match us, hl with | [_, _], _ => rfl⟩
  have R__law_both : ∀ n : Nat, FnG Pg w K mg base CX0 (0 + n) (He.ga K "_law_both") fd__law_both ["_law_one", "_law_other"] (sp__law_both K n) := by
    intro n
    induction n with
    | zero => exact FnG.zero (fun vs H Q E h => by obtain ⟨_, _, _, _, _, _, _, z, _⟩ := h; exact absurd z (Nat.not_lt_zero _))
    | succ n ih =>
      have I__law_both : CalG Pg w K mg base CX0 "_law_both" (0 + n) ["_law_one", "_law_other"] [] (sp__law_both K n) := ⟨_, fd__law_both, [], ih, g__law_both, F__law_both.kp, F__law_both.bindsN (ps := ["_law_one", "_law_other"]) fun _ _ _ _ _ _ us hl => match us, hl with | [_, _], _ => rfl, .nil⟩
      exact ok__law_both (k := 0 + n) F__law_both T I__law_both (by omega) (fun vs H Q E h => by first | (obtain ⟨rfl, _⟩ := h; rfl) | (obtain ⟨_, rfl, _⟩ := h; rfl) | (obtain ⟨_, _, rfl, _⟩ := h; rfl) | (obtain ⟨_, _, _, rfl, _⟩ := h; rfl) | (obtain ⟨_, _, _, _, rfl, _⟩ := h; rfl) | (obtain ⟨_, _, _, _, _, rfl, _⟩ := h; rfl) | (obtain ⟨_, _, _, _, _, _, rfl, _⟩ := h; rfl) | (obtain ⟨_, _, _, _, _, _, _, rfl, _⟩ := h; rfl) | (obtain ⟨_, _, _, _, _, _, _, _, rfl, _⟩ := h; rfl) | (obtain ⟨_, _, _, _, _, _, _, _, _, rfl, _⟩ := h; rfl) | (obtain ⟨_, _, _, _, _, _, _, _, _, _, rfl, _⟩ := h; rfl) | (obtain ⟨_, _, _, _, _, _, _, _, _, _, _, rfl, _⟩ := h; rfl) | (obtain ⟨_, _, _, _, _, _, _, _, _, _, _, _, rfl, _⟩ := h; rfl) | (obtain ⟨_, _, _, _, _, _, _, _, _, _, _, _, _, rfl, _⟩ := h; rfl) | (obtain ⟨_, _, _, _, _, _, _, _, _, _, _, _, _, _, rfl, _⟩ := h; rfl)) (pu__law_both K n)
  have C__law_both : CalG Pg w K mg base CX0 "_law_both" 212 ["_law_one", "_law_other"] [] (sp__law_both K 212) := ⟨_, fd__law_both, [], R__law_both 212, g__law_both, F__law_both.kp, F__law_both.bindsN (ps := ["_law_one", "_law_other"]) fun _ _ _ _ _ _ us hl => match us, hl with | [_, _], _ => rfl, .nil⟩
  have C_shared : CalG Pg w K mg base (L2.CX Pg w) "shared" 3 ["one", "other"] [] (sp_shared K (He.ga K "InvalidTree")) := ⟨_, fd_shared, [], ok_shared (k := 2) F_shared T C_check_tree C_end_of (by omega) (by omega) (fun vs H Q E h => by first | (obtain ⟨rfl, _⟩ := h; rfl) | (obtain ⟨_, rfl, _⟩ := h; rfl) | (obtain ⟨_, _, rfl, _⟩ := h; rfl) | (obtain ⟨_, _, _, rfl, _⟩ := h; rfl) | (obtain ⟨_, _, _, _, rfl, _⟩ := h; rfl) | (obtain ⟨_, _, _, _, _, rfl, _⟩ := h; rfl) | (obtain ⟨_, _, _, _, _, _, rfl, _⟩ := h; rfl) | (obtain ⟨_, _, _, _, _, _, _, rfl, _⟩ := h; rfl) | (obtain ⟨_, _, _, _, _, _, _, _, rfl, _⟩ := h; rfl) | (obtain ⟨_, _, _, _, _, _, _, _, _, rfl, _⟩ := h; rfl) | (obtain ⟨_, _, _, _, _, _, _, _, _, _, rfl, _⟩ := h; rfl) | (obtain ⟨_, _, _, _, _, _, _, _, _, _, _, rfl, _⟩ := h; rfl) | (obtain ⟨_, _, _, _, _, _, _, _, _, _, _, _, rfl, _⟩ := h; rfl) | (obtain ⟨_, _, _, _, _, _, _, _, _, _, _, _, _, rfl, _⟩ := h; rfl) | (obtain ⟨_, _, _, _, _, _, _, _, _, _, _, _, _, _, rfl, _⟩ := h; rfl)) (pu_shared K (He.ga K "InvalidTree")), g_shared, F_shared.kp, F_shared.bindsN (ps := ["one", "other"]) fun _ _ _ _ _ _ us hl => match us, hl with | [_, _], _ => rfl, .nil⟩
  have V_shared : CalV Pg w K mg base (L2.CX Pg w) "shared" 3 ["one", "other"] (sp_shared K (He.ga K "InvalidTree")) (He.ga K "shared") := ⟨g_shared, fd_shared, ok_shared (k := 2) F_shared T C_check_tree C_end_of (by omega) (by omega) (fun vs H Q E h => by first | (obtain ⟨rfl, _⟩ := h; rfl) | (obtain ⟨_, rfl, _⟩ := h; rfl) | (obtain ⟨_, _, rfl, _⟩ := h; rfl) | (obtain ⟨_, _, _, rfl, _⟩ := h; rfl) | (obtain ⟨_, _, _, _, rfl, _⟩ := h; rfl) | (obtain ⟨_, _, _, _, _, rfl, _⟩ := h; rfl) | (obtain ⟨_, _, _, _, _, _, rfl, _⟩ := h; rfl) | (obtain ⟨_, _, _, _, _, _, _, rfl, _⟩ := h; rfl) | (obtain ⟨_, _, _, _, _, _, _, _, rfl, _⟩ := h; rfl) | (obtain ⟨_, _, _, _, _, _, _, _, _, rfl, _⟩ := h; rfl) | (obtain ⟨_, _, _, _, _, _, _, _, _, _, rfl, _⟩ := h; rfl) | (obtain ⟨_, _, _, _, _, _, _, _, _, _, _, rfl, _⟩ := h; rfl) | (obtain ⟨_, _, _, _, _, _, _, _, _, _, _, _, rfl, _⟩ := h; rfl) | (obtain ⟨_, _, _, _, _, _, _, _, _, _, _, _, _, rfl, _⟩ := h; rfl) | (obtain ⟨_, _, _, _, _, _, _, _, _, _, _, _, _, _, rfl, _⟩ := h; rfl)) (pu_shared K (He.ga K "InvalidTree")), F_shared.kp, F_shared.bindsN (ps := ["one", "other"]) fun _ _ _ _ _ _ us hl => match us, hl with | [_, _], _ => rfl⟩
  have R__law_core : ∀ n : Nat, FnG Pg w K mg base CX0 (0 + n) (He.ga K "_law_core") fd__law_core ["_law_one", "_law_other"] (sp__law_core K n) := by
    intro n
    induction n with
    | zero => exact FnG.zero (fun vs H Q E h => by obtain ⟨_, _, _, _, _, _, _, z, _⟩ := h; exact absurd z (Nat.not_lt_zero _))
    | succ n ih =>
      have I__law_core : CalG Pg w K mg base CX0 "_law_core" (0 + n) ["_law_one", "_law_other"] [] (sp__law_core K n) := ⟨_, fd__law_core, [], ih, g__law_core, F__law_core.kp, F__law_core.bindsN (ps := ["_law_one", "_law_other"]) fun _ _ _ _ _ _ us hl => match us, hl with | [_, _], _ => rfl, .nil⟩
      exact ok__law_core (k := 0 + n) F__law_core T I__law_core (by omega) (fun vs H Q E h => by first | (obtain ⟨rfl, _⟩ := h; rfl) | (obtain ⟨_, rfl, _⟩ := h; rfl) | (obtain ⟨_, _, rfl, _⟩ := h; rfl) | (obtain ⟨_, _, _, rfl, _⟩ := h; rfl) | (obtain ⟨_, _, _, _, rfl, _⟩ := h; rfl) | (obtain ⟨_, _, _, _, _, rfl, _⟩ := h; rfl) | (obtain ⟨_, _, _, _, _, _, rfl, _⟩ := h; rfl) | (obtain ⟨_, _, _, _, _, _, _, rfl, _⟩ := h; rfl) | (obtain ⟨_, _, _, _, _, _, _, _, rfl, _⟩ := h; rfl) | (obtain ⟨_, _, _, _, _, _, _, _, _, rfl, _⟩ := h; rfl) | (obtain ⟨_, _, _, _, _, _, _, _, _, _, rfl, _⟩ := h; rfl) | (obtain ⟨_, _, _, _, _, _, _, _, _, _, _, rfl, _⟩ := h; rfl) | (obtain ⟨_, _, _, _, _, _, _, _, _, _, _, _, rfl, _⟩ := h; rfl) | (obtain ⟨_, _, _, _, _, _, _, _, _, _, _, _, _, rfl, _⟩ := h; rfl) | (obtain ⟨_, _, _, _, _, _, _, _, _, _, _, _, _, _, rfl, _⟩ := h; rfl)) (pu__law_core K n)
  have C__law_core : CalG Pg w K mg base CX0 "_law_core" 212 ["_law_one", "_law_other"] [] (sp__law_core K 212) := ⟨_, fd__law_core, [], R__law_core 212, g__law_core, F__law_core.kp, F__law_core.bindsN (ps := ["_law_one", "_law_other"]) fun _ _ _ _ _ _ us hl => match us, hl with | [_, _], _ => rfl, .nil⟩
  have R__law_hanging : ∀ n : Nat, FnG Pg w K mg base CX0 (0 + n) (He.ga K "_law_hanging") fd__law_hanging ["_law_parsed_here", "_law_top"] (sp__law_hanging K n) := by
    intro n
    induction n with
    | zero => exact FnG.zero (fun vs H Q E h => by obtain ⟨_, _, _, _, _, _, _, z, _⟩ := h; exact absurd z (Nat.not_lt_zero _))
    | succ n ih =>
      have I__law_hanging : CalG Pg w K mg base CX0 "_law_hanging" (0 + n) ["_law_parsed_here", "_law_top"] [] (sp__law_hanging K n) := ⟨_, fd__law_hanging, [], ih, g__law_hanging, F__law_hanging.kp, F__law_hanging.bindsN (ps := ["_law_parsed_here", "_law_top"]) fun _ _ _ _ _ _ us hl => match us, hl with | [_, _], _ => rfl, .nil⟩
      exact ok__law_hanging (k := 0 + n) F__law_hanging T I__law_hanging (by omega) (fun vs H Q E h => by first | (obtain ⟨rfl, _⟩ := h; rfl) | (obtain ⟨_, rfl, _⟩ := h; rfl) | (obtain ⟨_, _, rfl, _⟩ := h; rfl) | (obtain ⟨_, _, _, rfl, _⟩ := h; rfl) | (obtain ⟨_, _, _, _, rfl, _⟩ := h; rfl) | (obtain ⟨_, _, _, _, _, rfl, _⟩ := h; rfl) | (obtain ⟨_, _, _, _, _, _, rfl, _⟩ := h; rfl) | (obtain ⟨_, _, _, _, _, _, _, rfl, _⟩ := h; rfl) | (obtain ⟨_, _, _, _, _, _, _, _, rfl, _⟩ := h; rfl) | (obtain ⟨_, _, _, _, _, _, _, _, _, rfl, _⟩ := h; rfl) | (obtain ⟨_, _, _, _, _, _, _, _, _, _, rfl, _⟩ := h; rfl) | (obtain ⟨_, _, _, _, _, _, _, _, _, _, _, rfl, _⟩ := h; rfl) | (obtain ⟨_, _, _, _, _, _, _, _, _, _, _, _, rfl, _⟩ := h; rfl) | (obtain ⟨_, _, _, _, _, _, _, _, _, _, _, _, _, rfl, _⟩ := h; rfl) | (obtain ⟨_, _, _, _, _, _, _, _, _, _, _, _, _, _, rfl, _⟩ := h; rfl)) (pu__law_hanging K n)
  have C__law_hanging : CalG Pg w K mg base CX0 "_law_hanging" 212 ["_law_parsed_here", "_law_top"] [] (sp__law_hanging K 212) := ⟨_, fd__law_hanging, [], R__law_hanging 212, g__law_hanging, F__law_hanging.kp, F__law_hanging.bindsN (ps := ["_law_parsed_here", "_law_top"]) fun _ _ _ _ _ _ us hl => match us, hl with | [_, _], _ => rfl, .nil⟩
  have C__law_pair_right : CalG Pg w K mg base CX0 "_law_pair_right" 213 ["_law_one", "_law_other"] [] (sp__law_pair_right K 212) := ⟨_, fd__law_pair_right, [], ok__law_pair_right (k := 212) F__law_pair_right T C__law_parsed C_joined C__law_both C__law_text C_shared C__law_core C__law_hanging C_hung (by omega) (by omega) (by omega) (by omega) (by omega) (by omega) (by omega) (by omega) (fun vs H Q E h => by first | (obtain ⟨rfl, _⟩ := h; rfl) | (obtain ⟨_, rfl, _⟩ := h; rfl) | (obtain ⟨_, _, rfl, _⟩ := h; rfl) | (obtain ⟨_, _, _, rfl, _⟩ := h; rfl) | (obtain ⟨_, _, _, _, rfl, _⟩ := h; rfl) | (obtain ⟨_, _, _, _, _, rfl, _⟩ := h; rfl) | (obtain ⟨_, _, _, _, _, _, rfl, _⟩ := h; rfl) | (obtain ⟨_, _, _, _, _, _, _, rfl, _⟩ := h; rfl) | (obtain ⟨_, _, _, _, _, _, _, _, rfl, _⟩ := h; rfl) | (obtain ⟨_, _, _, _, _, _, _, _, _, rfl, _⟩ := h; rfl) | (obtain ⟨_, _, _, _, _, _, _, _, _, _, rfl, _⟩ := h; rfl) | (obtain ⟨_, _, _, _, _, _, _, _, _, _, _, rfl, _⟩ := h; rfl) | (obtain ⟨_, _, _, _, _, _, _, _, _, _, _, _, rfl, _⟩ := h; rfl) | (obtain ⟨_, _, _, _, _, _, _, _, _, _, _, _, _, rfl, _⟩ := h; rfl) | (obtain ⟨_, _, _, _, _, _, _, _, _, _, _, _, _, _, rfl, _⟩ := h; rfl)) (pu__law_pair_right K (He.ga K "InvalidTree") 212), g__law_pair_right, F__law_pair_right.kp, F__law_pair_right.bindsN (ps := ["_law_one", "_law_other"]) fun _ _ _ _ _ _ us hl => match us, hl with | [_, _], _ => rfl, .nil⟩
  have C__law_caught : CalG Pg w K mg base CX0 "_law_caught" 4 ["_law_tree_here", "_law_trees_here"] [] (sp__law_caught K) := ⟨_, fd__law_caught, [], ok__law_caught (k := 3) F__law_caught T C_grown g_TurnError X_InvalidList (by omega) (fun vs H Q E h => by first | (obtain ⟨rfl, _⟩ := h; rfl) | (obtain ⟨_, rfl, _⟩ := h; rfl) | (obtain ⟨_, _, rfl, _⟩ := h; rfl) | (obtain ⟨_, _, _, rfl, _⟩ := h; rfl) | (obtain ⟨_, _, _, _, rfl, _⟩ := h; rfl) | (obtain ⟨_, _, _, _, _, rfl, _⟩ := h; rfl) | (obtain ⟨_, _, _, _, _, _, rfl, _⟩ := h; rfl) | (obtain ⟨_, _, _, _, _, _, _, rfl, _⟩ := h; rfl) | (obtain ⟨_, _, _, _, _, _, _, _, rfl, _⟩ := h; rfl) | (obtain ⟨_, _, _, _, _, _, _, _, _, rfl, _⟩ := h; rfl) | (obtain ⟨_, _, _, _, _, _, _, _, _, _, rfl, _⟩ := h; rfl) | (obtain ⟨_, _, _, _, _, _, _, _, _, _, _, rfl, _⟩ := h; rfl) | (obtain ⟨_, _, _, _, _, _, _, _, _, _, _, _, rfl, _⟩ := h; rfl) | (obtain ⟨_, _, _, _, _, _, _, _, _, _, _, _, _, rfl, _⟩ := h; rfl) | (obtain ⟨_, _, _, _, _, _, _, _, _, _, _, _, _, _, rfl, _⟩ := h; rfl)) (pu__law_caught K (He.ga K "TurnError") (He.ga K "InvalidTree") (He.ga K "InvalidList") x1 E_InvalidList z2), g__law_caught, F__law_caught.kp, F__law_caught.bindsN (ps := ["_law_tree_here", "_law_trees_here"]) fun _ _ _ _ _ _ us hl => match us, hl with | [_, _], _ => rfl, .nil⟩
  have C__law_no_tree : CalG Pg w K mg base CX0 "_law_no_tree" 4 ["_law_door", "_law_one", "_law_other", "_law_bad"] [] (sp__law_no_tree K) := ⟨_, fd__law_no_tree, [], ok__law_no_tree (k := 3) F__law_no_tree T V_grown V_hung V_joined V_shared g_TurnError X_InvalidTree (by omega) (by omega) (by omega) (by omega) (fun vs H Q E h => by first | (obtain ⟨rfl, _⟩ := h; rfl) | (obtain ⟨_, rfl, _⟩ := h; rfl) | (obtain ⟨_, _, rfl, _⟩ := h; rfl) | (obtain ⟨_, _, _, rfl, _⟩ := h; rfl) | (obtain ⟨_, _, _, _, rfl, _⟩ := h; rfl) | (obtain ⟨_, _, _, _, _, rfl, _⟩ := h; rfl) | (obtain ⟨_, _, _, _, _, _, rfl, _⟩ := h; rfl) | (obtain ⟨_, _, _, _, _, _, _, rfl, _⟩ := h; rfl) | (obtain ⟨_, _, _, _, _, _, _, _, rfl, _⟩ := h; rfl) | (obtain ⟨_, _, _, _, _, _, _, _, _, rfl, _⟩ := h; rfl) | (obtain ⟨_, _, _, _, _, _, _, _, _, _, rfl, _⟩ := h; rfl) | (obtain ⟨_, _, _, _, _, _, _, _, _, _, _, rfl, _⟩ := h; rfl) | (obtain ⟨_, _, _, _, _, _, _, _, _, _, _, _, rfl, _⟩ := h; rfl) | (obtain ⟨_, _, _, _, _, _, _, _, _, _, _, _, _, rfl, _⟩ := h; rfl) | (obtain ⟨_, _, _, _, _, _, _, _, _, _, _, _, _, _, rfl, _⟩ := h; rfl)) (pu__law_no_tree K (He.ga K "TurnError") (He.ga K "InvalidTree") (He.ga K "InvalidList") (He.ga K "grown") (He.ga K "hung") (He.ga K "joined") (He.ga K "shared") x0 E_InvalidTree z1), g__law_no_tree, F__law_no_tree.kp, F__law_no_tree.bindsN (ps := ["_law_door", "_law_one", "_law_other", "_law_bad"]) fun _ _ _ _ _ _ us hl => match us, hl with | [_, _, _, _], _ => rfl, .nil⟩
  have C__law_refused : CalG Pg w K mg base CX0 "_law_refused" 5 ["_law_tree_here"] [] (sp__law_refused K) := ⟨_, fd__law_refused, [], ok__law_refused (k := 4) F__law_refused T C__law_no_tree (by omega) (fun vs H Q E h => by first | (obtain ⟨rfl, _⟩ := h; rfl) | (obtain ⟨_, rfl, _⟩ := h; rfl) | (obtain ⟨_, _, rfl, _⟩ := h; rfl) | (obtain ⟨_, _, _, rfl, _⟩ := h; rfl) | (obtain ⟨_, _, _, _, rfl, _⟩ := h; rfl) | (obtain ⟨_, _, _, _, _, rfl, _⟩ := h; rfl) | (obtain ⟨_, _, _, _, _, _, rfl, _⟩ := h; rfl) | (obtain ⟨_, _, _, _, _, _, _, rfl, _⟩ := h; rfl) | (obtain ⟨_, _, _, _, _, _, _, _, rfl, _⟩ := h; rfl) | (obtain ⟨_, _, _, _, _, _, _, _, _, rfl, _⟩ := h; rfl) | (obtain ⟨_, _, _, _, _, _, _, _, _, _, rfl, _⟩ := h; rfl) | (obtain ⟨_, _, _, _, _, _, _, _, _, _, _, rfl, _⟩ := h; rfl) | (obtain ⟨_, _, _, _, _, _, _, _, _, _, _, _, rfl, _⟩ := h; rfl) | (obtain ⟨_, _, _, _, _, _, _, _, _, _, _, _, _, rfl, _⟩ := h; rfl) | (obtain ⟨_, _, _, _, _, _, _, _, _, _, _, _, _, _, rfl, _⟩ := h; rfl)) (pu__law_refused K), g__law_refused, F__law_refused.kp, F__law_refused.bindsN (ps := ["_law_tree_here"]) fun _ _ _ _ _ _ us hl => match us, hl with | [_], _ => rfl, .nil⟩
  have C__law_great_right : CalG Pg w K mg base CX0 "_law_great_right" 4 ["_law_generator_here"] [] (sp__law_great_right) := ⟨_, fd__law_great_right, [], ok__law_great_right (k := 3) F__law_great_right T C__law_random C_joined C_shared C_hung C_grown (by omega) (by omega) (by omega) (by omega) (by omega) (fun vs H Q E h => by first | (obtain ⟨rfl, _⟩ := h; rfl) | (obtain ⟨_, rfl, _⟩ := h; rfl) | (obtain ⟨_, _, rfl, _⟩ := h; rfl) | (obtain ⟨_, _, _, rfl, _⟩ := h; rfl) | (obtain ⟨_, _, _, _, rfl, _⟩ := h; rfl) | (obtain ⟨_, _, _, _, _, rfl, _⟩ := h; rfl) | (obtain ⟨_, _, _, _, _, _, rfl, _⟩ := h; rfl) | (obtain ⟨_, _, _, _, _, _, _, rfl, _⟩ := h; rfl) | (obtain ⟨_, _, _, _, _, _, _, _, rfl, _⟩ := h; rfl) | (obtain ⟨_, _, _, _, _, _, _, _, _, rfl, _⟩ := h; rfl) | (obtain ⟨_, _, _, _, _, _, _, _, _, _, rfl, _⟩ := h; rfl) | (obtain ⟨_, _, _, _, _, _, _, _, _, _, _, rfl, _⟩ := h; rfl) | (obtain ⟨_, _, _, _, _, _, _, _, _, _, _, _, rfl, _⟩ := h; rfl) | (obtain ⟨_, _, _, _, _, _, _, _, _, _, _, _, _, rfl, _⟩ := h; rfl) | (obtain ⟨_, _, _, _, _, _, _, _, _, _, _, _, _, _, rfl, _⟩ := h; rfl)) (pu__law_great_right K (He.ga K "InvalidTree") (He.ga K "InvalidList")), g__law_great_right, F__law_great_right.kp, F__law_great_right.bindsN (ps := ["_law_generator_here"]) fun _ _ _ _ _ _ us hl => match us, hl with | [_], _ => rfl, .nil⟩
  exact (ok_law (k := 215) F_law T C__law_generator C__law_random C__law_tree C__law_trees C_grown C__law_parsed C__law_filled C__law_text C_hung C__law_pair_right C__law_caught C__law_refused C__law_great_right (by omega) (by omega) (by omega) (by omega) (by omega) (by omega) (by omega) (by omega) (by omega) (by omega) (by omega) (by omega) (by omega) (fun vs H Q E h => by first | (obtain ⟨rfl, _⟩ := h; rfl) | (obtain ⟨_, rfl, _⟩ := h; rfl) | (obtain ⟨_, _, rfl, _⟩ := h; rfl) | (obtain ⟨_, _, _, rfl, _⟩ := h; rfl) | (obtain ⟨_, _, _, _, rfl, _⟩ := h; rfl) | (obtain ⟨_, _, _, _, _, rfl, _⟩ := h; rfl) | (obtain ⟨_, _, _, _, _, _, rfl, _⟩ := h; rfl) | (obtain ⟨_, _, _, _, _, _, _, rfl, _⟩ := h; rfl) | (obtain ⟨_, _, _, _, _, _, _, _, rfl, _⟩ := h; rfl) | (obtain ⟨_, _, _, _, _, _, _, _, _, rfl, _⟩ := h; rfl) | (obtain ⟨_, _, _, _, _, _, _, _, _, _, rfl, _⟩ := h; rfl) | (obtain ⟨_, _, _, _, _, _, _, _, _, _, _, rfl, _⟩ := h; rfl) | (obtain ⟨_, _, _, _, _, _, _, _, _, _, _, _, rfl, _⟩ := h; rfl) | (obtain ⟨_, _, _, _, _, _, _, _, _, _, _, _, _, rfl, _⟩ := h; rfl) | (obtain ⟨_, _, _, _, _, _, _, _, _, _, _, _, _, _, rfl, _⟩ := h; rfl)) (pu_law K (He.ga K "InvalidTree") (He.ga K "InvalidList") 212 (by decide))).mono (by omega)
end Pf
open PySem PySem.W PySem.Calls PyProof.Rows
set_option maxHeartbeats 0 in
theorem PySem.Challenge.cw_treeturns_k04_trees_that_grow_holds : PySem.Challenge.rw_treeturns_k04_trees_that_grow.Holds := by
  w_on; o_law
  refine HandSHeadRun.head_any (r := OpenLaw.row PySem.Challenge.rw_treeturns_k04_trees_that_grow) (q := view (OpenLaw.row PySem.Challenge.rw_treeturns_k04_trees_that_grow).prog [33]) (H := Pf.hk) (ob := Pf.ob) (M := 6000) (loose := Pf.loose) (d := HandSHeadRun.topDef (OpenLaw.row PySem.Challenge.rw_treeturns_k04_trees_that_grow).prog 33) (kwd := []) Pf.ob_eq
    (by kernel_rfl) (fun s => by kernel_rfl) Pf.run (by kernel_rfl) (by kernel_rfl) (by kernel_rfl) (by rfl) (by first | assumption | decide +kernel) (by decide +kernel) ⟨rfl, rfl, rfl, rfl, rfl, by decide +kernel⟩ ?hw ?hc
  case hw => w_witness2
  case hc =>
    refine M.walk_ofG (l := PySem.Challenge.rw_treeturns_k04_trees_that_grow) (n := 63) (k := 250) (x := "_law_script") (CX := L2.CX0) rfl (by decide) (by kernel_rfl) ⟨rfl, by decide, by decide, rfl⟩ ?F (fun _ _ _ _ z => z)
    intro w mg fa h Y G hmg0
    obtain ⟨K, KX, c⟩ := Y
    have hmg : mg ("law" : PySem.Str) = some (.ref fa) := by
      have e : (HandSHeadRun.topDef (OpenLaw.row PySem.Challenge.rw_treeturns_k04_trees_that_grow).prog 33).name = ("law" : PySem.Str) := by kernel_rfl
      rw [← e]
      exact hmg0
    obtain ⟨fd, hb, hF⟩ := Pf.facts (w := w) KX G hmg c
    exact ⟨K, fd, Pf.sp_law K, KX, hb, fun H a ns hl _ hS => ⟨a, ns, rfl, hS, fun _ => rfl⟩, hF⟩
