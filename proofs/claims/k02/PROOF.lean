import PyProof.Rows.All
import Wide.All
import OpenK.AllK
import Wide.FinOn
import KE.KStateDown
import HandS.ForMost
import HandS.ForExc
import HandS.Style
import HandS.Wide
import HandS.WideBits
import HandS.CallSlots
import HandS.Defaults
import HandS.Walk
import KE.KExcSuper
import KE.KExcIs
import HandS.ExcInit
import HandS.ExcSuper
import HandS.ExcField
import HandS.ExcIs
import HandS.ExcOwn
import HandS.Ends
import PyProof.ReprRoads
import HandS.Head0
import HandS.Head1
import HandS.Head2
import HandS.HeadEnd
import HandS.HeadHook1
import HandS.HeadHook2
import HandS.HeadHook3
import PyProof.Rows.StrMul
import HandS.IsInst
import HandS.RaiseMore
import HandS.NoneIn
import PyProof.Rows.SortShellAny
import PyProof.Rows.StrRev
import HandS.Codes
import PyProof.ReprLen
import PyProof.StrLawsRepr
import PySem.Challenge.RW_treeturns_k02_trees_told
set_option Elab.async false
set_option linter.all false
set_option maxRecDepth 100000
set_option maxHeartbeats 4000000
set_option exponentiation.threshold 4000
/-! M0: readings that reckon themselves (by cases on the values at hand), over the hand layer's judgements. -/
namespace M
open PySem PySem.Spec PyProof.Rows L2

/-! ### weakening -/
section
variable {X : Cx}
theorem pe_imp {e : Expr} {t t' : TE} (h : PE X e t) (w : ∀ σ H Q, t' σ H Q → t σ H Q) : PE X e t' := ⟨fun pins s σ H Q I q => h.run pins s σ H Q I (w σ H Q q)⟩
theorem pt_imp {e : Expr} {t t' : TT} (h : PT X e t) (w : ∀ σ H Q, t' σ H Q → t σ H Q) : PT X e t' := ⟨fun pins s σ H Q I q => h.run pins s σ H Q I (w σ H Q q)⟩
theorem ps_imp {e : Stmt} {t t' : TS} (h : PS X e t) (w : ∀ D σ H, t' D σ H → t D σ H) : PS X e t' := ⟨fun pins s σ H D I q => h.run pins s σ H D I (w D σ H q)⟩
theorem pg_imp {e : Expr} {t t' : TG} (h : PG X e t) (w : ∀ v σ H Q, t' v σ H Q → t v σ H Q) : PG X e t' := ⟨fun pins s σ H v u Q I r q => h.run pins s σ H v u Q I r (w v σ H Q q)⟩
theorem pgs_imp {e : List Expr} {t t' : TGs} (h : PGs X e t) (w : ∀ v σ H Q, t' v σ H Q → t v σ H Q) : PGs X e t' := ⟨fun pins s σ H v u Q I r q => h.run pins s σ H v u Q I r (w v σ H Q q)⟩
theorem opR_imp {f : Value → Value → Sem Value} {r r' : R2} (h : OpR X f r) (w : ∀ x y H Q, r' x y H Q → r x y H Q) : OpR X f r' := fun pins s σ H x y v u Q I rx ry q => h pins s σ H x y v u Q I rx ry (w x y H Q q)
theorem ixR_imp {r r' : R2} (h : IxR X r) (w : ∀ x y H Q, r' x y H Q → r x y H Q) : IxR X r' := fun value slice pins s σ H x y v u Q I rx ry q => h value slice pins s σ H x y v u Q I rx ry (w x y H Q q)
theorem slR_imp {r r' : V → Option Int → Option Int → Hp → VK → Prop} (h : SlR X r) (w : ∀ x l u H Q, r' x l u H Q → r x l u H Q) : SlR X r' := fun pins s σ H x v vl vu lo hi sl Q I rx hs pl pu q => h pins s σ H x v vl vu lo hi sl Q I rx hs pl pu (w _ _ _ _ _ q)
theorem callR_imp {f : Value} {r r' : List V → Hp → VK → Prop} (h : CallR X f r) (w : ∀ x H Q, r' x H Q → r x H Q) : CallR X f r' := fun pins s σ H xs us Q I r q => h pins s σ H xs us Q I r (w _ _ _ q)
end

/-! ### texts as lists of codes -/
def S (l : List Nat) : Str := ⟨l.toArray⟩
theorem S_cps (l : List Nat) : (S l).cps.toList = l := by simp [S]
theorem S_len (l : List Nat) : (S l).length = l.length := by simp [S, Str.length]
theorem S_app (a b : List Nat) : S a ++ S b = S (a ++ b) := by
  show (⟨a.toArray ++ b.toArray⟩ : Str) = ⟨(a ++ b).toArray⟩
  rw [← List.append_toArray]
theorem S_inj {a b : List Nat} : S a = S b ↔ a = b := by
  constructor
  · intro h
    have := congrArg (fun s : Str => s.cps.toList) h
    simpa [S] using this
  · rintro rfl; rfl
theorem S_of (z : Str) : S z.cps.toList = z := by
  cases z; simp [S]
theorem S_one (c : Nat) : (⟨#[c]⟩ : Str) = S [c] := rfl
theorem str_S (a b : List Nat) : (V.str (S a) = V.str (S b)) ↔ a = b := by
  rw [V.str.injEq, S_inj]

/-! ### slots -/
abbrev Sl := List (Option V)
def gt : Sl → Nat → Option V
  | [], _ => none
  | x :: _, 0 => x
  | _ :: r, n + 1 => gt r n
theorem gt_some : ∀ {σ : Sl} {i : Nat} {v : V}, gt σ i = some v → σ[i]? = some (some v)
  | [], _, _, h => by cases h
  | x :: _, 0, v, h => by
    have h' : x = some v := h
    rw [h']; rfl
  | _ :: r, n + 1, v, h => by
    have := gt_some (σ := r) (i := n) (v := v) h
    simpa using this
def mVar (i : Nat) : TE := fun σ H Q => match gt σ i with | some v => Q v H | none => False
def mC (v : V) : TE := fun _ H Q => Q v H
section
variable {X : Cx} {a b : Expr} {ta tb : TE} {pos : Pos}
theorem mv (i : Nat) {x : Str} {pos : Pos} (hN : X.N[i]? = some x := by rfl) (hv : Vis X.env.scope x := by first | exact Or.inl rfl | exact Or.inr (Or.inl rfl) | exact Or.inr (Or.inr rfl)) (hd : (x == ("__debug__" : Str)) = false := by decide)
    (hcd : (x == ("__classdict__" : Str)) = false := by decide) : PE X (.Name x pos) (mVar i) := pe_imp (pe_var hN hv hd hcd) fun σ H Q q => by
  unfold mVar at q
  cases e : gt σ i with
  | none => rw [e] at q; exact q.elim
  | some v => rw [e] at q; exact ⟨v, gt_some e, q⟩
theorem me_int {i j pos} : PE X (.Constant (.int i) j pos) (mC (.int i)) := pe_int
theorem me_bl {i j pos} : PE X (.Constant (.bool i) j pos) (mC (.bl i)) := pe_bl
theorem me_non {j pos} : PE X (.Constant .none j pos) (mC .non) := pe_non
theorem me_str (l : List Nat) {x j pos} (h : x = S l) : PE X (.Constant (.str x) j pos) (mC (.str (S l))) := by subst h; exact pe_str
theorem me_gint {x : Str} {i : Int} {t : Tok} {pos : Pos} (hg : Gl X x) (hm : X.mg x = some (.int i t)) (hd : (x == ("__debug__" : Str)) = false := by decide) : PE X (.Name x pos) (mC (.int i)) := pe_glob hg hm ⟨t, rfl⟩ hd
theorem me_gstr (l : List Nat) {x z : Str} {t : Tok} {pos : Pos} (hg : Gl X x) (hm : X.mg x = some (.str z t)) (h : z = S l) (hd : (x == ("__debug__" : Str)) = false := by decide) : PE X (.Name x pos) (mC (.str (S l))) := by
  subst h; exact pe_glob hg hm ⟨t, rfl⟩ hd

/-! ### operators -/
/-- a number below this many bits in all -/
def MulOk (i j : Int) : Prop := i.natAbs.log2 + j.natAbs.log2 < 1000000
theorem MulOk.of {i j : Int} (a b : Nat) (ha : i.natAbs < 2 ^ a) (hb : j.natAbs < 2 ^ b) (h0 : 0 < a := by decide) (h1 : 0 < b := by decide) (h : a + b ≤ 1000000 := by decide) : MulOk i j := wide_mul ha hb h0 h1 h
def DivOk (j : Int) : Prop := 0 < j ∧ j.natAbs.log2 < 9000
theorem DivOk.of {j : Int} (b : Nat) (h : 0 < j) (hb : j.natAbs < 2 ^ b) (h0 : 0 < b := by decide) (h9 : b ≤ 9000 := by decide) : DivOk j := wide_div (i := 0) h hb h0 h9
def mAdd : R2 := fun x y H Q => match x, y with
  | .int i, .int j => Q (.int (i + j)) H
  | .str a, .str b => a.length + b.length ≤ sizeLine ∧ Q (.str (a ++ b)) H
  | .ref a, .ref b => (∃ xs zs, H a = some (.lst xs) ∧ H b = some (.lst zs) ∧ xs.length + zs.length ≤ sizeLine ∧ ∀ p, H p = none → Q (.ref p) (upd H p (.lst (xs ++ zs))))
  | .int i, .bl k => Q (.int (i + b2i k)) H
  | _, _ => False
theorem op_addM : OpR X (binaryOp .Add) mAdd := by
  intro pins s σ H x y v u Q I rx ry q
  unfold mAdd at q
  split at q
  · exact op_add pins s σ H _ _ v u Q I rx ry ⟨_, _, rfl, rfl, q⟩
  · exact op_add_str pins s σ H _ _ v u Q I rx ry ⟨_, _, rfl, rfl, q⟩
  · obtain ⟨xs, zs, h1, h2, h3, h4⟩ := q
    exact op_cat pins s σ H _ _ v u Q I rx ry ⟨_, _, xs, zs, rfl, rfl, h1, h2, h3, h4⟩
  · exact op_add_ib pins s σ H _ _ v u Q I rx ry ⟨_, _, rfl, rfl, q⟩
  · exact q.elim
def mSub : R2 := fun x y H Q => match x, y with
  | .int i, .int j => Q (.int (i - j)) H
  | _, _ => False
theorem op_subM : OpR X (binaryOp .Sub) mSub := opR_imp op_sub fun x y H Q q => by
  unfold mSub at q
  split at q
  · exact ⟨_, _, rfl, rfl, q⟩
  · exact q.elim
def mMul : R2 := fun x y H Q => match x, y with
  | .int i, .int j => MulOk i j ∧ Q (.int (i * j)) H
  | .ref l, .int k => ∃ xs, H l = some (.lst xs) ∧ -(2 ^ 63) ≤ k ∧ k < 2 ^ 63 ∧ xs.length * k.toNat ≤ sizeLine ∧ ∀ p, H p = none → Q (.ref p) (upd H p (.lst (List.replicate k.toNat xs).flatten))
  | .str a, .int k => (a.length * 4096 ≤ 16777216 ∧ 0 ≤ k ∧ k ≤ 4096) ∧ Q (.str (Txt.mul a k)) H
  | _, _ => False
theorem op_mulM : OpR X (binaryOp .Mult) mMul := by
  intro pins s σ H x y v u Q I rx ry q
  unfold mMul at q
  split at q
  · exact op_mulW pins s σ H _ _ v u Q I rx ry ⟨_, _, rfl, rfl, q⟩
  · obtain ⟨xs, h1, h2, h3, h4, h5⟩ := q
    exact op_rep pins s σ H _ _ v u Q I rx ry ⟨_, _, xs, rfl, rfl, h1, h2, h3, h4, h5⟩
  · rename_i a k
    obtain ⟨⟨h1, h2, h3⟩, q⟩ := q
    obtain ⟨t, rfl⟩ := rx
    obtain ⟨t', rfl⟩ := ry
    exact SB.mul (PyProof.Rows.mulOk_of a.length 4096 (Nat.le_refl _) h3 (by omega) (by decide) h1) fun t2 k2 => ⟨.str _, H, I.tok _, ⟨_, rfl⟩, q⟩
  · exact q.elim
def mMod : R2 := fun x y H Q => match x, y with
  | .int i, .int j => 0 < j ∧ Q (.int (i % j)) H
  | _, _ => False
theorem op_modM : OpR X (binaryOp .Mod) mMod := opR_imp op_mod fun x y H Q q => by
  unfold mMod at q
  split at q
  · exact ⟨_, _, rfl, rfl, q⟩
  · exact q.elim
def mDiv : R2 := fun x y H Q => match x, y with
  | .int i, .int j => DivOk j ∧ Q (.int (i / j)) H
  | _, _ => False
theorem op_divM : OpR X (binaryOp .FloorDiv) mDiv := opR_imp op_fdivW fun x y H Q q => by
  unfold mDiv at q
  split at q
  · exact ⟨_, _, rfl, rfl, q⟩
  · exact q.elim
def mPow : R2 := fun x y H Q => match x, y with
  | .int i, .int j => (0 ≤ j ∧ (Builtin.Int.intBits i : Int) * j ≤ 2 ^ 27) ∧ Q (.int (i ^ j.toNat)) H
  | _, _ => False
theorem op_powM : OpR X (binaryOp .Pow) mPow := by
  intro pins s σ H x y v u Q I rx ry q
  unfold mPow at q
  split at q
  · obtain ⟨t, rfl⟩ := rx
    obtain ⟨t', rfl⟩ := ry
    exact pow_int q.1.1 q.1.2 ⟨.int _, H, I.tok _, ⟨_, rfl⟩, q.2⟩
  · exact q.elim

/-! ### comparisons -/
def mEqB (x y : V) : Option Bool := match x, y with
  | .int i, .int j => some (decide (i = j))
  | .str a, .str b => some (decide (a = b))
  | .bl a, .bl b => some (decide (a = b))
  | .non, .non => some true
  | .non, .int _ => some false
  | .non, .str _ => some false
  | .non, .bl _ => some false
  | .int _, .non => some false
  | .str _, .non => some false
  | .bl _, .non => some false
  | .int _, .str _ => some false
  | .str _, .int _ => some false
  | .bl _, .str _ => some false
  | .str _, .bl _ => some false
  | _, _ => none
theorem mEqB_ok {x y : V} {b : Bool} (h : mEqB x y = some b) : scal x y = true ∧ decide (x = y) = b := by
  unfold mEqB at h
  split at h <;> (try cases h) <;> refine ⟨rfl, ?_⟩ <;> simp
/-- == of data, one of both not deep -/
def rEqW (K : PySem.W.Frag) (neg : Bool) : R2 := fun x y H Q => ∃ d e, Dp K H x d ∧ Dp K H y e ∧ d.canLay0 = true ∧ e.canLay0 = true ∧ min d.depth e.depth ≤ 64 ∧ Q (.bl (if neg then !PyData.eqv d e else PyData.eqv d e)) H
theorem op_eqW (hu : X.A.units + 64 < cLine) : OpR X (compareOp .Eq) (rEqW X.K false) := by
  intro pins s σ H x y v u Q I rx ry h
  obtain ⟨d, e, hd, he, sd, se, hm, q⟩ := h
  obtain ⟨as, r1⟩ := Dp.reads I d x v hd rx
  obtain ⟨bs, r2⟩ := Dp.reads I e y u he ry
  exact SeqAt.compareEq_reads r1 r2 sd se (by omega) ⟨.bl _, H, I, rfl, q⟩
theorem op_neW (hu : X.A.units + 64 < cLine) : OpR X (compareOp .NotEq) (rEqW X.K true) := by
  intro pins s σ H x y v u Q I rx ry h
  obtain ⟨d, e, hd, he, sd, se, hm, q⟩ := h
  obtain ⟨as, r1⟩ := Dp.reads I d x v hd rx
  obtain ⟨bs, r2⟩ := Dp.reads I e y u he ry
  exact SeqAt.compareNe_reads r1 r2 sd se (by omega) ⟨.bl _, H, I, rfl, q⟩
def mEq (K : PySem.W.Frag) : R2 := fun x y H Q => match mEqB x y with
  | some b => Q (.bl b) H
  | none => rEqW K false x y H Q
def mNe (K : PySem.W.Frag) : R2 := fun x y H Q => match mEqB x y with
  | some b => Q (.bl (!b)) H
  | none => rEqW K true x y H Q
theorem op_eqM (hu : X.A.units + 64 < cLine) : OpR X (compareOp .Eq) (mEq X.K) := by
  intro pins s σ H x y v u Q I rx ry q
  unfold mEq at q
  split at q
  · rename_i b e
    obtain ⟨h1, h2⟩ := mEqB_ok e
    refine op_eq pins s σ H _ _ v u Q I rx ry ⟨h1, ?_⟩
    rw [h2]; exact q
  · exact op_eqW hu pins s σ H _ _ v u Q I rx ry q
theorem op_neM (hu : X.A.units + 64 < cLine) : OpR X (compareOp .NotEq) (mNe X.K) := by
  intro pins s σ H x y v u Q I rx ry q
  unfold mNe at q
  split at q
  · rename_i b e
    obtain ⟨h1, h2⟩ := mEqB_ok e
    refine op_ne pins s σ H _ _ v u Q I rx ry ⟨h1, ?_⟩
    rw [h2]; exact q
  · exact op_neW hu pins s σ H _ _ v u Q I rx ry q
def mCmp (p : Int → Int → Bool) : R2 := fun x y H Q => match x, y with
  | .int i, .int j => Q (.bl (p i j)) H
  | _, _ => False
theorem cmp_imp {p : Int → Int → Bool} {f : Value → Value → Sem Value} (h : OpR X f (rI0 fun i j => .bl (p i j))) : OpR X f (mCmp p) := opR_imp h fun x y H Q q => by
  unfold mCmp at q
  split at q
  · exact ⟨_, _, rfl, rfl, q⟩
  · exact q.elim
def mLt : R2 := mCmp fun i j => decide (i < j)
def mLe : R2 := mCmp fun i j => decide (i ≤ j)
def mGt : R2 := mCmp fun i j => decide (j < i)
def mGe : R2 := mCmp fun i j => decide (j ≤ i)
theorem op_ltM : OpR X (compareOp .Lt) mLt := cmp_imp op_lt
theorem op_leM : OpR X (compareOp .LtE) mLe := cmp_imp op_le
theorem op_gtM : OpR X (compareOp .Gt) mGt := cmp_imp op_gt
theorem op_geM : OpR X (compareOp .GtE) mGe := cmp_imp op_ge
/-- is None, is not None -/
def isN : V → Bool
  | .non => true
  | _ => false
theorem isN_eq (x : V) : decide (x = .non) = isN x := by cases x <;> simp [isN]
def mIsN : R2 := fun x y H Q => match y with
  | .non => Q (.bl (isN x)) H
  | _ => False
def mNotN : R2 := fun x y H Q => match y with
  | .non => Q (.bl (!isN x)) H
  | _ => False
theorem op_isNM : OpR X (compareOp .Is) mIsN := opR_imp op_isN fun x y H Q q => by
  unfold mIsN at q
  split at q
  · exact ⟨rfl, by rw [isN_eq]; exact q⟩
  · exact q.elim
theorem op_notNM : OpR X (compareOp .IsNot) mNotN := opR_imp op_notN fun x y H Q q => by
  unfold mNotN at q
  split at q
  · exact ⟨rfl, by rw [isN_eq]; exact q⟩
  · exact q.elim
/-- x in a list or tuple of flat things -/
def mInS (K : PySem.W.Frag) : R2 := fun x y H Q => rIn K false x y H Q
def mNinS (K : PySem.W.Frag) : R2 := fun x y H Q => rIn K true x y H Q
theorem op_inSM : OpR X (compareOp .In) (mInS X.K) := op_in_seq
theorem op_ninSM : OpR X (compareOp .NotIn) (mNinS X.K) := op_notIn_seq
/-- one sign in a text -/
def mInC : R2 := fun x y H Q => match x, y with
  | .str c, .str z => ∃ k, c = S [k] ∧ Q (.bl (decide (k ∈ z.cps.toList))) H
  | _, _ => False
theorem op_inCM : OpR X (compareOp .In) mInC := opR_imp op_in_sign fun x y H Q q => by
  unfold mInC at q
  split at q
  · obtain ⟨k, rfl, q⟩ := q
    exact ⟨k, _, rfl, rfl, q⟩
  · exact q.elim
def mNinC : R2 := fun x y H Q => match x, y with
  | .str c, .str z => ∃ k, c = S [k] ∧ Q (.bl (!decide (k ∈ z.cps.toList))) H
  | _, _ => False
theorem op_ninCM : OpR X (compareOp .NotIn) mNinC := opR_imp op_notIn_sign fun x y H Q q => by
  unfold mNinC at q
  split at q
  · obtain ⟨k, rfl, q⟩ := q
    exact ⟨k, _, rfl, rfl, q⟩
  · exact q.elim

/-! ### tests -/
def mTest (t : TE) : TT := fun σ H Q => t σ H fun x H' => match x with
  | .bl k => Q k H'
  | _ => False
def bX (Q : Bool → Hp → Prop) : VK := fun x H' => ∃ k, x = .bl k ∧ Q k H'
theorem bX_of {Q : Bool → Hp → Prop} {x : V} {H : Hp} (q : match x with | .bl k => Q k H | _ => False) : ∃ k, x = .bl k ∧ Q k H := by
  cases x with
  | bl k => exact ⟨k, rfl, q⟩
  | _ => exact q.elim
end
end M

namespace M
open PySem PySem.Spec PyProof.Rows L2

/-! ### a reading's closure: what it wants may be weaker than what is given -/
def cl (t : TE) : TE := fun σ H Q => ∃ Q' : VK, t σ H Q' ∧ ∀ v H', Q' v H' → Q v H'
def clT (t : TT) : TT := fun σ H Q => ∃ Q' : Bool → Hp → Prop, t σ H Q' ∧ ∀ v H', Q' v H' → Q v H'
def clA (t : TA) : TA := fun σ H Q => ∃ Q' : List V → Hp → Prop, t σ H Q' ∧ ∀ v H', Q' v H' → Q v H'
section
variable {X : Cx} {a b c : Expr} {ta tb tc : TE} {pos : Pos} {t u : TT}
theorem pe_cl (h : PE X a ta) : PE X a (cl ta) := ⟨fun pins s σ H Q I ⟨Q', q, w⟩ => thn (h.run pins s σ H Q' I q) fun _ _ ⟨v, H', I', r, z⟩ => ⟨v, H', I', r, w v H' z⟩⟩
theorem pt_cl (h : PT X a t) : PT X a (clT t) := ⟨fun pins s σ H Q I ⟨Q', q, w⟩ => thn (h.run pins s σ H Q' I q) fun _ _ ⟨H', I', z⟩ => ⟨H', I', w _ H' z⟩⟩
theorem pa_cl {es : List Expr} {t : TA} (h : PA X es t) : PA X es (clA t) := ⟨fun pos pins s σ H Q I ⟨Q', q, w⟩ => thn (h.run pos pins s σ H Q' I q) fun _ _ ⟨v, H', I', r, z⟩ => ⟨v, H', I', r, w v H' z⟩⟩
def clR (r : R2) : R2 := fun x y H Q => ∃ Q' : VK, r x y H Q' ∧ ∀ v H', Q' v H' → Q v H'
theorem opR_cl {f : Value → Value → Sem Value} {r : R2} (h : OpR X f r) : OpR X f (clR r) := fun pins s σ H x y v u Q I rx ry ⟨Q', q, w⟩ => thn (h pins s σ H x y v u Q' I rx ry q) fun _ _ ⟨v, H', I', r, z⟩ => ⟨v, H', I', r, w v H' z⟩

/-! ### tests -/
theorem mt_val (h : PE X a ta) (he : ∀ whole, isTrue a X.env whole = (do let v ← whole; standAt a.pos; holding [v] (truthy v)) := by intro _; rfl) : PT X a (mTest ta) :=
  pt_imp (pt_val (pe_cl h) he) fun σ H Q q => ⟨_, q, fun v H' z => bX_of z⟩
theorem mt_cmp {op : CmpOp} {r : R2} (ho : OpR X (compareOp op) r) (ha : PE X a ta) (hb : PE X b tb) (hm : behindInMarks op b = false) : PT X (.Compare a [op] [b] pos) (mTest (tOp r ta tb)) :=
  pt_imp (pt_cmpR (opR_cl ho) (pe_cl ha) (pe_cl hb) hm) fun σ H Q q => ⟨_, q, fun x H1 q1 => ⟨_, q1, fun y H2 q2 => ⟨_, q2, fun z H3 q3 => bX_of q3⟩⟩⟩
def mChain (r r' : R2) (ta tb tc : TE) : TE := fun σ H Q => ta σ H fun x H1 => tb σ H1 fun y H2 => r x y H2 fun z H3 => match z with
  | .bl true => tc σ H3 fun w H4 => r' y w H4 Q
  | .bl false => Q (.bl false) H3
  | _ => False
/-! and, or, not as values -/
def mAndV (ta tb : TE) : TE := fun σ H Q => ta σ H fun x H1 => match x with
  | .bl c => if c = true then tb σ H1 Q else Q (.bl false) H1
  | _ => False
def mOrV (ta tb : TE) : TE := fun σ H Q => ta σ H fun x H1 => match x with
  | .bl c => if c = true then Q (.bl true) H1 else tb σ H1 Q
  | _ => False
def mNotV (ta : TE) : TE := fun σ H Q => ta σ H fun x H1 => match x with
  | .bl c => Q (.bl (!c)) H1
  | _ => False
variable {rest : List Expr}
theorem me_and (ha : PE X a ta) (hb : PE X (.BoolOp .And (b :: rest) pos) tb) : PE X (.BoolOp .And (a :: b :: rest) pos) (mAndV ta tb) :=
  pe_imp (pe_and (pe_cl ha) hb) fun σ H Q q => ⟨_, q, fun x H1 z => by
    cases x with
    | bl c => exact ⟨c, rfl, z⟩
    | _ => exact z.elim⟩
theorem me_or (ha : PE X a ta) (hb : PE X (.BoolOp .Or (b :: rest) pos) tb) : PE X (.BoolOp .Or (a :: b :: rest) pos) (mOrV ta tb) :=
  pe_imp (pe_or (pe_cl ha) hb) fun σ H Q q => ⟨_, q, fun x H1 z => by
    cases x with
    | bl c => exact ⟨c, rfl, z⟩
    | _ => exact z.elim⟩
theorem me_not (ha : PE X a ta) : PE X (.UnaryOp .Not a pos) (mNotV ta) :=
  pe_imp (pe_not (pe_cl ha)) fun σ H Q q => ⟨_, q, fun x H1 z => by
    cases x with
    | bl c => exact ⟨c, rfl, z⟩
    | _ => exact z.elim⟩
def mUn (f : Int → Int) (ta : TE) : TE := fun σ H Q => ta σ H fun x H1 => match x with
  | .int i => Q (.int (f i)) H1
  | _ => False
theorem me_neg (ha : PE X a ta) : PE X (.UnaryOp .USub a pos) (mUn (fun i => -i) ta) :=
  pe_imp (pe_un un_neg (pe_cl ha)) fun σ H Q q => ⟨_, q, fun x H1 z => by
    cases x with
    | int i => exact ⟨i, rfl, z⟩
    | _ => exact z.elim⟩

/-! ### subscripts -/
def mIx (K : PySem.W.Frag) : R2 := fun x y H Q => match x, y with
  | .str z, .int i => z.length ≤ sizeLine ∧ ∃ c, atI z.cps.toList i = some c ∧ Q (.str (S [c])) H
  | .ref p, .int i => ∃ xs v, (SqL K H p xs ∨ SqT K H p xs) ∧ atI xs i = some v ∧ Q v H
  | _, _ => False
theorem ix_M : IxR X (mIx X.K) := ixR_imp ix_seq fun x y H Q q => by
  unfold mIx at q
  split at q
  · obtain ⟨h, c, e, q⟩ := q
    exact .inr (.inr ⟨_, _, c, rfl, rfl, h, e, q⟩)
  · obtain ⟨xs, v, h | h, e, q⟩ := q
    · exact .inl ⟨_, xs, _, v, rfl, rfl, h, e, q⟩
    · exact .inr (.inl ⟨_, xs, _, v, rfl, rfl, h, e, q⟩)
  · exact q.elim
theorem me_ix (ha : PE X a ta) (hb : PE X b tb) (hs : PlainIx b) : PE X (.Subscript a b pos) (tOp (mIx X.K) ta tb) := pe_ix ix_M ha hb hs
def mPart (t : TE) : TO := fun σ H Q => t σ H fun x H1 => match x with
  | .int i => Q (some i) H1
  | _ => False
theorem mo_some (h : PE X a ta) : PO X (some a) (mPart ta) := by
  have z := po_some (pe_cl h)
  exact ⟨fun pins s σ H Q I q => z.run pins s σ H Q I ⟨_, q, fun x H1 y => by
    cases x with
    | int i => exact ⟨i, rfl, y⟩
    | _ => exact y.elim⟩⟩
/-- l[lo:hi] -/
def cutL {α : Type} (l : List α) (lo hi : Option Int) : List α := (l.drop (HT.sIx l.length 0 lo)).take (HT.sIx l.length l.length hi - HT.sIx l.length 0 lo)
def mSl (K : PySem.W.Frag) : V → Option Int → Option Int → Hp → VK → Prop := fun x lo hi H Q => match x with
  | .str z => z.length ≤ sizeLine ∧ Q (.str (S (cutL z.cps.toList lo hi))) H
  | .ref a => (∃ xs, SqL K H a xs ∧ ∀ p, H p = none → Q (.ref p) (upd H p (.lst (cutL xs lo hi))))
  | _ => False
theorem sl_M : SlR X (mSl X.K) := slR_imp (sl_str.or sl_list) fun x lo hi H Q q => by
  unfold mSl at q
  split at q
  · exact .inl ⟨_, rfl, q.1, q.2⟩
  · obtain ⟨xs, h, q⟩ := q
    exact .inr ⟨_, xs, rfl, h, q⟩
  · exact q.elim
theorem me_slice {lo hi : Option Expr} {tl th : TO} {p2 : Pos} (ha : PE X a ta) (hl : PO X lo tl) (hh : PO X hi th) : PE X (.Subscript a (.Slice lo hi none p2) pos) (tSl (mSl X.K) ta tl th) := pe_slice sl_M ha hl hh
end

/-! ### statements -/
section
variable {X : Cx} {pos : Pos}
/-- (a, b, ..) = a tuple -/
def mgTup (K : PySem.W.Frag) (n : Nat) (t : TGs) : TG := fun v σ H Q => match v with
  | .ref a => ∃ xs, SqT K H a xs ∧ xs.length = n ∧ t xs σ H Q
  | _ => False
theorem mg_tup {es : List Expr} {k : Nat} {t : TGs} {n : Nat} (hc : X.calm = true) (h : PGs X es t)
    (hn : (assignEach es X.env).length = n := by rfl) (hst : (assignEach es X.env).findIdx? (·.1) = none := by rfl) : PG X (.Tuple es k pos) (mgTup X.K n t) :=
  pg_imp (pg_tup hc h hn hst) fun v σ H Q q => by
    unfold mgTup at q
    split at q
    · obtain ⟨xs, h, q⟩ := q
      exact ⟨_, xs, rfl, h, q⟩
    · exact q.elim
def mgNil : TGs := fun vs σ H Q => match vs with
  | [] => Q σ H
  | _ => False
def mgCons (t : TG) (u : TGs) : TGs := fun vs σ H Q => match vs with
  | v :: r => t v σ H fun σ' H' => u r σ' H' Q
  | [] => False
theorem mgs_nil : PGs X [] mgNil := pgs_imp pgs_nil fun vs σ H Q q => by
  cases vs with
  | nil => exact ⟨rfl, q⟩
  | cons _ _ => exact q.elim
theorem mgs_cons {e : Expr} {es : List Expr} {t : TG} {u : TGs} (h1 : PG X e t) (h2 : PGs X es u)
    (hs : (assignEach (e :: es) X.env).map (·.2) = assign e X.env :: (assignEach es X.env).map (·.2) := by rfl) : PGs X (e :: es) (mgCons t u) := pgs_imp (pgs_cons h1 h2 hs) fun vs σ H Q q => by
  cases vs with
  | nil => exact q.elim
  | cons v r => exact ⟨v, r, rfl, q⟩
/-- o[i] = v, a list -/
def mSetL : V → V → V → Hp → (Hp → Prop) → Prop := fun o i v H Q => match o, i with
  | .ref p, .int k => ∃ xs j, H p = some (.lst xs) ∧ ixN xs.length k = some j ∧ Q (upd H p (.lst (xs.set j v)))
  | _, _ => False
theorem set_listM : PSet X mSetL := fun pins s σ H o i v ov iv u Q I ro ri rv q => by
  unfold mSetL at q
  split at q
  · obtain ⟨xs, j, h1, h2, q⟩ := q
    exact set_list pins s σ H _ _ v ov iv u Q I ro ri rv ⟨_, xs, _, j, rfl, rfl, h1, h2, q⟩
  · exact q.elim
/-- a, b = x, y -/
def mPar (i j : Nat) (ta : TA) : TS := fun D σ H => ta σ H fun vs H1 => match vs with
  | [v, w] => D.nx ((σ.set i (some v)).set j (some w)) H1
  | _ => False
theorem ms_par {i j : Nat} {x y : Str} {a b : Expr} {ta : TA} {px py pt : Pos} {kt k2 pt2} (hc : X.calm = true) (hN : X.N.Nodup) (hi : X.N[i]? = some x) (hj : X.N[j]? = some y) (hij : i ≠ j)
    (hx : X.env.scope.names.lookup x = some .local) (hy : X.env.scope.names.lookup y = some .local) (ha : PA X [a, b] ta)
    (hw : swappedStores [.Tuple [.Name x px, .Name y py] kt pt] (.Tuple [a, b] k2 pt2) X.env = pure (some [x, y]))
    (hs : swapsWithSole [.Tuple [.Name x px, .Name y py] kt pt] (.Tuple [a, b] k2 pt2) pos.line X.env = pure false := by rfl) :
    PS X (.Assign [.Tuple [.Name x px, .Name y py] kt pt] (.Tuple [a, b] k2 pt2) pos) (mPar i j ta) :=
  ps_imp (ps_par hc hN hi hj hij hx hy (pa_cl ha) hw hs) fun D σ H q => ⟨_, q, fun vs H1 z => by
    split at z
    · exact ⟨_, _, rfl, z⟩
    · exact z.elim⟩
/-- name op= e -/
def mAug (i : Nat) (te : TE) (r : R2) : TS := fun D σ H => match gt σ i with
  | some x => te σ H fun y H1 => r x y H1 fun z H2 => D.nx (σ.set i (some z)) H2
  | none => False
theorem ms_aug {i : Nat} {x : Str} {e : Expr} {te : TE} {op : Operator} {r : R2} {pos' : Pos} (hN : X.N.Nodup) (hi : X.N[i]? = some x) (hx : Loc X.env.scope x) (he : PE X e te) (ho : OpR X (inplaceOp op) r) (hf : X.fn x = true ∨ X.env.scope.names.lookup x = some .local := by first | exact .inl rfl | exact .inr rfl | assumption) :
    PS X (.AugAssign (.Name x pos') op e pos) (mAug i te r) :=
  ps_imp (ps_aug hN hi hx he (ti := r) (fun pins s σ H x y v u Q I r1 r2 h => ho pins s σ H x y v u Q I r1 r2 h) hf) fun D σ H q => by
    unfold mAug at q
    split at q
    · rename_i x e
      exact ⟨x, gt_some e, q⟩
    · exact q.elim
def iAdd : R2 := fun x y H Q => match x, y with
  | .int i, .int j => Q (.int (i + j)) H
  | .str a, .str b => a.length + b.length ≤ sizeLine ∧ Q (.str (a ++ b)) H
  | .ref l, .ref b => ∃ xs zs, H l = some (.lst xs) ∧ H b = some (.lst zs) ∧ xs.length + zs.length ≤ sizeLine ∧ Q (.ref l) (upd H l (.lst (xs ++ zs)))
  | _, _ => False
theorem iop_addM : OpR X (inplaceOp .Add) iAdd := by
  intro pins s σ H x y v u Q I rx ry q
  unfold iAdd at q
  split at q
  · exact iop_add pins s σ H _ _ v u Q I rx ry ⟨_, _, rfl, rfl, q⟩
  · exact iop_add_str pins s σ H _ _ v u Q I rx ry ⟨_, _, rfl, rfl, q⟩
  · obtain ⟨xs, zs, h1, h2, h3, q⟩ := q
    exact iop_ext pins s σ H _ _ v u Q I rx ry ⟨_, _, xs, zs, rfl, rfl, h1, h2, h3, q⟩
  · exact q.elim
theorem iop_subM : OpR X (inplaceOp .Sub) mSub := opR_imp iop_sub fun x y H Q q => by
  unfold mSub at q
  split at q
  · exact ⟨_, _, rfl, rfl, q⟩
  · exact q.elim
end

/-! ### what is walked -/
inductive Src where
  | v (G : Hp → Prop) (L : List V)
  | p (G : Hp → Prop) (L : List (V × V))
def Feeds (J : It) : Src → Prop
  | .v G L => Walk J L.length G (YAt L)
  | .p G L => Walk J L.length G (YPair (fun i => L[i]?.map (·.1)) (fun i => L[i]?.map (·.2)))
abbrev MI := Sl → Hp → (Src → Hp → Prop) → Prop
def toTI (wi : MI) : TI := fun σ H R => ∃ P : Src → Hp → Prop, wi σ H P ∧ ∀ s H1 J, P s H1 → Feeds J s → R J H1
section
variable {X : Cx} {tg : Expr} {l e2 : Expr} {tl t2 : TE}
def mIter (K : PySem.W.Frag) (tl : TE) : MI := fun σ H P => tl σ H fun x H1 => match x with
  | .ref a => ∃ xs, (SqL K H1 a xs ∧ P (.v (fun H => SqL K H a xs) xs) H1) ∨ (SqT K H1 a xs ∧ P (.v (fun H => SqT K H a xs) xs) H1)
  | .str z => P (.v (fun _ => True) (z.cps.toList.map fun c => .str (S [c]))) H1
  | _ => False
/-- the walk of a value, by its rule -/
def ItR (X : Cx) (tg : Expr) (r : V → Hp → (It → Hp → Prop) → Prop) : Prop :=
  ∀ (pins : List (Addr × Obj)) (s : Shared) (σ : L2.St) (H : Hp) (x : V) (v : Value) (R : It → Hp → Prop), Inv X pins σ H s → RelV x v → r x H R → wpAny (model X.prog X.w) X.A (pyIter v) (PIE X pins σ tg R) X.xe s
theorem pi_of {r : V → Hp → (It → Hp → Prop) → Prop} (he : PE X l tl) (hr : ItR X tg r) : PI X tg l (fun σ H R => tl σ H fun x H1 => r x H1 R) :=
  ⟨fun pins s σ H R I h => thn (he.run pins s σ H _ I h) fun v s1 ⟨x, H1, I1, r1, q1⟩ => hr pins s1 σ H1 x v R I1 r1 q1⟩
theorem itr_list : ItR X tg (fun x H R => ∃ a, x = .ref a ∧ (∃ xs, SqL X.K H a xs) ∧ R (Itl X.K a) H) := by
  intro pins s1 σ H1 x v R I1 r1 q1
  obtain ⟨a, e, ⟨xs, hq⟩, q⟩ := q1
  subst e
  cases r1
  obtain ⟨its, rv, p, hz⟩ := I1.list hq
  refine wpAny_pyIter_list p.isList ?_
  refine ⟨s1.heap.objs.size, [s1.heap.objs.size], _, _, H1, rfl, I1.kept (t' := s1.toks) fun b o e => Heap.get?_push_of_some _ e, turn_list a _, ⟨_, Heap.get?_push_size _ rfl, rfl, rfl⟩, fun b hb => ?_, q⟩
  have e : b = s1.heap.objs.size := by simpa using hb
  subst e
  exact I1.fpOk (Nat.le_refl _) (I1.hok.fresh (Nat.le_refl _))
theorem itr_tup : ItR X tg (fun x H R => ∃ a, x = .ref a ∧ (∃ xs, SqT X.K H a xs) ∧ R (Itt X.K a) H) := by
  intro pins s1 σ H1 x v R I1 r1 q1
  obtain ⟨a, e, ⟨xs, hq⟩, q⟩ := q1
  subst e
  cases r1
  obtain ⟨its, rv, p, hz⟩ := I1.tuple hq
  refine wpAny_pyIter_tuple (show s1.heap.IsTuple a its.toArray from p) ?_
  refine ⟨s1.heap.objs.size, [s1.heap.objs.size], _, _, H1, rfl, I1.kept (t' := s1.toks) fun b o e => Heap.get?_push_of_some _ e, turn_tuple a _, ⟨_, Heap.get?_push_size _ rfl, rfl, rfl⟩, fun b hb => ?_, q⟩
  have e : b = s1.heap.objs.size := by simpa using hb
  subst e
  exact I1.fpOk (Nat.le_refl _) (I1.hok.fresh (Nat.le_refl _))
theorem itr_str : ItR X tg (fun x H R => ∃ z, x = .str z ∧ R (Its z) H) := by
  intro pins s1 σ H1 y v R I1 r1 q1
  obtain ⟨x, ex, q⟩ := q1
  subst ex
  obtain ⟨t, rfl⟩ := r1
  cases ha : x.cps.all (· < 128)
  · exact wpAny_pyIter_wide ha (pi_one (tk := s1.toks) I1 _ (turn_str _ x t "str_iterator" (.inr rfl)) ⟨_, Heap.get?_push_size _ rfl, rfl, rfl⟩ q)
  · exact wpAny_pyIter_ascii ha (pi_one (tk := s1.toks) I1 _ (turn_str _ x t "str_ascii_iterator" (.inl rfl)) ⟨_, Heap.get?_push_size _ rfl, rfl, rfl⟩ q)
theorem feeds_list {K : PySem.W.Frag} {a : Addr} {xs : List V} : Feeds (Itl K a) (.v (fun H => SqL K H a xs) xs) := walk_list
theorem feeds_tup {K : PySem.W.Frag} {a : Addr} {xs : List V} : Feeds (Itt K a) (.v (fun H => SqT K H a xs) xs) := walk_tup
theorem feeds_str {z : Str} : Feeds (Its z) (.v (fun _ => True) (z.cps.toList.map fun c => .str (S [c]))) := by
  have e : z.cps.size = (z.cps.toList.map fun c => V.str (S [c])).length := by simp
  have w := walk_str (z := z)
  rw [e] at w
  refine Walk.mono w (fun _ h => h) fun i H x H' _ _ ⟨h1, c, h2, h3⟩ => ⟨h1, ?_⟩
  rw [List.getElem?_map, Array.getElem?_toList, h2, h3]; rfl
theorem pi_iterM (he : PE X l tl) : PI X tg l (toTI (mIter X.K tl)) := by
  refine ⟨fun pins s σ H R I ⟨P, q, w⟩ => thn (he.run pins s σ H _ I q) fun v s1 ⟨x, H1, I1, r1, q1⟩ => ?_⟩
  cases x with
  | ref a =>
    obtain ⟨xs, h | h⟩ := q1
    · exact itr_list pins s1 σ H1 _ v R I1 r1 ⟨a, rfl, ⟨xs, h.1⟩, w _ _ _ h.2 feeds_list⟩
    · exact itr_tup pins s1 σ H1 _ v R I1 r1 ⟨a, rfl, ⟨xs, h.1⟩, w _ _ _ h.2 feeds_tup⟩
  | str z => exact itr_str pins s1 σ H1 _ v R I1 r1 ⟨z, rfl, w _ _ _ q1 feeds_str⟩
  | _ => exact q1.elim
theorem pi_imp {t t' : TI} (h : PI X tg l t) (w : ∀ σ H R, t' σ H R → t σ H R) : PI X tg l t' := ⟨fun pins s σ H R I q => h.run pins s σ H R I (w σ H R q)⟩
/-- range(n), range(a, b) -/
def upto (lo : Int) (n : Nat) : List V := (List.range n).map fun (i : Nat) => V.int (lo + (i : Int))
theorem upto_zero (lo : Int) : upto lo 0 = [] := rfl
theorem upto_succ (lo : Int) (n : Nat) : upto lo (n + 1) = .int lo :: upto (lo + 1) n := by
  unfold upto
  rw [List.range_succ_eq_map]
  simp only [List.map_cons, List.map_map]
  congr 1
  · simp
  · apply List.map_congr_left
    intro i _
    show V.int _ = V.int _
    congr 1
    simp
    omega
theorem feeds_range {lo : Int} {n : Nat} : Feeds (Itr lo n) (.v (fun _ => True) (upto lo n)) := by
  have e : n = (upto lo n).length := by simp [upto]
  have w := walk_range (lo := lo) (n := n)
  show Walk _ (upto lo n).length _ _
  rw [← e]
  refine Walk.mono w (fun _ h => h) fun i H x H' hi _ ⟨h1, h2⟩ => ⟨h1, ?_⟩
  unfold upto
  rw [List.getElem?_map, List.getElem?_range hi, h2]; rfl
def mRng1 (ta : TE) : MI := fun σ H P => ta σ H fun x H1 => match x with
  | .int j => (-(2 ^ 62) ≤ j ∧ j < 2 ^ 62) ∧ P (.v (fun _ => True) (upto 0 j.toNat)) H1
  | _ => False
def mRng2 (ta tb : TE) : MI := fun σ H P => ta σ H fun x H1 => tb σ H1 fun y H2 => match x, y with
  | .int i, .int j => (-(2 ^ 62) ≤ i ∧ i < 2 ^ 62 ∧ -(2 ^ 62) ≤ j ∧ j < 2 ^ 62) ∧ P (.v (fun _ => True) (upto i (j - i).toNat)) H2
  | _, _ => False
theorem pi_rng1M {a : Expr} {ta : TE} {p pos : Pos} (hg : Gl X "range") (hm : X.mg "range" = none) (ha : PE X a ta) (hs : starEach [a] X.env = [(false, eval a X.env)] := by rfl) : PI X tg (.Call (.Name "range" p) [a] [] pos) (toTI (mRng1 ta)) :=
  pi_imp (pi_range1 hg hm (pa_cons (pe_cl ha) pa_nil hs) hs) fun σ H R ⟨P, q, w⟩ => ⟨_, q, fun x H1 z => by
    cases x with
    | int j => exact ⟨j, rfl, z.1.1, z.1.2, w _ _ _ z.2 feeds_range⟩
    | _ => exact z.elim⟩
theorem pi_rng2M {a b : Expr} {ta tb : TE} {p pos : Pos} (hg : Gl X "range") (hm : X.mg "range" = none) (ha : PE X a ta) (hb : PE X b tb) (hs : starEach [a, b] X.env = [(false, eval a X.env), (false, eval b X.env)] := by rfl) (hs2 : starEach [b] X.env = [(false, eval b X.env)] := by rfl) :
    PI X tg (.Call (.Name "range" p) [a, b] [] pos) (toTI (mRng2 ta tb)) :=
  pi_imp (pi_range2 hg hm (pa_cons (pe_cl ha) (pa_cons (pe_cl hb) pa_nil hs2) (by rw [hs, hs2])) hs hs2) fun σ H R ⟨P, q, w⟩ => ⟨_, q, fun x H1 z => ⟨_, z, fun y H2 z2 => by
    split at z2
    · exact ⟨_, _, rfl, z2.1, w _ _ _ z2.2 feeds_range⟩
    · exact z2.elim⟩⟩
/-- enumerate(list) -/
def numd : Nat → List V → List (V × V)
  | _, [] => []
  | i, x :: r => (.int (i : Int), x) :: numd (i + 1) r
theorem numd_get : ∀ {k : Nat} {xs : List V} {i : Nat}, (numd k xs)[i]? = xs[i]?.map fun x => (V.int ((k + i : Nat) : Int), x)
  | _, [], _ => by simp [numd]
  | k, x :: r, 0 => by simp [numd]
  | k, x :: r, i + 1 => by
    have := numd_get (k := k + 1) (xs := r) (i := i)
    simp only [numd, List.getElem?_cons_succ, this]
    congr 1
    funext z
    congr 3
    omega
theorem numd_len : ∀ {k : Nat} {xs : List V}, (numd k xs).length = xs.length
  | _, [] => rfl
  | k, x :: r => by simp [numd, numd_len]
theorem feeds_enum {K : PySem.W.Frag} {a : Addr} {xs : List V} : Feeds (Ite K a) (.p (fun H => SqL K H a xs) (numd 0 xs)) := by
  show Walk _ (numd 0 xs).length _ _
  rw [numd_len]
  refine Walk.mono walk_enum (fun _ h => h) fun i H x H' _ _ ⟨T, y, z, h1, h2, h3, h4, h5⟩ => ⟨T, y, z, h1, h2, h3, ?_, ?_⟩
  · show (numd 0 xs)[i]?.map (·.1) = _
    have h5' : xs[i]? = some z := h5
    rw [numd_get, h5', ← h4]; simp
  · show (numd 0 xs)[i]?.map (·.2) = _
    have h5' : xs[i]? = some z := h5
    rw [numd_get, h5']; simp
def mEnum (K : PySem.W.Frag) (ta : TE) : MI := fun σ H P => ta σ H fun x H1 => match x with
  | .ref a => ∃ xs, SqL K H1 a xs ∧ P (.p (fun H => SqL K H a xs) (numd 0 xs)) H1
  | _ => False
theorem pi_enumM {e : Expr} {ta : TE} {p pos tpos : Pos} {elts : List Expr} {kk : Nat} (hg : Gl X "enumerate") (hm : X.mg "enumerate" = none) (ha : PE X e ta) (hs : starEach [e] X.env = [(false, eval e X.env)] := by rfl) :
    PI X (.Tuple elts kk tpos) (.Call (.Name "enumerate" p) [e] [] pos) (toTI (mEnum X.K ta)) :=
  pi_imp (pi_enum hg hm (pa_cons (pe_cl ha) pa_nil hs) hs) fun σ H R ⟨P, q, w⟩ => ⟨_, q, fun x H1 z => by
    cases x with
    | ref a => obtain ⟨xs, h, z⟩ := z; exact ⟨a, xs, rfl, h, w _ _ _ z feeds_enum⟩
    | _ => exact z.elim⟩
/-- zip(list, list) -/
theorem feeds_zip {K : PySem.W.Frag} {a b : Addr} {xs ys : List V} : Feeds (Itz K a b) (.p (fun H => SqL K H a xs ∧ SqL K H b ys) (xs.zip ys)) := by
  show Walk _ (xs.zip ys).length _ _
  rw [List.length_zip]
  refine Walk.mono (walk_zip rfl) (fun _ h => h) fun i H x H' _ _ ⟨T, y, z, h1, h2, h3, h4, h5⟩ => ⟨T, y, z, h1, h2, h3, ?_, ?_⟩
  · show (xs.zip ys)[i]?.map (·.1) = _
    have h4' : xs[i]? = some y := h4
    have h5' : ys[i]? = some z := h5
    rw [show (xs.zip ys)[i]? = some (y, z) from List.getElem?_zip_eq_some.mpr ⟨h4', h5'⟩]; rfl
  · show (xs.zip ys)[i]?.map (·.2) = _
    have h4' : xs[i]? = some y := h4
    have h5' : ys[i]? = some z := h5
    rw [show (xs.zip ys)[i]? = some (y, z) from List.getElem?_zip_eq_some.mpr ⟨h4', h5'⟩]; rfl
def mZip (K : PySem.W.Frag) (ta tb : TE) : MI := fun σ H P => ta σ H fun x H1 => tb σ H1 fun y H2 => match x, y with
  | .ref a, .ref b => ∃ xs ys, SqL K H2 a xs ∧ SqL K H2 b ys ∧ P (.p (fun H => SqL K H a xs ∧ SqL K H b ys) (xs.zip ys)) H2
  | _, _ => False
theorem pi_zipM {e e2 : Expr} {ta tb : TE} {p pos tpos : Pos} {elts : List Expr} {kk : Nat} (hg : Gl X "zip") (hm : X.mg "zip" = none) (ha : PE X e ta) (hb : PE X e2 tb)
    (hs : starEach [e, e2] X.env = (false, eval e X.env) :: starEach [e2] X.env := by rfl) (hs2 : starEach [e2] X.env = [(false, eval e2 X.env)] := by rfl) (hpl : (backTo pos (starEach [e2] X.env)).any (·.1) = false := by rfl) :
    PI X (.Tuple elts kk tpos) (.Call (.Name "zip" p) [e, e2] [] pos) (toTI (mZip X.K ta tb)) :=
  pi_imp (pi_zip hg hm (pa_cons (pe_cl ha) (pa_cons (pe_cl hb) pa_nil hs2) hs) hs hpl) fun σ H R ⟨P, q, w⟩ => ⟨_, q, fun x H1 z => ⟨_, z, fun y H2 z2 => by
    split at z2
    · obtain ⟨xs, ys, h1, h2, z2⟩ := z2
      exact ⟨_, _, xs, ys, rfl, h1, h2, w _ _ _ z2 feeds_zip⟩
    · exact z2.elim⟩⟩
end

/-! ### for -/
def fV (G : Hp → Prop) (g : TG) (tb : TS) (D : Ends) : List V → Sl → Hp → Prop
  | [], σ, H => G H ∧ D.nx σ H
  | x :: r, σ, H => G H ∧ g x σ H fun σ2 H2 => tb { D with nx := fV G g tb D r, ct := fV G g tb D r, bk := D.nx } σ2 H2
def fP (G : Hp → Prop) (g : TG) (tb : TS) (D : Ends) : List (V × V) → Sl → Hp → Prop
  | [], σ, H => G H ∧ D.nx σ H
  | x :: r, σ, H => G H ∧ ∀ T, H T = none → g (.ref T) σ (upd H T (.tup [x.1, x.2])) fun σ2 H2 => tb { D with nx := fP G g tb D r, ct := fP G g tb D r, bk := D.nx } σ2 H2
def mFor (wi : MI) (g : TG) (tb : TS) : TS := fun D σ H => wi σ H fun s H1 => match s with
  | .v G L => fV G g tb D L σ H1
  | .p G L => fP G g tb D L σ H1
theorem fV_G {G : Hp → Prop} {g : TG} {tb : TS} {D : Ends} {L : List V} {σ : Sl} {H : Hp} (h : fV G g tb D L σ H) : G H := by
  cases L <;> exact h.1
theorem fP_G {G : Hp → Prop} {g : TG} {tb : TS} {D : Ends} {L : List (V × V)} {σ : Sl} {H : Hp} (h : fP G g tb D L σ H) : G H := by
  cases L <;> exact h.1
theorem drop_at {α : Type} {L : List α} {i : Nat} {x : α} (h : L[i]? = some x) : L.drop i = x :: L.drop (i + 1) := by
  obtain ⟨hi, e⟩ := List.getElem?_eq_some_iff.mp h
  rw [← e]; exact List.drop_eq_getElem_cons hi
theorem ms_for {X : Cx} {tg iter : Expr} {body : List Stmt} {wi : MI} {g : TG} {tb : TS} {pos : Pos} (hp : PassesOwn (model X.prog X.w) X.A X.env X.xe) (hc : X.calm = true) (hi : PI X tg iter (toTI wi)) (hg : PG X tg g) (hb : PSs X body tb)
    (hs : ∀ x, foldedSetIterable iter X.env x = pure x := by intro _; rfl) : PS X (.For tg iter body [] pos) (mFor wi g tb) :=
  ps_imp (ps_for hp hc hi hg hb hs) fun D σ H q => ⟨_, q, fun s H1 J z f => by
    cases s with
    | v G L =>
      refine for_it f (fun i σ H => fV G g tb D (L.drop i) σ H) z (fun i σ H _ p => fV_G p) (fun i x σ H H' hi p y => ?_) (fun σ H p => ?_)
      · obtain ⟨e, hx⟩ := y
        subst e
        rw [drop_at hx] at p
        exact p.2
      · rw [List.drop_length] at p
        exact p.2
    | p G L =>
      refine for_it f (fun i σ H => fP G g tb D (L.drop i) σ H) z (fun i σ H _ p => fP_G p) (fun i x σ H H' hi p y => ?_) (fun σ H p => ?_)
      · obtain ⟨T, a, b, e1, e2, e3, e4, e5⟩ := y
        subst e1 e3
        have hx : L[i]? = some L[i] := List.getElem?_eq_getElem hi
        rw [drop_at hx] at p
        have q := p.2 T e2
        have e4' : L[i]?.map (·.1) = some a := e4
        have e5' : L[i]?.map (·.2) = some b := e5
        rw [hx] at e4' e5'
        cases e4'
        cases e5'
        exact q
      · rw [List.drop_length] at p
        exact p.2⟩
/-! ### comprehensions -/
def cV (G : Hp → Prop) (g : TG) (tt : TT) (te : TE) (vs : List Nat) (τ : Sl) (D : Addr) (Q : Hp → Prop) : List V → Hp → Prop
  | [], H => G H ∧ Q H
  | x :: r, H => G H ∧ g x τ H fun σ2 H2 => wipe σ2 vs = τ ∧ tt σ2 H2 fun b H3 => if b = true then te σ2 H3 fun y H4 => ∃ acc, H4 D = some (.lst acc) ∧ acc.length < sizeLine ∧ cV G g tt te vs τ D Q r (upd H4 D (.lst (acc ++ [y]))) else cV G g tt te vs τ D Q r H3
def cP (G : Hp → Prop) (g : TG) (tt : TT) (te : TE) (vs : List Nat) (τ : Sl) (D : Addr) (Q : Hp → Prop) : List (V × V) → Hp → Prop
  | [], H => G H ∧ Q H
  | x :: r, H => G H ∧ ∀ T, H T = none → g (.ref T) τ (upd H T (.tup [x.1, x.2])) fun σ2 H2 => wipe σ2 vs = τ ∧ tt σ2 H2 fun b H3 => if b = true then te σ2 H3 fun y H4 => ∃ acc, H4 D = some (.lst acc) ∧ acc.length < sizeLine ∧ cP G g tt te vs τ D Q r (upd H4 D (.lst (acc ++ [y]))) else cP G g tt te vs τ D Q r H3
def mLc (wi : MI) (g : TG) (tt : TT) (te : TE) (vs : List Nat) : TE := fun σ H Q => wi σ H fun s H1 => ∀ D, H1 D = none → match s with
  | .v G L => cV G g tt te vs (wipe σ vs) D (Q (.ref D)) L (upd H1 D (.lst []))
  | .p G L => cP G g tt te vs (wipe σ vs) D (Q (.ref D)) L (upd H1 D (.lst []))
theorem cV_G {G : Hp → Prop} {g : TG} {tt : TT} {te : TE} {vs : List Nat} {τ : Sl} {D : Addr} {Q : Hp → Prop} {L : List V} {H : Hp} (h : cV G g tt te vs τ D Q L H) : G H := by
  cases L <;> exact h.1
theorem cP_G {G : Hp → Prop} {g : TG} {tt : TT} {te : TE} {vs : List Nat} {τ : Sl} {D : Addr} {Q : Hp → Prop} {L : List (V × V)} {H : Hp} (h : cP G g tt te vs τ D Q L H) : G H := by
  cases L <;> exact h.1
theorem lc_toM {wi : MI} {g : TG} {tt : TT} {te : TE} {vs : List Nat} {σ : Sl} {H : Hp} {Q : VK} (q : mLc wi g tt te vs σ H Q) : tLc (toTI wi) g tt te vs σ H Q :=
  ⟨_, q, fun s H1 J z f D hD => by
    have z := z D hD
    cases s with
    | v G L =>
      refine lc_it f (fun i H => cV G g tt te vs (wipe σ vs) D (Q (.ref D)) (L.drop i) H) z (fun i H _ p => cV_G p) (fun i x H H' hi p y => ?_) (fun H p => ?_)
      · obtain ⟨e, hx⟩ := y
        subst e
        rw [drop_at hx] at p
        exact p.2
      · rw [List.drop_length] at p
        exact p.2
    | p G L =>
      refine lc_it f (fun i H => cP G g tt te vs (wipe σ vs) D (Q (.ref D)) (L.drop i) H) z (fun i H _ p => cP_G p) (fun i x H H' hi p y => ?_) (fun H p => ?_)
      · obtain ⟨T, a, b, e1, e2, e3, e4, e5⟩ := y
        subst e1 e3
        have hx : L[i]? = some L[i] := List.getElem?_eq_getElem hi
        rw [drop_at hx] at p
        have q := p.2 T e2
        have e4' : L[i]?.map (·.1) = some a := e4
        have e5' : L[i]?.map (·.2) = some b := e5
        rw [hx] at e4' e5'
        cases e4'
        cases e5'
        exact q
      · rw [List.drop_length] at p
        exact p.2⟩
section
variable {X : Cx}
theorem me_lc {elt tg iter : Expr} {ifs : List Expr} {scope : Scope} {own : List (Str × Nat)} {pos : Pos} {wi : MI} {g : TG} {tt : TT} {te : TE} (hc : X.calm = true) (hN : X.N.Nodup) (hi : PI X tg iter (toTI wi)) (ok : BlkOk X.N X.env.scope scope own)
    (hg : ∀ (s : Shared) (H : Hp) (C : Addr) (cl : List (Str × Addr)) (fp : List Addr), PG (X.blk s H scope (compEnvC scope cl C X.env) fp) tg g) (ht : ∀ (s : Shared) (H : Hp) (C : Addr) (cl : List (Str × Addr)) (fp : List Addr), PTs (X.blk s H scope (compEnvC scope cl C X.env) fp) ifs tt)
    (he : ∀ (s : Shared) (H : Hp) (C : Addr) (cl : List (Str × Addr)) (fp : List Addr), PE (X.blk s H scope (compEnvC scope cl C X.env) fp) elt te) (hs : ∀ x, foldedSetIterable iter X.env x = pure x := by intro _; rfl) :
    PE X (.ListComp elt [⟨tg, iter, ifs, 0⟩] scope pos) (mLc wi g tt te (own.map (·.2))) := pe_imp (pe_lc hc hN hi ok hg ht he hs) fun σ H Q q => lc_toM q
theorem ms_setLc {i : Nat} {y : Str} {py : Pos} {elt tg iter : Expr} {ifs : List Expr} {scope : Scope} {own : List (Str × Nat)} {pos spos : Pos} {wi : MI} {g : TG} {tt : TT} {te : TE} (hc : X.calm = true) (hN : X.N.Nodup) (hy : X.N[i]? = some y) (hyl : X.env.scope.names.lookup y = some .local)
    (hsw : swapsWith (.ListComp elt [⟨tg, iter, ifs, 0⟩] scope pos) (some (.Name y py)) spos.line X.env = pure true) (hi : PI X tg iter (toTI wi)) (ok : BlkOk X.N X.env.scope scope own)
    (hg : ∀ (s : Shared) (H : Hp) (C : Addr) (cl : List (Str × Addr)) (fp : List Addr), PG (X.blk s H scope (compEnvC scope cl C X.env) fp) tg g) (ht : ∀ (s : Shared) (H : Hp) (C : Addr) (cl : List (Str × Addr)) (fp : List Addr), PTs (X.blk s H scope (compEnvC scope cl C X.env) fp) ifs tt)
    (he : ∀ (s : Shared) (H : Hp) (C : Addr) (cl : List (Str × Addr)) (fp : List Addr), PE (X.blk s H scope (compEnvC scope cl C X.env) fp) elt te) (hs : ∀ x, foldedSetIterable iter X.env x = pure x := by intro _; rfl) :
    PS X (.Assign [.Name y py] (.ListComp elt [⟨tg, iter, ifs, 0⟩] scope pos) spos) (tAsg (mLc wi g tt te (own.map (·.2))) (gName i)) := ps_imp (ps_setLc hc hN hy hyl hsw hi ok hg ht he hs) fun D σ H q => lc_toM (Q := fun x H1 => gName i x σ H1 D.nx) q
end
/-! ### while -/
def whW (c : TT) (tb : TS) (D : Ends) : Nat → Sl → Hp → Prop
  | 0, _, _ => False
  | n + 1, σ, H => c σ H fun b H1 => if b = true then tb { D with nx := whW c tb D n, ct := whW c tb D n, bk := D.nx } σ H1 else D.nx σ H1
def mWhile (c : TT) (tb : TS) : TS := fun D σ H => ∃ n, whW c tb D n σ H
theorem ms_while {X : Cx} {c : Expr} {body : List Stmt} {tc : TT} {tb : TS} {pos : Pos} (hp : PassesOwn (model X.prog X.w) X.A X.env X.xe) (hc : PT X c tc) (hb : PSs X body tb) : PS X (.While c body [] pos) (mWhile tc tb) :=
  ps_imp (ps_while hp (pt_cl hc) hb) fun D σ H ⟨n, q⟩ => ⟨fun m σ H => whW tc tb D m σ H, ⟨n, q⟩, fun m σ H w => by
    cases m with
    | zero => exact w.elim
    | succ k =>
      refine ⟨_, w, fun b H1 z => ?_⟩
      cases b with
      | true => exact ⟨_, fun σ' H' y => ⟨k, Nat.lt_succ_self _, y⟩, z⟩
      | false => exact z⟩
end M

namespace M
open PySem PySem.Spec PyProof.Rows L2

/-! ### built-in functions -/
section
variable {X : Cx}
def mLen (K : PySem.W.Frag) : List V → Hp → VK → Prop := fun xs H Q => match xs with
  | [.str z] => z.length ≤ sizeLine ∧ Q (.int z.length) H
  | [.ref p] => ∃ ys, (SqL K H p ys ∨ SqT K H p ys) ∧ Q (.int ys.length) H
  | _ => False
theorem call_lenM : CallR X (.builtin "len") (mLen X.K) := callR_imp (call_len_seq.or call_len_str) fun xs H Q q => by
  unfold mLen at q
  split at q
  · exact .inr ⟨_, rfl, q⟩
  · obtain ⟨ys, h, q⟩ := q
    exact .inl ⟨_, ys, rfl, h, q⟩
  · exact q.elim
def mInt : List V → Hp → VK → Prop := fun xs H Q => match xs with
  | [.int i] => Q (.int i) H
  | [.bl k] => Q (.int (if k then 1 else 0)) H
  | _ => False
theorem call_intM : CallR X (.type "int") mInt := callR_imp call_int1 fun xs H Q q => by
  unfold mInt at q
  split at q
  · exact .inl ⟨_, rfl, q⟩
  · exact .inr ⟨_, rfl, q⟩
  · exact q.elim
def mStr : List V → Hp → VK → Prop := fun xs H Q => match xs with
  | [.str i] => Q (.str i) H
  | _ => False
theorem call_strM : CallR X (.type "str") mStr := callR_imp SkE.call_str_str fun xs H Q q => by
  unfold mStr at q
  split at q
  · exact ⟨_, rfl, q⟩
  · exact q.elim
def mMax : List V → Hp → VK → Prop := fun xs H Q => match xs with
  | [.int i, .int j] => Q (.int (max i j)) H
  | _ => False
theorem call_maxM (hc : X.calm = true) : CallR X (.builtin "max") mMax := callR_imp (call_max2 hc) fun xs H Q q => by
  unfold mMax at q
  split at q
  · rename_i i j
    refine ⟨i, j, rfl, ?_⟩
    have e : max i j = if j > i then j else i := by split <;> omega
    rw [← e]; exact q
  · exact q.elim
def mMin : List V → Hp → VK → Prop := fun xs H Q => match xs with
  | [.int i, .int j] => Q (.int (min i j)) H
  | _ => False
theorem call_minM (hc : X.calm = true) : CallR X (.builtin "min") mMin := callR_imp (call_min2 hc) fun xs H Q q => by
  unfold mMin at q
  split at q
  · rename_i i j
    refine ⟨i, j, rfl, ?_⟩
    have e : min i j = if j < i then j else i := by split <;> omega
    rw [← e]; exact q
  · exact q.elim
def mAbs : List V → Hp → VK → Prop := fun xs H Q => match xs with
  | [.int i] => Q (.int (i.natAbs : Int)) H
  | _ => False
theorem call_absM : CallR X (.builtin "abs") mAbs := callR_imp call_abs fun xs H Q q => by
  unfold mAbs at q
  split at q
  · rename_i i
    refine ⟨i, rfl, ?_⟩
    have e : (i.natAbs : Int) = if i < 0 then -i else i := by split <;> omega
    rw [← e]; exact q
  · exact q.elim
def mSum (K : PySem.W.Frag) : List V → Hp → VK → Prop := fun xs H Q => match xs with
  | [.ref a] => ∃ ns : List Int, SqL K H a (ns.map V.int) ∧ Q (.int ns.sum) H
  | _ => False
theorem call_sumM (hc : X.calm = true) : CallR X (.builtin "sum") (mSum X.K) := callR_imp (cr_sum hc) fun xs H Q q => by
  unfold mSum at q
  split at q
  · obtain ⟨ns, h, q⟩ := q
    exact ⟨_, ns, rfl, h, q⟩
  · exact q.elim
def mMaxL (K : PySem.W.Frag) : List V → Hp → VK → Prop := fun xs H Q => match xs with
  | [.ref a] => ∃ ns : List Int, SqL K H a (ns.map V.int) ∧ 0 < ns.length ∧ ∀ m, m ∈ ns → (∀ y, y ∈ ns → y ≤ m) → Q (.int m) H
  | _ => False
theorem call_maxLM (hc : X.calm = true) : CallR X (.builtin "max") (mMaxL X.K) := callR_imp (cr_max hc) fun xs H Q q => by
  unfold mMaxL at q
  split at q
  · obtain ⟨ns, h, q⟩ := q
    exact ⟨_, ns, rfl, h, q⟩
  · exact q.elim
def mMinL (K : PySem.W.Frag) : List V → Hp → VK → Prop := fun xs H Q => match xs with
  | [.ref a] => ∃ ns : List Int, SqL K H a (ns.map V.int) ∧ 0 < ns.length ∧ ∀ m, m ∈ ns → (∀ y, y ∈ ns → m ≤ y) → Q (.int m) H
  | _ => False
theorem call_minLM (hc : X.calm = true) : CallR X (.builtin "min") (mMinL X.K) := callR_imp (cr_min hc) fun xs H Q q => by
  unfold mMinL at q
  split at q
  · obtain ⟨ns, h, q⟩ := q
    exact ⟨_, ns, rfl, h, q⟩
  · exact q.elim
def mList (K : PySem.W.Frag) : List V → Hp → VK → Prop := fun xs H Q => match xs with
  | [.ref p] => ∃ ys, (SqL K H p ys ∨ SqT K H p ys) ∧ ∀ l, H l = none → Q (.ref l) (upd H l (.lst ys))
  | _ => False
theorem call_listM : CallR X (.type "list") (mList X.K) := callR_imp call_list_of fun xs H Q q => by
  unfold mList at q
  split at q
  · obtain ⟨ys, h, q⟩ := q
    exact ⟨_, ys, rfl, h, q⟩
  · exact q.elim
/-! isinstance(x, T) -/
def tyN : V → Option String
  | .str _ => some "str"
  | .int _ => some "int"
  | .bl _ => some "bool"
  | .non => some "NoneType"
  | _ => none
def mIsi (K : PySem.W.Frag) : List V → Hp → VK → Prop := fun xs H Q => match xs with
  | [x, .ty T] => match tyN x with
    | some n => (match kitB n T with
      | some b => Q (.bl b) H
      | none => False)
    | none => ∃ t b, TyX K H x t ∧ PySem.W.kitOne K t (.type T) = some b ∧ Q (.bl b) H
  | [x, .ref C] => ∃ t b, TyX K H x t ∧ PySem.W.kitOne K t (.ref C) = some b ∧ Q (.bl b) H
  | _ => False
theorem tyN_ok {K : PySem.W.Frag} {H : Hp} {x : V} {n : String} (h : tyN x = some n) : TyX K H x (.type n) := by
  cases x with
  | str z => cases h; exact .base (.str z)
  | int z => cases h; exact .base (.int z)
  | bl z => cases h; exact .base (.bl z)
  | non => cases h; exact .base .non
  | _ => cases h
theorem call_isiM : CallR X (.builtin "isinstance") (mIsi X.K) := callR_imp call_isi fun xs H Q q => by
  unfold mIsi at q
  split at q
  · rename_i x T
    cases e : tyN x with
    | some n =>
      rw [e] at q
      cases e2 : kitB n T with
      | none => simp only [e2] at q
      | some b => simp only [e2] at q; exact ⟨x, .ty T, _, _, b, rfl, .ty T, tyN_ok e, kit_ty e2, q⟩
    | none =>
      rw [e] at q
      obtain ⟨t, b, h1, h2, q⟩ := q
      exact ⟨x, .ty T, t, _, b, rfl, .ty T, h1, h2, q⟩
  · obtain ⟨t, b, h1, h2, q⟩ := q
    exact ⟨_, _, t, _, b, rfl, .own _, h1, h2, q⟩
  · exact q.elim
theorem kb1 : kitB "str" "str" = some true := by decide +kernel
theorem kb2 : kitB "str" "int" = some false := by decide +kernel
theorem kb3 : kitB "str" "bool" = some false := by decide +kernel
theorem kb4 : kitB "str" "list" = some false := by decide +kernel
theorem kb5 : kitB "str" "tuple" = some false := by decide +kernel
theorem kb6 : kitB "int" "str" = some false := by decide +kernel
theorem kb7 : kitB "int" "int" = some true := by decide +kernel
theorem kb8 : kitB "int" "bool" = some false := by decide +kernel
theorem kb9 : kitB "int" "list" = some false := by decide +kernel
theorem kb10 : kitB "int" "tuple" = some false := by decide +kernel
theorem kb11 : kitB "bool" "str" = some false := by decide +kernel
theorem kb12 : kitB "bool" "int" = some true := by decide +kernel
theorem kb13 : kitB "bool" "bool" = some true := by decide +kernel
theorem kb14 : kitB "bool" "list" = some false := by decide +kernel
theorem kb15 : kitB "bool" "tuple" = some false := by decide +kernel
theorem kb16 : kitB "NoneType" "str" = some false := by decide +kernel
theorem kb17 : kitB "NoneType" "int" = some false := by decide +kernel
theorem kb18 : kitB "NoneType" "bool" = some false := by decide +kernel
theorem kb19 : kitB "NoneType" "list" = some false := by decide +kernel
theorem kb20 : kitB "NoneType" "tuple" = some false := by decide +kernel
theorem tyX_list {K : PySem.W.Frag} {H : Hp} {a : Addr} {xs : List V} (h : SqL K H a xs) : TyX K H (.ref a) (.type "list") := by
  rcases h with h | ⟨o, its, n, h, c, _⟩
  · rcases h with h | ⟨o, h⟩
    · exact .base (.lst h)
    · exact .base (.frz h)
  · exact .kList h c
theorem tyX_tup {K : PySem.W.Frag} {H : Hp} {a : Addr} {xs : List V} (h : SqT K H a xs) : TyX K H (.ref a) (.type "tuple") := by
  rcases h with h | ⟨o, its, n, h, c, _⟩
  · rcases h with h | ⟨o, h⟩
    · exact .base (.tup h)
    · exact .fTuple h
  · exact .kTuple h c
theorem ki_list {K : PySem.W.Frag} : PySem.W.kitOne K (.type "list") (.type "str") = some false ∧ PySem.W.kitOne K (.type "list") (.type "int") = some false ∧ PySem.W.kitOne K (.type "list") (.type "bool") = some false ∧ PySem.W.kitOne K (.type "list") (.type "list") = some true ∧ PySem.W.kitOne K (.type "list") (.type "tuple") = some false :=
  ⟨kit_ty (by decide +kernel), kit_ty (by decide +kernel), kit_ty (by decide +kernel), kit_ty (by decide +kernel), kit_ty (by decide +kernel)⟩
theorem ki_tup {K : PySem.W.Frag} : PySem.W.kitOne K (.type "tuple") (.type "str") = some false ∧ PySem.W.kitOne K (.type "tuple") (.type "int") = some false ∧ PySem.W.kitOne K (.type "tuple") (.type "bool") = some false ∧ PySem.W.kitOne K (.type "tuple") (.type "list") = some false ∧ PySem.W.kitOne K (.type "tuple") (.type "tuple") = some true :=
  ⟨kit_ty (by decide +kernel), kit_ty (by decide +kernel), kit_ty (by decide +kernel), kit_ty (by decide +kernel), kit_ty (by decide +kernel)⟩
theorem ki_dict {K : PySem.W.Frag} : PySem.W.kitOne K (.type "dict") (.type "str") = some false ∧ PySem.W.kitOne K (.type "dict") (.type "int") = some false ∧ PySem.W.kitOne K (.type "dict") (.type "bool") = some false ∧ PySem.W.kitOne K (.type "dict") (.type "list") = some false ∧ PySem.W.kitOne K (.type "dict") (.type "tuple") = some false :=
  ⟨kit_ty (by decide +kernel), kit_ty (by decide +kernel), kit_ty (by decide +kernel), kit_ty (by decide +kernel), kit_ty (by decide +kernel)⟩
/-- a built-in class as a value -/
theorem me_ty {x : Str} (T : String) {pos : Pos} (hg : Gl X x) (hm : X.mg x = none) (hv : bootBuiltins x = some (.type T)) (hn : x ≠ "__name__" := by decide) (hd : (x == ("__debug__" : Str)) = false := by decide) : PE X (.Name x pos) (mC (.ty T)) := pe_bltn hg hm hv rfl hn hd
end

/-! ### methods of texts and lists -/
section
variable {X : Cx} {o e : Expr} {to te : TE} {apos pos : Pos}
def mBits (to : TE) : TE := fun σ H Q => to σ H fun x H1 => match x with
  | .int i => Q (.int (Builtin.Int.intBits i : Nat)) H1
  | _ => False
theorem me_bits (ho : PE X o to) (hbase : attributeBase o "bit_length" X.env (eval o X.env) = eval o X.env := by rfl) (hline : (apos.endLine == pos.line) = true := by rfl) : PE X (.Call (.Attribute o "bit_length" apos) [] [] pos) (mBits to) :=
  pe_imp (pe_bits (pe_cl ho) hbase hline) fun σ H Q q => ⟨_, q, fun x H1 z => by
    cases x with
    | int i => exact ⟨i, rfl, z⟩
    | _ => exact z.elim⟩
def mStrM (r : Str → V → Hp → VK → Prop) (to te : TE) : TE := fun σ H Q => to σ H fun x H1 => match x with
  | .str a => te σ H1 fun y H2 => r a y H2 Q
  | _ => False
theorem me_m1 {id : String} {name : Str} {r : Str → V → Hp → VK → Prop} (slot : Slot "str" name id) (ty : typeOf (.builtin id) = pure (.type "method_descriptor")) (rule : MtR X id (fun x xs H Q => ∃ a y, x = .str a ∧ xs = [y] ∧ r a y H Q)) (ho : PE X o to) (he : PE X e te)
    (hs : starEach [e] X.env = [(false, eval e X.env)] := by rfl) (hbase : attributeBase o name X.env (eval o X.env) = eval o X.env := by rfl) (hline : (apos.endLine == pos.line) = true := by rfl) :
    PE X (.Call (.Attribute o name apos) [e] [] pos) (mStrM r to te) :=
  pe_imp (pe_m1 slot ty rule (pe_cl ho) (pe_cl he) hs hbase hline) fun σ H Q q => ⟨_, q, fun x H1 z => by
    cases x with
    | str a => exact ⟨⟨a, rfl⟩, _, z, fun y H2 w => ⟨a, y, rfl, rfl, w⟩⟩
    | _ => exact z.elim⟩
def mJoin (K : PySem.W.Frag) : Str → V → Hp → VK → Prop := fun a y H Q => match y with
  | .ref p => ∃ ys : List Str, (SqL K H p (ys.map V.str) ∨ SqT K H p (ys.map V.str)) ∧ (ys.map (·.length)).sum + ys.length * a.length ≤ 16777216 ∧ Q (.str (Txt.join a ys)) H
  | _ => False
theorem mt_joinM : MtR X "str.join" (fun x xs H Q => ∃ a y, x = .str a ∧ xs = [y] ∧ mJoin X.K a y H Q) := fun pins s σ H x xs v us Q I rx rs ⟨a, y, e1, e2, q⟩ => by
  unfold mJoin at q
  split at q
  · obtain ⟨ys, h1, h2, q⟩ := q
    exact mt_join pins s σ H x xs v us Q I rx rs ⟨a, _, ys, e1, e2, h1, h2, q⟩
  · exact q.elim
def mCount : Str → V → Hp → VK → Prop := fun a y H Q => match y with
  | .str b => Q (.int (Txt.count a b)) H
  | _ => False
theorem mt_countM : MtR X "str.count" (fun x xs H Q => ∃ a y, x = .str a ∧ xs = [y] ∧ mCount a y H Q) := fun pins s σ H x xs v us Q I rx rs ⟨a, y, e1, e2, q⟩ => by
  unfold mCount at q
  split at q
  · exact mt_count pins s σ H x xs v us Q I rx rs ⟨a, _, e1, e2, q⟩
  · exact q.elim
def mSplit : Str → V → Hp → VK → Prop := fun a y H Q => match y with
  | .str b => (b.length == 0) = false ∧ a.length + 2 ≤ sizeLine ∧ ∀ p, H p = none → Q (.ref p) (upd H p (.lst ((Txt.split a b).map V.str)))
  | _ => False
theorem mt_splitM : MtR X "str.split" (fun x xs H Q => ∃ a y, x = .str a ∧ xs = [y] ∧ mSplit a y H Q) := fun pins s σ H x xs v us Q I rx rs ⟨a, y, e1, e2, q⟩ => by
  unfold mSplit at q
  split at q
  · exact mt_split pins s σ H x xs v us Q I rx rs ⟨a, _, e1, e2, q.1, q.2.1, q.2.2⟩
  · exact q.elim
theorem me_join (ho : PE X o to) (he : PE X e te) (hs : starEach [e] X.env = [(false, eval e X.env)] := by rfl) (hbase : attributeBase o "join" X.env (eval o X.env) = eval o X.env := by rfl) (hline : (apos.endLine == pos.line) = true := by rfl) :
    PE X (.Call (.Attribute o "join" apos) [e] [] pos) (mStrM (mJoin X.K) to te) := me_m1 PySem.F.slot_str_join PySem.F.type_str_join mt_joinM ho he hs hbase hline
theorem me_count (ho : PE X o to) (he : PE X e te) (hs : starEach [e] X.env = [(false, eval e X.env)] := by rfl) (hbase : attributeBase o "count" X.env (eval o X.env) = eval o X.env := by rfl) (hline : (apos.endLine == pos.line) = true := by rfl) :
    PE X (.Call (.Attribute o "count" apos) [e] [] pos) (mStrM mCount to te) := me_m1 PySem.F.slot_str_count PySem.F.type_str_count mt_countM ho he hs hbase hline
theorem me_split (ho : PE X o to) (he : PE X e te) (hs : starEach [e] X.env = [(false, eval e X.env)] := by rfl) (hbase : attributeBase o "split" X.env (eval o X.env) = eval o X.env := by rfl) (hline : (apos.endLine == pos.line) = true := by rfl) :
    PE X (.Call (.Attribute o "split" apos) [e] [] pos) (mStrM mSplit to te) := me_m1 PySem.F.slot_str_split PySem.F.type_str_split mt_splitM ho he hs hbase hline
/-- a list's method: the receiver a list that stands in H -/
def mLstM (r : Addr → List V → List V → Hp → VK → Prop) (to : TE) (t : TA) : TE := fun σ H Q => to σ H fun x H1 => match x with
  | .ref l => (∃ ys, H1 l = some (.lst ys)) ∧ t σ H1 fun vs H2 => ∃ xs, H2 l = some (.lst xs) ∧ r l xs vs H2 Q
  | _ => False
def mApp : Addr → List V → List V → Hp → VK → Prop := fun l xs vs H Q => match vs with
  | [y] => xs.length < sizeLine ∧ Q .non (upd H l (.lst (xs ++ [y])))
  | _ => False
def mPop : Addr → List V → List V → Hp → VK → Prop := fun l xs vs H Q => match vs with
  | [] => ∃ y, xs.getLast? = some y ∧ Q y (upd H l (.lst xs.dropLast))
  | _ => False
def mClear : Addr → List V → List V → Hp → VK → Prop := fun l xs vs H Q => match vs with
  | [] => Q .non (upd H l (.lst []))
  | _ => False
theorem me_append (ho : PE X o to) (he : PE X e te) (hbase : attributeBase o "append" X.env (eval o X.env) = eval o X.env := by rfl)
    (hfew : ((backTo pos (starEach [e] X.env)).all (fun x => !x.1) && (backToKw pos (keywordEach [] X.env)).all (fun x => x.1.isSome) && decide (([e] : List Expr).length + ([] : List Keyword).length + (if ([] : List Keyword).isEmpty then 0 else 1) < 30)) = true := by rfl)
    (hline : (apos.endLine == pos.line) = true := by rfl) (hs : starEach [e] X.env = (false, eval e X.env) :: starEach [] X.env := by rfl) (hplain : (backTo pos (starEach [] X.env)).any (·.1) = false := by rfl) :
    PE X (.Call (.Attribute o "append" apos) [e] [] pos) (mLstM mApp to (tCons te tNil)) :=
  pe_imp (pe_bm PySem.F.plainAttrs_list PySem.F.slot_list_append PySem.F.type_list_append mt_append (pe_cl ho) (pa_cons (pe_cl he) pa_nil hs) hbase hfew hline hs hplain) fun σ H Q q => ⟨_, q, fun x H1 z => by
    cases x with
    | ref l =>
      obtain ⟨⟨ys, h⟩, z⟩ := z
      exact ⟨.inl ⟨rfl, _, SqL.of h⟩, _, z, fun y H2 w => by
        obtain ⟨xs, h2, w⟩ := w
        exact ⟨l, xs, y, rfl, rfl, h2, w.1, w.2⟩⟩
    | _ => exact z.elim⟩
theorem last_at {α : Type} (xs : List α) : xs[xs.length - 1]? = xs.getLast? := by
  rw [List.getLast?_eq_getElem?]
theorem me_pop (ho : PE X o to) (hbase : attributeBase o "pop" X.env (eval o X.env) = eval o X.env := by rfl) (hline : (apos.endLine == pos.line) = true := by rfl) : PE X (.Call (.Attribute o "pop" apos) [] [] pos) (mLstM mPop to tNil) :=
  pe_imp (pe_bm0 PySem.F.plainAttrs_list PySem.F.slot_list_pop PySem.F.type_list_pop mt_pop (pe_cl ho) hbase hline) fun σ H Q q => ⟨_, q, fun x H1 z => by
    cases x with
    | ref l =>
      obtain ⟨⟨ys, h⟩, xs, h2, y, h3, z⟩ := z
      exact ⟨.inl ⟨rfl, _, SqL.of h⟩, l, xs, y, rfl, rfl, h2, by rw [last_at]; exact h3, z⟩
    | _ => exact z.elim⟩
theorem me_clear (ho : PE X o to) (hbase : attributeBase o "clear" X.env (eval o X.env) = eval o X.env := by rfl) (hline : (apos.endLine == pos.line) = true := by rfl) : PE X (.Call (.Attribute o "clear" apos) [] [] pos) (mLstM mClear to tNil) :=
  pe_imp (pe_bm0 PySem.F.plainAttrs_list PySem.F.slot_list_clear PySem.F.type_list_clear mt_clear (pe_cl ho) hbase hline) fun σ H Q q => ⟨_, q, fun x H1 z => by
    cases x with
    | ref l =>
      obtain ⟨⟨ys, h⟩, xs, h2, z⟩ := z
      exact ⟨.inl ⟨rfl, _, SqL.of h⟩, l, xs, rfl, rfl, h2, z⟩
    | _ => exact z.elim⟩
def mRev (K : PySem.W.Frag) (te : TE) : TE := fun σ H Q => te σ H fun x H1 => match x with
  | .ref a => ∃ xs, SqL K H1 a xs ∧ ∀ p, H1 p = none → Q (.ref p) (upd H1 p (.lst xs.reverse))
  | _ => False
theorem me_revL {k : Nat} {p1 p2 p3 pos : Pos} (he : PE X e te) : PE X (.Subscript e (.Slice none none (some (.UnaryOp .USub (.Constant (.int 1) k p1) p2)) p3) pos) (mRev X.K te) :=
  pe_imp (pe_revL (pe_cl he)) fun σ H Q q => ⟨_, q, fun x H1 z => by
    cases x with
    | ref a => obtain ⟨xs, h, z⟩ := z; exact ⟨a, xs, rfl, h, z⟩
    | _ => exact z.elim⟩
end

/-! ### heaps -/
/-- what stands at the addresses other than those of m stays -/
def Fm (m : List Addr) (H H' : Hp) : Prop := ∀ a o, a ∉ m → H a = some o → H' a = some o
abbrev Ex (H H' : Hp) : Prop := ∀ a o, H a = some o → H' a = some o
theorem Ex.refl (H : Hp) : Ex H H := fun _ _ h => h
theorem Ex.trans {H H1 H2 : Hp} (a : Ex H H1) (b : Ex H1 H2) : Ex H H2 := fun x o h => b x o (a x o h)
theorem Ex.new {H : Hp} {p : Addr} {o : HO} (h : H p = none) : Ex H (upd H p o) := fun a u e => by
  rw [upd_ne (ne_of_none e h)]; exact e
theorem Ex.push {H H' : Hp} {p : Addr} {o : HO} (e : Ex H H') (h : H' p = none) : Ex H (upd H' p o) := e.trans (Ex.new h)
/-- an object that H does not know may change -/
theorem Ex.mut {H H' : Hp} {p : Addr} {o : HO} (e : Ex H H') (h : H p = none) : Ex H (upd H' p o) := fun a u ha => by
  rw [upd_ne (ne_of_none ha h)]; exact e a u ha
theorem Ex.free {H H' : Hp} {p : Addr} (e : Ex H H') (h : H' p = none) : H p = none := by
  cases h1 : H p with
  | none => rfl
  | some o => rw [e p o h1] at h; cases h
theorem ex_rd {H H' : Hp} {a : Addr} {u : HO} (e : Ex H H') (h : Rd H a u) : Rd H' a u := by
  rcases h with h | ⟨o, h⟩
  · exact .inl (e a _ h)
  · exact .inr ⟨o, e a _ h⟩
theorem Ex.L {K : PySem.W.Frag} {H H' : Hp} {a : Addr} {xs : List V} (e : Ex H H') (h : SqL K H a xs) : SqL K H' a xs := by
  rcases h with h | h
  · exact .inl (ex_rd e h)
  · exact .inr h
theorem Ex.T {K : PySem.W.Frag} {H H' : Hp} {a : Addr} {xs : List V} (e : Ex H H') (h : SqT K H a xs) : SqT K H' a xs := by
  rcases h with h | h
  · exact .inl (ex_rd e h)
  · exact .inr h
theorem sz_of {n : Nat} (h : n ≤ 10000000) : n ≤ sizeLine := Nat.le_trans h (by decide)
theorem sz_lt {n : Nat} (h : n < 10000000) : n < sizeLine := Nat.lt_of_lt_of_le h (by decide)
end M

namespace M
open PySem PySem.Spec PyProof.Rows L2

/-! ### more of tests and assignments -/
section
variable {X : Cx} {a b c : Expr} {ta tb tc : TE} {pos : Pos}
/-- is None, is True, is False -/
def mIs : R2 := fun x y H Q => match y with
  | .non => Q (.bl (isN x)) H
  | .bl k => (match x with
    | .bl j => Q (.bl (decide (j = k))) H
    | _ => False)
  | _ => False
def mNot : R2 := fun x y H Q => match y with
  | .non => Q (.bl (!isN x)) H
  | .bl k => (match x with
    | .bl j => Q (.bl (!decide (j = k))) H
    | _ => False)
  | _ => False
theorem op_isM : OpR X (compareOp .Is) mIs := opR_imp (op_isN.or op_isBl) fun x y H Q q => by
  unfold mIs at q
  split at q
  · exact .inl ⟨rfl, by rw [isN_eq]; exact q⟩
  · split at q
    · exact .inr ⟨_, _, rfl, rfl, q⟩
    · exact q.elim
  · exact q.elim
theorem op_notM : OpR X (compareOp .IsNot) mNot := opR_imp (op_notN.or op_notBl) fun x y H Q q => by
  unfold mNot at q
  split at q
  · exact .inl ⟨rfl, by rw [isN_eq]; exact q⟩
  · split at q
    · exact .inr ⟨_, _, rfl, rfl, q⟩
    · exact q.elim
  · exact q.elim
/-- a < b <= c -/
theorem chain_cl {r r' : R2} {σ : Sl} {H : Hp} {Q : VK} (q : mChain r r' ta tb tc σ H Q) : tChain (clR r) r' (cl ta) (cl tb) tc σ H Q :=
  ⟨_, q, fun x H1 q1 => ⟨_, q1, fun y H2 q2 => ⟨_, q2, fun z H3 q3 => by
    cases z with
    | bl k => cases k <;> exact ⟨_, rfl, q3⟩
    | _ => exact q3.elim⟩⟩⟩
theorem me_chain {op op' : CmpOp} {r r' : R2} (ho : OpR X (compareOp op) r) (ho' : OpR X (compareOp op') r') (ha : PE X a ta) (hb : PE X b tb) (hc : PE X c tc)
    (hm : lastMarks [op, op'] [b, c] = false := by with_unfolding_all rfl) : PE X (.Compare a [op, op'] [b, c] pos) (mChain r r' ta tb tc) :=
  pe_imp (pe_chain (opR_cl ho) ho' (pe_cl ha) (pe_cl hb) hc hm) fun σ H Q q => chain_cl q
def mTestC (r r' : R2) (ta tb tc : TE) : TT := fun σ H Q => mChain r r' ta tb tc σ H fun x H' => match x with
  | .bl k => Q k H'
  | _ => False
theorem mt_chain {op op' : CmpOp} {r r' : R2} (ho : OpR X (compareOp op) r) (ho' : OpR X (compareOp op') r') (ha : PE X a ta) (hb : PE X b tb) (hc : PE X c tc)
    (hm : lastMarks [op, op'] [b, c] = false := by with_unfolding_all rfl) : PT X (.Compare a [op, op'] [b, c] pos) (mTest (mChain r r' ta tb tc)) :=
  pt_imp (pt_chain (opR_cl ho) (opR_cl ho') (pe_cl ha) (pe_cl hb) (pe_cl hc) hm) fun σ H Q q => ⟨_, q, fun x H1 q1 => ⟨_, q1, fun y H2 q2 => ⟨_, q2, fun z H3 q3 => by
    cases z with
    | bl k =>
      cases k with
      | true => exact ⟨true, rfl, _, q3, fun w H4 q4 => ⟨_, q4, fun v H5 q5 => bX_of q5⟩⟩
      | false => exact ⟨false, rfl, false, rfl, q3⟩
    | _ => exact q3.elim⟩⟩⟩
/-- a, b, c = x, y, z -/
def mPar3 (i j l : Nat) (ta : TA) : TS := fun D σ H => ta σ H fun vs H1 => match vs with
  | [u, v, w] => D.nx (((σ.set i (some u)).set j (some v)).set l (some w)) H1
  | _ => False
theorem ms_par3 {i j l : Nat} {x y z : Str} {a b c : Expr} {ta : TA} {px py pz pt pos : Pos} {kt k2 pt2} (hc : X.calm = true) (hN : X.N.Nodup) (hi : X.N[i]? = some x) (hj : X.N[j]? = some y) (hl : X.N[l]? = some z) (hij : i ≠ j) (hil : i ≠ l) (hjl : j ≠ l)
    (hx : X.env.scope.names.lookup x = some .local) (hy : X.env.scope.names.lookup y = some .local) (hz : X.env.scope.names.lookup z = some .local) (ha : PA X [a, b, c] ta)
    (hw : swappedStores [.Tuple [.Name x px, .Name y py, .Name z pz] kt pt] (.Tuple [a, b, c] k2 pt2) X.env = pure (some [x, y, z]))
    (hs : swapsWithSole [.Tuple [.Name x px, .Name y py, .Name z pz] kt pt] (.Tuple [a, b, c] k2 pt2) pos.line X.env = pure false := by rfl) :
    PS X (.Assign [.Tuple [.Name x px, .Name y py, .Name z pz] kt pt] (.Tuple [a, b, c] k2 pt2) pos) (mPar3 i j l ta) :=
  ps_imp (ps_par3 hc hN hi hj hl hij hil hjl hx hy hz (pa_cl ha) hw hs) fun D σ H q => ⟨_, q, fun vs H1 z => by
    split at z
    · exact ⟨_, _, _, rfl, z⟩
    · exact z.elim⟩
end

/-! ### a def that may be called: where it stands, its promise -/
structure Cal (P : Program) (w : World) (K : PySem.W.Frag) (mg : Str → Option Value) (base : Heap) (CX : CXT) (x : Str) (k : Nat) (ps : List Str) (dvs : List V) (sp : Sp) : Prop where
  ex : ∃ f fd ds, FnOk P w K mg base CX k f fd ps sp ∧ mg x = some (.ref f) ∧ PySem.W.keepIn K (.ref f) = true ∧ Binds K fd ps ds ∧ Vals dvs ds
section
variable {X : Cx} {CX : CXT} {k : Nat} {ps : List Str} {sp : Sp} {dvs : List V} {E : XK} {x : Str} {p pos : Pos} {e : Expr} {es : List Expr} {t : TA}
theorem me_call (C : Cal X.prog X.w X.K X.mg X.base CX x k ps dvs sp) (hr : Room k X.A) (hg : Gl X x) (hx : Passes CX X E) (ha : PA X (e :: es) t) (hdb : (x == ("__debug__" : Str)) = false := by decide)
    (he : starEach (e :: es) X.env = (false, eval e X.env) :: starEach es X.env := by rfl) (hpl : (backTo pos (starEach es X.env)).any (·.1) = false := by rfl) : PE X (.Call (.Name x p) (e :: es) [] pos) (tCall sp dvs E t) := by
  obtain ⟨f, fd, ds, F, hm, hk, hb, hd⟩ := C.ex
  exact pe_call F hr hg hm hk hb hd hx ha hdb he hpl
theorem me_call0 (C : Cal X.prog X.w X.K X.mg X.base CX x k ps dvs sp) (hr : Room k X.A) (hg : Gl X x) (hx : Passes CX X E) (hdb : (x == ("__debug__" : Str)) = false := by decide) : PE X (.Call (.Name x p) [] [] pos) (tCall sp dvs E tNil) := by
  obtain ⟨f, fd, ds, F, hm, hk, hb, hd⟩ := C.ex
  first
    | exact pe_call0 F hr hg hm hk hb hd hx hdb
    | exact pe_call0 F hr hg hm hk hb hd hx
end
section
variable {P : Program} {w : World} {K : PySem.W.Frag} {mg : Str → Option Value} {base : Heap} {CX : CXT} {x : Str} {k j : Nat} {ps : List Str} {dvs : List V} {sp sp' : Sp}
theorem Cal.mono (C : Cal P w K mg base CX x k ps dvs sp) (h : k ≤ j) : Cal P w K mg base CX x j ps dvs sp := by
  obtain ⟨f, fd, ds, F, r⟩ := C.ex
  exact ⟨f, fd, ds, F.mono h, r⟩
theorem Cal.imp (C : Cal P w K mg base CX x k ps dvs sp) (h : ∀ vs H Q E, sp' vs H Q E → sp vs H Q E) : Cal P w K mg base CX x k ps dvs sp' := by
  obtain ⟨f, fd, ds, F, r⟩ := C.ex
  exact ⟨f, fd, ds, F.imp h, r⟩
/-- nothing can be asked with no call left -/
theorem FnOk.zero {f : Addr} {fd : FuncData} {sp : Sp} (no : ∀ vs H Q E, ¬ sp vs H Q E) : FnOk P w K mg base CX 0 f fd ps sp :=
  ⟨fun vs H Q E h => absurd h (no vs H Q E), fun A outer s H args us vs Q E _ _ _ _ h => absurd h (no vs H Q E)⟩
end
end M

namespace M
open PySem PySem.Spec PyProof.Rows L2

/-! ### x in (a, b, ..), written -/
def flB : V → Bool
  | .str _ => true
  | .int _ => true
  | .bl _ => true
  | .non => true
  | _ => false
theorem flB_ok {v : V} (h : flB v = true) : flatV v = true := by cases v <;> first | rfl | cases h
def mInT (neg : Bool) (te : TE) (ta : TA) : TE := fun σ H Q => te σ H fun x H1 => ta σ H1 fun ys H2 => flB x = true ∧ ys.all flB = true ∧ ys.length ≤ sizeLine ∧ ∀ p, H2 p = none → Q (.bl (if neg then !inV x ys else inV x ys)) (upd H2 p (.tup ys))
def mInTT (neg : Bool) (te : TE) (ta : TA) : TT := fun σ H Q => te σ H fun x H1 => ta σ H1 fun ys H2 => flB x = true ∧ ys.all flB = true ∧ ys.length ≤ sizeLine ∧ ∀ p, H2 p = none → Q (if neg then !inV x ys else inV x ys) (upd H2 p (.tup ys))
section
variable {X : Cx} {a : Expr} {es : List Expr} {ta : TE} {t : TA} {pos ps : Pos} {kk : Nat}
theorem all_fl {ys : List V} (h : ys.all flB = true) : ys.all flatV = true := by
  rw [List.all_eq_true] at *
  exact fun v hv => flB_ok (h v hv)
theorem inT_at {K : PySem.W.Frag} {x : V} {ys : List V} {H2 : Hp} {p : Addr} {neg : Bool} {Q : VK} (h1 : flB x = true) (h2 : ys.all flB = true) (q : Q (.bl (if neg then !inV x ys else inV x ys)) (upd H2 p (.tup ys))) : rIn K neg x (.ref p) (upd H2 p (.tup ys)) Q :=
  ⟨p, ys, rfl, .inr (SqT.of upd_same), flB_ok h1, all_fl h2, q⟩
theorem me_inT (ha : PE X a ta) (hb : PA X es t) (hm : behindInMarks .In (.Tuple es kk ps) = false := by rfl) : PE X (.Compare a [.In] [.Tuple es kk ps] pos) (mInT false ta t) :=
  pe_imp (pe_cmpR op_in_seq (pe_cl ha) (pe_tup (pa_cl hb)) hm) fun σ H Q q => ⟨_, q, fun x H1 q1 => ⟨_, q1, fun ys H2 ⟨h1, h2, h3, q2⟩ => ⟨h3, fun p hp => inT_at h1 h2 (q2 p hp)⟩⟩⟩
theorem me_ninT (ha : PE X a ta) (hb : PA X es t) (hm : behindInMarks .NotIn (.Tuple es kk ps) = false := by rfl) : PE X (.Compare a [.NotIn] [.Tuple es kk ps] pos) (mInT true ta t) :=
  pe_imp (pe_cmpR op_notIn_seq (pe_cl ha) (pe_tup (pa_cl hb)) hm) fun σ H Q q => ⟨_, q, fun x H1 q1 => ⟨_, q1, fun ys H2 ⟨h1, h2, h3, q2⟩ => ⟨h3, fun p hp => inT_at h1 h2 (q2 p hp)⟩⟩⟩
theorem mt_inT (ha : PE X a ta) (hb : PA X es t) (hm : behindInMarks .In (.Tuple es kk ps) = false := by rfl) : PT X (.Compare a [.In] [.Tuple es kk ps] pos) (mInTT false ta t) :=
  pt_imp (pt_cmpR op_in_seq (pe_cl ha) (pe_tup (pa_cl hb)) hm) fun σ H Q q => ⟨_, q, fun x H1 q1 => ⟨_, q1, fun ys H2 ⟨h1, h2, h3, q2⟩ => ⟨h3, fun p hp => inT_at h1 h2 ⟨_, rfl, q2 p hp⟩⟩⟩⟩
theorem mt_ninT (ha : PE X a ta) (hb : PA X es t) (hm : behindInMarks .NotIn (.Tuple es kk ps) = false := by rfl) : PT X (.Compare a [.NotIn] [.Tuple es kk ps] pos) (mInTT true ta t) :=
  pt_imp (pt_cmpR op_notIn_seq (pe_cl ha) (pe_tup (pa_cl hb)) hm) fun σ H Q q => ⟨_, q, fun x H1 q1 => ⟨_, q1, fun ys H2 ⟨h1, h2, h3, q2⟩ => ⟨h3, fun p hp => inT_at h1 h2 ⟨_, rfl, q2 p hp⟩⟩⟩⟩
end
theorem inV_nil (x : V) : inV x [] = false := rfl
theorem inV_cons (x y : V) (r : List V) : inV x (y :: r) = (eqV y x || inV x r) := rfl
theorem eqV_SS (a b : List Nat) : eqV (.str (S a)) (.str (S b)) = decide (a = b) := by
  show decide (S a = S b) = _
  by_cases h : a = b
  · subst h; simp
  · have : ¬ S a = S b := fun z => h (S_inj.mp z)
    simp [h, this]
theorem eqV_II (a b : Int) : eqV (.int a) (.int b) = decide (a = b) := by
  show (_ : Bool) = _
  first | rfl | simp [eqV]
end M

/-! ### own errors: class C(TurnError) with __init__(self, fl=None): super().__init__(fl); self.fl = fl -/
namespace M
open PySem PySem.Spec PySem.W PySem.Calls PyProof.Rows PySem.HandSPX
def qp (q : List Pos) (i : Nat) : Pos := q.getD i ⟨0, 0, 0, 0⟩
def eiB (fl : Str) (q : List Pos) : List Stmt := [.Expr (.Call (.Attribute (.Call (.Name "super" (qp q 0)) [] [] (qp q 1)) "__init__" (qp q 2)) [.Name fl (qp q 3)] [] (qp q 4)) (qp q 5), .Assign [.Attribute (.Name "self" (qp q 6)) fl (qp q 7)] (.Name fl (qp q 8)) (qp q 9)]
section
variable {P : Program} {w : World} {A : Around} {E : Value → Shared → Prop} {h : Heap} {g : Array GenState} {d : Drawn} {t : Nat} {os : OsState}
variable {nm q : Str} {C N : Addr} {bs bm : List Value} {hdct : Bool} {sn : List Str} {sub : List Value} {ab : Bool} {col : Option Bool} {dd : Option Addr} {k0 k1 k2 k3 k5 : Option Value}
theorem call_mw {u e t0 : Addr} {rest : List Value} {Q : Value → Shared → Prop}
    (hC : h.get? C = some (excClassObj nm q C N bs bm hdct sn sub ab col dd k0 k1 k2 k3 k5 "ValueError.__new__")) (he : h.get? e = some (HandSPX.excO C t0)) (hu : h.get? u = some (kxs_mw "ValueError.__init__" e)) (hrest : rest.length ≤ sizeLine)
    (hq : ∀ h' t1, (∀ b o, b ≠ e → h.get? b = some o → h'.get? b = some o) → h'.get? e = some (HandSPX.excO C t1) → Q .none ⟨h', g, d, t, os⟩) :
    wpAny (model P w) A (call (.ref u) rest) Q E ⟨h, g, d, t, os⟩ := by
  refine wpAny_call (codeAny_of_tree ?_)
  show wpAny _ A.in1 (callAny (.ref u) ⟨rest, []⟩) _ _ _
  simp only [callAny]
  refine wpAny_bind (wpAny_load hu ?_)
  simp only [kxs_mw, show (Value.type "method-wrapper" == Value.type "method" || Value.type "method-wrapper" == Value.type "builtin_function_or_method" || Value.type "method-wrapper" == Value.type "method-wrapper") = true by decide, if_true]
  refine W.KFB.if_so (by decide) ?_
  refine wpAny_bind (check_bound_init F.excBase_ValueError.toExcCallFacts hC he rfl ?_)
  refine wpAny_bind (wpAny_pure (wpAny_pure ?_))
  refine ⟨plainId_quiet F.excBase_ValueError.init.plain _, codeAny_builtin F.excBase_ValueError.initEntry ?_⟩
  exact exc_init_tree (cls := .ref C) (t0 := t0) (dv := none) (c2 := .none) (c3 := .none) (b4 := .bool false) he hrest fun h' k e' _ => hq h' _ k e'
end
theorem cw_one {Mo : Model} {A : Around} {E : Value → Shared → Prop} {s : Shared} {i : String} {u x : Addr} {pos : Pos} {env : Env} {e : Expr} {Q : Value → Shared → Prop}
    (h : wpAny Mo A (spliced (backTo pos (starEach [e] env))) (fun vs s₁ => KxsAt i u x s₁.heap ∧ wpAny Mo A (call (.ref u) vs) Q E s₁) E s)
    (he : starEach [e] env = (false, eval e env) :: starEach [] env := by rfl) : wpAny Mo A (callWith pos (.ref u) [] (backTo pos (starEach [e] env)) []) Q E s := by
  rw [he] at h ⊢
  exact kxs_callWith (i := i) (x := x) rfl (evalArgs_plain h)
theorem ve_slot : bootBuiltins "super" = some (.type "super") := by decide +kernel
section
variable {P : Program} {w : World} {A : Around} {R : Result → Shared → Prop} {s : Shared} {K : Frag} {mg mb : Str → Option Value} {C fI cda cc : Addr} {fl qual : Str} {sc : Scope} {params : Arguments} {q : List Pos}
  {oc dV kV doc pm ct : Value} {od an : Option Addr} {osl : Array (Option Value)} {ar : Arg}
theorem ini_run {args : Args} {x t0 : Addr} {v : Value} (X : K.In s.heap) (hlim : s.heap.NoLimit) (G : s.heap.Ns mainGlobals mg) (B : s.heap.Ns builtinsNs mb) (gs : mg "super" = none) (bs : mb "super" = some (.type "super")) (T : L2.OexC K C) (nf : findIn K (.ref C) fl = some none)
    (ho : K.lookup fI = some ⟨oc, od, .func (ksFn "__init__" qual params (eiB fl q) sc dV kV doc pm an (.ref cda) ct cc), osl⟩) (hcd : codeIn K (.ref cda) qual = true)
    (hcode : ∃ (ccl : Value) (cdd : Option Addr) (vs : Array Value) (ccs : Array (Option Value)) (file : Str) (tf : Tok), K.lookup cda = some ⟨ccl, cdd, .fields vs, ccs⟩ ∧ vs[2]? = some (.str file tf) ∧ ((P.main.file : Str) == file) = true)
    (hcell : ∃ (cl : Value) (cld : Option Addr) (csl : Array (Option Value)), K.lookup cc = some ⟨cl, cld, .cell (some (.ref C)), csl⟩)
    (hp : (params.posonlyargs ++ params.args).head? = some ar) (har : ar.arg = "self") (hsf : fl ≠ "self") (hdf : (fl == ("__debug__" : Str)) = false)
    (k1 : sc.kind = .function) (k2 : sc.isGenerator = false) (k3 : sc.isCoroutine = false) (k4 : sc.names.lookup ("self" : Str) = some .local) (k5 : sc.names.lookup fl = some .local) (k6 : sc.names.lookup ("super" : Str) = some .globalImplicit)
    (k7 : sc.names.lookup ("__class__" : Str) = some .free) (k8 : ∀ x ∈ sc.names, x.2 ≠ .cell)
    (htop : (P.main.scope.names.lookup ("super" : Str)).isSome = false) (hop : nsIn K cStatics "thirdparty.any" = some none) (sup : ks_superIn K C C "__init__" = some (some (.builtin "ValueError.__init__")))
    (hmro : mroIn K C (.ref C) = some true) (hsub : subIn K (.ref C) (.type "ValueError") = some true)
    (hint : ∀ env : Env, env.scope = sc → interactive env = false)
    (hev : ∀ env : Env, env.scope = sc → ∃ pl : Sem Bool, eval (.Call (.Attribute (.Call (.Name "super" (qp q 0)) [] [] (qp q 1)) "__init__" (qp q 2)) [.Name fl (qp q 3)] [] (qp q 4)) env = (do
      let ov ← attributeBase (.Call (.Name "super" (qp q 0)) [] [] (qp q 1)) "__init__" env (eval (.Call (.Name "super" (qp q 0)) [] [] (qp q 1)) env)
      standAt (qp q 2).atName
      let (f, first) ← holding [ov] (getMethod ov "__init__" pl)
      callWith (qp q 4) f first (backTo (qp q 4) (starEach [.Name fl (qp q 3)] env)) []))
    (hsw : ∀ env : Env, env.scope = sc → swapsWith (.Name fl (qp q 8)) (some (.Attribute (.Name "self" (qp q 6)) fl (qp q 7))) (qp q 9).line env = pure false)
    (hx : s.heap.get? x = some (excO C t0)) (hnx : K.lookup x = none) (hroom : A.depth < recursionLimit) (bind : BindsTo s (ksFn "__init__" qual params (eiB fl q) sc dV kV doc pm an (.ref cda) ct cc) args [("self", .ref x), (fl, v)])
    (hq : ∀ h' tk dx t1, (∀ b o, b ≠ x → s.heap.get? b = some o → h'.get? b = some o) → h'.get? x = some { cls := .ref C, dict := some dx, data := .fields #[.ref t1, .none, .none, .none, .bool false, .none] } → s.heap.objs.size ≤ dx → dx ≠ x →
      h'.Ns1 dx (fun y => if y = fl then some v else none) → R (.ok (.ret .none)) { s with heap := h', toks := tk }) :
    codeAny (model P w) A (.call (.ref fI) args) R s := by
  obtain ⟨nm, q', N, bs', bm, sn, sub, ab, col, dd, z0, z1, z2, z3, z5, hC, hbm⟩ := T.cls
  have hcl : clsIn K C = some { name := nm, bases := bs', mro := .ref C :: bm, ns := N, qualname := q', hasDict := true, slotNames := sn, subclasses := sub, abstract := ab, collection := col, hasDel := false } := by unfold clsIn; rw [hC] <;> rfl
  obtain ⟨ccl, cdd, vs, ccs, file, tf, hcode, hvs, hfile⟩ := hcode
  obtain ⟨cl, cld, csl, hcell⟩ := hcell
  refine ks_codeAny_call_defAt (fd := ksFn "__init__" qual params (eiB fl q) sc dV kV doc pm an (.ref cda) ct cc) (body := eiB fl q) (binds := [("self", .ref x), (fl, v)]) hroom (X _ _ ho) rfl hlim (codeRec_of X hcd) rfl bind k8
    (fun y hy => ?_) (fun h₁ hns hk₁ => ?_) k3 k2 k1
  · rcases List.mem_cons.mp hy with rfl | hy
    · exact k4
    rcases List.mem_cons.mp hy with rfl | hy
    · exact k5
    cases hy
  have hxL : s.heap.objs.size ≠ x := Nat.ne_of_gt (Heap.lt_size hx)
  have X₁ : K.In h₁ := X.keeps hk₁
  have hx₁ := hk₁ _ _ hx
  have mself : (fun x_1 => ([("self", .ref x), (fl, v)] : List (Str × Value)).reverse.lookup x_1) "self" = some (.ref x) := by
    have : (("self" : Str) == fl) = false := by simpa using fun z => hsf z.symm
    simp [List.lookup, this]
  have mfl : (fun x_1 => ([("self", .ref x), (fl, v)] : List (Str × Value)).reverse.lookup x_1) fl = some v := by
    simp [List.lookup]
  generalize hm : (fun x_1 => ([("self", .ref x), (fl, v)] : List (Str × Value)).reverse.lookup x_1) = m at hns mself mfl
  obtain ⟨hp0, g, dr, tk, os⟩ := s
  have I₁ : W.InstAt h₁ x (excO C t0) C none := ⟨hx₁, rfl, rfl, trivial⟩
  obtain ⟨oD, hD1, hD2⟩ : ∃ oD, h₁.get? C = some oD ∧ oD.data = .cls { name := nm, bases := bs', mro := .ref C :: bm, ns := N, qualname := q', hasDict := true, slotNames := sn, subclasses := sub, abstract := ab, collection := col, hasDel := false } := ⟨_, X₁ _ _ hC, rfl⟩
  have nk : ∀ {b : Addr} {o : Obj}, K.lookup b = some o → b ≠ x := fun e z => by rw [z, hnx] at e; cases e
  obtain ⟨pl, hev⟩ := hev (callEnv (ksFn "__init__" qual params (eiB fl q) sc dV kV doc pm an (.ref cda) ct cc) hp0.objs.size fI) rfl
  refine ks_wpAt_execs_cons (ks_wpAt_Expr_any (hi := hint _ rfl) (ks_wpAt_MethodCall (he := hev) ?_))
  refine ks_wpAt_super_base (env := callEnv (ksFn "__init__" qual params (eiB fl q) sc dV kV doc pm an (.ref cda) ct cc) hp0.objs.size fI) k6 k7 (by decide) rfl (X₁ _ _ ho) rfl hp rfl (X₁ _ _ hcode) rfl hvs hfile htop ?_
  refine ks_loadName_global k1 k6 (loadGlobal_builtin (G.keeps hk₁) gs (B.keeps hk₁) bs ⟨rfl, ?_⟩)
  refine wpAny_loadName_free k1 k7 rfl ⟨_, X₁ _ _ hcell, rfl⟩ ?_
  rw [har]
  refine wpAny_loadName_local k1 k4 hns mself ?_
  refine ks_wpAny_isType_cls hD1 hD2 ⟨rfl, ?_⟩
  refine ks_wpAny_call_super hD1 hD2 I₁.at_ I₁.cls (fun c e => by cases e) (looks_mroIn X₁ hmro) (fun h2 e2 kk2 => ?_)
  have X2 : K.In h2 := X₁.keeps kk2
  have hI2 : W.Looks (model P w) h2 (isInstance (.ref x) (.type "ValueError")) true := (show W.InstAt h2 x (excO C t0) C none from ⟨kk2 _ _ hx₁, rfl, rfl, trivial⟩).type.andThen (looks_subIn X2 hsub)
  have hxC : x ≠ C := fun z => by
    rw [← z, hx₁] at hD1
    cases hD1
    cases hD2
  have supA : alongIn K "__init__" (((.ref C :: bm).dropWhile (· != .ref C)).drop 1) = some (some (.builtin "ValueError.__init__")) := by
    have z := sup
    unfold ks_superIn at z
    rw [hcl] at z
    exact z
  refine kxs_getMethod kxs_ValueError e2 (looks_opaque X2 hop) (l₀ := .ref C :: bm) (fun A Q E s k q => wpAny_bind ((looks_clsIn X2 hcl) A _ E s k (wpAny_pure q))) rfl X2 supA hI2 hxC (by decide) ?_
  have kk3 : ∀ b o, h2.get? b = some o → (h2.push (kxs_mw "ValueError.__init__" x)).get? b = some o := fun b o e => Heap.get?_push_of_some _ e
  have hu : (h2.push (kxs_mw "ValueError.__init__" x)).get? h2.objs.size = some (kxs_mw "ValueError.__init__" x) := Heap.get?_push_size _ rfl
  refine cw_one (i := "ValueError.__init__") (x := x) (spliced_more ?_ rfl) rfl
  refine wpAny_Name (wpAny_loadName_local k1 k5 ((hns.keeps kk2).keeps kk3) mfl ?_) hdf
  refine spliced_none ⟨hu, ?_⟩
  refine call_mw (hC := kk3 _ _ (kk2 _ _ (X₁ _ _ hC))) (he := kk3 _ _ (kk2 _ _ hx₁)) hu (by show 1 ≤ sizeLine; rw [sizeLine_eq]; omega) (fun h4 t1 kk4 hx4 => ?_)
  have nx : ∀ {b : Addr} {o : Obj}, h₁.get? b = some o → b ≠ x → h4.get? b = some o := fun {b o} e n => kk4 b o n (kk3 _ _ (kk2 _ _ e))
  have X4 : K.In h4 := fun a o e => nx (X₁ _ _ e) (nk e)
  have hns4 : h4.Ns hp0.objs.size m := hns.at fun o e => nx e hxL
  refine wpAt_of_wpAny (wpAny_execs_cons (plainObj_wpAny_Assign_Attribute (hs := hsw _ rfl) ?_))
  refine wpAny_Name (wpAny_loadName_local k1 k5 hns4 mfl ?_) hdf
  refine wpAny_Name (wpAny_loadName_local k1 k4 hns4 mself ?_) (by decide)
  refine set_plain X4 (ox := excO C t1) (od := none) ⟨hx4, rfl, rfl, trivial⟩ T.sa ?_
  refine exc_osa X4 hx4 hcl (show refsVE (.ref C :: bm) = true from hbm) rfl nf (fun h5 tk5 dx k₅ dn dne hx5 hn5 => ?_)
  show wpAny _ _ (execs _ _) _ _ _
  have z : hp0.objs.size < h₁.objs.size := hns.lt
  have z4 : hp0.objs.size < h4.objs.size := hns4.lt
  exact wpAny_execs_nil (hq h5 tk5 dx t1 (fun b o hb e => k₅ b o hb (nx (hk₁ b o e) hb)) hx5 (Nat.le_of_lt (Nat.lt_of_lt_of_le z4 dn)) dne hn5)
end
end M

/-! ### own errors: raised, made -/
namespace M
open PySem PySem.Spec PyProof.Rows L2 PySem.HandSPX
/-- the run of C's __init__ -/
def IniRun (P : Program) (w : World) (K : PySem.W.Frag) (mg : Str → Option Value) (fl : Str) (C fI : Addr) (fd : FuncData) : Prop :=
  ∀ {A : Around} {R : Result → Shared → Prop} {s : Shared} {args : Args} {x t0 : Addr} {v : Value}, K.In s.heap → s.heap.NoLimit → s.heap.Ns mainGlobals mg → (∃ mb, s.heap.Ns builtinsNs mb ∧ ∀ x : Str, x ≠ "__name__" → mb x = bootBuiltins x) →
    s.heap.get? x = some (excO C t0) → K.lookup x = none → A.depth < recursionLimit → BindsTo s fd args [("self", .ref x), (fl, v)] →
    (∀ h' tk dx t1, (∀ b o, b ≠ x → s.heap.get? b = some o → h'.get? b = some o) → h'.get? x = some { cls := .ref C, dict := some dx, data := .fields #[.ref t1, .none, .none, .none, .bool false, .none] } → s.heap.objs.size ≤ dx → dx ≠ x →
      h'.Ns1 dx (fun y => if y = fl then some v else none) → R (.ok (.ret .none)) { s with heap := h', toks := tk }) → codeAny (model P w) A (.call (.ref fI) args) R s
structure ExcAt (P : Program) (w : World) (K : PySem.W.Frag) (mg : Str → Option Value) (x fl : Str) (C : Addr) : Prop where
  gC : mg x = some (.ref C)
  T : OexC K C
  ga : PySem.W.findIn K (.ref C) "__getattribute__" = some (some (.builtin "BaseException.__getattribute__"))
  gg : PySem.W.findIn K (.ref C) "__getattr__" = some none
  nf : PySem.W.findIn K (.ref C) fl = some none
  hd : PySem.W.hasDictIn K C = true
  init : ∃ (fI : Addr) (fd : FuncData), PySem.W.findIn K (.ref C) "__init__" = some (some (.ref fI)) ∧ PySem.W.typeIn K (.ref fI) = some (.type "function") ∧ IniRun P w K mg fl C fI fd ∧
    (∀ (s : Shared) (u v : Value), K.In s.heap → BindsTo s fd ⟨[u, v], []⟩ [("self", u), (fl, v)]) ∧ (∀ (s : Shared) (u : Value), K.In s.heap → BindsTo s fd ⟨[u], []⟩ [("self", u), (fl, .none)]) ∧
    (∀ (s : Shared) (u v : Value), K.In s.heap → BindsTo s fd ⟨[u], [(fl, v)]⟩ [("self", u), (fl, v)])
theorem relO_one {fl : Str} {v : V} {v' : Value} (r : RelV v v') (f : Str) : RelO (List.lookup f [(fl, v)]) (if f = fl then some v' else none) := relO_put (fs := []) (mA := fun _ => none) r (fun _ => trivial) f
section
variable {X : Cx} {C : Addr} {x fl : Str}
/-- a made one, seen from the caller -/
theorem mk_seen {pins : List (Addr × Obj)} {σ : L2.St} {H1 : Hp} {Q : XK} {hp h' : Heap} {g : Array GenState} {dr : Drawn} {tk tk' : Nat} {os : OsState} {e d t1 : Addr} {v : V} {v' : Value} (T : OexC X.K C) (I1 : Inv X pins σ H1 ⟨hp, g, dr, tk, os⟩)
    (keep : ∀ b o, hp.get? b = some o → h'.get? b = some o) (new : hp.objs.size ≤ e) (hx : h'.get? e = some { cls := .ref C, dict := some d, data := .fields #[.ref t1, .none, .none, .none, .bool false, .none] }) (db : hp.objs.size ≤ d) (dne : d ≠ e)
    (ns : h'.Ns1 d (fun y => if y = fl then some v' else none)) (rv : RelV v v') (q : Q (.ref C) (some d) (upd H1 d (.xd [(fl, v)]))) : MkP X pins σ Q (.ref e) ⟨h', g, dr, tk', os⟩ := by
  obtain ⟨G', g1, g2⟩ := restrict h' fun b => decide (b ≠ e)
  have gk : ∀ b, b ≠ e → G'.get? b = h'.get? b := fun b hb => g1 b (decide_eq_true hb)
  have ge : G'.get? e = none := g2 e (by simp)
  have old : ∀ b o, hp.get? b = some o → G'.get? b = some o := fun b o q => (gk b (Nat.ne_of_lt (Nat.lt_of_lt_of_le (Heap.lt_size q) new))).trans (keep b o q)
  have ob : ObjOk X.prog X.w (upd H1 d (.xd [(fl, v)])) G' d (.xd [(fl, v)]) := ⟨_, ns.at (fun o q => (gk d dne).trans q), fun f => relO_one rv f⟩
  have J : Inv X pins σ (upd H1 d (.xd [(fl, v)])) ⟨G', g, dr, tk', os⟩ := I1.laid (t' := tk') old db ob
  refine ⟨e, _, _, ⟨G', g, dr, tk', os⟩, _, .ref C, some d, rfl, J, fun b o q => ?_, ge, hx, ⟨rfl, rfl⟩, rfl, rfl, ?_, rfl, I1.bare, raises_own T.exC T.tyC, q⟩
  · by_cases hb : b = e
    · have q' : G'.get? b = some o := q
      rw [hb, ge] at q'; cases q'
    · exact (gk b hb).symm.trans q
  · rw [upd_ne (Ne.symm dne)]
    exact I1.hok.fresh new
def mMk (C : Addr) (fl : Str) (ta : TA) : L2.St → Hp → XK → Prop := fun σ H Q => ta σ H fun vs H1 => match vs with
  | [v] => ∀ d, H1 d = none → Q (.ref C) (some d) (upd H1 d (.xd [(fl, v)]))
  | _ => False
theorem vals_one {v : V} {us : List Value} (r : Vals [v] us) : ∃ u, us = [u] ∧ RelV v u := by
  cases r with
  | cons h1 h2 =>
    cases h2
    exact ⟨_, rfl, h1⟩
/-- C(v): the call -/
theorem call_exc {pins : List (Addr × Obj)} {σ : L2.St} {H1 : Hp} {Q : XK} {s1 : Shared} {v : V} {u : Value} {k : Nat} {A : Around} (T : ExcAt X.prog X.w X.K X.mg x fl C) (hr : A.depth + 2 < recursionLimit) (I1 : Inv X pins σ H1 s1) (rv : RelV v u)
    (q : ∀ d, H1 d = none → Q (.ref C) (some d) (upd H1 d (.xd [(fl, v)]))) {E : Value → Shared → Prop} : wpAny (model X.prog X.w) A (call (.ref C) [u]) (MkP X pins σ Q) E s1 := by
  obtain ⟨nm, q', N, bs, bm, sn, sub, ab, col, dd, k0, k1, k2, k3, k5, hC, hbm⟩ := T.T.cls
  obtain ⟨fI, fd, iC, tI, run, b1, _, _⟩ := T.init
  have hlim := I1.nolimit
  have KX := I1.kIn
  have G : s1.heap.Ns mainGlobals X.mg := I1.mod.glob.keeps I1.bk
  obtain ⟨mb, hb1, hb2⟩ := I1.mod.blt
  have B : s1.heap.Ns builtinsNs mb := hb1.keeps I1.bk
  obtain ⟨hp, g, dr, tk, os⟩ := s1
  have kk : ∀ b o, hp.get? b = some o → ((hp.push (PySem.W.kdv_tup [u])).push (excO C hp.objs.size)).get? b = some o := fun b o e => Heap.get?_push_of_some _ (Heap.get?_push_of_some _ e)
  have hget : ((hp.push (PySem.W.kdv_tup [u])).push (excO C hp.objs.size)).get? (hp.objs.size + 1) = some (excO C hp.objs.size) := by heap_get
  have hnx : X.K.lookup (hp.objs.size + 1) = none := by
    cases e : X.K.lookup (hp.objs.size + 1) with
    | none => rfl
    | some o =>
      have z : hp.get? (hp.objs.size + 1) = some o := KX _ _ e
      exact absurd (Nat.lt_of_succ_lt (Heap.lt_size z)) (Nat.lt_irrefl _)
  have KX2 : X.K.In ((hp.push (PySem.W.kdv_tup [u])).push (excO C hp.objs.size)) := KX.keeps kk
  refine wpAny_call (call_own F.excBase_ValueError (fun X => refsVE_contains X bm hbm) (KX _ _ hC) (PySem.W.looks_findIn KX iC) (fun self => PySem.W.bind_fn KX self tI) (by show 1 ≤ sizeLine; rw [sizeLine_eq]; omega) ?_)
  refine run (s := ⟨(hp.push (PySem.W.kdv_tup [u])).push (excO C hp.objs.size), g, dr, tk, os⟩) KX2 (hlim.keeps kk) (G.keeps kk) ⟨mb, B.keeps kk, hb2⟩ hget hnx ?_ (b1 _ _ _ KX2) fun h' tk' dx t1 k' hx dn dne hns => ?_
  · show A.depth + 1 < recursionLimit
    omega
  · have old : ∀ b o, hp.get? b = some o → h'.get? b = some o := fun b o e => k' b o (Nat.ne_of_lt (Nat.lt_succ_of_lt (Heap.lt_size e))) (kk b o e)
    have z : hp.objs.size + 1 + 1 ≤ dx := by
      first
        | (simpa only [Heap.size_push] using dn)
        | exact dn
    have db : hp.objs.size ≤ dx := Nat.le_trans (Nat.le_trans (Nat.le_succ _) (Nat.le_succ _)) z
    exact ⟨rfl, mk_seen T.T I1 old (Nat.le_succ _) hx db dne hns rv (q dx (I1.hok.fresh db))⟩
theorem pmk_exc {es : List Expr} {e : Expr} {ta : TA} {p pos : Pos} {k : Nat} (T : ExcAt X.prog X.w X.K X.mg x fl C) (hr : Room k X.A) (hg : Gl X x) (ha : PA X (e :: es) ta) (hdb : (x == ("__debug__" : Str)) = false := by decide)
    (he : starEach (e :: es) X.env = (false, eval e X.env) :: starEach es X.env := by rfl) (hpl : (backTo pos (starEach es X.env)).any (·.1) = false := by rfl) : PMk X (.Call (.Name x p) (e :: es) [] pos) (mMk C fl ta) := by
  intro pins s σ H Q I h
  refine wpAny_Call_Name_kw (ld_glob I hg T.gC ?_ hdb)
  refine PySem.W.callWith_K (h₀ := X.base) I.ok.mod.kin T.T.kC (thn ((pa_cl ha).run pos pins s σ H (fun vs H1 => ∃ v, vs = [v] ∧ ∀ d, H1 d = none → Q (.ref C) (some d) (upd H1 d (.xd [(fl, v)]))) I ⟨_, h, fun vs H1 z => ?_⟩) fun us s1 ⟨vs, H1, I1, r1, v, ev, q1⟩ => ⟨I1.kIn, ?_⟩) he hpl
  · split at z
    · exact ⟨_, rfl, z⟩
    · exact z.elim
  · subst ev
    obtain ⟨u, rfl, ru⟩ := vals_one r1
    exact call_exc (k := k) T (by have := hr.dp; omega) I1 ru q1
/-- raise C(v) -/
def mRaise (C : Addr) (fl : Str) (ta : TA) (E : XK) : TS := fun _ σ H => mMk C fl ta σ H fun cls d H' => E cls d H'
theorem ms_raise {es : List Expr} {e : Expr} {ta : TA} {p pos pos2 : Pos} {k : Nat} {E : XK} (T : ExcAt X.prog X.w X.K X.mg x fl C) (hr : Room k X.A) (hc : X.calm = true) (tk : Takes X (fun cls d _ H => E cls d H)) (hg : Gl X x) (ha : PA X (e :: es) ta) (hdb : (x == ("__debug__" : Str)) = false := by decide)
    (he : starEach (e :: es) X.env = (false, eval e X.env) :: starEach es X.env := by rfl) (hpl : (backTo pos (starEach es X.env)).any (·.1) = false := by rfl) : PS X (.Raise (some (.Call (.Name x p) (e :: es) [] pos)) none pos2) (mRaise C fl ta E) :=
  ps_raise hc tk (pmk_exc T hr hg ha hdb he hpl)
end
end M

/-! ### a caught error, kept behind the try -/
namespace M
open PySem PySem.Spec PyProof.Rows L2 PySem.HandSPX
/-- at a: an exception of the class cls, its dict d -/
def exk (a : Addr) (cls : Value) (d : Option Addr) : HO := .ext fun h => ∃ (o : Obj) (vs : Array Value), h.get? a = some o ∧ o.cls = cls ∧ o.dict = d ∧ o.data = .fields vs
theorem exk_ok {P : Program} {w : World} {H : Hp} {h : Heap} {a : Addr} {cls : Value} {d : Option Addr} {o : Obj} {vs : Array Value} (e : h.get? a = some o) (hz : Zc cls d o) (hd : o.data = .fields vs) : ObjOk P w H h a (exk a cls d) :=
  ⟨⟨o, vs, e, hz.1, hz.2, hd⟩, ⟨_, e⟩, fun h1 h2 z k => by
    obtain ⟨o, vs, q, r⟩ := z
    exact ⟨o, vs, k _ q, r⟩⟩
theorem exk_at {P : Program} {w : World} {H : Hp} {h : Heap} {a : Addr} {cls : Value} {d : Option Addr} (hok : HOk P w H h) (he : H a = some (exk a cls d)) : ∃ (o : Obj) (vs : Array Value), h.get? a = some o ∧ o.cls = cls ∧ o.dict = d ∧ o.data = .fields vs := by
  have x : ObjOk P w H h a (.ext fun h => ∃ (o : Obj) (vs : Array Value), h.get? a = some o ∧ o.cls = cls ∧ o.dict = d ∧ o.data = .fields vs) := hok a _ he
  exact x.1
section
variable {X : Cx} {pins : List (Addr × Obj)} {σ : L2.St} {H : Hp} {s : Shared}
/-- an object of the heap that was not looked at is looked at from now on -/
theorem Inv_track {a : Addr} {o : Obj} {vs : Array Value} {cls : Value} {d : Option Addr} (I : L2.Inv X pins σ H s) (e : s.heap.get? a = some o) (hz : Zc cls d o) (hd : o.data = .fields vs) (na : H a = none) (n0 : X.s_0.heap.get? a = none) (nL : a ≠ X.env.locals)
    (nP : ∀ p ∈ X.pn ++ pins, p.1 ≠ a) : L2.Inv X pins σ (upd H a (exk a cls d)) s := by
  have n1 : ∀ b o, X.s_0.heap.get? b = some o → b ≠ a := fun b o q z => by rw [z, n0] at q; cases q
  refine ⟨I.ok, I.os, I.bare, ⟨I.base.keep, I.base.slot, fun b o q n hx => ?_, I.base.there, fun b xs q => ?_, fun b o u q => ?_, fun b ps q => ?_⟩, I.loc, I.cell, ?_, fun x c q => ?_, fun p hp => ?_, fun b ob q => ?_, I.len⟩
  · rw [upd_ne (n1 b o q)]; exact I.base.free b o q n hx
  · have z := I.base.tups b xs q
    rw [upd_ne (ne_of_none z na)]; exact z
  · have z := I.base.frzs b o u q
    rw [upd_ne (ne_of_none z na)]; exact z
  · obtain ⟨more, z⟩ := I.base.tbls b ps q
    exact ⟨more, by rw [upd_ne (ne_of_none z na)]; exact z⟩
  · rw [upd_ne (Ne.symm nL)]; exact I.free
  · have : c ≠ a := fun z => by
      obtain ⟨v, hv⟩ := I.cell x c q
      obtain ⟨oc, q1, q2⟩ := hv
      rw [z, e] at q1
      cases q1
      rw [hd] at q2
      cases q2
    rw [upd_ne this]; exact I.freeC x c q
  · obtain ⟨p1, p2, p3⟩ := I.pin p hp
    exact ⟨p1, by rw [upd_ne (nP p hp)]; exact p2, p3⟩
  · by_cases hb : b = a
    · subst hb
      rw [upd_same] at q
      cases q
      exact exk_ok e hz hd
    · rw [upd_ne hb] at q
      exact (I.hok b ob q).stay (fun c v hc z => z) (fun c hc => by rw [upd_ne (ne_of_none hc na)]; exact hc) (fun c xs hc => by rw [upd_ne (ne_of_none hc na)]; exact hc)
/-- what is wished of an exception of the body: it is caught, n = it -/
def wK (K : PySem.W.Frag) (c : Value) (i j : Nat) (D : Ends) : WX := fun cls d σ H => PySem.W.exmOne K cls c = some true ∧ ∀ a, H a = none → D.nx ((σ.set j (some (.ref a))).set i none) (upd H a (exk a cls d))
def mTry (K : PySem.W.Frag) (c : Value) (i j : Nat) (tb : WX → TS) : TS := fun D σ H => tb (wK K c i j D) D σ H
end
end M

namespace M
open PySem PySem.Spec PyProof.Rows L2 PySem.HandSPX
section
variable {X : Cx} {x n y : Str} {c : Value} {i j : Nat} {body : List Stmt} {np pos pos' p1 p2 p3 : Pos} {tb : WX → TS}
theorem ms_try (hs : X.stack = X.env :: X.outer) (hf : X.env.frame = some X.env.locals) (hex : X.ex = []) (hN : X.N.Nodup) (hi : X.N[i]? = some n) (hln : X.env.kindOf n = some .local) (hc : Names X x c)
    (hb : ∀ (W : WX) (pn : List (Addr × Obj)) (xe : Value → Shared → Prop), Takes (X.tr pn xe) W → PassesOwn (model X.prog X.w) X.A X.env xe → PSs (X.tr pn xe) body (tb W))
    (hsu : ∀ (a : Addr) (oe : Obj) (pn : List (Addr × Obj)), (∃ vs, oe.data = .fields vs) → PSs (X.suite a ((a, oe) :: pn)) [.Assign [.Name y p1] (.Name n p2) p3] (tAsg (mVar i) (gName j))) :
    PS X (.Try body [.ExceptHandler (some (.Name x np)) (some n) [.Assign [.Name y p1] (.Name n p2) p3] pos'] [] [] pos) (mTry X.K c i j tb) := by
  refine ⟨fun pins s σ H D I h => ?_⟩
  have ok := I.ok
  have hfr : X.A.frames = some (X.env :: X.outer) := by rw [ok.frames, hs]
  have hloc : Loc X.env.scope n := .inl hln
  refine wpAny_Try_except ?_
  refine wpAny_mono ((hb (wK X.K c i j D) (X.pn ++ pins) (fun e s₁ => wpAny (model X.prog X.w) X.A (noteFrame e X.env) (fun _ s₂ => wpAny (model X.prog X.w) X.A (setFlight e none) (fun _ s₃ =>
    wpAny (model X.prog X.w) X.A (handleBy e X.env [.ExceptHandler (some (.Name x np)) (some n) [.Assign [.Name y p1] (.Name n p2) p3] pos']) (SP X pins D) X.xe s₃) X.xe s₂) X.xe s₁) (fun u s' xx => ?_) PassesOwn.looking).run [] s σ H D (I.toTry _) h) (fun f s1 hsp => ?_) (fun e s1 he => he)
  · obtain ⟨a, B, sI, pins', σ', H', cls, d, rfl, J', nb, up, sky, na, os, ag, hb1, hyes⟩ := xx
    have J : L2.Inv X pins σ' H' sI := J'.ofTry ok
    have sky' : Sky B (X.env :: X.outer) a (Zc cls d) X.env.locals s'.heap := by rw [← hs]; exact sky
    show wpAny (model X.prog X.w) X.A (noteFrame (.ref a) X.env) _ _ _
    refine Sky.land Zc.steady hfr hf sky' fun h3 fl3 up3 => ?_
    have J3 : L2.Inv X pins σ' H' { s' with heap := h3 } := J.landed nb fl3.1 (up.trans up3) os ag
    obtain ⟨oe3, vs3, he3, hz3, hd3⟩ := fl3.there
    have notFr : ∀ {h : Heap} {o : Obj} {vs : Array Value}, h.FunFrames B (X.env :: X.outer) → h.get? a = some o → o.data = .fields vs → a ∉ frs (X.env :: X.outer) := fun {h o vs} ff e dd hm => by
      obtain ⟨_, o', e', hnf⟩ := ff.mem hm
      rw [e] at e'; cases e'
      exact hnf _ dd
    have nfr := notFr fl3.2.2.1 he3 hd3
    have nL : a ≠ X.env.locals := fun z => nfr (List.mem_filterMap.mpr ⟨X.env, List.mem_cons_self, by rw [hf, z]⟩)
    have nF : a ∉ X.fs := fun hm => by
      obtain ⟨e, he, q⟩ := List.mem_filterMap.mp hm
      exact nfr (List.mem_filterMap.mpr ⟨e, List.mem_cons_of_mem _ he, q⟩)
    have nI : sI.heap.get? a = none := by
      cases q : sI.heap.get? a with
      | none => rfl
      | some o =>
        have z := nb a o q (by rw [hs]; exact nfr)
        rw [fl3.2.1] at z
        cases z
    have n0 : X.s_0.heap.get? a = none := by
      cases q : X.s_0.heap.get? a with
      | none => rfl
      | some o =>
        obtain ⟨o', z⟩ := J.base.there a o q (by rw [hex]; simp)
        rw [nI] at z
        cases z
    have nP : ∀ p ∈ X.pn ++ pins, p.1 ≠ a := fun p hp z => by
      have q := (J.pin p hp).1
      rw [z, nI] at q
      cases q
    have S3 := J3.suite he3 hd3 na nL nF
    refine wpAny_handleBy_cons (codeAny_handlers_test ?_) (by intro q; cases q)
    have LT : PySem.W.Looks (model X.prog X.w) h3 (typeOf (.ref a)) cls := fun A Q E s k q => wpAny_typeOf_ref (k _ _ he3) (by rw [hz3.1]; exact q)
    have LM := PySem.W.exm_one (M := model X.prog X.w) (J3.kIn) LT hb1
    have test : ∀ {Q : Value → Shared → Prop} {E : Value → Shared → Prop}, Q c { s' with heap := h3 } → wpAny (model X.prog X.w) (X.A.mark (some (.ref a))) (eval (.Name x np) X.env) Q E { s' with heap := h3 } := fun {Q E} q => by
      obtain ⟨hg, hdbg, hm | ⟨hm, hv, hnn⟩⟩ := hc
      · exact ld_glob (X := X.suite a ((a, oe3) :: (X.pn ++ pins))) S3 hg hm q hdbg
      · exact ld_blt (X := X.suite a ((a, oe3) :: (X.pn ++ pins))) S3 hg hm hv q hnn hdbg
    refine test (LM.here ?_)
    refine codeAny_handlers_suite_as ?_
    refine HandSPX.lands_againZ fl3 fun h4 fl4 up4 => ?_
    have J4 : L2.Inv X pins σ' H' { s' with heap := h4 } := J.landed nb fl4.1 ((up.trans up3).trans up4) os ag
    obtain ⟨oe4, vs4, he4, hz4, hd4⟩ := fl4.there
    have S4 := J4.suite he4 hd4 na nL nF
    refine store_ok (X := X.suite a ((a, oe4) :: (X.pn ++ pins))) (v := .ref a) S4 hN hi hloc rfl (fun s5 S5 => ?_) (.inr hln)
    have il : i < σ'.length := by
      rw [J.len]
      exact (List.getElem?_eq_some_iff.mp hi).1
    have hgt : ∀ (l : Sl) (k : Nat) (v : V), k < l.length → M.gt (l.set k (some v)) k = some v := by
      intro l
      induction l with
      | nil => intro k v hk; exact absurd hk (by simp)
      | cons b r ih =>
        intro k v hk
        cases k with
        | zero => rfl
        | succ k => exact ih k v (by simpa using hk)
    have hread : (tAsg (mVar i) (gName j)) ({ nx := fun σ6 H6 => H6 = H' ∧ σ6 = (σ'.set i (some (.ref a))).set j (some (.ref a)), rt := fun _ _ => False, bk := fun _ _ => False, ct := fun _ _ => False } : Ends) (σ'.set i (some (.ref a))) H' := by
      show (match M.gt (σ'.set i (some (.ref a))) i with | some v => _ | none => False)
      rw [hgt _ _ _ il]
      exact ⟨rfl, rfl⟩
    refine wpAny_mono ((hsu a oe4 (X.pn ++ pins) ⟨_, hd4⟩).run [] s5 _ H' _ S5 hread) (fun f s6 hsp => ?_) (fun _ _ z => False.elim z)
    cases f with
    | next =>
      obtain ⟨σ6, H6, S6, rfl, rfl⟩ := hsp
      have he6 : s6.heap.get? a = some oe4 := (S6.pin (a, oe4) (List.mem_append_left _ List.mem_cons_self)).1
      have T6 := Inv_track (S6.unsuite ok) he6 hz4 hd4 na n0 nL nP
      refine gone_ok T6 hN hi hln fun s7 J7 => ⟨_, _, J7, ?_⟩
      by_cases hij : i = j
      · subst hij
        have z := hyes a na
        rw [List.set_set] at z
        rw [List.set_set, List.set_set]
        exact z
      · have z := hyes a na
        have e : ((σ'.set i (some (V.ref a))).set j (some (V.ref a))).set i none = (σ'.set j (some (V.ref a))).set i none := by
          rw [List.set_comm _ _ hij, List.set_set]
        rw [e]
        exact z
    | brk =>
      obtain ⟨σ6, H6, S6, q6⟩ := hsp
      exact q6.elim
    | cont =>
      obtain ⟨σ6, H6, S6, q6⟩ := hsp
      exact q6.elim
    | ret u =>
      obtain ⟨v6, σ6, H6, S6, r6, q6⟩ := hsp
      exact q6.elim
  · cases f with
    | next =>
      obtain ⟨σ', H', J', q⟩ := hsp
      exact wpAny_execs_nil ⟨σ', H', J'.ofTry ok, q⟩
    | brk =>
      obtain ⟨σ', H', J', q⟩ := hsp
      exact ⟨σ', H', J'.ofTry ok, q⟩
    | cont =>
      obtain ⟨σ', H', J', q⟩ := hsp
      exact ⟨σ', H', J'.ofTry ok, q⟩
    | ret u =>
      obtain ⟨v, σ', H', J', r, q⟩ := hsp
      exact ⟨v, σ', H', J'.ofTry ok, r, q⟩
end
end M

/-! ### defs that show values: no repr is under way above them -/
namespace M
open PySem PySem.Spec PyProof.Rows L2 PySem.HandSPX
structure RoomG (k : Nat) (A : Around) : Prop where
  hd : A.handled = none
  dp : A.depth + k + 20 < recursionLimit
  un : A.units + 8 * k + 300 < cLine
  gd : A.guards = some []
theorem RoomG.mono {j k : Nat} {A : Around} (r : RoomG k A) (h : j ≤ k) : RoomG j A := ⟨r.hd, by have := r.dp; omega, by have := r.un; omega, r.gd⟩
theorem RoomG.deeper {k : Nat} {A : Around} (r : RoomG (k + 1) A) (env : Env) : RoomG k (A.deeper env) := ⟨r.hd, by have := r.dp; show A.depth + 1 + k + 20 < _; omega, by have := r.un; show A.units + 3 + 8 * k + 300 < _; omega, r.gd⟩
theorem RoomG.room {j k : Nat} {A : Around} (r : RoomG k A) (h1 : 3 * j ≤ k + 15) (h2 : 16 * j ≤ 8 * k + 100) : Room j A := ⟨r.hd, by have := r.dp; omega, by have := r.un; omega⟩
theorem RoomG.r0 {k : Nat} {A : Around} (r : RoomG k A) : Room 0 A := r.room (by omega) (by omega)
theorem RoomG.units {k : Nat} {A : Around} (r : RoomG k A) : A.units + 64 < cLine := by have := r.un; omega
theorem RoomG.depth {k : Nat} {A : Around} (r : RoomG k A) : A.depth < recursionLimit := by have := r.dp; omega
structure FnG (P : Program) (w : World) (K : PySem.W.Frag) (mg : Str → Option Value) (base : Heap) (CX : CXT) (k : Nat) (f : Addr) (fd : FuncData) (ps : List Str) (sp : Sp) : Prop where
  len : ∀ vs H Q E, sp vs H Q E → vs.length = ps.length
  run : ∀ (A : Around) (outer : List Env) (s : Shared) (H : Hp) (args : Args) (us : List Value) (vs : List V) (Q : VK) (E : XK), RoomG k A → Env0 P w K mg base A outer s H → BindsTo s fd args (ps.zip us) → Vals vs us → sp vs H Q E →
    codeAny (model P w) A (.call (.ref f) args) (CR CX outer P w H s Q E) s
theorem FnG.of {P : Program} {w : World} {K : PySem.W.Frag} {mg : Str → Option Value} {base : Heap} {CX : CXT} {j k : Nat} {f : Addr} {fd : FuncData} {ps : List Str} {sp : Sp} (F : FnOk P w K mg base CX j f fd ps sp) (h1 : 3 * j ≤ k + 15) (h2 : 16 * j ≤ 8 * k + 100) : FnG P w K mg base CX k f fd ps sp :=
  ⟨F.len, fun A outer s H args us vs Q E hr => F.run A outer s H args us vs Q E (hr.room h1 h2)⟩
theorem FnG.zero {P : Program} {w : World} {K : PySem.W.Frag} {mg : Str → Option Value} {base : Heap} {CX : CXT} {k : Nat} {f : Addr} {fd : FuncData} {ps : List Str} {sp : Sp} (no : ∀ vs H Q E, ¬ sp vs H Q E) : FnG P w K mg base CX k f fd ps sp :=
  ⟨fun vs H Q E h => absurd h (no vs H Q E), fun A outer s H args us vs Q E _ _ _ _ h => absurd h (no vs H Q E)⟩
theorem FnG.mono {P : Program} {w : World} {K : PySem.W.Frag} {mg : Str → Option Value} {base : Heap} {CX : CXT} {j k : Nat} {f : Addr} {fd : FuncData} {ps : List Str} {sp : Sp} (F : FnG P w K mg base CX j f fd ps sp) (h : j ≤ k) : FnG P w K mg base CX k f fd ps sp :=
  ⟨F.len, fun A outer s H args us vs Q E hr => F.run A outer s H args us vs Q E (hr.mono h)⟩
section
variable {P : Program} {w : World} {K : PySem.W.Frag} {mg : Str → Option Value} {base : Heap} {x qual : Str} {params : Arguments} {body : List Stmt} {scope : Scope} {dvs : List V} {kws : List (Str × V)} {f : Addr} {fd : FuncData}
theorem okG {CX : CXT} {N ps : List Str} {k : Nat} {sp : Sp} (F : FunD K x qual params body scope dvs kws f fd) (S : FnScope N ps scope) (len : ∀ vs H Q E, sp vs H Q E → vs.length = ps.length)
    (hbody : ∀ (cdv : Value) (A : Around) (outer : List Env) (s : Shared) (H : Hp) (vs : List V) (Q : VK) (E : XK), RoomG k (A.deeper (envOfC qual scope s.heap.objs.size f cdv)) → sp vs H Q E →
      ∃ t, PSs (cxOf CX P w K mg base N qual scope f cdv A outer s H E) body t ∧ t { nx := fun _ H' => Q .non H', rt := Q } (start N vs) H) : FnG P w K mg base CX (k + 1) f fd ps sp := by
  obtain ⟨oc, od, dV, kV, doc, pm, an, cdv, ct, osl, rfl, lk, hcd, _, _⟩ := F.ex
  refine ⟨len, fun A outer s H args us vs Q E hr e0 hb r hsp => ?_⟩
  have up : ∀ b o, base.get? b = some o → s.heap.get? b = some o := fun b o e => (e0.bs b o e).1
  have KX : K.In s.heap := e0.mod.kin.keeps up
  have par : ∀ y ∈ ps.zip us, scope.names.lookup y.1 = some .local ∨ (scope.names.lookup y.1 = some .cell ∧ ((cellsFrom (s.heap.objs.size + 1) scope.names []).lookup y.1).isSome = true) := by
    rintro ⟨n, v⟩ hy
    exact (S.par n (List.of_mem_zip hy).1).imp id fun q => ⟨q, PySem.W.cellsFrom_some _ _ _ (.inl q)⟩
  refine codeAny_call_function hr.depth (KX _ _ lk) rfl S.co S.gen rfl (PySem.W.codeRec_of KX hcd) (hb _ _ _ _ (wpAny_newFunctionEnv_cells S.kind par fun env he s1 x => ?_))
  subst he
  obtain ⟨t, ht, hq⟩ := hbody cdv A outer s H vs Q E (hr.deeper _) hsp
  refine ⟨(e0.mod.nolimit.keeps up).keeps x.toInCall.keep, codeAny_func (wpAny_mono (ht.run [] s1 (start N vs) H _ (inv_start S hr.hd e0 (len _ _ _ _ hsp) r x) hq) (fun fl s' hs => ?_) fun e s' hs => hs)⟩
  cases fl with
  | ret u =>
    obtain ⟨v, σ', H', J, rv, q⟩ := hs
    exact ⟨v, H', J.os, J.bare, J.base, J.hok, rv, q⟩
  | next =>
    obtain ⟨σ', H', J, q⟩ := hs
    exact ⟨V.non, H', J.os, J.bare, J.base, J.hok, rfl, q⟩
  | brk => exact (hs.elim fun _ z => z.elim fun _ z => z.2).elim
  | cont => exact (hs.elim fun _ z => z.elim fun _ z => z.2).elim
end
structure CalG (P : Program) (w : World) (K : PySem.W.Frag) (mg : Str → Option Value) (base : Heap) (CX : CXT) (x : Str) (k : Nat) (ps : List Str) (dvs : List V) (sp : Sp) : Prop where
  ex : ∃ f fd ds, FnG P w K mg base CX k f fd ps sp ∧ mg x = some (.ref f) ∧ PySem.W.keepIn K (.ref f) = true ∧ Binds K fd ps ds ∧ Vals dvs ds
section
variable {X : Cx} {CX : CXT} {k : Nat} {ps : List Str} {sp : Sp} {dvs : List V} {E : XK} {x : Str} {p pos : Pos} {e : Expr} {es : List Expr} {t : TA}
theorem me_callG (C : CalG X.prog X.w X.K X.mg X.base CX x k ps dvs sp) (hr : RoomG k X.A) (hg : Gl X x) (hx : Passes CX X E) (ha : PA X (e :: es) t) (hdb : (x == ("__debug__" : Str)) = false := by decide)
    (he : starEach (e :: es) X.env = (false, eval e X.env) :: starEach es X.env := by rfl) (hpl : (backTo pos (starEach es X.env)).any (·.1) = false := by rfl) : PE X (.Call (.Name x p) (e :: es) [] pos) (tCall sp dvs E t) := by
  obtain ⟨f, fd, ds, F, hm, hk, hb, hd⟩ := C.ex
  refine ⟨fun pins s σ H Q I h => wpAny_Call_Name_kw (ld_glob I hg hm (PySem.W.callWith_K (h₀ := X.base) I.ok.mod.kin hk (thn (ha.run pos pins s σ H _ I h) fun us s1 ⟨vs, H1, I1, r, q⟩ => ⟨I1.kIn, ?_⟩) he hpl) hdb)⟩
  have r2 : Vals (vs ++ dvs) (us ++ ds) := r.append hd
  refine wpAny_call (codeAny_mono (F.run X.A X.stack s1 H1 ⟨us, []⟩ (us ++ ds) (vs ++ dvs) Q E hr I1.env0 (hb s1 us I1.kIn (r2.length.symm.trans (F.len _ _ _ _ q))) r2 q) fun r s' hq => ?_)
  rcases r with er | fl
  · exact hx pins σ H1 s1 er s' I1 hq
  · cases fl with
    | ret u => exact I1.after hq
    | next => exact False.elim hq
    | brk => exact False.elim hq
    | cont => exact False.elim hq
end
/-! ### repr -/
section
variable {X : Cx}
def fd1 : V → Option PyData
  | .int i => some (.int i)
  | .str z => some (.str z)
  | .bl b => some (.bool b)
  | .non => some .none
  | _ => none
def kd1 : Key → PyData
  | .inl i => .int i
  | .inr x => .str x
def fdKV : List (Key × V) → Option (List (PyData × PyData))
  | [] => some []
  | (k, v) :: r => match fd1 v, fdKV r with
    | some d, some q => some ((kd1 k, d) :: q)
    | _, _ => none
/-- what repr shows of a value -/
inductive Sh (K : PySem.W.Frag) (H : Hp) : V → PyData → Prop
  | dp {v : V} {d : PyData} : Dp K H v d → d.hasDict = false → Sh K H v d
  | dct {a : Addr} {kvs : List (Key × V)} {ds : List (PyData × PyData)} : H a = some (.dK kvs) → fdKV kvs = some ds → Sh K H (.ref a) (.dict ds)
def mRepr (K : PySem.W.Frag) : List V → Hp → VK → Prop := fun xs H Q => match xs with
  | [x] => ∃ d, Sh K H x d ∧ d.showable = true ∧ d.depth ≤ 64 ∧ d.shown.length ≤ sizeLine ∧ Q (.str d.shown) H
  | _ => False
theorem rd1 {h : Heap} {v : V} {u : Value} {d : PyData} (r : RelV v u) (e : fd1 v = some d) : Reads h u d [] := by
  cases v with
  | int i => obtain ⟨t, rfl⟩ := r; cases e; exact .int i t
  | str z => obtain ⟨t, rfl⟩ := r; cases e; exact .str z t
  | bl b => cases r; cases e; exact .bool b
  | non => cases r; cases e; exact .none
  | _ => cases e
theorem rdKV {P : Program} {w : World} {h : Heap} : ∀ {kvs : List (Key × V)} {vs : List (Key × Value)} {es : List DictEntry} {ds : List (PyData × PyData)}, KV kvs vs → Pairs (mixKind P w) es vs → fdKV kvs = some ds →
    ReadsAll h (es.map (·.key)) (ds.map (·.1)) [] ∧ ReadsAll h (es.map (·.val)) (ds.map (·.2)) []
  | _, _, _, _, .nil, .nil, e => by cases e; exact ⟨.nil, .nil⟩
  | (k, v) :: r, (k', u) :: r', en :: es, ds, .cons hk hr, .cons h1 h2 h3, e => by
    obtain ⟨e1, e2⟩ := hk
    unfold fdKV at e
    split at e
    · rename_i d q ed eq
      cases e
      obtain ⟨a1, a2⟩ := rdKV (h := h) hr h3 eq
      refine ⟨?_, ?_⟩
      · refine ReadsAll.cons (as := []) (bs := []) ?_ a1
        show Reads h en.key (kd1 k) []
        have e1' : k = k' := e1
        subst e1'
        rcases keyIs_shape (show keyIs _ en.key = true from h1) with ⟨i, t, z1, z2⟩ | ⟨x, t, z1, z2⟩
        · have z1' : k = .inl i := z1
          rw [z2, z1']; exact .int i t
        · have z1' : k = .inr x := z1
          rw [z2, z1']; exact .str x t
      · refine ReadsAll.cons (as := []) (bs := []) ?_ a2
        show Reads h en.val d []
        rw [h2]
        exact rd1 e2 ed
    · cases e
theorem call_reprM {k : Nat} (hr : RoomG k X.A) : CallR X (.builtin "repr") (mRepr X.K) := by
  intro pins s σ H xs us Q I r h
  unfold mRepr at h
  split at h
  · rename_i x
    obtain ⟨d, hs, h1, h2, h3, q⟩ := h
    obtain ⟨u, rfl, ru⟩ := vals_one r
    have hun := hr.un
    have fin : ∀ (a : Addr) (as : List Addr), Reads s.heap (.ref a) d as → (d.hasDict = true → sysModules ∉ as) → wpAny (model X.prog X.w) X.A (call (.builtin "repr") [.ref a]) (EP X pins σ Q) X.xe s := fun a as rd hsm =>
      repr_of_reads' rd h1 hsm hr.gd (by omega) (fun _ _ e => e) (fun h' u tk k => ⟨.str d.shown, H, I.kept (t' := tk) k, ⟨u, rfl⟩, q⟩) h3
    cases hs with
    | dp hd hn =>
      obtain ⟨as, rd⟩ := Dp.reads I d x u hd ru
      have hsm : d.hasDict = true → sysModules ∉ as := PyData.noDict_hsm hn
      cases rd with
      | none => exact PySem.P.repr_of_none ⟨.str "None", H, I.tok _, ⟨_, rfl⟩, by simpa only [PyData.shown] using q⟩
      | bool b => exact PySem.P.repr_of_bool ⟨.str (if b then "True" else "False"), H, I.tok _, ⟨_, rfl⟩, by simpa only [PyData.shown] using q⟩
      | int i t => exact PySem.P.repr_of_int (by simpa [PyData.showable] using h1) ⟨.str (toString i), H, I.tok _, ⟨_, rfl⟩, by simpa only [PyData.shown] using q⟩
      | str z t => exact PySem.P.repr_of_str ⟨.str (reprText z), H, I.tok _, ⟨_, rfl⟩, by simpa only [PyData.shown] using q⟩ (by simpa only [PyData.shown] using h3)
      | list e1 e2 e3 e4 => exact fin _ _ (.list e1 e2 e3 e4) hsm
      | tuple e1 e2 e3 e4 => exact fin _ _ (.tuple e1 e2 e3 e4) hsm
      | dict e1 e2 e3 e4 e5 => exact fin _ _ (.dict e1 e2 e3 e4 e5) hsm
    | @dct a kvs ds ha hf =>
      cases ru
      obtain ⟨_, hns, vs, hkv, o, es, ep, e1, e2, e3, e4, e5, e6⟩ := dk_of I.hok ha
      obtain ⟨r1, r2⟩ := rdKV (h := s.heap) hkv e5 hf
      refine fin a ([a] ++ [] ++ []) (.dict e1 e2.1 e3 r1 r2) fun _ hm => ?_
      have z : sysModules = a := by simpa using hm
      rw [z] at hns
      simp at hns
  · exact h.elim
end
/-! ### a kept error's field, its class -/
structure ExcK (K : PySem.W.Frag) (fl : Str) (C : Addr) : Prop where
  ga : PySem.W.findIn K (.ref C) "__getattribute__" = some (some (.builtin "BaseException.__getattribute__"))
  gg : PySem.W.findIn K (.ref C) "__getattr__" = some none
  nf : PySem.W.findIn K (.ref C) fl = some none
  hd : PySem.W.hasDictIn K C = true
  exC : PySem.W.subIn K (.ref C) (.type "BaseException") = some true
  ha : PySem.W.findIn K (.ref C) "__class__" = some (some (.builtin "object.__class__"))
  hn : PySem.W.specialIn K (.builtin "object.__class__") "__get__" = some (some (.builtin "getset_descriptor.__get__"))
  ht : PySem.W.takesIn K (.builtin "object.__class__") = some true
  hm : PySem.W.mroIn K C (.type "object") = some true
def mFld (K : PySem.W.Frag) (fl : Str) (te : TE) : TE := fun σ H Q => te σ H fun x H1 => match x with
  | .ref a => ∃ (C d : Addr) (v : V), ExcK K fl C ∧ H1 a = some (exk a (.ref C) (some d)) ∧ H1 d = some (.xd [(fl, v)]) ∧ Q v H1
  | _ => False
section
variable {X : Cx}
theorem inst_of {pins : List (Addr × Obj)} {σ : L2.St} {H : Hp} {s : Shared} {a C d : Addr} {fs : List (Str × V)} (I : L2.Inv X pins σ H s) (h1 : H a = some (exk a (.ref C) (some d))) (h2 : H d = some (.xd fs)) :
    ∃ (o od : Obj) (mA : Str → Option Value), PySem.W.InstAt s.heap a o C (some od) ∧ s.heap.Ns1 d mA ∧ (∀ f, RelO (fs.lookup f) (mA f)) ∧ s.heap.get? d = some od := by
  obtain ⟨o, vs, e1, e2, e3, e4⟩ := exk_at I.hok h1
  have hx : ObjOk X.prog X.w H s.heap d (.xd fs) := I.hok d _ h2
  obtain ⟨mA, hns, hr⟩ := hx
  obtain ⟨od, ho, hl⟩ := lookIn_ns hns
  exact ⟨o, od, mA, ⟨e1, e2, by unfold PySem.W.notCls; rw [e4] <;> rfl, by rw [e3]; exact ho⟩, hns, hr, ho⟩
theorem me_fld {e : Expr} {te : TE} {fl : Str} {pos : Pos} (he : PE X e te) (hb : attributeBase e fl X.env (eval e X.env) = eval e X.env := by rfl) : PE X (.Attribute e fl pos) (mFld X.K fl te) := by
  refine ⟨fun pins s σ H Q I h => attr_of hb (thn ((pe_cl he).run pins s σ H (fun x H1 => ∃ (a C d : Addr) (v : V), x = .ref a ∧ ExcK X.K fl C ∧ H1 a = some (exk a (.ref C) (some d)) ∧ H1 d = some (.xd [(fl, v)]) ∧ Q v H1) I ⟨_, h, fun x H1 z => ?_⟩) fun u s1 hh => ?_)⟩
  · cases x with
    | ref a => obtain ⟨C, d, v, z⟩ := z; exact ⟨a, C, d, v, rfl, z⟩
    | _ => exact z.elim
  · obtain ⟨_, H1, I1, rx, a, C, d, v, rfl, T, h1, h2, q⟩ := hh
    cases rx
    obtain ⟨o, od, mA, J, hns, hr, ho⟩ := inst_of I1 h1 h2
    obtain ⟨od', ho', hl⟩ := lookIn_ns hns
    rw [ho] at ho'
    cases ho'
    have l : List.lookup fl [(fl, v)] = some v := by simp [List.lookup]
    obtain ⟨u, hu, ru⟩ := RelO.some_of (v := v) (o := mA fl) (by rw [← l]; exact hr fl)
    exact HandSPX.exc_get I1.kIn J T.ga T.gg T.exC (PySem.W.findObj_own T.hd T.nf rfl (by rw [hl, hu])) (handed_of ru) ⟨v, H1, I1.tok _, ru, q⟩
/-- isinstance(x, C'), x None or a kept error -/
def mIsiE (K : PySem.W.Frag) : List V → Hp → VK → Prop := fun xs H Q => match xs with
  | [.ref a, .ref C'] => ∃ (C d : Addr) (fl : Str) (fs : List (Str × V)) (b : Bool), ExcK K fl C ∧ H a = some (exk a (.ref C) (some d)) ∧ H d = some (.xd fs) ∧ PySem.W.kitOne K (.ref C) (.ref C') = some b ∧ Q (.bl b) H
  | _ => mIsi K xs H Q
theorem call_isiE : CallR X (.builtin "isinstance") (mIsiE X.K) := by
  intro pins s σ H xs us Q I r h
  unfold mIsiE at h
  split at h
  · rename_i a C'
    obtain ⟨C, d, fl, fs, b, T, h1, h2, hk, q⟩ := h
    cases r with
    | cons rx rr => cases rr with
      | cons rt rr =>
        cases rr; cases rx; cases rt
        obtain ⟨o, od, mA, J, _⟩ := inst_of I h1 h2
        obtain ⟨cd, hcd, _⟩ := PySem.W.any_some T.hd
        exact PySem.W.kia_one (PySem.W.kitx_exc (by rw [hcd]; rfl) T.ga T.gg T.exC T.ha T.hn T.ht T.hm) I.kIn J hk (fun z => nomatch z) fun tk => ⟨.bl b, H, I.kept (t' := tk) fun _ _ z => z, rfl, q⟩
  · exact call_isiM pins s σ H xs us Q I r h
end
end M

/-! ### the law's end for such defs -/
namespace M
open PySem PySem.Spec PyProof.Rows L2
section
variable {P : Program} {w : World} {K : PySem.W.Frag} {mg mb : Str → Option Value} {CX : CXT} {k : Nat} {fa a : Addr} {fd : FuncData} {x : Str} {sp : Sp} {s₁ : Shared} {vs : List Value} {ns : List Int}
/-- all but what H tracks is the ground -/
theorem ground_of {H : Hp} (KX : K.In s₁.heap) (hns : s₁.heap.Ns mainGlobals mg) (hb : s₁.heap.Ns builtinsNs mb) (hbb : ∀ x : Str, x ≠ "__name__" → mb x = bootBuiltins x) (hlim : s₁.heap.NoLimit) (hg : s₁.gens = #[])
    (hok : HOk P w H s₁.heap) (noD : ∀ b o es ep, s₁.heap.get? b = some o → o.data = .dict es ep → H b = none) (noK : ∀ b o, K.lookup b = some o → H b = none) :
    K.In (hidT s₁.heap H) ∧ (hidT s₁.heap H).Ns mainGlobals mg ∧ Env0 P w K mg (hidT s₁.heap H) callerA [] s₁ H := by
  have names : ∀ {b : Addr} {m : Str → Option Value}, s₁.heap.Ns b m → (hidT s₁.heap H).Ns b m := by
    rintro b m ⟨o, es, ep, e, d, r⟩
    exact ⟨o, es, ep, hidT_get e (noD b o es ep e d), d, r⟩
  have kin : K.In (hidT s₁.heap H) := fun b o e => hidT_get (KX b o e) (noK b o e)
  obtain ⟨mc, l1, l2⟩ := hlim
  refine ⟨kin, names hns, rfl, ⟨kin, names hns, ⟨mb, names hb, hbb⟩, mc, names l1, l2⟩, fun b o e => of_hidT e, Nat.le_of_eq (hidT_size _ _), trivial, fun b z => ?_, hok, .of_eq hg⟩
  cases z
theorem law_runG {H : Hp} (F : FnG P w K mg (hidT s₁.heap H) CX k fa fd [x] sp) (hr : RoomG k callerA) (e0 : Env0 P w K mg (hidT s₁.heap H) callerA [] s₁ H) (hbind : ∀ (s : Shared) (u : Value), BindsTo s fd ⟨[u], []⟩ [(x, u)]) (hO : Only H)
    (hsp : sp [.ref a] H (fun v _ => v = .bl true) fun _ _ _ => False) (hCX : ∀ H e s', CX [] H s₁ (fun _ _ _ => False) e s' → False) :
    codeAny (model P w) callerA (.call (.ref fa) ⟨[.ref a], []⟩) (fun r s' => r = .ok (.ret (.bool true)) ∧ OldK s₁.heap s'.heap ∧ s'.os = s₁.os ∧ AllBare s'.gens) s₁ := by
  refine codeAny_mono (F.run callerA [] s₁ H ⟨[.ref a], []⟩ [.ref a] [.ref a] _ _ hr e0 (hbind s₁ (.ref a)) (.cons rfl .nil) hsp) fun r s' h => ?_
  rcases r with e | fl
  · exact (hCX H e s' h).elim
  rcases fl with _ | _ | _ | u
  all_goals first | exact False.elim h | skip
  obtain ⟨v, H', os, bare, un, hok', rv, q⟩ := h
  cases (show v = .bl true from q)
  cases (show u = Value.bool true from rv)
  refine ⟨rfl, OldK.of_keep fun b o e => ?_, os, bare⟩
  rcases hO b with z | ⟨ob, xs, z⟩
  · exact un.keep b o e z (fun y => by cases y) (fun y => by cases y)
  · have e1 := (e0.hok b _ z).1
    have e2 := (hok' b _ (un.frzs b ob _ z)).1
    rw [e] at e1
    cases e1
    exact e2
theorem law_callG (KX : K.In s₁.heap) (hns : s₁.heap.Ns mainGlobals mg) (hb : s₁.heap.Ns builtinsNs mb) (hbb : ∀ x : Str, x ≠ "__name__" → mb x = bootBuiltins x) (hlim : s₁.heap.NoLimit) (hg : s₁.gens = #[])
    (ha : s₁.heap.get? a = some { cls := .type "list", data := .seq vs.toArray }) (hi : IntsAre vs ns) (hl : ns.length ≤ sizeLine) (hr : RoomG k callerA)
    (F : ∀ base : Heap, K.In base → base.Ns mainGlobals mg → FnG P w K mg base CX k fa fd [x] sp) (hbind : ∀ (s : Shared) (u : Value), BindsTo s fd ⟨[u], []⟩ [(x, u)])
    (hsp : ∀ H : Hp, Only H → SqL K H a (ns.map V.int) → sp [.ref a] H (fun v _ => v = .bl true) fun _ _ _ => False)
    (hCX : ∀ H e s', CX [] H s₁ (fun _ _ _ => False) e s' → False) :
    codeAny (model P w) callerA (.call (.ref fa) ⟨[.ref a], []⟩) (fun r s' => r = .ok (.ret (.bool true)) ∧ OldK s₁.heap s'.heap ∧ s'.os = s₁.os ∧ AllBare s'.gens) s₁ := by
  have go : ∀ H : Hp, Only H → SqL K H a (ns.map V.int) → HOk P w H s₁.heap → (∀ b, b ≠ a → H b = none) → (∀ o, K.lookup a = some o → H a = none) →
      codeAny (model P w) callerA (.call (.ref fa) ⟨[.ref a], []⟩) (fun r s' => r = .ok (.ret (.bool true)) ∧ OldK s₁.heap s'.heap ∧ s'.os = s₁.os ∧ AllBare s'.gens) s₁ := by
    intro H hO hS hok oth own
    obtain ⟨kin, nm, e0⟩ := ground_of KX hns hb hbb hlim hg hok (fun b o es ep e d => oth b fun z => by rw [z, ha] at e; cases e; cases d) fun b o e => by
      by_cases z : b = a
      · subst z; exact own o e
      · exact oth b z
    exact law_runG (F _ kin nm) hr e0 hbind hO (hsp H hO hS) hCX
  have rv := vals_ints hi
  cases hk : K.lookup a with
  | some o =>
    have e := KX a o hk
    rw [ha] at e
    cases e
    exact go (fun _ => none) (fun _ => .inl rfl) (.inr ⟨_, vs.toArray, _, hk, rfl, rfl, rfl, by rw [List.size_toArray, hi.length]; exact hl, by simpa using rv⟩) (fun b u z => nomatch (show (none : Option HO) = some u from z)) (fun _ _ => rfl) fun _ _ => rfl
  | none =>
    refine go (upd (fun _ => none) a (.frz { cls := .type "list", data := .seq vs.toArray } (.lst (ns.map V.int)))) (fun b => ?_) (.inl (.inr ⟨_, upd_same⟩)) (fun b u z => ?_) (fun b h => upd_ne h) fun o z => by rw [hk] at z; cases z
    · by_cases h : b = a
      · subst h; exact .inr ⟨_, _, upd_same⟩
      · exact .inl (upd_ne h)
    · by_cases h : b = a
      · subst h
        rw [upd_same] at z
        cases z
        exact ⟨ha, by rw [List.length_map]; exact hl, vs, _, rv, ha⟩
      · rw [upd_ne h] at z
        cases z
end
theorem walk_ofG {l : PySem.W.OpenLaw} {n k : Nat} {q : Program} {loose : List Str} {XP : (Str → Option Value) → Heap → Prop} {YP : World → Heap → Prop} {d : DefRec} {CX : CXT} {x : Str}
    (hn : l.most = some n) (hn2 : n ≤ sizeLine) (hdf : d.params.defaults = []) (hr : RoomG k callerA)
    (F : ∀ (w : World) (mg : Str → Option Value) (fa : Addr) (h : Heap), YP w h → h.Ns mainGlobals mg → mg d.name = some (.ref fa) →
      ∃ (K : PySem.W.Frag) (fd : FuncData) (sp : Sp), K.In h ∧ (∀ (s : Shared) (u : Value), BindsTo s fd ⟨[u], []⟩ [(x, u)]) ∧
        (∀ (H : Hp) (a : Addr) (ns : List Int), ns.length ≤ n → Only H → SqL K H a (ns.map V.int) → sp [.ref a] H (fun v _ => v = .bl true) fun _ _ _ => False) ∧
        ∀ base : Heap, K.In base → base.Ns mainGlobals mg → FnG l.prog w K mg base CX k fa fd [x] sp)
    (hCX : ∀ (H : Hp) (s : Shared) (e : Value) (s' : Shared), CX [] H s (fun _ _ _ => False) e s' → False) :
    PySem.W.WalkO q loose XP YP l.row.toRowW d [] (fun f vs => PySem.call f vs) := by
  refine Att.attach_call hn hdf fun w s₀ s₁ mg mb fa o pm cd doc a vs ns G Y ho hd hcd hmg hobj hints hlen hg => ?_
  obtain ⟨K, fd, sp, KX, hb, hsp, hF⟩ := F w mg fa _ Y G.T.g hmg
  exact law_callG KX G.T.g G.T.b G.T.builtins G.T.nolimit hg hobj hints (Nat.le_trans hlen hn2) hr hF hb (fun H hO hS => hsp H a ns hlen hO hS) fun H e s' => hCX H s₁ e s'
end M

/-! ### the head's facts, own errors among them -/
namespace M
open PySem PySem.Spec PyProof.Rows L2
/-- a def, its closure's names told -/
structure DefX where
  at_ : Str × Option Str
  name : Str
  qual : Str
  params : Arguments
  body : List Stmt
  scope : Scope
  dfl : List He.Dv := []
  kwd : List (Str × He.Dv) := []
  clos : List Str := []
abbrev FnX : Type := Option (Str × Str × Arguments × FuncBody × Scope × Addr × List Str × Addr)
def fnX (K : PySem.W.Frag) (p : Str × Option Str) : FnX := match K.lookup (He.fAd K p) with
  | some ⟨_, _, .func fd, _⟩ => some (fd.name, fd.qualname, fd.params, fd.body, fd.scope, fd.globals, fd.closure.map (·.1), fd.builtins)
  | _ => none
def DefX.val (d : DefX) : FnX := some (d.name, d.qual, d.params, .stmts d.body, d.scope, mainGlobals, d.clos, builtinsNs)
def DefX.dvs (K : PySem.W.Frag) (d : DefX) : List V := d.dfl.map (He.Dv.v K)
def DefX.kws (K : PySem.W.Frag) (d : DefX) : List (Str × V) := d.kwd.map fun q => (q.1, q.2.v K)
def DefX.ok (K : PySem.W.Frag) (d : DefX) : Bool := PySem.W.keepIn K (.ref (He.fAd K d.at_)) && (match K.lookup (He.fAd K d.at_) with
  | some ⟨_, _, .func fd, _⟩ => PySem.W.codeIn K fd.code d.qual && (He.dflB K fd.defaults (d.dvs K) && He.kwdB K fd.kwdefaults (d.kws K))
  | _ => false)
theorem DefX.look {K : PySem.W.Frag} {d : DefX} (e : fnX K d.at_ = d.val) (c : d.ok K = true) : PySem.W.keepIn K (.ref (He.fAd K d.at_)) = true ∧ ∃ (oc : Value) (od : Option Addr) (cl : List (Str × Addr)) (dV kV doc pm : Value) (an : Option Addr) (cdv ct : Value) (osl : Array (Option Value)),
    K.lookup (He.fAd K d.at_) = some ⟨oc, od, .func (PySem.W.fnX d.name d.qual d.params d.body d.scope cl dV kV doc pm an cdv ct), osl⟩ ∧ cl.map (·.1) = d.clos ∧ PySem.W.codeIn K cdv d.qual = true ∧ DflV K dV (d.dvs K) ∧ KwdV K kV (d.kws K) := by
  obtain ⟨kp, c2⟩ := He.ba c
  refine ⟨kp, ?_⟩
  unfold M.fnX at e
  cases q : K.lookup (He.fAd K d.at_) with
  | none =>
    rw [q] at c2
    cases c2
  | some o =>
    obtain ⟨oc, od, dt, osl⟩ := o
    rw [q] at c2 e
    cases dt with
    | func fd =>
      obtain ⟨n1, n2, n3, n4, n5, n6, n7, n8, n9, n10, n11, n12, n13, n14, n15⟩ := fd
      have e2 : (some (n1, n2, n3, n4, n5, n6, n7.map (·.1), n15) : FnX) = some (d.name, d.qual, d.params, .stmts d.body, d.scope, mainGlobals, d.clos, builtinsNs) := e
      simp only [Option.some.injEq, Prod.mk.injEq] at e2
      obtain ⟨h1, h2, h3, h4, h5, h6, h7, h8⟩ := e2
      subst h1 h2 h3 h4 h5 h6 h8
      obtain ⟨k1, k2⟩ := He.ba (show (PySem.W.codeIn K n13 d.qual && (He.dflB K n8 (d.dvs K) && He.kwdB K n9 (d.kws K))) = true from c2)
      obtain ⟨k3, k4⟩ := He.ba k2
      exact ⟨oc, od, n7, n8, n9, n10, n11, n12, n13, n14, osl, rfl, h7, k1, He.dflB_ok k3, He.kwdB_ok k4⟩
    | _ => cases c2
theorem DefX.funD {K : PySem.W.Frag} {d : DefX} (e : fnX K d.at_ = d.val) (c : d.ok K = true) (h : d.clos = []) : ∃ fd, FunD K d.name d.qual d.params d.body d.scope (d.dvs K) (d.kws K) (He.fAd K d.at_) fd := by
  obtain ⟨kp, oc, od, cl, dV, kV, doc, pm, an, cdv, ct, osl, lk, hc, h1, h2, h3⟩ := DefX.look e c
  rw [h] at hc
  obtain rfl : cl = [] := List.map_eq_nil_iff.mp hc
  exact ⟨_, ⟨oc, od, dV, kV, doc, pm, an, cdv, ct, osl, rfl, lk, h1, h2, h3⟩, kp⟩
abbrev FaX : Type := PySem.W.Frag → Bool
def asX (g : Addr → Option Obj) : Nat → List Addr
  | 0 => [mainGlobals, cStatics]
  | n + 1 => He.growD g (asX g n)
abbrev AlX : Type := Bool × List FnX
def obsX (fa : List FaX) (fn : List DefX) (K : PySem.W.Frag) : AlX := ((fa.all fun f => f K) && fn.all fun d => d.ok K, fn.map fun d => fnX K d.at_)
def valX (fn : List DefX) : AlX := (true, fn.map DefX.val)
def SaysX (fa : List FaX) (fn : List DefX) (K : PySem.W.Frag) : Prop := obsX fa fn K = valX fn
def obsXG (n : Nat) (fa : List FaX) (fn : List DefX) (g : Addr → Option Obj) : AlX := obsX fa fn (He.frG g (asX g n))
def hookX (n : Nat) (fa : List FaX) (fn : List DefX) : PySem.W.Hook where
  α := AlX
  obs := fun s => obsXG n fa fn s.heap.get?
  val := fun _ => valX fn
  says := fun _ h => ∃ K : PySem.W.Frag, K.In h ∧ SaysX fa fn K
  of := fun _ _ e => ⟨_, He.frG_in, e⟩
  keeps := fun _ _ _ ⟨K, hK, c⟩ k => ⟨K, PySem.W.Frag.In.keeps hK k, c⟩
theorem obsXG_eq {n : Nat} {fa : List FaX} {fn : List DefX} {g : Addr → Option Obj} {s : Shared} (h : ∀ a, g a = s.heap.get? a) : obsXG n fa fn g = (hookX n fa fn).obs s := by
  have e : g = s.heap.get? := funext h
  rw [e] <;> rfl
section
variable {fa : List FaX} {fn : List DefX} {K : PySem.W.Frag}
theorem SaysX.fact (c : SaysX fa fn K) (i : Nat) {f : FaX} (h : fa[i]? = some f := by rfl) : f K = true := by
  have c1 := (He.ba (show ((fa.all fun f => f K) && fn.all fun d => d.ok K) = true from congrArg (fun z : AlX => z.1) c)).1
  exact List.all_eq_true.mp c1 f (List.mem_of_getElem? h)
theorem SaysX.def0 (c : SaysX fa fn K) (i : Nat) {d : DefX} (h : fn[i]? = some d := by rfl) : fnX K d.at_ = d.val ∧ d.ok K = true := by
  have c2 := (He.ba (show ((fa.all fun f => f K) && fn.all fun d => d.ok K) = true from congrArg (fun z : AlX => z.1) c)).2
  have e : fn.map (fun d => fnX K d.at_) = fn.map DefX.val := congrArg (fun z : AlX => z.2) c
  have e2 : (fn.map fun d => fnX K d.at_)[i]? = (fn.map DefX.val)[i]? := by rw [e]
  rw [List.getElem?_map, List.getElem?_map, h] at e2
  exact ⟨Option.some.inj e2, List.all_eq_true.mp c2 d (List.mem_of_getElem? h)⟩
theorem SaysX.def_ (c : SaysX fa fn K) (i : Nat) {d : DefX} (h : fn[i]? = some d := by rfl) (hc : d.clos = [] := by rfl) : ∃ fd, FunD K d.name d.qual d.params d.body d.scope (d.dvs K) (d.kws K) (He.fAd K d.at_) fd :=
  DefX.funD (c.def0 i h).1 (c.def0 i h).2 hc
end
end M

namespace M
open PySem PySem.Spec PyProof.Rows L2 PySem.HandSPX
/-- the class at C is an own error class -/
def oexB (K : PySem.W.Frag) (C : Addr) : Bool := match K.lookup C with
  | some ⟨c, _, .cls cd, sl⟩ => decide (c = .type "type") && (cd.hasDict && (!cd.hasDel && (match cd.mro, sl.toList with
    | .ref C' :: bm, [_, _, _, _, some (.builtin n), _] => decide (C' = C) && (decide (n = "ValueError.__new__") && refsVE bm)
    | _, _ => false)))
  | _ => false
theorem oexB_ok {K : PySem.W.Frag} {C : Addr} (h : oexB K C = true) : ∃ nm q N bs bm sn sub ab col dd k0 k1 k2 k3 k5, K.lookup C = some (excClassObj nm q C N bs bm true sn sub ab col dd k0 k1 k2 k3 k5 "ValueError.__new__") ∧ refsVE bm = true := by
  unfold oexB at h
  split at h
  · rename_i c dd cd sl ho
    obtain ⟨h1, h⟩ := He.ba h
    obtain ⟨h2, h⟩ := He.ba h
    obtain ⟨h3, h⟩ := He.ba h
    split at h
    · rename_i C' bm k0 k1 k2 k3 n k5 hm hs
      obtain ⟨h4, h⟩ := He.ba h
      obtain ⟨h5, h6⟩ := He.ba h
      obtain ⟨nm, bs, mro, N, qn, hd, sn, sub, ab, col, del⟩ := cd
      obtain ⟨sl⟩ := sl
      have e3 : del = false := by simpa using h3
      have e2 : hd = true := h2
      have e1 := of_decide_eq_true h1
      have e4 := of_decide_eq_true h4
      have e5 := of_decide_eq_true h5
      dsimp only at hm hs
      subst e1 e2 e3 e4 e5 hm hs
      exact ⟨nm, qn, N, bs, bm, sn, sub, ab, col, dd, k0, k1, k2, k3, k5, ho, h6⟩
    · cases h
  · cases h
def cellB (P : Program) (K : PySem.W.Frag) (C : Addr) (f : Addr) : Bool := match K.lookup f with
  | some ⟨_, _, .func fd, _⟩ => (match fd.code with
    | .ref cda => (match K.lookup cda with
      | some ⟨_, _, .fields vs, _⟩ => (match (vs[2]? : Option Value) with
        | some (.str file _) => (P.main.file : Str) == file
        | _ => false)
      | _ => false)
    | _ => false) && (match fd.closure with
      | [(_, cc)] => (match K.lookup cc with
        | some ⟨_, _, .cell (some (.ref D)), _⟩ => decide (D = C)
        | _ => false)
      | _ => false)
  | _ => false
def exB (P : Program) (x fl : Str) (K : PySem.W.Frag) : Bool :=
  He.eqO (PySem.W.nsIn K mainGlobals x) (some (some (.ref (He.ga K x)))) && (oexB K (He.ga K x) && (He.eqO (PySem.W.findIn K (.ref (He.ga K x)) "__setattr__") (some (some (.builtin "object.__setattr__"))) &&
  (decide (PySem.W.subIn K (.ref (He.ga K x)) (.type "BaseException") = some true) && (decide (PySem.W.typeIn K (.ref (He.ga K x)) = some (.type "type")) && (PySem.W.keepIn K (.ref (He.ga K x)) &&
  (He.eqO (PySem.W.findIn K (.ref (He.ga K x)) "__getattribute__") (some (some (.builtin "BaseException.__getattribute__"))) && (He.eqO (PySem.W.findIn K (.ref (He.ga K x)) "__getattr__") (some none) && (He.eqO (PySem.W.findIn K (.ref (He.ga K x)) fl) (some none) &&
  (PySem.W.hasDictIn K (He.ga K x) && (He.eqO (PySem.W.findIn K (.ref (He.ga K x)) "__init__") (some (some (.ref (He.ma K (He.ga K x) "__init__")))) && (decide (PySem.W.typeIn K (.ref (He.ma K (He.ga K x) "__init__")) = some (.type "function")) &&
  (cellB P K (He.ga K x) (He.ma K (He.ga K x) "__init__") && (He.eqO (PySem.W.nsIn K cStatics "thirdparty.any") (some none) && (He.eqO (PySem.W.ks_superIn K (He.ga K x) (He.ga K x) "__init__") (some (some (.builtin "ValueError.__init__"))) &&
  (decide (PySem.W.mroIn K (He.ga K x) (.ref (He.ga K x)) = some true) && (decide (PySem.W.subIn K (.ref (He.ga K x)) (.type "ValueError") = some true) && (He.eqO (PySem.W.findIn K (.ref (He.ga K x)) "__class__") (some (some (.builtin "object.__class__"))) &&
  (He.eqO (PySem.W.nsIn K mainGlobals "super") (some none) && decide (PySem.W.mroIn K (He.ga K x) (.type "object") = some true)))))))))))))))))))
theorem ex_get {K : PySem.W.Frag} : PySem.W.specialIn K (.builtin "object.__class__") "__get__" = some (some (.builtin "getset_descriptor.__get__")) ∧ PySem.W.takesIn K (.builtin "object.__class__") = some true := by
  constructor
  · kernel_rfl
  · kernel_rfl
section
variable {P : Program} {w : World} {K : PySem.W.Frag} {h : Heap} {mg : Str → Option Value} {x fl : Str}
theorem cell_of {C f : Addr} {oc : Value} {od : Option Addr} {osl : Array (Option Value)} {fd : FuncData} (lk : K.lookup f = some ⟨oc, od, .func fd, osl⟩) (c : cellB P K C f = true) :
    (∃ (cda : Addr), fd.code = .ref cda ∧ ∃ (ccl : Value) (cdd : Option Addr) (vs : Array Value) (ccs : Array (Option Value)) (file : Str) (tf : Tok), K.lookup cda = some ⟨ccl, cdd, .fields vs, ccs⟩ ∧ vs[2]? = some (.str file tf) ∧ ((P.main.file : Str) == file) = true) ∧
    ∃ (n : Str) (cc : Addr), fd.closure = [(n, cc)] ∧ ∃ (cl : Value) (cld : Option Addr) (csl : Array (Option Value)), K.lookup cc = some ⟨cl, cld, .cell (some (.ref C)), csl⟩ := by
  unfold cellB at c
  rw [lk] at c
  obtain ⟨c1, c2⟩ := He.ba c
  constructor
  · split at c1
    · rename_i cda e1
      split at c1
      · rename_i ccl cdd vs ccs e2
        split at c1
        · rename_i file tf e3
          exact ⟨cda, e1, ccl, cdd, vs, ccs, file, tf, e2, e3, c1⟩
        · cases c1
      · cases c1
    · cases c1
  · split at c2
    · rename_i n cc e1
      split at c2
      · rename_i cl cld D csl e2
        have e := of_decide_eq_true c2
        subst e
        exact ⟨n, cc, e1, cl, cld, csl, e2⟩
      · cases c2
    · cases c2
theorem ex_of {q : List Pos} {d : DefX} {ar : Arg} (X : K.In h) (G : h.Ns mainGlobals mg) (c : exB P x fl K = true) (D : fnX K d.at_ = d.val ∧ d.ok K = true) (hat : d.at_ = (x, some ("__init__" : Str))) (hn : d.name = "__init__") (hcl : d.clos = [("__class__" : Str)]) (hdf : d.dfl = [.non])
    (hb : d.body = eiB fl q) (hp : (d.params.posonlyargs ++ d.params.args).head? = some ar) (har : ar.arg = "self") (hsf : fl ≠ "self") (hdb : (fl == ("__debug__" : Str)) = false)
    (k1 : d.scope.kind = .function) (k2 : d.scope.isGenerator = false) (k3 : d.scope.isCoroutine = false) (k4 : d.scope.names.lookup ("self" : Str) = some .local) (k5 : d.scope.names.lookup fl = some .local) (k6 : d.scope.names.lookup ("super" : Str) = some .globalImplicit)
    (k7 : d.scope.names.lookup ("__class__" : Str) = some .free) (k8 : ∀ x ∈ d.scope.names, x.2 ≠ .cell) (htop : (P.main.scope.names.lookup ("super" : Str)).isSome = false)
    (hint : ∀ env : Env, env.scope = d.scope → interactive env = false)
    (hev : ∀ env : Env, env.scope = d.scope → ∃ pl : Sem Bool, eval (.Call (.Attribute (.Call (.Name "super" (qp q 0)) [] [] (qp q 1)) "__init__" (qp q 2)) [.Name fl (qp q 3)] [] (qp q 4)) env = (do
      let ov ← attributeBase (.Call (.Name "super" (qp q 0)) [] [] (qp q 1)) "__init__" env (eval (.Call (.Name "super" (qp q 0)) [] [] (qp q 1)) env)
      standAt (qp q 2).atName
      let (f, first) ← holding [ov] (getMethod ov "__init__" pl)
      callWith (qp q 4) f first (backTo (qp q 4) (starEach [.Name fl (qp q 3)] env)) []))
    (hsw : ∀ env : Env, env.scope = d.scope → swapsWith (.Name fl (qp q 8)) (some (.Attribute (.Name "self" (qp q 6)) fl (qp q 7))) (qp q 9).line env = pure false)
    (hb2 : ∀ (T : Addr) (cl : List (Str × Addr)) (kV doc pm : Value) (an : Option Addr) (cdv ct u v : Value), ∃ k, bindArgs (PySem.W.fnX d.name d.qual d.params d.body d.scope cl (.ref T) kV doc pm an cdv ct) ⟨[u, v], []⟩ = seqItems? (.ref T) >>= k ∧ k (some #[.none]) = pure [(("self" : Str), u), (fl, v)])
    (hb1 : ∀ (T : Addr) (cl : List (Str × Addr)) (kV doc pm : Value) (an : Option Addr) (cdv ct u : Value), ∃ k, bindArgs (PySem.W.fnX d.name d.qual d.params d.body d.scope cl (.ref T) kV doc pm an cdv ct) ⟨[u], []⟩ = seqItems? (.ref T) >>= k ∧ k (some #[.none]) = pure [(("self" : Str), u), (fl, .none)])
    (hbk : ∀ (T : Addr) (cl : List (Str × Addr)) (kV doc pm : Value) (an : Option Addr) (cdv ct u v : Value), ∃ k, bindArgs (PySem.W.fnX d.name d.qual d.params d.body d.scope cl (.ref T) kV doc pm an cdv ct) ⟨[u], [(fl, v)]⟩ = seqItems? (.ref T) >>= k ∧ k (some #[.none]) = pure [(("self" : Str), u), (fl, v)]) :
    ExcAt P w K mg x fl (He.ga K x) ∧ ExcK K fl (He.ga K x) := by
  unfold exB at c
  simp only [Bool.and_eq_true, decide_eq_true_eq] at c
  obtain ⟨c1, c2, c3, c4, c5, c6, c7, c8, c9, c10, c11, c12, c13, c14, c15, c16, c17, c18, c19, c20⟩ := c
  have T : OexC K (He.ga K x) := ⟨oexB_ok c2, He.eqO_ok c3, c4, c5, c6⟩
  have hsup := PySem.W.mg_none_of X G (He.eqO_ok c19)
  obtain ⟨_, oc, od, cl, dV, kV, doc, pm, an, cdv, ct, osl, lk, hc, hcode, hD, _⟩ := DefX.look D.1 D.2
  have hf : He.fAd K d.at_ = He.ma K (He.ga K x) "__init__" := by rw [hat]; rfl
  rw [hf] at lk
  obtain ⟨⟨cda, e1, z1⟩, n, cc, e2, z2⟩ := cell_of lk c13
  obtain rfl : cdv = .ref cda := e1
  obtain rfl : cl = [(n, cc)] := e2
  rw [hcl] at hc
  obtain rfl : n = "__class__" := by simpa using hc
  have hdv : d.dvs K = [.non] := by unfold DefX.dvs; rw [hdf]; rfl
  rw [hdv] at hD
  rcases hD with ⟨z, _⟩ | ⟨_, Ta, oT, its, nT, rfl, lT, hT, rT⟩
  · cases z
  obtain ⟨u0, rfl, ru⟩ := vals_one rT
  obtain rfl : u0 = .none := ru
  have bnd : ∀ {args : Args} {r : List (Str × Value)}, (∃ k, bindArgs (PySem.W.fnX d.name d.qual d.params d.body d.scope [("__class__", cc)] (.ref Ta) kV doc pm an (.ref cda) ct) args = seqItems? (.ref Ta) >>= k ∧ k (some #[.none]) = pure r) → ∀ s : Shared, K.In s.heap →
      BindsTo s (PySem.W.fnX d.name d.qual d.params d.body d.scope [("__class__", cc)] (.ref Ta) kV doc pm an (.ref cda) ct) args r := by
    rintro args r ⟨k, e1, e2⟩ s KX
    refine BindsTo.of_looks fun M => ?_
    rw [e1]
    exact looks_items KX lT hT (.of_pure e2)
  refine ⟨⟨PySem.W.mg_of X G (He.eqO_ok c1), T, He.eqO_ok c7, He.eqO_ok c8, He.eqO_ok c9, c10, He.ma K (He.ga K x) "__init__", _, He.eqO_ok c11, c12, ?_, fun s u v KX => bnd (hb2 _ _ _ _ _ _ _ _ _ _) s KX, fun s u KX => bnd (hb1 _ _ _ _ _ _ _ _ _) s KX, fun s u v KX => bnd (hbk _ _ _ _ _ _ _ _ _ _) s KX⟩,
    ⟨He.eqO_ok c7, He.eqO_ok c8, He.eqO_ok c9, c10, c4, He.eqO_ok c18, ex_get.1, ex_get.2, c20⟩⟩
  intro A R s args x' t0 v KX lim Gs Bs hx hnx hroom hbind hq
  obtain ⟨mb, B1, B2⟩ := Bs
  rw [hn, hb] at lk hbind
  exact ini_run (mg := mg) (mb := mb) KX lim Gs B1 hsup ((B2 _ (by decide)).trans ve_slot) T (He.eqO_ok c9) lk hcode z1 z2 hp har hsf hdb k1 k2 k3 k4 k5 k6 k7 k8 htop (He.eqO_ok c14) (He.eqO_ok c15) c16 c17 hint hev hsw hx hnx hroom hbind hq
end
end M

namespace M
open PySem PySem.Spec PyProof.Rows L2
section
variable {X : Cx} {k : Nat} {ps : List Str} {sp : Sp} {dvs : List V} {W : WX} {x : Str} {p pos : Pos} {e : Expr} {es : List Expr} {t : TA}
theorem me_callS (C : CalG X.prog X.w X.K X.mg X.base (L2.CX X.prog X.w) x k ps dvs sp) (hr : RoomG k X.A) (hg : Gl X x) (tk : Takes X W) (ha : PA X (e :: es) t) (hdb : (x == ("__debug__" : Str)) = false := by decide)
    (he : starEach (e :: es) X.env = (false, eval e X.env) :: starEach es X.env := by rfl) (hpl : (backTo pos (starEach es X.env)).any (·.1) = false := by rfl) : PE X (.Call (.Name x p) (e :: es) [] pos) (tCallSD sp dvs (WE W) t) := by
  obtain ⟨f, fd, ds, F, hm, hk, hb, hd⟩ := C.ex
  refine ⟨fun pins s σ H Q I h => wpAny_Call_Name_kw (ld_glob I hg hm (PySem.W.callWith_K (h₀ := X.base) I.ok.mod.kin hk (thn (ha.run pos pins s σ H _ I h) fun us s1 ⟨vs, H1, I1, r, q⟩ => ⟨I1.kIn, ?_⟩) he hpl) hdb)⟩
  have r2 : Vals (vs ++ dvs) (us ++ ds) := r.append hd
  refine wpAny_call (codeAny_mono (F.run X.A X.stack s1 H1 ⟨us, []⟩ (us ++ ds) (vs ++ dvs) Q (WE W σ) hr I1.env0 (hb s1 us I1.kIn (r2.length.symm.trans (F.len _ _ _ _ q))) r2 q) fun r s' hq => ?_)
  rcases r with er | fl
  · exact passAt tk σ pins H1 s1 er s' I1 hq
  · cases fl with
    | ret u => exact I1.after hq
    | next => exact False.elim hq
    | brk => exact False.elim hq
    | cont => exact False.elim hq
theorem me_callG0 {CX : CXT} {E : XK} (C : CalG X.prog X.w X.K X.mg X.base CX x k ps dvs sp) (hr : RoomG k X.A) (hg : Gl X x) (hx : Passes CX X E) (hdb : (x == ("__debug__" : Str)) = false := by decide) : PE X (.Call (.Name x p) [] [] pos) (tCall sp dvs E tNil) := by
  obtain ⟨f, fd, ds, F, hm, hk, hb, hd⟩ := C.ex
  refine ⟨fun pins s σ H Q I h => wpAny_Call_Name_kw (ld_glob I hg hm (PySem.W.callWith_K0 I.kIn hk ?_) hdb)⟩
  refine wpAny_call (codeAny_mono (F.run X.A X.stack s H ⟨[], []⟩ ([] ++ ds) ([] ++ dvs) Q E hr I.env0 (hb s [] I.kIn (hd.length.symm.trans (F.len _ _ _ _ h))) hd h) fun r s' hq => ?_)
  rcases r with er | fl
  · exact hx pins σ H s er s' I hq
  · cases fl with
    | ret u => exact I.after hq
    | next => exact False.elim hq
    | brk => exact False.elim hq
    | cont => exact False.elim hq
theorem CalG.mono {P : Program} {w : World} {K : PySem.W.Frag} {mg : Str → Option Value} {base : Heap} {CX : CXT} {x : Str} {k j : Nat} {ps : List Str} {dvs : List V} {sp : Sp} (C : CalG P w K mg base CX x k ps dvs sp) (h : k ≤ j) : CalG P w K mg base CX x j ps dvs sp := by
  obtain ⟨f, fd, ds, F, r⟩ := C.ex
  exact ⟨f, fd, ds, F.mono h, r⟩
end
end M
namespace M
open PySem PySem.Spec PyProof.Rows L2
/-- no error is wished for: none comes -/
theorem passF {X : Cx} : Passes (L2.CX X.prog X.w) X E0 := fun _ _ _ _ _ _ _ c => by
  obtain ⟨_, _, _, _, _, _, _, _, _, _, _, _, z⟩ := c
  exact z.elim
end M

namespace M
open PySem PySem.Spec PyProof.Rows L2
/-- (a, b, ..) = a tuple or a list -/
def mgSeq (K : PySem.W.Frag) (n : Nat) (t : TGs) : TG := fun v σ H Q => match v with
  | .ref a => ∃ xs, (SqT K H a xs ∨ SqL K H a xs) ∧ xs.length = n ∧ t xs σ H Q
  | _ => False
theorem mg_seq {X : Cx} {es : List Expr} {k : Nat} {t : TGs} {n : Nat} {pos : Pos} (hc : X.calm = true) (h : PGs X es t)
    (hn : (assignEach es X.env).length = n := by rfl) (hst : (assignEach es X.env).findIdx? (·.1) = none := by rfl) : PG X (.Tuple es k pos) (mgSeq X.K n t) := by
  refine ⟨fun pins s σ H v u Q I r q => ?_⟩
  unfold mgSeq at q
  split at q
  · obtain ⟨xs, h1 | h1, h2, h3⟩ := q
    · exact (pg_tup hc h hn hst).run pins s σ H _ u Q I r ⟨_, xs, rfl, h1, h2, h3⟩
    · exact (pg_unl hc h hn hst).run pins s σ H _ u Q I r ⟨_, xs, rfl, h1, h2, h3⟩
  · exact q.elim
end M

/-! ### comprehensions with two clauses; sorted texts -/
namespace M
open PySem PySem.Spec PyProof.Rows L2
section
variable {X : Cx}
/-- sorted(l), l a list of texts of any length -/
def mSorted (K : PySem.W.Frag) : List V → Hp → VK → Prop := fun vs H Q => match vs with
  | [.ref a] => ∃ xs : List Str, SqL K H a (xs.map V.str) ∧ ∀ (ys : List Str) (p : Addr), ys.Perm xs → sortedS ys = true → H p = none → Q (.ref p) (upd H p (.lst (ys.map V.str)))
  | _ => False
theorem call_sortedM : CallR X (.builtin "sorted") (mSorted X.K) := by
  intro pins s σ H vs us Q I r h
  unfold mSorted at h
  split at h
  · rename_i a
    obtain ⟨xs, hs, q⟩ := h
    obtain ⟨its, rv, hl, hz⟩ := I.list hs
    rw [Vals.ref1 r]
    refine PyProof.Rows.sorted_strsAny hl.isList rv.strs (by rw [← rv.length]; exact hz) fun out ys h1 h2 h3 => ?_
    obtain ⟨ep, he'⟩ := PyProof.Rows.sortedAll_at s.heap its out
    have hlen : (ys.map V.str).length ≤ sizeLine := by
      rw [List.length_map, h2.length_eq]
      rw [List.length_map] at hz
      exact hz
    exact ⟨.ref _, upd H (s.heap.objs.size + 1) (.lst (ys.map V.str)), I.laid (t' := s.toks) (fun _ _ => PyProof.Rows.sortedAll_old) (Nat.le_succ _) ⟨hlen, out.toList, ep, vals_of_strs h1, he'⟩, rfl, q ys _ h2 h3 (I.hok.fresh (Nat.le_succ _))⟩
  · exact h.elim
end
/-- what a clause's source hands on -/
def inner (s : Src) (g1 : TG) (tt1 : TT) (te : TE) (vs1 : List Nat) (τ : Sl) (D : Addr) (N : Hp → Prop) (H : Hp) : Prop := match s with
  | .v G L => cV G g1 tt1 te vs1 τ D N L H
  | .p G L => cP G g1 tt1 te vs1 τ D N L H
def dV (G : Hp → Prop) (g : TG) (tt : TT) (wi1 : MI) (g1 : TG) (tt1 : TT) (te : TE) (vs vs1 : List Nat) (τ : Sl) (D : Addr) (Q : Hp → Prop) : List V → Hp → Prop
  | [], H => G H ∧ Q H
  | x :: r, H => G H ∧ g x τ H fun σ2 H2 => wipe σ2 vs = τ ∧ tt σ2 H2 fun b H3 => if b = true then wi1 σ2 H3 fun s H4 => inner s g1 tt1 te vs1 (wipe σ2 vs1) D (dV G g tt wi1 g1 tt1 te vs vs1 τ D Q r) H4 else dV G g tt wi1 g1 tt1 te vs vs1 τ D Q r H3
def dP (G : Hp → Prop) (g : TG) (tt : TT) (wi1 : MI) (g1 : TG) (tt1 : TT) (te : TE) (vs vs1 : List Nat) (τ : Sl) (D : Addr) (Q : Hp → Prop) : List (V × V) → Hp → Prop
  | [], H => G H ∧ Q H
  | x :: r, H => G H ∧ ∀ T, H T = none → g (.ref T) τ (upd H T (.tup [x.1, x.2])) fun σ2 H2 => wipe σ2 vs = τ ∧ tt σ2 H2 fun b H3 => if b = true then wi1 σ2 H3 fun s H4 => inner s g1 tt1 te vs1 (wipe σ2 vs1) D (dP G g tt wi1 g1 tt1 te vs vs1 τ D Q r) H4 else dP G g tt wi1 g1 tt1 te vs vs1 τ D Q r H3
def mLc2 (wi : MI) (g : TG) (tt : TT) (wi1 : MI) (g1 : TG) (tt1 : TT) (te : TE) (vs vs1 : List Nat) : TE := fun σ H Q => wi σ H fun s H1 => ∀ D, H1 D = none → match s with
  | .v G L => dV G g tt wi1 g1 tt1 te vs vs1 (wipe σ vs) D (Q (.ref D)) L (upd H1 D (.lst []))
  | .p G L => dP G g tt wi1 g1 tt1 te vs vs1 (wipe σ vs) D (Q (.ref D)) L (upd H1 D (.lst []))
/-- the second source's own loop, over what feeds -/
theorem inner_W {J : It} {s : Src} (f : Feeds J s) {g1 : TG} {tt1 : TT} {te : TE} {vs1 : List Nat} {σ2 : Sl} {D : Addr} {N : Hp → Prop} {H4 : Hp} (z : inner s g1 tt1 te vs1 (wipe σ2 vs1) D N H4) :
    ∃ W1 : Nat → Nat → Hp → Prop, (∃ m, W1 0 m H4) ∧ ∀ j k H, W1 j k H →
      (J.stop j H ∧ N H) ∨ (J.go j H ∧ ∃ Nx1 : Hp → Prop, (∀ H', Nx1 H' → ∃ k', k' < k ∧ W1 (j + 1) k' H') ∧ ∀ x H', J.yld j H x H' → g1 x (wipe σ2 vs1) H' fun σ3 H5 => wipe σ3 vs1 = wipe σ2 vs1 ∧ tt1 σ3 H5 fun b H6 =>
        if b = true then te σ3 H6 fun y H7 => ∃ acc, H7 D = some (.lst acc) ∧ acc.length < sizeLine ∧ Nx1 (upd H7 D (.lst (acc ++ [y]))) else Nx1 H6) := by
  cases s with
  | v G L =>
    have w : Walk J L.length G (YAt L) := f
    refine ⟨fun i m H => m = L.length - i ∧ i ≤ L.length ∧ cV G g1 tt1 te vs1 (wipe σ2 vs1) D N (L.drop i) H, ⟨_, rfl, Nat.zero_le _, z⟩, ?_⟩
    rintro i m H ⟨rfl, hi, p⟩
    by_cases hlt : i < L.length
    · refine .inr ⟨w.goes i H hlt (cV_G p), fun H' => cV G g1 tt1 te vs1 (wipe σ2 vs1) D N (L.drop (i + 1)) H', fun H' p' => ⟨L.length - (i + 1), by omega, rfl, hlt, p'⟩, fun x H' y => ?_⟩
      obtain ⟨e, hx⟩ := w.yields i H x H' hlt (cV_G p) y
      subst e
      rw [drop_at hx] at p
      exact p.2
    · have e : i = L.length := by omega
      subst e
      refine .inl ⟨w.stops H (cV_G p), ?_⟩
      rw [List.drop_length] at p
      exact p.2
  | p G L =>
    have w : Walk J L.length G (YPair (fun i => L[i]?.map (·.1)) (fun i => L[i]?.map (·.2))) := f
    refine ⟨fun i m H => m = L.length - i ∧ i ≤ L.length ∧ cP G g1 tt1 te vs1 (wipe σ2 vs1) D N (L.drop i) H, ⟨_, rfl, Nat.zero_le _, z⟩, ?_⟩
    rintro i m H ⟨rfl, hi, p⟩
    by_cases hlt : i < L.length
    · refine .inr ⟨w.goes i H hlt (cP_G p), fun H' => cP G g1 tt1 te vs1 (wipe σ2 vs1) D N (L.drop (i + 1)) H', fun H' p' => ⟨L.length - (i + 1), by omega, rfl, hlt, p'⟩, fun x H' y => ?_⟩
      obtain ⟨T, a, b, e1, e2, e3, e4, e5⟩ := w.yields i H x H' hlt (cP_G p) y
      subst e1 e3
      have hx : L[i]? = some L[i] := List.getElem?_eq_getElem hlt
      rw [drop_at hx] at p
      have q := p.2 T e2
      have e4' : L[i]?.map (·.1) = some a := e4
      have e5' : L[i]?.map (·.2) = some b := e5
      rw [hx] at e4' e5'
      cases e4'
      cases e5'
      exact q
    · have e : i = L.length := by omega
      subst e
      refine .inl ⟨w.stops H (cP_G p), ?_⟩
      rw [List.drop_length] at p
      exact p.2
theorem dV_G {G : Hp → Prop} {g : TG} {tt : TT} {wi1 : MI} {g1 : TG} {tt1 : TT} {te : TE} {vs vs1 : List Nat} {τ : Sl} {D : Addr} {Q : Hp → Prop} {L : List V} {H : Hp} (h : dV G g tt wi1 g1 tt1 te vs vs1 τ D Q L H) : G H := by
  cases L <;> exact h.1
theorem dP_G {G : Hp → Prop} {g : TG} {tt : TT} {wi1 : MI} {g1 : TG} {tt1 : TT} {te : TE} {vs vs1 : List Nat} {τ : Sl} {D : Addr} {Q : Hp → Prop} {L : List (V × V)} {H : Hp} (h : dP G g tt wi1 g1 tt1 te vs vs1 τ D Q L H) : G H := by
  cases L <;> exact h.1
def clG (g : TG) : TG := fun v σ H Q => ∃ Q' : Sl → Hp → Prop, g v σ H Q' ∧ ∀ σ' H', Q' σ' H' → Q σ' H'
theorem pg_cl {X : Cx} {e : Expr} {g : TG} (h : PG X e g) : PG X e (clG g) := ⟨fun pins s σ H v u Q I r ⟨Q', q, w⟩ => thn (h.run pins s σ H v u Q' I r q) fun _ _ ⟨σ', H', I', z⟩ => ⟨σ', H', I', w _ _ z⟩⟩
theorem pts_cl {X : Cx} {es : List Expr} {t : TT} (h : PTs X es t) : PTs X es (clT t) := ⟨fun pins s σ H Q I ⟨Q', q, w⟩ => thn (h.run pins s σ H Q' I q) fun _ _ ⟨H', I', z⟩ => ⟨H', I', w _ H' z⟩⟩
theorem lc2_toM {wi : MI} {g : TG} {tt : TT} {wi1 : MI} {g1 : TG} {tt1 : TT} {te : TE} {vs vs1 : List Nat} {σ : Sl} {H : Hp} {Q : VK} (q : mLc2 wi g tt wi1 g1 tt1 te vs vs1 σ H Q) : tLc2 (toTI wi) (clG g) (clT tt) (toTI wi1) g1 tt1 te vs vs1 σ H Q :=
  ⟨_, q, fun s H1 J z f D hD => by
    have z := z D hD
    have nxt : ∀ {N : Hp → Prop} {σ2 : Sl} {H3 : Hp} {b : Bool} (q : if b = true then wi1 σ2 H3 fun s H4 => inner s g1 tt1 te vs1 (wipe σ2 vs1) D N H4 else N H3),
        if b = true then toTI wi1 σ2 H3 fun J1 H4 => ∃ W1 : Nat → Nat → Hp → Prop, (∃ m, W1 0 m H4) ∧ ∀ j k H, W1 j k H →
          (J1.stop j H ∧ N H) ∨ (J1.go j H ∧ ∃ Nx1 : Hp → Prop, (∀ H', Nx1 H' → ∃ k', k' < k ∧ W1 (j + 1) k' H') ∧ ∀ x H', J1.yld j H x H' → g1 x (wipe σ2 vs1) H' fun σ3 H5 => wipe σ3 vs1 = wipe σ2 vs1 ∧ tt1 σ3 H5 fun b H6 =>
            if b = true then te σ3 H6 fun y H7 => ∃ acc, H7 D = some (.lst acc) ∧ acc.length < sizeLine ∧ Nx1 (upd H7 D (.lst (acc ++ [y]))) else Nx1 H6) else N H3 := fun {N σ2 H3 b} q => by
      cases b with
      | false => exact q
      | true => exact ⟨_, q, fun s1 H4 J1 z1 f1 => inner_W f1 z1⟩
    cases s with
    | v G L =>
      have w : Walk J L.length G (YAt L) := f
      refine ⟨fun i m H => m = L.length - i ∧ i ≤ L.length ∧ dV G g tt wi1 g1 tt1 te vs vs1 (wipe σ vs) D (Q (.ref D)) (L.drop i) H, ⟨_, rfl, Nat.zero_le _, z⟩, ?_⟩
      rintro i m H ⟨rfl, hi, p⟩
      by_cases hlt : i < L.length
      · refine .inr ⟨w.goes i H hlt (dV_G p), fun H' => dV G g tt wi1 g1 tt1 te vs vs1 (wipe σ vs) D (Q (.ref D)) (L.drop (i + 1)) H', fun H' p' => ⟨L.length - (i + 1), by omega, rfl, hlt, p'⟩, fun x H' y => ?_⟩
        obtain ⟨e, hx⟩ := w.yields i H x H' hlt (dV_G p) y
        subst e
        rw [drop_at hx] at p
        exact ⟨_, p.2, fun σ2 H2 h => ⟨h.1, _, h.2, fun b H3 h => nxt h⟩⟩
      · have e : i = L.length := by omega
        subst e
        refine .inl ⟨w.stops H (dV_G p), ?_⟩
        rw [List.drop_length] at p
        exact p.2
    | p G L =>
      have w : Walk J L.length G (YPair (fun i => L[i]?.map (·.1)) (fun i => L[i]?.map (·.2))) := f
      refine ⟨fun i m H => m = L.length - i ∧ i ≤ L.length ∧ dP G g tt wi1 g1 tt1 te vs vs1 (wipe σ vs) D (Q (.ref D)) (L.drop i) H, ⟨_, rfl, Nat.zero_le _, z⟩, ?_⟩
      rintro i m H ⟨rfl, hi, p⟩
      by_cases hlt : i < L.length
      · refine .inr ⟨w.goes i H hlt (dP_G p), fun H' => dP G g tt wi1 g1 tt1 te vs vs1 (wipe σ vs) D (Q (.ref D)) (L.drop (i + 1)) H', fun H' p' => ⟨L.length - (i + 1), by omega, rfl, hlt, p'⟩, fun x H' y => ?_⟩
        obtain ⟨T, a, b, e1, e2, e3, e4, e5⟩ := w.yields i H x H' hlt (dP_G p) y
        subst e1 e3
        have hx : L[i]? = some L[i] := List.getElem?_eq_getElem hlt
        rw [drop_at hx] at p
        have q := p.2 T e2
        have e4' : L[i]?.map (·.1) = some a := e4
        have e5' : L[i]?.map (·.2) = some b := e5
        rw [hx] at e4' e5'
        cases e4'
        cases e5'
        exact ⟨_, q, fun σ2 H2 h => ⟨h.1, _, h.2, fun b H3 h => nxt h⟩⟩
      · have e : i = L.length := by omega
        subst e
        refine .inl ⟨w.stops H (dP_G p), ?_⟩
        rw [List.drop_length] at p
        exact p.2⟩
section
variable {X : Cx}
theorem me_lc2 {elt tg iter tg1 iter1 : Expr} {ifs ifs1 : List Expr} {scope : Scope} {own : List (Str × Nat)} {vs1 : List Nat} {pos : Pos} {wi wi1 : MI} {g g1 : TG} {tt tt1 : TT} {te : TE} (hc : X.calm = true) (hN : X.N.Nodup) (hi : PI X tg iter (toTI wi)) (ok : BlkOk X.N X.env.scope scope own) (hv : ∀ i ∈ vs1, i ∈ own.map (·.2))
    (hg : ∀ (s : Shared) (H : Hp) (C : Addr) (cl : List (Str × Addr)) (fp : List Addr), PG (X.blk s H scope (compEnvC scope cl C X.env) fp) tg g) (ht : ∀ (s : Shared) (H : Hp) (C : Addr) (cl : List (Str × Addr)) (fp : List Addr), PTs (X.blk s H scope (compEnvC scope cl C X.env) fp) ifs tt)
    (hi1 : ∀ (s : Shared) (H : Hp) (C : Addr) (cl : List (Str × Addr)) (fp : List Addr), PI (X.blk s H scope (compEnvC scope cl C X.env) fp) tg1 iter1 (toTI wi1))
    (hg1 : ∀ (s : Shared) (H : Hp) (C : Addr) (cl : List (Str × Addr)) (fp : List Addr), PG (X.blk s H scope (compEnvC scope cl C X.env) fp) tg1 g1) (ht1 : ∀ (s : Shared) (H : Hp) (C : Addr) (cl : List (Str × Addr)) (fp : List Addr), PTs (X.blk s H scope (compEnvC scope cl C X.env) fp) ifs1 tt1)
    (he : ∀ (s : Shared) (H : Hp) (C : Addr) (cl : List (Str × Addr)) (fp : List Addr), PE (X.blk s H scope (compEnvC scope cl C X.env) fp) elt te) (hs : ∀ x, foldedSetIterable iter X.env x = pure x := by intro _; rfl) (hs1 : ∀ env x, foldedSetIterable iter1 env x = pure x := by intro _ _; rfl) :
    PE X (.ListComp elt [⟨tg, iter, ifs, 0⟩, ⟨tg1, iter1, ifs1, 0⟩] scope pos) (mLc2 wi g tt wi1 g1 tt1 te (own.map (·.2)) vs1) :=
  pe_imp (pe_lc2 hc hN hi ok hv (fun s H C cl fp => pg_cl (hg s H C cl fp)) (fun s H C cl fp => pts_cl (ht s H C cl fp)) hi1 hg1 ht1 he hs hs1) fun σ H Q q => lc2_toM q
end
end M

/-! ### [f, g, ..][i](a, ..): one of several defs is called -/
namespace M
open PySem PySem.Spec PyProof.Rows L2
/-- the def at an address, as a value and called -/
structure CalV (P : Program) (w : World) (K : PySem.W.Frag) (mg : Str → Option Value) (base : Heap) (CX : CXT) (x : Str) (k : Nat) (ps : List Str) (sp : Sp) (a : Addr) : Prop where
  g : mg x = some (.ref a)
  ex : ∃ fd, FnG P w K mg base CX k a fd ps sp ∧ PySem.W.keepIn K (.ref a) = true ∧ Binds K fd ps []
theorem CalV.mono {P : Program} {w : World} {K : PySem.W.Frag} {mg : Str → Option Value} {base : Heap} {CX : CXT} {x : Str} {k j : Nat} {ps : List Str} {sp : Sp} {a : Addr} (C : CalV P w K mg base CX x k ps sp a) (h : k ≤ j) : CalV P w K mg base CX x j ps sp a := by
  obtain ⟨fd, F, r⟩ := C.ex
  exact ⟨C.g, fd, F.mono h, r⟩
/-- what may be called -/
inductive May (P : Program) (w : World) (K : PySem.W.Frag) (mg : Str → Option Value) (base : Heap) (CX : CXT) (k : Nat) : List (V × Sp) → Prop
  | nil : May P w K mg base CX k []
  | cons {x : Str} {ps : List Str} {sp : Sp} {a : Addr} {r : List (V × Sp)} : CalV P w K mg base CX x k ps sp a → May P w K mg base CX k r → May P w K mg base CX k ((.ref a, sp) :: r)
theorem May.get {P : Program} {w : World} {K : PySem.W.Frag} {mg : Str → Option Value} {base : Heap} {CX : CXT} {k : Nat} {fs : List (V × Sp)} (m : May P w K mg base CX k fs) {p : V × Sp} (h : p ∈ fs) : ∃ x ps a, p.1 = .ref a ∧ CalV P w K mg base CX x k ps p.2 a := by
  induction m with
  | nil => cases h
  | cons c _ ih =>
    rcases List.mem_cons.mp h with rfl | h
    · exact ⟨_, _, _, rfl, c⟩
    · exact ih h
def tCallV (fs : List (V × Sp)) (W : WX) (te : TE) (t : TA) : TE := fun σ H Q => te σ H fun x H1 => ∃ p, p ∈ fs ∧ x = p.1 ∧ t σ H1 fun vs H2 => p.2 vs H2 Q (WE W σ)
section
variable {X : Cx} {k : Nat} {fs : List (V × Sp)} {W : WX} {pos spos : Pos} {v i e : Expr} {es : List Expr} {te : TE} {t : TA}
theorem me_callVS (C : May X.prog X.w X.K X.mg X.base (L2.CX X.prog X.w) k fs) (hr : RoomG k X.A) (hf : PE X (.Subscript v i spos) te) (tk : Takes X W) (ha : PA X (e :: es) t)
    (hc : eval (.Call (.Subscript v i spos) (e :: es) [] pos) X.env = (do callWith pos (← eval (.Subscript v i spos) X.env) [] (backTo pos (starEach (e :: es) X.env)) (backToKw pos (keywordEach [] X.env))) := by rfl)
    (he : starEach (e :: es) X.env = (false, eval e X.env) :: starEach es X.env := by rfl) (hpl : (backTo pos (starEach es X.env)).any (·.1) = false := by rfl) : PE X (.Call (.Subscript v i spos) (e :: es) [] pos) (tCallV fs W te t) := by
  refine ⟨fun pins s σ H Q I h => ?_⟩
  rw [hc]
  refine wpAny_bind (thn (hf.run pins s σ H _ I h) fun u s0 ⟨x, H0, I0, rx, p, hp, ex, h0⟩ => ?_)
  obtain ⟨y, ps, a, ea, C⟩ := C.get hp
  obtain ⟨fd, F, hk, hb⟩ := C.ex
  rw [ex, ea] at rx
  cases rx
  refine PySem.W.callWith_K (h₀ := X.base) I0.ok.mod.kin hk (thn (ha.run pos pins s0 σ H0 _ I0 h0) fun us s1 ⟨vs, H1, I1, r, q⟩ => ⟨I1.kIn, ?_⟩) he hpl
  have hl := F.len _ _ _ _ q
  refine wpAny_call (codeAny_mono (F.run X.A X.stack s1 H1 ⟨us, []⟩ us vs Q (WE W σ) hr I1.env0 (by simpa using hb s1 us I1.kIn (by simpa using r.length.symm.trans hl)) r q) fun r s' hq => ?_)
  rcases r with er | fl
  · exact passAt tk σ pins H1 s1 er s' I1 hq
  · cases fl with
    | ret u => exact I1.after hq
    | next => exact False.elim hq
    | brk => exact False.elim hq
    | cont => exact False.elim hq
end
end M

/-! ### a text turned about -/
namespace M
open PySem PySem.Spec PyProof.Rows L2
theorem rev_cps (z : List Nat) : ((Builtin.Str.strSliceIndices none none (-1) (S z).length).filterMap ((S z).cps[·]?)) = z.reverse := by
  rw [picked_rev, filterMap_get]
  · rw [List.map_map, S_len]
    apply List.ext_getElem
    · simp
    · intro i h1 h2
      simp only [List.length_map, List.length_range] at h1
      simp only [List.getElem_map, List.getElem_range, List.getElem_reverse, Function.comp_apply]
      unfold S
      simp [Array.getD, show z.length - 1 - i < z.length by omega]
  · intro i hi
    obtain ⟨k, hk, rfl⟩ := List.mem_map.mp hi
    have hk' := List.mem_range.mp hk
    show (S z).length - 1 - k < (S z).length
    omega
def mRevS (te : TE) : TE := fun σ H Q => te σ H fun x H1 => match x with
  | .str a => a.length ≤ sizeLine ∧ Q (.str (S a.cps.toList.reverse)) H1
  | _ => False
section
variable {X : Cx} {e : Expr} {te : TE}
theorem me_revS {k : Nat} {p1 p2 p3 pos : Pos} (he : PE X e te) : PE X (.Subscript e (.Slice none none (some (.UnaryOp .USub (.Constant (.int 1) k p1) p2)) p3) pos) (mRevS te) := by
  refine ⟨fun pins s σ H Q I h => ?_⟩
  have h' : cl te σ H (fun x H1 => ∃ z : List Nat, x = .str (S z) ∧ z.length ≤ sizeLine ∧ Q (.str (S z.reverse)) H1) := ⟨_, h, fun x H1 q => by
    cases x with
    | str a =>
      refine ⟨a.cps.toList, by rw [S_of], ?_, q.2⟩
      have := q.1
      rw [← S_of a, S_len] at this
      exact this
    | _ => exact q.elim⟩
  refine Subscript_ (thn ((pe_cl he).run pins s σ H _ I h') fun v s1 ⟨x, H1, I1, r1, z, ex, hz, q⟩ => ?_)
  subst ex
  obtain ⟨t, rfl⟩ := r1
  have hst : PO X (some (.UnaryOp .USub (.Constant (.int 1) k p1) p2)) (tPart (tUn (rU fun i => .int (-i)) (tC (.int 1)))) := po_some (pe_un un_neg pe_int)
  refine wpAny_Slice (thn (po_none.run pins s1 σ H1 (fun o H2 => o = none ∧ H2 = H1) I1 ⟨rfl, rfl⟩) fun vl s2 ⟨l, H2, I2, pl, el, e2⟩ => ?_)
  subst el e2
  refine thn (po_none.run pins s2 σ H2 (fun o H3 => o = none ∧ H3 = H2) I2 ⟨rfl, rfl⟩) fun vu s3 ⟨u, H3, I3, pu, eu, e3⟩ => ?_
  subst eu e3
  refine thn (hst.run pins s3 σ H3 (fun o H4 => o = some (-1) ∧ H4 = H3) I3 ⟨1, rfl, -1, rfl, rfl, rfl⟩) fun vs s4 ⟨o, H4, I4, ps, eo, e4⟩ => ?_
  subst eo e4
  have I5 : Inv X pins σ H4 { s4 with heap := s4.heap.push { cls := .type "slice", data := .fields #[vl, vu, vs] } } := I4.kept (t' := s4.toks) fun b ob q => Heap.get?_push_of_some _ q
  obtain ⟨l, rfl, hl⟩ := IsPart.raw pl
  obtain ⟨u, rfl, hu⟩ := IsPart.raw pu
  obtain ⟨w, rfl, hw⟩ := IsPart.raw ps
  obtain ⟨os, hos, hcs, hds⟩ := Heap.IsSliceOf.new s4.heap (partValue l) (partValue u) (partValue w)
  refine tail_any (ops := [.str (S z) t, .ref s4.heap.objs.size]) (typeIs_str _ _ _) (F.slot_str_getitem.lookup) ?_ (by with_unfolding_all rfl)
  refine wpAny_getItem_str_slice (l := l) (u := u) (st := w) ⟨os, hos, hcs, hds⟩ (by first | (rw [hw]; rfl) | (rw [← hw]; rfl)) ?_
  have hm : sliceMade (S z) t l u w = Made.str (S z.reverse) := by
    have a1 : l.map (·.1) = none := by first | exact hl | exact hl.symm
    have a2 : u.map (·.1) = none := by first | exact hu | exact hu.symm
    have a3 : w.map (·.1) = some (-1) := by first | exact hw | exact hw.symm
    unfold sliceMade slicePicked
    rw [a1, a2, a3]
    show (if ((-1 : Int) == 1 && _) = true then _ else Made.str ⟨((Builtin.Str.strSliceIndices none none (-1) (S z).length).filterMap ((S z).cps[·]?)).toArray⟩) = _
    rw [if_neg (by simp), rev_cps]
    rfl
  rw [hm]
  have hlen : (S z.reverse).length ≤ sizeLine := by rw [S_len, List.length_reverse]; exact hz
  exact ⟨hlen, .str _, H4, I5.tok _, ⟨_, rfl⟩, q⟩
end
end M

namespace M
open PySem PySem.Spec PyProof.Rows L2

/-! ### cuts -/
section
variable {α : Type} (l : List α)
theorem cut_from (i : Nat) : cutL l (some (i : Int)) none = l.drop i := by
  unfold cutL
  rw [HT.sIx_nat, HT.sIx_none]
  by_cases h : i ≤ l.length
  · rw [Nat.min_eq_left h]
    exact List.take_of_length_le (by rw [List.length_drop]; omega)
  · rw [Nat.min_eq_right (by omega), List.drop_length, List.drop_eq_nil_of_le (by omega)]; simp
theorem cut_to (i : Nat) : cutL l none (some (i : Int)) = l.take i := by
  unfold cutL
  rw [HT.sIx_nat, HT.sIx_none, List.drop_zero, Nat.sub_zero]
  by_cases h : i ≤ l.length
  · rw [Nat.min_eq_left h]
  · rw [Nat.min_eq_right (by omega), List.take_length, List.take_of_length_le (by omega)]
theorem cut_mid (i j : Nat) : cutL l (some (i : Int)) (some (j : Int)) = (l.drop i).take (j - i) := by
  unfold cutL
  rw [HT.sIx_nat, HT.sIx_nat]
  by_cases h : i ≤ l.length
  · rw [Nat.min_eq_left h]
    by_cases h2 : j ≤ l.length
    · rw [Nat.min_eq_left h2]
    · rw [Nat.min_eq_right (by omega), List.take_of_length_le (by rw [List.length_drop]; omega), List.take_of_length_le (by rw [List.length_drop]; omega)]
  · rw [Nat.min_eq_right (show l.length ≤ i by omega), List.drop_length, List.drop_eq_nil_of_le (show l.length ≤ i by omega)]; simp
theorem cut_all : cutL l none none = l := by
  unfold cutL
  rw [HT.sIx_none, HT.sIx_none, List.drop_zero, Nat.sub_zero, List.take_length]
theorem sIx_neg (n d k : Nat) (hk : 0 < k) : HT.sIx n d (some (-(k : Int))) = n - k := by
  show (if (-(k : Int)) < 0 then (-(k : Int) + (n : Int)).toNat else _) = _
  rw [if_pos (by omega)]; omega
theorem cut_fromN (k : Nat) (hk : 0 < k) : cutL l (some (-(k : Int))) none = l.drop (l.length - k) := by
  unfold cutL
  rw [sIx_neg _ _ _ hk, HT.sIx_none]
  exact List.take_of_length_le (by rw [List.length_drop]; omega)
theorem cut_toN (k : Nat) (hk : 0 < k) : cutL l none (some (-(k : Int))) = l.take (l.length - k) := by
  unfold cutL
  rw [sIx_neg _ _ _ hk, HT.sIx_none, List.drop_zero, Nat.sub_zero]
theorem cut_midN (i k : Nat) (hk : 0 < k) : cutL l (some (i : Int)) (some (-(k : Int))) = (l.drop i).take (l.length - k - i) := by
  unfold cutL
  rw [sIx_neg _ _ _ hk, HT.sIx_nat]
  by_cases h : i ≤ l.length
  · rw [Nat.min_eq_left h]
  · rw [Nat.min_eq_right (show l.length ≤ i by omega), List.drop_length, List.drop_eq_nil_of_le (show l.length ≤ i by omega)]; simp
end
theorem cut_m3 {α : Type} (l : List α) : cutL l (some (-3)) none = l.drop (l.length - 3) := cut_fromN l 3 (by decide)
theorem cut_t3 {α : Type} (l : List α) : cutL l none (some (-3)) = l.take (l.length - 3) := cut_toN l 3 (by decide)
theorem cut_m1 {α : Type} (l : List α) : cutL l (some (-1)) none = l.drop (l.length - 1) := cut_fromN l 1 (by decide)
theorem cut_t1 {α : Type} (l : List α) : cutL l none (some (-1)) = l.take (l.length - 1) := cut_toN l 1 (by decide)
theorem cut_t2 {α : Type} (l : List α) : cutL l none (some (-2)) = l.take (l.length - 2) := cut_toN l 2 (by decide)
theorem S_def (z : Str) : ∃ l, z = S l := ⟨_, (S_of z).symm⟩
theorem S_eq {a b : List Nat} : (S a = S b) = (a = b) := propext S_inj
theorem szl : (sizeLine : Nat) = 16777216 := sizeLine_eq

/-! ### trees -/
inductive Tr where
  | lf
  | nd (l r : Tr)
  deriving DecidableEq
namespace Tr
def s : Tr → List Nat
  | .lf => [46]
  | .nd l r => 40 :: (l.s ++ (r.s ++ [41]))
def n : Tr → Nat
  | .lf => 0
  | .nd l r => l.n + r.n + 1
theorem s_len : ∀ t : Tr, t.s.length = 3 * t.n + 1
  | .lf => rfl
  | .nd l r => by simp only [s, n, List.length_cons, List.length_append, List.length_nil, s_len l, s_len r]; omega
end Tr

/-! ### is_tree -/
/-- one sign onto the waiting ones -/
def itStep (w : List Nat) (c : Nat) : Option (List Nat) :=
  if c = 41 then (if w.drop (w.length - 3) = [40, 46, 46] then some (w.take (w.length - 3) ++ [46]) else none)
  else if c = 40 ∨ c = 46 then some (w ++ [c]) else none
def itRun : List Nat → List Nat → Option (List Nat)
  | w, [] => some w
  | w, c :: r => (itStep w c).bind fun w' => itRun w' r
def isTr (l : List Nat) : Bool := decide (itRun [] l = some [46])
theorem itRun_app : ∀ (a b w : List Nat), itRun w (a ++ b) = (itRun w a).bind fun w' => itRun w' b
  | [], b, w => rfl
  | c :: a, b, w => by
    show (itStep w c).bind _ = ((itStep w c).bind _).bind _
    cases itStep w c with
    | none => rfl
    | some w' => exact itRun_app a b w'
theorem itRun_tree : ∀ (t : Tr) (w : List Nat), itRun w t.s = some (w ++ [46])
  | .lf, w => by simp [Tr.s, itRun, itStep]
  | .nd l r, w => by
    show (itStep w 40).bind _ = _
    have e1 : itStep w 40 = some (w ++ [40]) := by simp [itStep]
    rw [e1]
    show itRun (w ++ [40]) (l.s ++ (r.s ++ [41])) = _
    rw [itRun_app, itRun_tree l]
    show itRun (w ++ [40] ++ [46]) (r.s ++ [41]) = _
    rw [itRun_app, itRun_tree r]
    show (itStep (w ++ [40] ++ [46] ++ [46]) 41).bind _ = _
    have e2 : itStep (w ++ [40] ++ [46] ++ [46]) 41 = some (w ++ [46]) := by
      simp [itStep]
    rw [e2]; rfl
/-- waiting signs stand for the signs read -/
inductive Waits : List Nat → List Nat → Prop where
  | nil : Waits [] []
  | op {w l : List Nat} : Waits w l → Waits (w ++ [40]) (l ++ [40])
  | tr {w l : List Nat} (t : Tr) : Waits w l → Waits (w ++ [46]) (l ++ t.s)
theorem Waits.last {w l : List Nat} {c : Nat} (h : Waits (w ++ [c]) l) : (c = 40 ∧ ∃ l', l = l' ++ [40] ∧ Waits w l') ∨ (c = 46 ∧ ∃ (l' : List Nat) (t : Tr), l = l' ++ t.s ∧ Waits w l') := by
  generalize e : w ++ [c] = v at h
  cases h with
  | nil => simp at e
  | op h =>
    obtain ⟨rfl, e2⟩ := List.append_inj' e rfl
    cases e2
    exact .inl ⟨rfl, _, rfl, h⟩
  | tr t h =>
    obtain ⟨rfl, e2⟩ := List.append_inj' e rfl
    cases e2
    exact .inr ⟨rfl, _, t, rfl, h⟩
theorem Waits.step {w l w' : List Nat} {c : Nat} (h : Waits w l) (e : itStep w c = some w') : Waits w' (l ++ [c]) := by
  unfold itStep at e
  split at e
  · rename_i hc
    subst hc
    split at e
    · rename_i h3
      cases e
      have ew : w = w.take (w.length - 3) ++ [40] ++ [46] ++ [46] := by
        have := List.take_append_drop (w.length - 3) w
        rw [h3] at this
        simpa using this.symm
      rw [ew] at h
      rcases h.last with ⟨q, _⟩ | ⟨_, l1, t1, rfl, h1⟩
      · cases q
      rcases h1.last with ⟨q, _⟩ | ⟨_, l2, t2, rfl, h2⟩
      · cases q
      rcases h2.last with ⟨_, l3, rfl, h3⟩ | ⟨q, _⟩
      · have := Waits.tr (.nd t2 t1) h3
        simpa [Tr.s] using this
      · cases q
    · cases e
  · split at e
    · rename_i hc
      cases e
      rcases hc with rfl | rfl
      · exact .op h
      · exact .tr .lf h
    · cases e
theorem Waits.run : ∀ {r w l w' : List Nat}, Waits w l → itRun w r = some w' → Waits w' (l ++ r)
  | [], w, l, w', h, e => by
    cases e; simpa using h
  | c :: r, w, l, w', h, e => by
    have e' : (itStep w c).bind (fun w' => itRun w' r) = some w' := e
    cases q : itStep w c with
    | none => rw [q] at e'; cases e'
    | some v =>
      rw [q] at e'
      have := Waits.run (h.step q) e'
      simpa using this
theorem isTr_iff (l : List Nat) : isTr l = true ↔ ∃ t : Tr, l = t.s := by
  unfold isTr
  rw [decide_eq_true_eq]
  constructor
  · intro h
    have q := Waits.run .nil h
    have q' : Waits ([] ++ [46]) l := by simpa using q
    rcases q'.last with ⟨z, _⟩ | ⟨_, l', t, rfl, z⟩
    · cases z
    · generalize e : ([] : List Nat) = v at z
      cases z with
      | nil => exact ⟨t, by simp⟩
      | op _ => simp at e
      | tr _ _ => simp at e
  · rintro ⟨t, rfl⟩
    simpa using itRun_tree t []
theorem isTr_s (t : Tr) : isTr t.s = true := (isTr_iff _).mpr ⟨t, rfl⟩
theorem itStep_len {w w' : List Nat} {c : Nat} (e : itStep w c = some w') : w'.length ≤ w.length + 1 := by
  unfold itStep at e
  split at e
  · split at e
    · cases e; simp
      try omega
    · cases e
  · split at e
    · cases e; simp
    · cases e
end M

namespace M
open PySem PySem.Spec PyProof.Rows L2

/-! ### places -/
section
variable {α : Type}
theorem aI_nat (xs : List α) (i : Nat) : atI xs (i : Int) = xs[i]? := by
  unfold atI ixN
  rw [if_pos (by omega)]
  by_cases h : i < xs.length
  · rw [if_pos (by omega)]; simp
  · rw [if_neg (by omega), List.getElem?_eq_none (by omega)]; rfl
theorem aI_neg (xs : List α) (k : Nat) (hk : 0 < k) (h : k ≤ xs.length) : atI xs (-(k : Int)) = xs[xs.length - k]? := by
  unfold atI ixN
  rw [if_neg (by omega), if_pos (by omega)]
  show xs[(-(k : Int) + (xs.length : Int)).toNat]? = _
  congr 1
  omega
theorem aI_0 (x : α) (xs : List α) : atI (x :: xs) 0 = some x := aI_nat (x :: xs) 0
theorem aI_1 (x y : α) (xs : List α) : atI (x :: y :: xs) 1 = some y := aI_nat (x :: y :: xs) 1
theorem aI_2 (x y z : α) (xs : List α) : atI (x :: y :: z :: xs) 2 = some z := aI_nat (x :: y :: z :: xs) 2
theorem aI_3 (x y z u : α) (xs : List α) : atI (x :: y :: z :: u :: xs) 3 = some u := aI_nat (x :: y :: z :: u :: xs) 3
theorem aI_m1 (xs : List α) (v : α) : atI (xs ++ [v]) (-1) = some v := atI_last xs v
theorem aI_m2 (xs : List α) (u v : α) : atI (xs ++ [u, v]) (-2) = some u := by
  have e := aI_neg (xs ++ [u, v]) 2 (by decide) (by simp)
  rw [show ((2 : Nat) : Int) = 2 from rfl] at e
  rw [e]
  simp
theorem aI_m1' (xs : List α) (u v : α) : atI (xs ++ [u, v]) (-1) = some v := by
  have e := aI_neg (xs ++ [u, v]) 1 (by decide) (by simp)
  rw [show ((1 : Nat) : Int) = 1 from rfl] at e
  rw [e]
  simp
theorem iN_nat {n i : Nat} (h : i < n) : ixN n (i : Int) = some i := by
  unfold ixN
  rw [if_pos (by omega), if_pos (by omega)]; simp
theorem iN_m1 {n : Nat} (h : 0 < n) : ixN n (-1) = some (n - 1) := by
  unfold ixN
  rw [if_neg (by omega), if_pos (by omega)]
  congr 1
  omega
end

/-! ### data -/
def dStrs (l : List (List Nat)) : List PyData := l.map fun z => .str (S z)
def dInts (l : List Int) : List PyData := l.map .int
theorem dp_strs {K : PySem.W.Frag} {H : Hp} : ∀ l : List (List Nat), DpAll K H (l.map fun z => V.str (S z)) (dStrs l)
  | [] => .nil
  | z :: l => .cons (.str _) (dp_strs l)
theorem dp_ints {K : PySem.W.Frag} {H : Hp} : ∀ l : List Int, DpAll K H (l.map V.int) (dInts l)
  | [] => .nil
  | z :: l => .cons (.int _) (dp_ints l)
/-- codes of a text -/
def okc (l : List Nat) : Prop := ∀ c ∈ l, c < 1114112
theorem okc_app {a b : List Nat} (h1 : okc a) (h2 : okc b) : okc (a ++ b) := fun c h => (List.mem_append.mp h).elim (h1 c) (h2 c)
theorem okS {z : List Nat} (h : okc z) : PyData.strOk (S z) = true := by
  unfold PyData.strOk
  simp only [S, List.all_toArray, List.all_eq_true, decide_eq_true_eq]
  exact h
theorem lay_strs : ∀ l : List (List Nat), (∀ z ∈ l, okc z) → PyData.canLayAll0 (dStrs l) = true
  | [], _ => rfl
  | z :: l, h => by
    show PyData.canLayAll0 (.str (S z) :: dStrs l) = true
    simp only [PyData.canLayAll0, PyData.canLay0, lay_strs l fun y hy => h y (List.mem_cons_of_mem _ hy), okS (h z List.mem_cons_self), Bool.and_self]
theorem lay_ints : ∀ l, PyData.canLayAll0 (dInts l) = true
  | [] => rfl
  | z :: l => by show PyData.canLayAll0 (.int z :: dInts l) = true; simp only [PyData.canLayAll0, PyData.canLay0, lay_ints l, Bool.and_self]
theorem dep_strs : ∀ l, PyData.depthAll (dStrs l) = 0
  | [] => rfl
  | z :: l => by show PyData.depthAll (.str (S z) :: dStrs l) = 0; simp only [PyData.depthAll, PyData.depth, dep_strs l]; rfl
theorem dep_ints : ∀ l, PyData.depthAll (dInts l) = 0
  | [] => rfl
  | z :: l => by show PyData.depthAll (.int z :: dInts l) = 0; simp only [PyData.depthAll, PyData.depth, dep_ints l]; rfl
theorem eqv_strs : ∀ a b : List (List Nat), PyData.eqvAll (dStrs a) (dStrs b) = decide (a = b)
  | [], [] => rfl
  | [], z :: b => rfl
  | z :: a, [] => rfl
  | y :: a, z :: b => by
    show PyData.eqvAll (.str (S y) :: dStrs a) (.str (S z) :: dStrs b) = _
    simp only [PyData.eqvAll, PyData.eqv, eqv_strs a b]
    by_cases h : y = z
    · subst h; simp
    · have : ¬ S y = S z := fun q => h (S_inj.mp q)
      simp [h, this]
theorem eqv_ints : ∀ a b : List Int, PyData.eqvAll (dInts a) (dInts b) = decide (a = b)
  | [], [] => rfl
  | [], z :: b => rfl
  | z :: a, [] => rfl
  | y :: a, z :: b => by
    show PyData.eqvAll (.int y :: dInts a) (.int z :: dInts b) = _
    simp only [PyData.eqvAll, PyData.eqv, eqv_ints a b]
    by_cases h : y = z
    · subst h; simp
    · simp [h]
section
variable {K : PySem.W.Frag} {neg : Bool} {H : Hp} {Q : VK}
/-- two lists of texts compared -/
theorem eq_strs {p q : Addr} {a b : List (List Nat)} (h1 : SqL K H p (a.map fun z => V.str (S z))) (h2 : SqL K H q (b.map fun z => V.str (S z))) (oa : ∀ z ∈ a, okc z) (ob : ∀ z ∈ b, okc z) (k : Q (.bl (if neg then !decide (a = b) else decide (a = b))) H) : rEqW K neg (.ref p) (.ref q) H Q :=
  ⟨.list (dStrs a), .list (dStrs b), .lst h1 (dp_strs a), .lst h2 (dp_strs b), by simpa only [PyData.canLay0] using lay_strs a oa, by simpa only [PyData.canLay0] using lay_strs b ob, by simp only [PyData.depth, dep_strs]; decide, by simpa only [PyData.eqv, eqv_strs] using k⟩
theorem eq_ints {p q : Addr} {a b : List Int} (h1 : SqL K H p (a.map V.int)) (h2 : SqL K H q (b.map V.int)) (k : Q (.bl (if neg then !decide (a = b) else decide (a = b))) H) : rEqW K neg (.ref p) (.ref q) H Q :=
  ⟨.list (dInts a), .list (dInts b), .lst h1 (dp_ints a), .lst h2 (dp_ints b), by simpa only [PyData.canLay0] using lay_ints a, by simpa only [PyData.canLay0] using lay_ints b, by simp only [PyData.depth, dep_ints]; decide, by simpa only [PyData.eqv, eqv_ints] using k⟩
end

/-! ### nests: trees as pairs -/
inductive Nst (K : PySem.W.Frag) (H : Hp) : V → Tr → Prop
  | lf {a : Addr} : SqT K H a [] → Nst K H (.ref a) .lf
  | nd {a : Addr} {l r : V} {t u : Tr} : SqT K H a [l, r] → Nst K H l t → Nst K H r u → Nst K H (.ref a) (.nd t u)
theorem Nst.ex {K : PySem.W.Frag} {H H' : Hp} (e : Ex H H') {v : V} {t : Tr} (h : Nst K H v t) : Nst K H' v t := by
  induction h with
  | lf h => exact .lf (e.T h)
  | nd h _ _ i1 i2 => exact .nd (e.T h) i1 i2
def Tr.dat : Tr → PyData
  | .lf => .tuple []
  | .nd l r => .tuple [l.dat, r.dat]
theorem Nst.dp {K : PySem.W.Frag} {H : Hp} {v : V} {t : Tr} (h : Nst K H v t) : Dp K H v t.dat := by
  induction h with
  | lf h => exact .tup h .nil
  | nd h _ _ i1 i2 => exact .tup h (.cons i1 (.cons i2 .nil))
theorem Tr.lay : ∀ t : Tr, t.dat.canLay0 = true
  | .lf => rfl
  | .nd l r => by simp only [Tr.dat, PyData.canLay0, PyData.canLayAll0, Tr.lay l, Tr.lay r, Bool.and_self]
/-- a nest == () -/
theorem eq_nil {K : PySem.W.Frag} {H : Hp} {Q : VK} {v : V} {t : Tr} {q : Addr} (h : Nst K H v t) (h2 : SqT K H q []) (k : Q (.bl (decide (t = .lf))) H) : rEqW K false v (.ref q) H Q := by
  refine ⟨t.dat, .tuple [], h.dp, .tup h2 .nil, t.lay, rfl, Nat.le_trans (Nat.min_le_right _ _) (by simp only [PyData.depth, PyData.depthAll]; decide), ?_⟩
  have e : PyData.eqv t.dat (.tuple []) = decide (t = .lf) := by
    cases t with
    | lf => rfl
    | nd l r => simp [Tr.dat, PyData.eqv, PyData.eqvAll]
  rw [if_neg Bool.false_ne_true, e]
  exact k
theorem Nst.ref {K : PySem.W.Frag} {H : Hp} {v : V} {t : Tr} (h : Nst K H v t) : ∃ a, v = .ref a := by
  cases h <;> exact ⟨_, rfl⟩

/-! ### roads to leaves and nodes -/
namespace Tr
def lvs : Tr → List Nat → List (List Nat)
  | .lf, r => [r]
  | .nd a b, r => a.lvs (r ++ [108]) ++ b.lvs (r ++ [114])
def nds : Tr → List Nat → List (List Nat)
  | .lf, _ => []
  | .nd a b, r => a.nds (r ++ [108]) ++ ([r] ++ b.nds (r ++ [114]))
theorem lvs_len : ∀ (t : Tr) (r : List Nat), (t.lvs r).length = t.n + 1
  | .lf, _ => rfl
  | .nd a b, r => by simp only [lvs, n, List.length_append, lvs_len a, lvs_len b]; omega
theorem nds_len : ∀ (t : Tr) (r : List Nat), (t.nds r).length = t.n
  | .lf, _ => rfl
  | .nd a b, r => by simp only [nds, n, List.length_append, nds_len a, nds_len b, List.length_cons, List.length_nil]; omega
end Tr
end M
namespace M
open PySem PySem.Spec PyProof.Rows L2
theorem Fm.refl (m : List Addr) (H : Hp) : Fm m H H := fun _ _ _ h => h
theorem Fm.trans {m : List Addr} {H H1 H2 : Hp} (a : Fm m H H1) (b : Fm m H1 H2) : Fm m H H2 := fun x o n h => b x o n (a x o n h)
theorem Fm.ex {m : List Addr} {H H1 : Hp} (a : Ex H H1) : Fm m H H1 := fun x o _ h => a x o h
theorem Fm.new {m : List Addr} {H : Hp} {p : Addr} {o : HO} (h : H p = none) : Fm m H (upd H p o) := Fm.ex (Ex.new h)
theorem Fm.mut {m : List Addr} {H : Hp} {p : Addr} {o : HO} (h : p ∈ m) : Fm m H (upd H p o) := fun a u n e => by
  have : a ≠ p := fun z => n (z ▸ h)
  rw [upd_ne this]; exact e
theorem Fm.nil {H H1 : Hp} (a : Fm [] H H1) : Ex H H1 := fun x o h => a x o (by simp) h
theorem Fm.at_ {m : List Addr} {H H1 : Hp} (a : Fm m H H1) {p : Addr} {o : HO} (n : p ∉ m) (h : H p = some o) : H1 p = some o := a p o n h
/-- a purse of random numbers -/
def Pu (H : Hp) (g : Addr) (n : Nat) : Prop := ∃ a b c : Int, H g = some (.lst [.int a, .int b, .int c]) ∧ 0 ≤ a ∧ a < 2 ^ 2000 ∧ 0 ≤ b ∧ b < 2 ^ 31 ∧ 0 ≤ c ∧ c < n
theorem Pu.mono {H : Hp} {g : Addr} {n m : Nat} (h : n ≤ m) (p : Pu H g n) : Pu H g m := by
  obtain ⟨a, b, c, h1, h2, h3, h4, h5, h6, h7⟩ := p
  exact ⟨a, b, c, h1, h2, h3, h4, h5, h6, by omega⟩
theorem Pu.fm {H H1 : Hp} {g : Addr} {n : Nat} (e : Ex H H1) (p : Pu H g n) : Pu H1 g n := by
  obtain ⟨a, b, c, h1, r⟩ := p
  exact ⟨a, b, c, e _ _ h1, r⟩
theorem mulOk (a b : Nat) {i j : Int} (h1 : 0 ≤ i) (h2 : i < (2 : Int) ^ a) (h3 : 0 ≤ j) (h4 : j < (2 : Int) ^ b) (h0 : 0 < a := by decide) (h5 : 0 < b := by decide) (h6 : a + b ≤ 1000000 := by decide) : MulOk i j := by
  refine MulOk.of a b ?_ ?_ h0 h5 h6
  · have : (i.natAbs : Int) < ((2 ^ a : Nat) : Int) := by rw [Int.natAbs_of_nonneg h1]; exact_mod_cast h2
    exact_mod_cast this
  · have : (j.natAbs : Int) < ((2 ^ b : Nat) : Int) := by rw [Int.natAbs_of_nonneg h3]; exact_mod_cast h4
    exact_mod_cast this
theorem divOk (b : Nat) {j : Int} (h : 0 < j) (h4 : j < (2 : Int) ^ b) (h0 : 0 < b := by decide) (h9 : b ≤ 9000 := by decide) : DivOk j := by
  refine DivOk.of b h ?_ h0 h9
  have : (j.natAbs : Int) < ((2 ^ b : Nat) : Int) := by rw [Int.natAbs_of_nonneg (by omega)]; exact_mod_cast h4
  exact_mod_cast this
theorem bits_le {i : Int} {b : Nat} (h : 0 ≤ i) (h4 : i < (2 : Int) ^ b) : Builtin.Int.intBits i ≤ b := by
  unfold Builtin.Int.intBits
  by_cases e : i = 0
  · subst e; simp
  · have e' : (i == 0) = false := by simpa using e
    rw [e', if_neg Bool.false_ne_true]
    have : (i.natAbs : Int) < ((2 ^ b : Nat) : Int) := by rw [Int.natAbs_of_nonneg h]; exact_mod_cast h4
    have h5 : i.natAbs < 2 ^ b := by exact_mod_cast this
    have h6 : i.natAbs ≠ 0 := by omega
    have := (Nat.log2_lt h6).mpr h5
    omega
end M
namespace M
open PySem PySem.Spec PyProof.Rows L2
/-- what is no list stays -/
def Nl (H H' : Hp) : Prop := ∀ a o, (∀ xs, o ≠ .lst xs) → H a = some o → H' a = some o
theorem Nl.refl (H : Hp) : Nl H H := fun _ _ _ h => h
theorem Nl.trans {H H1 H2 : Hp} (a : Nl H H1) (b : Nl H1 H2) : Nl H H2 := fun x o n h => b x o n (a x o n h)
theorem Nl.ex {H H1 : Hp} (a : Ex H H1) : Nl H H1 := fun x o _ h => a x o h
theorem Nl.new {H : Hp} {p : Addr} {o : HO} (h : H p = none) : Nl H (upd H p o) := Nl.ex (Ex.new h)
theorem Nl.mut {H : Hp} {p : Addr} {o : HO} {xs : List V} (h : H p = some (.lst xs)) : Nl H (upd H p o) := fun a u n e => by
  have : a ≠ p := fun z => by rw [z, h] at e; cases e; exact n _ rfl
  rw [upd_ne this]; exact e
theorem Nl.T {K : PySem.W.Frag} {H H' : Hp} {a : Addr} {xs : List V} (e : Nl H H') (h : SqT K H a xs) : SqT K H' a xs := by
  rcases h with h | h
  · rcases h with h | ⟨o, h⟩
    · exact .inl (.inl (e a _ (fun _ z => by cases z) h))
    · exact .inl (.inr ⟨o, e a _ (fun _ z => by cases z) h⟩)
  · exact .inr h
theorem Nst.nl {K : PySem.W.Frag} {H H' : Hp} (e : Nl H H') {v : V} {t : Tr} (h : Nst K H v t) : Nst K H' v t := by
  induction h with
  | lf h => exact .lf (e.T h)
  | nd h _ _ i1 i2 => exact .nd (e.T h) i1 i2
/-- one of the lists that H does not know changes -/
theorem Ex.chg {H H1 : Hp} {p : Addr} {o : HO} (e : Ex H H1) (h : H p = none) : Ex H (upd H1 p o) := e.mut h
end M

/-! ### the readings at values that are known -/
namespace M
open PySem PySem.Spec PyProof.Rows L2
section
variable {K : PySem.W.Frag} {H : Hp} {Q : VK} {i j : Int} {a b : Str} {k l : Bool} {p q : Addr} {x y : V} {lo hi : Option Int}
theorem q_add1 : mAdd (.int i) (.int j) H Q = Q (.int (i + j)) H := rfl
theorem q_add2 : mAdd (.str a) (.str b) H Q = (a.length + b.length ≤ sizeLine ∧ Q (.str (a ++ b)) H) := rfl
theorem q_add3 : mAdd (.ref p) (.ref q) H Q = (∃ xs zs, H p = some (.lst xs) ∧ H q = some (.lst zs) ∧ xs.length + zs.length ≤ sizeLine ∧ ∀ r, H r = none → Q (.ref r) (upd H r (.lst (xs ++ zs)))) := rfl
theorem q_add4 : mAdd (.int i) (.bl k) H Q = Q (.int (i + b2i k)) H := rfl
theorem q_iadd1 : iAdd (.int i) (.int j) H Q = Q (.int (i + j)) H := rfl
theorem q_iadd2 : iAdd (.str a) (.str b) H Q = (a.length + b.length ≤ sizeLine ∧ Q (.str (a ++ b)) H) := rfl
theorem q_iadd3 : iAdd (.ref p) (.ref q) H Q = (∃ xs zs, H p = some (.lst xs) ∧ H q = some (.lst zs) ∧ xs.length + zs.length ≤ sizeLine ∧ Q (.ref p) (upd H p (.lst (xs ++ zs)))) := rfl
theorem q_sub : mSub (.int i) (.int j) H Q = Q (.int (i - j)) H := rfl
theorem q_mul1 : mMul (.int i) (.int j) H Q = (MulOk i j ∧ Q (.int (i * j)) H) := rfl
theorem q_mul2 : mMul (.ref p) (.int i) H Q = (∃ xs, H p = some (.lst xs) ∧ -(2 ^ 63) ≤ i ∧ i < 2 ^ 63 ∧ xs.length * i.toNat ≤ sizeLine ∧ ∀ r, H r = none → Q (.ref r) (upd H r (.lst (List.replicate i.toNat xs).flatten))) := rfl
theorem foldl_S (z : List Nat) : ∀ (n : Nat) (acc : List Nat), ((List.replicate n z.toArray).foldl (· ++ ·) acc.toArray) = (acc ++ (List.replicate n z).flatten).toArray
  | 0, acc => by simp
  | n + 1, acc => by
    rw [List.replicate_succ, List.foldl_cons, List.append_toArray, foldl_S z n, List.replicate_succ, List.flatten_cons, List.append_assoc]
theorem mul_S (z : List Nat) (k : Int) : Txt.mul (S z) k = S (List.replicate k.toNat z).flatten := by
  unfold Txt.mul
  by_cases h1 : k < 1
  · rw [if_pos h1, show k.toNat = 0 by omega]; rfl
  · rw [if_neg h1]
    split
    · rename_i h
      rcases Bool.or_eq_true_iff.mp h with h | h
      · have : k = 1 := by simpa using h
        subst this
        simp
      · have : z = [] := by
          have h2 : (S z).length = 0 := by simpa using h
          rw [S_len] at h2
          exact List.length_eq_zero_iff.mp h2
        subst this
        simp
    · have := foldl_S z k.toNat []
      simp only [List.nil_append] at this
      unfold S
      rw [← this]
theorem q_mul3 {z : List Nat} : mMul (.str (S z)) (.int i) H Q = ((z.length * 4096 ≤ 16777216 ∧ 0 ≤ i ∧ i ≤ 4096) ∧ Q (.str (S (List.replicate i.toNat z).flatten)) H) := by
  show (((S z).length * 4096 ≤ 16777216 ∧ 0 ≤ i ∧ i ≤ 4096) ∧ Q (.str (Txt.mul (S z) i)) H) = _
  rw [S_len, mul_S]
theorem q_mod : mMod (.int i) (.int j) H Q = (0 < j ∧ Q (.int (i % j)) H) := rfl
theorem q_div : mDiv (.int i) (.int j) H Q = (DivOk j ∧ Q (.int (i / j)) H) := rfl
theorem q_pow : mPow (.int i) (.int j) H Q = ((0 ≤ j ∧ (Builtin.Int.intBits i : Int) * j ≤ 2 ^ 27) ∧ Q (.int (i ^ j.toNat)) H) := rfl
theorem q_eq1 : mEq K (.int i) (.int j) H Q = Q (.bl (decide (i = j))) H := rfl
theorem q_eq2 : mEq K (.str a) (.str b) H Q = Q (.bl (decide (a = b))) H := rfl
theorem q_eq3 : mEq K (.bl k) (.bl l) H Q = Q (.bl (decide (k = l))) H := rfl
theorem q_eq4 : mEq K .non .non H Q = Q (.bl true) H := rfl
theorem q_eq5 : mEq K .non (.int j) H Q = Q (.bl false) H := rfl
theorem q_eq6 : mEq K (.int j) .non H Q = Q (.bl false) H := rfl
theorem q_eq7 : mEq K (.str a) .non H Q = Q (.bl false) H := rfl
theorem q_eq8 : mEq K .non (.str a) H Q = Q (.bl false) H := rfl
theorem q_eq9 : mEq K (.ref p) y H Q = rEqW K false (.ref p) y H Q := by cases y <;> rfl
theorem q_eq10 : mEq K x (.ref p) H Q = rEqW K false x (.ref p) H Q := by cases x <;> rfl
theorem q_ne1 : mNe K (.int i) (.int j) H Q = Q (.bl (!decide (i = j))) H := rfl
theorem q_ne2 : mNe K (.str a) (.str b) H Q = Q (.bl (!decide (a = b))) H := rfl
theorem q_ne3 : mNe K (.bl k) (.bl l) H Q = Q (.bl (!decide (k = l))) H := rfl
theorem q_ne9 : mNe K (.ref p) y H Q = rEqW K true (.ref p) y H Q := by cases y <;> rfl
theorem q_ne10 : mNe K x (.ref p) H Q = rEqW K true x (.ref p) H Q := by cases x <;> rfl
theorem q_lt : mLt (.int i) (.int j) H Q = Q (.bl (decide (i < j))) H := rfl
theorem q_le : mLe (.int i) (.int j) H Q = Q (.bl (decide (i ≤ j))) H := rfl
theorem q_gt : mGt (.int i) (.int j) H Q = Q (.bl (decide (j < i))) H := rfl
theorem q_ge : mGe (.int i) (.int j) H Q = Q (.bl (decide (j ≤ i))) H := rfl
theorem q_inc : mInC (.str a) (.str b) H Q = (∃ k, a = S [k] ∧ Q (.bl (decide (k ∈ b.cps.toList))) H) := rfl
theorem q_ninc : mNinC (.str a) (.str b) H Q = (∃ k, a = S [k] ∧ Q (.bl (!decide (k ∈ b.cps.toList))) H) := rfl
theorem q_inc1 {c : Nat} {z : List Nat} : mInC (.str (S [c])) (.str (S z)) H Q = Q (.bl (decide (c ∈ z))) H := by
  rw [q_inc, S_cps]
  refine propext ⟨fun ⟨k, e, h⟩ => ?_, fun h => ⟨c, rfl, h⟩⟩
  have := S_inj.mp e
  simp only [List.cons.injEq, and_true] at this
  rw [this]; exact h
theorem q_ix1 : mIx K (.str a) (.int i) H Q = (a.length ≤ sizeLine ∧ ∃ c, atI a.cps.toList i = some c ∧ Q (.str (S [c])) H) := rfl
theorem q_ix2 : mIx K (.ref p) (.int i) H Q = (∃ xs v, (SqL K H p xs ∨ SqT K H p xs) ∧ atI xs i = some v ∧ Q v H) := rfl
theorem q_sl1 : mSl K (.str a) lo hi H Q = (a.length ≤ sizeLine ∧ Q (.str (S (cutL a.cps.toList lo hi))) H) := rfl
theorem q_sl2 : mSl K (.ref p) lo hi H Q = (∃ xs, SqL K H p xs ∧ ∀ r, H r = none → Q (.ref r) (upd H r (.lst (cutL xs lo hi)))) := rfl
theorem q_set {R : Hp → Prop} : mSetL (.ref p) (.int i) x H R = (∃ xs j, H p = some (.lst xs) ∧ ixN xs.length i = some j ∧ R (upd H p (.lst (xs.set j x)))) := rfl
theorem q_len1 : mLen K [.str a] H Q = (a.length ≤ sizeLine ∧ Q (.int a.length) H) := rfl
theorem q_len2 : mLen K [.ref p] H Q = (∃ ys, (SqL K H p ys ∨ SqT K H p ys) ∧ Q (.int ys.length) H) := rfl
theorem q_int1 : mInt [.int i] H Q = Q (.int i) H := rfl
theorem q_int2 : mInt [.bl k] H Q = Q (.int (if k then 1 else 0)) H := rfl
theorem q_max : mMax [.int i, .int j] H Q = Q (.int (max i j)) H := rfl
theorem q_min : mMin [.int i, .int j] H Q = Q (.int (min i j)) H := rfl
theorem q_abs : mAbs [.int i] H Q = Q (.int (i.natAbs : Int)) H := rfl
theorem q_sum : mSum K [.ref p] H Q = (∃ ns : List Int, SqL K H p (ns.map V.int) ∧ Q (.int ns.sum) H) := rfl
theorem q_list : mList K [.ref p] H Q = (∃ ys, (SqL K H p ys ∨ SqT K H p ys) ∧ ∀ l, H l = none → Q (.ref l) (upd H l (.lst ys))) := rfl
theorem q_isi1 {z : Str} : mIsi K [.str z, .ty "str"] H Q = Q (.bl true) H := by unfold mIsi; simp only [tyN, kb1]
theorem q_is1 : mIs x .non H Q = Q (.bl (isN x)) H := rfl
theorem q_not1 : mNot x .non H Q = Q (.bl (!isN x)) H := rfl
theorem q_isN1 : isN .non = true := rfl
theorem q_isN2 : isN (.ref p) = false := rfl
theorem q_isN3 : isN (.str a) = false := rfl
theorem q_isN4 : isN (.int i) = false := rfl
theorem q_join : mJoin K a (.ref p) H Q = (∃ ys : List Str, (SqL K H p (ys.map V.str) ∨ SqT K H p (ys.map V.str)) ∧ (ys.map (·.length)).sum + ys.length * a.length ≤ 16777216 ∧ Q (.str (Txt.join a ys)) H) := rfl
theorem q_count : mCount a (.str b) H Q = Q (.int (Txt.count a b)) H := rfl
theorem q_split : mSplit a (.str b) H Q = ((b.length == 0) = false ∧ a.length + 2 ≤ sizeLine ∧ ∀ r, H r = none → Q (.ref r) (upd H r (.lst ((Txt.split a b).map V.str)))) := rfl
theorem q_app {xs : List V} : mApp p xs [y] H Q = (xs.length < sizeLine ∧ Q .non (upd H p (.lst (xs ++ [y])))) := rfl
theorem q_pop {xs : List V} : mPop p xs [] H Q = (∃ y, xs.getLast? = some y ∧ Q y (upd H p (.lst xs.dropLast))) := rfl
theorem q_clear {xs : List V} : mClear p xs [] H Q = Q .non (upd H p (.lst [])) := rfl
theorem q_isiE {C : Addr} : mIsiE K [.ref p, .ref C] H Q = (∃ (D d : Addr) (fl : Str) (fs : List (Str × V)) (b : Bool), ExcK K fl D ∧ H p = some (exk p (.ref D) (some d)) ∧ H d = some (.xd fs) ∧ PySem.W.kitOne K (.ref D) (.ref C) = some b ∧ Q (.bl b) H) := rfl
theorem q_sorted : mSorted K [.ref p] H Q = (∃ xs : List Str, SqL K H p (xs.map V.str) ∧ ∀ (ys : List Str) (r : Addr), ys.Perm xs → sortedS ys = true → H r = none → Q (.ref r) (upd H r (.lst (ys.map V.str)))) := rfl
theorem q_repr : mRepr K [x] H Q = (∃ d, Sh K H x d ∧ d.showable = true ∧ d.depth ≤ 64 ∧ d.shown.length ≤ sizeLine ∧ Q (.str d.shown) H) := rfl
/-- joined texts -/
theorem join_S : ∀ l : List (List Nat), Txt.join (S []) (l.map S) = S l.flatten := by
  intro l
  show PySem.Builtin.Str.glued (S []) (l.map S) = _
  rw [StrLaws.glued_eq_join]
  induction l with
  | nil => rfl
  | cons z l ih =>
    cases l with
    | nil => show S z = S (z ++ []); rw [List.append_nil]
    | cons y r =>
      show S z ++ S [] ++ Str.join (S []) ((y :: r).map S) = _
      rw [ih, S_app, S_app, List.append_nil]
      simp only [List.flatten_cons]
theorem join_signs (l : List Nat) : Txt.join (S []) (l.map fun c => S [c]) = S l := by
  have e : (l.map fun c => S [c]) = (l.map fun c => [c]).map S := by rw [List.map_map]; rfl
  rw [e, join_S]
  congr 1
  induction l with
  | nil => rfl
  | cons c r ih => show [c] ++ (r.map fun c => [c]).flatten = _; rw [ih (by rw [List.map_map]; rfl)]; rfl
end
def sg (P : List Nat) : List V := P.map fun c => V.str (S [c])
def tx (l : List (List Nat)) : List V := l.map fun z => V.str (S z)
theorem sg_tx (P : List Nat) : sg P = tx (P.map fun c => [c]) := by unfold sg tx; rw [List.map_map]; rfl
theorem sg_str (P : List Nat) : sg P = (P.map fun c => S [c]).map V.str := by unfold sg; rw [List.map_map]; rfl
theorem sg_len (P : List Nat) : (sg P).length = P.length := by unfold sg; rw [List.length_map]
theorem tx_len (P : List (List Nat)) : (tx P).length = P.length := by unfold tx; rw [List.length_map]
theorem sg_app (a b : List Nat) : sg (a ++ b) = sg a ++ sg b := by unfold sg; rw [List.map_append]
theorem tx_app (a b : List (List Nat)) : tx (a ++ b) = tx a ++ tx b := by unfold tx; rw [List.map_append]
theorem one_len (P : List Nat) : ((P.map fun c => S [c]).map (·.length)).sum = P.length := by
  induction P with
  | nil => rfl
  | cons c r ih => simp only [List.map_cons, List.sum_cons, List.length_cons, ih, S_len, List.length_nil]; omega
end M

/-! ### texts counted and cut at a sign -/
namespace M
open PySem PySem.Spec PyProof.Rows L2
theorem splitS {z : List Nat} {c : Nat} (hc : c < 256) : Txt.split (S z) (S [c]) = (TL.spl [c] 0 [] z).map S := SX.split_S (by simp) (by simpa using hc)
theorem spl_one {c d : Nat} {acc r : List Nat} : TL.spl [c] 0 acc (d :: r) = if d = c then acc :: TL.spl [c] 0 [] r else TL.spl [c] 0 (acc ++ [d]) r := by
  show (if TL.pre [c] (d :: r) = true then acc :: TL.spl [c] 0 [] r else TL.spl [c] 0 (acc ++ [d]) r) = _
  have : (TL.pre [c] (d :: r) = true) = (d = c) := by simp [TL.pre]
  simp only [this]
theorem spl_count (c : Nat) : ∀ (z acc : List Nat), (TL.spl [c] 0 acc z).length = z.count c + 1
  | [], acc => rfl
  | d :: r, acc => by
    rw [spl_one, List.count_cons]
    by_cases h : d = c
    · rw [if_pos h, List.length_cons, spl_count c r]; simp [h]
    · rw [if_neg h, spl_count c r]; simp [h]
theorem count_split {z : List Nat} {c : Nat} (hc : c < 256) : Txt.count (S z) (S [c]) + 1 = ((Txt.split (S z) (S [c])).length : Int) := by
  unfold Txt.count Txt.split
  by_cases h1 : (decide ((S z).length < (S [c]).length) || decide (Builtin.Str.strKind (S z) < Builtin.Str.strKind (S [c]))) = true
  · rw [if_pos h1]
    have hz : z = [] := by
      rcases Bool.or_eq_true_iff.mp h1 with h | h
      · have := of_decide_eq_true h
        simp only [S_len, List.length_singleton] at this
        exact List.length_eq_zero_iff.mp (by omega)
      · exact absurd (of_decide_eq_true h) (TL.kind_ok (SX.all256 (by simpa using hc)))
    subst hz
    have : Builtin.Str.occurrences (S []) (S [c]) 0 (S []).length ((S []).length + 1) = [] := by
      show Builtin.Str.occurrences (S []) (S [c]) 0 0 1 = []
      simp [Builtin.Str.occurrences, S_len]
    rw [this]; rfl
  · rw [if_neg h1]
    split
    · rename_i h2
      rw [List.isEmpty_iff.mp h2]; rfl
    · rw [length_partsBetween]
      push_cast
      rfl
theorem count_S {z : List Nat} {c : Nat} (hc : c < 256) : Txt.count (S z) (S [c]) = (z.count c : Int) := by
  have h := count_split (z := z) hc
  rw [splitS hc, List.length_map, spl_count] at h
  omega
theorem Tr.cnt_op : ∀ t : Tr, t.s.count 40 = t.n
  | .lf => rfl
  | .nd a b => by
    have h1 := Tr.cnt_op a
    have h2 := Tr.cnt_op b
    simp only [Tr.s, Tr.n, List.count_cons, List.count_append, List.count_nil, h1, h2]
    simp
theorem Tr.cnt_lf : ∀ t : Tr, t.s.count 46 = t.n + 1
  | .lf => rfl
  | .nd a b => by
    have h1 := Tr.cnt_lf a
    have h2 := Tr.cnt_lf b
    simp only [Tr.s, Tr.n, List.count_cons, List.count_append, List.count_nil, h1, h2]
    simp
    omega
/-- the pieces with texts between them -/
def fillP : List (List Nat) → List (List Nat) → List Nat
  | [], _ => []
  | p :: _, [] => p
  | p :: ps, h :: hs => p ++ h ++ fillP ps hs
theorem fill_acc (c : Nat) : ∀ (z acc : List Nat) (hs : List (List Nat)), fillP (TL.spl [c] 0 acc z) hs = acc ++ fillP (TL.spl [c] 0 [] z) hs
  | [], acc, hs => by cases hs <;> simp [TL.spl_nil, fillP]
  | d :: r, acc, hs => by
    rw [spl_one, spl_one]
    by_cases h : d = c
    · rw [if_pos h, if_pos h]
      cases hs <;> simp [fillP]
    · rw [if_neg h, if_neg h, fill_acc c r (acc ++ [d]), fill_acc c r ([] ++ [d])]
      simp
end M

/-! ### trees as a lattice -/
namespace M
namespace Tr
theorem s_cons (t : Tr) : ∃ c r, t.s = c :: r := by cases t <;> exact ⟨_, _, rfl⟩
theorem s_pre : ∀ (t u : Tr) (a b : List Nat), t.s ++ a = u.s ++ b → t = u ∧ a = b
  | .lf, .lf, a, b, h => ⟨rfl, by simpa [s] using h⟩
  | .lf, .nd l r, a, b, h => by simp [s] at h
  | .nd l r, .lf, a, b, h => by simp [s] at h
  | .nd l r, .nd l' r', a, b, h => by
    simp only [s, List.cons_append, List.append_assoc, List.cons.injEq, true_and] at h
    obtain ⟨rfl, h2⟩ := s_pre l l' _ _ h
    obtain ⟨rfl, h3⟩ := s_pre r r' _ _ h2
    exact ⟨rfl, by simpa using h3⟩
theorem s_inj {t u : Tr} : t.s = u.s ↔ t = u := ⟨fun h => (s_pre t u [] [] (by rw [h])).1, fun h => by rw [h]⟩
def join : Tr → Tr → Tr
  | .lf, t => t
  | .nd a b, .lf => .nd a b
  | .nd a b, .nd c d => .nd (join a c) (join b d)
def meet : Tr → Tr → Tr
  | .lf, _ => .lf
  | .nd _ _, .lf => .lf
  | .nd a b, .nd c d => .nd (meet a c) (meet b d)
/-- the first one grows into the second one -/
def le : Tr → Tr → Bool
  | .lf, _ => true
  | .nd _ _, .lf => false
  | .nd a b, .nd c d => le a c && le b d
theorem join_lf (t : Tr) : join t .lf = t := by cases t <;> rfl
theorem meet_lf (t : Tr) : meet t .lf = .lf := by cases t <;> rfl
theorem join_comm : ∀ t u : Tr, join t u = join u t
  | .lf, u => (join_lf u).symm
  | .nd a b, .lf => rfl
  | .nd a b, .nd c d => by simp only [join, join_comm a c, join_comm b d]
theorem meet_comm : ∀ t u : Tr, meet t u = meet u t
  | .lf, u => (meet_lf u).symm
  | .nd a b, .lf => rfl
  | .nd a b, .nd c d => by simp only [meet, meet_comm a c, meet_comm b d]
theorem join_self : ∀ t : Tr, join t t = t
  | .lf => rfl
  | .nd a b => by simp only [join, join_self a, join_self b]
theorem meet_self : ∀ t : Tr, meet t t = t
  | .lf => rfl
  | .nd a b => by simp only [meet, meet_self a, meet_self b]
theorem join_meet : ∀ t u : Tr, join t (meet t u) = t
  | .lf, u => rfl
  | .nd a b, .lf => rfl
  | .nd a b, .nd c d => by simp only [join, meet, join_meet a c, join_meet b d]
theorem meet_join : ∀ t u : Tr, meet t (join t u) = t
  | .lf, u => rfl
  | .nd a b, .lf => by show meet (.nd a b) (.nd a b) = _; exact meet_self _
  | .nd a b, .nd c d => by simp only [join, meet, meet_join a c, meet_join b d]
theorem join_assoc : ∀ t u v : Tr, join (join t u) v = join t (join u v)
  | .lf, u, v => rfl
  | .nd a b, .lf, v => rfl
  | .nd a b, .nd c d, .lf => rfl
  | .nd a b, .nd c d, .nd e f => by simp only [join, join_assoc a c e, join_assoc b d f]
theorem meet_assoc : ∀ t u v : Tr, meet (meet t u) v = meet t (meet u v)
  | .lf, u, v => rfl
  | .nd a b, .lf, v => rfl
  | .nd a b, .nd c d, .lf => rfl
  | .nd a b, .nd c d, .nd e f => by simp only [meet, meet_assoc a c e, meet_assoc b d f]
theorem join_dist : ∀ t u v : Tr, join t (meet u v) = meet (join t u) (join t v)
  | .lf, u, v => rfl
  | .nd a b, .lf, .lf => by show Tr.nd a b = meet (.nd a b) (.nd a b); rw [meet_self]
  | .nd a b, .lf, .nd e f => by
    show Tr.nd a b = meet (.nd a b) (.nd (join a e) (join b f))
    simp only [meet, meet_join]
  | .nd a b, .nd c d, .lf => by
    show Tr.nd a b = meet (.nd (join a c) (join b d)) (.nd a b)
    rw [meet_comm]; simp only [meet, meet_join]
  | .nd a b, .nd c d, .nd e f => by simp only [join, meet, join_dist a c e, join_dist b d f]
theorem n_join : ∀ t u : Tr, (join t u).n + (meet t u).n = t.n + u.n
  | .lf, u => by show u.n + 0 = 0 + u.n; omega
  | .nd a b, .lf => rfl
  | .nd a b, .nd c d => by
    have h1 := n_join a c
    have h2 := n_join b d
    simp only [join, meet, n]; omega
theorem le_join_iff : ∀ t u : Tr, le u t = true ↔ join t u = t
  | t, .lf => by simp [le, join_lf]
  | .lf, .nd c d => by simp [le, join]
  | .nd a b, .nd c d => by simp only [le, join, Bool.and_eq_true, le_join_iff a c, le_join_iff b d, Tr.nd.injEq]
theorem le_meet_iff : ∀ t u : Tr, le u t = true ↔ meet t u = u
  | t, .lf => by simp [le, meet_lf]
  | .lf, .nd c d => by simp [le, meet]
  | .nd a b, .nd c d => by simp only [le, meet, Bool.and_eq_true, le_meet_iff a c, le_meet_iff b d, Tr.nd.injEq]
theorem le_join (t u : Tr) : le t (join t u) = true := (le_meet_iff _ _).mpr (by rw [meet_comm, meet_join])
theorem meet_le (t u : Tr) : le (meet t u) t = true := (le_join_iff _ _).mpr (join_meet t u)
theorem join_n_le (t u : Tr) : (join t u).n ≤ t.n + u.n := by have := n_join t u; omega
theorem meet_n_le (t u : Tr) : (meet t u).n ≤ t.n + u.n := by have := n_join t u; omega
theorem le_n : ∀ t u : Tr, le t u = true → t.n ≤ u.n
  | .lf, u, _ => Nat.zero_le _
  | .nd a b, .lf, h => by simp [le] at h
  | .nd a b, .nd c d, h => by
    simp only [le, Bool.and_eq_true] at h
    have h1 := le_n a c h.1
    have h2 := le_n b d h.2
    simp only [n]; omega
/-- the trees with which a top grows into a tree -/
def hang : Tr → Tr → List Tr
  | .lf, t => [t]
  | .nd _ _, .lf => []
  | .nd a b, .nd c d => hang a c ++ hang b d
/-- the leaves replaced, from left to right -/
def grow : Tr → List Tr → Tr × List Tr
  | .lf, [] => (.lf, [])
  | .lf, h :: r => (h, r)
  | .nd a b, l => (.nd (grow a l).1 (grow b (grow a l).2).1, (grow b (grow a l).2).2)
theorem hang_len : ∀ t u : Tr, le t u = true → (hang t u).length = t.n + 1
  | .lf, u, _ => rfl
  | .nd a b, .lf, h => by simp [le] at h
  | .nd a b, .nd c d, h => by
    simp only [le, Bool.and_eq_true] at h
    simp only [hang, n, List.length_append, hang_len a c h.1, hang_len b d h.2]; omega
theorem grow_hang : ∀ (t u : Tr) (r : List Tr), le t u = true → grow t (hang t u ++ r) = (u, r)
  | .lf, u, r, _ => rfl
  | .nd a b, .lf, r, h => by simp [le] at h
  | .nd a b, .nd c d, r, h => by
    simp only [le, Bool.and_eq_true] at h
    simp only [grow, hang, List.append_assoc, grow_hang a c _ h.1, grow_hang b d _ h.2]
theorem hang_n : ∀ (t u h : Tr), h ∈ hang t u → h.n ≤ u.n
  | .lf, u, h, hm => by rw [List.mem_singleton.mp hm]; exact Nat.le_refl _
  | .nd a b, .lf, h, hm => by cases hm
  | .nd a b, .nd c d, h, hm => by
    simp only [n]
    rcases List.mem_append.mp hm with hm | hm
    · have := hang_n a c h hm; omega
    · have := hang_n b d h hm; omega
theorem fill_grow : ∀ (t : Tr) (hs : List Tr) (r : List Nat), t.n + 1 ≤ hs.length → fillP (TL.spl [46] 0 [] (t.s ++ r)) (hs.map Tr.s) = (grow t hs).1.s ++ fillP (TL.spl [46] 0 [] r) ((grow t hs).2.map Tr.s) ∧ (grow t hs).2.length + (t.n + 1) = hs.length
  | .lf, [], r, h => by simp [n] at h
  | .lf, x :: hs, r, h => by
    show fillP (TL.spl [46] 0 [] (46 :: r)) _ = _ ∧ _
    rw [spl_one, if_pos rfl]
    exact ⟨by simp [fillP, grow], by simp [grow, n]⟩
  | .nd a b, hs, r, h => by
    simp only [n] at h
    obtain ⟨a1, a2⟩ := fill_grow a hs (b.s ++ 41 :: r) (by omega)
    obtain ⟨b1, b2⟩ := fill_grow b (grow a hs).2 (41 :: r) (by omega)
    have e0 : TL.spl [46] 0 [] ((Tr.nd a b).s ++ r) = TL.spl [46] 0 [40] (a.s ++ (b.s ++ 41 :: r)) := by
      show TL.spl [46] 0 [] (40 :: ((a.s ++ (b.s ++ [41])) ++ r)) = _
      rw [spl_one, if_neg (by decide)]
      simp
    have e1 : fillP (TL.spl [46] 0 [] (41 :: r)) ((grow b (grow a hs).2).2.map Tr.s) = 41 :: fillP (TL.spl [46] 0 [] r) ((grow b (grow a hs).2).2.map Tr.s) := by
      rw [spl_one, if_neg (by decide), fill_acc]
      rfl
    refine ⟨?_, by simp only [grow, n]; omega⟩
    rw [e0, fill_acc, a1, b1, e1]
    simp [grow, s]
theorem fill_all (t : Tr) (hs : List Tr) (h : hs.length = t.n + 1) : fillP (TL.spl [46] 0 [] t.s) (hs.map Tr.s) = (grow t hs).1.s := by
  obtain ⟨h1, h2⟩ := fill_grow t hs [] (by omega)
  rw [List.append_nil] at h1
  have : (grow t hs).2 = [] := List.length_eq_zero_iff.mp (by omega)
  rw [h1, this]
  simp [TL.spl_nil, fillP]
theorem grow_n : ∀ (t : Tr) (hs : List Tr), (grow t hs).1.n + ((grow t hs).2.map Tr.n).sum ≤ t.n + (hs.map Tr.n).sum
  | .lf, [] => by simp [grow]
  | .lf, x :: hs => by simp [grow, n]
  | .nd a b, hs => by
    have h1 := grow_n a hs
    have h2 := grow_n b (grow a hs).2
    simp only [grow, n]
    omega
end Tr
end M

namespace M
open PySem PySem.Spec PyProof.Rows L2
namespace Tr
/-- the part at an address -/
def att : Tr → List Nat → Option Tr
  | t, [] => some t
  | .lf, _ :: _ => none
  | .nd a b, c :: r => if c = 114 then att b r else att a r
/-- another tree put at an address -/
def put : Tr → List Nat → Tr → Tr
  | _, [], o => o
  | .lf, _ :: _, _ => .lf
  | .nd a b, c :: r, o => if c = 114 then .nd a (put b r o) else .nd (put a r o) b
theorem att_lf (c : Nat) (r : List Nat) : att .lf (c :: r) = none := rfl
theorem att_nil (t : Tr) : att t [] = some t := by cases t <;> rfl
theorem put_nil (t o : Tr) : put t [] o = o := by cases t <;> rfl
theorem att_put : ∀ (r : List Nat) (t u : Tr), att t r = some u → ∃ pre post : List Nat, t.s = pre ++ u.s ++ post ∧ ∀ o, (put t r o).s = pre ++ o.s ++ post
  | [], t, u, h => by
    rw [att_nil] at h
    cases h
    exact ⟨[], [], by simp, fun o => by rw [put_nil]; simp⟩
  | c :: r, .lf, u, h => by cases h
  | c :: r, .nd a b, u, h => by
    by_cases z : c = 114
    · simp only [att, if_pos z] at h
      obtain ⟨p, q, h1, h2⟩ := att_put r b u h
      refine ⟨40 :: (a.s ++ p), q ++ [41], ?_, fun o => ?_⟩
      · simp only [Tr.s, h1, List.cons_append, List.append_assoc, List.nil_append]
      · simp only [put, if_pos z, Tr.s, h2, List.cons_append, List.append_assoc, List.nil_append]
    · simp only [att, if_neg z] at h
      obtain ⟨p, q, h1, h2⟩ := att_put r a u h
      refine ⟨40 :: p, q ++ (b.s ++ [41]), ?_, fun o => ?_⟩
      · simp only [Tr.s, h1, List.cons_append, List.append_assoc, List.nil_append]
      · simp only [put, if_neg z, Tr.s, h2, List.cons_append, List.append_assoc, List.nil_append]
theorem att_n : ∀ (r : List Nat) (t u : Tr), att t r = some u → u.n + r.length ≤ t.n
  | [], t, u, h => by rw [att_nil] at h; cases h; simp
  | c :: r, .lf, u, h => by cases h
  | c :: r, .nd a b, u, h => by
    simp only [att] at h
    simp only [Tr.n, List.length_cons]
    split at h
    · have := att_n r b u h; omega
    · have := att_n r a u h; omega
theorem put_n : ∀ (r : List Nat) (t o : Tr), (put t r o).n ≤ t.n + o.n
  | [], t, o => by rw [put_nil]; omega
  | c :: r, .lf, o => by simp [put, Tr.n]
  | c :: r, .nd a b, o => by
    simp only [put]
    split
    · have := put_n r b o; simp only [Tr.n]; omega
    · have := put_n r a o; simp only [Tr.n]; omega
end Tr
/-- an address' letters -/
def isAd (z : List Nat) : Bool := decide (∀ c ∈ z, c = 108 ∨ c = 114)
end M

/-! ### small tactics for heaps -/
namespace M
open PySem PySem.Spec PyProof.Rows L2
theorem Ex.at {H H1 : Hp} {a : Addr} {o : HO} (e : Ex H H1) (h : H a = some o) : H1 a = some o := e a o h
/-- what stands is not what is new -/
theorem ne_new {H : Hp} {p q : Addr} {o : HO} (h : H p = some o) (n : H q = none) : q ≠ p := fun z => by rw [z, h] at n; cases n
/-- what is refused: the error with the value -/
def Fail (E : XK) (H : Hp) (C : Addr) (v : V) : Prop := ∀ H' d, Ex H H' → H d = none → H' d = some (.xd [("value", v)]) → E (.ref C) (some d) H'
theorem Fail.ex {E : XK} {H H1 : Hp} {C : Addr} {v : V} (e : Ex H H1) (h : Fail E H C v) : Fail E H1 C v := fun H' d e1 n hd => h H' d (e.trans e1) (e.free n) hd
end M

/-! ### values shown by repr; a list of texts may grow -/
namespace M
open PySem PySem.Spec PyProof.Rows L2
theorem shown_str_le {z : List Nat} (h : okc z) : (PyData.str (S z)).shown.length ≤ 10 * z.length + 2 := by
  have := StrLaws.reprText_len (S z) fun c hc => by
    rw [S_cps] at hc
    have := h c hc
    exact Nat.lt_trans this (by decide)
  rw [S_len] at this
  simpa only [PyData.shown] using this
theorem shown_strs_sum (n : Nat) : ∀ l : List (List Nat), (∀ z ∈ l, z.length ≤ n ∧ okc z) → ((PyData.shownAll (dStrs l)).map (·.length)).sum ≤ (10 * n + 2) * l.length
  | [], _ => by simp [dStrs, PyData.shownAll]
  | z :: l, h => by
    have ih := shown_strs_sum n l fun y hy => h y (List.mem_cons_of_mem _ hy)
    have h1 := h z List.mem_cons_self
    have h2 := shown_str_le h1.2
    show ((PyData.shownAll (.str (S z) :: dStrs l)).map (·.length)).sum ≤ _
    simp only [PyData.shownAll, List.map_cons, List.sum_cons, List.length_cons, Nat.mul_add, Nat.mul_one]
    have : 10 * z.length ≤ 10 * n := by omega
    omega
theorem shownAll_len : ∀ l : List PyData, (PyData.shownAll l).length = l.length
  | [] => rfl
  | z :: l => by simp only [PyData.shownAll, List.length_cons, shownAll_len l]
theorem shown_list_le {n : Nat} {l : List (List Nat)} (h : ∀ z ∈ l, z.length ≤ n ∧ okc z) : (PyData.list (dStrs l)).shown.length ≤ (10 * n + 4) * l.length + 3 := by
  have h1 := listText_len_le (PyData.shownAll (dStrs l))
  have h2 := shown_strs_sum n l h
  rw [shownAll_len] at h1
  have h3 : (dStrs l).length = l.length := by unfold dStrs; rw [List.length_map]
  rw [h3] at h1
  simp only [PyData.shown]
  have : (10 * n + 4) * l.length = (10 * n + 2) * l.length + 2 * l.length := by rw [← Nat.add_mul]
  omega
theorem shown_tuple_le {n : Nat} {l : List (List Nat)} (h : ∀ z ∈ l, z.length ≤ n ∧ okc z) : (PyData.tuple (dStrs l)).shown.length ≤ (10 * n + 4) * l.length + 3 := by
  have h1 := tupleText_len_le (PyData.shownAll (dStrs l))
  have h2 := shown_strs_sum n l h
  rw [shownAll_len] at h1
  have h3 : (dStrs l).length = l.length := by unfold dStrs; rw [List.length_map]
  rw [h3] at h1
  simp only [PyData.shown]
  have : (10 * n + 4) * l.length = (10 * n + 2) * l.length + 2 * l.length := by rw [← Nat.add_mul]
  omega
theorem showable_strs : ∀ l : List (List Nat), PyData.showableAll (dStrs l) = true
  | [] => rfl
  | z :: l => by show PyData.showableAll (.str (S z) :: dStrs l) = true; simp only [PyData.showableAll, PyData.showable, showable_strs l, Bool.and_self]
theorem noDict_strs : ∀ l : List (List Nat), PyData.hasDictAll (dStrs l) = false
  | [] => rfl
  | z :: l => by show PyData.hasDictAll (.str (S z) :: dStrs l) = false; simp only [PyData.hasDictAll, PyData.hasDict, noDict_strs l, Bool.or_self]
end M

/-! ### texts told by repr have good signs -/
namespace M
open PySem PySem.Spec PyProof.Rows L2
def okT (x : Str) : Prop := ∀ c ∈ x.cps.toList, c < 1114112
theorem okT_strOk {x : Str} (h : okT x) : PyData.strOk x = true := by
  unfold PyData.strOk
  rw [← Array.all_toList, List.all_eq_true]
  intro c hc
  exact decide_eq_true (h c hc)
theorem char_lt (c : Char) : c.toNat < 1114112 := by
  have := c.valid
  rcases this with h | ⟨_, h⟩
  · exact Nat.lt_trans h (by decide)
  · exact h
theorem okT_app {a b : Str} (h1 : okT a) (h2 : okT b) : okT (a ++ b) := by
  intro c hc
  have e : (a ++ b).cps.toList = a.cps.toList ++ b.cps.toList := by
    show (a.cps ++ b.cps).toList = _
    simp
  rw [e] at hc
  exact (List.mem_append.mp hc).elim (h1 c) (h2 c)
theorem okT_of (s : String) : okT (Str.ofString s) := by
  intro c hc
  have e : (Str.ofString s).cps.toList = s.toList.map Char.toNat := by
    unfold Str.ofString
    rw [List.toList_toArray, cpsOfBytes_string]
  rw [e] at hc
  obtain ⟨d, _, rfl⟩ := List.mem_map.mp hc
  exact char_lt d
theorem okT_S {z : List Nat} (h : okc z) : okT (S z) := fun c hc => h c (by rw [S_cps] at hc; exact hc)
theorem hex_ok (w c : Nat) : ∀ d ∈ List.replicate (w - ((Nat.toDigits 16 c).map Char.toNat).length) 48 ++ (Nat.toDigits 16 c).map Char.toNat, d < 1114112 := fun d hd => by
  rcases List.mem_append.mp hd with h | h
  · rw [(List.mem_replicate.mp h).2]; decide
  · obtain ⟨x, _, rfl⟩ := List.mem_map.mp h
    exact char_lt x
theorem reprChar_ok (q c : Nat) (hq : q < 1114112) (hc : c < 1114112) : ∀ d ∈ Builtin.Str.reprChar q c, d < 1114112 := by
  intro d hd
  unfold Builtin.Str.reprChar at hd
  dsimp only at hd
  have h2 := hex_ok 2 c
  have h4 := hex_ok 4 c
  have h8 := hex_ok 8 c
  repeat' split at hd
  all_goals first
    | (simp only [List.mem_cons, List.not_mem_nil, or_false] at hd; omega)
    | (rcases List.mem_append.mp hd with hd | hd
       · simp only [List.mem_cons, List.not_mem_nil, or_false] at hd; omega
       · first | exact h2 d hd | exact h4 d hd | exact h8 d hd)
theorem foldl_repr_ok (q : Nat) (hq : q < 1114112) : ∀ (l : List Nat) (acc : Array Nat), (∀ c ∈ l, c < 1114112) → (∀ c ∈ acc.toList, c < 1114112) → ∀ c ∈ (l.foldl (fun out c => out ++ (Builtin.Str.reprChar q c).toArray) acc).toList, c < 1114112
  | [], acc, _, h => h
  | x :: r, acc, h1, h2 => by
    rw [List.foldl_cons]
    refine foldl_repr_ok q hq r _ (fun c hc => h1 c (List.mem_cons_of_mem _ hc)) fun c hc => ?_
    rw [Array.toList_append, List.toList_toArray] at hc
    exact (List.mem_append.mp hc).elim (h2 c) (reprChar_ok q x hq (h1 x List.mem_cons_self) c)
theorem okT_repr {x : Str} (h : okT x) : okT (reprText x) := by
  have hq : reprQuote x < 1114112 := by
    unfold reprQuote
    split <;> decide
  intro c hc
  unfold reprText at hc
  rw [← Array.foldl_toList] at hc
  simp only [Array.toList_push] at hc
  rcases List.mem_append.mp hc with hc | hc
  · exact foldl_repr_ok _ hq _ _ h (fun c hc => by rw [List.mem_singleton.mp hc]; exact hq) c hc
  · rw [List.mem_singleton.mp hc]; exact hq
theorem okT_join {s : Str} (hs : okT s) : ∀ l : List Str, (∀ x ∈ l, okT x) → okT (Str.join s l)
  | [], _ => fun c hc => by cases hc
  | [x], h => h x List.mem_cons_self
  | x :: y :: r, h => by
    have ih := okT_join hs (y :: r) fun z hz => h z (List.mem_cons_of_mem _ hz)
    show okT (x ++ s ++ Str.join s (y :: r))
    exact okT_app (okT_app (h x List.mem_cons_self) hs) ih
theorem okT_textFrom : ∀ (l : List Str) (k : Nat) (acc : Str), okT acc → (∀ x ∈ l, okT x) → okT (PySem.textFrom k acc l)
  | [], k, acc, h, _ => h
  | x :: r, k, acc, h, hl => by
    refine okT_textFrom r (k + 1) _ (okT_app (okT_app h (okT_of _)) (hl x List.mem_cons_self)) fun z hz => hl z (List.mem_cons_of_mem _ hz)
theorem okT_strs : ∀ l : List (List Nat), (∀ z ∈ l, okc z) → ∀ x ∈ PyData.shownAll (dStrs l), okT x
  | [], _ => fun x hx => by cases hx
  | z :: l, h => fun x hx => by
    have hx' : x ∈ PyData.shownAll (.str (S z) :: dStrs l) := hx
    simp only [PyData.shownAll, PyData.shown] at hx'
    rcases List.mem_cons.mp hx' with rfl | hx'
    · exact okT_repr (okT_S (h z List.mem_cons_self))
    · exact okT_strs l (fun y hy => h y (List.mem_cons_of_mem _ hy)) x hx'
theorem okT_list {l : List (List Nat)} (h : ∀ z ∈ l, okc z) : okT (PyData.list (dStrs l)).shown := by
  simp only [PyData.shown]
  exact okT_app (okT_textFrom _ 0 _ (okT_of "[") (okT_strs l h)) (okT_of "]")
theorem okT_tuple {l : List (List Nat)} (h : ∀ z ∈ l, okc z) : okT (PyData.tuple (dStrs l)).shown := by
  simp only [PyData.shown]
  exact okT_app (okT_app (okT_of "(") (okT_join (okT_of ", ") _ (okT_strs l h))) (okT_of _)
end M

namespace M
open PySem PySem.Spec PyProof.Rows L2
/-- what is shown: a value that stays, or a list of at most n texts that may grow -/
inductive Bd (K : PySem.W.Frag) (n : Nat) (H : Hp) : V → List Addr → PyData → Prop
  | st {v : V} {d : PyData} : (∀ H', Ex H H' → Sh K H' v d) → d.showable = true → d.depth ≤ 64 → d.shown.length ≤ sizeLine → okT d.shown → (∀ (H' : Hp) (Q : VK), Ex H H' → Q (.bl false) H' → mIsi K [v, .ty "list"] H' Q) → Bd K n H v [] d
  | ls {p : Addr} {l : List (List Nat)} : H p = some (.lst (tx l)) → l.length ≤ n → (∀ z ∈ l, z.length ≤ 1000 ∧ okc z) → Bd K n H (.ref p) [p] (.list (dStrs l))
theorem Bd.ex {K : PySem.W.Frag} {n : Nat} {H H' : Hp} {v : V} {m : List Addr} {d : PyData} (e : Ex H H') (h : Bd K n H v m d) : Bd K n H' v m d := by
  cases h with
  | st h1 h2 h3 h4 h6 h5 => exact .st (fun H2 e2 => h1 H2 (e.trans e2)) h2 h3 h4 h6 fun H2 Q e2 => h5 H2 Q (e.trans e2)
  | ls h1 h2 h3 => exact .ls (e _ _ h1) h2 h3
theorem Bd.mono {K : PySem.W.Frag} {n k : Nat} {H : Hp} {v : V} {m : List Addr} {d : PyData} (hk : n ≤ k) (h : Bd K n H v m d) : Bd K k H v m d := by
  cases h with
  | st h1 h2 h3 h4 h6 h5 => exact .st h1 h2 h3 h4 h6 h5
  | ls h1 h2 h3 => exact .ls h1 (by omega) h3
theorem Bd.shows {K : PySem.W.Frag} {n : Nat} {H : Hp} {v : V} {m : List Addr} {d : PyData} (h : Bd K n H v m d) (hn : n ≤ 1000) : Sh K H v d ∧ d.showable = true ∧ d.depth ≤ 64 ∧ d.shown.length ≤ sizeLine ∧ okT d.shown := by
  cases h with
  | st h1 h2 h3 h4 h6 h5 => exact ⟨h1 H (Ex.refl H), h2, h3, h4, h6⟩
  | @ls p l h1 h2 h3 =>
    have := shown_list_le h3
    refine ⟨.dp (.lst (SqL.of h1) (dp_strs l)) (by simpa only [PyData.hasDict] using noDict_strs l), by simpa only [PyData.showable] using showable_strs l, by simp only [PyData.depth, dep_strs]; decide, ?_, okT_list fun z hz => (h3 z hz).2⟩
    have h4 : (10 * 1000 + 4) * l.length ≤ (10 * 1000 + 4) * 1000 := Nat.mul_le_mul_left _ (by omega)
    rw [szl]; omega
section
variable {K : PySem.W.Frag} {n : Nat} {H : Hp}
theorem Bd.non : Bd K n H .non [] .none := .st (fun _ _ => .dp .non rfl) rfl (by decide) (by decide +kernel) (okT_of "None") fun H' Q _ q => by unfold mIsi; simp only [tyN, kb19]; exact q
theorem Bd.int (i : Int) (h1 : (PyData.int i).showable = true) (h2 : (PyData.int i).shown.length ≤ sizeLine) : Bd K n H (.int i) [] (.int i) := .st (fun _ _ => .dp (.int i) rfl) h1 (by simp only [PyData.depth]; decide) h2 (by simp only [PyData.shown]; exact okT_of _) fun H' Q _ q => by unfold mIsi; simp only [tyN, kb9]; exact q
theorem Bd.bl (b : Bool) : Bd K n H (.bl b) [] (.bool b) := .st (fun _ _ => .dp (.bl b) rfl) rfl (by simp only [PyData.depth]; decide) (by cases b <;> decide +kernel) (by simp only [PyData.shown]; cases b <;> exact okT_of _) fun H' Q _ q => by unfold mIsi; simp only [tyN, kb14]; exact q
theorem Bd.str {z : List Nat} (hz : okc z) (hl : z.length ≤ 1000000) : Bd K n H (.str (S z)) [] (.str (S z)) := .st (fun _ _ => .dp (.str _) rfl) rfl (by simp only [PyData.depth]; decide) (by have := shown_str_le hz; rw [szl]; omega) (by simp only [PyData.shown]; exact okT_repr (okT_S hz)) fun H' Q _ q => by unfold mIsi; simp only [tyN, kb4]; exact q
theorem Bd.tup {a : Addr} {l : List (List Nat)} (h : SqT K H a (tx l)) (hl : l.length ≤ 1000) (h3 : ∀ z ∈ l, z.length ≤ 1000 ∧ okc z) : Bd K n H (.ref a) [] (.tuple (dStrs l)) :=
  .st (fun _ e => .dp (.tup (e.T h) (dp_strs l)) (by simpa only [PyData.hasDict] using noDict_strs l)) (by simpa only [PyData.showable] using showable_strs l) (by simp only [PyData.depth, dep_strs]; decide) (by
    have := shown_tuple_le h3
    have h4 : (10 * 1000 + 4) * l.length ≤ (10 * 1000 + 4) * 1000 := Nat.mul_le_mul_left _ (by omega)
    rw [szl]; omega) (okT_tuple fun z hz => (h3 z hz).2) fun H' Q e q => ⟨_, _, tyX_tup (e.T h), ki_tup.2.2.2.1, q⟩
theorem Bd.dct {a : Addr} (h : H a = some (.dK [])) : Bd K n H (.ref a) [] (.dict []) := .st (fun _ e => .dct (e _ _ h) rfl) rfl (by decide) (by decide +kernel) (okT_app (okT_app (okT_of "{") (okT_join (okT_of ", ") _ fun x hx => by cases hx)) (okT_of "}")) fun H' Q e q => ⟨_, _, .base (.dK (e _ _ h)), ki_dict.2.2.2.1, q⟩
end
/-- a bad value shown stays one -/
theorem Bd.fm {K : PySem.W.Frag} {n k : Nat} {H H' : Hp} {v : V} {m : List Addr} {d d' : PyData} (h : Bd K n H v m d) (f : Fm m H H') (h' : Bd K k H' v m d') : Ex H H' ∨ ∃ p xs, v = .ref p ∧ m = [p] ∧ SqL K H' p xs := by
  cases h with
  | st => exact .inl (Fm.nil f)
  | ls => cases h' with
    | ls h1 => exact .inr ⟨_, _, rfl, rfl, SqL.of h1⟩
/-- lists [b, c, text] compared -/
theorem eq_bbs {K : PySem.W.Frag} {neg : Bool} {H : Hp} {Q : VK} {p q : Addr} {b c : Bool} {x : Str} (h1 : SqL K H p [.bl b, .bl c, .str x]) (h2 : SqL K H q [.bl b, .bl c, .str x]) (hx : okT x) (k : Q (.bl (!neg)) H) : rEqW K neg (.ref p) (.ref q) H Q := by
  have lay : (PyData.list [.bool b, .bool c, .str x]).canLay0 = true := by simp only [PyData.canLay0, PyData.canLayAll0, okT_strOk hx, Bool.and_self]
  have dp : ∀ {r : Addr}, SqL K H r [.bl b, .bl c, .str x] → Dp K H (.ref r) (.list [.bool b, .bool c, .str x]) := fun h => .lst h (.cons (.bl b) (.cons (.bl c) (.cons (.str x) .nil)))
  refine ⟨_, _, dp h1, dp h2, lay, lay, by simp only [PyData.depth, PyData.depthAll]; decide, ?_⟩
  have e : PyData.eqv (.list [.bool b, .bool c, .str x]) (.list [.bool b, .bool c, .str x]) = true := by simp [PyData.eqv, PyData.eqvAll]
  rw [e]
  cases neg <;> exact k
end M

/-! ### bad values in a row, each of them a list that may grow -/
namespace M
open PySem PySem.Spec PyProof.Rows L2
def gdL (l : List (List Nat)) : Prop := ∀ z ∈ l, z.length ≤ 1000 ∧ okc z
inductive Bw (K : PySem.W.Frag) (n : Nat) (H : Hp) : V → Prop
  | non : Bw K n H .non
  | int {i : Int} : (PyData.int i).showable = true → (PyData.int i).shown.length ≤ sizeLine → Bw K n H (.int i)
  | bl (b : Bool) : Bw K n H (.bl b)
  | str {z : List Nat} : okc z → z.length ≤ 1000000 → Bw K n H (.str (S z))
  | lst {p : Addr} {l : List (List Nat)} : H p = some (.lst (tx l)) → l.length ≤ n → gdL l → Bw K n H (.ref p)
  | tup {p : Addr} {l : List (List Nat)} : H p = some (.tup (tx l)) → l.length ≤ 1000 → gdL l → Bw K n H (.ref p)
  | dct {p : Addr} : H p = some (.dK []) → Bw K n H (.ref p)
theorem Bw.bd {K : PySem.W.Frag} {n : Nat} {H : Hp} {w : V} (h : Bw K n H w) : ∃ m d, Bd K n H w m d ∧ ∀ p ∈ m, w = .ref p := by
  cases h with
  | non => exact ⟨_, _, .non, fun p h => by cases h⟩
  | int h1 h2 => exact ⟨_, _, .int _ h1 h2, fun p h => by cases h⟩
  | bl b => exact ⟨_, _, .bl b, fun p h => by cases h⟩
  | str h1 h2 => exact ⟨_, _, .str h1 h2, fun p h => by cases h⟩
  | lst h1 h2 h3 => exact ⟨_, _, .ls h1 h2 h3, fun p h => by rw [List.mem_singleton.mp h]⟩
  | tup h1 h2 h3 => exact ⟨_, _, .tup (SqT.of h1) h2 h3, fun p h => by cases h⟩
  | dct h1 => exact ⟨_, _, .dct h1, fun p h => by cases h⟩
theorem Bw.ex {K : PySem.W.Frag} {n : Nat} {H H' : Hp} {w : V} (e : Ex H H') (h : Bw K n H w) : Bw K n H' w := by
  cases h with
  | non => exact .non
  | int h1 h2 => exact .int h1 h2
  | bl b => exact .bl b
  | str h1 h2 => exact .str h1 h2
  | lst h1 h2 h3 => exact .lst (e _ _ h1) h2 h3
  | tup h1 h2 h3 => exact .tup (e _ _ h1) h2 h3
  | dct h1 => exact .dct (e _ _ h1)
theorem Bw.step {K : PySem.W.Frag} {n k : Nat} {H H' : Hp} {v w : V} {m : List Addr} {d d' : PyData} (h : Bw K n H w) (bd : Bd K n H v m d) (f : Fm m H H') (bd' : Bd K k H' v m d') (hk : n ≤ k) : Bw K k H' w := by
  have at_ : ∀ {p : Addr} {o : HO}, H p = some o → (∀ l, o ≠ .lst (tx l)) → H' p = some o := fun {p o} h n => by
    refine f p o (fun hp => ?_) h
    cases bd with
    | st => cases hp
    | ls h1 => rw [List.mem_singleton.mp hp, h1] at h; cases h; exact n _ rfl
  cases h with
  | non => exact .non
  | int h1 h2 => exact .int h1 h2
  | bl b => exact .bl b
  | str h1 h2 => exact .str h1 h2
  | @lst p l h1 h2 h3 =>
    by_cases hp : p ∈ m
    · cases bd' with
      | st => cases hp
      | ls g1 g2 g3 => rw [List.mem_singleton.mp hp]; exact .lst g1 g2 g3
    · exact .lst (f p _ hp h1) (by omega) h3
  | tup h1 h2 h3 => exact .tup (at_ h1 fun l z => by cases z) h2 h3
  | dct h1 => exact .dct (at_ h1 fun l z => by cases z)
/-- the addresses of a value -/
def rf : V → List Addr
  | .ref p => [p]
  | _ => []
theorem rf_mem {v : V} {p : Addr} : p ∈ rf v ↔ v = .ref p := by
  cases v <;> simp [rf, eq_comm]
theorem Bw.stp {K : PySem.W.Frag} {n k : Nat} {H H' : Hp} {v w : V} (h : Bw K n H w) (f : Fm (rf v) H H') (b : Bw K k H' v) (hk : n ≤ k) : Bw K k H' w := by
  have at_ : ∀ {p : Addr} {o : HO}, H p = some o → v ≠ .ref p → H' p = some o := fun {p o} h n => f p o (fun hp => n (rf_mem.mp hp)) h
  cases h with
  | non => exact .non
  | int h1 h2 => exact .int h1 h2
  | bl b => exact .bl b
  | str h1 h2 => exact .str h1 h2
  | @lst p l h1 h2 h3 =>
    by_cases e : v = .ref p
    · rw [← e]; exact b
    · exact .lst (at_ h1 e) (by omega) h3
  | @tup p l h1 h2 h3 =>
    by_cases e : v = .ref p
    · rw [← e]; exact b
    · exact .tup (at_ h1 e) h2 h3
  | @dct p h1 =>
    by_cases e : v = .ref p
    · rw [← e]; exact b
    · exact .dct (at_ h1 e)
theorem SqL.fm {K : PySem.W.Frag} {H H' : Hp} {m : List Addr} {q : Addr} {xs : List V} (hq : q ∉ m) (f : Fm m H H') (hL : SqL K H q xs) : SqL K H' q xs := by
  rcases hL with h | h
  · rcases h with h | ⟨o, h⟩
    · exact .inl (.inl (f _ _ hq h))
    · exact .inl (.inr ⟨o, f _ _ hq h⟩)
  · exact .inr h
theorem Fm.mono {a b : List Addr} {H H' : Hp} (h : ∀ x ∈ a, x ∈ b) (f : Fm a H H') : Fm b H H' := fun x o n => f x o fun y => n (h x y)
theorem Tr.s_okc : ∀ t : Tr, okc t.s
  | .lf => fun c h => by rw [List.mem_singleton.mp h]; decide
  | .nd a b => fun c h => by
    simp only [Tr.s, List.mem_cons, List.mem_append, List.not_mem_nil, or_false] at h
    rcases h with rfl | h | h | rfl
    · decide
    · exact Tr.s_okc a c h
    · exact Tr.s_okc b c h
    · decide
/-- what is new may change -/
theorem Fm.exN {m : List Addr} {H H1 H2 : Hp} (e : Ex H H1) (n : ∀ p ∈ m, H p = none) (f : Fm m H1 H2) : Ex H H2 := fun a o h => f a o (fun z => by rw [n a z] at h; cases h) (e a o h)
end M

/-! ### roads and parts -/
namespace M
open PySem PySem.Spec PyProof.Rows L2
theorem isAd_app {a b : List Nat} (h1 : isAd a = true) (h2 : isAd b = true) : isAd (a ++ b) = true := by
  unfold isAd at h1 h2 ⊢
  rw [decide_eq_true_eq] at h1 h2 ⊢
  exact fun c hc => (List.mem_append.mp hc).elim (h1 c) (h2 c)
theorem Tr.att_app : ∀ (a b : List Nat) (t : Tr), t.att (a ++ b) = (t.att a).bind fun u => u.att b
  | [], b, t => by rw [Tr.att_nil]; rfl
  | c :: a, b, .lf => rfl
  | c :: a, b, .nd l r => by
    show (if c = 114 then r.att (a ++ b) else l.att (a ++ b)) = (if c = 114 then r.att a else l.att a).bind _
    split
    · exact Tr.att_app a b r
    · exact Tr.att_app a b l
theorem lvs_att : ∀ (t : Tr) (r z : List Nat), z ∈ t.lvs r → ∃ s, z = r ++ s ∧ isAd s = true ∧ t.att s = some .lf
  | .lf, r, z, h => ⟨[], by rw [List.mem_singleton.mp h]; simp, rfl, rfl⟩
  | .nd a b, r, z, h => by
    rcases List.mem_append.mp h with h | h
    · obtain ⟨s, e, h1, h2⟩ := lvs_att a _ z h
      exact ⟨108 :: s, by rw [e]; simp, isAd_app (a := [108]) (by decide) h1, h2⟩
    · obtain ⟨s, e, h1, h2⟩ := lvs_att b _ z h
      exact ⟨114 :: s, by rw [e]; simp, isAd_app (a := [114]) (by decide) h1, h2⟩
theorem nds_att : ∀ (t : Tr) (r z : List Nat), z ∈ t.nds r → ∃ s a b, z = r ++ s ∧ isAd s = true ∧ t.att s = some (.nd a b)
  | .lf, r, z, h => by cases h
  | .nd a b, r, z, h => by
    rcases List.mem_append.mp h with h | h
    · obtain ⟨s, x, y, e, h1, h2⟩ := nds_att a _ z h
      exact ⟨108 :: s, x, y, by rw [e]; simp, isAd_app (a := [108]) (by decide) h1, h2⟩
    · rcases List.mem_append.mp h with h | h
      · exact ⟨[], a, b, by rw [List.mem_singleton.mp h]; simp, rfl, rfl⟩
      · obtain ⟨s, x, y, e, h1, h2⟩ := nds_att b _ z h
        exact ⟨114 :: s, x, y, by rw [e]; simp, isAd_app (a := [114]) (by decide) h1, h2⟩
theorem lvs_off {t : Tr} {z w : List Nat} (h : t.att z = some .lf) (hw : w ≠ []) : t.att (z ++ w) = none := by
  rw [Tr.att_app, h]
  cases w with
  | nil => exact absurd rfl hw
  | cons c w => rfl
/-- the tuples of a nest are no list -/
theorem Nst.fm {K : PySem.W.Frag} {m : List Addr} {H H' : Hp} {v : V} {t : Tr} (hm : ∀ p ∈ m, H p = none ∨ ∃ xs, H p = some (.lst xs)) (f : Fm m H H') (h : Nst K H v t) : Nst K H' v t := by
  have T : ∀ {a : Addr} {xs : List V}, SqT K H a xs → SqT K H' a xs := fun {a xs} h => by
    have no : ∀ {o : HO}, H a = some o → (∀ ys, o ≠ .lst ys) → H' a = some o := fun {o} e n => f a o (fun z => by
      rcases hm a z with w | ⟨ys, w⟩
      · rw [w] at e; cases e
      · rw [w] at e; cases e; exact n _ rfl) e
    rcases h with h | h
    · rcases h with h | ⟨o, h⟩
      · exact .inl (.inl (no h fun _ z => by cases z))
      · exact .inl (.inr ⟨o, no h fun _ z => by cases z⟩)
    · exact .inr h
  induction h with
  | lf h => exact .lf (T h)
  | nd h _ _ i1 i2 => exact .nd (T h) i1 i2
theorem Pu.fmo {H H1 : Hp} {g : Addr} {n : Nat} {m : List Addr} (h : g ∉ m) (e : Fm m H H1) (p : Pu H g n) : Pu H1 g n := by
  obtain ⟨a, b, c, h1, r⟩ := p
  exact ⟨a, b, c, e _ _ h h1, r⟩
theorem isTr_dot (t : Tr) : isTr (t.s ++ [46]) = false := by
  unfold isTr
  rw [itRun_app, itRun_tree]
  rfl
theorem Fm.exg {H H1 H2 : Hp} {g : Addr} (e : Ex H H1) (n : H g = none) (f : Fm [g] H1 H2) : Ex H H2 := Fm.exN e (fun p hp => by rw [List.mem_singleton.mp hp]; exact n) f
theorem Pu.lst {H : Hp} {g : Addr} {n : Nat} (p : Pu H g n) : ∃ xs, H g = some (.lst xs) := by
  obtain ⟨a, b, c, h1, r⟩ := p
  exact ⟨_, h1⟩
theorem Pu.ne {H : Hp} {g p : Addr} {n : Nat} (h : Pu H g n) (hp : H p = none) : p ≠ g := fun z => by
  obtain ⟨_, _, _, z1, _⟩ := h
  rw [z, z1] at hp; cases hp
end M

/-! ### a refusal that is caught; values that are shown and stay -/
namespace M
open PySem PySem.Spec PyProof.Rows L2
theorem fin_go {K : PySem.W.Frag} {aT C : Addr} {i j : Nat} {D : Ends} {σ : Sl} {H : Hp} {v : V} (x1 : PySem.W.exmOne K (.ref C) (.ref aT) = some true)
    (k : ∀ (a dd : Addr) (H' : Hp), Ex H H' → H' a = some (exk a (.ref C) (some dd)) → H' dd = some (.xd [("value", v)]) → H a = none → H dd = none → D.nx ((σ.set j (some (.ref a))).set i none) H') : Fail (WE (wK K (.ref aT) i j D) σ) H C v := fun H' dd e nd hd =>
  ⟨x1, fun a na => k a dd _ (e.push na) upd_same (Ex.new na _ _ hd) (e.free na) nd⟩
theorem okT_none : okT (PyData.none).shown := okT_of "None"
theorem okT_dct : okT (PyData.dict []).shown := okT_app (okT_app (okT_of "{") (okT_join (okT_of ", ") [] fun x hx => by cases hx)) (okT_of "}")
theorem okT_int (i : Int) : okT (PyData.int i).shown := by simp only [PyData.shown]; exact okT_of _
theorem okT_bl (b : Bool) : okT (PyData.bool b).shown := by simp only [PyData.shown]; cases b <;> exact okT_of _
theorem okT_str {z : List Nat} (h : okc z) : okT (PyData.str (S z)).shown := by simp only [PyData.shown]; exact okT_repr (okT_S h)
/-- a value that stays, and is shown -/
def Sv (K : PySem.W.Frag) (H : Hp) (v : V) (d : PyData) : Prop := (∀ H', Ex H H' → Sh K H' v d) ∧ d.showable = true ∧ d.depth ≤ 64 ∧ d.shown.length ≤ sizeLine
theorem Sv.ex {K : PySem.W.Frag} {H H' : Hp} {v : V} {d : PyData} (e : Ex H H') (h : Sv K H v d) : Sv K H' v d := ⟨fun H2 e2 => h.1 H2 (e.trans e2), h.2⟩
section
variable {K : PySem.W.Frag} {H : Hp}
theorem Sv.non : Sv K H .non .none := ⟨fun _ _ => .dp .non rfl, rfl, by decide, by decide +kernel⟩
theorem Sv.int (i : Int) (h1 : (PyData.int i).showable = true) (h2 : (PyData.int i).shown.length ≤ sizeLine) : Sv K H (.int i) (.int i) := ⟨fun _ _ => .dp (.int i) rfl, h1, by simp only [PyData.depth]; decide, h2⟩
theorem Sv.bl (b : Bool) : Sv K H (.bl b) (.bool b) := ⟨fun _ _ => .dp (.bl b) rfl, rfl, by simp only [PyData.depth]; decide, by cases b <;> decide +kernel⟩
theorem Sv.str {z : List Nat} (hz : okc z) (hl : z.length ≤ 1000000) : Sv K H (.str (S z)) (.str (S z)) := ⟨fun _ _ => .dp (.str _) rfl, rfl, by simp only [PyData.depth]; decide, by have := shown_str_le hz; rw [szl]; omega⟩
theorem Sv.dct {a : Addr} (h : H a = some (.dK [])) : Sv K H (.ref a) (.dict []) := ⟨fun _ e => .dct (e _ _ h) rfl, rfl, by decide, by decide +kernel⟩
theorem Sv.lst {a : Addr} {xs : List V} {ds : List PyData} (h : SqL K H a xs) (hd : ∀ H', Ex H H' → DpAll K H' xs ds) (h1 : (PyData.list ds).hasDict = false) (h2 : (PyData.list ds).showable = true) (h3 : (PyData.list ds).depth ≤ 64) (h4 : (PyData.list ds).shown.length ≤ sizeLine) : Sv K H (.ref a) (.list ds) :=
  ⟨fun H' e => .dp (.lst (e.L h) (hd H' e)) h1, h2, h3, h4⟩
theorem Sv.tup {a : Addr} {xs : List V} {ds : List PyData} (h : SqT K H a xs) (hd : ∀ H', Ex H H' → DpAll K H' xs ds) (h1 : (PyData.tuple ds).hasDict = false) (h2 : (PyData.tuple ds).showable = true) (h3 : (PyData.tuple ds).depth ≤ 64) (h4 : (PyData.tuple ds).shown.length ≤ sizeLine) : Sv K H (.ref a) (.tuple ds) :=
  ⟨fun H' e => .dp (.tup (e.T h) (hd H' e)) h1, h2, h3, h4⟩
end
end M

/-! ### a text read into nested pairs: the open parts, the inmost first -/
namespace M
open PySem PySem.Spec PyProof.Rows L2
def rtStep : List (List Tr) → Nat → Option (List (List Tr))
  | [], _ => none
  | top :: rest, c => if c = 40 then some ([] :: top :: rest) else if c = 46 then some ((top ++ [.lf]) :: rest) else if c = 41 then (match top, rest with
    | [a, b], up :: r => some ((up ++ [.nd a b]) :: r)
    | _, _ => none) else none
def rtRun : List (List Tr) → List Nat → Option (List (List Tr))
  | st, [] => some st
  | st, c :: r => (rtStep st c).bind fun st' => rtRun st' r
theorem rtStep_cons (top : List Tr) (rest : List (List Tr)) (c : Nat) : rtStep (top :: rest) c = if c = 40 then some ([] :: top :: rest) else if c = 46 then some ((top ++ [.lf]) :: rest) else if c = 41 then (match top, rest with
    | [a, b], up :: r => some ((up ++ [.nd a b]) :: r)
    | _, _ => none) else none := rfl
theorem rt_tree : ∀ (t : Tr) (top : List Tr) (rest : List (List Tr)) (z : List Nat), rtRun (top :: rest) (t.s ++ z) = rtRun ((top ++ [t]) :: rest) z
  | .lf, top, rest, z => by simp [Tr.s, rtRun, rtStep]
  | .nd a b, top, rest, z => by
    show (rtStep (top :: rest) 40).bind (fun st' => rtRun st' ((a.s ++ (b.s ++ [41])) ++ z)) = _
    have e : rtStep (top :: rest) 40 = some ([] :: top :: rest) := by simp [rtStep]
    rw [e]
    show rtRun ([] :: top :: rest) ((a.s ++ (b.s ++ [41])) ++ z) = _
    rw [List.append_assoc, List.append_assoc, rt_tree a, rt_tree b]
    show (rtStep _ 41).bind (fun st' => rtRun st' z) = _
    have e2 : rtStep ((([] ++ [a]) ++ [b]) :: top :: rest) 41 = some ((top ++ [.nd a b]) :: rest) := by simp [rtStep]
    rw [e2]; rfl
def catT (l : List Tr) : List Nat := l.flatMap Tr.s
def unp : List (List Tr) → List Nat
  | [] => []
  | [l] => catT l
  | top :: r => unp r ++ 40 :: catT top
theorem unp_top (top : List Tr) (t : Tr) (rest : List (List Tr)) : unp ((top ++ [t]) :: rest) = unp (top :: rest) ++ t.s := by
  cases rest with
  | nil => simp [unp, catT]
  | cons a r => simp [unp, catT]
theorem rt_unp {st st' : List (List Tr)} {c : Nat} (h : rtStep st c = some st') : unp st' = unp st ++ [c] := by
  cases st with
  | nil => cases h
  | cons top rest =>
    rw [rtStep_cons] at h
    split at h
    · rename_i e; cases h; subst e; simp [unp, catT]
    · split at h
      · rename_i e; cases h; subst e; rw [unp_top]; rfl
      · split at h
        · rename_i e
          subst e
          split at h
          · cases h
            rw [unp_top]
            simp [unp, catT, Tr.s]
          · cases h
        · cases h
theorem rt_unpR : ∀ (z : List Nat) (st st' : List (List Tr)), rtRun st z = some st' → unp st' = unp st ++ z
  | [], st, st', h => by cases h; simp
  | c :: z, st, st', h => by
    have h' : (rtStep st c).bind (fun s => rtRun s z) = some st' := h
    cases e : rtStep st c with
    | none => rw [e] at h'; cases h'
    | some s =>
      rw [e] at h'
      rw [rt_unpR z s st' h', rt_unp e]
      simp
theorem rt_yes (t : Tr) : rtRun [[]] t.s = some [[t]] := by
  have := rt_tree t [] [] []
  simpa [rtRun] using this
theorem rt_back {z : List Nat} {t : Tr} (h : rtRun [[]] z = some [[t]]) : z = t.s := by
  have := rt_unpR z _ _ h
  simpa [unp, catT] using this.symm
theorem rt_ne {st st' : List (List Tr)} {c : Nat} (h : rtStep st c = some st') : st' ≠ [] := by
  cases st with
  | nil => cases h
  | cons top rest =>
    rw [rtStep_cons] at h
    split at h
    · cases h; simp
    · split at h
      · cases h; simp
      · split at h
        · split at h
          · cases h; simp
          · cases h
        · cases h
/-! the heap of the open parts -/
inductive NsA (K : PySem.W.Frag) (H : Hp) : List V → List Tr → Prop
  | nil : NsA K H [] []
  | cons {v : V} {t : Tr} {vs : List V} {ts : List Tr} : Nst K H v t → NsA K H vs ts → NsA K H (v :: vs) (t :: ts)
theorem NsA.nl {K : PySem.W.Frag} {H H' : Hp} (e : Nl H H') {vs : List V} {ts : List Tr} (h : NsA K H vs ts) : NsA K H' vs ts := by
  induction h with
  | nil => exact .nil
  | cons h _ ih => exact .cons (h.nl e) ih
theorem NsA.app {K : PySem.W.Frag} {H : Hp} {vs ws : List V} {ts us : List Tr} (h : NsA K H vs ts) (g : NsA K H ws us) : NsA K H (vs ++ ws) (ts ++ us) := by
  induction h with
  | nil => exact g
  | cons h _ ih => exact .cons h ih
theorem NsA.len {K : PySem.W.Frag} {H : Hp} {vs : List V} {ts : List Tr} (h : NsA K H vs ts) : vs.length = ts.length := by
  induction h with
  | nil => rfl
  | cons h _ ih => simp [ih]
inductive StA (K : PySem.W.Frag) (H : Hp) : List Addr → List (List Tr) → Prop
  | nil : StA K H [] []
  | cons {p : Addr} {ps : List Addr} {vs : List V} {l : List Tr} {st : List (List Tr)} : H p = some (.lst vs) → NsA K H vs l → StA K H ps st → StA K H (p :: ps) (l :: st)
theorem StA.len {K : PySem.W.Frag} {H : Hp} {ps : List Addr} {st : List (List Tr)} (h : StA K H ps st) : ps.length = st.length := by
  induction h with
  | nil => rfl
  | cons h _ _ ih => simp [ih]
theorem StA.keep {K : PySem.W.Frag} {H H' : Hp} (e : Nl H H') {ps : List Addr} {st : List (List Tr)} (f : ∀ p ∈ ps, ∀ o, H p = some o → H' p = some o) (h : StA K H ps st) : StA K H' ps st := by
  induction h with
  | nil => exact .nil
  | cons h n _ ih => exact .cons (f _ List.mem_cons_self _ h) (n.nl e) (ih fun p hp => f p (List.mem_cons_of_mem _ hp))
structure Rt (K : PySem.W.Frag) (H0 H : Hp) (o : Addr) (ps : List Addr) (st : List (List Tr)) : Prop where
  ex : Ex H0 H
  ho : H o = some (.lst (ps.reverse.map V.ref))
  n0 : H0 o = none
  nd : ps.Nodup
  no : o ∉ ps
  np : ∀ p ∈ ps, H0 p = none
  sa : StA K H ps st
theorem Rt.new {K : PySem.W.Frag} {H0 H : Hp} {o : Addr} {ps : List Addr} {st : List (List Tr)} (r : Rt K H0 H o ps st) {q : Addr} {x : HO} (h : H q = none) : Rt K H0 (upd H q x) o ps st :=
  ⟨r.ex.push h, Ex.new h _ _ r.ho, r.n0, r.nd, r.no, r.np, r.sa.keep (Nl.new h) fun p _ o ho => Ex.new h _ _ ho⟩
theorem Rt.top {K : PySem.W.Frag} {H0 H : Hp} {o p : Addr} {ps : List Addr} {l : List Tr} {st : List (List Tr)} (r : Rt K H0 H o (p :: ps) (l :: st)) : ∃ vs, H p = some (.lst vs) ∧ NsA K H vs l := by
  cases r.sa with
  | cons h n _ => exact ⟨_, h, n⟩
/-- the inmost open part gets one more -/
theorem Rt.put {K : PySem.W.Frag} {H0 H : Hp} {o p : Addr} {ps : List Addr} {l : List Tr} {st : List (List Tr)} {vs : List V} {v : V} {t : Tr} (r : Rt K H0 H o (p :: ps) (l :: st)) (hp : H p = some (.lst vs)) (hv : Nst K H v t) : Rt K H0 (upd H p (.lst (vs ++ [v]))) o (p :: ps) ((l ++ [t]) :: st) := by
  have op : o ≠ p := fun z => r.no (by rw [z]; exact List.mem_cons_self)
  have e : Nl H (upd H p (.lst (vs ++ [v]))) := Nl.mut hp
  refine ⟨r.ex.mut (r.np p List.mem_cons_self), (upd_ne op).trans r.ho, r.n0, r.nd, r.no, r.np, ?_⟩
  cases r.sa with
  | cons h n s =>
    rw [hp] at h
    cases h
    refine .cons upd_same (NsA.app (n.nl e) (.cons (hv.nl e) .nil)) (s.keep e fun q hq o ho => ?_)
    have : q ≠ p := fun z => (List.nodup_cons.mp r.nd).1 (z ▸ hq)
    exact (upd_ne this).trans ho
/-- one more open part -/
theorem Rt.open_ {K : PySem.W.Frag} {H0 H : Hp} {o q : Addr} {ps : List Addr} {st : List (List Tr)} (r : Rt K H0 H o ps st) (h : H q = none) : Rt K H0 (upd (upd H q (.lst [])) o (.lst (ps.reverse.map V.ref ++ [.ref q]))) o (q :: ps) ([] :: st) := by
  have r1 := r.new (x := .lst []) h
  have qo : q ≠ o := fun z => by rw [z, r.ho] at h; cases h
  have qp : q ∉ ps := fun hq => by
    have : ∀ {ps : List Addr} {st : List (List Tr)}, StA K H ps st → q ∈ ps → False := fun {ps st} s => by
      induction s with
      | nil => intro z; cases z
      | cons a _ _ ih =>
        intro z
        rcases List.mem_cons.mp z with e | z
        · rw [← e, h] at a; cases a
        · exact ih z
    exact this r.sa hq
  have e : Nl (upd H q (.lst [])) (upd (upd H q (.lst [])) o (.lst (ps.reverse.map V.ref ++ [.ref q]))) := Nl.mut r1.ho
  refine ⟨r1.ex.mut r.n0, by rw [upd_same]; simp, r.n0, List.nodup_cons.mpr ⟨qp, r.nd⟩, ?_, ?_, .cons ((upd_ne qo).trans upd_same) .nil (r1.sa.keep e fun p hp x hx => ?_)⟩
  · intro z
    rcases List.mem_cons.mp z with e | z
    · exact qo e.symm
    · exact r.no z
  · intro p hp
    rcases List.mem_cons.mp hp with rfl | hp
    · exact r.ex.free h
    · exact r.np p hp
  · have : p ≠ o := fun z => r.no (z ▸ hp)
    exact (upd_ne this).trans hx
/-- the inmost open part is taken off -/
theorem Rt.pop {K : PySem.W.Frag} {H0 H : Hp} {o p : Addr} {ps : List Addr} {l : List Tr} {st : List (List Tr)} (r : Rt K H0 H o (p :: ps) (l :: st)) : Rt K H0 (upd H o (.lst (ps.reverse.map V.ref))) o ps st := by
  have e : Nl H (upd H o (.lst (ps.reverse.map V.ref))) := Nl.mut r.ho
  refine ⟨r.ex.mut r.n0, upd_same, r.n0, (List.nodup_cons.mp r.nd).2, fun z => r.no (List.mem_cons_of_mem _ z), fun q hq => r.np q (List.mem_cons_of_mem _ hq), ?_⟩
  cases r.sa with
  | cons h n s => exact s.keep e fun q hq x hx => (upd_ne (fun z => r.no (by rw [← z]; exact List.mem_cons_of_mem _ hq))).trans hx
end M

/-! ### heights and leans -/
namespace M
open PySem PySem.Spec PyProof.Rows L2
namespace Tr
def meas : Tr → List Int → Int × List Int
  | .lf, row => (row.headD 0, [])
  | .nd a b, row => (1 + max (a.meas (row.take (a.n + 1))).1 (b.meas (row.drop (a.n + 1))).1, (a.meas (row.take (a.n + 1))).2 ++ ([(a.meas (row.take (a.n + 1))).1 - (b.meas (row.drop (a.n + 1))).1] ++ (b.meas (row.drop (a.n + 1))).2))
theorem meas_len : ∀ (t : Tr) (row : List Int), (t.meas row).2.length = t.n
  | .lf, _ => rfl
  | .nd a b, row => by
    simp only [meas, n, List.length_append, List.length_singleton, meas_len a, meas_len b]; omega
def evn (t : Tr) (row : List Int) (s : Int) : Bool := (t.meas row).2.all fun d => decide ((d.natAbs : Int) ≤ s)
end Tr
/-- the fewest nodes by heights -/
def nup (s : Nat) : Nat → List Nat
  | 0 => [0]
  | n + 1 => nup s n ++ [1 + (nup s n).getD n 0 + (nup s n).getD (n - s) 0]
def least (s n : Nat) : Nat := (nup s n).getD n 0
theorem nup_len (s : Nat) : ∀ n, (nup s n).length = n + 1
  | 0 => rfl
  | n + 1 => by simp [nup, nup_len s n]
theorem nup_get (s : Nat) : ∀ n i, i ≤ n → (nup s n).getD i 0 = least s i
  | 0, i, h => by obtain rfl : i = 0 := by omega
                  rfl
  | n + 1, i, h => by
    by_cases e : i = n + 1
    · subst e; rfl
    · have := nup_get s n i (by omega)
      rw [← this, nup, List.getD_eq_getElem?_getD, List.getD_eq_getElem?_getD, List.getElem?_append_left (by rw [nup_len]; omega)]
      first | rfl | simp [List.getD_eq_getElem?_getD]
theorem least_succ (s n : Nat) : least s (n + 1) = 1 + least s n + least s (n - s) := by
  have e : least s (n + 1) = 1 + (nup s n).getD n 0 + (nup s n).getD (n - s) 0 := by
    unfold least
    rw [nup, List.getD_eq_getElem?_getD, List.getElem?_append_right (by rw [nup_len]; exact Nat.le_refl _), nup_len]
    simp
  rw [e, nup_get s n n (Nat.le_refl _), nup_get s n (n - s) (by omega)]
theorem least_zero (s : Nat) : least s 0 = 0 := rfl
theorem least_le (s : Nat) : ∀ n, least s n ≤ least s (n + 1) := fun n => by rw [least_succ]; omega
theorem least_mono (s : Nat) {m n : Nat} (h : m ≤ n) : least s m ≤ least s n := by
  induction h with
  | refl => exact Nat.le_refl _
  | step _ ih => exact Nat.le_trans ih (least_le s _)
theorem nup_at (s n i : Nat) (h : i ≤ n) : atI ((nup s n).map fun (k : Nat) => V.int (k : Int)) (i : Int) = some (.int (least s i : Int)) := by
  rw [aI_nat, List.getElem?_map, ← nup_get s n i h, List.getD_eq_getElem?_getD, List.getElem?_eq_getElem (by rw [nup_len]; omega)]
  rfl
namespace Tr
def ht : Tr → Nat
  | .lf => 0
  | .nd a b => 1 + max a.ht b.ht
def lz : Tr → List Int
  | .lf => []
  | .nd a b => a.lz ++ ([(a.ht : Int) - (b.ht : Int)] ++ b.lz)
theorem meas_zero : ∀ t : Tr, t.meas (List.replicate (t.n + 1) 0) = ((t.ht : Int), t.lz)
  | .lf => rfl
  | .nd a b => by
    have h1 : (List.replicate (a.n + b.n + 1 + 1) (0 : Int)).take (a.n + 1) = List.replicate (a.n + 1) 0 := by rw [List.take_replicate]; congr 1; omega
    have h2 : (List.replicate (a.n + b.n + 1 + 1) (0 : Int)).drop (a.n + 1) = List.replicate (b.n + 1) 0 := by rw [List.drop_replicate]; congr 1; omega
    simp only [meas, n, h1, h2, meas_zero a, meas_zero b, ht, lz]
    congr 1
    omega
end Tr
def combL : Nat → Tr
  | 0 => .lf
  | k + 1 => .nd (combL k) .lf
def combR : Nat → Tr
  | 0 => .lf
  | k + 1 => .nd .lf (combR k)
theorem combL_n : ∀ k, (combL k).n = k
  | 0 => rfl
  | k + 1 => by show (combL k).n + 0 + 1 = k + 1; rw [combL_n k]
theorem combR_n : ∀ k, (combR k).n = k
  | 0 => rfl
  | k + 1 => by show 0 + (combR k).n + 1 = k + 1; rw [combR_n k]; omega
theorem Tr.ht_le : ∀ t : Tr, t.ht ≤ t.n
  | .lf => Nat.le_refl _
  | .nd a b => by
    have := Tr.ht_le a
    have := Tr.ht_le b
    simp only [Tr.ht, Tr.n]; omega
theorem combL_ht : ∀ k, (combL k).ht = k
  | 0 => rfl
  | k + 1 => by show 1 + max (combL k).ht 0 = k + 1; rw [combL_ht k]; omega
theorem combR_ht : ∀ k, (combR k).ht = k
  | 0 => rfl
  | k + 1 => by show 1 + max 0 (combR k).ht = k + 1; rw [combR_ht k]; omega
theorem repl0M (n : Nat) : (List.replicate n [V.int 0]).flatten = (List.replicate n (0 : Int)).map V.int := by simp
theorem eq_nilI {K : PySem.W.Frag} {H : Hp} {Q : VK} {p q : Addr} {l : List Int} (h1 : SqL K H p (l.map V.int)) (h2 : SqL K H q []) (k : Q (.bl (decide (l = []))) H) : rEqW K false (.ref p) (.ref q) H Q :=
  eq_ints (a := l) (b := []) h1 h2 k
end M

/-! ### a tree read node by node from the front of a text: what is left -/
namespace M
open PySem PySem.Spec PyProof.Rows L2
/-- a node's end -/
def cl41 : List Nat → Option (List Nat)
  | [] => none
  | d :: r => if d = 41 then some r else none
def pr : Nat → List Nat → Option (List Nat)
  | 0, _ => none
  | _ + 1, [] => none
  | f + 1, c :: r => if c = 46 then some r else if c = 40 then (pr f r).bind fun r1 => (pr f r1).bind cl41 else none
theorem pr_cons (f c : Nat) (r : List Nat) : pr (f + 1) (c :: r) = if c = 46 then some r else if c = 40 then (pr f r).bind fun r1 => (pr f r1).bind cl41 else none := rfl
theorem pr_sound : ∀ (f : Nat) (l r : List Nat), pr f l = some r → ∃ t : Tr, l = t.s ++ r
  | 0, l, r, h => by cases h
  | f + 1, [], r, h => by cases h
  | f + 1, c :: l, r, h => by
    rw [pr_cons] at h
    split at h
    · rename_i e
      cases h
      exact ⟨.lf, by rw [e]; rfl⟩
    · split at h
      · rename_i e
        cases h1 : pr f l with
        | none => rw [h1] at h; cases h
        | some r1 =>
          rw [h1] at h
          replace h : (pr f r1).bind _ = some r := h
          cases h2 : pr f r1 with
          | none => rw [h2] at h; cases h
          | some r2 =>
            rw [h2] at h
            obtain ⟨t, rfl⟩ := pr_sound f l r1 h1
            obtain ⟨u, rfl⟩ := pr_sound f r1 r2 h2
            cases r2 with
            | nil => cases h
            | cons d r3 =>
              replace h : (if d = 41 then some r3 else none) = some r := h
              split at h
              · rename_i e2
                cases h
                exact ⟨.nd t u, by rw [e, e2]; simp [Tr.s]⟩
              · cases h
      · cases h
theorem pr_full : ∀ (t : Tr) (f : Nat) (r : List Nat), t.n < f → pr f (t.s ++ r) = some r
  | .lf, 0, r, h => by simp at h
  | .lf, f + 1, r, h => rfl
  | .nd a b, 0, r, h => by simp at h
  | .nd a b, f + 1, r, h => by
    simp only [Tr.n] at h
    show pr (f + 1) (40 :: ((a.s ++ (b.s ++ [41])) ++ r)) = _
    rw [pr_cons, if_neg (by decide), if_pos rfl, List.append_assoc, List.append_assoc, pr_full a f _ (by omega)]
    show (pr f (b.s ++ ([41] ++ r))).bind _ = _
    rw [pr_full b f _ (by omega)]
    rfl
/-- read to its end exactly if it is a tree -/
theorem pr_iff {z : List Nat} {f : Nat} (h : z.count 40 < f) : pr f z = some [] ↔ isTr z = true := by
  rw [isTr_iff]
  constructor
  · intro e
    obtain ⟨t, e⟩ := pr_sound f z [] e
    exact ⟨t, by simpa using e⟩
  · rintro ⟨t, rfl⟩
    have := pr_full t f [] (by rw [Tr.cnt_op] at h; exact h)
    simpa using this
/-- what is left is an end of the text -/
theorem pr_drop {z : List Nat} {f i : Nat} {r : List Nat} (h : pr f (z.drop i) = some r) : ∃ j, i < j ∧ j ≤ z.length ∧ r = z.drop j := by
  obtain ⟨t, e⟩ := pr_sound f _ r h
  have hl := congrArg List.length e
  have ht := t.s_len
  rw [List.length_append, List.length_drop] at hl
  refine ⟨i + t.s.length, by omega, by omega, ?_⟩
  rw [← List.drop_drop, e, List.drop_left]
end M

namespace Pf
open PySem PySem.Spec PyProof.Rows L2 M
def top (i : Nat) : Stmt := PySem.Challenge.pw_treeturns_k02_trees_told.main.body.getD i (.Pass ⟨0, 0, 0, 0⟩)
@[reducible] def rd_is_tree_b1 (K : PySem.W.Frag) (D : Ends) (σ : Sl) (H : Hp) : Prop := ((tIfS (mTest (tOp (mEq K) (mVar 2) (mC (.str (S [41]))))) (tSeq (tIfS (mTest (tOp (mNe K) (tSl (mSl K) (mVar 1) (mPart (mUn (fun i => -i) (mC (.int 3)))) tNoPart) (mC (.str (S [40, 46, 46]))))) (tRet (mC (.bl false))) tNext)
  (tAsg (tOp mAdd (tSl (mSl K) (mVar 1) tNoPart (mPart (mUn (fun i => -i) (mC (.int 3))))) (mC (.str (S [46])))) (gName 1))) (tIfS (mInTT false (mVar 2) (tCons (mC (.str (S [40]))) (tCons (mC (.str (S [46]))) tNil))) (tAsg (tOp mAdd (mVar 1) (mVar 2)) (gName 1)) (tRet (mC (.bl false))))) : TS) D σ H
def rd_is_tree (K : PySem.W.Frag) : TS := (tSeq (tIfS (tNot (mTest (tCB (mIsi K) (tCons (mVar 0) (tCons (mC (.ty "str")) tNil))))) (tRet (mC (.bl false))) tNext)
  (tSeq (tAsg (mC (.str (S []))) (gName 1))
  (tSeq (mFor (mIter K (mVar 0)) (gName 2) (rd_is_tree_b1 K))
  (tRet (tOp (mEq K) (mVar 1) (mC (.str (S [46]))))))))
abbrev N_is_tree : List Str := ["value", "waiting", "sign"]
def rd_check_tree (K : PySem.W.Frag) (sp_is_tree : Sp) (a_InvalidTree : Addr) (E : XK) : TS := (tIfS (tNot (mTest (tCall sp_is_tree [] E0 (tCons (mVar 0) tNil)))) (mRaise a_InvalidTree "value" (tCons (mVar 0) tNil) E) tNext)
abbrev N_check_tree : List Str := ["value"]
def rd_size (K : PySem.W.Frag) (sp_check_tree : Sp) (E : XK) : TS := (tSeq (tDrop (tCall sp_check_tree [] E (tCons (mVar 0) tNil)))
  (tRet (mStrM (mCount) (mVar 0) (mC (.str (S [40]))))))
abbrev N_size : List Str := ["tree"]
def rd_height (K : PySem.W.Frag) (sp_check_tree : Sp) (sp_addresses_of_leaves : Sp) (E : XK) : TS := (tSeq (tDrop (tCall sp_check_tree [] E (tCons (mVar 0) tNil)))
  (tRet (tCB (mMaxL K) (tCons (mLc (mIter K (tCall sp_addresses_of_leaves [] E0 (tCons (mVar 0) tNil))) (gName 1) tYes (tCB (mLen K) (tCons (mVar 1) tNil)) [1]) tNil))))
abbrev N_height : List Str := ["tree", "address"]
@[reducible] def rd_walked_b1 (K : PySem.W.Frag) (D : Ends) (σ : Sl) (H : Hp) : Prop := ((tIfS (mTest (tOp (mEq K) (mVar 4) (mC (.str (S [40]))))) (tDrop (mLstM mApp (mVar 1) (tCons (mC (.str (S [108]))) tNil))) (tSeq (tIfS (mTest (tOp (mEq K) (mVar 4) (mC (.str (S [46]))))) (tDrop (mLstM mApp (mVar 2) (tCons (mStrM (mJoin K) (mC (.str (S []))) (mVar 1)) tNil))) (tDrop (mLstM mPop (mVar 1) tNil)))
  (tIfS (tAnd (mTest (tOp (mNe K) (mVar 1) (tLst tNil))) (mTest (tOp (mEq K) (tOp (mIx K) (mVar 1) (mUn (fun i => -i) (mC (.int 1)))) (mC (.str (S [108])))))) (tSeq (tDrop (mLstM mApp (mVar 3) (tCons (mStrM (mJoin K) (mC (.str (S []))) (tSl (mSl K) (mVar 1) tNoPart (mPart (mUn (fun i => -i) (mC (.int 1)))))) tNil)))
  (tAsg (mC (.str (S [114]))) (gSub (mVar 1) (mUn (fun i => -i) (mC (.int 1))) mSetL))) tNext))) : TS) D σ H
def rd_walked (K : PySem.W.Frag) : TS := (tSeq (mPar3 1 2 3 (tCons (tLst tNil) (tCons (tLst tNil) (tCons (tLst tNil) tNil))))
  (tSeq (mFor (mIter K (mVar 0)) (gName 4) (rd_walked_b1 K))
  (tRet (tTup (tCons (mVar 2) (tCons (mVar 3) tNil))))))
abbrev N_walked : List Str := ["tree", "path", "leaves_found", "nodes_found", "sign"]
def rd_addresses_of_leaves (K : PySem.W.Frag) (sp_walked : Sp) : TS := (tRet (tOp (mIx K) (tCall sp_walked [] E0 (tCons (mVar 0) tNil)) (mC (.int 0))))
abbrev N_addresses_of_leaves : List Str := ["tree"]
def rd_leaves (K : PySem.W.Frag) (sp_check_tree : Sp) (sp_walked : Sp) (E : XK) : TS := (tSeq (tDrop (tCall sp_check_tree [] E (tCons (mVar 0) tNil)))
  (tRet (tOp (mIx K) (tCall sp_walked [] E0 (tCons (mVar 0) tNil)) (mC (.int 0)))))
abbrev N_leaves : List Str := ["tree"]
def rd_nodes (K : PySem.W.Frag) (sp_check_tree : Sp) (sp_walked : Sp) (E : XK) : TS := (tSeq (tDrop (tCall sp_check_tree [] E (tCons (mVar 0) tNil)))
  (tRet (tOp (mIx K) (tCall sp_walked [] E0 (tCons (mVar 0) tNil)) (mC (.int 1)))))
abbrev N_nodes : List Str := ["tree"]
def rd__law_cell (K : PySem.W.Frag) : TS := (tSeq (tIfS (mTest (tOp (mLt) (mVar 1) (tCB (mLen K) (tCons (mVar 0) tNil)))) (tRet (tOp (mIx K) (mVar 0) (mVar 1))) tNext)
  (tRet (mC (.int 0))))
abbrev N__law_cell : List Str := ["_law_script", "_law_index"]
def rd__law_hash (K : PySem.W.Frag) : TS := (tSeq (tAsg (tOp mMod (tCB (mInt) (tCons (tOp mAdd (tOp mAdd (tOp mAdd (tOp mMul (mVar 0) (mC (.int 1103515245))) (tOp mMul (tOp mMul (mC (.int 7919)) (mVar 1)) (mVar 1))) (mVar 1)) (mC (.int 1))) tNil)) (mC (.int 2147483647))) (gName 2))
  (tSeq (tAsg (tOp mMod (tCB (mInt) (tCons (tOp mAdd (tOp mMul (mVar 2) (mVar 2)) (mC (.int 69621))) tNil)) (mC (.int 2147483629))) (gName 2))
  (tRet (tOp mMod (tCB (mInt) (tCons (tOp mMul (mVar 2) (mC (.int 48271))) tNil)) (mC (.int 2147483587))))))
abbrev N__law_hash : List Str := ["_law_seed", "_law_index", "_law_mixed"]
def rd__law_generator (K : PySem.W.Frag) (sp__law_cell : Sp) : TS := (tSeq (tAsg (tCall sp__law_cell [] E0 (tCons (mVar 0) (tCons (mVar 1) tNil))) (gName 2))
  (tRet (tLst (tCons (tOp mMod (tCB (mInt) (tCons (tCB (mMax) (tCons (tOp mSub (mVar 2) (tOp mPow (mC (.int 10)) (mC (.int 18)))) (tCons (mC (.int 0)) tNil))) tNil)) (tOp mPow (tOp mPow (mC (.int 10)) (mC (.int 60))) (mC (.int 10)))) (tCons (tOp mMod (tCB (mInt) (tCons (mVar 2) tNil)) (mC (.int 2147483647))) (tCons (tOp mMul (mC (.int 1000)) (mVar 1)) tNil))))))
abbrev N__law_generator : List Str := ["_law_script", "_law_index", "_law_seed"]
@[reducible] def rd__law_random_b1 (K : PySem.W.Frag) (sp__law_hash : Sp) (D : Ends) (σ : Sl) (H : Hp) : Prop := ((tSeq (tAsg (tOp mAdd (tOp (mIx K) (mVar 0) (mC (.int 2))) (mC (.int 1))) (gSub (mVar 0) (mC (.int 2)) mSetL))
  (tAsg (tOp mAdd (tOp mMul (mVar 2) (mC (.int 2147483587))) (tCall sp__law_hash [] E0 (tCons (tOp (mIx K) (mVar 0) (mC (.int 1))) (tCons (tOp (mIx K) (mVar 0) (mC (.int 2))) tNil)))) (gName 2))) : TS) D σ H
def rd__law_random (K : PySem.W.Frag) (sp__law_hash : Sp) : TS := (tSeq (tIfS (mTest (tOp (mGt) (tOp (mIx K) (mVar 0) (mC (.int 0))) (mC (.int 0)))) (tSeq (tAsg (tOp mMod (tCB (mInt) (tCons (tOp (mIx K) (mVar 0) (mC (.int 0))) tNil)) (mVar 1)) (gName 2))
  (tSeq (tAsg (tOp mDiv (tOp (mIx K) (mVar 0) (mC (.int 0))) (mVar 1)) (gSub (mVar 0) (mC (.int 0)) mSetL))
  (tRet (mVar 2)))) tNext)
  (tSeq (tAsg (mC (.int 0)) (gName 2))
  (tSeq (mFor (mRng1 (tOp mAdd (mC (.int 1)) (tOp mDiv (mBits (mVar 1)) (mC (.int 30))))) (gName 3) (rd__law_random_b1 K sp__law_hash))
  (tRet (tOp mMod (tCB (mInt) (tCons (mVar 2) tNil)) (mVar 1))))))
abbrev N__law_random : List Str := ["_law_generator_here", "_law_bound", "_law_drawn", "_law_turn"]
def rd__law_tree (K : PySem.W.Frag) (sp__law_random : Sp) (sp__law_tree : Sp) : TS := (tSeq (tIfS (mTest (tOp (mEq K) (mVar 1) (mC (.int 0)))) (tRet (mC (.str (S [46])))) tNext)
  (tSeq (tAsg (tOp (mIx K) (tLst (tCons (mC (.int 0)) (tCons (tOp mSub (mVar 1) (mC (.int 1))) (tCons (tCall sp__law_random [] E0 (tCons (mVar 0) (tCons (mVar 1) tNil))) (tCons (tOp mDiv (mVar 1) (mC (.int 2))) tNil))))) (tCall sp__law_random [] E0 (tCons (mVar 0) (tCons (mC (.int 4)) tNil)))) (gName 2))
  (tRet (tOp mAdd (tOp mAdd (tOp mAdd (mC (.str (S [40]))) (tCall sp__law_tree [] E0 (tCons (mVar 0) (tCons (mVar 2) tNil)))) (tCall sp__law_tree [] E0 (tCons (mVar 0) (tCons (tOp mSub (tOp mSub (mVar 1) (mC (.int 1))) (mVar 2)) tNil)))) (mC (.str (S [41])))))))
abbrev N__law_tree : List Str := ["_law_generator_here", "_law_many", "_law_left"]
@[reducible] def rd__law_parsed_b1 (K : PySem.W.Frag) (D : Ends) (σ : Sl) (H : Hp) : Prop := ((tIfS (mTest (tOp (mEq K) (mVar 2) (mC (.str (S [41]))))) (tAsg (tOp mAdd (tSl (mSl K) (mVar 1) tNoPart (mPart (mUn (fun i => -i) (mC (.int 2))))) (tLst (tCons (tTup (tCons (tOp (mIx K) (mVar 1) (mUn (fun i => -i) (mC (.int 2)))) (tCons (tOp (mIx K) (mVar 1) (mUn (fun i => -i) (mC (.int 1)))) tNil))) tNil))) (gName 1)) (tIfS (mTest (tOp (mEq K) (mVar 2) (mC (.str (S [46]))))) (tDrop (mLstM mApp (mVar 1) (tCons (tTup tNil) tNil))) tNext)) : TS) D σ H
def rd__law_parsed (K : PySem.W.Frag) : TS := (tSeq (tAsg (tLst tNil) (gName 1))
  (tSeq (mFor (mIter K (mVar 0)) (gName 2) (rd__law_parsed_b1 K))
  (tRet (tOp (mIx K) (mVar 1) (mC (.int 0))))))
abbrev N__law_parsed : List Str := ["_law_tree_here", "_law_found", "_law_sign"]
def rd__law_leaves (K : PySem.W.Frag) (sp__law_leaves : Sp) : TS := (tSeq (tIfS (mTest (tOp (mEq K) (mVar 0) (tTup tNil))) (tRet (tLst (tCons (mVar 1) tNil))) tNext)
  (tRet (tOp mAdd (tCall sp__law_leaves [] E0 (tCons (tOp (mIx K) (mVar 0) (mC (.int 0))) (tCons (tOp mAdd (mVar 1) (mC (.str (S [108])))) tNil))) (tCall sp__law_leaves [] E0 (tCons (tOp (mIx K) (mVar 0) (mC (.int 1))) (tCons (tOp mAdd (mVar 1) (mC (.str (S [114])))) tNil))))))
abbrev N__law_leaves : List Str := ["_law_parsed_here", "_law_road"]
def rd__law_nodes (K : PySem.W.Frag) (sp__law_nodes : Sp) : TS := (tSeq (tIfS (mTest (tOp (mEq K) (mVar 0) (tTup tNil))) (tRet (tLst tNil)) tNext)
  (tRet (tOp mAdd (tOp mAdd (tCall sp__law_nodes [] E0 (tCons (tOp (mIx K) (mVar 0) (mC (.int 0))) (tCons (tOp mAdd (mVar 1) (mC (.str (S [108])))) tNil))) (tLst (tCons (mVar 1) tNil))) (tCall sp__law_nodes [] E0 (tCons (tOp (mIx K) (mVar 0) (mC (.int 1))) (tCons (tOp mAdd (mVar 1) (mC (.str (S [114])))) tNil))))))
abbrev N__law_nodes : List Str := ["_law_parsed_here", "_law_road"]
@[reducible] def rd__law_end_b1 (K : PySem.W.Frag) (sp__law_end : Sp) (D : Ends) (σ : Sl) (H : Hp) : Prop := ((tSeq (tAsg (tCall sp__law_end [] E0 (tCons (mVar 0) (tCons (tOp mAdd (mVar 1) (tCB (mInt) (tCons (tOp (mEq K) (mVar 2) (mC (.int 0))) tNil))) tNil))) (gName 1))
  (tIfS (mTest (tOp (mIs) (mVar 1) (mC .non))) (tRet (mC .non)) tNext)) : TS) D σ H
def rd__law_end (K : PySem.W.Frag) (sp__law_end : Sp) : TS := (tSeq (tIfS (mTest (tOp (mEq K) (tSl (mSl K) (mVar 0) (mPart (mVar 1)) (mPart (tOp mAdd (mVar 1) (mC (.int 1))))) (mC (.str (S [46]))))) (tRet (tOp mAdd (mVar 1) (mC (.int 1)))) tNext)
  (tSeq (tIfS (mTest (tOp (mNe K) (tSl (mSl K) (mVar 0) (mPart (mVar 1)) (mPart (tOp mAdd (mVar 1) (mC (.int 1))))) (mC (.str (S [40]))))) (tRet (mC .non)) tNext)
  (tSeq (mFor (mRng1 (mC (.int 2))) (gName 2) (rd__law_end_b1 K sp__law_end))
  (tRet (tIf (mTest (tOp (mEq K) (tSl (mSl K) (mVar 0) (mPart (mVar 1)) (mPart (tOp mAdd (mVar 1) (mC (.int 1))))) (mC (.str (S [41]))))) (tOp mAdd (mVar 1) (mC (.int 1))) (mC .non))))))
abbrev N__law_end : List Str := ["_law_text", "_law_at", "_law_turn"]
def rd__law_high (K : PySem.W.Frag) (sp__law_high : Sp) : TS := (tSeq (tIfS (mTest (tOp (mEq K) (mVar 0) (tTup tNil))) (tRet (mC (.int 0))) tNext)
  (tRet (tOp mAdd (mC (.int 1)) (tCB (mMax) (tCons (tCB (mInt) (tCons (tCall sp__law_high [] E0 (tCons (tOp (mIx K) (mVar 0) (mC (.int 0))) tNil)) tNil)) (tCons (tCB (mInt) (tCons (tCall sp__law_high [] E0 (tCons (tOp (mIx K) (mVar 0) (mC (.int 1))) tNil)) tNil)) tNil))))))
abbrev N__law_high : List Str := ["_law_parsed_here"]
def rd__law_bent (K : PySem.W.Frag) (sp__law_random : Sp) : TS := (tSeq (mPar 2 3 (tCons (tCall sp__law_random [] E0 (tCons (mVar 0) (tCons (tCB (mLen K) (tCons (mVar 1) tNil)) tNil))) (tCons (tCall sp__law_random [] E0 (tCons (mVar 0) (tCons (tCB (mLen K) (tCons (mVar 1) tNil)) tNil))) tNil)))
  (tSeq (tAsg (tOp (mIx K) (tLst (tCons (mC (.str (S [40]))) (tCons (mC (.str (S [41]))) (tCons (mC (.str (S [46]))) (tCons (mC (.str (S [32]))) (tCons (mC (.str (S [40, 41]))) (tCons (mC (.str (S [46, 46]))) (tCons (mC (.str (S [120]))) tNil)))))))) (tCall sp__law_random [] E0 (tCons (mVar 0) (tCons (mC (.int 7)) tNil)))) (gName 4))
  (tSeq (tAsg (tLst (tCons (tOp mAdd (tSl (mSl K) (mVar 1) tNoPart (mPart (mVar 2))) (tSl (mSl K) (mVar 1) (mPart (tOp mAdd (mVar 2) (mC (.int 1)))) tNoPart)) (tCons (tOp mAdd (tOp mAdd (tSl (mSl K) (mVar 1) tNoPart (mPart (mVar 2))) (mVar 4)) (tSl (mSl K) (mVar 1) (mPart (mVar 2)) tNoPart)) (tCons (tOp mAdd (tOp mAdd (tSl (mSl K) (mVar 1) tNoPart (mPart (mVar 2))) (mVar 4)) (tSl (mSl K) (mVar 1) (mPart (tOp mAdd (mVar 2) (mC (.int 1)))) tNoPart)) (tCons (mRevS (mVar 1)) tNil))))) (gName 5))
  (tSeq (tAsg (tOp mAdd (mVar 5) (tLst (tCons (tOp mAdd (mVar 1) (mVar 1)) (tCons (tOp mAdd (tSl (mSl K) (mVar 1) (mPart (mVar 2)) tNoPart) (tSl (mSl K) (mVar 1) tNoPart (mPart (mVar 2)))) (tCons (tSl (mSl K) (mVar 1) (mPart (mVar 2)) (mPart (mVar 3))) tNil))))) (gName 5))
  (tSeq (tAsg (mRevS (tSl (mSl K) (mVar 1) (mPart (mVar 2)) (mPart (tOp mAdd (mVar 2) (mC (.int 2)))))) (gName 6))
  (tRet (tOp mAdd (mVar 5) (tLst (tCons (tOp mAdd (tOp mAdd (tSl (mSl K) (mVar 1) tNoPart (mPart (mVar 2))) (mVar 6)) (tSl (mSl K) (mVar 1) (mPart (tOp mAdd (mVar 2) (mC (.int 2)))) tNoPart)) tNil)))))))))
abbrev N__law_bent : List Str := ["_law_generator_here", "_law_tree_here", "_law_at", "_law_place", "_law_sign", "_law_texts", "_law_turn"]
@[reducible] def rd__law_refused_b1 (K : PySem.W.Frag) (sp_size : Sp) (sp_height : Sp) (sp_leaves : Sp) (sp_nodes : Sp) (sp_is_tree : Sp) (a_TurnError : Addr) (a_InvalidTree : Addr) (a_size : Addr) (a_height : Addr) (a_leaves : Addr) (a_nodes : Addr) (D : Ends) (σ : Sl) (H : Hp) : Prop := ((tSeq (tAsg (mC .non) (gName 2))
  (tSeq (mTry K (.ref a_TurnError) 3 2 (fun W => (tDrop (tCallV [(.ref a_size, sp_size), (.ref a_height, sp_height), (.ref a_leaves, sp_leaves), (.ref a_nodes, sp_nodes)] W (tOp (mIx K) (tLst (tCons (mC (.ref a_size)) (tCons (mC (.ref a_height)) (tCons (mC (.ref a_leaves)) (tCons (mC (.ref a_nodes)) tNil))))) (mVar 1)) (tCons (mVar 0) tNil)))))
  (tSeq (tIfS (mTest (tCB (mIsi K) (tCons (mVar 0) (tCons (mC (.ty "list")) tNil)))) (tDrop (mLstM mApp (mVar 0) (tCons (mC (.str (S [109, 111, 114, 101]))) tNil))) tNext)
  (tIfS (tOr (tNot (mTest (tCB (mIsiE K) (tCons (mVar 2) (tCons (mC (.ref a_InvalidTree)) tNil))))) (mTest (tOp (mNe K) (tCB (mRepr K) (tCons (mFld K "value" (mVar 2)) tNil)) (tCB (mRepr K) (tCons (mVar 0) tNil))))) (tRet (mC (.bl false))) tNext)))) : TS) D σ H
def rd__law_refused (K : PySem.W.Frag) (sp_size : Sp) (sp_height : Sp) (sp_leaves : Sp) (sp_nodes : Sp) (sp_is_tree : Sp) (a_TurnError : Addr) (a_InvalidTree : Addr) (a_size : Addr) (a_height : Addr) (a_leaves : Addr) (a_nodes : Addr) : TS := (tSeq (mFor (mRng1 (mC (.int 4))) (gName 1) (rd__law_refused_b1 K sp_size sp_height sp_leaves sp_nodes sp_is_tree a_TurnError a_InvalidTree a_size a_height a_leaves a_nodes))
  (tRet (tOp (mIs) (tCall sp_is_tree [] E0 (tCons (mVar 0) tNil)) (mC (.bl false)))))
abbrev N__law_refused : List Str := ["_law_thing", "_law_door", "_law_caught", "error"]
@[reducible] def rd__law_told_right_b1 (K : PySem.W.Frag) (sp__law_parsed : Sp) (sp__law_nodes : Sp) (sp__law_leaves : Sp) (sp_nodes : Sp) (sp_leaves : Sp) (sp_is_tree : Sp) (sp_height : Sp) (sp__law_high : Sp) (sp_size : Sp) (D : Ends) (σ : Sl) (H : Hp) : Prop := ((tSeq (tAsg (tLst (tCons (tCall sp_leaves [] E0 (tCons (mVar 0) tNil)) (tCons (tCall sp_nodes [] E0 (tCons (mVar 0) tNil)) tNil))) (gName 4))
  (tSeq (tIfS (tOr (mTest (tOp (mNe K) (mVar 4) (mVar 2))) (tOr (mTest (tOp (mNe K) (tCall sp_size [] E0 (tCons (mVar 0) tNil)) (tCB (mLen K) (tCons (tOp (mIx K) (mVar 2) (mC (.int 1))) tNil)))) (tOr (mTest (tOp (mNe K) (tCall sp_height [] E0 (tCons (mVar 0) tNil)) (tCall sp__law_high [] E0 (tCons (mVar 1) tNil)))) (tNot (mTest (tCall sp_is_tree [] E0 (tCons (mVar 0) tNil))))))) (tRet (mC (.bl false))) tNext)
  (tSeq (tDrop (mLstM mApp (tOp (mIx K) (mVar 4) (mC (.int 0))) (tCons (mC (.str (S []))) tNil)))
  (tDrop (mLstM mClear (tOp (mIx K) (mVar 4) (mC (.int 1))) tNil))))) : TS) D σ H
def rd__law_told_right (K : PySem.W.Frag) (sp__law_parsed : Sp) (sp__law_nodes : Sp) (sp__law_leaves : Sp) (sp_nodes : Sp) (sp_leaves : Sp) (sp_is_tree : Sp) (sp_height : Sp) (sp__law_high : Sp) (sp_size : Sp) : TS := (tSeq (tAsg (tCall sp__law_parsed [] E0 (tCons (mVar 0) tNil)) (gName 1))
  (tSeq (tAsg (tLst (tCons (tCall sp__law_leaves [] E0 (tCons (mVar 1) (tCons (mC (.str (S []))) tNil))) (tCons (tCall sp__law_nodes [] E0 (tCons (mVar 1) (tCons (mC (.str (S []))) tNil))) tNil))) (gName 2))
  (tSeq (mFor (mRng1 (mC (.int 2))) (gName 3) (rd__law_told_right_b1 K sp__law_parsed sp__law_nodes sp__law_leaves sp_nodes sp_leaves sp_is_tree sp_height sp__law_high sp_size))
  (tRet (mC (.bl true))))))
abbrev N__law_told_right : List Str := ["_law_tree_here", "_law_parsed_here", "_law_due", "_law_turn", "_law_found"]
@[reducible] def rd_law_b1 (K : PySem.W.Frag) (sp__law_generator : Sp) (sp__law_random : Sp) (sp__law_tree : Sp) (sp__law_told_right : Sp) (sp_size : Sp) (sp__law_bent : Sp) (sp__law_end : Sp) (sp_is_tree : Sp) (sp__law_refused : Sp) (D : Ends) (σ : Sl) (H : Hp) : Prop := ((tSeq (tIfS (mTest (tOp (mNe K) (tOp (mEq K) (tCall sp__law_end [] E0 (tCons (mVar 5) (tCons (mC (.int 0)) tNil))) (tCB (mLen K) (tCons (mVar 5) tNil))) (tCall sp_is_tree [] E0 (tCons (mVar 5) tNil)))) (tRet (mC (.bl false))) tNext)
  (tIfS (tAnd (tNot (mTest (tCall sp_is_tree [] E0 (tCons (mVar 5) tNil)))) (tNot (mTest (tCall sp__law_refused [] E0 (tCons (mVar 5) tNil))))) (tRet (mC (.bl false))) tNext)) : TS) D σ H
@[reducible] def rd_law_b2 (K : PySem.W.Frag) (sp__law_generator : Sp) (sp__law_random : Sp) (sp__law_tree : Sp) (sp__law_told_right : Sp) (sp_size : Sp) (sp__law_bent : Sp) (sp__law_end : Sp) (sp_is_tree : Sp) (sp__law_refused : Sp) (D : Ends) (σ : Sl) (H : Hp) : Prop := ((tSeq (tAsg (tCall sp__law_generator [] E0 (tCons (mVar 0) (tCons (mVar 1) tNil))) (gName 2))
  (tSeq (tAsg (tCall sp__law_random [] E0 (tCons (mVar 2) (tCons (tOp (mIx K) (tLst (tCons (mC (.int 4)) (tCons (mC (.int 13)) (tCons (mC (.int 61)) (tCons (mC (.int 301)) tNil))))) (tCall sp__law_random [] E0 (tCons (mVar 2) (tCons (mC (.int 4)) tNil)))) tNil))) (gName 3))
  (tSeq (tAsg (tCall sp__law_tree [] E0 (tCons (mVar 2) (tCons (mVar 3) tNil))) (gName 4))
  (tSeq (tIfS (tOr (mTest (tOp (mNe K) (tCall sp_size [] E0 (tCons (mVar 4) tNil)) (mVar 3))) (tNot (mTest (tCall sp__law_told_right [] E0 (tCons (mVar 4) tNil))))) (tRet (mC (.bl false))) tNext)
  (mFor (mIter K (tCall sp__law_bent [] E0 (tCons (mVar 2) (tCons (mVar 4) tNil)))) (gName 5) (rd_law_b1 K sp__law_generator sp__law_random sp__law_tree sp__law_told_right sp_size sp__law_bent sp__law_end sp_is_tree sp__law_refused)))))) : TS) D σ H
@[reducible] def rd_law_b3 (K : PySem.W.Frag) (sp__law_generator : Sp) (sp__law_random : Sp) (sp__law_tree : Sp) (sp__law_told_right : Sp) (sp_size : Sp) (sp__law_bent : Sp) (sp__law_end : Sp) (sp_is_tree : Sp) (sp__law_refused : Sp) (D : Ends) (σ : Sl) (H : Hp) : Prop := ((tIfS (tNot (mTest (tCall sp__law_refused [] E0 (tCons (mVar 7) tNil)))) (tRet (mC (.bl false))) tNext) : TS) D σ H
def rd_law (K : PySem.W.Frag) (sp__law_generator : Sp) (sp__law_random : Sp) (sp__law_tree : Sp) (sp__law_told_right : Sp) (sp_size : Sp) (sp__law_bent : Sp) (sp__law_end : Sp) (sp_is_tree : Sp) (sp__law_refused : Sp) : TS := (tSeq (mFor (mRng1 (mC (.int 4))) (gName 1) (rd_law_b2 K sp__law_generator sp__law_random sp__law_tree sp__law_told_right sp_size sp__law_bent sp__law_end sp_is_tree sp__law_refused))
  (tSeq (tAsg (tLst (tCons (mC (.str (S []))) (tCons (mC (.str (S [32, 46]))) (tCons (mC (.str (S [40]))) (tCons (mC (.str (S [41]))) (tCons (mC (.str (S [40, 40, 46, 46, 41]))) (tCons (mC (.str (S [40, 46, 46, 41, 41]))) (tCons (mC (.str (S [40, 46, 41]))) (tCons (mC (.str (S [40, 46, 46, 46, 41]))) (tCons (mC (.str (S [40, 46, 46, 41, 32]))) (tCons (mC (.str (S [40, 46, 46, 41, 10]))) (tCons (mC (.str (S [32, 40, 46, 46, 41]))) (tCons (mC (.str (S [40, 32, 46, 46, 41]))) (tCons (mC (.str (S [40, 46, 46]))) (tCons (mC (.str (S [46, 46, 41]))) tNil))))))))))))))) (gName 6))
  (tSeq (tAsg (tOp mAdd (mVar 6) (tLst (tCons (tOp mMul (mC (.str (S [40]))) (mC (.int 1200))) (tCons (tOp mAdd (tOp mMul (mC (.str (S [40]))) (mC (.int 1200))) (tOp mMul (mC (.str (S [46]))) (mC (.int 1201)))) (tCons (tOp mMul (mC (.str (S [40, 46]))) (mC (.int 1200))) (tCons (tOp mMul (mC (.str (S [46]))) (mC (.int 1200))) (tCons (tOp mMul (mC (.str (S [41]))) (mC (.int 1200))) tNil))))))) (gName 6))
  (tSeq (mFor (mIter K (tOp mAdd (mVar 6) (tLst (tCons (mC .non) (tCons (mC (.bl true)) (tCons (mC (.int 0)) (tCons (mC (.int 7)) (tCons (tLst tNil) (tCons (tLst (tCons (mC (.str (S [46]))) tNil)) (tCons (tTup tNil) (tCons (tTup (tCons (mC (.str (S [46]))) (tCons (mC (.str (S [46]))) tNil))) (tCons tDNewK tNil)))))))))))) (gName 7) (rd_law_b3 K sp__law_generator sp__law_random sp__law_tree sp__law_told_right sp_size sp__law_bent sp__law_end sp_is_tree sp__law_refused))
  (tRet (mC (.bl true)))))))
abbrev N_law : List Str := ["_law_script", "_law_index", "_law_generator_here", "_law_many", "_law_tree_here", "_law_text", "_law_texts", "_law_thing"]
structure Tx (K : PySem.W.Frag) (mg : Str → Option Value) : Prop where
  f_isinstance : mg "isinstance" = none
  f_str : mg "str" = none
  f_max : mg "max" = none
  f_len : mg "len" = none
  f_int : mg "int" = none
  f_range : mg "range" = none
  f_list : mg "list" = none
  f_repr : mg "repr" = none
section
variable {P : Program} {w : World} {K : PySem.W.Frag} {mg : Str → Option Value} {base : Heap} {f : Addr} {fd : FuncData}
abbrev s_is_tree : Stmt := top 4
theorem sc_is_tree : FnScope N_is_tree ["value"] (defScope s_is_tree) := ⟨rfl, rfl, rfl, by decide +kernel, rfl, by decide +kernel, by decide +kernel⟩
theorem ok_is_tree {k : Nat} {sp : Sp}  (F : FunD K "is_tree" "is_tree" (defArgs s_is_tree) (defBody s_is_tree) (defScope s_is_tree) [] [] f fd) (T : Tx K mg)  
    (len : ∀ vs H Q E, sp vs H Q E → vs.length = 1) (pu : ∀ vs H Q E, sp vs H Q E → rd_is_tree K { nx := fun _ H' => Q .non H', rt := Q } (start N_is_tree vs) H) :
    FnG P w K mg base CX0 (k + 1) f fd ["value"] sp :=
  okG F sc_is_tree len fun cdv A outer s H vs Q E hr h => ⟨rd_is_tree K, PSs.nox (
    have nd := sc_is_tree.nd
    let N := N_is_tree
    let scope := defScope s_is_tree
    (pss_cons (ps_if (pt_not (mt_val (pe_callB call_isiM (by rfl) T.f_isinstance (by decide +kernel) (pa_cons (mv 0) (pa_cons (me_ty "str" (by rfl) T.f_str (by decide +kernel)) pa_nil))))) (pss_one (ps_ret me_bl)) pss_nil)
  (pss_cons (ps_set (i := 1) nd rfl (by first | exact Or.inl rfl | exact Or.inr rfl) (me_str [] (by rfl)))
  (pss_cons (ms_for PassesOwn.never rfl (pi_iterM (mv 0)) (pg_name (i := 2) nd rfl (by first | exact Or.inl rfl | exact Or.inr rfl)) (pss_one (ps_if (mt_cmp (op_eqM hr.units) (mv 2) (me_str [41] (by rfl)) (by rfl)) (pss_cons (ps_if (mt_cmp (op_neM hr.units) (me_slice (mv 1) (mo_some (me_neg me_int)) po_none) (me_str [40, 46, 46] (by rfl)) (by rfl)) (pss_one (ps_ret me_bl)) pss_nil)
  (pss_one (ps_set (i := 1) nd rfl (by first | exact Or.inl rfl | exact Or.inr rfl) (pe_op op_addM (me_slice (mv 1) po_none (mo_some (me_neg me_int))) (me_str [46] (by rfl)))))) (pss_one (ps_if (mt_inT (mv 2) (pa_cons (me_str [40] (by rfl)) (pa_cons (me_str [46] (by rfl)) pa_nil))) (pss_one (ps_set (i := 1) nd rfl (by first | exact Or.inl rfl | exact Or.inr rfl) (pe_op op_addM (mv 1) (mv 2)))) (pss_one (ps_ret me_bl)))))))
  (pss_one (ps_ret (pe_cmpR (op_eqM hr.units) (mv 1) (me_str [46] (by rfl)) (by rfl)))))))), pu vs H Q E h⟩
abbrev s_check_tree : Stmt := top 5
theorem sc_check_tree : FnScope N_check_tree ["value"] (defScope s_check_tree) := ⟨rfl, rfl, rfl, by decide +kernel, rfl, by decide +kernel, by decide +kernel⟩
theorem ok_check_tree {k : Nat} {sp : Sp} {sp_is_tree : Sp} {k_is_tree : Nat} {p_is_tree : List Str} {a_InvalidTree : Addr} (F : FunD K "check_tree" "check_tree" (defArgs s_check_tree) (defBody s_check_tree) (defScope s_check_tree) [] [] f fd) (T : Tx K mg) (C_is_tree : CalG P w K mg base CX0 "is_tree" k_is_tree p_is_tree [] sp_is_tree) (X_InvalidTree : ExcAt P w K mg "InvalidTree" "value" a_InvalidTree) (l_is_tree : k_is_tree ≤ k)
    (len : ∀ vs H Q E, sp vs H Q E → vs.length = 1) (pu : ∀ vs H Q E, sp vs H Q E → rd_check_tree K sp_is_tree a_InvalidTree E { nx := fun _ H' => Q .non H', rt := Q } (start N_check_tree vs) H) :
    FnG P w K mg base (L2.CX P w) (k + 1) f fd ["value"] sp :=
  okG F sc_check_tree len fun cdv A outer s H vs Q E hr h => ⟨rd_check_tree K sp_is_tree a_InvalidTree E, (
    have nd := sc_check_tree.nd
    let N := N_check_tree
    let scope := defScope s_check_tree
    (pss_one (ps_if (pt_not (mt_val (me_callG C_is_tree (hr.mono l_is_tree) (by rfl) pass0 (pa_cons (mv 0) pa_nil)))) (pss_one (ms_raise X_InvalidTree hr.r0 rfl (takes_of rfl rfl rfl rfl) (by rfl) (pa_cons (mv 0) pa_nil))) pss_nil))), pu vs H Q E h⟩
abbrev s_size : Stmt := top 6
theorem sc_size : FnScope N_size ["tree"] (defScope s_size) := ⟨rfl, rfl, rfl, by decide +kernel, rfl, by decide +kernel, by decide +kernel⟩
theorem ok_size {k : Nat} {sp : Sp} {sp_check_tree : Sp} {k_check_tree : Nat} {p_check_tree : List Str} (F : FunD K "size" "size" (defArgs s_size) (defBody s_size) (defScope s_size) [] [] f fd) (T : Tx K mg) (C_check_tree : CalG P w K mg base (L2.CX P w) "check_tree" k_check_tree p_check_tree [] sp_check_tree) (l_check_tree : k_check_tree ≤ k)
    (len : ∀ vs H Q E, sp vs H Q E → vs.length = 1) (pu : ∀ vs H Q E, sp vs H Q E → rd_size K sp_check_tree E { nx := fun _ H' => Q .non H', rt := Q } (start N_size vs) H) :
    FnG P w K mg base (L2.CX P w) (k + 1) f fd ["tree"] sp :=
  okG F sc_size len fun cdv A outer s H vs Q E hr h => ⟨rd_size K sp_check_tree E, (
    have nd := sc_size.nd
    let N := N_size
    let scope := defScope s_size
    (pss_cons (ps_expr (me_callG C_check_tree (hr.mono l_check_tree) (by rfl) (passes_call (takes_of rfl rfl rfl rfl) fun _ _ _ _ h => h) (pa_cons (mv 0) pa_nil)))
  (pss_one (ps_ret (me_count (mv 0) (me_str [40] (by rfl))))))), pu vs H Q E h⟩
abbrev s_height : Stmt := top 7
theorem sc_height : FnScope N_height ["tree"] (defScope s_height) := ⟨rfl, rfl, rfl, by decide +kernel, rfl, by decide +kernel, by decide +kernel⟩
theorem ok_height {k : Nat} {sp : Sp} {sp_check_tree : Sp} {sp_addresses_of_leaves : Sp} {k_check_tree : Nat} {p_check_tree : List Str} {k_addresses_of_leaves : Nat} {p_addresses_of_leaves : List Str} (F : FunD K "height" "height" (defArgs s_height) (defBody s_height) (defScope s_height) [] [] f fd) (T : Tx K mg) (C_check_tree : CalG P w K mg base (L2.CX P w) "check_tree" k_check_tree p_check_tree [] sp_check_tree) (C_addresses_of_leaves : CalG P w K mg base CX0 "addresses_of_leaves" k_addresses_of_leaves p_addresses_of_leaves [] sp_addresses_of_leaves) (l_check_tree : k_check_tree ≤ k) (l_addresses_of_leaves : k_addresses_of_leaves ≤ k)
    (len : ∀ vs H Q E, sp vs H Q E → vs.length = 1) (pu : ∀ vs H Q E, sp vs H Q E → rd_height K sp_check_tree sp_addresses_of_leaves E { nx := fun _ H' => Q .non H', rt := Q } (start N_height vs) H) :
    FnG P w K mg base (L2.CX P w) (k + 1) f fd ["tree"] sp :=
  okG F sc_height len fun cdv A outer s H vs Q E hr h => ⟨rd_height K sp_check_tree sp_addresses_of_leaves E, (
    have nd := sc_height.nd
    let N := N_height
    let scope := defScope s_height
    (pss_cons (ps_expr (me_callG C_check_tree (hr.mono l_check_tree) (by rfl) (passes_call (takes_of rfl rfl rfl rfl) fun _ _ _ _ h => h) (pa_cons (mv 0) pa_nil)))
  (pss_one (ps_ret (pe_callB (call_maxLM rfl) (by rfl) T.f_max (by decide +kernel) (pa_cons (me_lc (own := [("address", 1)]) rfl nd (pi_iterM (me_callG C_addresses_of_leaves (hr.mono l_addresses_of_leaves) (by rfl) pass0 (pa_cons (mv 0) pa_nil))) (blkOk_by (own := [("address", 1)]) (N := N) (sc := scope) (by decide +kernel)) (fun _ _ _ _ _ => (pg_name (i := 1) nd rfl (by first | exact Or.inl rfl | exact Or.inr rfl))) (fun _ _ _ _ _ => pts_nil) (fun _ _ _ _ _ => (pe_callB call_lenM (by rfl) T.f_len (by decide +kernel) (pa_cons (mv 1) pa_nil)))) pa_nil)))))), pu vs H Q E h⟩
abbrev s_walked : Stmt := top 8
theorem sc_walked : FnScope N_walked ["tree"] (defScope s_walked) := ⟨rfl, rfl, rfl, by decide +kernel, rfl, by decide +kernel, by decide +kernel⟩
theorem ok_walked {k : Nat} {sp : Sp}  (F : FunD K "walked" "walked" (defArgs s_walked) (defBody s_walked) (defScope s_walked) [] [] f fd) (T : Tx K mg)  
    (len : ∀ vs H Q E, sp vs H Q E → vs.length = 1) (pu : ∀ vs H Q E, sp vs H Q E → rd_walked K { nx := fun _ H' => Q .non H', rt := Q } (start N_walked vs) H) :
    FnG P w K mg base CX0 (k + 1) f fd ["tree"] sp :=
  okG F sc_walked len fun cdv A outer s H vs Q E hr h => ⟨rd_walked K, PSs.nox (
    have nd := sc_walked.nd
    let N := N_walked
    let scope := defScope s_walked
    (pss_cons (ms_par3 (i := 1) (j := 2) (l := 3) rfl nd rfl rfl rfl (by decide) (by decide) (by decide) rfl rfl rfl (pa_cons (pe_lst pa_nil) (pa_cons (pe_lst pa_nil) (pa_cons (pe_lst pa_nil) pa_nil))) (by rfl))
  (pss_cons (ms_for PassesOwn.never rfl (pi_iterM (mv 0)) (pg_name (i := 4) nd rfl (by first | exact Or.inl rfl | exact Or.inr rfl)) (pss_one (ps_if (mt_cmp (op_eqM hr.units) (mv 4) (me_str [40] (by rfl)) (by rfl)) (pss_one (ps_expr (me_append (mv 1) (me_str [108] (by rfl))))) (pss_cons (ps_if (mt_cmp (op_eqM hr.units) (mv 4) (me_str [46] (by rfl)) (by rfl)) (pss_one (ps_expr (me_append (mv 2) (me_join (me_str [] (by rfl)) (mv 1))))) (pss_one (ps_expr (me_pop (mv 1)))))
  (pss_one (ps_if (PW.pt (pw_and (mt_cmp (op_neM hr.units) (mv 1) (pe_lst pa_nil) (by rfl)) (pw_and1 (mt_cmp (op_eqM hr.units) (me_ix (mv 1) (me_neg me_int) (fun _ _ => rfl)) (me_str [108] (by rfl)) (by rfl))))) (pss_cons (ps_expr (me_append (mv 3) (me_join (me_str [] (by rfl)) (me_slice (mv 1) po_none (mo_some (me_neg me_int))))))
  (pss_one (ps_asg (me_str [114] (by rfl)) (pg_sub (mv 1) (me_neg me_int) set_listM)))) pss_nil))))))
  (pss_one (ps_ret (pe_tup (pa_cons (mv 2) (pa_cons (mv 3) pa_nil)))))))), pu vs H Q E h⟩
abbrev s_addresses_of_leaves : Stmt := top 9
theorem sc_addresses_of_leaves : FnScope N_addresses_of_leaves ["tree"] (defScope s_addresses_of_leaves) := ⟨rfl, rfl, rfl, by decide +kernel, rfl, by decide +kernel, by decide +kernel⟩
theorem ok_addresses_of_leaves {k : Nat} {sp : Sp} {sp_walked : Sp} {k_walked : Nat} {p_walked : List Str} (F : FunD K "addresses_of_leaves" "addresses_of_leaves" (defArgs s_addresses_of_leaves) (defBody s_addresses_of_leaves) (defScope s_addresses_of_leaves) [] [] f fd) (T : Tx K mg) (C_walked : CalG P w K mg base CX0 "walked" k_walked p_walked [] sp_walked) (l_walked : k_walked ≤ k)
    (len : ∀ vs H Q E, sp vs H Q E → vs.length = 1) (pu : ∀ vs H Q E, sp vs H Q E → rd_addresses_of_leaves K sp_walked { nx := fun _ H' => Q .non H', rt := Q } (start N_addresses_of_leaves vs) H) :
    FnG P w K mg base CX0 (k + 1) f fd ["tree"] sp :=
  okG F sc_addresses_of_leaves len fun cdv A outer s H vs Q E hr h => ⟨rd_addresses_of_leaves K sp_walked, PSs.nox (
    have nd := sc_addresses_of_leaves.nd
    let N := N_addresses_of_leaves
    let scope := defScope s_addresses_of_leaves
    (pss_one (ps_ret (me_ix (me_callG C_walked (hr.mono l_walked) (by rfl) pass0 (pa_cons (mv 0) pa_nil)) me_int (fun _ _ => rfl))))), pu vs H Q E h⟩
abbrev s_leaves : Stmt := top 10
theorem sc_leaves : FnScope N_leaves ["tree"] (defScope s_leaves) := ⟨rfl, rfl, rfl, by decide +kernel, rfl, by decide +kernel, by decide +kernel⟩
theorem ok_leaves {k : Nat} {sp : Sp} {sp_check_tree : Sp} {sp_walked : Sp} {k_check_tree : Nat} {p_check_tree : List Str} {k_walked : Nat} {p_walked : List Str} (F : FunD K "leaves" "leaves" (defArgs s_leaves) (defBody s_leaves) (defScope s_leaves) [] [] f fd) (T : Tx K mg) (C_check_tree : CalG P w K mg base (L2.CX P w) "check_tree" k_check_tree p_check_tree [] sp_check_tree) (C_walked : CalG P w K mg base CX0 "walked" k_walked p_walked [] sp_walked) (l_check_tree : k_check_tree ≤ k) (l_walked : k_walked ≤ k)
    (len : ∀ vs H Q E, sp vs H Q E → vs.length = 1) (pu : ∀ vs H Q E, sp vs H Q E → rd_leaves K sp_check_tree sp_walked E { nx := fun _ H' => Q .non H', rt := Q } (start N_leaves vs) H) :
    FnG P w K mg base (L2.CX P w) (k + 1) f fd ["tree"] sp :=
  okG F sc_leaves len fun cdv A outer s H vs Q E hr h => ⟨rd_leaves K sp_check_tree sp_walked E, (
    have nd := sc_leaves.nd
    let N := N_leaves
    let scope := defScope s_leaves
    (pss_cons (ps_expr (me_callG C_check_tree (hr.mono l_check_tree) (by rfl) (passes_call (takes_of rfl rfl rfl rfl) fun _ _ _ _ h => h) (pa_cons (mv 0) pa_nil)))
  (pss_one (ps_ret (me_ix (me_callG C_walked (hr.mono l_walked) (by rfl) pass0 (pa_cons (mv 0) pa_nil)) me_int (fun _ _ => rfl)))))), pu vs H Q E h⟩
abbrev s_nodes : Stmt := top 11
theorem sc_nodes : FnScope N_nodes ["tree"] (defScope s_nodes) := ⟨rfl, rfl, rfl, by decide +kernel, rfl, by decide +kernel, by decide +kernel⟩
theorem ok_nodes {k : Nat} {sp : Sp} {sp_check_tree : Sp} {sp_walked : Sp} {k_check_tree : Nat} {p_check_tree : List Str} {k_walked : Nat} {p_walked : List Str} (F : FunD K "nodes" "nodes" (defArgs s_nodes) (defBody s_nodes) (defScope s_nodes) [] [] f fd) (T : Tx K mg) (C_check_tree : CalG P w K mg base (L2.CX P w) "check_tree" k_check_tree p_check_tree [] sp_check_tree) (C_walked : CalG P w K mg base CX0 "walked" k_walked p_walked [] sp_walked) (l_check_tree : k_check_tree ≤ k) (l_walked : k_walked ≤ k)
    (len : ∀ vs H Q E, sp vs H Q E → vs.length = 1) (pu : ∀ vs H Q E, sp vs H Q E → rd_nodes K sp_check_tree sp_walked E { nx := fun _ H' => Q .non H', rt := Q } (start N_nodes vs) H) :
    FnG P w K mg base (L2.CX P w) (k + 1) f fd ["tree"] sp :=
  okG F sc_nodes len fun cdv A outer s H vs Q E hr h => ⟨rd_nodes K sp_check_tree sp_walked E, (
    have nd := sc_nodes.nd
    let N := N_nodes
    let scope := defScope s_nodes
    (pss_cons (ps_expr (me_callG C_check_tree (hr.mono l_check_tree) (by rfl) (passes_call (takes_of rfl rfl rfl rfl) fun _ _ _ _ h => h) (pa_cons (mv 0) pa_nil)))
  (pss_one (ps_ret (me_ix (me_callG C_walked (hr.mono l_walked) (by rfl) pass0 (pa_cons (mv 0) pa_nil)) me_int (fun _ _ => rfl)))))), pu vs H Q E h⟩
abbrev s__law_cell : Stmt := top 13
theorem sc__law_cell : FnScope N__law_cell ["_law_script", "_law_index"] (defScope s__law_cell) := ⟨rfl, rfl, rfl, by decide +kernel, rfl, by decide +kernel, by decide +kernel⟩
theorem ok__law_cell {k : Nat} {sp : Sp}  (F : FunD K "_law_cell" "_law_cell" (defArgs s__law_cell) (defBody s__law_cell) (defScope s__law_cell) [] [] f fd) (T : Tx K mg)  
    (len : ∀ vs H Q E, sp vs H Q E → vs.length = 2) (pu : ∀ vs H Q E, sp vs H Q E → rd__law_cell K { nx := fun _ H' => Q .non H', rt := Q } (start N__law_cell vs) H) :
    FnG P w K mg base CX0 (k + 1) f fd ["_law_script", "_law_index"] sp :=
  okG F sc__law_cell len fun cdv A outer s H vs Q E hr h => ⟨rd__law_cell K, PSs.nox (
    have nd := sc__law_cell.nd
    let N := N__law_cell
    let scope := defScope s__law_cell
    (pss_cons (ps_if (mt_cmp op_ltM (mv 1) (pe_callB call_lenM (by rfl) T.f_len (by decide +kernel) (pa_cons (mv 0) pa_nil)) (by rfl)) (pss_one (ps_ret (me_ix (mv 0) (mv 1) (fun _ _ => rfl)))) pss_nil)
  (pss_one (ps_ret me_int)))), pu vs H Q E h⟩
abbrev s__law_hash : Stmt := top 14
theorem sc__law_hash : FnScope N__law_hash ["_law_seed", "_law_index"] (defScope s__law_hash) := ⟨rfl, rfl, rfl, by decide +kernel, rfl, by decide +kernel, by decide +kernel⟩
theorem ok__law_hash {k : Nat} {sp : Sp}  (F : FunD K "_law_hash" "_law_hash" (defArgs s__law_hash) (defBody s__law_hash) (defScope s__law_hash) [] [] f fd) (T : Tx K mg)  
    (len : ∀ vs H Q E, sp vs H Q E → vs.length = 2) (pu : ∀ vs H Q E, sp vs H Q E → rd__law_hash K { nx := fun _ H' => Q .non H', rt := Q } (start N__law_hash vs) H) :
    FnG P w K mg base CX0 (k + 1) f fd ["_law_seed", "_law_index"] sp :=
  okG F sc__law_hash len fun cdv A outer s H vs Q E hr h => ⟨rd__law_hash K, PSs.nox (
    have nd := sc__law_hash.nd
    let N := N__law_hash
    let scope := defScope s__law_hash
    (pss_cons (ps_set (i := 2) nd rfl (by first | exact Or.inl rfl | exact Or.inr rfl) (pe_op op_modM (pe_callTy call_intM (by rfl) T.f_int (by decide +kernel) (pa_cons (pe_op op_addM (pe_op op_addM (pe_op op_addM (pe_op op_mulM (mv 0) me_int) (pe_op op_mulM (pe_op op_mulM me_int (mv 1)) (mv 1))) (mv 1)) me_int) pa_nil)) me_int))
  (pss_cons (ps_set (i := 2) nd rfl (by first | exact Or.inl rfl | exact Or.inr rfl) (pe_op op_modM (pe_callTy call_intM (by rfl) T.f_int (by decide +kernel) (pa_cons (pe_op op_addM (pe_op op_mulM (mv 2) (mv 2)) me_int) pa_nil)) me_int))
  (pss_one (ps_ret (pe_op op_modM (pe_callTy call_intM (by rfl) T.f_int (by decide +kernel) (pa_cons (pe_op op_mulM (mv 2) me_int) pa_nil)) me_int)))))), pu vs H Q E h⟩
abbrev s__law_generator : Stmt := top 15
theorem sc__law_generator : FnScope N__law_generator ["_law_script", "_law_index"] (defScope s__law_generator) := ⟨rfl, rfl, rfl, by decide +kernel, rfl, by decide +kernel, by decide +kernel⟩
theorem ok__law_generator {k : Nat} {sp : Sp} {sp__law_cell : Sp} {k__law_cell : Nat} {p__law_cell : List Str} (F : FunD K "_law_generator" "_law_generator" (defArgs s__law_generator) (defBody s__law_generator) (defScope s__law_generator) [] [] f fd) (T : Tx K mg) (C__law_cell : CalG P w K mg base CX0 "_law_cell" k__law_cell p__law_cell [] sp__law_cell) (l__law_cell : k__law_cell ≤ k)
    (len : ∀ vs H Q E, sp vs H Q E → vs.length = 2) (pu : ∀ vs H Q E, sp vs H Q E → rd__law_generator K sp__law_cell { nx := fun _ H' => Q .non H', rt := Q } (start N__law_generator vs) H) :
    FnG P w K mg base CX0 (k + 1) f fd ["_law_script", "_law_index"] sp :=
  okG F sc__law_generator len fun cdv A outer s H vs Q E hr h => ⟨rd__law_generator K sp__law_cell, PSs.nox (
    have nd := sc__law_generator.nd
    let N := N__law_generator
    let scope := defScope s__law_generator
    (pss_cons (ps_set (i := 2) nd rfl (by first | exact Or.inl rfl | exact Or.inr rfl) (me_callG C__law_cell (hr.mono l__law_cell) (by rfl) pass0 (pa_cons (mv 0) (pa_cons (mv 1) pa_nil))))
  (pss_one (ps_ret (pe_lst (pa_cons (pe_op op_modM (pe_callTy call_intM (by rfl) T.f_int (by decide +kernel) (pa_cons (pe_callB (call_maxM rfl) (by rfl) T.f_max (by decide +kernel) (pa_cons (pe_op op_subM (mv 2) (pe_op op_powM me_int me_int)) (pa_cons me_int pa_nil))) pa_nil)) (pe_op op_powM (pe_op op_powM me_int me_int) me_int)) (pa_cons (pe_op op_modM (pe_callTy call_intM (by rfl) T.f_int (by decide +kernel) (pa_cons (mv 2) pa_nil)) me_int) (pa_cons (pe_op op_mulM me_int (mv 1)) pa_nil)))))))), pu vs H Q E h⟩
abbrev s__law_random : Stmt := top 16
theorem sc__law_random : FnScope N__law_random ["_law_generator_here", "_law_bound"] (defScope s__law_random) := ⟨rfl, rfl, rfl, by decide +kernel, rfl, by decide +kernel, by decide +kernel⟩
theorem ok__law_random {k : Nat} {sp : Sp} {sp__law_hash : Sp} {k__law_hash : Nat} {p__law_hash : List Str} (F : FunD K "_law_random" "_law_random" (defArgs s__law_random) (defBody s__law_random) (defScope s__law_random) [] [] f fd) (T : Tx K mg) (C__law_hash : CalG P w K mg base CX0 "_law_hash" k__law_hash p__law_hash [] sp__law_hash) (l__law_hash : k__law_hash ≤ k)
    (len : ∀ vs H Q E, sp vs H Q E → vs.length = 2) (pu : ∀ vs H Q E, sp vs H Q E → rd__law_random K sp__law_hash { nx := fun _ H' => Q .non H', rt := Q } (start N__law_random vs) H) :
    FnG P w K mg base CX0 (k + 1) f fd ["_law_generator_here", "_law_bound"] sp :=
  okG F sc__law_random len fun cdv A outer s H vs Q E hr h => ⟨rd__law_random K sp__law_hash, PSs.nox (
    have nd := sc__law_random.nd
    let N := N__law_random
    let scope := defScope s__law_random
    (pss_cons (ps_if (mt_cmp op_gtM (me_ix (mv 0) me_int (fun _ _ => rfl)) me_int (by rfl)) (pss_cons (ps_set (i := 2) nd rfl (by first | exact Or.inl rfl | exact Or.inr rfl) (pe_op op_modM (pe_callTy call_intM (by rfl) T.f_int (by decide +kernel) (pa_cons (me_ix (mv 0) me_int (fun _ _ => rfl)) pa_nil)) (mv 1)))
  (pss_cons (ps_asg (pe_op op_divM (me_ix (mv 0) me_int (fun _ _ => rfl)) (mv 1)) (pg_sub (mv 0) me_int set_listM))
  (pss_one (ps_ret (mv 2))))) pss_nil)
  (pss_cons (ps_set (i := 2) nd rfl (by first | exact Or.inl rfl | exact Or.inr rfl) me_int)
  (pss_cons (ms_for PassesOwn.never rfl (pi_rng1M (by rfl) T.f_range (pe_op op_addM me_int (pe_op op_divM (me_bits (mv 1)) me_int))) (pg_name (i := 3) nd rfl (by first | exact Or.inl rfl | exact Or.inr rfl)) (pss_cons (ps_asg (pe_op op_addM (me_ix (mv 0) me_int (fun _ _ => rfl)) me_int) (pg_sub (mv 0) me_int set_listM))
  (pss_one (ps_set (i := 2) nd rfl (by first | exact Or.inl rfl | exact Or.inr rfl) (pe_op op_addM (pe_op op_mulM (mv 2) me_int) (me_callG C__law_hash (hr.mono l__law_hash) (by rfl) pass0 (pa_cons (me_ix (mv 0) me_int (fun _ _ => rfl)) (pa_cons (me_ix (mv 0) me_int (fun _ _ => rfl)) pa_nil))))))))
  (pss_one (ps_ret (pe_op op_modM (pe_callTy call_intM (by rfl) T.f_int (by decide +kernel) (pa_cons (mv 2) pa_nil)) (mv 1)))))))), pu vs H Q E h⟩
abbrev s__law_tree : Stmt := top 17
theorem sc__law_tree : FnScope N__law_tree ["_law_generator_here", "_law_many"] (defScope s__law_tree) := ⟨rfl, rfl, rfl, by decide +kernel, rfl, by decide +kernel, by decide +kernel⟩
theorem ok__law_tree {k : Nat} {sp : Sp} {sp__law_random : Sp} {sp__law_tree : Sp} {k__law_random : Nat} {p__law_random : List Str} {k__law_tree : Nat} {p__law_tree : List Str} (F : FunD K "_law_tree" "_law_tree" (defArgs s__law_tree) (defBody s__law_tree) (defScope s__law_tree) [] [] f fd) (T : Tx K mg) (C__law_random : CalG P w K mg base CX0 "_law_random" k__law_random p__law_random [] sp__law_random) (C__law_tree : CalG P w K mg base CX0 "_law_tree" k__law_tree p__law_tree [] sp__law_tree) (l__law_random : k__law_random ≤ k) (l__law_tree : k__law_tree ≤ k)
    (len : ∀ vs H Q E, sp vs H Q E → vs.length = 2) (pu : ∀ vs H Q E, sp vs H Q E → rd__law_tree K sp__law_random sp__law_tree { nx := fun _ H' => Q .non H', rt := Q } (start N__law_tree vs) H) :
    FnG P w K mg base CX0 (k + 1) f fd ["_law_generator_here", "_law_many"] sp :=
  okG F sc__law_tree len fun cdv A outer s H vs Q E hr h => ⟨rd__law_tree K sp__law_random sp__law_tree, PSs.nox (
    have nd := sc__law_tree.nd
    let N := N__law_tree
    let scope := defScope s__law_tree
    (pss_cons (ps_if (mt_cmp (op_eqM hr.units) (mv 1) me_int (by rfl)) (pss_one (ps_ret (me_str [46] (by rfl)))) pss_nil)
  (pss_cons (ps_set (i := 2) nd rfl (by first | exact Or.inl rfl | exact Or.inr rfl) (me_ix (pe_lst (pa_cons me_int (pa_cons (pe_op op_subM (mv 1) me_int) (pa_cons (me_callG C__law_random (hr.mono l__law_random) (by rfl) pass0 (pa_cons (mv 0) (pa_cons (mv 1) pa_nil))) (pa_cons (pe_op op_divM (mv 1) me_int) pa_nil))))) (me_callG C__law_random (hr.mono l__law_random) (by rfl) pass0 (pa_cons (mv 0) (pa_cons me_int pa_nil))) (fun _ _ => rfl)))
  (pss_one (ps_ret (pe_op op_addM (pe_op op_addM (pe_op op_addM (me_str [40] (by rfl)) (me_callG C__law_tree (hr.mono l__law_tree) (by rfl) pass0 (pa_cons (mv 0) (pa_cons (mv 2) pa_nil)))) (me_callG C__law_tree (hr.mono l__law_tree) (by rfl) pass0 (pa_cons (mv 0) (pa_cons (pe_op op_subM (pe_op op_subM (mv 1) me_int) (mv 2)) pa_nil)))) (me_str [41] (by rfl)))))))), pu vs H Q E h⟩
abbrev s__law_parsed : Stmt := top 18
theorem sc__law_parsed : FnScope N__law_parsed ["_law_tree_here"] (defScope s__law_parsed) := ⟨rfl, rfl, rfl, by decide +kernel, rfl, by decide +kernel, by decide +kernel⟩
theorem ok__law_parsed {k : Nat} {sp : Sp}  (F : FunD K "_law_parsed" "_law_parsed" (defArgs s__law_parsed) (defBody s__law_parsed) (defScope s__law_parsed) [] [] f fd) (T : Tx K mg)  
    (len : ∀ vs H Q E, sp vs H Q E → vs.length = 1) (pu : ∀ vs H Q E, sp vs H Q E → rd__law_parsed K { nx := fun _ H' => Q .non H', rt := Q } (start N__law_parsed vs) H) :
    FnG P w K mg base CX0 (k + 1) f fd ["_law_tree_here"] sp :=
  okG F sc__law_parsed len fun cdv A outer s H vs Q E hr h => ⟨rd__law_parsed K, PSs.nox (
    have nd := sc__law_parsed.nd
    let N := N__law_parsed
    let scope := defScope s__law_parsed
    (pss_cons (ps_set (i := 1) nd rfl (by first | exact Or.inl rfl | exact Or.inr rfl) (pe_lst pa_nil))
  (pss_cons (ms_for PassesOwn.never rfl (pi_iterM (mv 0)) (pg_name (i := 2) nd rfl (by first | exact Or.inl rfl | exact Or.inr rfl)) (pss_one (ps_if (mt_cmp (op_eqM hr.units) (mv 2) (me_str [41] (by rfl)) (by rfl)) (pss_one (ps_set (i := 1) nd rfl (by first | exact Or.inl rfl | exact Or.inr rfl) (pe_op op_addM (me_slice (mv 1) po_none (mo_some (me_neg me_int))) (pe_lst (pa_cons (pe_tup (pa_cons (me_ix (mv 1) (me_neg me_int) (fun _ _ => rfl)) (pa_cons (me_ix (mv 1) (me_neg me_int) (fun _ _ => rfl)) pa_nil))) pa_nil))))) (pss_one (ps_if (mt_cmp (op_eqM hr.units) (mv 2) (me_str [46] (by rfl)) (by rfl)) (pss_one (ps_expr (me_append (mv 1) (pe_tup pa_nil)))) pss_nil)))))
  (pss_one (ps_ret (me_ix (mv 1) me_int (fun _ _ => rfl))))))), pu vs H Q E h⟩
abbrev s__law_leaves : Stmt := top 19
theorem sc__law_leaves : FnScope N__law_leaves ["_law_parsed_here", "_law_road"] (defScope s__law_leaves) := ⟨rfl, rfl, rfl, by decide +kernel, rfl, by decide +kernel, by decide +kernel⟩
theorem ok__law_leaves {k : Nat} {sp : Sp} {sp__law_leaves : Sp} {k__law_leaves : Nat} {p__law_leaves : List Str} (F : FunD K "_law_leaves" "_law_leaves" (defArgs s__law_leaves) (defBody s__law_leaves) (defScope s__law_leaves) [] [] f fd) (T : Tx K mg) (C__law_leaves : CalG P w K mg base CX0 "_law_leaves" k__law_leaves p__law_leaves [] sp__law_leaves) (l__law_leaves : k__law_leaves ≤ k)
    (len : ∀ vs H Q E, sp vs H Q E → vs.length = 2) (pu : ∀ vs H Q E, sp vs H Q E → rd__law_leaves K sp__law_leaves { nx := fun _ H' => Q .non H', rt := Q } (start N__law_leaves vs) H) :
    FnG P w K mg base CX0 (k + 1) f fd ["_law_parsed_here", "_law_road"] sp :=
  okG F sc__law_leaves len fun cdv A outer s H vs Q E hr h => ⟨rd__law_leaves K sp__law_leaves, PSs.nox (
    have nd := sc__law_leaves.nd
    let N := N__law_leaves
    let scope := defScope s__law_leaves
    (pss_cons (ps_if (mt_cmp (op_eqM hr.units) (mv 0) (pe_tup pa_nil) (by rfl)) (pss_one (ps_ret (pe_lst (pa_cons (mv 1) pa_nil)))) pss_nil)
  (pss_one (ps_ret (pe_op op_addM (me_callG C__law_leaves (hr.mono l__law_leaves) (by rfl) pass0 (pa_cons (me_ix (mv 0) me_int (fun _ _ => rfl)) (pa_cons (pe_op op_addM (mv 1) (me_str [108] (by rfl))) pa_nil))) (me_callG C__law_leaves (hr.mono l__law_leaves) (by rfl) pass0 (pa_cons (me_ix (mv 0) me_int (fun _ _ => rfl)) (pa_cons (pe_op op_addM (mv 1) (me_str [114] (by rfl))) pa_nil)))))))), pu vs H Q E h⟩
abbrev s__law_nodes : Stmt := top 20
theorem sc__law_nodes : FnScope N__law_nodes ["_law_parsed_here", "_law_road"] (defScope s__law_nodes) := ⟨rfl, rfl, rfl, by decide +kernel, rfl, by decide +kernel, by decide +kernel⟩
theorem ok__law_nodes {k : Nat} {sp : Sp} {sp__law_nodes : Sp} {k__law_nodes : Nat} {p__law_nodes : List Str} (F : FunD K "_law_nodes" "_law_nodes" (defArgs s__law_nodes) (defBody s__law_nodes) (defScope s__law_nodes) [] [] f fd) (T : Tx K mg) (C__law_nodes : CalG P w K mg base CX0 "_law_nodes" k__law_nodes p__law_nodes [] sp__law_nodes) (l__law_nodes : k__law_nodes ≤ k)
    (len : ∀ vs H Q E, sp vs H Q E → vs.length = 2) (pu : ∀ vs H Q E, sp vs H Q E → rd__law_nodes K sp__law_nodes { nx := fun _ H' => Q .non H', rt := Q } (start N__law_nodes vs) H) :
    FnG P w K mg base CX0 (k + 1) f fd ["_law_parsed_here", "_law_road"] sp :=
  okG F sc__law_nodes len fun cdv A outer s H vs Q E hr h => ⟨rd__law_nodes K sp__law_nodes, PSs.nox (
    have nd := sc__law_nodes.nd
    let N := N__law_nodes
    let scope := defScope s__law_nodes
    (pss_cons (ps_if (mt_cmp (op_eqM hr.units) (mv 0) (pe_tup pa_nil) (by rfl)) (pss_one (ps_ret (pe_lst pa_nil))) pss_nil)
  (pss_one (ps_ret (pe_op op_addM (pe_op op_addM (me_callG C__law_nodes (hr.mono l__law_nodes) (by rfl) pass0 (pa_cons (me_ix (mv 0) me_int (fun _ _ => rfl)) (pa_cons (pe_op op_addM (mv 1) (me_str [108] (by rfl))) pa_nil))) (pe_lst (pa_cons (mv 1) pa_nil))) (me_callG C__law_nodes (hr.mono l__law_nodes) (by rfl) pass0 (pa_cons (me_ix (mv 0) me_int (fun _ _ => rfl)) (pa_cons (pe_op op_addM (mv 1) (me_str [114] (by rfl))) pa_nil)))))))), pu vs H Q E h⟩
abbrev s__law_end : Stmt := top 21
theorem sc__law_end : FnScope N__law_end ["_law_text", "_law_at"] (defScope s__law_end) := ⟨rfl, rfl, rfl, by decide +kernel, rfl, by decide +kernel, by decide +kernel⟩
theorem ok__law_end {k : Nat} {sp : Sp} {sp__law_end : Sp} {k__law_end : Nat} {p__law_end : List Str} (F : FunD K "_law_end" "_law_end" (defArgs s__law_end) (defBody s__law_end) (defScope s__law_end) [] [] f fd) (T : Tx K mg) (C__law_end : CalG P w K mg base CX0 "_law_end" k__law_end p__law_end [] sp__law_end) (l__law_end : k__law_end ≤ k)
    (len : ∀ vs H Q E, sp vs H Q E → vs.length = 2) (pu : ∀ vs H Q E, sp vs H Q E → rd__law_end K sp__law_end { nx := fun _ H' => Q .non H', rt := Q } (start N__law_end vs) H) :
    FnG P w K mg base CX0 (k + 1) f fd ["_law_text", "_law_at"] sp :=
  okG F sc__law_end len fun cdv A outer s H vs Q E hr h => ⟨rd__law_end K sp__law_end, PSs.nox (
    have nd := sc__law_end.nd
    let N := N__law_end
    let scope := defScope s__law_end
    (pss_cons (ps_if (mt_cmp (op_eqM hr.units) (me_slice (mv 0) (mo_some (mv 1)) (mo_some (pe_op op_addM (mv 1) me_int))) (me_str [46] (by rfl)) (by rfl)) (pss_one (ps_ret (pe_op op_addM (mv 1) me_int))) pss_nil)
  (pss_cons (ps_if (mt_cmp (op_neM hr.units) (me_slice (mv 0) (mo_some (mv 1)) (mo_some (pe_op op_addM (mv 1) me_int))) (me_str [40] (by rfl)) (by rfl)) (pss_one (ps_ret me_non)) pss_nil)
  (pss_cons (ms_for PassesOwn.never rfl (pi_rng1M (by rfl) T.f_range me_int) (pg_name (i := 2) nd rfl (by first | exact Or.inl rfl | exact Or.inr rfl)) (pss_cons (ps_set (i := 1) nd rfl (by first | exact Or.inl rfl | exact Or.inr rfl) (me_callG C__law_end (hr.mono l__law_end) (by rfl) pass0 (pa_cons (mv 0) (pa_cons (pe_op op_addM (mv 1) (pe_callTy call_intM (by rfl) T.f_int (by decide +kernel) (pa_cons (pe_cmpR (op_eqM hr.units) (mv 2) me_int (by rfl)) pa_nil))) pa_nil))))
  (pss_one (ps_if (mt_cmp op_isM (mv 1) me_non (by rfl)) (pss_one (ps_ret me_non)) pss_nil))))
  (pss_one (ps_ret (pe_ifExp (mt_cmp (op_eqM hr.units) (me_slice (mv 0) (mo_some (mv 1)) (mo_some (pe_op op_addM (mv 1) me_int))) (me_str [41] (by rfl)) (by rfl)) (pe_op op_addM (mv 1) me_int) me_non))))))), pu vs H Q E h⟩
abbrev s__law_high : Stmt := top 22
theorem sc__law_high : FnScope N__law_high ["_law_parsed_here"] (defScope s__law_high) := ⟨rfl, rfl, rfl, by decide +kernel, rfl, by decide +kernel, by decide +kernel⟩
theorem ok__law_high {k : Nat} {sp : Sp} {sp__law_high : Sp} {k__law_high : Nat} {p__law_high : List Str} (F : FunD K "_law_high" "_law_high" (defArgs s__law_high) (defBody s__law_high) (defScope s__law_high) [] [] f fd) (T : Tx K mg) (C__law_high : CalG P w K mg base CX0 "_law_high" k__law_high p__law_high [] sp__law_high) (l__law_high : k__law_high ≤ k)
    (len : ∀ vs H Q E, sp vs H Q E → vs.length = 1) (pu : ∀ vs H Q E, sp vs H Q E → rd__law_high K sp__law_high { nx := fun _ H' => Q .non H', rt := Q } (start N__law_high vs) H) :
    FnG P w K mg base CX0 (k + 1) f fd ["_law_parsed_here"] sp :=
  okG F sc__law_high len fun cdv A outer s H vs Q E hr h => ⟨rd__law_high K sp__law_high, PSs.nox (
    have nd := sc__law_high.nd
    let N := N__law_high
    let scope := defScope s__law_high
    (pss_cons (ps_if (mt_cmp (op_eqM hr.units) (mv 0) (pe_tup pa_nil) (by rfl)) (pss_one (ps_ret me_int)) pss_nil)
  (pss_one (ps_ret (pe_op op_addM me_int (pe_callB (call_maxM rfl) (by rfl) T.f_max (by decide +kernel) (pa_cons (pe_callTy call_intM (by rfl) T.f_int (by decide +kernel) (pa_cons (me_callG C__law_high (hr.mono l__law_high) (by rfl) pass0 (pa_cons (me_ix (mv 0) me_int (fun _ _ => rfl)) pa_nil)) pa_nil)) (pa_cons (pe_callTy call_intM (by rfl) T.f_int (by decide +kernel) (pa_cons (me_callG C__law_high (hr.mono l__law_high) (by rfl) pass0 (pa_cons (me_ix (mv 0) me_int (fun _ _ => rfl)) pa_nil)) pa_nil)) pa_nil)))))))), pu vs H Q E h⟩
abbrev s__law_bent : Stmt := top 23
theorem sc__law_bent : FnScope N__law_bent ["_law_generator_here", "_law_tree_here"] (defScope s__law_bent) := ⟨rfl, rfl, rfl, by decide +kernel, rfl, by decide +kernel, by decide +kernel⟩
theorem ok__law_bent {k : Nat} {sp : Sp} {sp__law_random : Sp} {k__law_random : Nat} {p__law_random : List Str} (F : FunD K "_law_bent" "_law_bent" (defArgs s__law_bent) (defBody s__law_bent) (defScope s__law_bent) [] [] f fd) (T : Tx K mg) (C__law_random : CalG P w K mg base CX0 "_law_random" k__law_random p__law_random [] sp__law_random) (l__law_random : k__law_random ≤ k)
    (len : ∀ vs H Q E, sp vs H Q E → vs.length = 2) (pu : ∀ vs H Q E, sp vs H Q E → rd__law_bent K sp__law_random { nx := fun _ H' => Q .non H', rt := Q } (start N__law_bent vs) H) :
    FnG P w K mg base CX0 (k + 1) f fd ["_law_generator_here", "_law_tree_here"] sp :=
  okG F sc__law_bent len fun cdv A outer s H vs Q E hr h => ⟨rd__law_bent K sp__law_random, PSs.nox (
    have nd := sc__law_bent.nd
    let N := N__law_bent
    let scope := defScope s__law_bent
    (pss_cons (ms_par (i := 2) (j := 3) rfl nd rfl rfl (by decide) rfl rfl (pa_cons (me_callG C__law_random (hr.mono l__law_random) (by rfl) pass0 (pa_cons (mv 0) (pa_cons (pe_callB call_lenM (by rfl) T.f_len (by decide +kernel) (pa_cons (mv 1) pa_nil)) pa_nil))) (pa_cons (me_callG C__law_random (hr.mono l__law_random) (by rfl) pass0 (pa_cons (mv 0) (pa_cons (pe_callB call_lenM (by rfl) T.f_len (by decide +kernel) (pa_cons (mv 1) pa_nil)) pa_nil))) pa_nil)) (by rfl))
  (pss_cons (ps_set (i := 4) nd rfl (by first | exact Or.inl rfl | exact Or.inr rfl) (me_ix (pe_lst (pa_cons (me_str [40] (by rfl)) (pa_cons (me_str [41] (by rfl)) (pa_cons (me_str [46] (by rfl)) (pa_cons (me_str [32] (by rfl)) (pa_cons (me_str [40, 41] (by rfl)) (pa_cons (me_str [46, 46] (by rfl)) (pa_cons (me_str [120] (by rfl)) pa_nil)))))))) (me_callG C__law_random (hr.mono l__law_random) (by rfl) pass0 (pa_cons (mv 0) (pa_cons me_int pa_nil))) (fun _ _ => rfl)))
  (pss_cons (ps_set (i := 5) nd rfl (by first | exact Or.inl rfl | exact Or.inr rfl) (pe_lst (pa_cons (pe_op op_addM (me_slice (mv 1) po_none (mo_some (mv 2))) (me_slice (mv 1) (mo_some (pe_op op_addM (mv 2) me_int)) po_none)) (pa_cons (pe_op op_addM (pe_op op_addM (me_slice (mv 1) po_none (mo_some (mv 2))) (mv 4)) (me_slice (mv 1) (mo_some (mv 2)) po_none)) (pa_cons (pe_op op_addM (pe_op op_addM (me_slice (mv 1) po_none (mo_some (mv 2))) (mv 4)) (me_slice (mv 1) (mo_some (pe_op op_addM (mv 2) me_int)) po_none)) (pa_cons (me_revS (mv 1)) pa_nil))))))
  (pss_cons (ps_set (i := 5) nd rfl (by first | exact Or.inl rfl | exact Or.inr rfl) (pe_op op_addM (mv 5) (pe_lst (pa_cons (pe_op op_addM (mv 1) (mv 1)) (pa_cons (pe_op op_addM (me_slice (mv 1) (mo_some (mv 2)) po_none) (me_slice (mv 1) po_none (mo_some (mv 2)))) (pa_cons (me_slice (mv 1) (mo_some (mv 2)) (mo_some (mv 3))) pa_nil))))))
  (pss_cons (ps_set (i := 6) nd rfl (by first | exact Or.inl rfl | exact Or.inr rfl) (me_revS (me_slice (mv 1) (mo_some (mv 2)) (mo_some (pe_op op_addM (mv 2) me_int)))))
  (pss_one (ps_ret (pe_op op_addM (mv 5) (pe_lst (pa_cons (pe_op op_addM (pe_op op_addM (me_slice (mv 1) po_none (mo_some (mv 2))) (mv 6)) (me_slice (mv 1) (mo_some (pe_op op_addM (mv 2) me_int)) po_none)) pa_nil))))))))))), pu vs H Q E h⟩
abbrev s__law_refused : Stmt := top 24
theorem sc__law_refused : FnScope N__law_refused ["_law_thing"] (defScope s__law_refused) := ⟨rfl, rfl, rfl, by decide +kernel, rfl, by decide +kernel, by decide +kernel⟩
theorem ok__law_refused {k : Nat} {sp : Sp} {sp_size : Sp} {sp_height : Sp} {sp_leaves : Sp} {sp_nodes : Sp} {sp_is_tree : Sp} {k_is_tree : Nat} {p_is_tree : List Str} {a_size : Addr} {k_size__v : Nat} {p_size__v : List Str} {a_height : Addr} {k_height__v : Nat} {p_height__v : List Str} {a_leaves : Addr} {k_leaves__v : Nat} {p_leaves__v : List Str} {a_nodes : Addr} {k_nodes__v : Nat} {p_nodes__v : List Str} {a_TurnError : Addr} {a_InvalidTree : Addr} (F : FunD K "_law_refused" "_law_refused" (defArgs s__law_refused) (defBody s__law_refused) (defScope s__law_refused) [] [] f fd) (T : Tx K mg) (C_is_tree : CalG P w K mg base CX0 "is_tree" k_is_tree p_is_tree [] sp_is_tree) (V_size : CalV P w K mg base (L2.CX P w) "size" k_size__v p_size__v sp_size a_size) (V_height : CalV P w K mg base (L2.CX P w) "height" k_height__v p_height__v sp_height a_height) (V_leaves : CalV P w K mg base (L2.CX P w) "leaves" k_leaves__v p_leaves__v sp_leaves a_leaves) (V_nodes : CalV P w K mg base (L2.CX P w) "nodes" k_nodes__v p_nodes__v sp_nodes a_nodes) (G_TurnError : mg "TurnError" = some (.ref a_TurnError)) (X_InvalidTree : ExcAt P w K mg "InvalidTree" "value" a_InvalidTree) (l_is_tree : k_is_tree ≤ k) (l_size__v : k_size__v ≤ k) (l_height__v : k_height__v ≤ k) (l_leaves__v : k_leaves__v ≤ k) (l_nodes__v : k_nodes__v ≤ k)
    (len : ∀ vs H Q E, sp vs H Q E → vs.length = 1) (pu : ∀ vs H Q E, sp vs H Q E → rd__law_refused K sp_size sp_height sp_leaves sp_nodes sp_is_tree a_TurnError a_InvalidTree a_size a_height a_leaves a_nodes { nx := fun _ H' => Q .non H', rt := Q } (start N__law_refused vs) H) :
    FnG P w K mg base CX0 (k + 1) f fd ["_law_thing"] sp :=
  okG F sc__law_refused len fun cdv A outer s H vs Q E hr h => ⟨rd__law_refused K sp_size sp_height sp_leaves sp_nodes sp_is_tree a_TurnError a_InvalidTree a_size a_height a_leaves a_nodes, PSs.nox (
    have nd := sc__law_refused.nd
    let N := N__law_refused
    let scope := defScope s__law_refused
    (pss_cons (ms_for PassesOwn.never rfl (pi_rng1M (by rfl) T.f_range me_int) (pg_name (i := 1) nd rfl (by first | exact Or.inl rfl | exact Or.inr rfl)) (pss_cons (ps_set (i := 2) nd rfl (by first | exact Or.inl rfl | exact Or.inr rfl) me_non)
  (pss_cons (ms_try (i := 3) (j := 2) (tb := fun W => (tDrop (tCallV [(.ref a_size, sp_size), (.ref a_height, sp_height), (.ref a_leaves, sp_leaves), (.ref a_nodes, sp_nodes)] W (tOp (mIx K) (tLst (tCons (mC (.ref a_size)) (tCons (mC (.ref a_height)) (tCons (mC (.ref a_leaves)) (tCons (mC (.ref a_nodes)) tNil))))) (mVar 1)) (tCons (mVar 0) tNil)))) rfl rfl rfl nd rfl rfl ⟨by rfl, by decide, Or.inl G_TurnError⟩ (fun W pn xe tk po => (pss_one (ps_expr (me_callVS (k := k) (.cons (V_size.mono l_size__v) (.cons (V_height.mono l_height__v) (.cons (V_leaves.mono l_leaves__v) (.cons (V_nodes.mono l_nodes__v) .nil)))) hr (me_ix (pe_lst (pa_cons (pe_glob (by rfl) V_size.g rfl) (pa_cons (pe_glob (by rfl) V_height.g rfl) (pa_cons (pe_glob (by rfl) V_leaves.g rfl) (pa_cons (pe_glob (by rfl) V_nodes.g rfl) pa_nil))))) (mv 1) (fun _ _ => rfl)) tk (pa_cons (mv 0) pa_nil))))) (fun a oe pn hf => pss_one (ps_set (i := 2) nd rfl (by first | exact Or.inl rfl | exact Or.inr rfl) (mv 3))))
  (pss_cons (ps_if (mt_val (pe_callB call_isiM (by rfl) T.f_isinstance (by decide +kernel) (pa_cons (mv 0) (pa_cons (me_ty "list" (by rfl) T.f_list (by decide +kernel)) pa_nil)))) (pss_one (ps_expr (me_append (mv 0) (me_str [109, 111, 114, 101] (by rfl))))) pss_nil)
  (pss_one (ps_if (PW.pt (pw_or (pt_not (mt_val (pe_callB call_isiE (by rfl) T.f_isinstance (by decide +kernel) (pa_cons (mv 2) (pa_cons (pe_glob (by rfl) X_InvalidTree.gC rfl) pa_nil))))) (pw_or1 (mt_cmp (op_neM hr.units) (pe_callB (call_reprM hr) (by rfl) T.f_repr (by decide +kernel) (pa_cons (me_fld (mv 2)) pa_nil)) (pe_callB (call_reprM hr) (by rfl) T.f_repr (by decide +kernel) (pa_cons (mv 0) pa_nil)) (by rfl))))) (pss_one (ps_ret me_bl)) pss_nil))))))
  (pss_one (ps_ret (pe_cmpR op_isM (me_callG C_is_tree (hr.mono l_is_tree) (by rfl) pass0 (pa_cons (mv 0) pa_nil)) me_bl (by rfl)))))), pu vs H Q E h⟩
abbrev s__law_told_right : Stmt := top 25
theorem sc__law_told_right : FnScope N__law_told_right ["_law_tree_here"] (defScope s__law_told_right) := ⟨rfl, rfl, rfl, by decide +kernel, rfl, by decide +kernel, by decide +kernel⟩
theorem ok__law_told_right {k : Nat} {sp : Sp} {sp__law_parsed : Sp} {sp__law_nodes : Sp} {sp__law_leaves : Sp} {sp_nodes : Sp} {sp_leaves : Sp} {sp_is_tree : Sp} {sp_height : Sp} {sp__law_high : Sp} {sp_size : Sp} {k__law_parsed : Nat} {p__law_parsed : List Str} {k__law_nodes : Nat} {p__law_nodes : List Str} {k__law_leaves : Nat} {p__law_leaves : List Str} {k_nodes : Nat} {p_nodes : List Str} {k_leaves : Nat} {p_leaves : List Str} {k_is_tree : Nat} {p_is_tree : List Str} {k_height : Nat} {p_height : List Str} {k__law_high : Nat} {p__law_high : List Str} {k_size : Nat} {p_size : List Str} (F : FunD K "_law_told_right" "_law_told_right" (defArgs s__law_told_right) (defBody s__law_told_right) (defScope s__law_told_right) [] [] f fd) (T : Tx K mg) (C__law_parsed : CalG P w K mg base CX0 "_law_parsed" k__law_parsed p__law_parsed [] sp__law_parsed) (C__law_nodes : CalG P w K mg base CX0 "_law_nodes" k__law_nodes p__law_nodes [] sp__law_nodes) (C__law_leaves : CalG P w K mg base CX0 "_law_leaves" k__law_leaves p__law_leaves [] sp__law_leaves) (C_nodes : CalG P w K mg base (L2.CX P w) "nodes" k_nodes p_nodes [] sp_nodes) (C_leaves : CalG P w K mg base (L2.CX P w) "leaves" k_leaves p_leaves [] sp_leaves) (C_is_tree : CalG P w K mg base CX0 "is_tree" k_is_tree p_is_tree [] sp_is_tree) (C_height : CalG P w K mg base (L2.CX P w) "height" k_height p_height [] sp_height) (C__law_high : CalG P w K mg base CX0 "_law_high" k__law_high p__law_high [] sp__law_high) (C_size : CalG P w K mg base (L2.CX P w) "size" k_size p_size [] sp_size) (l__law_parsed : k__law_parsed ≤ k) (l__law_nodes : k__law_nodes ≤ k) (l__law_leaves : k__law_leaves ≤ k) (l_nodes : k_nodes ≤ k) (l_leaves : k_leaves ≤ k) (l_is_tree : k_is_tree ≤ k) (l_height : k_height ≤ k) (l__law_high : k__law_high ≤ k) (l_size : k_size ≤ k)
    (len : ∀ vs H Q E, sp vs H Q E → vs.length = 1) (pu : ∀ vs H Q E, sp vs H Q E → rd__law_told_right K sp__law_parsed sp__law_nodes sp__law_leaves sp_nodes sp_leaves sp_is_tree sp_height sp__law_high sp_size { nx := fun _ H' => Q .non H', rt := Q } (start N__law_told_right vs) H) :
    FnG P w K mg base CX0 (k + 1) f fd ["_law_tree_here"] sp :=
  okG F sc__law_told_right len fun cdv A outer s H vs Q E hr h => ⟨rd__law_told_right K sp__law_parsed sp__law_nodes sp__law_leaves sp_nodes sp_leaves sp_is_tree sp_height sp__law_high sp_size, PSs.nox (
    have nd := sc__law_told_right.nd
    let N := N__law_told_right
    let scope := defScope s__law_told_right
    (pss_cons (ps_set (i := 1) nd rfl (by first | exact Or.inl rfl | exact Or.inr rfl) (me_callG C__law_parsed (hr.mono l__law_parsed) (by rfl) pass0 (pa_cons (mv 0) pa_nil)))
  (pss_cons (ps_set (i := 2) nd rfl (by first | exact Or.inl rfl | exact Or.inr rfl) (pe_lst (pa_cons (me_callG C__law_leaves (hr.mono l__law_leaves) (by rfl) pass0 (pa_cons (mv 1) (pa_cons (me_str [] (by rfl)) pa_nil))) (pa_cons (me_callG C__law_nodes (hr.mono l__law_nodes) (by rfl) pass0 (pa_cons (mv 1) (pa_cons (me_str [] (by rfl)) pa_nil))) pa_nil))))
  (pss_cons (ms_for PassesOwn.never rfl (pi_rng1M (by rfl) T.f_range me_int) (pg_name (i := 3) nd rfl (by first | exact Or.inl rfl | exact Or.inr rfl)) (pss_cons (ps_set (i := 4) nd rfl (by first | exact Or.inl rfl | exact Or.inr rfl) (pe_lst (pa_cons (me_callG C_leaves (hr.mono l_leaves) (by rfl) passF (pa_cons (mv 0) pa_nil)) (pa_cons (me_callG C_nodes (hr.mono l_nodes) (by rfl) passF (pa_cons (mv 0) pa_nil)) pa_nil))))
  (pss_cons (ps_if (PW.pt (pw_or (mt_cmp (op_neM hr.units) (mv 4) (mv 2) (by rfl)) (pw_or (mt_cmp (op_neM hr.units) (me_callG C_size (hr.mono l_size) (by rfl) passF (pa_cons (mv 0) pa_nil)) (pe_callB call_lenM (by rfl) T.f_len (by decide +kernel) (pa_cons (me_ix (mv 2) me_int (fun _ _ => rfl)) pa_nil)) (by rfl)) (pw_or (mt_cmp (op_neM hr.units) (me_callG C_height (hr.mono l_height) (by rfl) passF (pa_cons (mv 0) pa_nil)) (me_callG C__law_high (hr.mono l__law_high) (by rfl) pass0 (pa_cons (mv 1) pa_nil)) (by rfl)) (pw_or1 (pt_not (mt_val (me_callG C_is_tree (hr.mono l_is_tree) (by rfl) pass0 (pa_cons (mv 0) pa_nil))))))))) (pss_one (ps_ret me_bl)) pss_nil)
  (pss_cons (ps_expr (me_append (me_ix (mv 4) me_int (fun _ _ => rfl)) (me_str [] (by rfl))))
  (pss_one (ps_expr (me_clear (me_ix (mv 4) me_int (fun _ _ => rfl)))))))))
  (pss_one (ps_ret me_bl)))))), pu vs H Q E h⟩
abbrev s_law : Stmt := top 26
theorem sc_law : FnScope N_law ["_law_script"] (defScope s_law) := ⟨rfl, rfl, rfl, by decide +kernel, rfl, by decide +kernel, by decide +kernel⟩
theorem ok_law {k : Nat} {sp : Sp} {sp__law_generator : Sp} {sp__law_random : Sp} {sp__law_tree : Sp} {sp__law_told_right : Sp} {sp_size : Sp} {sp__law_bent : Sp} {sp__law_end : Sp} {sp_is_tree : Sp} {sp__law_refused : Sp} {k__law_generator : Nat} {p__law_generator : List Str} {k__law_random : Nat} {p__law_random : List Str} {k__law_tree : Nat} {p__law_tree : List Str} {k__law_told_right : Nat} {p__law_told_right : List Str} {k_size : Nat} {p_size : List Str} {k__law_bent : Nat} {p__law_bent : List Str} {k__law_end : Nat} {p__law_end : List Str} {k_is_tree : Nat} {p_is_tree : List Str} {k__law_refused : Nat} {p__law_refused : List Str} (F : FunD K "law" "law" (defArgs s_law) (defBody s_law) (defScope s_law) [] [] f fd) (T : Tx K mg) (C__law_generator : CalG P w K mg base CX0 "_law_generator" k__law_generator p__law_generator [] sp__law_generator) (C__law_random : CalG P w K mg base CX0 "_law_random" k__law_random p__law_random [] sp__law_random) (C__law_tree : CalG P w K mg base CX0 "_law_tree" k__law_tree p__law_tree [] sp__law_tree) (C__law_told_right : CalG P w K mg base CX0 "_law_told_right" k__law_told_right p__law_told_right [] sp__law_told_right) (C_size : CalG P w K mg base (L2.CX P w) "size" k_size p_size [] sp_size) (C__law_bent : CalG P w K mg base CX0 "_law_bent" k__law_bent p__law_bent [] sp__law_bent) (C__law_end : CalG P w K mg base CX0 "_law_end" k__law_end p__law_end [] sp__law_end) (C_is_tree : CalG P w K mg base CX0 "is_tree" k_is_tree p_is_tree [] sp_is_tree) (C__law_refused : CalG P w K mg base CX0 "_law_refused" k__law_refused p__law_refused [] sp__law_refused) (l__law_generator : k__law_generator ≤ k) (l__law_random : k__law_random ≤ k) (l__law_tree : k__law_tree ≤ k) (l__law_told_right : k__law_told_right ≤ k) (l_size : k_size ≤ k) (l__law_bent : k__law_bent ≤ k) (l__law_end : k__law_end ≤ k) (l_is_tree : k_is_tree ≤ k) (l__law_refused : k__law_refused ≤ k)
    (len : ∀ vs H Q E, sp vs H Q E → vs.length = 1) (pu : ∀ vs H Q E, sp vs H Q E → rd_law K sp__law_generator sp__law_random sp__law_tree sp__law_told_right sp_size sp__law_bent sp__law_end sp_is_tree sp__law_refused { nx := fun _ H' => Q .non H', rt := Q } (start N_law vs) H) :
    FnG P w K mg base CX0 (k + 1) f fd ["_law_script"] sp :=
  okG F sc_law len fun cdv A outer s H vs Q E hr h => ⟨rd_law K sp__law_generator sp__law_random sp__law_tree sp__law_told_right sp_size sp__law_bent sp__law_end sp_is_tree sp__law_refused, PSs.nox (
    have nd := sc_law.nd
    let N := N_law
    let scope := defScope s_law
    (pss_cons (ms_for PassesOwn.never rfl (pi_rng1M (by rfl) T.f_range me_int) (pg_name (i := 1) nd rfl (by first | exact Or.inl rfl | exact Or.inr rfl)) (pss_cons (ps_set (i := 2) nd rfl (by first | exact Or.inl rfl | exact Or.inr rfl) (me_callG C__law_generator (hr.mono l__law_generator) (by rfl) pass0 (pa_cons (mv 0) (pa_cons (mv 1) pa_nil))))
  (pss_cons (ps_set (i := 3) nd rfl (by first | exact Or.inl rfl | exact Or.inr rfl) (me_callG C__law_random (hr.mono l__law_random) (by rfl) pass0 (pa_cons (mv 2) (pa_cons (me_ix (pe_lst (pa_cons me_int (pa_cons me_int (pa_cons me_int (pa_cons me_int pa_nil))))) (me_callG C__law_random (hr.mono l__law_random) (by rfl) pass0 (pa_cons (mv 2) (pa_cons me_int pa_nil))) (fun _ _ => rfl)) pa_nil))))
  (pss_cons (ps_set (i := 4) nd rfl (by first | exact Or.inl rfl | exact Or.inr rfl) (me_callG C__law_tree (hr.mono l__law_tree) (by rfl) pass0 (pa_cons (mv 2) (pa_cons (mv 3) pa_nil))))
  (pss_cons (ps_if (PW.pt (pw_or (mt_cmp (op_neM hr.units) (me_callG C_size (hr.mono l_size) (by rfl) passF (pa_cons (mv 4) pa_nil)) (mv 3) (by rfl)) (pw_or1 (pt_not (mt_val (me_callG C__law_told_right (hr.mono l__law_told_right) (by rfl) pass0 (pa_cons (mv 4) pa_nil))))))) (pss_one (ps_ret me_bl)) pss_nil)
  (pss_one (ms_for PassesOwn.never rfl (pi_iterM (me_callG C__law_bent (hr.mono l__law_bent) (by rfl) pass0 (pa_cons (mv 2) (pa_cons (mv 4) pa_nil)))) (pg_name (i := 5) nd rfl (by first | exact Or.inl rfl | exact Or.inr rfl)) (pss_cons (ps_if (mt_cmp (op_neM hr.units) (pe_cmpR (op_eqM hr.units) (me_callG C__law_end (hr.mono l__law_end) (by rfl) pass0 (pa_cons (mv 5) (pa_cons me_int pa_nil))) (pe_callB call_lenM (by rfl) T.f_len (by decide +kernel) (pa_cons (mv 5) pa_nil)) (by rfl)) (me_callG C_is_tree (hr.mono l_is_tree) (by rfl) pass0 (pa_cons (mv 5) pa_nil)) (by rfl)) (pss_one (ps_ret me_bl)) pss_nil)
  (pss_one (ps_if (PW.pt (pw_and (pt_not (mt_val (me_callG C_is_tree (hr.mono l_is_tree) (by rfl) pass0 (pa_cons (mv 5) pa_nil)))) (pw_and1 (pt_not (mt_val (me_callG C__law_refused (hr.mono l__law_refused) (by rfl) pass0 (pa_cons (mv 5) pa_nil))))))) (pss_one (ps_ret me_bl)) pss_nil))))))))))
  (pss_cons (ps_set (i := 6) nd rfl (by first | exact Or.inl rfl | exact Or.inr rfl) (pe_lst (pa_cons (me_str [] (by rfl)) (pa_cons (me_str [32, 46] (by rfl)) (pa_cons (me_str [40] (by rfl)) (pa_cons (me_str [41] (by rfl)) (pa_cons (me_str [40, 40, 46, 46, 41] (by rfl)) (pa_cons (me_str [40, 46, 46, 41, 41] (by rfl)) (pa_cons (me_str [40, 46, 41] (by rfl)) (pa_cons (me_str [40, 46, 46, 46, 41] (by rfl)) (pa_cons (me_str [40, 46, 46, 41, 32] (by rfl)) (pa_cons (me_str [40, 46, 46, 41, 10] (by rfl)) (pa_cons (me_str [32, 40, 46, 46, 41] (by rfl)) (pa_cons (me_str [40, 32, 46, 46, 41] (by rfl)) (pa_cons (me_str [40, 46, 46] (by rfl)) (pa_cons (me_str [46, 46, 41] (by rfl)) pa_nil))))))))))))))))
  (pss_cons (ps_set (i := 6) nd rfl (by first | exact Or.inl rfl | exact Or.inr rfl) (pe_op op_addM (mv 6) (pe_lst (pa_cons (pe_op op_mulM (me_str [40] (by rfl)) me_int) (pa_cons (pe_op op_addM (pe_op op_mulM (me_str [40] (by rfl)) me_int) (pe_op op_mulM (me_str [46] (by rfl)) me_int)) (pa_cons (pe_op op_mulM (me_str [40, 46] (by rfl)) me_int) (pa_cons (pe_op op_mulM (me_str [46] (by rfl)) me_int) (pa_cons (pe_op op_mulM (me_str [41] (by rfl)) me_int) pa_nil))))))))
  (pss_cons (ms_for PassesOwn.never rfl (pi_iterM (pe_op op_addM (mv 6) (pe_lst (pa_cons me_non (pa_cons me_bl (pa_cons me_int (pa_cons me_int (pa_cons (pe_lst pa_nil) (pa_cons (pe_lst (pa_cons (me_str [46] (by rfl)) pa_nil)) (pa_cons (pe_tup pa_nil) (pa_cons (pe_tup (pa_cons (me_str [46] (by rfl)) (pa_cons (me_str [46] (by rfl)) pa_nil))) (pa_cons pe_dnewK pa_nil)))))))))))) (pg_name (i := 7) nd rfl (by first | exact Or.inl rfl | exact Or.inr rfl)) (pss_one (ps_if (pt_not (mt_val (me_callG C__law_refused (hr.mono l__law_refused) (by rfl) pass0 (pa_cons (mv 7) pa_nil)))) (pss_one (ps_ret me_bl)) pss_nil)))
  (pss_one (ps_ret me_bl))))))), pu vs H Q E h⟩
end
end Pf
namespace Pf
open PySem PySem.Spec PyProof.Rows L2 M
local macro_rules | `(tactic| walk_at "go") => `(tactic| try simp only [tSeq, tIfS, tIf, tNot, mTest, tCB, tCons, tNil, mVar, M.gt, mC, Bool.not_true, Bool.not_false, Bool.false_eq_true, if_false, if_true, tNext, tAsg, gName, gSub, List.set_cons_zero, List.set_cons_succ, mFor, mIter, mRevS, S_cps, S_len, S_app, tOp, tSl, mPart, mUn, tNoPart, tRet, tRetN, tTup, tLst, tAnd, tOr, mAndV, mOrV, mNotV, tCall, tCallSD, tDrop, mPar, mPar3, mLstM, mStrM, mBits, mRng1, mRng2, mgTup, mgSeq, mgCons, mgNil, q_add1, q_add2, q_add3, q_add4, q_iadd1, q_iadd2, q_iadd3, q_sorted, q_sub, q_mul1, q_mul2, q_mul3, q_mod, q_div, q_pow, q_eq1, q_eq2, q_eq3, q_eq4, q_eq5, q_eq6, q_eq7, q_eq8, q_eq9, q_eq10, q_ne1, q_ne2, q_ne3, q_ne9, q_ne10, q_lt, q_le, q_gt, q_ge, q_inc1, q_ix1, q_ix2, q_sl1, q_sl2, q_set, q_len1, q_len2, q_int1, q_int2, q_max, q_min, q_abs, q_sum, q_list, q_isi1, q_is1, q_not1, q_isN1, q_isN2, q_isN3, q_isN4, q_join, q_count, q_split, q_app, q_pop, q_clear, q_isiE, q_repr, wipe, List.map_cons, List.map_nil, List.length_cons, List.length_nil, List.length_append, List.length_map, List.nil_append, List.cons_append, List.append_nil, cut_m3, cut_t3, cut_m1, cut_t1, cut_t2, S_eq, decide_eq_true_eq, Bool.not_eq_true', decide_eq_false_iff_not, ne_eq])
def sp__law_cell (K : PySem.W.Frag) : Sp := fun vs H Q _ => ∃ (a : Addr) (ns : List Int) (i : Nat), vs = [.ref a, .int i] ∧ SqL K H a (ns.map V.int) ∧ ∀ r : Int, Q (.int r) H
theorem pu__law_cell (K : PySem.W.Frag) (vs : List V) (H : Hp) (Q : VK) (E : XK) (h : sp__law_cell K vs H Q E) : rd__law_cell K { nx := fun _ H' => Q .non H', rt := Q } (L2.start N__law_cell vs) H := by
  obtain ⟨a, ns, i, rfl, hL, k⟩ := h
  show rd__law_cell K _ [some _, some _] H
  unfold rd__law_cell
  walk_at "go"
  refine ⟨_, .inl hL, ?_⟩
  by_cases c : (i : Int) < ((ns.map V.int).length : Int)
  · rw [if_pos c]
    have hc : i < ns.length := by simpa using c
    refine ⟨_, .int ns[i], .inl hL, ?_, k _⟩
    rw [aI_nat]; simp [hc]
  · rw [if_neg c]; exact k 0
def sp__law_hash : Sp := fun vs H Q _ => ∃ i j : Int, vs = [.int i, .int j] ∧ 0 ≤ i ∧ i < 2 ^ 40 ∧ 0 ≤ j ∧ j < 2 ^ 200 ∧ ∀ r : Int, 0 ≤ r → r < 2147483587 → Q (.int r) H
theorem pu__law_hash (K : PySem.W.Frag) (vs : List V) (H : Hp) (Q : VK) (E : XK) (h : sp__law_hash vs H Q E) : rd__law_hash K { nx := fun _ H' => Q .non H', rt := Q } (L2.start N__law_hash vs) H := by
  obtain ⟨i, j, rfl, h1, h2, h3, h4, k⟩ := h
  show rd__law_hash K _ [some _, some _, none] H
  unfold rd__law_hash
  walk_at "go"
  have m1 : ∀ x : Int, 0 ≤ x % 2147483647 ∧ x % 2147483647 < 2 ^ 31 := fun x => ⟨Int.emod_nonneg _ (by decide), Int.lt_of_lt_of_le (Int.emod_lt_of_pos _ (by decide)) (by decide)⟩
  have m2 : ∀ x : Int, 0 ≤ x % 2147483629 ∧ x % 2147483629 < 2 ^ 31 := fun x => ⟨Int.emod_nonneg _ (by decide), Int.lt_of_lt_of_le (Int.emod_lt_of_pos _ (by decide)) (by decide)⟩
  refine ⟨mulOk 40 31 h1 h2 (by decide) (by decide), mulOk 20 200 (by decide) (by decide) h3 h4, ?_, by decide, mulOk 31 31 (m1 _).1 (m1 _).2 (m1 _).1 (m1 _).2, by decide, mulOk 31 31 (m2 _).1 (m2 _).2 (by decide) (by decide), by decide, k _ (Int.emod_nonneg _ (by decide)) (Int.emod_lt_of_pos _ (by decide))⟩
  refine mulOk 220 200 (Int.mul_nonneg (by decide) h3) ?_ h3 h4
  calc 7919 * j ≤ 7919 * 2 ^ 200 := Int.mul_le_mul_of_nonneg_left (Int.le_of_lt h4) (by decide)
    _ < 2 ^ 220 := by decide
def sp__law_generator (K : PySem.W.Frag) : Sp := fun vs H Q _ => ∃ (a : Addr) (ns : List Int) (i : Nat), vs = [.ref a, .int i] ∧ SqL K H a (ns.map V.int) ∧ i ≤ 1000 ∧ ∀ p o, H p = none → Pu (upd H p o) p 2000000 → Q (.ref p) (upd H p o)
theorem pu__law_generator (K : PySem.W.Frag) (vs : List V) (H : Hp) (Q : VK) (E : XK) (h : sp__law_generator K vs H Q E) : rd__law_generator K (sp__law_cell K) { nx := fun _ H' => Q .non H', rt := Q } (L2.start N__law_generator vs) H := by
  obtain ⟨a, ns, i, rfl, hL, hi, k⟩ := h
  show rd__law_generator K _ _ [some _, some _, none] H
  unfold rd__law_generator
  walk_at "go"
  refine ⟨a, ns, i, rfl, hL, fun r => ?_⟩
  walk_at "go"
  refine ⟨by decide, by decide +kernel, by decide +kernel, by decide, by decide, ?_, by decide, fun p hp => k p _ hp ⟨_, _, _, upd_same, ?_⟩⟩
  · exact mulOk 20 20 (by decide) (by decide) (by omega) (by omega)
  · have e : (((10 : Int) ^ (60 : Int).toNat) ^ (10 : Int).toNat) = 10 ^ 600 := by decide +kernel
    rw [e]
    have e2 : (10 : Int) ^ 600 < 2 ^ 2000 := by decide +kernel
    refine ⟨Int.emod_nonneg _ (by decide +kernel), Int.lt_trans (Int.emod_lt_of_pos _ (by decide +kernel)) e2, Int.emod_nonneg _ (by decide), Int.lt_of_lt_of_le (Int.emod_lt_of_pos _ (by decide)) (by decide), by omega, by omega⟩
def sp__law_random : Sp := fun vs H Q _ => ∃ (g : Addr) (n : Nat) (m : Int), vs = [.ref g, .int m] ∧ 0 < m ∧ m < 2 ^ 200 ∧ n < 2 ^ 100 ∧ Pu H g n ∧ ∀ H' r, Fm [g] H H' → Pu H' g (n + 10) → 0 ≤ r → r < m → Q (.int r) H'
theorem pu__law_random (K : PySem.W.Frag) (vs : List V) (H : Hp) (Q : VK) (E : XK) (h : sp__law_random vs H Q E) : rd__law_random K sp__law_hash { nx := fun _ H' => Q .non H', rt := Q } (L2.start N__law_random vs) H := by
  obtain ⟨g, n, m, rfl, m0, m1, hn, ⟨a, b, c, hg, a0, a1, b0, b1, c0, c1⟩, k⟩ := h
  show rd__law_random K _ _ [some _, some _, none, none] H
  unfold rd__law_random
  walk_at "go"
  refine ⟨_, _, .inl (SqL.of hg), aI_0 _ _, ?_⟩
  walk_at "go"
  by_cases ca : 0 < a
  · rw [if_pos ca]
    refine ⟨_, _, .inl (SqL.of hg), aI_0 _ _, ?_⟩
    walk_at "go"
    refine ⟨m0, _, _, .inl (SqL.of hg), aI_0 _ _, ?_⟩
    walk_at "go"
    refine ⟨divOk 200 m0 m1, _, 0, hg, rfl, ?_⟩
    refine k _ _ (Fm.mut (by simp)) ⟨_, b, c, upd_same, ?_⟩ (Int.emod_nonneg _ (by omega)) (Int.emod_lt_of_pos _ m0)
    refine ⟨Int.ediv_nonneg a0 (by omega), Int.lt_of_le_of_lt (Int.ediv_le_self _ a0) a1, b0, b1, c0, by omega⟩
  · rw [if_neg ca]
    walk_at "go"
    have hb := bits_le (Int.le_of_lt m0) m1
    have hd : ((Builtin.Int.intBits m : Int) / 30) ≤ 6 := by omega
    have hd0 : 0 ≤ ((Builtin.Int.intBits m : Int) / 30) := by omega
    refine ⟨divOk 10 (by decide) (by decide), ⟨by omega, by omega⟩, ?_⟩
    refine (?lp : ∀ (r : List V) (w : Int) (v : Option V) (j : Nat) (c : Int) (H1 : Hp), Fm [g] H H1 → H1 g = some (.lst [.int a, .int b, .int c]) → 0 ≤ c → c < n + j → 0 ≤ w → w < 2 ^ (40 * j + 1) → r.length + j ≤ 7 → fV _ _ _ _ r [some _, some _, some (.int w), v] H1) _ 0 none 0 c H (Fm.refl _ _) hg c0 (by omega) (by decide) (by decide) (by simp [upto]; omega)
    intro r
    induction r with
    | nil =>
      intro w v j c H1 e h1 c0 c1 w0 w1 hl
      simp only [fV]
      walk_at "go"
      refine ⟨trivial, m0, k _ _ e ⟨a, b, c, h1, a0, a1, b0, b1, c0, ?_⟩ (Int.emod_nonneg _ (by omega)) (Int.emod_lt_of_pos _ m0)⟩
      simp only [List.length_nil] at hl; omega
    | cons x r ih =>
      intro w v j c H1 e h1 c0 c1 w0 w1 hl
      simp only [fV]
      walk_at "go"
      refine ⟨trivial, _, _, .inl (SqL.of h1), aI_2 _ _ _ _, ?_⟩
      walk_at "go"
      refine ⟨_, 2, h1, rfl, ?_⟩
      simp only [List.set_cons_zero, List.set_cons_succ]
      refine ⟨?_, _, _, .inl (SqL.of upd_same), aI_1 _ _ _, _, _, .inl (SqL.of upd_same), aI_2 _ _ _ _, ?_⟩
      · refine mulOk 400 40 w0 (Int.lt_of_lt_of_le w1 ?_) (by decide) (by decide)
        exact_mod_cast Nat.pow_le_pow_right (by decide) (by simp only [List.length_cons] at hl; omega)
      · refine ⟨b, c + 1, rfl, b0, Int.lt_of_lt_of_le b1 (by decide), by omega, ?_, fun z z0 z1 => ?_⟩
        · have : (n : Int) < 2 ^ 100 := by exact_mod_cast hn
          simp only [List.length_cons] at hl
          calc c + 1 ≤ (2 : Int) ^ 100 + 8 := by omega
            _ < 2 ^ 200 := by decide
        · walk_at "go"
          refine ih _ _ (j + 1) (c + 1) _ (e.trans (Fm.mut (by simp))) upd_same (by omega) (by omega) ?_ ?_ (by simp only [List.length_cons] at hl; omega)
          · exact Int.add_nonneg (Int.mul_nonneg w0 (by decide)) z0
          · have e1 : (2 : Int) ^ (40 * (j + 1) + 1) = 2 ^ (40 * j + 1) * 2 ^ 40 := by
              rw [show 40 * (j + 1) + 1 = (40 * j + 1) + 40 by omega, Int.pow_add]
            have w2 : w + 1 ≤ 2 ^ (40 * j + 1) := w1
            calc w * 2147483587 + z < w * 2147483587 + 2147483587 := by omega
              _ = (w + 1) * 2147483587 := by rw [Int.add_mul]; omega
              _ ≤ 2 ^ (40 * j + 1) * 2147483587 := Int.mul_le_mul_of_nonneg_right w2 (by decide)
              _ ≤ 2 ^ (40 * j + 1) * 2 ^ 40 := Int.mul_le_mul_of_nonneg_left (by decide) (by omega)
              _ = _ := e1.symm
end Pf

namespace Pf
open PySem PySem.Spec PyProof.Rows L2 M
local macro_rules | `(tactic| walk_at "go") => `(tactic| try simp only [tSeq, tIfS, tIf, tNot, mTest, tCB, tCons, tNil, mVar, M.gt, mC, Bool.not_true, Bool.not_false, Bool.false_eq_true, if_false, if_true, tNext, tAsg, gName, gSub, List.set_cons_zero, List.set_cons_succ, mFor, mIter, mRevS, S_cps, S_len, S_app, tOp, tSl, mPart, mUn, tNoPart, tRet, tRetN, tTup, tLst, tAnd, tOr, mAndV, mOrV, mNotV, tCall, tCallSD, tDrop, mPar, mPar3, mLstM, mStrM, mBits, mRng1, mRng2, mgTup, mgSeq, mgCons, mgNil, q_add1, q_add2, q_add3, q_add4, q_iadd1, q_iadd2, q_iadd3, q_sorted, q_sub, q_mul1, q_mul2, q_mul3, q_mod, q_div, q_pow, q_eq1, q_eq2, q_eq3, q_eq4, q_eq5, q_eq6, q_eq7, q_eq8, q_eq9, q_eq10, q_ne1, q_ne2, q_ne3, q_ne9, q_ne10, q_lt, q_le, q_gt, q_ge, q_inc1, q_ix1, q_ix2, q_sl1, q_sl2, q_set, q_len1, q_len2, q_int1, q_int2, q_max, q_min, q_abs, q_sum, q_list, q_isi1, q_is1, q_not1, q_isN1, q_isN2, q_isN3, q_isN4, q_join, q_count, q_split, q_app, q_pop, q_clear, q_isiE, q_repr, wipe, List.map_cons, List.map_nil, List.length_cons, List.length_nil, List.length_append, List.length_map, List.nil_append, List.cons_append, List.append_nil, cut_m3, cut_t3, cut_m1, cut_t1, cut_t2, S_eq, decide_eq_true_eq, Bool.not_eq_true', decide_eq_false_iff_not, ne_eq])
def sp__law_tree (N : Nat) : Sp := fun vs H Q _ => ∃ (g : Addr) (n m : Nat), vs = [.ref g, .int m] ∧ m < N ∧ m ≤ 2000 ∧ n + 20 * m < 2 ^ 90 ∧ Pu H g n ∧ ∀ H' (t : Tr), t.n = m → Fm [g] H H' → Pu H' g (n + 20 * m) → Q (.str (S t.s)) H'
theorem pu__law_tree (K : PySem.W.Frag) (N : Nat) (vs : List V) (H : Hp) (Q : VK) (E : XK) (h : sp__law_tree (N + 1) vs H Q E) : rd__law_tree K sp__law_random (sp__law_tree N) { nx := fun _ H' => Q .non H', rt := Q } (L2.start N__law_tree vs) H := by
  obtain ⟨g, n, m, rfl, mN, mm, hn, hp, k⟩ := h
  show rd__law_tree K _ _ _ [some _, some _, none] H
  unfold rd__law_tree
  walk_at "go"
  by_cases c : (m : Int) = 0
  · rw [if_pos c]
    walk_at "go"
    exact k H .lf (by show 0 = m; omega) (Fm.refl _ _) (hp.mono (by omega))
  · rw [if_neg c]
    walk_at "go"
    refine ⟨g, n, (m : Int), rfl, by omega, ?_, by omega, hp, fun H1 r e1 p1 r0 r1 => ?_⟩
    · have : (m : Int) ≤ 2000 := by exact_mod_cast mm
      exact Int.lt_of_le_of_lt this (by decide)
    walk_at "go"
    refine ⟨divOk 10 (by decide) (by decide), ?_⟩
    refine ⟨by rw [szl]; omega, fun p hp1 => ⟨g, n + 10, 4, rfl, by decide, by decide, by omega, p1.fm (Ex.new hp1), fun H2 j e2 p2 j0 j1 => ?_⟩⟩
    have hgp : p ≠ g := fun z => by
      obtain ⟨_, _, _, z1, _⟩ := p1
      rw [z, z1] at hp1; cases hp1
    have h2 := e2 p _ (by simpa using hgp) (upd_same (H := H1))
    have e3 : Fm [g] H H2 := e1.trans ((Fm.new hp1).trans e2)
    obtain ⟨j, rfl⟩ := Int.eq_ofNat_of_zero_le j0
    have hj : j < 4 := by omega
    obtain ⟨q, hq, hqm⟩ : ∃ q : Nat, atI [V.int 0, V.int ((m : Int) - 1), V.int r, V.int ((m : Int) / 2)] (j : Int) = some (.int q) ∧ q < m := by
      rcases j with _ | _ | _ | _ | j
      · exact ⟨0, rfl, by omega⟩
      · exact ⟨m - 1, by rw [aI_nat]; show some (V.int _) = _; congr 2; omega, by omega⟩
      · exact ⟨r.toNat, by rw [aI_nat]; show some (V.int _) = _; congr 2; omega, by omega⟩
      · exact ⟨m / 2, by rw [aI_nat]; show some (V.int _) = _; congr 2, by omega⟩
      · omega
    walk_at "go"
    refine ⟨_, _, .inl (SqL.of h2), hq, ?_⟩
    refine ⟨g, n + 10 + 10, q, rfl, by omega, by omega, by omega, p2, fun H3 t1 ht1 e4 p3 => ?_⟩
    walk_at "go"
    have hs1 := t1.s_len
    refine ⟨by rw [szl]; omega, ?_⟩
    refine ⟨g, n + 10 + 10 + 20 * q, m - 1 - q, by congr 3; omega, by omega, by omega, by omega, p3, fun H4 t2 ht2 e5 p4 => ?_⟩
    have hs2 := t2.s_len
    walk_at "go"
    refine ⟨by rw [szl]; omega, by rw [szl]; omega, ?_⟩
    have := k H4 (.nd t1 t2) (by show t1.n + t2.n + 1 = m; omega) (e3.trans (e4.trans e5)) (p4.mono (by omega))
    simpa only [Tr.s, List.append_assoc, List.cons_append, List.nil_append] using this
end Pf

namespace Pf
open PySem PySem.Spec PyProof.Rows L2 M
local macro_rules | `(tactic| walk_at "go") => `(tactic| try simp only [tSeq, tIfS, tIf, tNot, mTest, tCB, tCons, tNil, mVar, M.gt, mC, Bool.not_true, Bool.not_false, Bool.false_eq_true, if_false, if_true, tNext, tAsg, gName, gSub, List.set_cons_zero, List.set_cons_succ, mFor, mIter, mRevS, S_cps, S_len, S_app, tOp, tSl, mPart, mUn, tNoPart, tRet, tRetN, tTup, tLst, tAnd, tOr, mAndV, mOrV, mNotV, tCall, tCallSD, tDrop, mPar, mPar3, mLstM, mStrM, mBits, mRng1, mRng2, mgTup, mgSeq, mgCons, mgNil, q_add1, q_add2, q_add3, q_add4, q_iadd1, q_iadd2, q_iadd3, q_sorted, q_sub, q_mul1, q_mul2, q_mul3, q_mod, q_div, q_pow, q_eq1, q_eq2, q_eq3, q_eq4, q_eq5, q_eq6, q_eq7, q_eq8, q_eq9, q_eq10, q_ne1, q_ne2, q_ne3, q_ne9, q_ne10, q_lt, q_le, q_gt, q_ge, q_inc1, q_ix1, q_ix2, q_sl1, q_sl2, q_set, q_len1, q_len2, q_int1, q_int2, q_max, q_min, q_abs, q_sum, q_list, q_isi1, q_is1, q_not1, q_isN1, q_isN2, q_isN3, q_isN4, q_join, q_count, q_split, q_app, q_pop, q_clear, q_isiE, q_repr, wipe, List.map_cons, List.map_nil, List.length_cons, List.length_nil, List.length_append, List.length_map, List.nil_append, List.cons_append, List.append_nil, cut_m3, cut_t3, cut_m1, cut_t1, cut_t2, S_eq, decide_eq_true_eq, Bool.not_eq_true', decide_eq_false_iff_not, ne_eq])
theorem take_two {α : Type} (L : List α) (a b : α) : (L ++ [a, b]).take ((L ++ [a, b]).length - 2) = L := by simp
theorem lp__law_parsed (K : PySem.W.Frag) (D : Ends) (H : Hp) (x : Option V) : ∀ (t : Tr) (rest : List V) (p : Addr) (H1 : Hp) (L : List V) (v2 : Option V), Ex H H1 → H p = none → H1 p = some (.lst L) → L.length + t.n + 10 ≤ 1000000 →
    (∀ p' H2 v v2', Ex H H2 → H p' = none → Nl H1 H2 → H2 p' = some (.lst (L ++ [v])) → Nst K H2 v t → fV (fun _ => True) (gName 2) (rd__law_parsed_b1 K) D rest [x, some (.ref p'), v2'] H2) →
    fV (fun _ => True) (gName 2) (rd__law_parsed_b1 K) D (t.s.map (fun c => V.str (S [c])) ++ rest) [x, some (.ref p), v2] H1 := by
  intro t
  induction t with
  | lf =>
    intro rest p H1 L v2 e n h hl k
    simp only [Tr.s, List.map_cons, List.map_nil, List.cons_append, List.nil_append, fV]
    walk_at "go"
    refine ⟨trivial, ?_⟩
    rw [if_neg (by decide)]
    walk_at "go"
    refine ⟨⟨_, h⟩, by rw [szl]; omega, fun q hq => ?_⟩
    have hpq : p ≠ q := ne_of_none h hq
    refine ⟨_, (by rw [upd_ne hpq]; exact h), by rw [szl]; omega, ?_⟩
    refine k p _ (.ref q) _ ((Ex.push e hq).mut n) n ?_ upd_same ?_
    · exact (Nl.new hq).trans (Nl.mut (by rw [upd_ne hpq]; exact h))
    · exact .lf (SqT.of (by rw [upd_ne (Ne.symm hpq)]; exact upd_same))
  | nd a b iha ihb =>
    intro rest p H1 L v2 e n h hl k
    simp only [Tr.n] at hl
    simp only [Tr.s, List.map_cons, List.map_append, List.map_nil, List.cons_append, List.append_assoc, List.nil_append, fV]
    walk_at "go"
    refine ⟨trivial, ?_⟩
    rw [if_neg (by decide), if_neg (by decide)]
    walk_at "go"
    refine iha _ p H1 L _ e n h (by omega) fun p1 H2 va v2' e1 n1 m1 h1 ta => ?_
    refine ihb _ p1 H2 _ _ e1 n1 h1 (by rw [List.length_append, List.length_singleton]; omega) fun p2 H3 vb v2'' e2 n2 m2 h2 tb => ?_
    rw [List.append_assoc] at h2
    have h2' : H3 p2 = some (.lst (L ++ [va, vb])) := h2
    simp only [fV]
    walk_at "go"
    refine ⟨trivial, ?_⟩
    refine ⟨_, SqL.of h2', fun q1 hq1 => ?_⟩
    rw [take_two]
    have n21 : p2 ≠ q1 := ne_of_none h2' hq1
    have h3 : upd H3 q1 (.lst L) p2 = some (.lst (L ++ [va, vb])) := by rw [upd_ne n21]; exact h2'
    walk_at "go"
    refine ⟨_, _, .inl (SqL.of h3), aI_m2 _ _ _, _, _, .inl (SqL.of h3), aI_m1' _ _ _, ?_⟩
    walk_at "go"
    refine ⟨by rw [szl]; omega, fun q2 hq2 => ?_⟩
    walk_at "go"
    refine ⟨by rw [szl]; omega, fun q3 hq3 => ?_⟩
    have n13 : q1 ≠ q3 := fun z => by rw [← z, upd_ne (fun y => by rw [← y, upd_same] at hq2; cases hq2), upd_same] at hq3; cases hq3
    have n12 : q1 ≠ q2 := fun y => by rw [← y, upd_same] at hq2; cases hq2
    walk_at "go"
    refine ⟨_, _, by rw [upd_ne n13, upd_ne n12]; exact upd_same, upd_same, by rw [szl, List.length_singleton]; omega, fun q4 hq4 => ?_⟩
    have E4 : Ex H3 (upd (upd (upd (upd H3 q1 (.lst L)) q2 (.tup [va, vb])) q3 (.lst [.ref q2])) q4 (.lst (L ++ [.ref q2]))) := (((Ex.new hq1).push hq2).push hq3).push hq4
    refine k q4 _ (.ref q2) _ (e2.trans E4) (e2.free (Ex.free (((Ex.new hq1).push hq2).push hq3) hq4)) (m1.trans (m2.trans (Nl.ex E4))) upd_same ?_
    have n24 : q2 ≠ q4 := fun z => by rw [← z, upd_ne (fun y => by rw [← y, upd_same] at hq3; cases hq3), upd_same] at hq4; cases hq4
    have n23 : q2 ≠ q3 := fun y => by rw [← y, upd_same] at hq3; cases hq3
    refine .nd (SqT.of (by rw [upd_ne n24, upd_ne n23]; exact upd_same)) ((ta.nl m2).ex E4) (tb.ex E4)
def sp__law_parsed (K : PySem.W.Frag) : Sp := fun vs H Q _ => ∃ t : Tr, vs = [.str (S t.s)] ∧ t.n ≤ 100000 ∧ ∀ H' v, Ex H H' → Nst K H' v t → Q v H'
theorem pu__law_parsed (K : PySem.W.Frag) (vs : List V) (H : Hp) (Q : VK) (E : XK) (h : sp__law_parsed K vs H Q E) : rd__law_parsed K { nx := fun _ H' => Q .non H', rt := Q } (L2.start N__law_parsed vs) H := by
  obtain ⟨t, rfl, hn, k⟩ := h
  show rd__law_parsed K _ [some _, none, none] H
  unfold rd__law_parsed
  walk_at "go"
  refine ⟨by rw [szl]; omega, fun p0 hp0 => ?_⟩
  rw [show t.s.map (fun c => V.str (S [c])) = t.s.map (fun c => V.str (S [c])) ++ [] by simp]
  refine lp__law_parsed K _ H _ t [] p0 _ [] none (Ex.new hp0) hp0 upd_same (by simp; omega) fun p' H2 v v2' e n m h2 ht => ?_
  simp only [fV]
  walk_at "go"
  exact ⟨trivial, _, _, .inl (SqL.of h2), rfl, k _ _ e ht⟩
end Pf

namespace Pf
open PySem PySem.Spec PyProof.Rows L2 M
local macro_rules | `(tactic| walk_at "go") => `(tactic| try simp only [tSeq, tIfS, tIf, tNot, mTest, tCB, tCons, tNil, mVar, M.gt, mC, Bool.not_true, Bool.not_false, Bool.false_eq_true, if_false, if_true, tNext, tAsg, gName, gSub, List.set_cons_zero, List.set_cons_succ, mFor, mIter, mRevS, S_cps, S_len, S_app, tOp, tSl, mPart, mUn, tNoPart, tRet, tRetN, tTup, tLst, tAnd, tOr, mAndV, mOrV, mNotV, tCall, tCallSD, tDrop, mPar, mPar3, mLstM, mStrM, mBits, mRng1, mRng2, mgTup, mgSeq, mgCons, mgNil, q_add1, q_add2, q_add3, q_add4, q_iadd1, q_iadd2, q_iadd3, q_sorted, q_sub, q_mul1, q_mul2, q_mul3, q_mod, q_div, q_pow, q_eq1, q_eq2, q_eq3, q_eq4, q_eq5, q_eq6, q_eq7, q_eq8, q_eq9, q_eq10, q_ne1, q_ne2, q_ne3, q_ne9, q_ne10, q_lt, q_le, q_gt, q_ge, q_inc1, q_ix1, q_ix2, q_sl1, q_sl2, q_set, q_len1, q_len2, q_int1, q_int2, q_max, q_min, q_abs, q_sum, q_list, q_isi1, q_is1, q_not1, q_isN1, q_isN2, q_isN3, q_isN4, q_join, q_count, q_split, q_app, q_pop, q_clear, q_isiE, q_repr, wipe, List.map_cons, List.map_nil, List.length_cons, List.length_nil, List.length_append, List.length_map, List.nil_append, List.cons_append, List.append_nil, cut_m3, cut_t3, cut_m1, cut_t1, cut_t2, S_eq, decide_eq_true_eq, Bool.not_eq_true', decide_eq_false_iff_not, ne_eq])
def sp__law_leaves (K : PySem.W.Frag) (N : Nat) : Sp := fun vs H Q _ => ∃ (v : V) (t : Tr) (road : List Nat), vs = [v, .str (S road)] ∧ Nst K H v t ∧ t.n < N ∧ road.length + t.n ≤ 100000 ∧ ∀ H' p, Ex H H' → H p = none → H' p = some (.lst ((t.lvs road).map fun z => V.str (S z))) → Q (.ref p) H'
theorem pu__law_leaves (K : PySem.W.Frag) (N : Nat) (vs : List V) (H : Hp) (Q : VK) (E : XK) (h : sp__law_leaves K (N + 1) vs H Q E) : rd__law_leaves K (sp__law_leaves K N) { nx := fun _ H' => Q .non H', rt := Q } (L2.start N__law_leaves vs) H := by
  obtain ⟨v, t, road, rfl, ht, hN, hl, k⟩ := h
  obtain ⟨a, rfl⟩ := ht.ref
  show rd__law_leaves K _ _ [some _, some _] H
  unfold rd__law_leaves
  walk_at "go"
  refine ⟨by rw [szl]; omega, fun p hp => ?_⟩
  refine eq_nil (ht.ex (Ex.new hp)) (SqT.of upd_same) ?_
  cases ht with
  | lf h1 =>
    walk_at "go"
    refine ⟨by rw [szl]; omega, fun q hq => ?_⟩
    exact k _ q ((Ex.new hp).push hq) ((Ex.new hp).free hq) upd_same
  | @nd _ l r t u h1 h2 h3 =>
    simp only [Tr.n] at hN hl
    walk_at "go"
    rw [if_neg (by simp)]
    have e1 := Ex.new (o := .tup []) hp
    refine ⟨_, _, .inr (e1.T h1), aI_0 _ _, by rw [szl]; omega, ?_⟩
    refine ⟨l, t, road ++ [108], rfl, h2.ex e1, by omega, by rw [List.length_append, List.length_singleton]; omega, fun H1 p1 e2 n1 r1 => ?_⟩
    walk_at "go"
    have e3 := e1.trans e2
    refine ⟨_, _, .inr (e3.T h1), aI_1 _ _ _, by rw [szl]; omega, ?_⟩
    refine ⟨r, u, road ++ [114], rfl, h3.ex e3, by omega, by rw [List.length_append, List.length_singleton]; omega, fun H2 p2 e4 n2 r2 => ?_⟩
    walk_at "go"
    refine ⟨_, _, e4 _ _ r1, r2, by rw [szl, List.length_map, List.length_map, Tr.lvs_len, Tr.lvs_len]; omega, fun p3 hp3 => ?_⟩
    refine k _ p3 ((e3.trans e4).push hp3) ((e3.trans e4).free hp3) ?_
    rw [upd_same, Tr.lvs, List.map_append]
def sp__law_nodes (K : PySem.W.Frag) (N : Nat) : Sp := fun vs H Q _ => ∃ (v : V) (t : Tr) (road : List Nat), vs = [v, .str (S road)] ∧ Nst K H v t ∧ t.n < N ∧ road.length + t.n ≤ 100000 ∧ ∀ H' p, Ex H H' → H p = none → H' p = some (.lst ((t.nds road).map fun z => V.str (S z))) → Q (.ref p) H'
theorem pu__law_nodes (K : PySem.W.Frag) (N : Nat) (vs : List V) (H : Hp) (Q : VK) (E : XK) (h : sp__law_nodes K (N + 1) vs H Q E) : rd__law_nodes K (sp__law_nodes K N) { nx := fun _ H' => Q .non H', rt := Q } (L2.start N__law_nodes vs) H := by
  obtain ⟨v, t, road, rfl, ht, hN, hl, k⟩ := h
  obtain ⟨a, rfl⟩ := ht.ref
  show rd__law_nodes K _ _ [some _, some _] H
  unfold rd__law_nodes
  walk_at "go"
  refine ⟨by rw [szl]; omega, fun p hp => ?_⟩
  refine eq_nil (ht.ex (Ex.new hp)) (SqT.of upd_same) ?_
  cases ht with
  | lf h1 =>
    walk_at "go"
    refine ⟨by rw [szl]; omega, fun q hq => ?_⟩
    exact k _ q ((Ex.new hp).push hq) ((Ex.new hp).free hq) upd_same
  | @nd _ l r t u h1 h2 h3 =>
    simp only [Tr.n] at hN hl
    walk_at "go"
    rw [if_neg (by simp)]
    have e1 := Ex.new (o := .tup []) hp
    refine ⟨_, _, .inr (e1.T h1), aI_0 _ _, by rw [szl]; omega, ?_⟩
    refine ⟨l, t, road ++ [108], rfl, h2.ex e1, by omega, by rw [List.length_append, List.length_singleton]; omega, fun H1 p1 e2 n1 r1 => ?_⟩
    walk_at "go"
    refine ⟨by rw [szl]; omega, fun q hq => ?_⟩
    walk_at "go"
    have nq : p1 ≠ q := ne_of_none r1 hq
    refine ⟨_, _, by rw [upd_ne nq]; exact r1, upd_same, by rw [szl, List.length_map, Tr.nds_len, List.length_singleton]; omega, fun q2 hq2 => ?_⟩
    have e3 := ((e1.trans e2).push (o := .lst [.str (S road)]) hq).push (o := .lst ((t.nds (road ++ [108])).map (fun z => V.str (S z)) ++ [.str (S road)])) hq2
    walk_at "go"
    refine ⟨_, _, .inr (e3.T h1), aI_1 _ _ _, by rw [szl]; omega, ?_⟩
    refine ⟨r, u, road ++ [114], rfl, h3.ex e3, by omega, by rw [List.length_append, List.length_singleton]; omega, fun H2 p2 e4 n2 r2 => ?_⟩
    walk_at "go"
    refine ⟨_, _, e4 _ _ upd_same, r2, by rw [szl, List.length_append, List.length_map, List.length_map, Tr.nds_len, Tr.nds_len, List.length_singleton]; omega, fun p3 hp3 => ?_⟩
    refine k _ p3 ((e3.trans e4).push hp3) ((e3.trans e4).free hp3) ?_
    rw [upd_same, Tr.nds, List.map_append, List.map_append, List.append_assoc]
    rfl
end Pf

namespace Pf
open PySem PySem.Spec PyProof.Rows L2 M
local macro_rules | `(tactic| walk_at "go") => `(tactic| try simp only [tSeq, tIfS, tIf, tNot, mTest, tCB, tCons, tNil, mVar, M.gt, mC, Bool.not_true, Bool.not_false, Bool.false_eq_true, if_false, if_true, tNext, tAsg, gName, gSub, List.set_cons_zero, List.set_cons_succ, mFor, mIter, mRevS, S_cps, S_len, S_app, tOp, tSl, mPart, mUn, tNoPart, tRet, tRetN, tTup, tLst, tAnd, tOr, mAndV, mOrV, mNotV, tCall, tCallSD, tDrop, mPar, mPar3, mLstM, mStrM, mBits, mRng1, mRng2, mgTup, mgSeq, mgCons, mgNil, q_add1, q_add2, q_add3, q_add4, q_iadd1, q_iadd2, q_iadd3, q_sorted, q_sub, q_mul1, q_mul2, q_mul3, q_mod, q_div, q_pow, q_eq1, q_eq2, q_eq3, q_eq4, q_eq5, q_eq6, q_eq7, q_eq8, q_eq9, q_eq10, q_ne1, q_ne2, q_ne3, q_ne9, q_ne10, q_lt, q_le, q_gt, q_ge, q_inc1, q_ix1, q_ix2, q_sl1, q_sl2, q_set, q_len1, q_len2, q_int1, q_int2, q_max, q_min, q_abs, q_sum, q_list, q_isi1, q_is1, q_not1, q_isN1, q_isN2, q_isN3, q_isN4, q_join, q_count, q_split, q_app, q_pop, q_clear, q_isiE, q_repr, wipe, List.map_cons, List.map_nil, List.length_cons, List.length_nil, List.length_append, List.length_map, List.nil_append, List.cons_append, List.append_nil, cut_m3, cut_t3, cut_m1, cut_t1, cut_t2, S_eq, decide_eq_true_eq, Bool.not_eq_true', decide_eq_false_iff_not, ne_eq])
/-- a value that is no text -/
inductive Oth (K : PySem.W.Frag) (H : Hp) : V → Prop
  | non : Oth K H .non
  | int (i : Int) : Oth K H (.int i)
  | bl (b : Bool) : Oth K H (.bl b)
  | lst {a : Addr} {xs : List V} : SqL K H a xs → Oth K H (.ref a)
  | tup {a : Addr} {xs : List V} : SqT K H a xs → Oth K H (.ref a)
  | dct {a : Addr} {kvs : List (Key × V)} : H a = some (.dK kvs) → Oth K H (.ref a)
theorem Oth.ex {K : PySem.W.Frag} {H H' : Hp} (e : Ex H H') {v : V} (h : Oth K H v) : Oth K H' v := by
  cases h with
  | non => exact .non
  | int i => exact .int i
  | bl b => exact .bl b
  | lst h => exact .lst (e.L h)
  | tup h => exact .tup (e.T h)
  | dct h => exact .dct (e _ _ h)
theorem Oth.isi {K : PySem.W.Frag} {H : Hp} {v : V} {Q : VK} (h : Oth K H v) (q : Q (.bl false) H) : mIsi K [v, .ty "str"] H Q := by
  cases h with
  | non => unfold mIsi; simp only [tyN, kb16]; exact q
  | int i => unfold mIsi; simp only [tyN, kb6]; exact q
  | bl b => unfold mIsi; simp only [tyN, kb11]; exact q
  | lst h => exact ⟨_, _, tyX_list h, ki_list.1, q⟩
  | tup h => exact ⟨_, _, tyX_tup h, ki_tup.1, q⟩
  | dct h => exact ⟨_, _, .base (.dK h), ki_dict.1, q⟩
def TV (K : PySem.W.Frag) (H : Hp) (v : V) (b : Bool) : Prop := (∃ z, v = .str (S z) ∧ z.length ≤ 1000000 ∧ b = isTr z) ∨ (Oth K H v ∧ b = false)
theorem TV.ex {K : PySem.W.Frag} {H H' : Hp} (e : Ex H H') {v : V} {b : Bool} (h : TV K H v b) : TV K H' v b := h.imp id fun ⟨h1, h2⟩ => ⟨h1.ex e, h2⟩
def sp_is_tree (K : PySem.W.Frag) : Sp := fun vs H Q _ => ∃ v b, vs = [v] ∧ TV K H v b ∧ ∀ H', Ex H H' → Q (.bl b) H'
theorem pu_is_tree (K : PySem.W.Frag) (vs : List V) (H : Hp) (Q : VK) (E : XK) (h : sp_is_tree K vs H Q E) : rd_is_tree K { nx := fun _ H' => Q .non H', rt := Q } (L2.start N_is_tree vs) H := by
  obtain ⟨v, b, rfl, ⟨z, rfl, hz, rfl⟩ | ⟨ho, rfl⟩, k⟩ := h
  · show rd_is_tree K _ [some _, none, none] H
    unfold rd_is_tree
    walk_at "go"
    refine (?lp : ∀ (r w : List Nat) (v : Option V) (H1 : Hp), Ex H H1 → (isTr z = true ↔ itRun w r = some [46]) → w.length + r.length ≤ z.length → fV _ _ _ _ (List.map (fun c => V.str (S [c])) r) [some (V.str (S z)), some (V.str (S w)), v] H1) z [] none H (Ex.refl H) (by unfold isTr; exact decide_eq_true_iff) (by simp)
    intro r
    induction r with
    | nil =>
      intro w v H1 e hi hl
      simp only [List.map_nil, fV]
      walk_at "go"
      refine ⟨trivial, ?_⟩
      have e2 : isTr z = decide (w = [46]) := by
        rw [Bool.eq_iff_iff, hi, decide_eq_true_iff]
        simp [itRun]
      have := k H1 e
      rw [e2] at this
      exact this
    | cons c r ih =>
      intro w v H1 e hi hl
      simp only [List.length_cons] at hl
      simp only [List.map_cons, fV]
      walk_at "go"
      simp only [itRun] at hi
      refine ⟨trivial, ?_⟩
      by_cases c1 : [c] = [41]
      · rw [if_pos c1]
        simp only [List.cons.injEq, and_true] at c1
        subst c1
        refine ⟨by rw [szl]; omega, ?_⟩
        by_cases c2 : w.drop (w.length - 3) = [40, 46, 46]
        · have e1 : itStep w 41 = some (w.take (w.length - 3) ++ [46]) := by unfold itStep; rw [if_pos rfl, if_pos c2]
          rw [e1, Option.bind_some] at hi
          rw [if_neg (by simpa using c2)]
          walk_at "go"
          refine ⟨by rw [szl]; omega, by rw [szl, List.length_take]; omega, ?_⟩
          exact ih _ _ _ e hi (by rw [List.length_append, List.length_take, List.length_singleton]; omega)
        · have e1 : itStep w 41 = none := by unfold itStep; rw [if_pos rfl, if_neg c2]
          rw [e1] at hi
          rw [if_pos (by simpa using c2)]
          walk_at "go"
          have e2 : isTr z = false := by rw [Bool.eq_false_iff, Ne, hi]; simp
          have := k H1 e
          rw [e2] at this
          exact this
      · rw [if_neg c1]
        simp only [List.cons.injEq, and_true] at c1
        walk_at "go"
        unfold mInTT
        walk_at "go"
        refine ⟨rfl, rfl, by rw [szl]; omega, fun p hp => ?_⟩
        by_cases c2 : c = 40 ∨ c = 46
        · have e1 : itStep w c = some (w ++ [c]) := by unfold itStep; rw [if_neg c1, if_pos c2]
          rw [e1, Option.bind_some] at hi
          have e2 : inV (.str (S [c])) [.str (S [40]), .str (S [46])] = true := by
            simp only [inV_cons, inV_nil, eqV_SS, Bool.or_false, Bool.or_eq_true, decide_eq_true_eq, List.cons.injEq, and_true]
            rcases c2 with rfl | rfl <;> simp
          rw [e2]
          walk_at "go"
          refine ⟨by rw [szl]; omega, ?_⟩
          exact ih _ _ _ (e.push hp) hi (by rw [List.length_append, List.length_singleton]; omega)
        · have e1 : itStep w c = none := by unfold itStep; rw [if_neg c1, if_neg c2]
          rw [e1] at hi
          have e2 : inV (.str (S [c])) [.str (S [40]), .str (S [46])] = false := by
            simp only [inV_cons, inV_nil, eqV_SS, Bool.or_false, Bool.or_eq_false_iff, decide_eq_false_iff_not, List.cons.injEq, and_true]
            exact ⟨fun z => c2 (.inl z.symm), fun z => c2 (.inr z.symm)⟩
          rw [e2]
          walk_at "go"
          have e3 : isTr z = false := by rw [Bool.eq_false_iff, Ne, hi]; simp
          rw [e3] at k
          exact k _ (e.push hp)
  · show rd_is_tree K _ [some _, none, none] H
    unfold rd_is_tree
    walk_at "go"
    refine ho.isi ?_
    walk_at "go"
    exact k H (Ex.refl H)
end Pf

namespace Pf
open PySem PySem.Spec PyProof.Rows L2 M
local macro_rules | `(tactic| walk_at "go") => `(tactic| try simp only [tSeq, tIfS, tIf, tNot, mTest, tCB, tCons, tNil, mVar, M.gt, mC, Bool.not_true, Bool.not_false, Bool.false_eq_true, if_false, if_true, tNext, tAsg, gName, gSub, List.set_cons_zero, List.set_cons_succ, mFor, mIter, mRevS, S_cps, S_len, S_app, tOp, tSl, mPart, mUn, tNoPart, tRet, tRetN, tTup, tLst, tAnd, tOr, mAndV, mOrV, mNotV, tCall, tCallSD, tDrop, mPar, mPar3, mLstM, mStrM, mBits, mRng1, mRng2, mgTup, mgSeq, mgCons, mgNil, q_add1, q_add2, q_add3, q_add4, q_iadd1, q_iadd2, q_iadd3, q_sorted, q_sub, q_mul1, q_mul2, q_mul3, q_mod, q_div, q_pow, q_eq1, q_eq2, q_eq3, q_eq4, q_eq5, q_eq6, q_eq7, q_eq8, q_eq9, q_eq10, q_ne1, q_ne2, q_ne3, q_ne9, q_ne10, q_lt, q_le, q_gt, q_ge, q_inc1, q_ix1, q_ix2, q_sl1, q_sl2, q_set, q_len1, q_len2, q_int1, q_int2, q_max, q_min, q_abs, q_sum, q_list, q_isi1, q_is1, q_not1, q_isN1, q_isN2, q_isN3, q_isN4, q_join, q_count, q_split, q_app, q_pop, q_clear, q_isiE, q_repr, wipe, List.map_cons, List.map_nil, List.length_cons, List.length_nil, List.length_append, List.length_map, List.nil_append, List.cons_append, List.append_nil, cut_m3, cut_t3, cut_m1, cut_t1, cut_t2, S_eq, decide_eq_true_eq, Bool.not_eq_true', decide_eq_false_iff_not, ne_eq])
def sp_check_tree (K : PySem.W.Frag) (a_InvalidTree : Addr) : Sp := fun vs H Q E => ∃ v b, vs = [v] ∧ TV K H v b ∧ (b = true → ∀ H', Ex H H' → Q .non H') ∧ (b = false → ∀ H' d, Ex H H' → H d = none → H' d = some (.xd [("value", v)]) → E (.ref a_InvalidTree) (some d) H')
theorem pu_check_tree (K : PySem.W.Frag) (a : Addr) (vs : List V) (H : Hp) (Q : VK) (E : XK) (h : sp_check_tree K a vs H Q E) : rd_check_tree K (sp_is_tree K) a E { nx := fun _ H' => Q .non H', rt := Q } (L2.start N_check_tree vs) H := by
  obtain ⟨v, b, rfl, tv, k1, k2⟩ := h
  show rd_check_tree K _ _ _ _ [some _] H
  unfold rd_check_tree
  walk_at "go"
  refine ⟨v, b, rfl, tv, fun H1 e => ?_⟩
  cases b with
  | true =>
    walk_at "go"
    exact k1 rfl H1 e
  | false =>
    walk_at "go"
    unfold mRaise mMk
    walk_at "go"
    exact fun d hd => k2 rfl _ d (e.push hd) (e.free hd) upd_same
end Pf

namespace Pf
open PySem PySem.Spec PyProof.Rows L2 M
local macro_rules | `(tactic| walk_at "go") => `(tactic| try simp only [tSeq, tIfS, tIf, tNot, mTest, tCB, tCons, tNil, mVar, M.gt, mC, Bool.not_true, Bool.not_false, Bool.false_eq_true, if_false, if_true, tNext, tAsg, gName, gSub, List.set_cons_zero, List.set_cons_succ, mFor, mIter, mRevS, S_cps, S_len, S_app, tOp, tSl, mPart, mUn, tNoPart, tRet, tRetN, tTup, tLst, tAnd, tOr, mAndV, mOrV, mNotV, tCall, tCallSD, tDrop, mPar, mPar3, mLstM, mStrM, mBits, mRng1, mRng2, mgTup, mgSeq, mgCons, mgNil, q_add1, q_add2, q_add3, q_add4, q_iadd1, q_iadd2, q_iadd3, q_sorted, q_sub, q_mul1, q_mul2, q_mul3, q_mod, q_div, q_pow, q_eq1, q_eq2, q_eq3, q_eq4, q_eq5, q_eq6, q_eq7, q_eq8, q_eq9, q_eq10, q_ne1, q_ne2, q_ne3, q_ne9, q_ne10, q_lt, q_le, q_gt, q_ge, q_inc1, q_ix1, q_ix2, q_sl1, q_sl2, q_set, q_len1, q_len2, q_int1, q_int2, q_max, q_min, q_abs, q_sum, q_list, q_isi1, q_is1, q_not1, q_isN1, q_isN2, q_isN3, q_isN4, q_join, q_count, q_split, q_app, q_pop, q_clear, q_isiE, q_repr, wipe, List.map_cons, List.map_nil, List.length_cons, List.length_nil, List.length_append, List.length_map, List.nil_append, List.cons_append, List.append_nil, cut_m3, cut_t3, cut_m1, cut_t1, cut_t2, S_eq, decide_eq_true_eq, Bool.not_eq_true', decide_eq_false_iff_not, ne_eq])
/-! walked -/
def okP (P : List Nat) : Prop := ∀ c ∈ P, c = 108 ∨ c = 114
theorem okP.okc {P : List Nat} (h : okP P) : okc P := fun c hc => by rcases h c hc with rfl | rfl <;> decide
def turn (P : List Nat) : List Nat := if P.getLast? = some 108 then P.dropLast ++ [114] else P
def turnN (P : List Nat) : List (List Nat) := if P.getLast? = some 108 then [P.dropLast] else []
structure Wk (H H1 : Hp) (p1 p2 p3 : Addr) (P : List Nat) (L N : List (List Nat)) : Prop where
  ex : Ex H H1
  n1 : H p1 = none
  n2 : H p2 = none
  n3 : H p3 = none
  h1 : H1 p1 = some (.lst (sg P))
  h2 : H1 p2 = some (.lst (tx L))
  h3 : H1 p3 = some (.lst (tx N))
  d12 : p1 ≠ p2
  d13 : p1 ≠ p3
  d23 : p2 ≠ p3
theorem Wk.new {H H1 : Hp} {p1 p2 p3 : Addr} {P : List Nat} {L N : List (List Nat)} (w : Wk H H1 p1 p2 p3 P L N) {q : Addr} {o : HO} (h : H1 q = none) : Wk H (upd H1 q o) p1 p2 p3 P L N :=
  ⟨w.ex.push h, w.n1, w.n2, w.n3, by rw [upd_ne (ne_of_none w.h1 h)]; exact w.h1, by rw [upd_ne (ne_of_none w.h2 h)]; exact w.h2, by rw [upd_ne (ne_of_none w.h3 h)]; exact w.h3, w.d12, w.d13, w.d23⟩
theorem Wk.s1 {H H1 : Hp} {p1 p2 p3 : Addr} {P P' : List Nat} {L N : List (List Nat)} (w : Wk H H1 p1 p2 p3 P L N) : Wk H (upd H1 p1 (.lst (sg P'))) p1 p2 p3 P' L N :=
  ⟨w.ex.mut w.n1, w.n1, w.n2, w.n3, upd_same, by rw [upd_ne (Ne.symm w.d12)]; exact w.h2, by rw [upd_ne (Ne.symm w.d13)]; exact w.h3, w.d12, w.d13, w.d23⟩
theorem Wk.s2 {H H1 : Hp} {p1 p2 p3 : Addr} {P : List Nat} {L L' N : List (List Nat)} (w : Wk H H1 p1 p2 p3 P L N) : Wk H (upd H1 p2 (.lst (tx L'))) p1 p2 p3 P L' N :=
  ⟨w.ex.mut w.n2, w.n1, w.n2, w.n3, by rw [upd_ne w.d12]; exact w.h1, upd_same, by rw [upd_ne (Ne.symm w.d23)]; exact w.h3, w.d12, w.d13, w.d23⟩
theorem Wk.s3 {H H1 : Hp} {p1 p2 p3 : Addr} {P : List Nat} {L N N' : List (List Nat)} (w : Wk H H1 p1 p2 p3 P L N) : Wk H (upd H1 p3 (.lst (tx N'))) p1 p2 p3 P L N' :=
  ⟨w.ex.mut w.n3, w.n1, w.n2, w.n3, by rw [upd_ne w.d13]; exact w.h1, by rw [upd_ne w.d23]; exact w.h2, upd_same, w.d12, w.d13, w.d23⟩
/-- the end of a turn: the path's last l turns into r -/
def wkTail (K : PySem.W.Frag) : TS := (tIfS (tAnd (mTest (tOp (mNe K) (mVar 1) (tLst tNil))) (mTest (tOp (mEq K) (tOp (mIx K) (mVar 1) (mUn (fun i => -i) (mC (.int 1)))) (mC (.str (S [108])))))) (tSeq (tDrop (mLstM mApp (mVar 3) (tCons (mStrM (mJoin K) (mC (.str (S []))) (tSl (mSl K) (mVar 1) tNoPart (mPart (mUn (fun i => -i) (mC (.int 1)))))) tNil)))
  (tAsg (mC (.str (S [114]))) (gSub (mVar 1) (mUn (fun i => -i) (mC (.int 1))) mSetL))) tNext)
theorem lp_wkTail (K : PySem.W.Frag) (D : Ends) (H : Hp) (x : Option V) (p1 p2 p3 : Addr) (v : Option V) (P : List Nat) (L N : List (List Nat)) (H1 : Hp) (w : Wk H H1 p1 p2 p3 P L N) (ok : okP P) (hP : P.length ≤ 1000000) (hN : N.length ≤ 1000000)
    (k : ∀ H2, Wk H H2 p1 p2 p3 (turn P) L (N ++ turnN P) → D.nx [x, some (.ref p1), some (.ref p2), some (.ref p3), v] H2) : wkTail K D [x, some (.ref p1), some (.ref p2), some (.ref p3), v] H1 := by
  unfold wkTail
  walk_at "go"
  refine ⟨by rw [szl]; omega, fun q hq => ?_⟩
  have w1 := w.new (o := .lst []) hq
  refine eq_strs (a := P.map fun c => [c]) (b := []) (SqL.of (by rw [w1.h1, sg_tx]; rfl)) (SqL.of upd_same) (fun z hz => ?_) (fun z hz => by cases hz) ?_
  · obtain ⟨c, hc, rfl⟩ := List.mem_map.mp hz
    intro d hd
    rw [List.mem_singleton.mp hd]
    exact ok.okc c hc
  by_cases c0 : P = []
  · subst c0
    walk_at "go"
    exact k _ (by simpa only [turn, turnN, List.getLast?_nil, if_false, List.append_nil, reduceCtorEq] using w1)
  · have e0 : (decide ((P.map fun c => [c]) = [])) = false := by simpa using c0
    rw [e0]
    walk_at "go"
    obtain ⟨R, c, rfl⟩ : ∃ R c, P = R ++ [c] := ⟨P.dropLast, P.getLast c0, (List.dropLast_concat_getLast c0).symm⟩
    refine ⟨_, _, .inl (SqL.of w1.h1), by rw [sg_app]; exact aI_m1 _ _, ?_⟩
    dsimp only
    walk_at "go"
    by_cases c1 : [c] = [108]
    · rw [if_pos c1]
      simp only [List.cons.injEq, and_true] at c1
      subst c1
      have et : turn (R ++ [108]) = R ++ [114] := by simp [turn]
      have en : turnN (R ++ [108]) = [R] := by simp [turnN]
      rw [et, en] at k
      refine ⟨⟨_, w1.h3⟩, _, SqL.of w1.h1, fun r hr => ?_⟩
      rw [show (sg (R ++ [108])).take ((sg (R ++ [108])).length - 1) = sg R by rw [sg_app]; simp [sg]]
      have w2 := w1.new (o := .lst (sg R)) hr
      refine ⟨R.map fun c => S [c], .inl (SqL.of (by rw [← sg_str]; exact upd_same)), ?_, _, w2.h3, by rw [szl, tx_len]; omega, ?_⟩
      · rw [one_len]
        rw [List.length_append] at hP
        simp only [List.length_map, Nat.mul_zero, Nat.add_zero]; omega
      have ej : Txt.join (S []) (R.map fun c => S [c]) = S R := join_signs R
      rw [ej, show tx N ++ [V.str (S R)] = tx (N ++ [R]) by rw [tx_app]; rfl]
      have w3 := w2.s3 (N' := N ++ [R])
      refine ⟨_, _, w3.h1, iN_m1 (by rw [sg_len]; simp), ?_⟩
      rw [show (sg (R ++ [108])).set ((sg (R ++ [108])).length - 1) (V.str (S [114])) = sg (R ++ [114]) by simp [sg]]
      exact k _ w3.s1
    · rw [if_neg c1]
      simp only [List.cons.injEq, and_true] at c1
      have et : turn (R ++ [c]) = R ++ [c] := by simp [turn, c1]
      have en : turnN (R ++ [c]) = [] := by simp [turnN, c1]
      rw [et, en, List.append_nil] at k
      exact k _ w1
theorem b1_walked (K : PySem.W.Frag) (D : Ends) (σ : Sl) (H : Hp) : rd_walked_b1 K D σ H = (tIfS (mTest (tOp (mEq K) (mVar 4) (mC (.str (S [40]))))) (tDrop (mLstM mApp (mVar 1) (tCons (mC (.str (S [108]))) tNil))) (tSeq (tIfS (mTest (tOp (mEq K) (mVar 4) (mC (.str (S [46]))))) (tDrop (mLstM mApp (mVar 2) (tCons (mStrM (mJoin K) (mC (.str (S []))) (mVar 1)) tNil))) (tDrop (mLstM mPop (mVar 1) tNil))) (wkTail K))) D σ H := rfl
theorem lp_walked (K : PySem.W.Frag) (D : Ends) (H : Hp) (x : Option V) (p1 p2 p3 : Addr) : ∀ (t : Tr) (rest : List V) (v : Option V) (P : List Nat) (L N : List (List Nat)) (H1 : Hp), Wk H H1 p1 p2 p3 P L N → okP P → P.length + L.length + N.length + t.n + t.n + t.n + 10 ≤ 1000000 →
    (∀ H2 v', Wk H H2 p1 p2 p3 (turn P) (L ++ t.lvs P) (N ++ t.nds P ++ turnN P) → fV (fun _ => True) (gName 4) (rd_walked_b1 K) D rest [x, some (.ref p1), some (.ref p2), some (.ref p3), v'] H2) →
    fV (fun _ => True) (gName 4) (rd_walked_b1 K) D (t.s.map (fun c => V.str (S [c])) ++ rest) [x, some (.ref p1), some (.ref p2), some (.ref p3), v] H1 := by
  intro t
  induction t with
  | lf =>
    intro rest v P L N H1 w ok hl k
    simp only [Tr.s, List.map_cons, List.map_nil, List.cons_append, List.nil_append, fV]
    refine ⟨trivial, ?_⟩
    show rd_walked_b1 K _ [x, some (.ref p1), some (.ref p2), some (.ref p3), some _] H1
    rw [b1_walked]
    walk_at "go"
    rw [if_neg (by decide)]
    walk_at "go"
    refine ⟨⟨_, w.h2⟩, P.map fun c => S [c], .inl (SqL.of (by rw [← sg_str]; exact w.h1)), ?_, _, w.h2, by rw [szl, tx_len]; omega, ?_⟩
    · rw [one_len]; simp only [List.length_map, Nat.mul_zero, Nat.add_zero]; omega
    rw [show Txt.join (S []) (P.map fun c => S [c]) = S P from join_signs P, show tx L ++ [V.str (S P)] = tx (L ++ [P]) by rw [tx_app]; rfl]
    exact lp_wkTail K _ H x p1 p2 p3 _ P _ N _ w.s2 ok (by omega) (by omega) fun H2 w2 => k H2 _ (by simpa only [Tr.lvs, Tr.nds, List.append_nil] using w2)
  | nd a b iha ihb =>
    intro rest v P L N H1 w ok hl k
    simp only [Tr.n] at hl
    have la := a.lvs_len (P ++ [108])
    have na := a.nds_len (P ++ [108])
    have lb := b.lvs_len (P ++ [114])
    have nb := b.nds_len (P ++ [114])
    have okl : okP (P ++ [108]) := fun c hc => (List.mem_append.mp hc).elim (ok c) fun z => .inl (List.mem_singleton.mp z)
    have okr : okP (P ++ [114]) := fun c hc => (List.mem_append.mp hc).elim (ok c) fun z => .inr (List.mem_singleton.mp z)
    have tl : turn (P ++ [108]) = P ++ [114] := by simp [turn]
    have tr : turn (P ++ [114]) = P ++ [114] := by simp [turn]
    have ul : turnN (P ++ [108]) = [P] := by simp [turnN]
    have ur : turnN (P ++ [114]) = [] := by simp [turnN]
    simp only [Tr.s, List.map_cons, List.map_append, List.map_nil, List.cons_append, List.append_assoc, List.nil_append, fV]
    refine ⟨trivial, ?_⟩
    show rd_walked_b1 K _ [x, some (.ref p1), some (.ref p2), some (.ref p3), some _] H1
    rw [b1_walked]
    walk_at "go"
    refine ⟨⟨_, w.h1⟩, _, w.h1, by rw [szl, sg_len]; omega, ?_⟩
    rw [show sg P ++ [V.str (S [108])] = sg (P ++ [108]) by rw [sg_app]; rfl]
    refine iha _ _ (P ++ [108]) L N _ w.s1 okl (by simp only [List.length_append, List.length_singleton]; omega) fun H2 v2 w2 => ?_
    rw [tl, ul] at w2
    refine ihb _ _ (P ++ [114]) _ _ _ w2 okr (by simp only [List.length_append, List.length_singleton, la, na]; omega) fun H3 v3 w3 => ?_
    rw [tr, ur, List.append_nil] at w3
    simp only [fV]
    refine ⟨trivial, ?_⟩
    show rd_walked_b1 K _ [x, some (.ref p1), some (.ref p2), some (.ref p3), some _] H3
    rw [b1_walked]
    walk_at "go"
    rw [if_neg (by decide), if_neg (by decide)]
    walk_at "go"
    refine ⟨⟨_, w3.h1⟩, _, w3.h1, _, (by rw [sg_app]; exact List.getLast?_concat), ?_⟩
    rw [show (sg (P ++ [114])).dropLast = sg P by rw [sg_app]; simp [sg]]
    refine lp_wkTail K _ H x p1 p2 p3 _ P _ _ _ w3.s1 ok (by omega) (by simp only [List.length_append, List.length_singleton, na, nb]; omega) fun H4 w4 => k H4 _ ?_
    simpa only [Tr.lvs, Tr.nds, List.append_assoc] using w4
def sp_walked (K : PySem.W.Frag) : Sp := fun vs H Q _ => ∃ t : Tr, vs = [.str (S t.s)] ∧ t.n ≤ 100000 ∧ ∀ H' a b p, Ex H H' → H a = none → H b = none → H' a = some (.lst (tx (t.lvs []))) → H' b = some (.lst (tx (t.nds []))) → H' p = some (.tup [.ref a, .ref b]) → Q (.ref p) H'
theorem pu_walked (K : PySem.W.Frag) (vs : List V) (H : Hp) (Q : VK) (E : XK) (h : sp_walked K vs H Q E) : rd_walked K { nx := fun _ H' => Q .non H', rt := Q } (L2.start N_walked vs) H := by
  obtain ⟨t, rfl, hn, k⟩ := h
  show rd_walked K _ [some _, none, none, none, none] H
  unfold rd_walked
  walk_at "go"
  refine ⟨by rw [szl]; omega, fun p1 h1 => ?_⟩
  walk_at "go"
  refine ⟨by rw [szl]; omega, fun p2 h2 => ?_⟩
  walk_at "go"
  refine ⟨by rw [szl]; omega, fun p3 h3 => ?_⟩
  walk_at "go"
  have d12 : p1 ≠ p2 := fun z => by rw [z, upd_same] at h2; cases h2
  have d23 : p2 ≠ p3 := fun z => by rw [z, upd_same] at h3; cases h3
  have d13 : p1 ≠ p3 := fun z => by rw [← z, upd_ne d12, upd_same] at h3; cases h3
  have w : Wk H (upd (upd (upd H p1 (.lst [])) p2 (.lst [])) p3 (.lst [])) p1 p2 p3 [] [] [] :=
    ⟨((Ex.new h1).push h2).push h3, h1, (Ex.new h1).free h2, ((Ex.new h1).push h2).free h3, by rw [upd_ne d13, upd_ne d12]; exact upd_same, by rw [upd_ne d23]; exact upd_same, upd_same, d12, d13, d23⟩
  rw [show t.s.map (fun c => V.str (S [c])) = t.s.map (fun c => V.str (S [c])) ++ [] by simp]
  refine lp_walked K _ H _ p1 p2 p3 t [] none [] [] [] _ w (fun c hc => by cases hc) (by simp; omega) fun H2 v' w2 => ?_
  simp only [fV]
  walk_at "go"
  refine ⟨trivial, by rw [szl]; omega, fun q hq => ?_⟩
  have w3 := w2.new (o := .tup [.ref p2, .ref p3]) hq
  exact k _ p2 p3 q w3.ex w3.n2 w3.n3 (by simpa only [List.nil_append] using w3.h2) (by simpa only [List.nil_append, turnN, List.getLast?_nil, reduceCtorEq, if_false, List.append_nil] using w3.h3) upd_same
end Pf

namespace Pf
open PySem PySem.Spec PyProof.Rows L2 M
local macro_rules | `(tactic| walk_at "go") => `(tactic| try simp only [tSeq, tIfS, tIf, tNot, mTest, tCB, tCons, tNil, mVar, M.gt, mC, Bool.not_true, Bool.not_false, Bool.false_eq_true, if_false, if_true, tNext, tAsg, gName, gSub, List.set_cons_zero, List.set_cons_succ, mFor, mIter, mRevS, S_cps, S_len, S_app, tOp, tSl, mPart, mUn, tNoPart, tRet, tRetN, tTup, tLst, tAnd, tOr, mAndV, mOrV, mNotV, tCall, tCallSD, tDrop, mPar, mPar3, mLstM, mStrM, mBits, mRng1, mRng2, mgTup, mgSeq, mgCons, mgNil, q_add1, q_add2, q_add3, q_add4, q_iadd1, q_iadd2, q_iadd3, q_sorted, q_sub, q_mul1, q_mul2, q_mul3, q_mod, q_div, q_pow, q_eq1, q_eq2, q_eq3, q_eq4, q_eq5, q_eq6, q_eq7, q_eq8, q_eq9, q_eq10, q_ne1, q_ne2, q_ne3, q_ne9, q_ne10, q_lt, q_le, q_gt, q_ge, q_inc1, q_ix1, q_ix2, q_sl1, q_sl2, q_set, q_len1, q_len2, q_int1, q_int2, q_max, q_min, q_abs, q_sum, q_list, q_isi1, q_is1, q_not1, q_isN1, q_isN2, q_isN3, q_isN4, q_join, q_count, q_split, q_app, q_pop, q_clear, q_isiE, q_repr, wipe, List.map_cons, List.map_nil, List.length_cons, List.length_nil, List.length_append, List.length_map, List.nil_append, List.cons_append, List.append_nil, cut_m3, cut_t3, cut_m1, cut_t1, cut_t2, S_eq, decide_eq_true_eq, Bool.not_eq_true', decide_eq_false_iff_not, ne_eq])
local macro_rules | `(tactic| walk_at "hh") => `(tactic| first | assumption | exact upd_same | exact Ex.new (by assumption) _ _ (by walk_at "hh") | exact Ex.at (by assumption) (by assumption) | solve_by_elim [Ex.at])
local macro_rules | `(tactic| walk_at "ee") => `(tactic| first | assumption | exact Ex.refl _ | exact Ex.push (by walk_at "ee") (by assumption) | exact Ex.trans (by assumption) (by assumption) | solve_by_elim [Ex.trans])
local macro_rules | `(tactic| walk_at "sz") => `(tactic| first | (rw [szl]; omega) | (simp only [szl, tx_len, sg_len, List.length_map, List.length_append, List.length_cons, List.length_nil, List.length_singleton, List.length_take, List.length_drop, List.length_reverse, S_len]; omega))
/-- what is asked of a tree: refused, or the tree -/
def Ask (K : PySem.W.Frag) (aI : Addr) (E : XK) (H : Hp) (v : V) (k : Tr → Prop) : Prop := (TV K H v false ∧ Fail E H aI v) ∨ ∃ t : Tr, v = .str (S t.s) ∧ t.n ≤ 100000 ∧ k t
theorem tv_tree (K : PySem.W.Frag) (H : Hp) (t : Tr) (h : t.n ≤ 100000) : TV K H (.str (S t.s)) true := .inl ⟨t.s, rfl, by rw [t.s_len]; omega, (isTr_s t).symm⟩
def sp_size (K : PySem.W.Frag) (aI : Addr) : Sp := fun vs H Q E => ∃ v, vs = [v] ∧ Ask K aI E H v fun t => ∀ H', Ex H H' → Q (.int (t.n : Int)) H'
theorem pu_size (K : PySem.W.Frag) (aI : Addr) (vs : List V) (H : Hp) (Q : VK) (E : XK) (h : sp_size K aI vs H Q E) : rd_size K (sp_check_tree K aI) E { nx := fun _ H' => Q .non H', rt := Q } (L2.start N_size vs) H := by
  obtain ⟨v, rfl, ⟨tv, f⟩ | ⟨t, rfl, hn, k⟩⟩ := h
  · show rd_size K _ _ _ [some _] H
    unfold rd_size
    walk_at "go"
    exact ⟨v, false, rfl, tv, fun z => (by cases z), fun _ => f⟩
  · show rd_size K _ _ _ [some _] H
    unfold rd_size
    walk_at "go"
    refine ⟨_, true, rfl, tv_tree K H t hn, fun _ H1 e => ?_, fun z => (by cases z)⟩
    walk_at "go"
    rw [count_S (by decide), Tr.cnt_op]
    exact k H1 e
def sp_leaves (K : PySem.W.Frag) (aI : Addr) : Sp := fun vs H Q E => ∃ v, vs = [v] ∧ Ask K aI E H v fun t => ∀ H' p, Ex H H' → H p = none → H' p = some (.lst (tx (t.lvs []))) → Q (.ref p) H'
def sp_nodes (K : PySem.W.Frag) (aI : Addr) : Sp := fun vs H Q E => ∃ v, vs = [v] ∧ Ask K aI E H v fun t => ∀ H' p, Ex H H' → H p = none → H' p = some (.lst (tx (t.nds []))) → Q (.ref p) H'
theorem pu_leaves (K : PySem.W.Frag) (aI : Addr) (vs : List V) (H : Hp) (Q : VK) (E : XK) (h : sp_leaves K aI vs H Q E) : rd_leaves K (sp_check_tree K aI) (sp_walked K) E { nx := fun _ H' => Q .non H', rt := Q } (L2.start N_leaves vs) H := by
  obtain ⟨v, rfl, ⟨tv, f⟩ | ⟨t, rfl, hn, k⟩⟩ := h
  · show rd_leaves K _ _ _ _ [some _] H
    unfold rd_leaves
    walk_at "go"
    exact ⟨v, false, rfl, tv, fun z => (by cases z), fun _ => f⟩
  · show rd_leaves K _ _ _ _ [some _] H
    unfold rd_leaves
    walk_at "go"
    refine ⟨_, true, rfl, tv_tree K H t hn, fun _ H1 e => ?_, fun z => (by cases z)⟩
    walk_at "go"
    refine ⟨t, rfl, hn, fun H2 a b p e2 na nb ha hb hp => ?_⟩
    walk_at "go"
    exact ⟨_, _, .inr (SqT.of hp), aI_0 _ _, k H2 a (e.trans e2) (e.free na) ha⟩
theorem pu_nodes (K : PySem.W.Frag) (aI : Addr) (vs : List V) (H : Hp) (Q : VK) (E : XK) (h : sp_nodes K aI vs H Q E) : rd_nodes K (sp_check_tree K aI) (sp_walked K) E { nx := fun _ H' => Q .non H', rt := Q } (L2.start N_nodes vs) H := by
  obtain ⟨v, rfl, ⟨tv, f⟩ | ⟨t, rfl, hn, k⟩⟩ := h
  · show rd_nodes K _ _ _ _ [some _] H
    unfold rd_nodes
    walk_at "go"
    exact ⟨v, false, rfl, tv, fun z => (by cases z), fun _ => f⟩
  · show rd_nodes K _ _ _ _ [some _] H
    unfold rd_nodes
    walk_at "go"
    refine ⟨_, true, rfl, tv_tree K H t hn, fun _ H1 e => ?_, fun z => (by cases z)⟩
    walk_at "go"
    refine ⟨t, rfl, hn, fun H2 a b p e2 na nb ha hb hp => ?_⟩
    walk_at "go"
    exact ⟨_, _, .inr (SqT.of hp), aI_1 _ _ _, k H2 b (e.trans e2) (e.free nb) hb⟩
def sp_addresses_of_leaves : Sp := fun vs H Q E => ∃ t : Tr, vs = [.str (S t.s)] ∧ t.n ≤ 100000 ∧ ∀ H' p, Ex H H' → H p = none → H' p = some (.lst (tx (t.lvs []))) → Q (.ref p) H'
theorem pu_addresses_of_leaves (K : PySem.W.Frag) (vs : List V) (H : Hp) (Q : VK) (E : XK) (h : sp_addresses_of_leaves vs H Q E) : rd_addresses_of_leaves K (sp_walked K) { nx := fun _ H' => Q .non H', rt := Q } (L2.start N_addresses_of_leaves vs) H := by
  obtain ⟨t, rfl, hn, k⟩ := h
  show rd_addresses_of_leaves K _ _ [some _] H
  unfold rd_addresses_of_leaves
  walk_at "go"
  refine ⟨t, rfl, hn, fun H2 a b p e2 na nb ha hb hp => ?_⟩
  walk_at "go"
  exact ⟨_, _, .inr (SqT.of hp), aI_0 _ _, k H2 a e2 na ha⟩
theorem lvs_len_ub : ∀ (t : Tr) (r z : List Nat), z ∈ t.lvs r → z.length ≤ r.length + t.ht
  | .lf, r, z, h => by rw [List.mem_singleton.mp h]; exact Nat.le_refl _
  | .nd a b, r, z, h => by
    simp only [Tr.ht]
    rcases List.mem_append.mp h with h | h
    · have := lvs_len_ub a _ z h
      rw [List.length_append, List.length_singleton] at this
      omega
    · have := lvs_len_ub b _ z h
      rw [List.length_append, List.length_singleton] at this
      omega
theorem lvs_len_at : ∀ (t : Tr) (r : List Nat), ∃ z ∈ t.lvs r, z.length = r.length + t.ht
  | .lf, r => ⟨r, List.mem_singleton.mpr rfl, rfl⟩
  | .nd a b, r => by
    simp only [Tr.ht]
    by_cases c : b.ht ≤ a.ht
    · obtain ⟨z, h1, h2⟩ := lvs_len_at a (r ++ [108])
      rw [List.length_append, List.length_singleton] at h2
      exact ⟨z, List.mem_append_left _ h1, by omega⟩
    · obtain ⟨z, h1, h2⟩ := lvs_len_at b (r ++ [114])
      rw [List.length_append, List.length_singleton] at h2
      exact ⟨z, List.mem_append_right _ h1, by omega⟩
def sp_height (K : PySem.W.Frag) (aI : Addr) : Sp := fun vs H Q E => ∃ v, vs = [v] ∧ Ask K aI E H v fun t => ∀ H', Ex H H' → Q (.int (t.ht : Int)) H'
theorem pu_height (K : PySem.W.Frag) (aI : Addr) (vs : List V) (H : Hp) (Q : VK) (E : XK) (h : sp_height K aI vs H Q E) : rd_height K (sp_check_tree K aI) sp_addresses_of_leaves E { nx := fun _ H' => Q .non H', rt := Q } (L2.start N_height vs) H := by
  obtain ⟨v, rfl, ⟨tv, f⟩ | ⟨t, rfl, hn, k⟩⟩ := h
  · show rd_height K _ _ _ _ [some _, none] H
    unfold rd_height
    walk_at "go"
    exact ⟨v, false, rfl, tv, fun z => (by cases z), fun _ => f⟩
  · show rd_height K _ _ _ _ [some _, none] H
    unfold rd_height mLc
    walk_at "go"
    refine ⟨_, true, rfl, tv_tree K H t hn, fun _ H1 e => ?_, fun z => (by cases z)⟩
    walk_at "go"
    refine ⟨t, rfl, hn, fun H2 p e2 np hp => ?_⟩
    walk_at "go"
    refine ⟨_, .inl ⟨SqL.of hp, fun D hD => ?_⟩⟩
    have hth := t.ht_le
    refine (?lp : ∀ (r acc : List (List Nat)) (Hx : Hp), Ex H2 Hx → Hx D = some (.lst ((acc.map fun z => (z.length : Int)).map V.int)) → acc ++ r = t.lvs [] → cV _ _ _ _ _ _ D _ (tx r) Hx) (t.lvs []) [] _ (Ex.new hD) upd_same rfl
    intro r
    induction r with
    | nil =>
      intro acc Hx ex hx hacc
      rw [List.append_nil] at hacc
      subst hacc
      simp only [tx, List.map_nil, cV]
      refine ⟨SqL.of (ex _ _ hp), ?_⟩
      refine ⟨_, SqL.of hx, by rw [List.length_map, Tr.lvs_len]; omega, fun m hm hub => ?_⟩
      have em : m = (t.ht : Int) := by
        obtain ⟨z, h1, h2⟩ := List.mem_map.mp hm
        have := lvs_len_ub t [] z h1
        obtain ⟨y, g1, g2⟩ := lvs_len_at t []
        have := hub (y.length : Int) (List.mem_map.mpr ⟨y, g1, rfl⟩)
        simp only [List.length_nil] at *
        omega
      rw [em]
      exact k Hx (e.trans (e2.trans ex))
    | cons z r ih =>
      intro acc Hx ex hx hacc
      have hz : z ∈ t.lvs [] := by rw [← hacc]; simp
      have hzl := lvs_len_ub t [] z hz
      simp only [List.length_nil] at hzl
      have hal := congrArg List.length hacc
      simp only [List.length_append, List.length_cons, Tr.lvs_len] at hal
      simp only [tx, List.map_cons, cV]
      refine ⟨SqL.of (ex _ _ hp), ?_⟩
      simp only [tYes]
      walk_at "go"
      refine ⟨trivial, by walk_at "sz", _, hx, by rw [szl, List.length_map, List.length_map]; omega, ?_⟩
      refine ih (acc ++ [z]) _ (ex.mut hD) (by rw [upd_same]; simp) (by rw [← hacc]; simp)
def sp__law_high (K : PySem.W.Frag) (N : Nat) : Sp := fun vs H Q _ => ∃ (v : V) (t : Tr), vs = [v] ∧ Nst K H v t ∧ t.ht < N ∧ ∀ H', Ex H H' → Q (.int (t.ht : Int)) H'
theorem pu__law_high (K : PySem.W.Frag) (N : Nat) (vs : List V) (H : Hp) (Q : VK) (E : XK) (h : sp__law_high K (N + 1) vs H Q E) : rd__law_high K (sp__law_high K N) { nx := fun _ H' => Q .non H', rt := Q } (L2.start N__law_high vs) H := by
  obtain ⟨v, t, rfl, ht, hN, k⟩ := h
  obtain ⟨a, rfl⟩ := ht.ref
  show rd__law_high K _ _ [some _] H
  unfold rd__law_high
  walk_at "go"
  refine ⟨by walk_at "sz", fun p hp => ?_⟩
  refine eq_nil (ht.ex (Ex.new hp)) (SqT.of upd_same) ?_
  have e1 := Ex.new (o := .tup []) hp
  cases ht with
  | lf h1 =>
    walk_at "go"
    exact k _ e1
  | @nd _ l r t u h1 h2 h3 =>
    simp only [Tr.ht] at hN k
    walk_at "go"
    rw [if_neg (by simp)]
    refine ⟨_, _, .inr (e1.T h1), aI_0 _ _, ?_⟩
    refine ⟨l, t, rfl, h2.ex e1, by omega, fun H1 e2 => ?_⟩
    walk_at "go"
    have e3 := e1.trans e2
    refine ⟨_, _, .inr (e3.T h1), aI_1 _ _ _, ?_⟩
    refine ⟨r, u, rfl, h3.ex e3, by omega, fun H2 e4 => ?_⟩
    walk_at "go"
    have := k H2 (e3.trans e4)
    rw [show ((1 + max t.ht u.ht : Nat) : Int) = 1 + max (t.ht : Int) (u.ht : Int) by omega] at this
    exact this
end Pf

namespace Pf
open PySem PySem.Spec PyProof.Rows L2 M
local macro_rules | `(tactic| walk_at "go") => `(tactic| try simp only [tSeq, tIfS, tIf, tNot, mTest, tCB, tCons, tNil, mVar, M.gt, mC, Bool.not_true, Bool.not_false, Bool.false_eq_true, if_false, if_true, tNext, tAsg, gName, gSub, List.set_cons_zero, List.set_cons_succ, mFor, mIter, mRevS, S_cps, S_len, S_app, tOp, tSl, mPart, mUn, tNoPart, tRet, tRetN, tTup, tLst, tAnd, tOr, mAndV, mOrV, mNotV, tCall, tCallSD, tDrop, mPar, mPar3, mLstM, mStrM, mBits, mRng1, mRng2, mgTup, mgSeq, mgCons, mgNil, q_add1, q_add2, q_add3, q_add4, q_iadd1, q_iadd2, q_iadd3, q_sorted, q_sub, q_mul1, q_mul2, q_mul3, q_mod, q_div, q_pow, q_eq1, q_eq2, q_eq3, q_eq4, q_eq5, q_eq6, q_eq7, q_eq8, q_eq9, q_eq10, q_ne1, q_ne2, q_ne3, q_ne9, q_ne10, q_lt, q_le, q_gt, q_ge, q_inc1, q_ix1, q_ix2, q_sl1, q_sl2, q_set, q_len1, q_len2, q_int1, q_int2, q_max, q_min, q_abs, q_sum, q_list, q_isi1, q_is1, q_not1, q_isN1, q_isN2, q_isN3, q_isN4, q_join, q_count, q_split, q_app, q_pop, q_clear, q_isiE, q_repr, wipe, List.map_cons, List.map_nil, List.length_cons, List.length_nil, List.length_append, List.length_map, List.nil_append, List.cons_append, List.append_nil, cut_m3, cut_t3, cut_m1, cut_t1, cut_t2, S_eq, decide_eq_true_eq, Bool.not_eq_true', decide_eq_false_iff_not, ne_eq])
local macro_rules | `(tactic| walk_at "hh") => `(tactic| first | assumption | exact upd_same | exact Ex.new (by assumption) _ _ (by walk_at "hh") | exact Ex.at (by assumption) (by assumption) | solve_by_elim [Ex.at])
local macro_rules | `(tactic| walk_at "ee") => `(tactic| first | assumption | exact Ex.refl _ | exact Ex.push (by walk_at "ee") (by assumption) | exact Ex.trans (by assumption) (by assumption) | solve_by_elim [Ex.trans])
local macro_rules | `(tactic| walk_at "sz") => `(tactic| first | (rw [szl]; omega) | (simp only [szl, tx_len, sg_len, List.length_map, List.length_append, List.length_cons, List.length_nil, List.length_singleton, List.length_take, List.length_drop, List.length_reverse, S_len]; omega))
def sp__law_end (N : Nat) : Sp := fun vs H Q _ => ∃ (z : List Nat) (i : Nat), vs = [.str (S z), .int i] ∧ (z.drop i).count 40 < N ∧ i ≤ z.length ∧ z.length ≤ 100000 ∧
  (pr N (z.drop i) = none → Q .non H) ∧ (∀ j, i < j → j ≤ z.length → pr N (z.drop i) = some (z.drop j) → Q (.int j) H)
theorem sign_at {z : List Nat} {i : Nat} : (z.drop i).take (i + 1 - i) = match z.drop i with | [] => [] | c :: _ => [c] := by
  rw [show i + 1 - i = 1 by omega]
  cases z.drop i <;> rfl
theorem drop_cons {z r : List Nat} {i c : Nat} (h : z.drop i = c :: r) : z.drop (i + 1) = r ∧ i + 1 ≤ z.length := by
  refine ⟨by rw [← List.drop_drop, h]; rfl, ?_⟩
  have := congrArg List.length h
  rw [List.length_drop, List.length_cons] at this
  omega
theorem pu__law_end (K : PySem.W.Frag) (N : Nat) (vs : List V) (H : Hp) (Q : VK) (E : XK) (h : sp__law_end (N + 1) vs H Q E) : rd__law_end K (sp__law_end N) { nx := fun _ H' => Q .non H', rt := Q } (L2.start N__law_end vs) H := by
  obtain ⟨z, i, rfl, hN, hi, hz, k1, k2⟩ := h
  show rd__law_end K _ _ [some _, some _, none] H
  unfold rd__law_end
  walk_at "go"
  refine ⟨by walk_at "sz", ?_⟩
  have ei : ((i : Int) + 1) = ((i + 1 : Nat) : Int) := by omega
  rw [ei, cut_mid, sign_at]
  cases hd : z.drop i with
  | nil =>
    rw [hd] at k1
    rw [if_neg (by simp)]
    walk_at "go"
    refine ⟨by walk_at "sz", ?_⟩
    rw [if_pos (by simp)]
    exact k1 rfl
  | cons c r =>
    obtain ⟨hr, hi1⟩ := drop_cons hd
    rw [hd, pr_cons] at k1 k2
    dsimp only
    by_cases c46 : [c] = [46]
    · rw [if_pos c46]
      simp only [List.cons.injEq, and_true] at c46
      rw [if_pos c46] at k2
      exact k2 (i + 1) (by omega) hi1 (by rw [hr])
    · rw [if_neg c46]
      simp only [List.cons.injEq, and_true] at c46
      rw [if_neg c46] at k1 k2
      walk_at "go"
      refine ⟨by walk_at "sz", ?_⟩
      by_cases c40 : [c] = [40]
      · rw [if_neg (by simpa using c40)]
        simp only [List.cons.injEq, and_true] at c40
        rw [if_pos c40] at k1 k2
        walk_at "go"
        refine ⟨⟨by decide, by decide⟩, ?_⟩
        have hcnt : (z.drop (i + 1)).count 40 < N := by
          rw [hd, c40, List.count_cons] at hN
          rw [hr]
          simp at hN
          omega
        show fV _ _ _ _ [.int 0, .int 1] _ _
        simp only [fV]
        refine ⟨trivial, ?_⟩
        walk_at "go"
        have e0 : ((i : Int) + 1) = ((i + 1 : Nat) : Int) := by omega
        refine ⟨z, i + 1, rfl, hcnt, hi1, hz, fun hn => ?_, fun j hj1 hj2 hp => ?_⟩
        · walk_at "go"
          rw [hr] at hn
          exact k1 (by rw [hn]; rfl)
        · rw [hr] at hp
          walk_at "go"
          rw [hp] at k1 k2
          have hcnt2 : (z.drop j).count 40 < N := by
            have e : z.drop j = (z.drop (i + 1)).drop (j - (i + 1)) := by rw [List.drop_drop]; congr 1; omega
            rw [e]
            exact Nat.lt_of_le_of_lt (List.Sublist.count_le _ (List.drop_sublist _ _)) hcnt
          refine ⟨trivial, z, j, by first | rfl | simp, hcnt2, hj2, hz, fun hn => ?_, fun j2 hj3 hj4 hp2 => ?_⟩
          · walk_at "go"
            exact k1 (by show (pr N (z.drop j)).bind _ = _; rw [hn]; rfl)
          · walk_at "go"
            refine ⟨trivial, by walk_at "sz", ?_⟩
            rw [show ((j2 : Int) + 1) = ((j2 + 1 : Nat) : Int) by omega, cut_mid, sign_at]
            have b1 : (some (z.drop j)).bind (fun r1 => (pr N r1).bind cl41) = cl41 (z.drop j2) := by
              show (pr N (z.drop j)).bind _ = _
              rw [hp2]; rfl
            rw [b1] at k1 k2
            cases hd2 : z.drop j2 with
            | nil =>
              rw [hd2] at k1
              rw [if_neg (by simp)]
              exact k1 rfl
            | cons d r3 =>
              obtain ⟨hr3, hj5⟩ := drop_cons hd2
              rw [hd2] at k1 k2
              replace k1 : (if d = 41 then some r3 else none) = none → Q .non H := k1
              replace k2 : ∀ j, i < j → j ≤ z.length → (if d = 41 then some r3 else none) = some (z.drop j) → Q (.int j) H := k2
              dsimp only
              by_cases c41 : [d] = [41]
              · rw [if_pos c41]
                simp only [List.cons.injEq, and_true] at c41
                rw [if_pos c41] at k2
                exact k2 (j2 + 1) (by omega) hj5 (by rw [hr3])
              · rw [if_neg c41]
                simp only [List.cons.injEq, and_true] at c41
                rw [if_neg c41] at k1
                exact k1 rfl
      · rw [if_pos (by simpa using c40)]
        simp only [List.cons.injEq, and_true] at c40
        rw [if_neg c40] at k1
        exact k1 rfl
end Pf

namespace Pf
open PySem PySem.Spec PyProof.Rows L2 M
local macro_rules | `(tactic| walk_at "go") => `(tactic| try simp only [tSeq, tIfS, tIf, tNot, mTest, tCB, tCons, tNil, mVar, M.gt, mC, Bool.not_true, Bool.not_false, Bool.false_eq_true, if_false, if_true, tNext, tAsg, gName, gSub, List.set_cons_zero, List.set_cons_succ, mFor, mIter, mRevS, S_cps, S_len, S_app, tOp, tSl, mPart, mUn, tNoPart, tRet, tRetN, tTup, tLst, tAnd, tOr, mAndV, mOrV, mNotV, tCall, tCallSD, tDrop, mPar, mPar3, mLstM, mStrM, mBits, mRng1, mRng2, mgTup, mgSeq, mgCons, mgNil, q_add1, q_add2, q_add3, q_add4, q_iadd1, q_iadd2, q_iadd3, q_sorted, q_sub, q_mul1, q_mul2, q_mul3, q_mod, q_div, q_pow, q_eq1, q_eq2, q_eq3, q_eq4, q_eq5, q_eq6, q_eq7, q_eq8, q_eq9, q_eq10, q_ne1, q_ne2, q_ne3, q_ne9, q_ne10, q_lt, q_le, q_gt, q_ge, q_inc1, q_ix1, q_ix2, q_sl1, q_sl2, q_set, q_len1, q_len2, q_int1, q_int2, q_max, q_min, q_abs, q_sum, q_list, q_isi1, q_is1, q_not1, q_isN1, q_isN2, q_isN3, q_isN4, q_join, q_count, q_split, q_app, q_pop, q_clear, q_isiE, q_repr, wipe, List.map_cons, List.map_nil, List.length_cons, List.length_nil, List.length_append, List.length_map, List.nil_append, List.cons_append, List.append_nil, cut_m3, cut_t3, cut_m1, cut_t1, cut_t2, S_eq, decide_eq_true_eq, Bool.not_eq_true', decide_eq_false_iff_not, ne_eq])
local macro_rules | `(tactic| walk_at "hh") => `(tactic| first | assumption | exact upd_same | exact Ex.new (by assumption) _ _ (by walk_at "hh") | exact Ex.at (by assumption) (by assumption) | solve_by_elim [Ex.at])
local macro_rules | `(tactic| walk_at "ee") => `(tactic| first | assumption | exact Ex.refl _ | exact Ex.push (by walk_at "ee") (by assumption) | exact Ex.trans (by assumption) (by assumption) | solve_by_elim [Ex.trans])
local macro_rules | `(tactic| walk_at "sz") => `(tactic| first | (rw [szl]; omega) | (simp only [szl, tx_len, sg_len, List.length_map, List.length_append, List.length_cons, List.length_nil, List.length_singleton, List.length_take, List.length_drop, List.length_reverse, S_len]; omega))
/-- a text of few signs, few of them ( -/
structure Pc (z : List Nat) (a b : Nat) : Prop where
  ok : okc z
  ln : z.length ≤ a
  ct : z.count 40 ≤ b
theorem Pc.app {x y : List Nat} {a b c d : Nat} (h : Pc x a b) (g : Pc y c d) : Pc (x ++ y) (a + c) (b + d) := ⟨okc_app h.ok g.ok, by rw [List.length_append]; have := h.ln; have := g.ln; omega, by rw [List.count_append]; have := h.ct; have := g.ct; omega⟩
theorem Pc.sub {x y : List Nat} {a b : Nat} (s : y.Sublist x) (h : Pc x a b) : Pc y a b := ⟨fun c hc => h.ok c (s.subset hc), Nat.le_trans s.length_le h.ln, Nat.le_trans (List.Sublist.count_le _ s) h.ct⟩
theorem Pc.take {x : List Nat} {a b : Nat} (h : Pc x a b) (n : Nat) : Pc (x.take n) a b := h.sub (List.take_sublist _ _)
theorem Pc.drop {x : List Nat} {a b : Nat} (h : Pc x a b) (n : Nat) : Pc (x.drop n) a b := h.sub (List.drop_sublist _ _)
theorem Pc.rev {x : List Nat} {a b : Nat} (h : Pc x a b) : Pc x.reverse a b := ⟨fun c hc => h.ok c (List.mem_reverse.mp hc), by rw [List.length_reverse]; exact h.ln, by rw [List.count_reverse]; exact h.ct⟩
theorem Pc.up {x : List Nat} {a b c d : Nat} (h : Pc x a b) (h1 : a ≤ c) (h2 : b ≤ d) : Pc x c d := ⟨h.ok, Nat.le_trans h.ln h1, Nat.le_trans h.ct h2⟩
def sp__law_bent : Sp := fun vs H Q _ => ∃ (g : Addr) (n : Nat) (t : Tr), vs = [.ref g, .str (S t.s)] ∧ t.n ≤ 300 ∧ n + 100 ≤ 2 ^ 82 ∧ Pu H g n ∧ ∀ H' p (L : List (List Nat)), Fm [g] H H' → Pu H' g (n + 100) → p ≠ g → H' p = some (.lst (tx L)) → (∀ z ∈ L, Pc z 5000 604) → L.length ≤ 10 → Q (.ref p) H'
theorem pu__law_bent (K : PySem.W.Frag) (vs : List V) (H : Hp) (Q : VK) (E : XK) (h : sp__law_bent vs H Q E) : rd__law_bent K sp__law_random { nx := fun _ H' => Q .non H', rt := Q } (L2.start N__law_bent vs) H := by
  obtain ⟨g, n, t, rfl, hn, hn2, pu, k⟩ := h
  show rd__law_bent K _ _ [some _, some _, none, none, none, none, none] H
  unfold rd__law_bent
  have hs := t.s_len
  walk_at "go"
  refine ⟨by walk_at "sz", g, n, _, rfl, by omega, by omega, by omega, pu, fun H1 r f1 p1 r0 r1 => ?_⟩
  refine ⟨by walk_at "sz", g, n + 10, _, rfl, by omega, by omega, by omega, p1, fun H2 q f2 p2 q0 q1 => ?_⟩
  obtain ⟨r, rfl⟩ := Int.eq_ofNat_of_zero_le r0
  obtain ⟨q, rfl⟩ := Int.eq_ofNat_of_zero_le q0
  walk_at "go"
  refine ⟨by walk_at "sz", fun a ha => ?_⟩
  refine ⟨g, n + 10 + 10, 7, rfl, by decide, by decide, by omega, p2.fm (Ex.new ha), fun H3 j f3 p3 j0 j1 => ?_⟩
  have ha3 := f3 a _ (by simpa using p2.ne ha) upd_same
  obtain ⟨w, hw, pw⟩ : ∃ w : List Nat, atI [V.str (S [40]), V.str (S [41]), V.str (S [46]), V.str (S [32]), V.str (S [40, 41]), V.str (S [46, 46]), V.str (S [120])] j = some (.str (S w)) ∧ Pc w 2 1 := by
    obtain ⟨j, rfl⟩ := Int.eq_ofNat_of_zero_le j0
    have okd : ∀ w : List Nat, (∀ c ∈ w, c < 1114112) → okc w := fun w h => h
    rcases j with _ | _ | _ | _ | _ | _ | _ | j
    · exact ⟨_, rfl, okd _ (by decide), by decide, by decide⟩
    · exact ⟨_, rfl, okd _ (by decide), by decide, by decide⟩
    · exact ⟨_, rfl, okd _ (by decide), by decide, by decide⟩
    · exact ⟨_, rfl, okd _ (by decide), by decide, by decide⟩
    · exact ⟨_, rfl, okd _ (by decide), by decide, by decide⟩
    · exact ⟨_, rfl, okd _ (by decide), by decide, by decide⟩
    · exact ⟨_, rfl, okd _ (by decide), by decide, by decide⟩
    · omega
  have hwl := pw.ln
  have e1 : ((r : Int) + 1) = ((r + 1 : Nat) : Int) := by omega
  have e2 : ((r : Int) + 2) = ((r + 2 : Nat) : Int) := by omega
  walk_at "go"
  refine ⟨_, _, .inl (SqL.of ha3), hw, ?_⟩
  walk_at "go"
  simp only [e1, e2, cut_to, cut_from, cut_mid]
  have pc : Pc t.s 901 300 := ⟨t.s_okc, by omega, by rw [t.cnt_op]; omega⟩
  
  have L1 := pc.ln
  refine ⟨by walk_at "sz", by walk_at "sz", by walk_at "sz", by walk_at "sz", by walk_at "sz", by walk_at "sz", by walk_at "sz", by walk_at "sz", by walk_at "sz", by walk_at "sz", by walk_at "sz", by walk_at "sz", by walk_at "sz", fun p hp => ⟨by walk_at "sz", by walk_at "sz", by walk_at "sz", by walk_at "sz", by walk_at "sz", by walk_at "sz", fun p1' hp1 => ?_⟩⟩
  refine ⟨_, _, by walk_at "hh", upd_same, by walk_at "sz", fun r1' hr1 => ⟨by walk_at "sz", by walk_at "sz", by walk_at "sz", by walk_at "sz", by walk_at "sz", by walk_at "sz", by walk_at "sz", fun p2' hp2 => ?_⟩⟩
  refine ⟨_, _, by walk_at "hh", upd_same, by walk_at "sz", fun r2' hr2 => ?_⟩
  refine k _ r2' [_, _, _, _, _, _, _, _] (f1.trans (f2.trans ((Fm.new ha).trans (f3.trans (Fm.ex (by walk_at "ee")))))) ((p3.fm (by walk_at "ee")).mono (by omega)) ?_ upd_same ?_ (Nat.le_of_ble_eq_true rfl)
  · exact (p3.fm (by walk_at "ee")).ne hr2
  · intro z hz
    simp only [List.mem_cons, List.not_mem_nil, or_false] at hz
    rcases hz with rfl | rfl | rfl | rfl | rfl | rfl | rfl | rfl
    · exact ((pc.take r).app (pc.drop _)).up (by decide) (by decide)
    · exact (((pc.take r).app pw).app (pc.drop _)).up (by decide) (by decide)
    · exact (((pc.take r).app pw).app (pc.drop _)).up (by decide) (by decide)
    · exact pc.rev.up (by decide) (by decide)
    · exact (pc.app pc).up (by decide) (by decide)
    · exact ((pc.drop r).app (pc.take r)).up (by decide) (by decide)
    · exact ((pc.drop r).take _).up (by decide) (by decide)
    · have p2 : Pc ((t.s.drop r).take (r + 2 - r)) 2 2 := by
        have h2 : ((t.s.drop r).take (r + 2 - r)).length ≤ 2 := by rw [List.length_take]; omega
        exact ⟨((pc.drop r).take _).ok, h2, Nat.le_trans List.count_le_length h2⟩
      exact (((pc.take r).app p2.rev).app (pc.drop _)).up (by decide) (by decide)
end Pf

namespace Pf
open PySem PySem.Spec PyProof.Rows L2 M
local macro_rules | `(tactic| walk_at "go") => `(tactic| try simp only [tSeq, tIfS, tIf, tNot, mTest, tCB, tCons, tNil, mVar, M.gt, mC, Bool.not_true, Bool.not_false, Bool.false_eq_true, if_false, if_true, tNext, tAsg, gName, gSub, List.set_cons_zero, List.set_cons_succ, mFor, mIter, mRevS, S_cps, S_len, S_app, tOp, tSl, mPart, mUn, tNoPart, tRet, tRetN, tTup, tLst, tAnd, tOr, mAndV, mOrV, mNotV, tCall, tCallSD, tDrop, mPar, mPar3, mLstM, mStrM, mBits, mRng1, mRng2, mgTup, mgSeq, mgCons, mgNil, q_add1, q_add2, q_add3, q_add4, q_iadd1, q_iadd2, q_iadd3, q_sorted, q_sub, q_mul1, q_mul2, q_mul3, q_mod, q_div, q_pow, q_eq1, q_eq2, q_eq3, q_eq4, q_eq5, q_eq6, q_eq7, q_eq8, q_eq9, q_eq10, q_ne1, q_ne2, q_ne3, q_ne9, q_ne10, q_lt, q_le, q_gt, q_ge, q_inc1, q_ix1, q_ix2, q_sl1, q_sl2, q_set, q_len1, q_len2, q_int1, q_int2, q_max, q_min, q_abs, q_sum, q_list, q_isi1, q_is1, q_not1, q_isN1, q_isN2, q_isN3, q_isN4, q_join, q_count, q_split, q_app, q_pop, q_clear, q_isiE, q_repr, wipe, List.map_cons, List.map_nil, List.length_cons, List.length_nil, List.length_append, List.length_map, List.nil_append, List.cons_append, List.append_nil, cut_m3, cut_t3, cut_m1, cut_t1, cut_t2, S_eq, decide_eq_true_eq, Bool.not_eq_true', decide_eq_false_iff_not, ne_eq])
local macro_rules | `(tactic| walk_at "hh") => `(tactic| first | assumption | exact upd_same | exact Ex.new (by assumption) _ _ (by walk_at "hh") | exact Ex.at (by assumption) (by assumption) | solve_by_elim [Ex.at])
local macro_rules | `(tactic| walk_at "ee") => `(tactic| first | assumption | exact Ex.refl _ | exact Ex.push (by walk_at "ee") (by assumption) | exact Ex.trans (by assumption) (by assumption) | solve_by_elim [Ex.trans])
local macro_rules | `(tactic| walk_at "sz") => `(tactic| first | (rw [szl]; omega) | (simp only [szl, tx_len, sg_len, List.length_map, List.length_append, List.length_cons, List.length_nil, List.length_singleton, List.length_take, List.length_drop, List.length_reverse, S_len]; omega))
theorem Bw.oth {K : PySem.W.Frag} {n : Nat} {H : Hp} {w : V} (h : Bw K n H w) : (∃ z, w = .str (S z) ∧ okc z ∧ z.length ≤ 1000000) ∨ Oth K H w := by
  cases h with
  | non => exact .inr .non
  | int h1 h2 => exact .inr (.int _)
  | bl b => exact .inr (.bl b)
  | str h1 h2 => exact .inl ⟨_, rfl, h1, h2⟩
  | lst h1 h2 h3 => exact .inr (.lst (SqL.of h1))
  | tup h1 h2 h3 => exact .inr (.tup (SqT.of h1))
  | dct h1 => exact .inr (.dct h1)
theorem Bw.tv {K : PySem.W.Frag} {n : Nat} {H : Hp} {w : V} (h : Bw K n H w) (hs : ∀ z, w = .str (S z) → isTr z = false) : TV K H w false := by
  rcases Bw.oth h with ⟨z, rfl, h1, h2⟩ | h
  · exact .inl ⟨z, rfl, h2, (hs z rfl).symm⟩
  · exact .inr ⟨h, rfl⟩
/-- what follows a caught refusal: a list grows, and the value that was told is shown as the thing is -/
def bad1 (K : PySem.W.Frag) (aI : Addr) : TS := (tSeq (tIfS (mTest (tCB (mIsi K) (tCons (mVar 0) (tCons (mC (.ty "list")) tNil)))) (tDrop (mLstM mApp (mVar 0) (tCons (mC (.str (S [109, 111, 114, 101]))) tNil))) tNext)
  (tIfS (tOr (tNot (mTest (tCB (mIsiE K) (tCons (mVar 2) (tCons (mC (.ref aI)) tNil))))) (mTest (tOp (mNe K) (tCB (mRepr K) (tCons (mFld K "value" (mVar 2)) tNil)) (tCB (mRepr K) (tCons (mVar 0) tNil))))) (tRet (mC (.bl false))) tNext))
theorem lp_bad1 (K : PySem.W.Frag) (aI a dd : Addr) (D : Ends) (H H' : Hp) (v : V) (m : List Addr) (d : PyData) (n : Nat) (x1 : Option V) (x : ExcK K "value" aI) (z1 : PySem.W.kitOne K (.ref aI) (.ref aI) = some true)
    (e : Ex H H') (ha : H' a = some (exk a (.ref aI) (some dd))) (hd : H' dd = some (.xd [("value", v)])) (bd : Bd K n H v m d) (hn : n < 1000)
    (k : ∀ H2 d', Fm m H H2 → Bd K (n + 1) H2 v m d' → D.nx [some v, x1, some (.ref a), none] H2) : bad1 K aI D [some v, x1, some (.ref a), none] H' := by
  unfold bad1
  walk_at "go"
  unfold mFld
  walk_at "go"
  cases bd with
  | st h1 h2 h3 h4 h6 h5 =>
    refine h5 H' _ e ?_
    walk_at "go"
    refine ⟨aI, dd, "value", _, true, x, ha, hd, z1, ?_⟩
    refine ⟨aI, dd, v, x, ha, hd, ?_⟩
    walk_at "go"
    refine ⟨d, h1 H' e, h2, h3, h4, d, h1 H' e, h2, h3, h4, ?_⟩
    rw [if_neg (fun z => z rfl)]
    exact k H' d (Fm.ex e) ((Bd.st h1 h2 h3 h4 h6 h5).ex e)
  | @ls p l h1 h2 h3 =>
    refine ⟨_, _, tyX_list (SqL.of (e _ _ h1)), ki_list.2.2.2.1, ?_⟩
    walk_at "go"
    refine ⟨⟨_, e _ _ h1⟩, _, e _ _ h1, by walk_at "sz", ?_⟩
    have l1 : H' p = some (.lst (tx l)) := e _ _ h1
    have na : a ≠ p := fun z => by rw [z, l1] at ha; cases ha
    have nd : dd ≠ p := fun z => by rw [z, l1] at hd; cases hd
    have e2 : (upd H' p (.lst (tx l ++ [.str (S [109, 111, 114, 101])]))) a = _ := (upd_ne na).trans ha
    have e3 : (upd H' p (.lst (tx l ++ [.str (S [109, 111, 114, 101])]))) dd = _ := (upd_ne nd).trans hd
    have b2 : Bd K (n + 1) (upd H' p (.lst (tx l ++ [.str (S [109, 111, 114, 101])]))) (.ref p) [p] (.list (dStrs (l ++ [[109, 111, 114, 101]]))) :=
      .ls (by rw [upd_same, tx_app]; rfl) (by rw [List.length_append, List.length_singleton]; omega) fun z hz => (List.mem_append.mp hz).elim (h3 z) fun y => by
        rw [List.mem_singleton.mp y]; exact ⟨by decide, by show ∀ c ∈ _, c < 1114112; decide⟩
    refine ⟨aI, dd, "value", _, true, x, e2, e3, z1, ?_⟩
    refine ⟨aI, dd, _, x, e2, e3, ?_⟩
    walk_at "go"
    obtain ⟨s1, s2, s3, s4, _⟩ := b2.shows (by omega)
    refine ⟨_, s1, s2, s3, s4, _, s1, s2, s3, s4, ?_⟩
    rw [if_neg (fun z => z rfl)]
    exact k _ _ (fun q o nq hq => (upd_ne (show q ≠ p from fun z => nq (by simp [z]))).trans (e _ _ hq)) b2
def sp__law_refused (K : PySem.W.Frag) : Sp := fun vs H Q _ => ∃ (v : V) (n : Nat), vs = [v] ∧ Bw K n H v ∧ n ≤ 800 ∧ (∀ z, v = .str (S z) → isTr z = false) ∧ ∀ H' k, Fm (rf v) H H' → n ≤ k → k ≤ n + 4 → Bw K k H' v → Q (.bl true) H'
theorem lp_refd (K : PySem.W.Frag) (aT aI s1 s2 s3 s4 : Addr) (x0 : PySem.W.exmOne K (.ref aI) (.ref aT) = some true) (x : ExcK K "value" aI) (z1 : PySem.W.kitOne K (.ref aI) (.ref aI) = some true) (D : Ends) (v : V) (hs : ∀ z, v = .str (S z) → isTr z = false) (H0 : Hp) :
    ∀ (s : List V) (n : Nat) (x1 x2 : Option V) (H1 : Hp), (∀ w ∈ s, ∃ i : Int, w = .int i ∧ 0 ≤ i ∧ i < 4) → n + s.length < 1000 → Bw K n H1 v → Fm (rf v) H0 H1 →
    (∀ (k : Nat) (w1 w2 : Option V) H2, Fm (rf v) H0 H2 → n ≤ k → k ≤ n + s.length → Bw K k H2 v → D.nx [some v, w1, w2, none] H2) →
    fV (fun _ => True) (gName 1) (rd__law_refused_b1 K (sp_size K aI) (sp_height K aI) (sp_leaves K aI) (sp_nodes K aI) (sp_is_tree K) aT aI s1 s2 s3 s4) D s [some v, x1, x2, none] H1
  | [], n, x1, x2, H1, _, hn, bw, f, kk => ⟨trivial, kk n _ _ H1 f (Nat.le_refl _) (by simp) bw⟩
  | w :: s, n, x1, x2, H1, hw, hn, bw, f, kk => by
    have ih := lp_refd K aT aI s1 s2 s3 s4 x0 x z1 D v hs H0 s
    simp only [List.length_cons] at hn
    obtain ⟨i, rfl, i0, i4⟩ := hw w List.mem_cons_self
    obtain ⟨m, d, bd, hm⟩ := Bw.bd bw
    simp only [fV]
    refine ⟨trivial, ?_⟩
    walk_at "go"
    unfold mTry
    walk_at "go"
    unfold tCallV
    walk_at "go"
    refine ⟨by walk_at "sz", fun p hp => ?_⟩
    have e1 := Ex.new (o := .lst [.ref s1, .ref s2, .ref s3, .ref s4]) hp
    have tv : TV K (upd H1 p (.lst [.ref s1, .ref s2, .ref s3, .ref s4])) v false := (Bw.tv bw hs).ex e1
    have bd1 := bd.ex e1
    have last : ∀ (x1 : Option V) (a : Addr) H2 d', Fm m (upd H1 p (.lst [.ref s1, .ref s2, .ref s3, .ref s4])) H2 → Bd K (n + 1) H2 v m d' →
        fV (fun _ => True) (gName 1) (rd__law_refused_b1 K (sp_size K aI) (sp_height K aI) (sp_leaves K aI) (sp_nodes K aI) (sp_is_tree K) aT aI s1 s2 s3 s4) D s [some v, x1, some (.ref a), none] H2 := fun x1 a H2 d' f2 bd2 => by
      have b2 : Bw K (n + 1) H2 v := (bw.ex e1).step bd1 f2 bd2 (by omega)
      have f3 : Fm (rf v) H1 H2 := (Fm.ex e1).trans (f2.mono fun y hy => rf_mem.mpr (hm y hy))
      refine ih (n + 1) _ _ H2 (fun w h => hw w (List.mem_cons_of_mem _ h)) (by omega) b2 (f.trans f3) fun k w1 w2 H3 f4 hk0 hk b3 => kk k w1 w2 H3 f4 (by omega) (by simp only [List.length_cons]; omega) b3
    obtain ⟨i, rfl⟩ := Int.eq_ofNat_of_zero_le i0
    rcases i with _ | _ | _ | _ | i
    · refine ⟨_, _, .inl (SqL.of upd_same), aI_0 _ _, _, List.mem_cons_self, rfl, v, rfl, .inl ⟨tv, fin_go x0 fun a dd H' e ha hd na nd => ?_⟩⟩
      exact lp_bad1 K aI a dd _ _ H' v m d n _ x z1 e ha hd bd1 (by omega) fun H2 d' f2 b2 => last _ a H2 d' f2 b2
    · refine ⟨_, _, .inl (SqL.of upd_same), aI_1 _ _ _, _, List.mem_cons_of_mem _ List.mem_cons_self, rfl, v, rfl, .inl ⟨tv, fin_go x0 fun a dd H' e ha hd na nd => ?_⟩⟩
      exact lp_bad1 K aI a dd _ _ H' v m d n _ x z1 e ha hd bd1 (by omega) fun H2 d' f2 b2 => last _ a H2 d' f2 b2
    · refine ⟨_, .ref s3, .inl (SqL.of upd_same), rfl, (.ref s3, sp_leaves K aI), by simp, rfl, v, rfl, .inl ⟨tv, fin_go x0 fun a dd H' e ha hd na nd => ?_⟩⟩
      exact lp_bad1 K aI a dd _ _ H' v m d n _ x z1 e ha hd bd1 (by omega) fun H2 d' f2 b2 => last _ a H2 d' f2 b2
    · refine ⟨_, .ref s4, .inl (SqL.of upd_same), rfl, (.ref s4, sp_nodes K aI), by simp, rfl, v, rfl, .inl ⟨tv, fin_go x0 fun a dd H' e ha hd na nd => ?_⟩⟩
      exact lp_bad1 K aI a dd _ _ H' v m d n _ x z1 e ha hd bd1 (by omega) fun H2 d' f2 b2 => last _ a H2 d' f2 b2
    · omega
theorem pu__law_refused (K : PySem.W.Frag) (aT aI s1 s2 s3 s4 : Addr) (x0 : PySem.W.exmOne K (.ref aI) (.ref aT) = some true) (x : ExcK K "value" aI) (z1 : PySem.W.kitOne K (.ref aI) (.ref aI) = some true) (vs : List V) (H : Hp) (Q : VK) (E : XK) (h : sp__law_refused K vs H Q E) :
    rd__law_refused K (sp_size K aI) (sp_height K aI) (sp_leaves K aI) (sp_nodes K aI) (sp_is_tree K) aT aI s1 s2 s3 s4 { nx := fun _ H' => Q .non H', rt := Q } (L2.start N__law_refused vs) H := by
  obtain ⟨v, n, rfl, bw, hn, hs, k⟩ := h
  show rd__law_refused K _ _ _ _ _ _ _ _ _ _ _ _ [some _, none, none, none] H
  unfold rd__law_refused
  walk_at "go"
  refine ⟨⟨by decide, by decide⟩, ?_⟩
  refine lp_refd K aT aI s1 s2 s3 s4 x0 x z1 _ v hs H _ n _ _ H (fun w hw => ?_) (by simp [upto]; omega) bw (Fm.refl _ _) fun j w1 w2 H2 f2 hj0 hj b2 => ?_
  · unfold upto at hw
    obtain ⟨i, hi, rfl⟩ := List.mem_map.mp hw
    have := List.mem_range.mp hi
    exact ⟨_, rfl, by omega, by simp at this; omega⟩
  · walk_at "go"
    refine ⟨v, false, rfl, Bw.tv b2 hs, fun H3 e3 => ?_⟩
    walk_at "go"
    exact k H3 j (f2.trans (Fm.ex e3)) hj0 (by simp [upto] at hj; omega) (b2.ex e3)
end Pf

namespace Pf
open PySem PySem.Spec PyProof.Rows L2 M
local macro_rules | `(tactic| walk_at "go") => `(tactic| try simp only [tSeq, tIfS, tIf, tNot, mTest, tCB, tCons, tNil, mVar, M.gt, mC, Bool.not_true, Bool.not_false, Bool.false_eq_true, if_false, if_true, tNext, tAsg, gName, gSub, List.set_cons_zero, List.set_cons_succ, mFor, mIter, mRevS, S_cps, S_len, S_app, tOp, tSl, mPart, mUn, tNoPart, tRet, tRetN, tTup, tLst, tAnd, tOr, mAndV, mOrV, mNotV, tCall, tCallSD, tDrop, mPar, mPar3, mLstM, mStrM, mBits, mRng1, mRng2, mgTup, mgSeq, mgCons, mgNil, q_add1, q_add2, q_add3, q_add4, q_iadd1, q_iadd2, q_iadd3, q_sorted, q_sub, q_mul1, q_mul2, q_mul3, q_mod, q_div, q_pow, q_eq1, q_eq2, q_eq3, q_eq4, q_eq5, q_eq6, q_eq7, q_eq8, q_eq9, q_eq10, q_ne1, q_ne2, q_ne3, q_ne9, q_ne10, q_lt, q_le, q_gt, q_ge, q_inc1, q_ix1, q_ix2, q_sl1, q_sl2, q_set, q_len1, q_len2, q_int1, q_int2, q_max, q_min, q_abs, q_sum, q_list, q_isi1, q_is1, q_not1, q_isN1, q_isN2, q_isN3, q_isN4, q_join, q_count, q_split, q_app, q_pop, q_clear, q_isiE, q_repr, wipe, List.map_cons, List.map_nil, List.length_cons, List.length_nil, List.length_append, List.length_map, List.nil_append, List.cons_append, List.append_nil, cut_m3, cut_t3, cut_m1, cut_t1, cut_t2, S_eq, decide_eq_true_eq, Bool.not_eq_true', decide_eq_false_iff_not, ne_eq])
local macro_rules | `(tactic| walk_at "hh") => `(tactic| first | assumption | exact upd_same | exact Ex.new (by assumption) _ _ (by walk_at "hh") | exact Ex.at (by assumption) (by assumption) | solve_by_elim [Ex.at])
local macro_rules | `(tactic| walk_at "ee") => `(tactic| first | assumption | exact Ex.refl _ | exact Ex.push (by walk_at "ee") (by assumption) | exact Ex.trans (by assumption) (by assumption) | solve_by_elim [Ex.trans])
local macro_rules | `(tactic| walk_at "sz") => `(tactic| first | (rw [szl]; omega) | (simp only [szl, tx_len, sg_len, List.length_map, List.length_append, List.length_cons, List.length_nil, List.length_singleton, List.length_take, List.length_drop, List.length_reverse, S_len]; omega))
/-- two pairs of lists of texts, alike -/
theorem eq_ll {K : PySem.W.Frag} {neg : Bool} {H : Hp} {Q : VK} {p q a b c d : Addr} {l1 l2 : List (List Nat)} (h1 : SqL K H p [.ref a, .ref b]) (h2 : SqL K H q [.ref c, .ref d]) (ha : SqL K H a (tx l1)) (hb : SqL K H b (tx l2)) (hc : SqL K H c (tx l1)) (hd : SqL K H d (tx l2)) (o1 : ∀ z ∈ l1, okc z) (o2 : ∀ z ∈ l2, okc z) (k : Q (.bl (!neg)) H) : rEqW K neg (.ref p) (.ref q) H Q := by
  have lay : (PyData.list [.list (dStrs l1), .list (dStrs l2)]).canLay0 = true := by simp only [PyData.canLay0, PyData.canLayAll0, lay_strs l1 o1, lay_strs l2 o2, Bool.and_self]
  refine ⟨.list [.list (dStrs l1), .list (dStrs l2)], .list [.list (dStrs l1), .list (dStrs l2)], .lst h1 (.cons (.lst ha (dp_strs l1)) (.cons (.lst hb (dp_strs l2)) .nil)), .lst h2 (.cons (.lst hc (dp_strs l1)) (.cons (.lst hd (dp_strs l2)) .nil)), lay, lay, by simp only [PyData.depth, PyData.depthAll, dep_strs]; decide, ?_⟩
  have e : PyData.eqv (.list [.list (dStrs l1), .list (dStrs l2)]) (.list [.list (dStrs l1), .list (dStrs l2)]) = true := by simp [PyData.eqv, PyData.eqvAll, eqv_strs]
  rw [e]
  cases neg <;> exact k
theorem isAd_okc {z : List Nat} (h : isAd z = true) : okc z := fun c hc => by
  unfold isAd at h
  rcases of_decide_eq_true h c hc with rfl | rfl <;> decide
theorem lvs_okc {t : Tr} {z : List Nat} (h : z ∈ t.lvs []) : okc z := by
  obtain ⟨z', e, hA, _⟩ := lvs_att t [] z h
  rw [List.nil_append] at e; subst e
  exact isAd_okc hA
theorem nds_okc {t : Tr} {z : List Nat} (h : z ∈ t.nds []) : okc z := by
  obtain ⟨z', _, _, e, hA, _⟩ := nds_att t [] z h
  rw [List.nil_append] at e; subst e
  exact isAd_okc hA
def sp__law_told_right : Sp := fun vs H Q _ => ∃ t : Tr, vs = [.str (S t.s)] ∧ t.n ≤ 300 ∧ ∀ H', Ex H H' → Q (.bl true) H'
section
variable (K : PySem.W.Frag) (aI : Addr) (N : Nat)

theorem lp_told (hN : 305 ≤ N) (D : Ends) (t : Tr) (ht : t.n ≤ 300) (v : V) (due d1 d2 : Addr) (H0 : Hp) : ∀ (s : List V) (x3 x4 : Option V) (H1 : Hp), Ex H0 H1 → Nst K H0 v t → H0 due = some (.lst [.ref d1, .ref d2]) → H0 d1 = some (.lst (tx (t.lvs []))) → H0 d2 = some (.lst (tx (t.nds []))) →
    (∀ (w3 w4 : Option V) H2, Ex H0 H2 → D.nx [some (.str (S t.s)), some v, some (.ref due), w3, w4] H2) →
    fV (fun _ => True) (gName 3) ((rd__law_told_right_b1 K (sp__law_parsed K) (sp__law_nodes K N) (sp__law_leaves K N) (sp_nodes K aI) (sp_leaves K aI) (sp_is_tree K) (sp_height K aI) (sp__law_high K N) (sp_size K aI))) D s [some (.str (S t.s)), some v, some (.ref due), x3, x4] H1
  | [], x3, x4, H1, e, hv, h0, h1, h2, k => ⟨trivial, k _ _ H1 e⟩
  | w :: s, x3, x4, H1, e, hv, h0, h1, h2, k => by
    have ih := lp_told hN D t ht v due d1 d2 H0 s
    have hth := t.ht_le
    simp only [fV]
    refine ⟨trivial, ?_⟩
    walk_at "go"
    refine ⟨_, rfl, .inr ⟨t, rfl, by omega, fun H2 p1 e1 n1 g1 => ?_⟩⟩
    refine ⟨_, rfl, .inr ⟨t, rfl, by omega, fun H3 p2 e2 n2 g2 => ?_⟩⟩
    walk_at "go"
    refine ⟨by walk_at "sz", fun f hf => ?_⟩
    have e3 := Ex.new (o := .lst [.ref p1, .ref p2]) hf
    have e13 := (e1.trans e2).trans e3
    have ea := e.trans e13
    refine eq_ll (l1 := t.lvs []) (l2 := t.nds []) (SqL.of upd_same) (SqL.of (ea _ _ h0)) (SqL.of ((e2.trans e3) _ _ g1)) (SqL.of (e3 _ _ g2)) (SqL.of (ea _ _ h1)) (SqL.of (ea _ _ h2)) (fun z => lvs_okc) (fun z => nds_okc) ?_
    walk_at "go"
    refine ⟨_, rfl, .inr ⟨t, rfl, by omega, fun H4 e4 => ?_⟩⟩
    walk_at "go"
    have eb := ea.trans e4
    refine ⟨_, _, .inl (SqL.of (eb _ _ h0)), aI_1 _ _ _, ?_⟩
    refine ⟨_, .inl (SqL.of (eb _ _ h2)), ?_⟩
    walk_at "go"
    rw [if_neg (by rw [tx_len, Tr.nds_len]; simp)]
    refine ⟨_, rfl, .inr ⟨t, rfl, by omega, fun H5 e5 => ?_⟩⟩
    have ec := eb.trans e5
    refine ⟨v, t, rfl, hv.ex ec, by omega, fun H6 e6 => ?_⟩
    walk_at "go"
    rw [if_neg (fun z => z trivial)]
    refine ⟨_, true, rfl, tv_tree K H6 t (by omega), fun H7 e7 => ?_⟩
    walk_at "go"
    have e37 := e4.trans (e5.trans (e6.trans e7))
    have gf : H7 f = some (.lst [.ref p1, .ref p2]) := e37 _ _ upd_same
    have gp1 : H7 p1 = some (.lst (tx (t.lvs []))) := e37 _ _ ((e2.trans e3) _ _ g1)
    have gp2 : H7 p2 = some (.lst (tx (t.nds []))) := e37 _ _ (e3 _ _ g2)
    have fp1 : f ≠ p1 := ne_new (e2 _ _ g1) hf
    have fp2 : f ≠ p2 := ne_new g2 hf
    have p21 : p2 ≠ p1 := ne_new g1 n2
    have m1 : H0 p1 = none := e.free n1
    have m2 : H0 p2 = none := e.free (e1.free n2)
    refine ⟨_, .ref p1, .inl (SqL.of gf), aI_0 _ _, ⟨_, gp1⟩, _, gp1, by rw [szl, tx_len, Tr.lvs_len]; omega, ?_⟩
    refine ⟨_, .ref p2, .inl (SqL.of ((upd_ne fp1).trans gf)), aI_1 _ _ _, ⟨_, (upd_ne p21).trans gp2⟩, _, (upd_ne p21).trans gp2, ?_⟩
    exact ih _ _ _ (((ec.trans (e6.trans e7)).mut m1).mut m2) hv h0 h1 h2 k
theorem pu__law_told_right (hN : 305 ≤ N) (vs : List V) (H : Hp) (Q : VK) (E : XK) (h : sp__law_told_right vs H Q E) : rd__law_told_right K (sp__law_parsed K) (sp__law_nodes K N) (sp__law_leaves K N) (sp_nodes K aI) (sp_leaves K aI) (sp_is_tree K) (sp_height K aI) (sp__law_high K N) (sp_size K aI) { nx := fun _ H' => Q .non H', rt := Q } (L2.start N__law_told_right vs) H := by
  obtain ⟨t, rfl, ht, k⟩ := h
  show rd__law_told_right K _ _ _ _ _ _ _ _ _ _ [some _, none, none, none, none] H
  unfold rd__law_told_right
  walk_at "go"
  refine ⟨t, rfl, by omega, fun H1 v e1 hv => ?_⟩
  walk_at "go"
  refine ⟨v, t, [], rfl, hv, by omega, by simp only [List.length_nil]; omega, fun H2 p1 e2 n1 g1 => ?_⟩
  refine ⟨v, t, [], rfl, hv.ex e2, by omega, by simp only [List.length_nil]; omega, fun H3 p2 e3 n2 g2 => ?_⟩
  walk_at "go"
  refine ⟨by walk_at "sz", fun due hd => ?_⟩
  refine ⟨⟨by decide, by decide⟩, ?_⟩
  have e4 := Ex.new (o := .lst [.ref p1, .ref p2]) hd
  refine lp_told K aI N hN _ t ht v due p1 p2 _ _ _ _ _ (Ex.refl _) (hv.ex ((e2.trans e3).trans e4)) upd_same ((e3.trans e4) _ _ g1) (e4 _ _ g2) fun w3 w4 H5 e5 => ?_
  walk_at "go"
  exact k H5 (((e1.trans (e2.trans e3)).trans e4).trans e5)
end
end Pf

namespace Pf
open PySem PySem.Spec PyProof.Rows L2 M
local macro_rules | `(tactic| walk_at "go") => `(tactic| try simp only [tSeq, tIfS, tIf, tNot, mTest, tCB, tCons, tNil, mVar, M.gt, mC, Bool.not_true, Bool.not_false, Bool.false_eq_true, if_false, if_true, tNext, tAsg, gName, gSub, List.set_cons_zero, List.set_cons_succ, mFor, mIter, mRevS, S_cps, S_len, S_app, tOp, tSl, mPart, mUn, tNoPart, tRet, tRetN, tTup, tLst, tAnd, tOr, mAndV, mOrV, mNotV, tCall, tCallSD, tDrop, mPar, mPar3, mLstM, mStrM, mBits, mRng1, mRng2, mgTup, mgSeq, mgCons, mgNil, q_add1, q_add2, q_add3, q_add4, q_iadd1, q_iadd2, q_iadd3, q_sorted, q_sub, q_mul1, q_mul2, q_mul3, q_mod, q_div, q_pow, q_eq1, q_eq2, q_eq3, q_eq4, q_eq5, q_eq6, q_eq7, q_eq8, q_eq9, q_eq10, q_ne1, q_ne2, q_ne3, q_ne9, q_ne10, q_lt, q_le, q_gt, q_ge, q_inc1, q_ix1, q_ix2, q_sl1, q_sl2, q_set, q_len1, q_len2, q_int1, q_int2, q_max, q_min, q_abs, q_sum, q_list, q_isi1, q_is1, q_not1, q_isN1, q_isN2, q_isN3, q_isN4, q_join, q_count, q_split, q_app, q_pop, q_clear, q_isiE, q_repr, wipe, List.map_cons, List.map_nil, List.length_cons, List.length_nil, List.length_append, List.length_map, List.nil_append, List.cons_append, List.append_nil, cut_m3, cut_t3, cut_m1, cut_t1, cut_t2, S_eq, decide_eq_true_eq, Bool.not_eq_true', decide_eq_false_iff_not, ne_eq])
local macro_rules | `(tactic| walk_at "hh") => `(tactic| first | assumption | exact upd_same | exact Ex.new (by assumption) _ _ (by walk_at "hh") | exact Ex.at (by assumption) (by assumption) | solve_by_elim [Ex.at])
local macro_rules | `(tactic| walk_at "ee") => `(tactic| first | assumption | exact Ex.refl _ | exact Ex.push (by walk_at "ee") (by assumption) | exact Ex.trans (by assumption) (by assumption) | solve_by_elim [Ex.trans])
local macro_rules | `(tactic| walk_at "sz") => `(tactic| first | (rw [szl]; omega) | (simp only [szl, tx_len, sg_len, List.length_map, List.length_append, List.length_cons, List.length_nil, List.length_singleton, List.length_take, List.length_drop, List.length_reverse, S_len]; omega))
section
variable (K : PySem.W.Frag) (aI : Addr) (N M : Nat)



theorem lw_1 (hM : 605 ≤ M) (D : Ends) (x0 x1 x2 x3 x4 x6 x7 : Option V) (q : Addr) (xs : List V) : ∀ (s : List (List Nat)) (x5 : Option V) (H : Hp), SqL K H q xs → (∀ z ∈ s, Pc z 5000 604) →
    (∀ (w5 : Option V) H', Ex H H' → D.nx [x0, x1, x2, x3, x4, w5, x6, x7] H') → fV (fun H => SqL K H q xs) (gName 5) ((rd_law_b1 K (sp__law_generator K) sp__law_random (sp__law_tree N) sp__law_told_right (sp_size K aI) sp__law_bent (sp__law_end M) (sp_is_tree K) (sp__law_refused K))) D (tx s) [x0, x1, x2, x3, x4, x5, x6, x7] H
  | [], x5, H, hL, hs, k => ⟨hL, k _ H (Ex.refl H)⟩
  | z :: s, x5, H, hL, hs, k => by
    have ih := lw_1 hM D x0 x1 x2 x3 x4 x6 x7 q xs s
    have hz := hs z List.mem_cons_self
    have hzl := hz.ln
    have hzc := hz.ct
    simp only [tx, List.map_cons, fV]
    refine ⟨hL, ?_⟩
    have goo : ∀ (H1 : Hp), Ex H H1 → fV (fun H => SqL K H q xs) (gName 5) ((rd_law_b1 K (sp__law_generator K) sp__law_random (sp__law_tree N) sp__law_told_right (sp_size K aI) sp__law_bent (sp__law_end M) (sp_is_tree K) (sp__law_refused K))) D (tx s) [x0, x1, x2, x3, x4, some (.str (S z)), x6, x7] H1 := fun H1 e1 =>
      ih _ H1 (e1.L hL) (fun y hy => hs y (List.mem_cons_of_mem _ hy)) fun w5 H2 e2 => k w5 H2 (e1.trans e2)
    have tv : ∀ Hx : Hp, TV K Hx (.str (S z)) (isTr z) := fun Hx => .inl ⟨z, rfl, by omega, rfl⟩
    have pi := pr_iff (z := z) (f := M) (by omega)
    walk_at "go"
    have fin : ∀ (b : Bool), isTr z = b → sp_is_tree K [.str (S z)] H (fun y H2 => mNe K (.bl b) y H2 fun x H' => match x with
        | .bl k => if k = true then D.rt (.bl false) H' else sp_is_tree K [.str (S z)] H' (fun x H' => match x with
          | .bl k => if k = false then sp__law_refused K [.str (S z)] H' (fun x H' => match x with
              | .bl k => if k = false then D.rt (.bl false) H' else fV (fun H => SqL K H q xs) (gName 5) ((rd_law_b1 K (sp__law_generator K) sp__law_random (sp__law_tree N) sp__law_told_right (sp_size K aI) sp__law_bent (sp__law_end M) (sp_is_tree K) (sp__law_refused K))) D (tx s) [x0, x1, x2, x3, x4, some (.str (S z)), x6, x7] H'
              | _ => False) E0
            else fV (fun H => SqL K H q xs) (gName 5) ((rd_law_b1 K (sp__law_generator K) sp__law_random (sp__law_tree N) sp__law_told_right (sp_size K aI) sp__law_bent (sp__law_end M) (sp_is_tree K) (sp__law_refused K))) D (tx s) [x0, x1, x2, x3, x4, some (.str (S z)), x6, x7] H'
          | _ => False) E0
        | _ => False) E0 := fun b hb => by
      refine ⟨_, b, rfl, hb ▸ tv H, fun H1 e1 => ?_⟩
      have nn : mNe K (.bl b) (.bl b) = fun H Q => Q (.bl false) H := by
        cases b <;> rfl
      dsimp only
      rw [nn]
      dsimp only
      rw [if_neg (by decide)]
      refine ⟨_, b, rfl, hb ▸ tv H1, fun H2 e2 => ?_⟩
      dsimp only
      cases b with
      | true => rw [if_neg (by decide)]; exact goo H2 (e1.trans e2)
      | false =>
        rw [if_pos rfl]
        refine ⟨_, 0, rfl, .str hz.ok (by omega), by decide, fun y hy => by obtain rfl := S_inj.mp (V.str.inj hy); exact hb, fun H3 k f3 _ _ _ => ?_⟩
        dsimp only
        rw [if_neg (by decide)]
        exact goo H3 ((e1.trans e2).trans (Fm.nil f3))
    refine ⟨z, 0, rfl, by rw [List.drop_zero]; omega, by omega, by omega, fun hn => ?_, fun j hj1 hj2 hp => ?_⟩
    · refine ⟨by walk_at "sz", ?_⟩
      rw [List.drop_zero] at hn
      have hb : isTr z = false := by
        cases c : isTr z with
        | false => rfl
        | true => rw [pi.mpr c] at hn; cases hn
      exact fin false hb
    · refine ⟨by walk_at "sz", ?_⟩
      rw [List.drop_zero] at hp
      have ne : mEq K (.int j) (.int z.length) = fun H Q => Q (.bl (decide (j = z.length))) H := by
        funext Hx Qx
        rw [q_eq1]
        have : decide ((j : Int) = (z.length : Int)) = decide (j = z.length) := decide_eq_decide.mpr (by omega)
        rw [this]
      rw [ne]
      refine fin _ ?_
      cases c : isTr z with
      | true =>
        have h1 := pi.mpr c
        rw [hp] at h1
        have h2 := congrArg List.length (Option.some.inj h1)
        rw [List.length_drop, List.length_nil] at h2
        exact (decide_eq_true (by omega)).symm
      | false =>
        refine (decide_eq_false fun h => ?_).symm
        rw [h, List.drop_length] at hp
        rw [pi.mp hp] at c; cases c
theorem Bw.mono {K : PySem.W.Frag} {n k : Nat} {H : Hp} {w : V} (hk : n ≤ k) (h : Bw K n H w) : Bw K k H w := by
  cases h with
  | non => exact .non
  | int h1 h2 => exact .int h1 h2
  | bl b => exact .bl b
  | str h1 h2 => exact .str h1 h2
  | lst h1 h2 h3 => exact .lst h1 (by omega) h3
  | tup h1 h2 h3 => exact .tup h1 h2 h3
  | dct h1 => exact .dct h1
/-- a row of bad values, each refused -/
theorem lw_3 (D : Ends) (Mm : List Addr) (x0 x1 x2 x3 x4 x5 x6 : Option V) (q : Addr) (xs : List V) (hq : q ∉ Mm) : ∀ (s : List V) (n : Nat) (x7 : Option V) (H : Hp), SqL K H q xs → (∀ w ∈ s, Bw K n H w ∧ (∀ z, w = .str (S z) → isTr z = false)) → (∀ w ∈ s, ∀ p ∈ rf w, p ∈ Mm) → n + 4 * s.length ≤ 800 →
    (∀ (w7 : Option V) H', Fm Mm H H' → D.nx [x0, x1, x2, x3, x4, x5, x6, w7] H') → fV (fun H => SqL K H q xs) (gName 7) ((rd_law_b3 K (sp__law_generator K) sp__law_random (sp__law_tree N) sp__law_told_right (sp_size K aI) sp__law_bent (sp__law_end M) (sp_is_tree K) (sp__law_refused K))) D s [x0, x1, x2, x3, x4, x5, x6, x7] H
  | [], n, x7, H, hL, hs, hm, hn, k => ⟨hL, k _ H (Fm.refl _ _)⟩
  | w :: s, n, x7, H, hL, hs, hm, hn, k => by
    have ih := lw_3 D Mm x0 x1 x2 x3 x4 x5 x6 q xs hq s
    simp only [List.length_cons] at hn
    obtain ⟨bw, hw⟩ := hs w List.mem_cons_self
    have hmw := hm w List.mem_cons_self
    simp only [fV]
    refine ⟨hL, ?_⟩
    walk_at "go"
    refine ⟨w, n, rfl, bw, by omega, hw, fun H2 j f2 j0 j1 b2 => ?_⟩
    walk_at "go"
    have fM : Fm Mm H H2 := f2.mono hmw
    exact ih (n + 4) _ H2 (SqL.fm hq fM hL) (fun y hy => ⟨(hs y (List.mem_cons_of_mem _ hy)).1.stp f2 (Bw.mono j1 b2) (by omega), (hs y (List.mem_cons_of_mem _ hy)).2⟩) (fun y hy => hm y (List.mem_cons_of_mem _ hy)) (by omega) fun w7 H3 f3 => k w7 H3 (fM.trans f3)
/-- one drawn tree -/
theorem lw_2 (hN : 305 ≤ N) (hM : 605 ≤ M) (D : Ends) (H : Hp) (a : Addr) (ns : List Int) (hL : SqL K H a (ns.map V.int)) (x6 x7 : Option V) : ∀ (s : List V) (x1 x2 x3 x4 x5 : Option V) (H1 : Hp), (∀ w ∈ s, ∃ i : Nat, w = .int i ∧ i ≤ 1000) → Ex H H1 →
    (∀ (w1 w2 w3 w4 w5 : Option V) H2, Ex H H2 → D.nx [some (.ref a), w1, w2, w3, w4, w5, x6, x7] H2) →
    fV (fun _ => True) (gName 1) ((rd_law_b2 K (sp__law_generator K) sp__law_random (sp__law_tree N) sp__law_told_right (sp_size K aI) sp__law_bent (sp__law_end M) (sp_is_tree K) (sp__law_refused K))) D s [some (.ref a), x1, x2, x3, x4, x5, x6, x7] H1
  | [], x1, x2, x3, x4, x5, H1, hs, e1, k => ⟨trivial, k _ _ _ _ _ H1 e1⟩
  | w :: s, x1, x2, x3, x4, x5, H1, hs, e1, k => by
    have ih := lw_2 hN hM D H a ns hL x6 x7 s
    obtain ⟨i, rfl, hi⟩ := hs w List.mem_cons_self
    simp only [fV]
    refine ⟨trivial, ?_⟩
    walk_at "go"
    refine ⟨a, ns, i, rfl, e1.L hL, hi, fun g o hg pu => ?_⟩
    have ng : H g = none := e1.free hg
    have e2 := e1.push (o := o) hg
    walk_at "go"
    refine ⟨by walk_at "sz", fun p hp => ?_⟩
    refine ⟨g, 2000000, 4, rfl, by decide, by decide, by decide, pu.fm (Ex.new hp), fun H2 r f2 p2 r0 r1 => ?_⟩
    have e3 := e2.push (o := .lst [.int 4, .int 13, .int 61, .int 301]) hp
    have gp : p ≠ g := pu.ne hp
    have hp2 := f2 p _ (by simpa using gp) upd_same
    obtain ⟨r, rfl⟩ := Int.eq_ofNat_of_zero_le r0
    obtain ⟨c, hc, c0, c1⟩ : ∃ c : Nat, atI [V.int 4, V.int 13, V.int 61, V.int 301] (r : Int) = some (.int (c : Int)) ∧ 0 < c ∧ c ≤ 301 := by
      rcases r with _ | _ | _ | _ | r
      · exact ⟨4, rfl, by decide, by decide⟩
      · exact ⟨13, rfl, by decide, by decide⟩
      · exact ⟨61, rfl, by decide, by decide⟩
      · exact ⟨301, rfl, by decide, by decide⟩
      · omega
    refine ⟨_, _, .inl (SqL.of hp2), hc, ?_⟩
    refine ⟨g, 2000010, c, rfl, by omega, by omega, by omega, p2, fun H3 n f3 p3 n0 n1 => ?_⟩
    obtain ⟨n, rfl⟩ := Int.eq_ofNat_of_zero_le n0
    walk_at "go"
    refine ⟨g, 2000020, n, rfl, by omega, by omega, by omega, p3, fun H4 t ht f4 p4 => ?_⟩
    have e4 : Ex H H4 := Fm.exg e3 ng (f2.trans (f3.trans f4))
    walk_at "go"
    refine ⟨_, rfl, .inr ⟨t, rfl, by omega, fun H5 e5 => ?_⟩⟩
    walk_at "go"
    rw [if_neg (by rw [ht]; simp)]
    refine ⟨t, rfl, by omega, fun H6 e6 => ?_⟩
    walk_at "go"
    refine ⟨g, 2000020 + 20 * n, t, rfl, by omega, by omega, p4.fm (e5.trans e6), fun H7 q L f7 p7 nq hq hL2 hl => ?_⟩
    have e7 : Ex H H7 := Fm.exg (e4.trans (e5.trans e6)) ng f7
    refine ⟨_, .inl ⟨SqL.of hq, ?_⟩⟩
    refine lw_1 K aI N M hM _ _ _ _ _ _ _ _ q _ L _ H7 (SqL.of hq) hL2 fun w5 H8 e8 => ?_
    exact ih _ _ _ _ _ H8 (fun y hy => hs y (List.mem_cons_of_mem _ hy)) (e7.trans e8) k
theorem rep_facts (x : List Nat) : ∀ n, ((List.replicate n x).flatten).length = n * x.length ∧ ((List.replicate n x).flatten).count 40 = n * x.count 40 ∧ (okc x → okc (List.replicate n x).flatten)
  | 0 => ⟨by simp, by simp, fun _ c h => by cases h⟩
  | n + 1 => by
    obtain ⟨h1, h2, h3⟩ := rep_facts x n
    simp only [List.replicate_succ, List.flatten_cons, List.length_append, List.count_append, h1, h2, Nat.add_mul, Nat.one_mul]
    exact ⟨by omega, by omega, fun h => okc_app h (h3 h)⟩
theorem no_tree {z : List Nat} (h : z.length ≠ 3 * z.count 40 + 1) : isTr z = false := by
  cases c : isTr z with
  | false => rfl
  | true =>
    obtain ⟨t, rfl⟩ := (isTr_iff z).mp c
    rw [t.cnt_op, t.s_len] at h
    exact absurd rfl h
def sp_law : Sp := fun vs H Q _ => ∃ (a : Addr) (ns : List Int), vs = [.ref a] ∧ SqL K H a (ns.map V.int) ∧ ∀ H', Q (.bl true) H'
theorem pu_law (hN : 305 ≤ N) (hM : 605 ≤ M) (vs : List V) (H : Hp) (Q : VK) (E : XK) (h : sp_law K vs H Q E) : rd_law K (sp__law_generator K) sp__law_random (sp__law_tree N) sp__law_told_right (sp_size K aI) sp__law_bent (sp__law_end M) (sp_is_tree K) (sp__law_refused K) { nx := fun _ H' => Q .non H', rt := Q } (L2.start N_law vs) H := by
  obtain ⟨a, ns, rfl, hL, k⟩ := h
  show rd_law K _ _ _ _ _ _ _ _ _ _ [some _, none, none, none, none, none, none, none] H
  unfold rd_law
  walk_at "go"
  refine ⟨⟨by decide, by decide⟩, ?_⟩
  refine lw_2 K aI N M hN hM _ H a ns hL _ _ _ _ _ _ _ _ H (fun w hw => ?_) (Ex.refl H) fun w1 w2 w3 w4 w5 H1 e1 => ?_
  · unfold upto at hw
    obtain ⟨i, hi, rfl⟩ := List.mem_map.mp hw
    have := List.mem_range.mp hi
    exact ⟨i, by simp, by simp at this; omega⟩
  walk_at "go"
  have hA := rep_facts [40] (Int.toNat 1200)
  have hB := rep_facts [46] (Int.toNat 1201)
  have hC := rep_facts [40, 46] (Int.toNat 1200)
  have hD := rep_facts [46] (Int.toNat 1200)
  have hE := rep_facts [41] (Int.toNat 1200)
  generalize (List.replicate (Int.toNat 1200) [40]).flatten = zA at *
  generalize (List.replicate (Int.toNat 1201) [46]).flatten = zB at *
  generalize (List.replicate (Int.toNat 1200) [40, 46]).flatten = zC at *
  generalize (List.replicate (Int.toNat 1200) [46]).flatten = zD at *
  generalize (List.replicate (Int.toNat 1200) [41]).flatten = zE at *
  simp only [show Int.toNat 1200 = 1200 from rfl, show Int.toNat 1201 = 1201 from rfl, List.length_cons, List.length_nil, show List.count 40 [40] = 1 by decide, show List.count 40 [46] = 0 by decide, show List.count 40 [41] = 0 by decide, show List.count 40 [40, 46] = 1 by decide] at hA hB hC hD hE
  obtain ⟨a1, a2, a3⟩ := hA
  obtain ⟨b1, b2, b3⟩ := hB
  obtain ⟨c1, c2, c3⟩ := hC
  obtain ⟨d1, d2, d3⟩ := hD
  obtain ⟨f1, f2, f3⟩ := hE
  have oo : ∀ w : List Nat, (∀ c ∈ w, c < 1114112) → okc w := fun w h => h
  replace a3 := a3 (oo _ (by decide))
  replace b3 := b3 (oo _ (by decide))
  replace c3 := c3 (oo _ (by decide))
  replace d3 := d3 (oo _ (by decide))
  replace f3 := f3 (oo _ (by decide))
  refine ⟨by walk_at "sz", fun q1 g1 => ⟨by decide, by decide, by decide, by walk_at "sz", by decide, by decide, by decide, by walk_at "sz", fun q2 g2 => ?_⟩⟩
  have x1 := Ex.new (o := .lst [V.str (S []), V.str (S [32, 46]), V.str (S [40]), V.str (S [41]), V.str (S [40, 40, 46, 46, 41]), V.str (S [40, 46, 46, 41, 41]), V.str (S [40, 46, 41]), V.str (S [40, 46, 46, 46, 41]), V.str (S [40, 46, 46, 41, 32]), V.str (S [40, 46, 46, 41, 10]), V.str (S [32, 40, 46, 46, 41]), V.str (S [40, 32, 46, 46, 41]), V.str (S [40, 46, 46]), V.str (S [46, 46, 41])]) g1
  refine ⟨_, _, by walk_at "hh", upd_same, by walk_at "sz", fun q3 g3 => ⟨by walk_at "sz", fun p1 h1 => ⟨by walk_at "sz", fun p2 h2 => ?_⟩⟩⟩
  refine ⟨by walk_at "sz", fun p3 h3 => ⟨by walk_at "sz", fun p4 h4 => ?_⟩⟩
  unfold tDNewK
  walk_at "go"
  refine fun p5 h5 => ?_
  walk_at "go"
  refine ⟨by walk_at "sz", fun q4 g4 => ?_⟩
  have y2 := x1.push (o := .lst [V.str (S zA), V.str (S (zA ++ zB)), V.str (S zC), V.str (S zD), V.str (S zE)]) g2
  have y3 := y2.push (o := .lst ([V.str (S []), V.str (S [32, 46]), V.str (S [40]), V.str (S [41]), V.str (S [40, 40, 46, 46, 41]), V.str (S [40, 46, 46, 41, 41]), V.str (S [40, 46, 41]), V.str (S [40, 46, 46, 46, 41]), V.str (S [40, 46, 46, 41, 32]), V.str (S [40, 46, 46, 41, 10]), V.str (S [32, 40, 46, 46, 41]), V.str (S [40, 32, 46, 46, 41]), V.str (S [40, 46, 46]), V.str (S [46, 46, 41])] ++ [V.str (S zA), V.str (S (zA ++ zB)), V.str (S zC), V.str (S zD), V.str (S zE)])) g3
  have u1 := Ex.new (o := .lst []) h1
  have u2 := u1.push (o := .lst [V.str (S [46])]) h2
  have u3 := u2.push (o := .tup []) h3
  have u4 := u3.push (o := .tup [V.str (S [46]), V.str (S [46])]) h4
  have u5 := u4.push (o := .dK []) h5
  have u6 := u5.push (o := .lst [V.non, V.bl true, V.int 0, V.int 7, V.ref p1, V.ref p2, V.ref p3, V.ref p4, V.ref p5]) g4
  refine ⟨_, _, u6 _ _ upd_same, upd_same, by walk_at "sz", fun q5 g5 => ?_⟩
  refine ⟨_, .inl ⟨SqL.of upd_same, ?_⟩⟩
  have d1 : q5 ≠ p1 := by exact ne_new (by walk_at "hh") g5
  have d2' : q5 ≠ p2 := by exact ne_new (by walk_at "hh") g5
  have d3' : q5 ≠ p3 := by exact ne_new (by walk_at "hh") g5
  have d4 : q5 ≠ p4 := by exact ne_new (by walk_at "hh") g5
  have d5 : q5 ≠ p5 := by exact ne_new (by walk_at "hh") g5
  refine lw_3 K aI N M _ [p1, p2, p3, p4, p5] _ _ _ _ _ _ _ q5 _ (by simp only [List.mem_cons, List.not_mem_nil, or_false, not_or]; exact ⟨d1, d2', d3', d4, d5⟩) _ 1 _ _ (SqL.of upd_same) ?bad ?mm (by simp only [List.length_append, List.length_cons, List.length_nil]; decide) fun w7 H8 f8 => ?_
  case bad =>
    have st : ∀ {Hx : Hp} {z : List Nat}, isTr z = false → okc z → z.length ≤ 1000000 → Bw K 1 Hx (.str (S z)) ∧ ∀ y, V.str (S z) = .str (S y) → isTr y = false := fun h1 h2 h3 => ⟨.str h2 h3, fun y hy => by obtain rfl := S_inj.mp (V.str.inj hy); exact h1⟩
    intro w hw
    simp only [List.cons_append, List.nil_append, List.mem_cons, List.not_mem_nil, or_false] at hw
    rcases hw with rfl | rfl | rfl | rfl | rfl | rfl | rfl | rfl | rfl | rfl | rfl | rfl | rfl | rfl | rfl | rfl | rfl | rfl | rfl | rfl | rfl | rfl | rfl | rfl | rfl | rfl | rfl | rfl
    iterate 14
      · exact st (by decide) (by show ∀ c ∈ _, c < 1114112; decide) (by decide)
    · exact st (no_tree (by omega)) a3 (by omega)
    · exact st (no_tree (by rw [List.length_append, List.count_append]; omega)) (okc_app a3 b3) (by rw [List.length_append]; omega)
    · exact st (no_tree (by omega)) c3 (by omega)
    · exact st (no_tree (by omega)) d3 (by omega)
    · exact st (no_tree (by omega)) f3 (by omega)
    · exact ⟨.non, fun z h => by cases h⟩
    · exact ⟨.bl _, fun z h => by cases h⟩
    · exact ⟨.int (by decide) (by decide +kernel), fun z h => by cases h⟩
    · exact ⟨.int (by decide) (by decide +kernel), fun z h => by cases h⟩
    · exact ⟨.lst (l := []) (by walk_at "hh") (by simp) (fun z hz => by cases hz), fun z h => by cases h⟩
    · exact ⟨.lst (l := [[46]]) (by walk_at "hh") (by simp) (fun z hz => by rw [List.mem_singleton.mp hz]; exact ⟨by decide, by show ∀ c ∈ _, c < 1114112; decide⟩), fun z h => by cases h⟩
    · exact ⟨.tup (l := []) (by walk_at "hh") (by simp) (fun z hz => by cases hz), fun z h => by cases h⟩
    · exact ⟨.tup (l := [[46], [46]]) (by walk_at "hh") (by simp) (fun z hz => by
        simp only [List.mem_cons, List.not_mem_nil, or_false, or_self] at hz
        rw [hz]; exact ⟨by decide, by show ∀ c ∈ _, c < 1114112; decide⟩), fun z h => by cases h⟩
    · exact ⟨.dct (by walk_at "hh"), fun z h => by cases h⟩
  case mm =>
    intro w hw p hp
    rw [rf_mem] at hp
    subst hp
    simp only [List.cons_append, List.nil_append, List.mem_cons, List.not_mem_nil, or_false] at hw ⊢
    rcases hw with h | h | h | h | h | h | h | h | h | h | h | h | h | h | h | h | h | h | h | h | h | h | h | h | h | h | h | h <;> cases h <;> simp
  walk_at "go"
  exact k H8
end
end Pf

namespace Pf
open PySem PySem.Spec PyProof.Rows L2 M
abbrev Rw : PySem.W.OpenRow := PySem.W.OpenLaw.row PySem.Challenge.rw_treeturns_k02_trees_told
abbrev Pg : Program := (PySem.Challenge.rw_treeturns_k02_trees_told).prog
def dx_InvalidTree___init__ : DefX := ⟨("InvalidTree", some "__init__"), "__init__", "InvalidTree.__init__", defArgs (inClass (top 2) 0), defBody (inClass (top 2) 0), defScope (inClass (top 2) 0), [.non], [], ["__class__"]⟩
def dx_is_tree : DefX := ⟨("is_tree", none), "is_tree", "is_tree", defArgs (top 4), defBody (top 4), defScope (top 4), [], [], []⟩
def dx_check_tree : DefX := ⟨("check_tree", none), "check_tree", "check_tree", defArgs (top 5), defBody (top 5), defScope (top 5), [], [], []⟩
def dx_size : DefX := ⟨("size", none), "size", "size", defArgs (top 6), defBody (top 6), defScope (top 6), [], [], []⟩
def dx_height : DefX := ⟨("height", none), "height", "height", defArgs (top 7), defBody (top 7), defScope (top 7), [], [], []⟩
def dx_walked : DefX := ⟨("walked", none), "walked", "walked", defArgs (top 8), defBody (top 8), defScope (top 8), [], [], []⟩
def dx_addresses_of_leaves : DefX := ⟨("addresses_of_leaves", none), "addresses_of_leaves", "addresses_of_leaves", defArgs (top 9), defBody (top 9), defScope (top 9), [], [], []⟩
def dx_leaves : DefX := ⟨("leaves", none), "leaves", "leaves", defArgs (top 10), defBody (top 10), defScope (top 10), [], [], []⟩
def dx_nodes : DefX := ⟨("nodes", none), "nodes", "nodes", defArgs (top 11), defBody (top 11), defScope (top 11), [], [], []⟩
def dx__law_cell : DefX := ⟨("_law_cell", none), "_law_cell", "_law_cell", defArgs (top 13), defBody (top 13), defScope (top 13), [], [], []⟩
def dx__law_hash : DefX := ⟨("_law_hash", none), "_law_hash", "_law_hash", defArgs (top 14), defBody (top 14), defScope (top 14), [], [], []⟩
def dx__law_generator : DefX := ⟨("_law_generator", none), "_law_generator", "_law_generator", defArgs (top 15), defBody (top 15), defScope (top 15), [], [], []⟩
def dx__law_random : DefX := ⟨("_law_random", none), "_law_random", "_law_random", defArgs (top 16), defBody (top 16), defScope (top 16), [], [], []⟩
def dx__law_tree : DefX := ⟨("_law_tree", none), "_law_tree", "_law_tree", defArgs (top 17), defBody (top 17), defScope (top 17), [], [], []⟩
def dx__law_parsed : DefX := ⟨("_law_parsed", none), "_law_parsed", "_law_parsed", defArgs (top 18), defBody (top 18), defScope (top 18), [], [], []⟩
def dx__law_leaves : DefX := ⟨("_law_leaves", none), "_law_leaves", "_law_leaves", defArgs (top 19), defBody (top 19), defScope (top 19), [], [], []⟩
def dx__law_nodes : DefX := ⟨("_law_nodes", none), "_law_nodes", "_law_nodes", defArgs (top 20), defBody (top 20), defScope (top 20), [], [], []⟩
def dx__law_end : DefX := ⟨("_law_end", none), "_law_end", "_law_end", defArgs (top 21), defBody (top 21), defScope (top 21), [], [], []⟩
def dx__law_high : DefX := ⟨("_law_high", none), "_law_high", "_law_high", defArgs (top 22), defBody (top 22), defScope (top 22), [], [], []⟩
def dx__law_bent : DefX := ⟨("_law_bent", none), "_law_bent", "_law_bent", defArgs (top 23), defBody (top 23), defScope (top 23), [], [], []⟩
def dx__law_refused : DefX := ⟨("_law_refused", none), "_law_refused", "_law_refused", defArgs (top 24), defBody (top 24), defScope (top 24), [], [], []⟩
def dx__law_told_right : DefX := ⟨("_law_told_right", none), "_law_told_right", "_law_told_right", defArgs (top 25), defBody (top 25), defScope (top 25), [], [], []⟩
def dx_law : DefX := ⟨("law", none), "law", "law", defArgs (top 26), defBody (top 26), defScope (top 26), [], [], []⟩
def fnL : List DefX := ([dx_InvalidTree___init__,
  dx_is_tree,
  dx_check_tree,
  dx_size,
  dx_height,
  dx_walked,
  dx_addresses_of_leaves,
  dx_leaves,
  dx_nodes,
  dx__law_cell,
  dx__law_hash,
  dx__law_generator,
  dx__law_random,
  dx__law_tree,
  dx__law_parsed,
  dx__law_leaves,
  dx__law_nodes,
  dx__law_end,
  dx__law_high,
  dx__law_bent,
  dx__law_refused,
  dx__law_told_right,
  dx_law] : List DefX)
def faL : List FaX := ([fun K => (He.Fa.glo "TurnError").ok K,
  fun K => (He.Fa.glo "InvalidTree").ok K,
  fun K => (He.Fa.glo "is_tree").ok K,
  fun K => (He.Fa.glo "check_tree").ok K,
  fun K => (He.Fa.glo "size").ok K,
  fun K => (He.Fa.glo "height").ok K,
  fun K => (He.Fa.glo "walked").ok K,
  fun K => (He.Fa.glo "addresses_of_leaves").ok K,
  fun K => (He.Fa.glo "leaves").ok K,
  fun K => (He.Fa.glo "nodes").ok K,
  fun K => (He.Fa.glo "_law_cell").ok K,
  fun K => (He.Fa.glo "_law_hash").ok K,
  fun K => (He.Fa.glo "_law_generator").ok K,
  fun K => (He.Fa.glo "_law_random").ok K,
  fun K => (He.Fa.glo "_law_tree").ok K] : List FaX) ++ ([fun K => (He.Fa.glo "_law_parsed").ok K,
  fun K => (He.Fa.glo "_law_leaves").ok K,
  fun K => (He.Fa.glo "_law_nodes").ok K,
  fun K => (He.Fa.glo "_law_end").ok K,
  fun K => (He.Fa.glo "_law_high").ok K,
  fun K => (He.Fa.glo "_law_bent").ok K,
  fun K => (He.Fa.glo "_law_refused").ok K,
  fun K => (He.Fa.glo "_law_told_right").ok K,
  fun K => (He.Fa.glo "law").ok K,
  fun K => (He.Fa.free "isinstance").ok K,
  fun K => (He.Fa.free "str").ok K,
  fun K => (He.Fa.free "max").ok K,
  fun K => (He.Fa.free "len").ok K,
  fun K => (He.Fa.free "int").ok K,
  fun K => (He.Fa.free "range").ok K] : List FaX) ++ ([fun K => (He.Fa.free "list").ok K,
  fun K => (He.Fa.free "repr").ok K,
  fun K => exB Pg "InvalidTree" "value" K,
  fun K => (He.Fa.exm "InvalidTree" "TurnError" true).ok K,
  fun K => decide (PySem.W.kitOne K (.ref (He.ga K "InvalidTree")) (.ref (He.ga K "InvalidTree")) = some true)] : List FaX)
def loose : List PySem.Str := (["TurnError",
  "InvalidTree",
  "is_tree",
  "check_tree",
  "size",
  "height",
  "walked",
  "addresses_of_leaves",
  "leaves",
  "nodes",
  "_law_cell",
  "_law_hash",
  "_law_generator",
  "_law_random",
  "_law_tree",
  "_law_parsed",
  "_law_leaves",
  "_law_nodes",
  "_law_end",
  "_law_high",
  "_law_bent",
  "_law_refused",
  "_law_told_right"] : List PySem.Str)
abbrev hk : PySem.W.Hook := hookX 4 faL fnL
def ob (s : PySem.W.SharedT) : AlX := obsXG 4 faL fnL (HandSHeadRun.getT s)
theorem ob_eq (s : PySem.W.SharedT) : ob s = hk.obs s.abs := obsXG_eq (HandSHeadRun.getT_eq s)
set_option maxHeartbeats 0 in
theorem run (w : World) : HandSHeadRun.RunEq Rw (PySem.W.view Rw.prog [26]) hk ob 6000 loose w := by
  intro os
  kernel_rfl
theorem facts {w : World} {K : PySem.W.Frag} {h : Heap} {mg : Str → Option Value} {fa : Addr} (X : K.In h) (G : h.Ns mainGlobals mg) (hfa : mg ("law" : Str) = some (.ref fa)) (c : SaysX faL fnL K) :
    ∃ fd : FuncData, (∀ (s : Shared) (v : Value), BindsTo s fd ⟨[v], []⟩ [("_law_script", v)]) ∧ ∀ base : Heap, K.In base → base.Ns mainGlobals mg → FnG Pg w K mg base CX0 650 fa fd ["_law_script"] (sp_law K) := by
  have g_TurnError : mg "TurnError" = some (.ref (He.ga K "TurnError")) := He.glo_ok X G (c.fact 0 (f := fun K => (He.Fa.glo "TurnError").ok K))
  have g_InvalidTree : mg "InvalidTree" = some (.ref (He.ga K "InvalidTree")) := He.glo_ok X G (c.fact 1 (f := fun K => (He.Fa.glo "InvalidTree").ok K))
  have g_is_tree : mg "is_tree" = some (.ref (He.ga K "is_tree")) := He.glo_ok X G (c.fact 2 (f := fun K => (He.Fa.glo "is_tree").ok K))
  have g_check_tree : mg "check_tree" = some (.ref (He.ga K "check_tree")) := He.glo_ok X G (c.fact 3 (f := fun K => (He.Fa.glo "check_tree").ok K))
  have g_size : mg "size" = some (.ref (He.ga K "size")) := He.glo_ok X G (c.fact 4 (f := fun K => (He.Fa.glo "size").ok K))
  have g_height : mg "height" = some (.ref (He.ga K "height")) := He.glo_ok X G (c.fact 5 (f := fun K => (He.Fa.glo "height").ok K))
  have g_walked : mg "walked" = some (.ref (He.ga K "walked")) := He.glo_ok X G (c.fact 6 (f := fun K => (He.Fa.glo "walked").ok K))
  have g_addresses_of_leaves : mg "addresses_of_leaves" = some (.ref (He.ga K "addresses_of_leaves")) := He.glo_ok X G (c.fact 7 (f := fun K => (He.Fa.glo "addresses_of_leaves").ok K))
  have g_leaves : mg "leaves" = some (.ref (He.ga K "leaves")) := He.glo_ok X G (c.fact 8 (f := fun K => (He.Fa.glo "leaves").ok K))
  have g_nodes : mg "nodes" = some (.ref (He.ga K "nodes")) := He.glo_ok X G (c.fact 9 (f := fun K => (He.Fa.glo "nodes").ok K))
  have g__law_cell : mg "_law_cell" = some (.ref (He.ga K "_law_cell")) := He.glo_ok X G (c.fact 10 (f := fun K => (He.Fa.glo "_law_cell").ok K))
  have g__law_hash : mg "_law_hash" = some (.ref (He.ga K "_law_hash")) := He.glo_ok X G (c.fact 11 (f := fun K => (He.Fa.glo "_law_hash").ok K))
  have g__law_generator : mg "_law_generator" = some (.ref (He.ga K "_law_generator")) := He.glo_ok X G (c.fact 12 (f := fun K => (He.Fa.glo "_law_generator").ok K))
  have g__law_random : mg "_law_random" = some (.ref (He.ga K "_law_random")) := He.glo_ok X G (c.fact 13 (f := fun K => (He.Fa.glo "_law_random").ok K))
  have g__law_tree : mg "_law_tree" = some (.ref (He.ga K "_law_tree")) := He.glo_ok X G (c.fact 14 (f := fun K => (He.Fa.glo "_law_tree").ok K))
  have g__law_parsed : mg "_law_parsed" = some (.ref (He.ga K "_law_parsed")) := He.glo_ok X G (c.fact 15 (f := fun K => (He.Fa.glo "_law_parsed").ok K))
  have g__law_leaves : mg "_law_leaves" = some (.ref (He.ga K "_law_leaves")) := He.glo_ok X G (c.fact 16 (f := fun K => (He.Fa.glo "_law_leaves").ok K))
  have g__law_nodes : mg "_law_nodes" = some (.ref (He.ga K "_law_nodes")) := He.glo_ok X G (c.fact 17 (f := fun K => (He.Fa.glo "_law_nodes").ok K))
  have g__law_end : mg "_law_end" = some (.ref (He.ga K "_law_end")) := He.glo_ok X G (c.fact 18 (f := fun K => (He.Fa.glo "_law_end").ok K))
  have g__law_high : mg "_law_high" = some (.ref (He.ga K "_law_high")) := He.glo_ok X G (c.fact 19 (f := fun K => (He.Fa.glo "_law_high").ok K))
  have g__law_bent : mg "_law_bent" = some (.ref (He.ga K "_law_bent")) := He.glo_ok X G (c.fact 20 (f := fun K => (He.Fa.glo "_law_bent").ok K))
  have g__law_refused : mg "_law_refused" = some (.ref (He.ga K "_law_refused")) := He.glo_ok X G (c.fact 21 (f := fun K => (He.Fa.glo "_law_refused").ok K))
  have g__law_told_right : mg "_law_told_right" = some (.ref (He.ga K "_law_told_right")) := He.glo_ok X G (c.fact 22 (f := fun K => (He.Fa.glo "_law_told_right").ok K))
  have g_law : mg "law" = some (.ref (He.ga K "law")) := He.glo_ok X G (c.fact 23 (f := fun K => (He.Fa.glo "law").ok K))
  have T : Tx K mg := ⟨He.free_ok X G (c.fact 24 (f := fun K => (He.Fa.free "isinstance").ok K)), He.free_ok X G (c.fact 25 (f := fun K => (He.Fa.free "str").ok K)), He.free_ok X G (c.fact 26 (f := fun K => (He.Fa.free "max").ok K)), He.free_ok X G (c.fact 27 (f := fun K => (He.Fa.free "len").ok K)), He.free_ok X G (c.fact 28 (f := fun K => (He.Fa.free "int").ok K)), He.free_ok X G (c.fact 29 (f := fun K => (He.Fa.free "range").ok K)), He.free_ok X G (c.fact 30 (f := fun K => (He.Fa.free "list").ok K)), He.free_ok X G (c.fact 31 (f := fun K => (He.Fa.free "repr").ok K))⟩
  have x1 : PySem.W.exmOne K (.ref (He.ga K "InvalidTree")) (.ref (He.ga K "TurnError")) = some true := He.exm_ok (c.fact 33 (f := fun K => (He.Fa.exm "InvalidTree" "TurnError" true).ok K))
  have z1 : PySem.W.kitOne K (.ref (He.ga K "InvalidTree")) (.ref (He.ga K "InvalidTree")) = some true := of_decide_eq_true (c.fact 34 (f := fun K => decide (PySem.W.kitOne K (.ref (He.ga K "InvalidTree")) (.ref (He.ga K "InvalidTree")) = some true)))
  obtain ⟨X_InvalidTree, E_InvalidTree⟩ : ExcAt Pg w K mg "InvalidTree" "value" (He.ga K "InvalidTree") ∧ ExcK K "value" (He.ga K "InvalidTree") := ex_of (q := [⟨7, 8, 7, 13⟩, ⟨7, 8, 7, 15⟩, ⟨7, 8, 7, 24⟩, ⟨7, 25, 7, 30⟩, ⟨7, 8, 7, 31⟩, ⟨7, 8, 7, 31⟩, ⟨8, 8, 8, 12⟩, ⟨8, 8, 8, 18⟩, ⟨8, 21, 8, 26⟩, ⟨8, 8, 8, 26⟩]) X G (c.fact 32 (f := fun K => exB Pg "InvalidTree" "value" K)) (c.def0 0 (d := dx_InvalidTree___init__)) rfl rfl rfl rfl rfl rfl rfl (by decide) (by decide) rfl rfl rfl rfl rfl rfl rfl (by decide) (by decide +kernel) (fun env h => by cases env; cases h; rfl) (fun env h => by cases env; cases h; exact ⟨_, rfl⟩) (fun env h => by cases env; cases h; rfl) (fun _ _ _ _ _ _ _ _ _ _ => ⟨_, rfl, rfl⟩) (fun _ _ _ _ _ _ _ _ _ => ⟨_, rfl, rfl⟩) (fun _ _ _ _ _ _ _ _ _ _ => ⟨_, rfl, rfl⟩)
  obtain ⟨fd_is_tree, F_is_tree⟩ := c.def_ 1 (d := dx_is_tree)
  obtain ⟨fd_check_tree, F_check_tree⟩ := c.def_ 2 (d := dx_check_tree)
  obtain ⟨fd_size, F_size⟩ := c.def_ 3 (d := dx_size)
  obtain ⟨fd_height, F_height⟩ := c.def_ 4 (d := dx_height)
  obtain ⟨fd_walked, F_walked⟩ := c.def_ 5 (d := dx_walked)
  obtain ⟨fd_addresses_of_leaves, F_addresses_of_leaves⟩ := c.def_ 6 (d := dx_addresses_of_leaves)
  obtain ⟨fd_leaves, F_leaves⟩ := c.def_ 7 (d := dx_leaves)
  obtain ⟨fd_nodes, F_nodes⟩ := c.def_ 8 (d := dx_nodes)
  obtain ⟨fd__law_cell, F__law_cell⟩ := c.def_ 9 (d := dx__law_cell)
  obtain ⟨fd__law_hash, F__law_hash⟩ := c.def_ 10 (d := dx__law_hash)
  obtain ⟨fd__law_generator, F__law_generator⟩ := c.def_ 11 (d := dx__law_generator)
  obtain ⟨fd__law_random, F__law_random⟩ := c.def_ 12 (d := dx__law_random)
  obtain ⟨fd__law_tree, F__law_tree⟩ := c.def_ 13 (d := dx__law_tree)
  obtain ⟨fd__law_parsed, F__law_parsed⟩ := c.def_ 14 (d := dx__law_parsed)
  obtain ⟨fd__law_leaves, F__law_leaves⟩ := c.def_ 15 (d := dx__law_leaves)
  obtain ⟨fd__law_nodes, F__law_nodes⟩ := c.def_ 16 (d := dx__law_nodes)
  obtain ⟨fd__law_end, F__law_end⟩ := c.def_ 17 (d := dx__law_end)
  obtain ⟨fd__law_high, F__law_high⟩ := c.def_ 18 (d := dx__law_high)
  obtain ⟨fd__law_bent, F__law_bent⟩ := c.def_ 19 (d := dx__law_bent)
  obtain ⟨fd__law_refused, F__law_refused⟩ := c.def_ 20 (d := dx__law_refused)
  obtain ⟨fd__law_told_right, F__law_told_right⟩ := c.def_ 21 (d := dx__law_told_right)
  obtain ⟨fd_law, F_law⟩ := c.def_ 22 (d := dx_law)
  cases hfa.symm.trans g_law
  refine ⟨fd_law, fun s v => FunD.bindsA (ps := ["_law_script"]) F_law (fun _ _ _ _ _ _ us hl => match us, hl with | [_], _ => rfl) s [v] rfl, fun base _ _ => ?_⟩
  have C__law_cell : CalG Pg w K mg base CX0 "_law_cell" 1 ["_law_script", "_law_index"] [] (sp__law_cell K) := ⟨_, fd__law_cell, [], ok__law_cell (k := 0) F__law_cell T   (fun vs H Q E h => by first | (obtain ⟨rfl, _⟩ := h; rfl) | (obtain ⟨_, rfl, _⟩ := h; rfl) | (obtain ⟨_, _, rfl, _⟩ := h; rfl) | (obtain ⟨_, _, _, rfl, _⟩ := h; rfl) | (obtain ⟨_, _, _, _, rfl, _⟩ := h; rfl) | (obtain ⟨_, _, _, _, _, rfl, _⟩ := h; rfl) | (obtain ⟨_, _, _, _, _, _, rfl, _⟩ := h; rfl) | (obtain ⟨_, _, _, _, _, _, _, rfl, _⟩ := h; rfl) | (obtain ⟨_, _, _, _, _, _, _, _, rfl, _⟩ := h; rfl) | (obtain ⟨_, _, _, _, _, _, _, _, _, rfl, _⟩ := h; rfl) | (obtain ⟨_, _, _, _, _, _, _, _, _, _, rfl, _⟩ := h; rfl) | (obtain ⟨_, _, _, _, _, _, _, _, _, _, _, rfl, _⟩ := h; rfl) | (obtain ⟨_, _, _, _, _, _, _, _, _, _, _, _, rfl, _⟩ := h; rfl) | (obtain ⟨_, _, _, _, _, _, _, _, _, _, _, _, _, rfl, _⟩ := h; rfl) | (obtain ⟨_, _, _, _, _, _, _, _, _, _, _, _, _, _, rfl, _⟩ := h; rfl)) (pu__law_cell K), g__law_cell, F__law_cell.kp, F__law_cell.bindsN (ps := ["_law_script", "_law_index"]) fun _ _ _ _ _ _ us hl => match us, hl with | [_, _], _ => rfl, .nil⟩
  have C__law_generator : CalG Pg w K mg base CX0 "_law_generator" 2 ["_law_script", "_law_index"] [] (sp__law_generator K) := ⟨_, fd__law_generator, [], ok__law_generator (k := 1) F__law_generator T C__law_cell (by omega) (fun vs H Q E h => by first | (obtain ⟨rfl, _⟩ := h; rfl) | (obtain ⟨_, rfl, _⟩ := h; rfl) | (obtain ⟨_, _, rfl, _⟩ := h; rfl) | (obtain ⟨_, _, _, rfl, _⟩ := h; rfl) | (obtain ⟨_, _, _, _, rfl, _⟩ := h; rfl) | (obtain ⟨_, _, _, _, _, rfl, _⟩ := h; rfl) | (obtain ⟨_, _, _, _, _, _, rfl, _⟩ := h; rfl) | (obtain ⟨_, _, _, _, _, _, _, rfl, _⟩ := h; rfl) | (obtain ⟨_, _, _, _, _, _, _, _, rfl, _⟩ := h; rfl) | (obtain ⟨_, _, _, _, _, _, _, _, _, rfl, _⟩ := h; rfl) | (obtain ⟨_, _, _, _, _, _, _, _, _, _, rfl, _⟩ := h; rfl) | (obtain ⟨_, _, _, _, _, _, _, _, _, _, _, rfl, _⟩ := h; rfl) | (obtain ⟨_, _, _, _, _, _, _, _, _, _, _, _, rfl, _⟩ := h; rfl) | (obtain ⟨_, _, _, _, _, _, _, _, _, _, _, _, _, rfl, _⟩ := h; rfl) | (obtain ⟨_, _, _, _, _, _, _, _, _, _, _, _, _, _, rfl, _⟩ := h; rfl)) (pu__law_generator K), g__law_generator, F__law_generator.kp, F__law_generator.bindsN (ps := ["_law_script", "_law_index"]) fun _ _ _ _ _ _ us hl => match us, hl with | [_, _], _ => rfl, .nil⟩
  have C__law_hash : CalG Pg w K mg base CX0 "_law_hash" 1 ["_law_seed", "_law_index"] [] (sp__law_hash) := ⟨_, fd__law_hash, [], ok__law_hash (k := 0) F__law_hash T   (fun vs H Q E h => by first | (obtain ⟨rfl, _⟩ := h; rfl) | (obtain ⟨_, rfl, _⟩ := h; rfl) | (obtain ⟨_, _, rfl, _⟩ := h; rfl) | (obtain ⟨_, _, _, rfl, _⟩ := h; rfl) | (obtain ⟨_, _, _, _, rfl, _⟩ := h; rfl) | (obtain ⟨_, _, _, _, _, rfl, _⟩ := h; rfl) | (obtain ⟨_, _, _, _, _, _, rfl, _⟩ := h; rfl) | (obtain ⟨_, _, _, _, _, _, _, rfl, _⟩ := h; rfl) | (obtain ⟨_, _, _, _, _, _, _, _, rfl, _⟩ := h; rfl) | (obtain ⟨_, _, _, _, _, _, _, _, _, rfl, _⟩ := h; rfl) | (obtain ⟨_, _, _, _, _, _, _, _, _, _, rfl, _⟩ := h; rfl) | (obtain ⟨_, _, _, _, _, _, _, _, _, _, _, rfl, _⟩ := h; rfl) | (obtain ⟨_, _, _, _, _, _, _, _, _, _, _, _, rfl, _⟩ := h; rfl) | (obtain ⟨_, _, _, _, _, _, _, _, _, _, _, _, _, rfl, _⟩ := h; rfl) | (obtain ⟨_, _, _, _, _, _, _, _, _, _, _, _, _, _, rfl, _⟩ := h; rfl)) (pu__law_hash K), g__law_hash, F__law_hash.kp, F__law_hash.bindsN (ps := ["_law_seed", "_law_index"]) fun _ _ _ _ _ _ us hl => match us, hl with | [_, _], _ => rfl, .nil⟩
  have C__law_random : CalG Pg w K mg base CX0 "_law_random" 2 ["_law_generator_here", "_law_bound"] [] (sp__law_random) := ⟨_, fd__law_random, [], ok__law_random (k := 1) F__law_random T C__law_hash (by omega) (fun vs H Q E h => by first | (obtain ⟨rfl, _⟩ := h; rfl) | (obtain ⟨_, rfl, _⟩ := h; rfl) | (obtain ⟨_, _, rfl, _⟩ := h; rfl) | (obtain ⟨_, _, _, rfl, _⟩ := h; rfl) | (obtain ⟨_, _, _, _, rfl, _⟩ := h; rfl) | (obtain ⟨_, _, _, _, _, rfl, _⟩ := h; rfl) | (obtain ⟨_, _, _, _, _, _, rfl, _⟩ := h; rfl) | (obtain ⟨_, _, _, _, _, _, _, rfl, _⟩ := h; rfl) | (obtain ⟨_, _, _, _, _, _, _, _, rfl, _⟩ := h; rfl) | (obtain ⟨_, _, _, _, _, _, _, _, _, rfl, _⟩ := h; rfl) | (obtain ⟨_, _, _, _, _, _, _, _, _, _, rfl, _⟩ := h; rfl) | (obtain ⟨_, _, _, _, _, _, _, _, _, _, _, rfl, _⟩ := h; rfl) | (obtain ⟨_, _, _, _, _, _, _, _, _, _, _, _, rfl, _⟩ := h; rfl) | (obtain ⟨_, _, _, _, _, _, _, _, _, _, _, _, _, rfl, _⟩ := h; rfl) | (obtain ⟨_, _, _, _, _, _, _, _, _, _, _, _, _, _, rfl, _⟩ := h; rfl)) (pu__law_random K), g__law_random, F__law_random.kp, F__law_random.bindsN (ps := ["_law_generator_here", "_law_bound"]) fun _ _ _ _ _ _ us hl => match us, hl with | [_, _], _ => rfl, .nil⟩
  have R__law_tree : ∀ n : Nat, FnG Pg w K mg base CX0 (2 + n) (He.ga K "_law_tree") fd__law_tree ["_law_generator_here", "_law_many"] (sp__law_tree n) := by
    intro n
    induction n with
    | zero => exact FnG.zero (fun vs H Q E h => by obtain ⟨_, _, _, _, z, _⟩ := h; exact absurd z (Nat.not_lt_zero _))
    | succ n ih =>
      have I__law_tree : CalG Pg w K mg base CX0 "_law_tree" (2 + n) ["_law_generator_here", "_law_many"] [] (sp__law_tree n) := ⟨_, fd__law_tree, [], ih, g__law_tree, F__law_tree.kp, F__law_tree.bindsN (ps := ["_law_generator_here", "_law_many"]) fun _ _ _ _ _ _ us hl => match us, hl with | [_, _], _ => rfl, .nil⟩
      exact ok__law_tree (k := 2 + n) F__law_tree T C__law_random I__law_tree (by omega) (by omega) (fun vs H Q E h => by first | (obtain ⟨rfl, _⟩ := h; rfl) | (obtain ⟨_, rfl, _⟩ := h; rfl) | (obtain ⟨_, _, rfl, _⟩ := h; rfl) | (obtain ⟨_, _, _, rfl, _⟩ := h; rfl) | (obtain ⟨_, _, _, _, rfl, _⟩ := h; rfl) | (obtain ⟨_, _, _, _, _, rfl, _⟩ := h; rfl) | (obtain ⟨_, _, _, _, _, _, rfl, _⟩ := h; rfl) | (obtain ⟨_, _, _, _, _, _, _, rfl, _⟩ := h; rfl) | (obtain ⟨_, _, _, _, _, _, _, _, rfl, _⟩ := h; rfl) | (obtain ⟨_, _, _, _, _, _, _, _, _, rfl, _⟩ := h; rfl) | (obtain ⟨_, _, _, _, _, _, _, _, _, _, rfl, _⟩ := h; rfl) | (obtain ⟨_, _, _, _, _, _, _, _, _, _, _, rfl, _⟩ := h; rfl) | (obtain ⟨_, _, _, _, _, _, _, _, _, _, _, _, rfl, _⟩ := h; rfl) | (obtain ⟨_, _, _, _, _, _, _, _, _, _, _, _, _, rfl, _⟩ := h; rfl) | (obtain ⟨_, _, _, _, _, _, _, _, _, _, _, _, _, _, rfl, _⟩ := h; rfl)) (pu__law_tree K n)
  have C__law_tree : CalG Pg w K mg base CX0 "_law_tree" 308 ["_law_generator_here", "_law_many"] [] (sp__law_tree 306) := ⟨_, fd__law_tree, [], R__law_tree 306, g__law_tree, F__law_tree.kp, F__law_tree.bindsN (ps := ["_law_generator_here", "_law_many"]) fun _ _ _ _ _ _ us hl => match us, hl with | [_, _], _ => rfl, .nil⟩
  have C__law_parsed : CalG Pg w K mg base CX0 "_law_parsed" 1 ["_law_tree_here"] [] (sp__law_parsed K) := ⟨_, fd__law_parsed, [], ok__law_parsed (k := 0) F__law_parsed T   (fun vs H Q E h => by first | (obtain ⟨rfl, _⟩ := h; rfl) | (obtain ⟨_, rfl, _⟩ := h; rfl) | (obtain ⟨_, _, rfl, _⟩ := h; rfl) | (obtain ⟨_, _, _, rfl, _⟩ := h; rfl) | (obtain ⟨_, _, _, _, rfl, _⟩ := h; rfl) | (obtain ⟨_, _, _, _, _, rfl, _⟩ := h; rfl) | (obtain ⟨_, _, _, _, _, _, rfl, _⟩ := h; rfl) | (obtain ⟨_, _, _, _, _, _, _, rfl, _⟩ := h; rfl) | (obtain ⟨_, _, _, _, _, _, _, _, rfl, _⟩ := h; rfl) | (obtain ⟨_, _, _, _, _, _, _, _, _, rfl, _⟩ := h; rfl) | (obtain ⟨_, _, _, _, _, _, _, _, _, _, rfl, _⟩ := h; rfl) | (obtain ⟨_, _, _, _, _, _, _, _, _, _, _, rfl, _⟩ := h; rfl) | (obtain ⟨_, _, _, _, _, _, _, _, _, _, _, _, rfl, _⟩ := h; rfl) | (obtain ⟨_, _, _, _, _, _, _, _, _, _, _, _, _, rfl, _⟩ := h; rfl) | (obtain ⟨_, _, _, _, _, _, _, _, _, _, _, _, _, _, rfl, _⟩ := h; rfl)) (pu__law_parsed K), g__law_parsed, F__law_parsed.kp, F__law_parsed.bindsN (ps := ["_law_tree_here"]) fun _ _ _ _ _ _ us hl => match us, hl with | [_], _ => rfl, .nil⟩
  have R__law_nodes : ∀ n : Nat, FnG Pg w K mg base CX0 (0 + n) (He.ga K "_law_nodes") fd__law_nodes ["_law_parsed_here", "_law_road"] (sp__law_nodes K n) := by
    intro n
    induction n with
    | zero => exact FnG.zero (fun vs H Q E h => by obtain ⟨_, _, _, _, _, z, _⟩ := h; exact absurd z (Nat.not_lt_zero _))
    | succ n ih =>
      have I__law_nodes : CalG Pg w K mg base CX0 "_law_nodes" (0 + n) ["_law_parsed_here", "_law_road"] [] (sp__law_nodes K n) := ⟨_, fd__law_nodes, [], ih, g__law_nodes, F__law_nodes.kp, F__law_nodes.bindsN (ps := ["_law_parsed_here", "_law_road"]) fun _ _ _ _ _ _ us hl => match us, hl with | [_, _], _ => rfl, .nil⟩
      exact ok__law_nodes (k := 0 + n) F__law_nodes T I__law_nodes (by omega) (fun vs H Q E h => by first | (obtain ⟨rfl, _⟩ := h; rfl) | (obtain ⟨_, rfl, _⟩ := h; rfl) | (obtain ⟨_, _, rfl, _⟩ := h; rfl) | (obtain ⟨_, _, _, rfl, _⟩ := h; rfl) | (obtain ⟨_, _, _, _, rfl, _⟩ := h; rfl) | (obtain ⟨_, _, _, _, _, rfl, _⟩ := h; rfl) | (obtain ⟨_, _, _, _, _, _, rfl, _⟩ := h; rfl) | (obtain ⟨_, _, _, _, _, _, _, rfl, _⟩ := h; rfl) | (obtain ⟨_, _, _, _, _, _, _, _, rfl, _⟩ := h; rfl) | (obtain ⟨_, _, _, _, _, _, _, _, _, rfl, _⟩ := h; rfl) | (obtain ⟨_, _, _, _, _, _, _, _, _, _, rfl, _⟩ := h; rfl) | (obtain ⟨_, _, _, _, _, _, _, _, _, _, _, rfl, _⟩ := h; rfl) | (obtain ⟨_, _, _, _, _, _, _, _, _, _, _, _, rfl, _⟩ := h; rfl) | (obtain ⟨_, _, _, _, _, _, _, _, _, _, _, _, _, rfl, _⟩ := h; rfl) | (obtain ⟨_, _, _, _, _, _, _, _, _, _, _, _, _, _, rfl, _⟩ := h; rfl)) (pu__law_nodes K n)
  have C__law_nodes : CalG Pg w K mg base CX0 "_law_nodes" 306 ["_law_parsed_here", "_law_road"] [] (sp__law_nodes K 306) := ⟨_, fd__law_nodes, [], R__law_nodes 306, g__law_nodes, F__law_nodes.kp, F__law_nodes.bindsN (ps := ["_law_parsed_here", "_law_road"]) fun _ _ _ _ _ _ us hl => match us, hl with | [_, _], _ => rfl, .nil⟩
  have R__law_leaves : ∀ n : Nat, FnG Pg w K mg base CX0 (0 + n) (He.ga K "_law_leaves") fd__law_leaves ["_law_parsed_here", "_law_road"] (sp__law_leaves K n) := by
    intro n
    induction n with
    | zero => exact FnG.zero (fun vs H Q E h => by obtain ⟨_, _, _, _, _, z, _⟩ := h; exact absurd z (Nat.not_lt_zero _))
    | succ n ih =>
      have I__law_leaves : CalG Pg w K mg base CX0 "_law_leaves" (0 + n) ["_law_parsed_here", "_law_road"] [] (sp__law_leaves K n) := ⟨_, fd__law_leaves, [], ih, g__law_leaves, F__law_leaves.kp, F__law_leaves.bindsN (ps := ["_law_parsed_here", "_law_road"]) fun _ _ _ _ _ _ us hl => match us, hl with | [_, _], _ => rfl, .nil⟩
      exact ok__law_leaves (k := 0 + n) F__law_leaves T I__law_leaves (by omega) (fun vs H Q E h => by first | (obtain ⟨rfl, _⟩ := h; rfl) | (obtain ⟨_, rfl, _⟩ := h; rfl) | (obtain ⟨_, _, rfl, _⟩ := h; rfl) | (obtain ⟨_, _, _, rfl, _⟩ := h; rfl) | (obtain ⟨_, _, _, _, rfl, _⟩ := h; rfl) | (obtain ⟨_, _, _, _, _, rfl, _⟩ := h; rfl) | (obtain ⟨_, _, _, _, _, _, rfl, _⟩ := h; rfl) | (obtain ⟨_, _, _, _, _, _, _, rfl, _⟩ := h; rfl) | (obtain ⟨_, _, _, _, _, _, _, _, rfl, _⟩ := h; rfl) | (obtain ⟨_, _, _, _, _, _, _, _, _, rfl, _⟩ := h; rfl) | (obtain ⟨_, _, _, _, _, _, _, _, _, _, rfl, _⟩ := h; rfl) | (obtain ⟨_, _, _, _, _, _, _, _, _, _, _, rfl, _⟩ := h; rfl) | (obtain ⟨_, _, _, _, _, _, _, _, _, _, _, _, rfl, _⟩ := h; rfl) | (obtain ⟨_, _, _, _, _, _, _, _, _, _, _, _, _, rfl, _⟩ := h; rfl) | (obtain ⟨_, _, _, _, _, _, _, _, _, _, _, _, _, _, rfl, _⟩ := h; rfl)) (pu__law_leaves K n)
  have C__law_leaves : CalG Pg w K mg base CX0 "_law_leaves" 306 ["_law_parsed_here", "_law_road"] [] (sp__law_leaves K 306) := ⟨_, fd__law_leaves, [], R__law_leaves 306, g__law_leaves, F__law_leaves.kp, F__law_leaves.bindsN (ps := ["_law_parsed_here", "_law_road"]) fun _ _ _ _ _ _ us hl => match us, hl with | [_, _], _ => rfl, .nil⟩
  have C_is_tree : CalG Pg w K mg base CX0 "is_tree" 1 ["value"] [] (sp_is_tree K) := ⟨_, fd_is_tree, [], ok_is_tree (k := 0) F_is_tree T   (fun vs H Q E h => by first | (obtain ⟨rfl, _⟩ := h; rfl) | (obtain ⟨_, rfl, _⟩ := h; rfl) | (obtain ⟨_, _, rfl, _⟩ := h; rfl) | (obtain ⟨_, _, _, rfl, _⟩ := h; rfl) | (obtain ⟨_, _, _, _, rfl, _⟩ := h; rfl) | (obtain ⟨_, _, _, _, _, rfl, _⟩ := h; rfl) | (obtain ⟨_, _, _, _, _, _, rfl, _⟩ := h; rfl) | (obtain ⟨_, _, _, _, _, _, _, rfl, _⟩ := h; rfl) | (obtain ⟨_, _, _, _, _, _, _, _, rfl, _⟩ := h; rfl) | (obtain ⟨_, _, _, _, _, _, _, _, _, rfl, _⟩ := h; rfl) | (obtain ⟨_, _, _, _, _, _, _, _, _, _, rfl, _⟩ := h; rfl) | (obtain ⟨_, _, _, _, _, _, _, _, _, _, _, rfl, _⟩ := h; rfl) | (obtain ⟨_, _, _, _, _, _, _, _, _, _, _, _, rfl, _⟩ := h; rfl) | (obtain ⟨_, _, _, _, _, _, _, _, _, _, _, _, _, rfl, _⟩ := h; rfl) | (obtain ⟨_, _, _, _, _, _, _, _, _, _, _, _, _, _, rfl, _⟩ := h; rfl)) (pu_is_tree K), g_is_tree, F_is_tree.kp, F_is_tree.bindsN (ps := ["value"]) fun _ _ _ _ _ _ us hl => match us, hl with | [_], _ => rfl, .nil⟩
  have C_check_tree : CalG Pg w K mg base (L2.CX Pg w) "check_tree" 2 ["value"] [] (sp_check_tree K (He.ga K "InvalidTree")) := ⟨_, fd_check_tree, [], ok_check_tree (k := 1) F_check_tree T C_is_tree X_InvalidTree (by omega) (fun vs H Q E h => by first | (obtain ⟨rfl, _⟩ := h; rfl) | (obtain ⟨_, rfl, _⟩ := h; rfl) | (obtain ⟨_, _, rfl, _⟩ := h; rfl) | (obtain ⟨_, _, _, rfl, _⟩ := h; rfl) | (obtain ⟨_, _, _, _, rfl, _⟩ := h; rfl) | (obtain ⟨_, _, _, _, _, rfl, _⟩ := h; rfl) | (obtain ⟨_, _, _, _, _, _, rfl, _⟩ := h; rfl) | (obtain ⟨_, _, _, _, _, _, _, rfl, _⟩ := h; rfl) | (obtain ⟨_, _, _, _, _, _, _, _, rfl, _⟩ := h; rfl) | (obtain ⟨_, _, _, _, _, _, _, _, _, rfl, _⟩ := h; rfl) | (obtain ⟨_, _, _, _, _, _, _, _, _, _, rfl, _⟩ := h; rfl) | (obtain ⟨_, _, _, _, _, _, _, _, _, _, _, rfl, _⟩ := h; rfl) | (obtain ⟨_, _, _, _, _, _, _, _, _, _, _, _, rfl, _⟩ := h; rfl) | (obtain ⟨_, _, _, _, _, _, _, _, _, _, _, _, _, rfl, _⟩ := h; rfl) | (obtain ⟨_, _, _, _, _, _, _, _, _, _, _, _, _, _, rfl, _⟩ := h; rfl)) (pu_check_tree K (He.ga K "InvalidTree")), g_check_tree, F_check_tree.kp, F_check_tree.bindsN (ps := ["value"]) fun _ _ _ _ _ _ us hl => match us, hl with | [_], _ => rfl, .nil⟩
  have C_walked : CalG Pg w K mg base CX0 "walked" 1 ["tree"] [] (sp_walked K) := ⟨_, fd_walked, [], ok_walked (k := 0) F_walked T   (fun vs H Q E h => by first | (obtain ⟨rfl, _⟩ := h; rfl) | (obtain ⟨_, rfl, _⟩ := h; rfl) | (obtain ⟨_, _, rfl, _⟩ := h; rfl) | (obtain ⟨_, _, _, rfl, _⟩ := h; rfl) | (obtain ⟨_, _, _, _, rfl, _⟩ := h; rfl) | (obtain ⟨_, _, _, _, _, rfl, _⟩ := h; rfl) | (obtain ⟨_, _, _, _, _, _, rfl, _⟩ := h; rfl) | (obtain ⟨_, _, _, _, _, _, _, rfl, _⟩ := h; rfl) | (obtain ⟨_, _, _, _, _, _, _, _, rfl, _⟩ := h; rfl) | (obtain ⟨_, _, _, _, _, _, _, _, _, rfl, _⟩ := h; rfl) | (obtain ⟨_, _, _, _, _, _, _, _, _, _, rfl, _⟩ := h; rfl) | (obtain ⟨_, _, _, _, _, _, _, _, _, _, _, rfl, _⟩ := h; rfl) | (obtain ⟨_, _, _, _, _, _, _, _, _, _, _, _, rfl, _⟩ := h; rfl) | (obtain ⟨_, _, _, _, _, _, _, _, _, _, _, _, _, rfl, _⟩ := h; rfl) | (obtain ⟨_, _, _, _, _, _, _, _, _, _, _, _, _, _, rfl, _⟩ := h; rfl)) (pu_walked K), g_walked, F_walked.kp, F_walked.bindsN (ps := ["tree"]) fun _ _ _ _ _ _ us hl => match us, hl with | [_], _ => rfl, .nil⟩
  have C_nodes : CalG Pg w K mg base (L2.CX Pg w) "nodes" 3 ["tree"] [] (sp_nodes K (He.ga K "InvalidTree")) := ⟨_, fd_nodes, [], ok_nodes (k := 2) F_nodes T C_check_tree C_walked (by omega) (by omega) (fun vs H Q E h => by first | (obtain ⟨rfl, _⟩ := h; rfl) | (obtain ⟨_, rfl, _⟩ := h; rfl) | (obtain ⟨_, _, rfl, _⟩ := h; rfl) | (obtain ⟨_, _, _, rfl, _⟩ := h; rfl) | (obtain ⟨_, _, _, _, rfl, _⟩ := h; rfl) | (obtain ⟨_, _, _, _, _, rfl, _⟩ := h; rfl) | (obtain ⟨_, _, _, _, _, _, rfl, _⟩ := h; rfl) | (obtain ⟨_, _, _, _, _, _, _, rfl, _⟩ := h; rfl) | (obtain ⟨_, _, _, _, _, _, _, _, rfl, _⟩ := h; rfl) | (obtain ⟨_, _, _, _, _, _, _, _, _, rfl, _⟩ := h; rfl) | (obtain ⟨_, _, _, _, _, _, _, _, _, _, rfl, _⟩ := h; rfl) | (obtain ⟨_, _, _, _, _, _, _, _, _, _, _, rfl, _⟩ := h; rfl) | (obtain ⟨_, _, _, _, _, _, _, _, _, _, _, _, rfl, _⟩ := h; rfl) | (obtain ⟨_, _, _, _, _, _, _, _, _, _, _, _, _, rfl, _⟩ := h; rfl) | (obtain ⟨_, _, _, _, _, _, _, _, _, _, _, _, _, _, rfl, _⟩ := h; rfl)) (pu_nodes K (He.ga K "InvalidTree")), g_nodes, F_nodes.kp, F_nodes.bindsN (ps := ["tree"]) fun _ _ _ _ _ _ us hl => match us, hl with | [_], _ => rfl, .nil⟩
  have V_nodes : CalV Pg w K mg base (L2.CX Pg w) "nodes" 3 ["tree"] (sp_nodes K (He.ga K "InvalidTree")) (He.ga K "nodes") := ⟨g_nodes, fd_nodes, ok_nodes (k := 2) F_nodes T C_check_tree C_walked (by omega) (by omega) (fun vs H Q E h => by first | (obtain ⟨rfl, _⟩ := h; rfl) | (obtain ⟨_, rfl, _⟩ := h; rfl) | (obtain ⟨_, _, rfl, _⟩ := h; rfl) | (obtain ⟨_, _, _, rfl, _⟩ := h; rfl) | (obtain ⟨_, _, _, _, rfl, _⟩ := h; rfl) | (obtain ⟨_, _, _, _, _, rfl, _⟩ := h; rfl) | (obtain ⟨_, _, _, _, _, _, rfl, _⟩ := h; rfl) | (obtain ⟨_, _, _, _, _, _, _, rfl, _⟩ := h; rfl) | (obtain ⟨_, _, _, _, _, _, _, _, rfl, _⟩ := h; rfl) | (obtain ⟨_, _, _, _, _, _, _, _, _, rfl, _⟩ := h; rfl) | (obtain ⟨_, _, _, _, _, _, _, _, _, _, rfl, _⟩ := h; rfl) | (obtain ⟨_, _, _, _, _, _, _, _, _, _, _, rfl, _⟩ := h; rfl) | (obtain ⟨_, _, _, _, _, _, _, _, _, _, _, _, rfl, _⟩ := h; rfl) | (obtain ⟨_, _, _, _, _, _, _, _, _, _, _, _, _, rfl, _⟩ := h; rfl) | (obtain ⟨_, _, _, _, _, _, _, _, _, _, _, _, _, _, rfl, _⟩ := h; rfl)) (pu_nodes K (He.ga K "InvalidTree")), F_nodes.kp, F_nodes.bindsN (ps := ["tree"]) fun _ _ _ _ _ _ us hl => match us, hl with | [_], _ => rfl⟩
  have C_leaves : CalG Pg w K mg base (L2.CX Pg w) "leaves" 3 ["tree"] [] (sp_leaves K (He.ga K "InvalidTree")) := ⟨_, fd_leaves, [], ok_leaves (k := 2) F_leaves T C_check_tree C_walked (by omega) (by omega) (fun vs H Q E h => by first | (obtain ⟨rfl, _⟩ := h; rfl) | (obtain ⟨_, rfl, _⟩ := h; rfl) | (obtain ⟨_, _, rfl, _⟩ := h; rfl) | (obtain ⟨_, _, _, rfl, _⟩ := h; rfl) | (obtain ⟨_, _, _, _, rfl, _⟩ := h; rfl) | (obtain ⟨_, _, _, _, _, rfl, _⟩ := h; rfl) | (obtain ⟨_, _, _, _, _, _, rfl, _⟩ := h; rfl) | (obtain ⟨_, _, _, _, _, _, _, rfl, _⟩ := h; rfl) | (obtain ⟨_, _, _, _, _, _, _, _, rfl, _⟩ := h; rfl) | (obtain ⟨_, _, _, _, _, _, _, _, _, rfl, _⟩ := h; rfl) | (obtain ⟨_, _, _, _, _, _, _, _, _, _, rfl, _⟩ := h; rfl) | (obtain ⟨_, _, _, _, _, _, _, _, _, _, _, rfl, _⟩ := h; rfl) | (obtain ⟨_, _, _, _, _, _, _, _, _, _, _, _, rfl, _⟩ := h; rfl) | (obtain ⟨_, _, _, _, _, _, _, _, _, _, _, _, _, rfl, _⟩ := h; rfl) | (obtain ⟨_, _, _, _, _, _, _, _, _, _, _, _, _, _, rfl, _⟩ := h; rfl)) (pu_leaves K (He.ga K "InvalidTree")), g_leaves, F_leaves.kp, F_leaves.bindsN (ps := ["tree"]) fun _ _ _ _ _ _ us hl => match us, hl with | [_], _ => rfl, .nil⟩
  have V_leaves : CalV Pg w K mg base (L2.CX Pg w) "leaves" 3 ["tree"] (sp_leaves K (He.ga K "InvalidTree")) (He.ga K "leaves") := ⟨g_leaves, fd_leaves, ok_leaves (k := 2) F_leaves T C_check_tree C_walked (by omega) (by omega) (fun vs H Q E h => by first | (obtain ⟨rfl, _⟩ := h; rfl) | (obtain ⟨_, rfl, _⟩ := h; rfl) | (obtain ⟨_, _, rfl, _⟩ := h; rfl) | (obtain ⟨_, _, _, rfl, _⟩ := h; rfl) | (obtain ⟨_, _, _, _, rfl, _⟩ := h; rfl) | (obtain ⟨_, _, _, _, _, rfl, _⟩ := h; rfl) | (obtain ⟨_, _, _, _, _, _, rfl, _⟩ := h; rfl) | (obtain ⟨_, _, _, _, _, _, _, rfl, _⟩ := h; rfl) | (obtain ⟨_, _, _, _, _, _, _, _, rfl, _⟩ := h; rfl) | (obtain ⟨_, _, _, _, _, _, _, _, _, rfl, _⟩ := h; rfl) | (obtain ⟨_, _, _, _, _, _, _, _, _, _, rfl, _⟩ := h; rfl) | (obtain ⟨_, _, _, _, _, _, _, _, _, _, _, rfl, _⟩ := h; rfl) | (obtain ⟨_, _, _, _, _, _, _, _, _, _, _, _, rfl, _⟩ := h; rfl) | (obtain ⟨_, _, _, _, _, _, _, _, _, _, _, _, _, rfl, _⟩ := h; rfl) | (obtain ⟨_, _, _, _, _, _, _, _, _, _, _, _, _, _, rfl, _⟩ := h; rfl)) (pu_leaves K (He.ga K "InvalidTree")), F_leaves.kp, F_leaves.bindsN (ps := ["tree"]) fun _ _ _ _ _ _ us hl => match us, hl with | [_], _ => rfl⟩
  have C_addresses_of_leaves : CalG Pg w K mg base CX0 "addresses_of_leaves" 2 ["tree"] [] (sp_addresses_of_leaves) := ⟨_, fd_addresses_of_leaves, [], ok_addresses_of_leaves (k := 1) F_addresses_of_leaves T C_walked (by omega) (fun vs H Q E h => by first | (obtain ⟨rfl, _⟩ := h; rfl) | (obtain ⟨_, rfl, _⟩ := h; rfl) | (obtain ⟨_, _, rfl, _⟩ := h; rfl) | (obtain ⟨_, _, _, rfl, _⟩ := h; rfl) | (obtain ⟨_, _, _, _, rfl, _⟩ := h; rfl) | (obtain ⟨_, _, _, _, _, rfl, _⟩ := h; rfl) | (obtain ⟨_, _, _, _, _, _, rfl, _⟩ := h; rfl) | (obtain ⟨_, _, _, _, _, _, _, rfl, _⟩ := h; rfl) | (obtain ⟨_, _, _, _, _, _, _, _, rfl, _⟩ := h; rfl) | (obtain ⟨_, _, _, _, _, _, _, _, _, rfl, _⟩ := h; rfl) | (obtain ⟨_, _, _, _, _, _, _, _, _, _, rfl, _⟩ := h; rfl) | (obtain ⟨_, _, _, _, _, _, _, _, _, _, _, rfl, _⟩ := h; rfl) | (obtain ⟨_, _, _, _, _, _, _, _, _, _, _, _, rfl, _⟩ := h; rfl) | (obtain ⟨_, _, _, _, _, _, _, _, _, _, _, _, _, rfl, _⟩ := h; rfl) | (obtain ⟨_, _, _, _, _, _, _, _, _, _, _, _, _, _, rfl, _⟩ := h; rfl)) (pu_addresses_of_leaves K), g_addresses_of_leaves, F_addresses_of_leaves.kp, F_addresses_of_leaves.bindsN (ps := ["tree"]) fun _ _ _ _ _ _ us hl => match us, hl with | [_], _ => rfl, .nil⟩
  have C_height : CalG Pg w K mg base (L2.CX Pg w) "height" 3 ["tree"] [] (sp_height K (He.ga K "InvalidTree")) := ⟨_, fd_height, [], ok_height (k := 2) F_height T C_check_tree C_addresses_of_leaves (by omega) (by omega) (fun vs H Q E h => by first | (obtain ⟨rfl, _⟩ := h; rfl) | (obtain ⟨_, rfl, _⟩ := h; rfl) | (obtain ⟨_, _, rfl, _⟩ := h; rfl) | (obtain ⟨_, _, _, rfl, _⟩ := h; rfl) | (obtain ⟨_, _, _, _, rfl, _⟩ := h; rfl) | (obtain ⟨_, _, _, _, _, rfl, _⟩ := h; rfl) | (obtain ⟨_, _, _, _, _, _, rfl, _⟩ := h; rfl) | (obtain ⟨_, _, _, _, _, _, _, rfl, _⟩ := h; rfl) | (obtain ⟨_, _, _, _, _, _, _, _, rfl, _⟩ := h; rfl) | (obtain ⟨_, _, _, _, _, _, _, _, _, rfl, _⟩ := h; rfl) | (obtain ⟨_, _, _, _, _, _, _, _, _, _, rfl, _⟩ := h; rfl) | (obtain ⟨_, _, _, _, _, _, _, _, _, _, _, rfl, _⟩ := h; rfl) | (obtain ⟨_, _, _, _, _, _, _, _, _, _, _, _, rfl, _⟩ := h; rfl) | (obtain ⟨_, _, _, _, _, _, _, _, _, _, _, _, _, rfl, _⟩ := h; rfl) | (obtain ⟨_, _, _, _, _, _, _, _, _, _, _, _, _, _, rfl, _⟩ := h; rfl)) (pu_height K (He.ga K "InvalidTree")), g_height, F_height.kp, F_height.bindsN (ps := ["tree"]) fun _ _ _ _ _ _ us hl => match us, hl with | [_], _ => rfl, .nil⟩
  have V_height : CalV Pg w K mg base (L2.CX Pg w) "height" 3 ["tree"] (sp_height K (He.ga K "InvalidTree")) (He.ga K "height") := ⟨g_height, fd_height, ok_height (k := 2) F_height T C_check_tree C_addresses_of_leaves (by omega) (by omega) (fun vs H Q E h => by first | (obtain ⟨rfl, _⟩ := h; rfl) | (obtain ⟨_, rfl, _⟩ := h; rfl) | (obtain ⟨_, _, rfl, _⟩ := h; rfl) | (obtain ⟨_, _, _, rfl, _⟩ := h; rfl) | (obtain ⟨_, _, _, _, rfl, _⟩ := h; rfl) | (obtain ⟨_, _, _, _, _, rfl, _⟩ := h; rfl) | (obtain ⟨_, _, _, _, _, _, rfl, _⟩ := h; rfl) | (obtain ⟨_, _, _, _, _, _, _, rfl, _⟩ := h; rfl) | (obtain ⟨_, _, _, _, _, _, _, _, rfl, _⟩ := h; rfl) | (obtain ⟨_, _, _, _, _, _, _, _, _, rfl, _⟩ := h; rfl) | (obtain ⟨_, _, _, _, _, _, _, _, _, _, rfl, _⟩ := h; rfl) | (obtain ⟨_, _, _, _, _, _, _, _, _, _, _, rfl, _⟩ := h; rfl) | (obtain ⟨_, _, _, _, _, _, _, _, _, _, _, _, rfl, _⟩ := h; rfl) | (obtain ⟨_, _, _, _, _, _, _, _, _, _, _, _, _, rfl, _⟩ := h; rfl) | (obtain ⟨_, _, _, _, _, _, _, _, _, _, _, _, _, _, rfl, _⟩ := h; rfl)) (pu_height K (He.ga K "InvalidTree")), F_height.kp, F_height.bindsN (ps := ["tree"]) fun _ _ _ _ _ _ us hl => match us, hl with | [_], _ => rfl⟩
  have R__law_high : ∀ n : Nat, FnG Pg w K mg base CX0 (0 + n) (He.ga K "_law_high") fd__law_high ["_law_parsed_here"] (sp__law_high K n) := by
    intro n
    induction n with
    | zero => exact FnG.zero (fun vs H Q E h => by obtain ⟨_, _, _, _, z, _⟩ := h; exact absurd z (Nat.not_lt_zero _))
    | succ n ih =>
      have I__law_high : CalG Pg w K mg base CX0 "_law_high" (0 + n) ["_law_parsed_here"] [] (sp__law_high K n) := ⟨_, fd__law_high, [], ih, g__law_high, F__law_high.kp, F__law_high.bindsN (ps := ["_law_parsed_here"]) fun _ _ _ _ _ _ us hl => match us, hl with | [_], _ => rfl, .nil⟩
      exact ok__law_high (k := 0 + n) F__law_high T I__law_high (by omega) (fun vs H Q E h => by first | (obtain ⟨rfl, _⟩ := h; rfl) | (obtain ⟨_, rfl, _⟩ := h; rfl) | (obtain ⟨_, _, rfl, _⟩ := h; rfl) | (obtain ⟨_, _, _, rfl, _⟩ := h; rfl) | (obtain ⟨_, _, _, _, rfl, _⟩ := h; rfl) | (obtain ⟨_, _, _, _, _, rfl, _⟩ := h; rfl) | (obtain ⟨_, _, _, _, _, _, rfl, _⟩ := h; rfl) | (obtain ⟨_, _, _, _, _, _, _, rfl, _⟩ := h; rfl) | (obtain ⟨_, _, _, _, _, _, _, _, rfl, _⟩ := h; rfl) | (obtain ⟨_, _, _, _, _, _, _, _, _, rfl, _⟩ := h; rfl) | (obtain ⟨_, _, _, _, _, _, _, _, _, _, rfl, _⟩ := h; rfl) | (obtain ⟨_, _, _, _, _, _, _, _, _, _, _, rfl, _⟩ := h; rfl) | (obtain ⟨_, _, _, _, _, _, _, _, _, _, _, _, rfl, _⟩ := h; rfl) | (obtain ⟨_, _, _, _, _, _, _, _, _, _, _, _, _, rfl, _⟩ := h; rfl) | (obtain ⟨_, _, _, _, _, _, _, _, _, _, _, _, _, _, rfl, _⟩ := h; rfl)) (pu__law_high K n)
  have C__law_high : CalG Pg w K mg base CX0 "_law_high" 306 ["_law_parsed_here"] [] (sp__law_high K 306) := ⟨_, fd__law_high, [], R__law_high 306, g__law_high, F__law_high.kp, F__law_high.bindsN (ps := ["_law_parsed_here"]) fun _ _ _ _ _ _ us hl => match us, hl with | [_], _ => rfl, .nil⟩
  have C_size : CalG Pg w K mg base (L2.CX Pg w) "size" 3 ["tree"] [] (sp_size K (He.ga K "InvalidTree")) := ⟨_, fd_size, [], ok_size (k := 2) F_size T C_check_tree (by omega) (fun vs H Q E h => by first | (obtain ⟨rfl, _⟩ := h; rfl) | (obtain ⟨_, rfl, _⟩ := h; rfl) | (obtain ⟨_, _, rfl, _⟩ := h; rfl) | (obtain ⟨_, _, _, rfl, _⟩ := h; rfl) | (obtain ⟨_, _, _, _, rfl, _⟩ := h; rfl) | (obtain ⟨_, _, _, _, _, rfl, _⟩ := h; rfl) | (obtain ⟨_, _, _, _, _, _, rfl, _⟩ := h; rfl) | (obtain ⟨_, _, _, _, _, _, _, rfl, _⟩ := h; rfl) | (obtain ⟨_, _, _, _, _, _, _, _, rfl, _⟩ := h; rfl) | (obtain ⟨_, _, _, _, _, _, _, _, _, rfl, _⟩ := h; rfl) | (obtain ⟨_, _, _, _, _, _, _, _, _, _, rfl, _⟩ := h; rfl) | (obtain ⟨_, _, _, _, _, _, _, _, _, _, _, rfl, _⟩ := h; rfl) | (obtain ⟨_, _, _, _, _, _, _, _, _, _, _, _, rfl, _⟩ := h; rfl) | (obtain ⟨_, _, _, _, _, _, _, _, _, _, _, _, _, rfl, _⟩ := h; rfl) | (obtain ⟨_, _, _, _, _, _, _, _, _, _, _, _, _, _, rfl, _⟩ := h; rfl)) (pu_size K (He.ga K "InvalidTree")), g_size, F_size.kp, F_size.bindsN (ps := ["tree"]) fun _ _ _ _ _ _ us hl => match us, hl with | [_], _ => rfl, .nil⟩
  have V_size : CalV Pg w K mg base (L2.CX Pg w) "size" 3 ["tree"] (sp_size K (He.ga K "InvalidTree")) (He.ga K "size") := ⟨g_size, fd_size, ok_size (k := 2) F_size T C_check_tree (by omega) (fun vs H Q E h => by first | (obtain ⟨rfl, _⟩ := h; rfl) | (obtain ⟨_, rfl, _⟩ := h; rfl) | (obtain ⟨_, _, rfl, _⟩ := h; rfl) | (obtain ⟨_, _, _, rfl, _⟩ := h; rfl) | (obtain ⟨_, _, _, _, rfl, _⟩ := h; rfl) | (obtain ⟨_, _, _, _, _, rfl, _⟩ := h; rfl) | (obtain ⟨_, _, _, _, _, _, rfl, _⟩ := h; rfl) | (obtain ⟨_, _, _, _, _, _, _, rfl, _⟩ := h; rfl) | (obtain ⟨_, _, _, _, _, _, _, _, rfl, _⟩ := h; rfl) | (obtain ⟨_, _, _, _, _, _, _, _, _, rfl, _⟩ := h; rfl) | (obtain ⟨_, _, _, _, _, _, _, _, _, _, rfl, _⟩ := h; rfl) | (obtain ⟨_, _, _, _, _, _, _, _, _, _, _, rfl, _⟩ := h; rfl) | (obtain ⟨_, _, _, _, _, _, _, _, _, _, _, _, rfl, _⟩ := h; rfl) | (obtain ⟨_, _, _, _, _, _, _, _, _, _, _, _, _, rfl, _⟩ := h; rfl) | (obtain ⟨_, _, _, _, _, _, _, _, _, _, _, _, _, _, rfl, _⟩ := h; rfl)) (pu_size K (He.ga K "InvalidTree")), F_size.kp, F_size.bindsN (ps := ["tree"]) fun _ _ _ _ _ _ us hl => match us, hl with | [_], _ => rfl⟩
  have C__law_told_right : CalG Pg w K mg base CX0 "_law_told_right" 307 ["_law_tree_here"] [] (sp__law_told_right) := ⟨_, fd__law_told_right, [], ok__law_told_right (k := 306) F__law_told_right T C__law_parsed C__law_nodes C__law_leaves C_nodes C_leaves C_is_tree C_height C__law_high C_size (by omega) (by omega) (by omega) (by omega) (by omega) (by omega) (by omega) (by omega) (by omega) (fun vs H Q E h => by first | (obtain ⟨rfl, _⟩ := h; rfl) | (obtain ⟨_, rfl, _⟩ := h; rfl) | (obtain ⟨_, _, rfl, _⟩ := h; rfl) | (obtain ⟨_, _, _, rfl, _⟩ := h; rfl) | (obtain ⟨_, _, _, _, rfl, _⟩ := h; rfl) | (obtain ⟨_, _, _, _, _, rfl, _⟩ := h; rfl) | (obtain ⟨_, _, _, _, _, _, rfl, _⟩ := h; rfl) | (obtain ⟨_, _, _, _, _, _, _, rfl, _⟩ := h; rfl) | (obtain ⟨_, _, _, _, _, _, _, _, rfl, _⟩ := h; rfl) | (obtain ⟨_, _, _, _, _, _, _, _, _, rfl, _⟩ := h; rfl) | (obtain ⟨_, _, _, _, _, _, _, _, _, _, rfl, _⟩ := h; rfl) | (obtain ⟨_, _, _, _, _, _, _, _, _, _, _, rfl, _⟩ := h; rfl) | (obtain ⟨_, _, _, _, _, _, _, _, _, _, _, _, rfl, _⟩ := h; rfl) | (obtain ⟨_, _, _, _, _, _, _, _, _, _, _, _, _, rfl, _⟩ := h; rfl) | (obtain ⟨_, _, _, _, _, _, _, _, _, _, _, _, _, _, rfl, _⟩ := h; rfl)) (pu__law_told_right K (He.ga K "InvalidTree") 306 (by decide)), g__law_told_right, F__law_told_right.kp, F__law_told_right.bindsN (ps := ["_law_tree_here"]) fun _ _ _ _ _ _ us hl => match us, hl with | [_], _ => rfl, .nil⟩
  have C__law_bent : CalG Pg w K mg base CX0 "_law_bent" 3 ["_law_generator_here", "_law_tree_here"] [] (sp__law_bent) := ⟨_, fd__law_bent, [], ok__law_bent (k := 2) F__law_bent T C__law_random (by omega) (fun vs H Q E h => by first | (obtain ⟨rfl, _⟩ := h; rfl) | (obtain ⟨_, rfl, _⟩ := h; rfl) | (obtain ⟨_, _, rfl, _⟩ := h; rfl) | (obtain ⟨_, _, _, rfl, _⟩ := h; rfl) | (obtain ⟨_, _, _, _, rfl, _⟩ := h; rfl) | (obtain ⟨_, _, _, _, _, rfl, _⟩ := h; rfl) | (obtain ⟨_, _, _, _, _, _, rfl, _⟩ := h; rfl) | (obtain ⟨_, _, _, _, _, _, _, rfl, _⟩ := h; rfl) | (obtain ⟨_, _, _, _, _, _, _, _, rfl, _⟩ := h; rfl) | (obtain ⟨_, _, _, _, _, _, _, _, _, rfl, _⟩ := h; rfl) | (obtain ⟨_, _, _, _, _, _, _, _, _, _, rfl, _⟩ := h; rfl) | (obtain ⟨_, _, _, _, _, _, _, _, _, _, _, rfl, _⟩ := h; rfl) | (obtain ⟨_, _, _, _, _, _, _, _, _, _, _, _, rfl, _⟩ := h; rfl) | (obtain ⟨_, _, _, _, _, _, _, _, _, _, _, _, _, rfl, _⟩ := h; rfl) | (obtain ⟨_, _, _, _, _, _, _, _, _, _, _, _, _, _, rfl, _⟩ := h; rfl)) (pu__law_bent K), g__law_bent, F__law_bent.kp, F__law_bent.bindsN (ps := ["_law_generator_here", "_law_tree_here"]) fun _ _ _ _ _ _ us hl => match us, hl with | [_, _], _ => rfl, .nil⟩
  have R__law_end : ∀ n : Nat, FnG Pg w K mg base CX0 (0 + n) (He.ga K "_law_end") fd__law_end ["_law_text", "_law_at"] (sp__law_end n) := by
    intro n
    induction n with
    | zero => exact FnG.zero (fun vs H Q E h => by obtain ⟨_, _, _, z, _⟩ := h; exact absurd z (Nat.not_lt_zero _))
    | succ n ih =>
      have I__law_end : CalG Pg w K mg base CX0 "_law_end" (0 + n) ["_law_text", "_law_at"] [] (sp__law_end n) := ⟨_, fd__law_end, [], ih, g__law_end, F__law_end.kp, F__law_end.bindsN (ps := ["_law_text", "_law_at"]) fun _ _ _ _ _ _ us hl => match us, hl with | [_, _], _ => rfl, .nil⟩
      exact ok__law_end (k := 0 + n) F__law_end T I__law_end (by omega) (fun vs H Q E h => by first | (obtain ⟨rfl, _⟩ := h; rfl) | (obtain ⟨_, rfl, _⟩ := h; rfl) | (obtain ⟨_, _, rfl, _⟩ := h; rfl) | (obtain ⟨_, _, _, rfl, _⟩ := h; rfl) | (obtain ⟨_, _, _, _, rfl, _⟩ := h; rfl) | (obtain ⟨_, _, _, _, _, rfl, _⟩ := h; rfl) | (obtain ⟨_, _, _, _, _, _, rfl, _⟩ := h; rfl) | (obtain ⟨_, _, _, _, _, _, _, rfl, _⟩ := h; rfl) | (obtain ⟨_, _, _, _, _, _, _, _, rfl, _⟩ := h; rfl) | (obtain ⟨_, _, _, _, _, _, _, _, _, rfl, _⟩ := h; rfl) | (obtain ⟨_, _, _, _, _, _, _, _, _, _, rfl, _⟩ := h; rfl) | (obtain ⟨_, _, _, _, _, _, _, _, _, _, _, rfl, _⟩ := h; rfl) | (obtain ⟨_, _, _, _, _, _, _, _, _, _, _, _, rfl, _⟩ := h; rfl) | (obtain ⟨_, _, _, _, _, _, _, _, _, _, _, _, _, rfl, _⟩ := h; rfl) | (obtain ⟨_, _, _, _, _, _, _, _, _, _, _, _, _, _, rfl, _⟩ := h; rfl)) (pu__law_end K n)
  have C__law_end : CalG Pg w K mg base CX0 "_law_end" 610 ["_law_text", "_law_at"] [] (sp__law_end 610) := ⟨_, fd__law_end, [], R__law_end 610, g__law_end, F__law_end.kp, F__law_end.bindsN (ps := ["_law_text", "_law_at"]) fun _ _ _ _ _ _ us hl => match us, hl with | [_, _], _ => rfl, .nil⟩
  have C__law_refused : CalG Pg w K mg base CX0 "_law_refused" 4 ["_law_thing"] [] (sp__law_refused K) := ⟨_, fd__law_refused, [], ok__law_refused (k := 3) F__law_refused T C_is_tree V_size V_height V_leaves V_nodes g_TurnError X_InvalidTree (by omega) (by omega) (by omega) (by omega) (by omega) (fun vs H Q E h => by first | (obtain ⟨rfl, _⟩ := h; rfl) | (obtain ⟨_, rfl, _⟩ := h; rfl) | (obtain ⟨_, _, rfl, _⟩ := h; rfl) | (obtain ⟨_, _, _, rfl, _⟩ := h; rfl) | (obtain ⟨_, _, _, _, rfl, _⟩ := h; rfl) | (obtain ⟨_, _, _, _, _, rfl, _⟩ := h; rfl) | (obtain ⟨_, _, _, _, _, _, rfl, _⟩ := h; rfl) | (obtain ⟨_, _, _, _, _, _, _, rfl, _⟩ := h; rfl) | (obtain ⟨_, _, _, _, _, _, _, _, rfl, _⟩ := h; rfl) | (obtain ⟨_, _, _, _, _, _, _, _, _, rfl, _⟩ := h; rfl) | (obtain ⟨_, _, _, _, _, _, _, _, _, _, rfl, _⟩ := h; rfl) | (obtain ⟨_, _, _, _, _, _, _, _, _, _, _, rfl, _⟩ := h; rfl) | (obtain ⟨_, _, _, _, _, _, _, _, _, _, _, _, rfl, _⟩ := h; rfl) | (obtain ⟨_, _, _, _, _, _, _, _, _, _, _, _, _, rfl, _⟩ := h; rfl) | (obtain ⟨_, _, _, _, _, _, _, _, _, _, _, _, _, _, rfl, _⟩ := h; rfl)) (pu__law_refused K (He.ga K "TurnError") (He.ga K "InvalidTree") (He.ga K "size") (He.ga K "height") (He.ga K "leaves") (He.ga K "nodes") x1 E_InvalidTree z1), g__law_refused, F__law_refused.kp, F__law_refused.bindsN (ps := ["_law_thing"]) fun _ _ _ _ _ _ us hl => match us, hl with | [_], _ => rfl, .nil⟩
  exact (ok_law (k := 610) F_law T C__law_generator C__law_random C__law_tree C__law_told_right C_size C__law_bent C__law_end C_is_tree C__law_refused (by omega) (by omega) (by omega) (by omega) (by omega) (by omega) (by omega) (by omega) (by omega) (fun vs H Q E h => by first | (obtain ⟨rfl, _⟩ := h; rfl) | (obtain ⟨_, rfl, _⟩ := h; rfl) | (obtain ⟨_, _, rfl, _⟩ := h; rfl) | (obtain ⟨_, _, _, rfl, _⟩ := h; rfl) | (obtain ⟨_, _, _, _, rfl, _⟩ := h; rfl) | (obtain ⟨_, _, _, _, _, rfl, _⟩ := h; rfl) | (obtain ⟨_, _, _, _, _, _, rfl, _⟩ := h; rfl) | (obtain ⟨_, _, _, _, _, _, _, rfl, _⟩ := h; rfl) | (obtain ⟨_, _, _, _, _, _, _, _, rfl, _⟩ := h; rfl) | (obtain ⟨_, _, _, _, _, _, _, _, _, rfl, _⟩ := h; rfl) | (obtain ⟨_, _, _, _, _, _, _, _, _, _, rfl, _⟩ := h; rfl) | (obtain ⟨_, _, _, _, _, _, _, _, _, _, _, rfl, _⟩ := h; rfl) | (obtain ⟨_, _, _, _, _, _, _, _, _, _, _, _, rfl, _⟩ := h; rfl) | (obtain ⟨_, _, _, _, _, _, _, _, _, _, _, _, _, rfl, _⟩ := h; rfl) | (obtain ⟨_, _, _, _, _, _, _, _, _, _, _, _, _, _, rfl, _⟩ := h; rfl)) (pu_law K (He.ga K "InvalidTree") 306 610 (by decide) (by decide))).mono (by omega)
end Pf
open PySem PySem.W PySem.Calls PyProof.Rows
set_option maxHeartbeats 0 in
theorem PySem.Challenge.cw_treeturns_k02_trees_told_holds : PySem.Challenge.rw_treeturns_k02_trees_told.Holds := by
  w_on; o_law
  refine HandSHeadRun.head_any (r := OpenLaw.row PySem.Challenge.rw_treeturns_k02_trees_told) (q := view (OpenLaw.row PySem.Challenge.rw_treeturns_k02_trees_told).prog [26]) (H := Pf.hk) (ob := Pf.ob) (M := 6000) (loose := Pf.loose) (d := HandSHeadRun.topDef (OpenLaw.row PySem.Challenge.rw_treeturns_k02_trees_told).prog 26) (kwd := []) Pf.ob_eq
    (by kernel_rfl) (fun s => by kernel_rfl) Pf.run (by kernel_rfl) (by kernel_rfl) (by kernel_rfl) (by rfl) (by first | assumption | decide +kernel) (by decide +kernel) ⟨rfl, rfl, rfl, rfl, rfl, by decide +kernel⟩ ?hw ?hc
  case hw => w_witness2
  case hc =>
    refine M.walk_ofG (l := PySem.Challenge.rw_treeturns_k02_trees_told) (n := 63) (k := 650) (x := "_law_script") (CX := L2.CX0) rfl (by decide) (by kernel_rfl) ⟨rfl, by decide, by decide, rfl⟩ ?F (fun _ _ _ _ z => z)
    intro w mg fa h Y G hmg0
    obtain ⟨K, KX, c⟩ := Y
    have hmg : mg ("law" : PySem.Str) = some (.ref fa) := by
      have e : (HandSHeadRun.topDef (OpenLaw.row PySem.Challenge.rw_treeturns_k02_trees_told).prog 26).name = ("law" : PySem.Str) := by kernel_rfl
      rw [← e]
      exact hmg0
    obtain ⟨fd, hb, hF⟩ := Pf.facts (w := w) KX G hmg c
    exact ⟨K, fd, Pf.sp_law K, KX, hb, fun H a ns hl _ hS => ⟨a, ns, rfl, hS, fun _ => rfl⟩, hF⟩
