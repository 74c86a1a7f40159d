import PyProof.Rows.All
import Wide.All
import OpenK.AllK
import Wide.FinOn
import KE.KStateDown
import HandS.ForMost
import HandS.ForExc
import HandS.Style
import HandS.Wide
import HandS.WideBits
import HandS.CallSlots
import HandS.Defaults
import HandS.Walk
import KE.KExcSuper
import KE.KExcIs
import HandS.ExcInit
import HandS.ExcSuper
import HandS.ExcField
import HandS.ExcIs
import HandS.ExcOwn
import HandS.Ends
import PyProof.ReprRoads
import HandS.Head0
import HandS.Head1
import HandS.Head2
import HandS.HeadEnd
import HandS.HeadHook1
import HandS.HeadHook2
import HandS.HeadHook3
import PyProof.Rows.StrMul
import HandS.IsInst
import HandS.RaiseMore
import HandS.NoneIn
import PyProof.Rows.SortShellAny
import PyProof.Rows.StrRev
import HandS.More
import HandS.TupAny
import PyProof.Draws
import PyProof.EnumMake
import HandS.Call
import HandS.Property
import HandS.ClsMeth
import HandS.Star
import HandS.OwnEq
import HandS.FStr
import KE.KOpsOwn
import OpenK.KMeth
import OpenK.KOps
import PyProof.InstEq
import PyProof.InstNe
import HandS.Dict
import PyProof.ZipIter
import KE.GoesEnumKw
import KE.KItemsList
import HandS.SortKw
import KE.KIndexOf
import HandS.Codes
import PyProof.ReprLen
import PyProof.StrLawsRepr
import PySem.Challenge.RW_treeturns_k52_changes_of_height
set_option Elab.async false
set_option linter.all false
set_option maxRecDepth 100000
set_option maxHeartbeats 4000000
set_option exponentiation.threshold 4000
/-! M0: readings that reckon themselves (by cases on the values at hand), over the hand layer's judgements. -/
namespace M
open PySem PySem.Spec PyProof.Rows L2

/-! ### weakening -/
section
variable {X : Cx}
theorem pe_imp {e : Expr} {t t' : TE} (h : PE X e t) (w : ∀ σ H Q, t' σ H Q → t σ H Q) : PE X e t' := ⟨fun pins s σ H Q I q => h.run pins s σ H Q I (w σ H Q q)⟩
theorem pt_imp {e : Expr} {t t' : TT} (h : PT X e t) (w : ∀ σ H Q, t' σ H Q → t σ H Q) : PT X e t' := ⟨fun pins s σ H Q I q => h.run pins s σ H Q I (w σ H Q q)⟩
theorem ps_imp {e : Stmt} {t t' : TS} (h : PS X e t) (w : ∀ D σ H, t' D σ H → t D σ H) : PS X e t' := ⟨fun pins s σ H D I q => h.run pins s σ H D I (w D σ H q)⟩
theorem pg_imp {e : Expr} {t t' : TG} (h : PG X e t) (w : ∀ v σ H Q, t' v σ H Q → t v σ H Q) : PG X e t' := ⟨fun pins s σ H v u Q I r q => h.run pins s σ H v u Q I r (w v σ H Q q)⟩
theorem pgs_imp {e : List Expr} {t t' : TGs} (h : PGs X e t) (w : ∀ v σ H Q, t' v σ H Q → t v σ H Q) : PGs X e t' := ⟨fun pins s σ H v u Q I r q => h.run pins s σ H v u Q I r (w v σ H Q q)⟩
theorem opR_imp {f : Value → Value → Sem Value} {r r' : R2} (h : OpR X f r) (w : ∀ x y H Q, r' x y H Q → r x y H Q) : OpR X f r' := fun pins s σ H x y v u Q I rx ry q => h pins s σ H x y v u Q I rx ry (w x y H Q q)
theorem ixR_imp {r r' : R2} (h : IxR X r) (w : ∀ x y H Q, r' x y H Q → r x y H Q) : IxR X r' := fun value slice pins s σ H x y v u Q I rx ry q => h value slice pins s σ H x y v u Q I rx ry (w x y H Q q)
theorem slR_imp {r r' : V → Option Int → Option Int → Hp → VK → Prop} (h : SlR X r) (w : ∀ x l u H Q, r' x l u H Q → r x l u H Q) : SlR X r' := fun pins s σ H x v vl vu lo hi sl Q I rx hs pl pu q => h pins s σ H x v vl vu lo hi sl Q I rx hs pl pu (w _ _ _ _ _ q)
theorem callR_imp {f : Value} {r r' : List V → Hp → VK → Prop} (h : CallR X f r) (w : ∀ x H Q, r' x H Q → r x H Q) : CallR X f r' := fun pins s σ H xs us Q I r q => h pins s σ H xs us Q I r (w _ _ _ q)
end

/-! ### texts as lists of codes -/
def S (l : List Nat) : Str := ⟨l.toArray⟩
theorem S_cps (l : List Nat) : (S l).cps.toList = l := by simp [S]
theorem S_len (l : List Nat) : (S l).length = l.length := by simp [S, Str.length]
theorem S_app (a b : List Nat) : S a ++ S b = S (a ++ b) := by
  show (⟨a.toArray ++ b.toArray⟩ : Str) = ⟨(a ++ b).toArray⟩
  rw [← List.append_toArray]
theorem S_inj {a b : List Nat} : S a = S b ↔ a = b := by
  constructor
  · intro h
    have := congrArg (fun s : Str => s.cps.toList) h
    simpa [S] using this
  · rintro rfl; rfl
theorem S_of (z : Str) : S z.cps.toList = z := by
  cases z; simp [S]
theorem S_one (c : Nat) : (⟨#[c]⟩ : Str) = S [c] := rfl
theorem str_S (a b : List Nat) : (V.str (S a) = V.str (S b)) ↔ a = b := by
  rw [V.str.injEq, S_inj]

/-! ### slots -/
abbrev Sl := List (Option V)
def gt : Sl → Nat → Option V
  | [], _ => none
  | x :: _, 0 => x
  | _ :: r, n + 1 => gt r n
theorem gt_some : ∀ {σ : Sl} {i : Nat} {v : V}, gt σ i = some v → σ[i]? = some (some v)
  | [], _, _, h => by cases h
  | x :: _, 0, v, h => by
    have h' : x = some v := h
    rw [h']; rfl
  | _ :: r, n + 1, v, h => by
    have := gt_some (σ := r) (i := n) (v := v) h
    simpa using this
def mVar (i : Nat) : TE := fun σ H Q => match gt σ i with | some v => Q v H | none => False
def mC (v : V) : TE := fun _ H Q => Q v H
section
variable {X : Cx} {a b : Expr} {ta tb : TE} {pos : Pos}
theorem mv (i : Nat) {x : Str} {pos : Pos} (hN : X.N[i]? = some x := by rfl) (hv : Vis X.env.scope x := by first | exact Or.inl rfl | exact Or.inr (Or.inl rfl) | exact Or.inr (Or.inr rfl)) (hd : (x == ("__debug__" : Str)) = false := by decide)
    (hcd : (x == ("__classdict__" : Str)) = false := by decide) : PE X (.Name x pos) (mVar i) := pe_imp (pe_var hN hv hd hcd) fun σ H Q q => by
  unfold mVar at q
  cases e : gt σ i with
  | none => rw [e] at q; exact q.elim
  | some v => rw [e] at q; exact ⟨v, gt_some e, q⟩
theorem me_int {i j pos} : PE X (.Constant (.int i) j pos) (mC (.int i)) := pe_int
theorem me_bl {i j pos} : PE X (.Constant (.bool i) j pos) (mC (.bl i)) := pe_bl
theorem me_non {j pos} : PE X (.Constant .none j pos) (mC .non) := pe_non
theorem me_str (l : List Nat) {x j pos} (h : x = S l) : PE X (.Constant (.str x) j pos) (mC (.str (S l))) := by subst h; exact pe_str
theorem me_gint {x : Str} {i : Int} {t : Tok} {pos : Pos} (hg : Gl X x) (hm : X.mg x = some (.int i t)) (hd : (x == ("__debug__" : Str)) = false := by decide) : PE X (.Name x pos) (mC (.int i)) := pe_glob hg hm ⟨t, rfl⟩ hd
theorem me_gstr (l : List Nat) {x z : Str} {t : Tok} {pos : Pos} (hg : Gl X x) (hm : X.mg x = some (.str z t)) (h : z = S l) (hd : (x == ("__debug__" : Str)) = false := by decide) : PE X (.Name x pos) (mC (.str (S l))) := by
  subst h; exact pe_glob hg hm ⟨t, rfl⟩ hd

/-! ### operators -/
/-- a number below this many bits in all -/
def MulOk (i j : Int) : Prop := i.natAbs.log2 + j.natAbs.log2 < 1000000
theorem MulOk.of {i j : Int} (a b : Nat) (ha : i.natAbs < 2 ^ a) (hb : j.natAbs < 2 ^ b) (h0 : 0 < a := by decide) (h1 : 0 < b := by decide) (h : a + b ≤ 1000000 := by decide) : MulOk i j := wide_mul ha hb h0 h1 h
def DivOk (j : Int) : Prop := 0 < j ∧ j.natAbs.log2 < 9000
theorem DivOk.of {j : Int} (b : Nat) (h : 0 < j) (hb : j.natAbs < 2 ^ b) (h0 : 0 < b := by decide) (h9 : b ≤ 9000 := by decide) : DivOk j := wide_div (i := 0) h hb h0 h9
def mAdd : R2 := fun x y H Q => match x, y with
  | .int i, .int j => Q (.int (i + j)) H
  | .str a, .str b => a.length + b.length ≤ sizeLine ∧ Q (.str (a ++ b)) H
  | .ref a, .ref b => (∃ xs zs, H a = some (.lst xs) ∧ H b = some (.lst zs) ∧ xs.length + zs.length ≤ sizeLine ∧ ∀ p, H p = none → Q (.ref p) (upd H p (.lst (xs ++ zs))))
  | .int i, .bl k => Q (.int (i + b2i k)) H
  | _, _ => False
theorem op_addM : OpR X (binaryOp .Add) mAdd := by
  intro pins s σ H x y v u Q I rx ry q
  unfold mAdd at q
  split at q
  · exact op_add pins s σ H _ _ v u Q I rx ry ⟨_, _, rfl, rfl, q⟩
  · exact op_add_str pins s σ H _ _ v u Q I rx ry ⟨_, _, rfl, rfl, q⟩
  · obtain ⟨xs, zs, h1, h2, h3, h4⟩ := q
    exact op_cat pins s σ H _ _ v u Q I rx ry ⟨_, _, xs, zs, rfl, rfl, h1, h2, h3, h4⟩
  · exact op_add_ib pins s σ H _ _ v u Q I rx ry ⟨_, _, rfl, rfl, q⟩
  · exact q.elim
def mSub : R2 := fun x y H Q => match x, y with
  | .int i, .int j => Q (.int (i - j)) H
  | _, _ => False
theorem op_subM : OpR X (binaryOp .Sub) mSub := opR_imp op_sub fun x y H Q q => by
  unfold mSub at q
  split at q
  · exact ⟨_, _, rfl, rfl, q⟩
  · exact q.elim
def mMul : R2 := fun x y H Q => match x, y with
  | .int i, .int j => MulOk i j ∧ Q (.int (i * j)) H
  | .ref l, .int k => ∃ xs, H l = some (.lst xs) ∧ -(2 ^ 63) ≤ k ∧ k < 2 ^ 63 ∧ xs.length * k.toNat ≤ sizeLine ∧ ∀ p, H p = none → Q (.ref p) (upd H p (.lst (List.replicate k.toNat xs).flatten))
  | .str a, .int k => (a.length * 4096 ≤ 16777216 ∧ 0 ≤ k ∧ k ≤ 4096) ∧ Q (.str (Txt.mul a k)) H
  | _, _ => False
theorem op_mulM : OpR X (binaryOp .Mult) mMul := by
  intro pins s σ H x y v u Q I rx ry q
  unfold mMul at q
  split at q
  · exact op_mulW pins s σ H _ _ v u Q I rx ry ⟨_, _, rfl, rfl, q⟩
  · obtain ⟨xs, h1, h2, h3, h4, h5⟩ := q
    exact op_rep pins s σ H _ _ v u Q I rx ry ⟨_, _, xs, rfl, rfl, h1, h2, h3, h4, h5⟩
  · rename_i a k
    obtain ⟨⟨h1, h2, h3⟩, q⟩ := q
    obtain ⟨t, rfl⟩ := rx
    obtain ⟨t', rfl⟩ := ry
    exact SB.mul (PyProof.Rows.mulOk_of a.length 4096 (Nat.le_refl _) h3 (by omega) (by decide) h1) fun t2 k2 => ⟨.str _, H, I.tok _, ⟨_, rfl⟩, q⟩
  · exact q.elim
def mMod : R2 := fun x y H Q => match x, y with
  | .int i, .int j => 0 < j ∧ Q (.int (i % j)) H
  | _, _ => False
theorem op_modM : OpR X (binaryOp .Mod) mMod := opR_imp op_mod fun x y H Q q => by
  unfold mMod at q
  split at q
  · exact ⟨_, _, rfl, rfl, q⟩
  · exact q.elim
def mDiv : R2 := fun x y H Q => match x, y with
  | .int i, .int j => DivOk j ∧ Q (.int (i / j)) H
  | _, _ => False
theorem op_divM : OpR X (binaryOp .FloorDiv) mDiv := opR_imp op_fdivW fun x y H Q q => by
  unfold mDiv at q
  split at q
  · exact ⟨_, _, rfl, rfl, q⟩
  · exact q.elim
def mPow : R2 := fun x y H Q => match x, y with
  | .int i, .int j => (0 ≤ j ∧ (Builtin.Int.intBits i : Int) * j ≤ 2 ^ 27) ∧ Q (.int (i ^ j.toNat)) H
  | _, _ => False
theorem op_powM : OpR X (binaryOp .Pow) mPow := by
  intro pins s σ H x y v u Q I rx ry q
  unfold mPow at q
  split at q
  · obtain ⟨t, rfl⟩ := rx
    obtain ⟨t', rfl⟩ := ry
    exact pow_int q.1.1 q.1.2 ⟨.int _, H, I.tok _, ⟨_, rfl⟩, q.2⟩
  · exact q.elim

/-! ### comparisons -/
def mEqB (x y : V) : Option Bool := match x, y with
  | .int i, .int j => some (decide (i = j))
  | .str a, .str b => some (decide (a = b))
  | .bl a, .bl b => some (decide (a = b))
  | .non, .non => some true
  | .non, .int _ => some false
  | .non, .str _ => some false
  | .non, .bl _ => some false
  | .int _, .non => some false
  | .str _, .non => some false
  | .bl _, .non => some false
  | .int _, .str _ => some false
  | .str _, .int _ => some false
  | .bl _, .str _ => some false
  | .str _, .bl _ => some false
  | _, _ => none
theorem mEqB_ok {x y : V} {b : Bool} (h : mEqB x y = some b) : scal x y = true ∧ decide (x = y) = b := by
  unfold mEqB at h
  split at h <;> (try cases h) <;> refine ⟨rfl, ?_⟩ <;> simp
/-- == of data, one of both not deep -/
def rEqW (K : PySem.W.Frag) (neg : Bool) : R2 := fun x y H Q => ∃ d e, Dp K H x d ∧ Dp K H y e ∧ d.canLay0 = true ∧ e.canLay0 = true ∧ min d.depth e.depth ≤ 64 ∧ Q (.bl (if neg then !PyData.eqv d e else PyData.eqv d e)) H
theorem op_eqW (hu : X.A.units + 64 < cLine) : OpR X (compareOp .Eq) (rEqW X.K false) := by
  intro pins s σ H x y v u Q I rx ry h
  obtain ⟨d, e, hd, he, sd, se, hm, q⟩ := h
  obtain ⟨as, r1⟩ := Dp.reads I d x v hd rx
  obtain ⟨bs, r2⟩ := Dp.reads I e y u he ry
  exact SeqAt.compareEq_reads r1 r2 sd se (by omega) ⟨.bl _, H, I, rfl, q⟩
theorem op_neW (hu : X.A.units + 64 < cLine) : OpR X (compareOp .NotEq) (rEqW X.K true) := by
  intro pins s σ H x y v u Q I rx ry h
  obtain ⟨d, e, hd, he, sd, se, hm, q⟩ := h
  obtain ⟨as, r1⟩ := Dp.reads I d x v hd rx
  obtain ⟨bs, r2⟩ := Dp.reads I e y u he ry
  exact SeqAt.compareNe_reads r1 r2 sd se (by omega) ⟨.bl _, H, I, rfl, q⟩
def mEq (K : PySem.W.Frag) : R2 := fun x y H Q => match mEqB x y with
  | some b => Q (.bl b) H
  | none => rEqW K false x y H Q
def mNe (K : PySem.W.Frag) : R2 := fun x y H Q => match mEqB x y with
  | some b => Q (.bl (!b)) H
  | none => rEqW K true x y H Q
theorem op_eqM (hu : X.A.units + 64 < cLine) : OpR X (compareOp .Eq) (mEq X.K) := by
  intro pins s σ H x y v u Q I rx ry q
  unfold mEq at q
  split at q
  · rename_i b e
    obtain ⟨h1, h2⟩ := mEqB_ok e
    refine op_eq pins s σ H _ _ v u Q I rx ry ⟨h1, ?_⟩
    rw [h2]; exact q
  · exact op_eqW hu pins s σ H _ _ v u Q I rx ry q
theorem op_neM (hu : X.A.units + 64 < cLine) : OpR X (compareOp .NotEq) (mNe X.K) := by
  intro pins s σ H x y v u Q I rx ry q
  unfold mNe at q
  split at q
  · rename_i b e
    obtain ⟨h1, h2⟩ := mEqB_ok e
    refine op_ne pins s σ H _ _ v u Q I rx ry ⟨h1, ?_⟩
    rw [h2]; exact q
  · exact op_neW hu pins s σ H _ _ v u Q I rx ry q
def mCmp (p : Int → Int → Bool) : R2 := fun x y H Q => match x, y with
  | .int i, .int j => Q (.bl (p i j)) H
  | _, _ => False
theorem cmp_imp {p : Int → Int → Bool} {f : Value → Value → Sem Value} (h : OpR X f (rI0 fun i j => .bl (p i j))) : OpR X f (mCmp p) := opR_imp h fun x y H Q q => by
  unfold mCmp at q
  split at q
  · exact ⟨_, _, rfl, rfl, q⟩
  · exact q.elim
def mLt : R2 := mCmp fun i j => decide (i < j)
def mLe : R2 := mCmp fun i j => decide (i ≤ j)
def mGt : R2 := mCmp fun i j => decide (j < i)
def mGe : R2 := mCmp fun i j => decide (j ≤ i)
theorem op_ltM : OpR X (compareOp .Lt) mLt := cmp_imp op_lt
theorem op_leM : OpR X (compareOp .LtE) mLe := cmp_imp op_le
theorem op_gtM : OpR X (compareOp .Gt) mGt := cmp_imp op_gt
theorem op_geM : OpR X (compareOp .GtE) mGe := cmp_imp op_ge
/-- is None, is not None -/
def isN : V → Bool
  | .non => true
  | _ => false
theorem isN_eq (x : V) : decide (x = .non) = isN x := by cases x <;> simp [isN]
def mIsN : R2 := fun x y H Q => match y with
  | .non => Q (.bl (isN x)) H
  | _ => False
def mNotN : R2 := fun x y H Q => match y with
  | .non => Q (.bl (!isN x)) H
  | _ => False
theorem op_isNM : OpR X (compareOp .Is) mIsN := opR_imp op_isN fun x y H Q q => by
  unfold mIsN at q
  split at q
  · exact ⟨rfl, by rw [isN_eq]; exact q⟩
  · exact q.elim
theorem op_notNM : OpR X (compareOp .IsNot) mNotN := opR_imp op_notN fun x y H Q q => by
  unfold mNotN at q
  split at q
  · exact ⟨rfl, by rw [isN_eq]; exact q⟩
  · exact q.elim
/-- x in a list or tuple of flat things -/
def mInS (K : PySem.W.Frag) : R2 := fun x y H Q => rIn K false x y H Q
def mNinS (K : PySem.W.Frag) : R2 := fun x y H Q => rIn K true x y H Q
theorem op_inSM : OpR X (compareOp .In) (mInS X.K) := op_in_seq
theorem op_ninSM : OpR X (compareOp .NotIn) (mNinS X.K) := op_notIn_seq
/-- one sign in a text -/
def mInC : R2 := fun x y H Q => match x, y with
  | .str c, .str z => ∃ k, c = S [k] ∧ Q (.bl (decide (k ∈ z.cps.toList))) H
  | _, _ => False
theorem op_inCM : OpR X (compareOp .In) mInC := opR_imp op_in_sign fun x y H Q q => by
  unfold mInC at q
  split at q
  · obtain ⟨k, rfl, q⟩ := q
    exact ⟨k, _, rfl, rfl, q⟩
  · exact q.elim
def mNinC : R2 := fun x y H Q => match x, y with
  | .str c, .str z => ∃ k, c = S [k] ∧ Q (.bl (!decide (k ∈ z.cps.toList))) H
  | _, _ => False
theorem op_ninCM : OpR X (compareOp .NotIn) mNinC := opR_imp op_notIn_sign fun x y H Q q => by
  unfold mNinC at q
  split at q
  · obtain ⟨k, rfl, q⟩ := q
    exact ⟨k, _, rfl, rfl, q⟩
  · exact q.elim

/-! ### tests -/
def mTest (t : TE) : TT := fun σ H Q => t σ H fun x H' => match x with
  | .bl k => Q k H'
  | _ => False
def bX (Q : Bool → Hp → Prop) : VK := fun x H' => ∃ k, x = .bl k ∧ Q k H'
theorem bX_of {Q : Bool → Hp → Prop} {x : V} {H : Hp} (q : match x with | .bl k => Q k H | _ => False) : ∃ k, x = .bl k ∧ Q k H := by
  cases x with
  | bl k => exact ⟨k, rfl, q⟩
  | _ => exact q.elim
end
end M

namespace M
open PySem PySem.Spec PyProof.Rows L2

/-! ### a reading's closure: what it wants may be weaker than what is given -/
def cl (t : TE) : TE := fun σ H Q => ∃ Q' : VK, t σ H Q' ∧ ∀ v H', Q' v H' → Q v H'
def clT (t : TT) : TT := fun σ H Q => ∃ Q' : Bool → Hp → Prop, t σ H Q' ∧ ∀ v H', Q' v H' → Q v H'
def clA (t : TA) : TA := fun σ H Q => ∃ Q' : List V → Hp → Prop, t σ H Q' ∧ ∀ v H', Q' v H' → Q v H'
section
variable {X : Cx} {a b c : Expr} {ta tb tc : TE} {pos : Pos} {t u : TT}
theorem pe_cl (h : PE X a ta) : PE X a (cl ta) := ⟨fun pins s σ H Q I ⟨Q', q, w⟩ => thn (h.run pins s σ H Q' I q) fun _ _ ⟨v, H', I', r, z⟩ => ⟨v, H', I', r, w v H' z⟩⟩
theorem pt_cl (h : PT X a t) : PT X a (clT t) := ⟨fun pins s σ H Q I ⟨Q', q, w⟩ => thn (h.run pins s σ H Q' I q) fun _ _ ⟨H', I', z⟩ => ⟨H', I', w _ H' z⟩⟩
theorem pa_cl {es : List Expr} {t : TA} (h : PA X es t) : PA X es (clA t) := ⟨fun pos pins s σ H Q I ⟨Q', q, w⟩ => thn (h.run pos pins s σ H Q' I q) fun _ _ ⟨v, H', I', r, z⟩ => ⟨v, H', I', r, w v H' z⟩⟩
def clR (r : R2) : R2 := fun x y H Q => ∃ Q' : VK, r x y H Q' ∧ ∀ v H', Q' v H' → Q v H'
theorem opR_cl {f : Value → Value → Sem Value} {r : R2} (h : OpR X f r) : OpR X f (clR r) := fun pins s σ H x y v u Q I rx ry ⟨Q', q, w⟩ => thn (h pins s σ H x y v u Q' I rx ry q) fun _ _ ⟨v, H', I', r, z⟩ => ⟨v, H', I', r, w v H' z⟩

/-! ### tests -/
theorem mt_val (h : PE X a ta) (he : ∀ whole, isTrue a X.env whole = (do let v ← whole; standAt a.pos; holding [v] (truthy v)) := by intro _; rfl) : PT X a (mTest ta) :=
  pt_imp (pt_val (pe_cl h) he) fun σ H Q q => ⟨_, q, fun v H' z => bX_of z⟩
theorem mt_cmp {op : CmpOp} {r : R2} (ho : OpR X (compareOp op) r) (ha : PE X a ta) (hb : PE X b tb) (hm : behindInMarks op b = false) : PT X (.Compare a [op] [b] pos) (mTest (tOp r ta tb)) :=
  pt_imp (pt_cmpR (opR_cl ho) (pe_cl ha) (pe_cl hb) hm) fun σ H Q q => ⟨_, q, fun x H1 q1 => ⟨_, q1, fun y H2 q2 => ⟨_, q2, fun z H3 q3 => bX_of q3⟩⟩⟩
def mChain (r r' : R2) (ta tb tc : TE) : TE := fun σ H Q => ta σ H fun x H1 => tb σ H1 fun y H2 => r x y H2 fun z H3 => match z with
  | .bl true => tc σ H3 fun w H4 => r' y w H4 Q
  | .bl false => Q (.bl false) H3
  | _ => False
/-! and, or, not as values -/
def mAndV (ta tb : TE) : TE := fun σ H Q => ta σ H fun x H1 => match x with
  | .bl c => if c = true then tb σ H1 Q else Q (.bl false) H1
  | _ => False
def mOrV (ta tb : TE) : TE := fun σ H Q => ta σ H fun x H1 => match x with
  | .bl c => if c = true then Q (.bl true) H1 else tb σ H1 Q
  | _ => False
def mNotV (ta : TE) : TE := fun σ H Q => ta σ H fun x H1 => match x with
  | .bl c => Q (.bl (!c)) H1
  | _ => False
variable {rest : List Expr}
theorem me_and (ha : PE X a ta) (hb : PE X (.BoolOp .And (b :: rest) pos) tb) : PE X (.BoolOp .And (a :: b :: rest) pos) (mAndV ta tb) :=
  pe_imp (pe_and (pe_cl ha) hb) fun σ H Q q => ⟨_, q, fun x H1 z => by
    cases x with
    | bl c => exact ⟨c, rfl, z⟩
    | _ => exact z.elim⟩
theorem me_or (ha : PE X a ta) (hb : PE X (.BoolOp .Or (b :: rest) pos) tb) : PE X (.BoolOp .Or (a :: b :: rest) pos) (mOrV ta tb) :=
  pe_imp (pe_or (pe_cl ha) hb) fun σ H Q q => ⟨_, q, fun x H1 z => by
    cases x with
    | bl c => exact ⟨c, rfl, z⟩
    | _ => exact z.elim⟩
theorem me_not (ha : PE X a ta) : PE X (.UnaryOp .Not a pos) (mNotV ta) :=
  pe_imp (pe_not (pe_cl ha)) fun σ H Q q => ⟨_, q, fun x H1 z => by
    cases x with
    | bl c => exact ⟨c, rfl, z⟩
    | _ => exact z.elim⟩
def mUn (f : Int → Int) (ta : TE) : TE := fun σ H Q => ta σ H fun x H1 => match x with
  | .int i => Q (.int (f i)) H1
  | _ => False
theorem me_neg (ha : PE X a ta) : PE X (.UnaryOp .USub a pos) (mUn (fun i => -i) ta) :=
  pe_imp (pe_un un_neg (pe_cl ha)) fun σ H Q q => ⟨_, q, fun x H1 z => by
    cases x with
    | int i => exact ⟨i, rfl, z⟩
    | _ => exact z.elim⟩

/-! ### subscripts -/
def mIx (K : PySem.W.Frag) : R2 := fun x y H Q => match x, y with
  | .str z, .int i => z.length ≤ sizeLine ∧ ∃ c, atI z.cps.toList i = some c ∧ Q (.str (S [c])) H
  | .ref p, .int i => ∃ xs v, (SqL K H p xs ∨ SqT K H p xs) ∧ atI xs i = some v ∧ Q v H
  | _, _ => False
theorem ix_M : IxR X (mIx X.K) := ixR_imp ix_seq fun x y H Q q => by
  unfold mIx at q
  split at q
  · obtain ⟨h, c, e, q⟩ := q
    exact .inr (.inr ⟨_, _, c, rfl, rfl, h, e, q⟩)
  · obtain ⟨xs, v, h | h, e, q⟩ := q
    · exact .inl ⟨_, xs, _, v, rfl, rfl, h, e, q⟩
    · exact .inr (.inl ⟨_, xs, _, v, rfl, rfl, h, e, q⟩)
  · exact q.elim
theorem me_ix (ha : PE X a ta) (hb : PE X b tb) (hs : PlainIx b) : PE X (.Subscript a b pos) (tOp (mIx X.K) ta tb) := pe_ix ix_M ha hb hs
def mPart (t : TE) : TO := fun σ H Q => t σ H fun x H1 => match x with
  | .int i => Q (some i) H1
  | _ => False
theorem mo_some (h : PE X a ta) : PO X (some a) (mPart ta) := by
  have z := po_some (pe_cl h)
  exact ⟨fun pins s σ H Q I q => z.run pins s σ H Q I ⟨_, q, fun x H1 y => by
    cases x with
    | int i => exact ⟨i, rfl, y⟩
    | _ => exact y.elim⟩⟩
/-- l[lo:hi] -/
def cutL {α : Type} (l : List α) (lo hi : Option Int) : List α := (l.drop (HT.sIx l.length 0 lo)).take (HT.sIx l.length l.length hi - HT.sIx l.length 0 lo)
def mSl (K : PySem.W.Frag) : V → Option Int → Option Int → Hp → VK → Prop := fun x lo hi H Q => match x with
  | .str z => z.length ≤ sizeLine ∧ Q (.str (S (cutL z.cps.toList lo hi))) H
  | .ref a => (∃ xs, SqL K H a xs ∧ ∀ p, H p = none → Q (.ref p) (upd H p (.lst (cutL xs lo hi))))
  | _ => False
theorem sl_M : SlR X (mSl X.K) := slR_imp (sl_str.or sl_list) fun x lo hi H Q q => by
  unfold mSl at q
  split at q
  · exact .inl ⟨_, rfl, q.1, q.2⟩
  · obtain ⟨xs, h, q⟩ := q
    exact .inr ⟨_, xs, rfl, h, q⟩
  · exact q.elim
theorem me_slice {lo hi : Option Expr} {tl th : TO} {p2 : Pos} (ha : PE X a ta) (hl : PO X lo tl) (hh : PO X hi th) : PE X (.Subscript a (.Slice lo hi none p2) pos) (tSl (mSl X.K) ta tl th) := pe_slice sl_M ha hl hh
end

/-! ### statements -/
section
variable {X : Cx} {pos : Pos}
/-- (a, b, ..) = a tuple -/
def mgTup (K : PySem.W.Frag) (n : Nat) (t : TGs) : TG := fun v σ H Q => match v with
  | .ref a => ∃ xs, SqT K H a xs ∧ xs.length = n ∧ t xs σ H Q
  | _ => False
theorem mg_tup {es : List Expr} {k : Nat} {t : TGs} {n : Nat} (hc : X.calm = true) (h : PGs X es t)
    (hn : (assignEach es X.env).length = n := by rfl) (hst : (assignEach es X.env).findIdx? (·.1) = none := by rfl) : PG X (.Tuple es k pos) (mgTup X.K n t) :=
  pg_imp (pg_tup hc h hn hst) fun v σ H Q q => by
    unfold mgTup at q
    split at q
    · obtain ⟨xs, h, q⟩ := q
      exact ⟨_, xs, rfl, h, q⟩
    · exact q.elim
def mgNil : TGs := fun vs σ H Q => match vs with
  | [] => Q σ H
  | _ => False
def mgCons (t : TG) (u : TGs) : TGs := fun vs σ H Q => match vs with
  | v :: r => t v σ H fun σ' H' => u r σ' H' Q
  | [] => False
theorem mgs_nil : PGs X [] mgNil := pgs_imp pgs_nil fun vs σ H Q q => by
  cases vs with
  | nil => exact ⟨rfl, q⟩
  | cons _ _ => exact q.elim
theorem mgs_cons {e : Expr} {es : List Expr} {t : TG} {u : TGs} (h1 : PG X e t) (h2 : PGs X es u)
    (hs : (assignEach (e :: es) X.env).map (·.2) = assign e X.env :: (assignEach es X.env).map (·.2) := by rfl) : PGs X (e :: es) (mgCons t u) := pgs_imp (pgs_cons h1 h2 hs) fun vs σ H Q q => by
  cases vs with
  | nil => exact q.elim
  | cons v r => exact ⟨v, r, rfl, q⟩
/-- o[i] = v, a list -/
def mSetL : V → V → V → Hp → (Hp → Prop) → Prop := fun o i v H Q => match o, i with
  | .ref p, .int k => ∃ xs j, H p = some (.lst xs) ∧ ixN xs.length k = some j ∧ Q (upd H p (.lst (xs.set j v)))
  | _, _ => False
theorem set_listM : PSet X mSetL := fun pins s σ H o i v ov iv u Q I ro ri rv q => by
  unfold mSetL at q
  split at q
  · obtain ⟨xs, j, h1, h2, q⟩ := q
    exact set_list pins s σ H _ _ v ov iv u Q I ro ri rv ⟨_, xs, _, j, rfl, rfl, h1, h2, q⟩
  · exact q.elim
/-- a, b = x, y -/
def mPar (i j : Nat) (ta : TA) : TS := fun D σ H => ta σ H fun vs H1 => match vs with
  | [v, w] => D.nx ((σ.set i (some v)).set j (some w)) H1
  | _ => False
theorem ms_par {i j : Nat} {x y : Str} {a b : Expr} {ta : TA} {px py pt : Pos} {kt k2 pt2} (hc : X.calm = true) (hN : X.N.Nodup) (hi : X.N[i]? = some x) (hj : X.N[j]? = some y) (hij : i ≠ j)
    (hx : X.env.scope.names.lookup x = some .local) (hy : X.env.scope.names.lookup y = some .local) (ha : PA X [a, b] ta)
    (hw : swappedStores [.Tuple [.Name x px, .Name y py] kt pt] (.Tuple [a, b] k2 pt2) X.env = pure (some [x, y]))
    (hs : swapsWithSole [.Tuple [.Name x px, .Name y py] kt pt] (.Tuple [a, b] k2 pt2) pos.line X.env = pure false := by rfl) :
    PS X (.Assign [.Tuple [.Name x px, .Name y py] kt pt] (.Tuple [a, b] k2 pt2) pos) (mPar i j ta) :=
  ps_imp (ps_par hc hN hi hj hij hx hy (pa_cl ha) hw hs) fun D σ H q => ⟨_, q, fun vs H1 z => by
    split at z
    · exact ⟨_, _, rfl, z⟩
    · exact z.elim⟩
/-- name op= e -/
def mAug (i : Nat) (te : TE) (r : R2) : TS := fun D σ H => match gt σ i with
  | some x => te σ H fun y H1 => r x y H1 fun z H2 => D.nx (σ.set i (some z)) H2
  | none => False
theorem ms_aug {i : Nat} {x : Str} {e : Expr} {te : TE} {op : Operator} {r : R2} {pos' : Pos} (hN : X.N.Nodup) (hi : X.N[i]? = some x) (hx : Loc X.env.scope x) (he : PE X e te) (ho : OpR X (inplaceOp op) r) (hf : X.fn x = true ∨ X.env.scope.names.lookup x = some .local := by first | exact .inl rfl | exact .inr rfl | assumption) :
    PS X (.AugAssign (.Name x pos') op e pos) (mAug i te r) :=
  ps_imp (ps_aug hN hi hx he (ti := r) (fun pins s σ H x y v u Q I r1 r2 h => ho pins s σ H x y v u Q I r1 r2 h) hf) fun D σ H q => by
    unfold mAug at q
    split at q
    · rename_i x e
      exact ⟨x, gt_some e, q⟩
    · exact q.elim
def iAdd : R2 := fun x y H Q => match x, y with
  | .int i, .int j => Q (.int (i + j)) H
  | .str a, .str b => a.length + b.length ≤ sizeLine ∧ Q (.str (a ++ b)) H
  | .ref l, .ref b => ∃ xs zs, H l = some (.lst xs) ∧ H b = some (.lst zs) ∧ xs.length + zs.length ≤ sizeLine ∧ Q (.ref l) (upd H l (.lst (xs ++ zs)))
  | _, _ => False
theorem iop_addM : OpR X (inplaceOp .Add) iAdd := by
  intro pins s σ H x y v u Q I rx ry q
  unfold iAdd at q
  split at q
  · exact iop_add pins s σ H _ _ v u Q I rx ry ⟨_, _, rfl, rfl, q⟩
  · exact iop_add_str pins s σ H _ _ v u Q I rx ry ⟨_, _, rfl, rfl, q⟩
  · obtain ⟨xs, zs, h1, h2, h3, q⟩ := q
    exact iop_ext pins s σ H _ _ v u Q I rx ry ⟨_, _, xs, zs, rfl, rfl, h1, h2, h3, q⟩
  · exact q.elim
theorem iop_subM : OpR X (inplaceOp .Sub) mSub := opR_imp iop_sub fun x y H Q q => by
  unfold mSub at q
  split at q
  · exact ⟨_, _, rfl, rfl, q⟩
  · exact q.elim
end

/-! ### what is walked -/
inductive Src where
  | v (G : Hp → Prop) (L : List V)
  | p (G : Hp → Prop) (L : List (V × V))
def Feeds (J : It) : Src → Prop
  | .v G L => Walk J L.length G (YAt L)
  | .p G L => Walk J L.length G (YPair (fun i => L[i]?.map (·.1)) (fun i => L[i]?.map (·.2)))
abbrev MI := Sl → Hp → (Src → Hp → Prop) → Prop
def toTI (wi : MI) : TI := fun σ H R => ∃ P : Src → Hp → Prop, wi σ H P ∧ ∀ s H1 J, P s H1 → Feeds J s → R J H1
section
variable {X : Cx} {tg : Expr} {l e2 : Expr} {tl t2 : TE}
def mIter (K : PySem.W.Frag) (tl : TE) : MI := fun σ H P => tl σ H fun x H1 => match x with
  | .ref a => ∃ xs, (SqL K H1 a xs ∧ P (.v (fun H => SqL K H a xs) xs) H1) ∨ (SqT K H1 a xs ∧ P (.v (fun H => SqT K H a xs) xs) H1)
  | .str z => P (.v (fun _ => True) (z.cps.toList.map fun c => .str (S [c]))) H1
  | _ => False
/-- the walk of a value, by its rule -/
def ItR (X : Cx) (tg : Expr) (r : V → Hp → (It → Hp → Prop) → Prop) : Prop :=
  ∀ (pins : List (Addr × Obj)) (s : Shared) (σ : L2.St) (H : Hp) (x : V) (v : Value) (R : It → Hp → Prop), Inv X pins σ H s → RelV x v → r x H R → wpAny (model X.prog X.w) X.A (pyIter v) (PIE X pins σ tg R) X.xe s
theorem pi_of {r : V → Hp → (It → Hp → Prop) → Prop} (he : PE X l tl) (hr : ItR X tg r) : PI X tg l (fun σ H R => tl σ H fun x H1 => r x H1 R) :=
  ⟨fun pins s σ H R I h => thn (he.run pins s σ H _ I h) fun v s1 ⟨x, H1, I1, r1, q1⟩ => hr pins s1 σ H1 x v R I1 r1 q1⟩
theorem itr_list : ItR X tg (fun x H R => ∃ a, x = .ref a ∧ (∃ xs, SqL X.K H a xs) ∧ R (Itl X.K a) H) := by
  intro pins s1 σ H1 x v R I1 r1 q1
  obtain ⟨a, e, ⟨xs, hq⟩, q⟩ := q1
  subst e
  cases r1
  obtain ⟨its, rv, p, hz⟩ := I1.list hq
  refine wpAny_pyIter_list p.isList ?_
  refine ⟨s1.heap.objs.size, [s1.heap.objs.size], _, _, H1, rfl, I1.kept (t' := s1.toks) fun b o e => Heap.get?_push_of_some _ e, turn_list a _, ⟨_, Heap.get?_push_size _ rfl, rfl, rfl⟩, fun b hb => ?_, q⟩
  have e : b = s1.heap.objs.size := by simpa using hb
  subst e
  exact I1.fpOk (Nat.le_refl _) (I1.hok.fresh (Nat.le_refl _))
theorem itr_tup : ItR X tg (fun x H R => ∃ a, x = .ref a ∧ (∃ xs, SqT X.K H a xs) ∧ R (Itt X.K a) H) := by
  intro pins s1 σ H1 x v R I1 r1 q1
  obtain ⟨a, e, ⟨xs, hq⟩, q⟩ := q1
  subst e
  cases r1
  obtain ⟨its, rv, p, hz⟩ := I1.tuple hq
  refine wpAny_pyIter_tuple (show s1.heap.IsTuple a its.toArray from p) ?_
  refine ⟨s1.heap.objs.size, [s1.heap.objs.size], _, _, H1, rfl, I1.kept (t' := s1.toks) fun b o e => Heap.get?_push_of_some _ e, turn_tuple a _, ⟨_, Heap.get?_push_size _ rfl, rfl, rfl⟩, fun b hb => ?_, q⟩
  have e : b = s1.heap.objs.size := by simpa using hb
  subst e
  exact I1.fpOk (Nat.le_refl _) (I1.hok.fresh (Nat.le_refl _))
theorem itr_str : ItR X tg (fun x H R => ∃ z, x = .str z ∧ R (Its z) H) := by
  intro pins s1 σ H1 y v R I1 r1 q1
  obtain ⟨x, ex, q⟩ := q1
  subst ex
  obtain ⟨t, rfl⟩ := r1
  cases ha : x.cps.all (· < 128)
  · exact wpAny_pyIter_wide ha (pi_one (tk := s1.toks) I1 _ (turn_str _ x t "str_iterator" (.inr rfl)) ⟨_, Heap.get?_push_size _ rfl, rfl, rfl⟩ q)
  · exact wpAny_pyIter_ascii ha (pi_one (tk := s1.toks) I1 _ (turn_str _ x t "str_ascii_iterator" (.inl rfl)) ⟨_, Heap.get?_push_size _ rfl, rfl, rfl⟩ q)
theorem feeds_list {K : PySem.W.Frag} {a : Addr} {xs : List V} : Feeds (Itl K a) (.v (fun H => SqL K H a xs) xs) := walk_list
theorem feeds_tup {K : PySem.W.Frag} {a : Addr} {xs : List V} : Feeds (Itt K a) (.v (fun H => SqT K H a xs) xs) := walk_tup
theorem feeds_str {z : Str} : Feeds (Its z) (.v (fun _ => True) (z.cps.toList.map fun c => .str (S [c]))) := by
  have e : z.cps.size = (z.cps.toList.map fun c => V.str (S [c])).length := by simp
  have w := walk_str (z := z)
  rw [e] at w
  refine Walk.mono w (fun _ h => h) fun i H x H' _ _ ⟨h1, c, h2, h3⟩ => ⟨h1, ?_⟩
  rw [List.getElem?_map, Array.getElem?_toList, h2, h3]; rfl
theorem pi_iterM (he : PE X l tl) : PI X tg l (toTI (mIter X.K tl)) := by
  refine ⟨fun pins s σ H R I ⟨P, q, w⟩ => thn (he.run pins s σ H _ I q) fun v s1 ⟨x, H1, I1, r1, q1⟩ => ?_⟩
  cases x with
  | ref a =>
    obtain ⟨xs, h | h⟩ := q1
    · exact itr_list pins s1 σ H1 _ v R I1 r1 ⟨a, rfl, ⟨xs, h.1⟩, w _ _ _ h.2 feeds_list⟩
    · exact itr_tup pins s1 σ H1 _ v R I1 r1 ⟨a, rfl, ⟨xs, h.1⟩, w _ _ _ h.2 feeds_tup⟩
  | str z => exact itr_str pins s1 σ H1 _ v R I1 r1 ⟨z, rfl, w _ _ _ q1 feeds_str⟩
  | _ => exact q1.elim
theorem pi_imp {t t' : TI} (h : PI X tg l t) (w : ∀ σ H R, t' σ H R → t σ H R) : PI X tg l t' := ⟨fun pins s σ H R I q => h.run pins s σ H R I (w σ H R q)⟩
/-- range(n), range(a, b) -/
def upto (lo : Int) (n : Nat) : List V := (List.range n).map fun (i : Nat) => V.int (lo + (i : Int))
theorem upto_zero (lo : Int) : upto lo 0 = [] := rfl
theorem upto_succ (lo : Int) (n : Nat) : upto lo (n + 1) = .int lo :: upto (lo + 1) n := by
  unfold upto
  rw [List.range_succ_eq_map]
  simp only [List.map_cons, List.map_map]
  congr 1
  · simp
  · apply List.map_congr_left
    intro i _
    show V.int _ = V.int _
    congr 1
    simp
    omega
theorem feeds_range {lo : Int} {n : Nat} : Feeds (Itr lo n) (.v (fun _ => True) (upto lo n)) := by
  have e : n = (upto lo n).length := by simp [upto]
  have w := walk_range (lo := lo) (n := n)
  show Walk _ (upto lo n).length _ _
  rw [← e]
  refine Walk.mono w (fun _ h => h) fun i H x H' hi _ ⟨h1, h2⟩ => ⟨h1, ?_⟩
  unfold upto
  rw [List.getElem?_map, List.getElem?_range hi, h2]; rfl
def mRng1 (ta : TE) : MI := fun σ H P => ta σ H fun x H1 => match x with
  | .int j => (-(2 ^ 62) ≤ j ∧ j < 2 ^ 62) ∧ P (.v (fun _ => True) (upto 0 j.toNat)) H1
  | _ => False
def mRng2 (ta tb : TE) : MI := fun σ H P => ta σ H fun x H1 => tb σ H1 fun y H2 => match x, y with
  | .int i, .int j => (-(2 ^ 62) ≤ i ∧ i < 2 ^ 62 ∧ -(2 ^ 62) ≤ j ∧ j < 2 ^ 62) ∧ P (.v (fun _ => True) (upto i (j - i).toNat)) H2
  | _, _ => False
theorem pi_rng1M {a : Expr} {ta : TE} {p pos : Pos} (hg : Gl X "range") (hm : X.mg "range" = none) (ha : PE X a ta) (hs : starEach [a] X.env = [(false, eval a X.env)] := by rfl) : PI X tg (.Call (.Name "range" p) [a] [] pos) (toTI (mRng1 ta)) :=
  pi_imp (pi_range1 hg hm (pa_cons (pe_cl ha) pa_nil hs) hs) fun σ H R ⟨P, q, w⟩ => ⟨_, q, fun x H1 z => by
    cases x with
    | int j => exact ⟨j, rfl, z.1.1, z.1.2, w _ _ _ z.2 feeds_range⟩
    | _ => exact z.elim⟩
theorem pi_rng2M {a b : Expr} {ta tb : TE} {p pos : Pos} (hg : Gl X "range") (hm : X.mg "range" = none) (ha : PE X a ta) (hb : PE X b tb) (hs : starEach [a, b] X.env = [(false, eval a X.env), (false, eval b X.env)] := by rfl) (hs2 : starEach [b] X.env = [(false, eval b X.env)] := by rfl) :
    PI X tg (.Call (.Name "range" p) [a, b] [] pos) (toTI (mRng2 ta tb)) :=
  pi_imp (pi_range2 hg hm (pa_cons (pe_cl ha) (pa_cons (pe_cl hb) pa_nil hs2) (by rw [hs, hs2])) hs hs2) fun σ H R ⟨P, q, w⟩ => ⟨_, q, fun x H1 z => ⟨_, z, fun y H2 z2 => by
    split at z2
    · exact ⟨_, _, rfl, z2.1, w _ _ _ z2.2 feeds_range⟩
    · exact z2.elim⟩⟩
/-- enumerate(list) -/
def numd : Nat → List V → List (V × V)
  | _, [] => []
  | i, x :: r => (.int (i : Int), x) :: numd (i + 1) r
theorem numd_get : ∀ {k : Nat} {xs : List V} {i : Nat}, (numd k xs)[i]? = xs[i]?.map fun x => (V.int ((k + i : Nat) : Int), x)
  | _, [], _ => by simp [numd]
  | k, x :: r, 0 => by simp [numd]
  | k, x :: r, i + 1 => by
    have := numd_get (k := k + 1) (xs := r) (i := i)
    simp only [numd, List.getElem?_cons_succ, this]
    congr 1
    funext z
    congr 3
    omega
theorem numd_len : ∀ {k : Nat} {xs : List V}, (numd k xs).length = xs.length
  | _, [] => rfl
  | k, x :: r => by simp [numd, numd_len]
theorem feeds_enum {K : PySem.W.Frag} {a : Addr} {xs : List V} : Feeds (Ite K a) (.p (fun H => SqL K H a xs) (numd 0 xs)) := by
  show Walk _ (numd 0 xs).length _ _
  rw [numd_len]
  refine Walk.mono walk_enum (fun _ h => h) fun i H x H' _ _ ⟨T, y, z, h1, h2, h3, h4, h5⟩ => ⟨T, y, z, h1, h2, h3, ?_, ?_⟩
  · show (numd 0 xs)[i]?.map (·.1) = _
    have h5' : xs[i]? = some z := h5
    rw [numd_get, h5', ← h4]; simp
  · show (numd 0 xs)[i]?.map (·.2) = _
    have h5' : xs[i]? = some z := h5
    rw [numd_get, h5']; simp
def mEnum (K : PySem.W.Frag) (ta : TE) : MI := fun σ H P => ta σ H fun x H1 => match x with
  | .ref a => ∃ xs, SqL K H1 a xs ∧ P (.p (fun H => SqL K H a xs) (numd 0 xs)) H1
  | _ => False
theorem pi_enumM {e : Expr} {ta : TE} {p pos tpos : Pos} {elts : List Expr} {kk : Nat} (hg : Gl X "enumerate") (hm : X.mg "enumerate" = none) (ha : PE X e ta) (hs : starEach [e] X.env = [(false, eval e X.env)] := by rfl) :
    PI X (.Tuple elts kk tpos) (.Call (.Name "enumerate" p) [e] [] pos) (toTI (mEnum X.K ta)) :=
  pi_imp (pi_enum hg hm (pa_cons (pe_cl ha) pa_nil hs) hs) fun σ H R ⟨P, q, w⟩ => ⟨_, q, fun x H1 z => by
    cases x with
    | ref a => obtain ⟨xs, h, z⟩ := z; exact ⟨a, xs, rfl, h, w _ _ _ z feeds_enum⟩
    | _ => exact z.elim⟩
/-- zip(list, list) -/
theorem feeds_zip {K : PySem.W.Frag} {a b : Addr} {xs ys : List V} : Feeds (Itz K a b) (.p (fun H => SqL K H a xs ∧ SqL K H b ys) (xs.zip ys)) := by
  show Walk _ (xs.zip ys).length _ _
  rw [List.length_zip]
  refine Walk.mono (walk_zip rfl) (fun _ h => h) fun i H x H' _ _ ⟨T, y, z, h1, h2, h3, h4, h5⟩ => ⟨T, y, z, h1, h2, h3, ?_, ?_⟩
  · show (xs.zip ys)[i]?.map (·.1) = _
    have h4' : xs[i]? = some y := h4
    have h5' : ys[i]? = some z := h5
    rw [show (xs.zip ys)[i]? = some (y, z) from List.getElem?_zip_eq_some.mpr ⟨h4', h5'⟩]; rfl
  · show (xs.zip ys)[i]?.map (·.2) = _
    have h4' : xs[i]? = some y := h4
    have h5' : ys[i]? = some z := h5
    rw [show (xs.zip ys)[i]? = some (y, z) from List.getElem?_zip_eq_some.mpr ⟨h4', h5'⟩]; rfl
def mZip (K : PySem.W.Frag) (ta tb : TE) : MI := fun σ H P => ta σ H fun x H1 => tb σ H1 fun y H2 => match x, y with
  | .ref a, .ref b => ∃ xs ys, SqL K H2 a xs ∧ SqL K H2 b ys ∧ P (.p (fun H => SqL K H a xs ∧ SqL K H b ys) (xs.zip ys)) H2
  | _, _ => False
theorem pi_zipM {e e2 : Expr} {ta tb : TE} {p pos tpos : Pos} {elts : List Expr} {kk : Nat} (hg : Gl X "zip") (hm : X.mg "zip" = none) (ha : PE X e ta) (hb : PE X e2 tb)
    (hs : starEach [e, e2] X.env = (false, eval e X.env) :: starEach [e2] X.env := by rfl) (hs2 : starEach [e2] X.env = [(false, eval e2 X.env)] := by rfl) (hpl : (backTo pos (starEach [e2] X.env)).any (·.1) = false := by rfl) :
    PI X (.Tuple elts kk tpos) (.Call (.Name "zip" p) [e, e2] [] pos) (toTI (mZip X.K ta tb)) :=
  pi_imp (pi_zip hg hm (pa_cons (pe_cl ha) (pa_cons (pe_cl hb) pa_nil hs2) hs) hs hpl) fun σ H R ⟨P, q, w⟩ => ⟨_, q, fun x H1 z => ⟨_, z, fun y H2 z2 => by
    split at z2
    · obtain ⟨xs, ys, h1, h2, z2⟩ := z2
      exact ⟨_, _, xs, ys, rfl, h1, h2, w _ _ _ z2 feeds_zip⟩
    · exact z2.elim⟩⟩
end

/-! ### for -/
def fV (G : Hp → Prop) (g : TG) (tb : TS) (D : Ends) : List V → Sl → Hp → Prop
  | [], σ, H => G H ∧ D.nx σ H
  | x :: r, σ, H => G H ∧ g x σ H fun σ2 H2 => tb { D with nx := fV G g tb D r, ct := fV G g tb D r, bk := D.nx } σ2 H2
def fP (G : Hp → Prop) (g : TG) (tb : TS) (D : Ends) : List (V × V) → Sl → Hp → Prop
  | [], σ, H => G H ∧ D.nx σ H
  | x :: r, σ, H => G H ∧ ∀ T, H T = none → g (.ref T) σ (upd H T (.tup [x.1, x.2])) fun σ2 H2 => tb { D with nx := fP G g tb D r, ct := fP G g tb D r, bk := D.nx } σ2 H2
def mFor (wi : MI) (g : TG) (tb : TS) : TS := fun D σ H => wi σ H fun s H1 => match s with
  | .v G L => fV G g tb D L σ H1
  | .p G L => fP G g tb D L σ H1
theorem fV_G {G : Hp → Prop} {g : TG} {tb : TS} {D : Ends} {L : List V} {σ : Sl} {H : Hp} (h : fV G g tb D L σ H) : G H := by
  cases L <;> exact h.1
theorem fP_G {G : Hp → Prop} {g : TG} {tb : TS} {D : Ends} {L : List (V × V)} {σ : Sl} {H : Hp} (h : fP G g tb D L σ H) : G H := by
  cases L <;> exact h.1
theorem drop_at {α : Type} {L : List α} {i : Nat} {x : α} (h : L[i]? = some x) : L.drop i = x :: L.drop (i + 1) := by
  obtain ⟨hi, e⟩ := List.getElem?_eq_some_iff.mp h
  rw [← e]; exact List.drop_eq_getElem_cons hi
theorem ms_for {X : Cx} {tg iter : Expr} {body : List Stmt} {wi : MI} {g : TG} {tb : TS} {pos : Pos} (hp : PassesOwn (model X.prog X.w) X.A X.env X.xe) (hc : X.calm = true) (hi : PI X tg iter (toTI wi)) (hg : PG X tg g) (hb : PSs X body tb)
    (hs : ∀ x, foldedSetIterable iter X.env x = pure x := by intro _; rfl) : PS X (.For tg iter body [] pos) (mFor wi g tb) :=
  ps_imp (ps_for hp hc hi hg hb hs) fun D σ H q => ⟨_, q, fun s H1 J z f => by
    cases s with
    | v G L =>
      refine for_it f (fun i σ H => fV G g tb D (L.drop i) σ H) z (fun i σ H _ p => fV_G p) (fun i x σ H H' hi p y => ?_) (fun σ H p => ?_)
      · obtain ⟨e, hx⟩ := y
        subst e
        rw [drop_at hx] at p
        exact p.2
      · rw [List.drop_length] at p
        exact p.2
    | p G L =>
      refine for_it f (fun i σ H => fP G g tb D (L.drop i) σ H) z (fun i σ H _ p => fP_G p) (fun i x σ H H' hi p y => ?_) (fun σ H p => ?_)
      · obtain ⟨T, a, b, e1, e2, e3, e4, e5⟩ := y
        subst e1 e3
        have hx : L[i]? = some L[i] := List.getElem?_eq_getElem hi
        rw [drop_at hx] at p
        have q := p.2 T e2
        have e4' : L[i]?.map (·.1) = some a := e4
        have e5' : L[i]?.map (·.2) = some b := e5
        rw [hx] at e4' e5'
        cases e4'
        cases e5'
        exact q
      · rw [List.drop_length] at p
        exact p.2⟩
/-! ### comprehensions -/
def cV (G : Hp → Prop) (g : TG) (tt : TT) (te : TE) (vs : List Nat) (τ : Sl) (D : Addr) (Q : Hp → Prop) : List V → Hp → Prop
  | [], H => G H ∧ Q H
  | x :: r, H => G H ∧ g x τ H fun σ2 H2 => wipe σ2 vs = τ ∧ tt σ2 H2 fun b H3 => if b = true then te σ2 H3 fun y H4 => ∃ acc, H4 D = some (.lst acc) ∧ acc.length < sizeLine ∧ cV G g tt te vs τ D Q r (upd H4 D (.lst (acc ++ [y]))) else cV G g tt te vs τ D Q r H3
def cP (G : Hp → Prop) (g : TG) (tt : TT) (te : TE) (vs : List Nat) (τ : Sl) (D : Addr) (Q : Hp → Prop) : List (V × V) → Hp → Prop
  | [], H => G H ∧ Q H
  | x :: r, H => G H ∧ ∀ T, H T = none → g (.ref T) τ (upd H T (.tup [x.1, x.2])) fun σ2 H2 => wipe σ2 vs = τ ∧ tt σ2 H2 fun b H3 => if b = true then te σ2 H3 fun y H4 => ∃ acc, H4 D = some (.lst acc) ∧ acc.length < sizeLine ∧ cP G g tt te vs τ D Q r (upd H4 D (.lst (acc ++ [y]))) else cP G g tt te vs τ D Q r H3
def mLc (wi : MI) (g : TG) (tt : TT) (te : TE) (vs : List Nat) : TE := fun σ H Q => wi σ H fun s H1 => ∀ D, H1 D = none → match s with
  | .v G L => cV G g tt te vs (wipe σ vs) D (Q (.ref D)) L (upd H1 D (.lst []))
  | .p G L => cP G g tt te vs (wipe σ vs) D (Q (.ref D)) L (upd H1 D (.lst []))
theorem cV_G {G : Hp → Prop} {g : TG} {tt : TT} {te : TE} {vs : List Nat} {τ : Sl} {D : Addr} {Q : Hp → Prop} {L : List V} {H : Hp} (h : cV G g tt te vs τ D Q L H) : G H := by
  cases L <;> exact h.1
theorem cP_G {G : Hp → Prop} {g : TG} {tt : TT} {te : TE} {vs : List Nat} {τ : Sl} {D : Addr} {Q : Hp → Prop} {L : List (V × V)} {H : Hp} (h : cP G g tt te vs τ D Q L H) : G H := by
  cases L <;> exact h.1
theorem lc_toM {wi : MI} {g : TG} {tt : TT} {te : TE} {vs : List Nat} {σ : Sl} {H : Hp} {Q : VK} (q : mLc wi g tt te vs σ H Q) : tLc (toTI wi) g tt te vs σ H Q :=
  ⟨_, q, fun s H1 J z f D hD => by
    have z := z D hD
    cases s with
    | v G L =>
      refine lc_it f (fun i H => cV G g tt te vs (wipe σ vs) D (Q (.ref D)) (L.drop i) H) z (fun i H _ p => cV_G p) (fun i x H H' hi p y => ?_) (fun H p => ?_)
      · obtain ⟨e, hx⟩ := y
        subst e
        rw [drop_at hx] at p
        exact p.2
      · rw [List.drop_length] at p
        exact p.2
    | p G L =>
      refine lc_it f (fun i H => cP G g tt te vs (wipe σ vs) D (Q (.ref D)) (L.drop i) H) z (fun i H _ p => cP_G p) (fun i x H H' hi p y => ?_) (fun H p => ?_)
      · obtain ⟨T, a, b, e1, e2, e3, e4, e5⟩ := y
        subst e1 e3
        have hx : L[i]? = some L[i] := List.getElem?_eq_getElem hi
        rw [drop_at hx] at p
        have q := p.2 T e2
        have e4' : L[i]?.map (·.1) = some a := e4
        have e5' : L[i]?.map (·.2) = some b := e5
        rw [hx] at e4' e5'
        cases e4'
        cases e5'
        exact q
      · rw [List.drop_length] at p
        exact p.2⟩
section
variable {X : Cx}
theorem me_lc {elt tg iter : Expr} {ifs : List Expr} {scope : Scope} {own : List (Str × Nat)} {pos : Pos} {wi : MI} {g : TG} {tt : TT} {te : TE} (hc : X.calm = true) (hN : X.N.Nodup) (hi : PI X tg iter (toTI wi)) (ok : BlkOk X.N X.env.scope scope own)
    (hg : ∀ (s : Shared) (H : Hp) (C : Addr) (cl : List (Str × Addr)) (fp : List Addr), PG (X.blk s H scope (compEnvC scope cl C X.env) fp) tg g) (ht : ∀ (s : Shared) (H : Hp) (C : Addr) (cl : List (Str × Addr)) (fp : List Addr), PTs (X.blk s H scope (compEnvC scope cl C X.env) fp) ifs tt)
    (he : ∀ (s : Shared) (H : Hp) (C : Addr) (cl : List (Str × Addr)) (fp : List Addr), PE (X.blk s H scope (compEnvC scope cl C X.env) fp) elt te) (hs : ∀ x, foldedSetIterable iter X.env x = pure x := by intro _; rfl) :
    PE X (.ListComp elt [⟨tg, iter, ifs, 0⟩] scope pos) (mLc wi g tt te (own.map (·.2))) := pe_imp (pe_lc hc hN hi ok hg ht he hs) fun σ H Q q => lc_toM q
theorem ms_setLc {i : Nat} {y : Str} {py : Pos} {elt tg iter : Expr} {ifs : List Expr} {scope : Scope} {own : List (Str × Nat)} {pos spos : Pos} {wi : MI} {g : TG} {tt : TT} {te : TE} (hc : X.calm = true) (hN : X.N.Nodup) (hy : X.N[i]? = some y) (hyl : X.env.scope.names.lookup y = some .local)
    (hsw : swapsWith (.ListComp elt [⟨tg, iter, ifs, 0⟩] scope pos) (some (.Name y py)) spos.line X.env = pure true) (hi : PI X tg iter (toTI wi)) (ok : BlkOk X.N X.env.scope scope own)
    (hg : ∀ (s : Shared) (H : Hp) (C : Addr) (cl : List (Str × Addr)) (fp : List Addr), PG (X.blk s H scope (compEnvC scope cl C X.env) fp) tg g) (ht : ∀ (s : Shared) (H : Hp) (C : Addr) (cl : List (Str × Addr)) (fp : List Addr), PTs (X.blk s H scope (compEnvC scope cl C X.env) fp) ifs tt)
    (he : ∀ (s : Shared) (H : Hp) (C : Addr) (cl : List (Str × Addr)) (fp : List Addr), PE (X.blk s H scope (compEnvC scope cl C X.env) fp) elt te) (hs : ∀ x, foldedSetIterable iter X.env x = pure x := by intro _; rfl) :
    PS X (.Assign [.Name y py] (.ListComp elt [⟨tg, iter, ifs, 0⟩] scope pos) spos) (tAsg (mLc wi g tt te (own.map (·.2))) (gName i)) := ps_imp (ps_setLc hc hN hy hyl hsw hi ok hg ht he hs) fun D σ H q => lc_toM (Q := fun x H1 => gName i x σ H1 D.nx) q
end
/-! ### while -/
def whW (c : TT) (tb : TS) (D : Ends) : Nat → Sl → Hp → Prop
  | 0, _, _ => False
  | n + 1, σ, H => c σ H fun b H1 => if b = true then tb { D with nx := whW c tb D n, ct := whW c tb D n, bk := D.nx } σ H1 else D.nx σ H1
def mWhile (c : TT) (tb : TS) : TS := fun D σ H => ∃ n, whW c tb D n σ H
theorem ms_while {X : Cx} {c : Expr} {body : List Stmt} {tc : TT} {tb : TS} {pos : Pos} (hp : PassesOwn (model X.prog X.w) X.A X.env X.xe) (hc : PT X c tc) (hb : PSs X body tb) : PS X (.While c body [] pos) (mWhile tc tb) :=
  ps_imp (ps_while hp (pt_cl hc) hb) fun D σ H ⟨n, q⟩ => ⟨fun m σ H => whW tc tb D m σ H, ⟨n, q⟩, fun m σ H w => by
    cases m with
    | zero => exact w.elim
    | succ k =>
      refine ⟨_, w, fun b H1 z => ?_⟩
      cases b with
      | true => exact ⟨_, fun σ' H' y => ⟨k, Nat.lt_succ_self _, y⟩, z⟩
      | false => exact z⟩
end M

namespace M
open PySem PySem.Spec PyProof.Rows L2

/-! ### built-in functions -/
section
variable {X : Cx}
def mLen (K : PySem.W.Frag) : List V → Hp → VK → Prop := fun xs H Q => match xs with
  | [.str z] => z.length ≤ sizeLine ∧ Q (.int z.length) H
  | [.ref p] => ∃ ys, (SqL K H p ys ∨ SqT K H p ys) ∧ Q (.int ys.length) H
  | _ => False
theorem call_lenM : CallR X (.builtin "len") (mLen X.K) := callR_imp (call_len_seq.or call_len_str) fun xs H Q q => by
  unfold mLen at q
  split at q
  · exact .inr ⟨_, rfl, q⟩
  · obtain ⟨ys, h, q⟩ := q
    exact .inl ⟨_, ys, rfl, h, q⟩
  · exact q.elim
def mInt : List V → Hp → VK → Prop := fun xs H Q => match xs with
  | [.int i] => Q (.int i) H
  | [.bl k] => Q (.int (if k then 1 else 0)) H
  | _ => False
theorem call_intM : CallR X (.type "int") mInt := callR_imp call_int1 fun xs H Q q => by
  unfold mInt at q
  split at q
  · exact .inl ⟨_, rfl, q⟩
  · exact .inr ⟨_, rfl, q⟩
  · exact q.elim
def mStr : List V → Hp → VK → Prop := fun xs H Q => match xs with
  | [.str i] => Q (.str i) H
  | _ => False
theorem call_strM : CallR X (.type "str") mStr := callR_imp SkE.call_str_str fun xs H Q q => by
  unfold mStr at q
  split at q
  · exact ⟨_, rfl, q⟩
  · exact q.elim
def mMax : List V → Hp → VK → Prop := fun xs H Q => match xs with
  | [.int i, .int j] => Q (.int (max i j)) H
  | _ => False
theorem call_maxM (hc : X.calm = true) : CallR X (.builtin "max") mMax := callR_imp (call_max2 hc) fun xs H Q q => by
  unfold mMax at q
  split at q
  · rename_i i j
    refine ⟨i, j, rfl, ?_⟩
    have e : max i j = if j > i then j else i := by split <;> omega
    rw [← e]; exact q
  · exact q.elim
def mMin : List V → Hp → VK → Prop := fun xs H Q => match xs with
  | [.int i, .int j] => Q (.int (min i j)) H
  | _ => False
theorem call_minM (hc : X.calm = true) : CallR X (.builtin "min") mMin := callR_imp (call_min2 hc) fun xs H Q q => by
  unfold mMin at q
  split at q
  · rename_i i j
    refine ⟨i, j, rfl, ?_⟩
    have e : min i j = if j < i then j else i := by split <;> omega
    rw [← e]; exact q
  · exact q.elim
def mAbs : List V → Hp → VK → Prop := fun xs H Q => match xs with
  | [.int i] => Q (.int (i.natAbs : Int)) H
  | _ => False
theorem call_absM : CallR X (.builtin "abs") mAbs := callR_imp call_abs fun xs H Q q => by
  unfold mAbs at q
  split at q
  · rename_i i
    refine ⟨i, rfl, ?_⟩
    have e : (i.natAbs : Int) = if i < 0 then -i else i := by split <;> omega
    rw [← e]; exact q
  · exact q.elim
def mSum (K : PySem.W.Frag) : List V → Hp → VK → Prop := fun xs H Q => match xs with
  | [.ref a] => ∃ ns : List Int, SqL K H a (ns.map V.int) ∧ Q (.int ns.sum) H
  | _ => False
theorem call_sumM (hc : X.calm = true) : CallR X (.builtin "sum") (mSum X.K) := callR_imp (cr_sum hc) fun xs H Q q => by
  unfold mSum at q
  split at q
  · obtain ⟨ns, h, q⟩ := q
    exact ⟨_, ns, rfl, h, q⟩
  · exact q.elim
def mMaxL (K : PySem.W.Frag) : List V → Hp → VK → Prop := fun xs H Q => match xs with
  | [.ref a] => ∃ ns : List Int, SqL K H a (ns.map V.int) ∧ 0 < ns.length ∧ ∀ m, m ∈ ns → (∀ y, y ∈ ns → y ≤ m) → Q (.int m) H
  | _ => False
theorem call_maxLM (hc : X.calm = true) : CallR X (.builtin "max") (mMaxL X.K) := callR_imp (cr_max hc) fun xs H Q q => by
  unfold mMaxL at q
  split at q
  · obtain ⟨ns, h, q⟩ := q
    exact ⟨_, ns, rfl, h, q⟩
  · exact q.elim
def mMinL (K : PySem.W.Frag) : List V → Hp → VK → Prop := fun xs H Q => match xs with
  | [.ref a] => ∃ ns : List Int, SqL K H a (ns.map V.int) ∧ 0 < ns.length ∧ ∀ m, m ∈ ns → (∀ y, y ∈ ns → m ≤ y) → Q (.int m) H
  | _ => False
theorem call_minLM (hc : X.calm = true) : CallR X (.builtin "min") (mMinL X.K) := callR_imp (cr_min hc) fun xs H Q q => by
  unfold mMinL at q
  split at q
  · obtain ⟨ns, h, q⟩ := q
    exact ⟨_, ns, rfl, h, q⟩
  · exact q.elim
def mList (K : PySem.W.Frag) : List V → Hp → VK → Prop := fun xs H Q => match xs with
  | [.ref p] => ∃ ys, (SqL K H p ys ∨ SqT K H p ys) ∧ ∀ l, H l = none → Q (.ref l) (upd H l (.lst ys))
  | _ => False
theorem call_listM : CallR X (.type "list") (mList X.K) := callR_imp call_list_of fun xs H Q q => by
  unfold mList at q
  split at q
  · obtain ⟨ys, h, q⟩ := q
    exact ⟨_, ys, rfl, h, q⟩
  · exact q.elim
/-! isinstance(x, T) -/
def tyN : V → Option String
  | .str _ => some "str"
  | .int _ => some "int"
  | .bl _ => some "bool"
  | .non => some "NoneType"
  | _ => none
def mIsi (K : PySem.W.Frag) : List V → Hp → VK → Prop := fun xs H Q => match xs with
  | [x, .ty T] => match tyN x with
    | some n => (match kitB n T with
      | some b => Q (.bl b) H
      | none => False)
    | none => ∃ t b, TyX K H x t ∧ PySem.W.kitOne K t (.type T) = some b ∧ Q (.bl b) H
  | [x, .ref C] => ∃ t b, TyX K H x t ∧ PySem.W.kitOne K t (.ref C) = some b ∧ Q (.bl b) H
  | _ => False
theorem tyN_ok {K : PySem.W.Frag} {H : Hp} {x : V} {n : String} (h : tyN x = some n) : TyX K H x (.type n) := by
  cases x with
  | str z => cases h; exact .base (.str z)
  | int z => cases h; exact .base (.int z)
  | bl z => cases h; exact .base (.bl z)
  | non => cases h; exact .base .non
  | _ => cases h
theorem call_isiM : CallR X (.builtin "isinstance") (mIsi X.K) := callR_imp call_isi fun xs H Q q => by
  unfold mIsi at q
  split at q
  · rename_i x T
    cases e : tyN x with
    | some n =>
      rw [e] at q
      cases e2 : kitB n T with
      | none => simp only [e2] at q
      | some b => simp only [e2] at q; exact ⟨x, .ty T, _, _, b, rfl, .ty T, tyN_ok e, kit_ty e2, q⟩
    | none =>
      rw [e] at q
      obtain ⟨t, b, h1, h2, q⟩ := q
      exact ⟨x, .ty T, t, _, b, rfl, .ty T, h1, h2, q⟩
  · obtain ⟨t, b, h1, h2, q⟩ := q
    exact ⟨_, _, t, _, b, rfl, .own _, h1, h2, q⟩
  · exact q.elim
theorem kb1 : kitB "str" "str" = some true := by decide +kernel
theorem kb2 : kitB "str" "int" = some false := by decide +kernel
theorem kb3 : kitB "str" "bool" = some false := by decide +kernel
theorem kb4 : kitB "str" "list" = some false := by decide +kernel
theorem kb5 : kitB "str" "tuple" = some false := by decide +kernel
theorem kb6 : kitB "int" "str" = some false := by decide +kernel
theorem kb7 : kitB "int" "int" = some true := by decide +kernel
theorem kb8 : kitB "int" "bool" = some false := by decide +kernel
theorem kb9 : kitB "int" "list" = some false := by decide +kernel
theorem kb10 : kitB "int" "tuple" = some false := by decide +kernel
theorem kb11 : kitB "bool" "str" = some false := by decide +kernel
theorem kb12 : kitB "bool" "int" = some true := by decide +kernel
theorem kb13 : kitB "bool" "bool" = some true := by decide +kernel
theorem kb14 : kitB "bool" "list" = some false := by decide +kernel
theorem kb15 : kitB "bool" "tuple" = some false := by decide +kernel
theorem kb16 : kitB "NoneType" "str" = some false := by decide +kernel
theorem kb17 : kitB "NoneType" "int" = some false := by decide +kernel
theorem kb18 : kitB "NoneType" "bool" = some false := by decide +kernel
theorem kb19 : kitB "NoneType" "list" = some false := by decide +kernel
theorem kb20 : kitB "NoneType" "tuple" = some false := by decide +kernel
theorem tyX_list {K : PySem.W.Frag} {H : Hp} {a : Addr} {xs : List V} (h : SqL K H a xs) : TyX K H (.ref a) (.type "list") := by
  rcases h with h | ⟨o, its, n, h, c, _⟩
  · rcases h with h | ⟨o, h⟩
    · exact .base (.lst h)
    · exact .base (.frz h)
  · exact .kList h c
theorem tyX_tup {K : PySem.W.Frag} {H : Hp} {a : Addr} {xs : List V} (h : SqT K H a xs) : TyX K H (.ref a) (.type "tuple") := by
  rcases h with h | ⟨o, its, n, h, c, _⟩
  · rcases h with h | ⟨o, h⟩
    · exact .base (.tup h)
    · exact .fTuple h
  · exact .kTuple h c
theorem ki_list {K : PySem.W.Frag} : PySem.W.kitOne K (.type "list") (.type "str") = some false ∧ PySem.W.kitOne K (.type "list") (.type "int") = some false ∧ PySem.W.kitOne K (.type "list") (.type "bool") = some false ∧ PySem.W.kitOne K (.type "list") (.type "list") = some true ∧ PySem.W.kitOne K (.type "list") (.type "tuple") = some false :=
  ⟨kit_ty (by decide +kernel), kit_ty (by decide +kernel), kit_ty (by decide +kernel), kit_ty (by decide +kernel), kit_ty (by decide +kernel)⟩
theorem ki_tup {K : PySem.W.Frag} : PySem.W.kitOne K (.type "tuple") (.type "str") = some false ∧ PySem.W.kitOne K (.type "tuple") (.type "int") = some false ∧ PySem.W.kitOne K (.type "tuple") (.type "bool") = some false ∧ PySem.W.kitOne K (.type "tuple") (.type "list") = some false ∧ PySem.W.kitOne K (.type "tuple") (.type "tuple") = some true :=
  ⟨kit_ty (by decide +kernel), kit_ty (by decide +kernel), kit_ty (by decide +kernel), kit_ty (by decide +kernel), kit_ty (by decide +kernel)⟩
theorem ki_dict {K : PySem.W.Frag} : PySem.W.kitOne K (.type "dict") (.type "str") = some false ∧ PySem.W.kitOne K (.type "dict") (.type "int") = some false ∧ PySem.W.kitOne K (.type "dict") (.type "bool") = some false ∧ PySem.W.kitOne K (.type "dict") (.type "list") = some false ∧ PySem.W.kitOne K (.type "dict") (.type "tuple") = some false :=
  ⟨kit_ty (by decide +kernel), kit_ty (by decide +kernel), kit_ty (by decide +kernel), kit_ty (by decide +kernel), kit_ty (by decide +kernel)⟩
/-- a built-in class as a value -/
theorem me_ty {x : Str} (T : String) {pos : Pos} (hg : Gl X x) (hm : X.mg x = none) (hv : bootBuiltins x = some (.type T)) (hn : x ≠ "__name__" := by decide) (hd : (x == ("__debug__" : Str)) = false := by decide) : PE X (.Name x pos) (mC (.ty T)) := pe_bltn hg hm hv rfl hn hd
end

/-! ### methods of texts and lists -/
section
variable {X : Cx} {o e : Expr} {to te : TE} {apos pos : Pos}
def mBits (to : TE) : TE := fun σ H Q => to σ H fun x H1 => match x with
  | .int i => Q (.int (Builtin.Int.intBits i : Nat)) H1
  | _ => False
theorem me_bits (ho : PE X o to) (hbase : attributeBase o "bit_length" X.env (eval o X.env) = eval o X.env := by rfl) (hline : (apos.endLine == pos.line) = true := by rfl) : PE X (.Call (.Attribute o "bit_length" apos) [] [] pos) (mBits to) :=
  pe_imp (pe_bits (pe_cl ho) hbase hline) fun σ H Q q => ⟨_, q, fun x H1 z => by
    cases x with
    | int i => exact ⟨i, rfl, z⟩
    | _ => exact z.elim⟩
def mStrM (r : Str → V → Hp → VK → Prop) (to te : TE) : TE := fun σ H Q => to σ H fun x H1 => match x with
  | .str a => te σ H1 fun y H2 => r a y H2 Q
  | _ => False
theorem me_m1 {id : String} {name : Str} {r : Str → V → Hp → VK → Prop} (slot : Slot "str" name id) (ty : typeOf (.builtin id) = pure (.type "method_descriptor")) (rule : MtR X id (fun x xs H Q => ∃ a y, x = .str a ∧ xs = [y] ∧ r a y H Q)) (ho : PE X o to) (he : PE X e te)
    (hs : starEach [e] X.env = [(false, eval e X.env)] := by rfl) (hbase : attributeBase o name X.env (eval o X.env) = eval o X.env := by rfl) (hline : (apos.endLine == pos.line) = true := by rfl) :
    PE X (.Call (.Attribute o name apos) [e] [] pos) (mStrM r to te) :=
  pe_imp (pe_m1 slot ty rule (pe_cl ho) (pe_cl he) hs hbase hline) fun σ H Q q => ⟨_, q, fun x H1 z => by
    cases x with
    | str a => exact ⟨⟨a, rfl⟩, _, z, fun y H2 w => ⟨a, y, rfl, rfl, w⟩⟩
    | _ => exact z.elim⟩
def mJoin (K : PySem.W.Frag) : Str → V → Hp → VK → Prop := fun a y H Q => match y with
  | .ref p => ∃ ys : List Str, (SqL K H p (ys.map V.str) ∨ SqT K H p (ys.map V.str)) ∧ (ys.map (·.length)).sum + ys.length * a.length ≤ 16777216 ∧ Q (.str (Txt.join a ys)) H
  | _ => False
theorem mt_joinM : MtR X "str.join" (fun x xs H Q => ∃ a y, x = .str a ∧ xs = [y] ∧ mJoin X.K a y H Q) := fun pins s σ H x xs v us Q I rx rs ⟨a, y, e1, e2, q⟩ => by
  unfold mJoin at q
  split at q
  · obtain ⟨ys, h1, h2, q⟩ := q
    exact mt_join pins s σ H x xs v us Q I rx rs ⟨a, _, ys, e1, e2, h1, h2, q⟩
  · exact q.elim
def mCount : Str → V → Hp → VK → Prop := fun a y H Q => match y with
  | .str b => Q (.int (Txt.count a b)) H
  | _ => False
theorem mt_countM : MtR X "str.count" (fun x xs H Q => ∃ a y, x = .str a ∧ xs = [y] ∧ mCount a y H Q) := fun pins s σ H x xs v us Q I rx rs ⟨a, y, e1, e2, q⟩ => by
  unfold mCount at q
  split at q
  · exact mt_count pins s σ H x xs v us Q I rx rs ⟨a, _, e1, e2, q⟩
  · exact q.elim
def mSplit : Str → V → Hp → VK → Prop := fun a y H Q => match y with
  | .str b => (b.length == 0) = false ∧ a.length + 2 ≤ sizeLine ∧ ∀ p, H p = none → Q (.ref p) (upd H p (.lst ((Txt.split a b).map V.str)))
  | _ => False
theorem mt_splitM : MtR X "str.split" (fun x xs H Q => ∃ a y, x = .str a ∧ xs = [y] ∧ mSplit a y H Q) := fun pins s σ H x xs v us Q I rx rs ⟨a, y, e1, e2, q⟩ => by
  unfold mSplit at q
  split at q
  · exact mt_split pins s σ H x xs v us Q I rx rs ⟨a, _, e1, e2, q.1, q.2.1, q.2.2⟩
  · exact q.elim
theorem me_join (ho : PE X o to) (he : PE X e te) (hs : starEach [e] X.env = [(false, eval e X.env)] := by rfl) (hbase : attributeBase o "join" X.env (eval o X.env) = eval o X.env := by rfl) (hline : (apos.endLine == pos.line) = true := by rfl) :
    PE X (.Call (.Attribute o "join" apos) [e] [] pos) (mStrM (mJoin X.K) to te) := me_m1 PySem.F.slot_str_join PySem.F.type_str_join mt_joinM ho he hs hbase hline
theorem me_count (ho : PE X o to) (he : PE X e te) (hs : starEach [e] X.env = [(false, eval e X.env)] := by rfl) (hbase : attributeBase o "count" X.env (eval o X.env) = eval o X.env := by rfl) (hline : (apos.endLine == pos.line) = true := by rfl) :
    PE X (.Call (.Attribute o "count" apos) [e] [] pos) (mStrM mCount to te) := me_m1 PySem.F.slot_str_count PySem.F.type_str_count mt_countM ho he hs hbase hline
theorem me_split (ho : PE X o to) (he : PE X e te) (hs : starEach [e] X.env = [(false, eval e X.env)] := by rfl) (hbase : attributeBase o "split" X.env (eval o X.env) = eval o X.env := by rfl) (hline : (apos.endLine == pos.line) = true := by rfl) :
    PE X (.Call (.Attribute o "split" apos) [e] [] pos) (mStrM mSplit to te) := me_m1 PySem.F.slot_str_split PySem.F.type_str_split mt_splitM ho he hs hbase hline
/-- a list's method: the receiver a list that stands in H -/
def mLstM (r : Addr → List V → List V → Hp → VK → Prop) (to : TE) (t : TA) : TE := fun σ H Q => to σ H fun x H1 => match x with
  | .ref l => (∃ ys, H1 l = some (.lst ys)) ∧ t σ H1 fun vs H2 => ∃ xs, H2 l = some (.lst xs) ∧ r l xs vs H2 Q
  | _ => False
def mApp : Addr → List V → List V → Hp → VK → Prop := fun l xs vs H Q => match vs with
  | [y] => xs.length < sizeLine ∧ Q .non (upd H l (.lst (xs ++ [y])))
  | _ => False
def mPop : Addr → List V → List V → Hp → VK → Prop := fun l xs vs H Q => match vs with
  | [] => ∃ y, xs.getLast? = some y ∧ Q y (upd H l (.lst xs.dropLast))
  | _ => False
def mClear : Addr → List V → List V → Hp → VK → Prop := fun l xs vs H Q => match vs with
  | [] => Q .non (upd H l (.lst []))
  | _ => False
theorem me_append (ho : PE X o to) (he : PE X e te) (hbase : attributeBase o "append" X.env (eval o X.env) = eval o X.env := by rfl)
    (hfew : ((backTo pos (starEach [e] X.env)).all (fun x => !x.1) && (backToKw pos (keywordEach [] X.env)).all (fun x => x.1.isSome) && decide (([e] : List Expr).length + ([] : List Keyword).length + (if ([] : List Keyword).isEmpty then 0 else 1) < 30)) = true := by rfl)
    (hline : (apos.endLine == pos.line) = true := by rfl) (hs : starEach [e] X.env = (false, eval e X.env) :: starEach [] X.env := by rfl) (hplain : (backTo pos (starEach [] X.env)).any (·.1) = false := by rfl) :
    PE X (.Call (.Attribute o "append" apos) [e] [] pos) (mLstM mApp to (tCons te tNil)) :=
  pe_imp (pe_bm PySem.F.plainAttrs_list PySem.F.slot_list_append PySem.F.type_list_append mt_append (pe_cl ho) (pa_cons (pe_cl he) pa_nil hs) hbase hfew hline hs hplain) fun σ H Q q => ⟨_, q, fun x H1 z => by
    cases x with
    | ref l =>
      obtain ⟨⟨ys, h⟩, z⟩ := z
      exact ⟨.inl ⟨rfl, _, SqL.of h⟩, _, z, fun y H2 w => by
        obtain ⟨xs, h2, w⟩ := w
        exact ⟨l, xs, y, rfl, rfl, h2, w.1, w.2⟩⟩
    | _ => exact z.elim⟩
theorem last_at {α : Type} (xs : List α) : xs[xs.length - 1]? = xs.getLast? := by
  rw [List.getLast?_eq_getElem?]
theorem me_pop (ho : PE X o to) (hbase : attributeBase o "pop" X.env (eval o X.env) = eval o X.env := by rfl) (hline : (apos.endLine == pos.line) = true := by rfl) : PE X (.Call (.Attribute o "pop" apos) [] [] pos) (mLstM mPop to tNil) :=
  pe_imp (pe_bm0 PySem.F.plainAttrs_list PySem.F.slot_list_pop PySem.F.type_list_pop mt_pop (pe_cl ho) hbase hline) fun σ H Q q => ⟨_, q, fun x H1 z => by
    cases x with
    | ref l =>
      obtain ⟨⟨ys, h⟩, xs, h2, y, h3, z⟩ := z
      exact ⟨.inl ⟨rfl, _, SqL.of h⟩, l, xs, y, rfl, rfl, h2, by rw [last_at]; exact h3, z⟩
    | _ => exact z.elim⟩
theorem me_clear (ho : PE X o to) (hbase : attributeBase o "clear" X.env (eval o X.env) = eval o X.env := by rfl) (hline : (apos.endLine == pos.line) = true := by rfl) : PE X (.Call (.Attribute o "clear" apos) [] [] pos) (mLstM mClear to tNil) :=
  pe_imp (pe_bm0 PySem.F.plainAttrs_list PySem.F.slot_list_clear PySem.F.type_list_clear mt_clear (pe_cl ho) hbase hline) fun σ H Q q => ⟨_, q, fun x H1 z => by
    cases x with
    | ref l =>
      obtain ⟨⟨ys, h⟩, xs, h2, z⟩ := z
      exact ⟨.inl ⟨rfl, _, SqL.of h⟩, l, xs, rfl, rfl, h2, z⟩
    | _ => exact z.elim⟩
def mRev (K : PySem.W.Frag) (te : TE) : TE := fun σ H Q => te σ H fun x H1 => match x with
  | .ref a => ∃ xs, SqL K H1 a xs ∧ ∀ p, H1 p = none → Q (.ref p) (upd H1 p (.lst xs.reverse))
  | _ => False
theorem me_revL {k : Nat} {p1 p2 p3 pos : Pos} (he : PE X e te) : PE X (.Subscript e (.Slice none none (some (.UnaryOp .USub (.Constant (.int 1) k p1) p2)) p3) pos) (mRev X.K te) :=
  pe_imp (pe_revL (pe_cl he)) fun σ H Q q => ⟨_, q, fun x H1 z => by
    cases x with
    | ref a => obtain ⟨xs, h, z⟩ := z; exact ⟨a, xs, rfl, h, z⟩
    | _ => exact z.elim⟩
end

/-! ### heaps -/
/-- what stands at the addresses other than those of m stays -/
def Fm (m : List Addr) (H H' : Hp) : Prop := ∀ a o, a ∉ m → H a = some o → H' a = some o
abbrev Ex (H H' : Hp) : Prop := ∀ a o, H a = some o → H' a = some o
theorem Ex.refl (H : Hp) : Ex H H := fun _ _ h => h
theorem Ex.trans {H H1 H2 : Hp} (a : Ex H H1) (b : Ex H1 H2) : Ex H H2 := fun x o h => b x o (a x o h)
theorem Ex.new {H : Hp} {p : Addr} {o : HO} (h : H p = none) : Ex H (upd H p o) := fun a u e => by
  rw [upd_ne (ne_of_none e h)]; exact e
theorem Ex.push {H H' : Hp} {p : Addr} {o : HO} (e : Ex H H') (h : H' p = none) : Ex H (upd H' p o) := e.trans (Ex.new h)
/-- an object that H does not know may change -/
theorem Ex.mut {H H' : Hp} {p : Addr} {o : HO} (e : Ex H H') (h : H p = none) : Ex H (upd H' p o) := fun a u ha => by
  rw [upd_ne (ne_of_none ha h)]; exact e a u ha
theorem Ex.free {H H' : Hp} {p : Addr} (e : Ex H H') (h : H' p = none) : H p = none := by
  cases h1 : H p with
  | none => rfl
  | some o => rw [e p o h1] at h; cases h
theorem ex_rd {H H' : Hp} {a : Addr} {u : HO} (e : Ex H H') (h : Rd H a u) : Rd H' a u := by
  rcases h with h | ⟨o, h⟩
  · exact .inl (e a _ h)
  · exact .inr ⟨o, e a _ h⟩
theorem Ex.L {K : PySem.W.Frag} {H H' : Hp} {a : Addr} {xs : List V} (e : Ex H H') (h : SqL K H a xs) : SqL K H' a xs := by
  rcases h with h | h
  · exact .inl (ex_rd e h)
  · exact .inr h
theorem Ex.T {K : PySem.W.Frag} {H H' : Hp} {a : Addr} {xs : List V} (e : Ex H H') (h : SqT K H a xs) : SqT K H' a xs := by
  rcases h with h | h
  · exact .inl (ex_rd e h)
  · exact .inr h
theorem sz_of {n : Nat} (h : n ≤ 10000000) : n ≤ sizeLine := Nat.le_trans h (by decide)
theorem sz_lt {n : Nat} (h : n < 10000000) : n < sizeLine := Nat.lt_of_lt_of_le h (by decide)
end M

namespace M
open PySem PySem.Spec PyProof.Rows L2

/-! ### more of tests and assignments -/
section
variable {X : Cx} {a b c : Expr} {ta tb tc : TE} {pos : Pos}
/-- is None, is True, is False -/
def mIs : R2 := fun x y H Q => match y with
  | .non => Q (.bl (isN x)) H
  | .bl k => (match x with
    | .bl j => Q (.bl (decide (j = k))) H
    | _ => False)
  | _ => False
def mNot : R2 := fun x y H Q => match y with
  | .non => Q (.bl (!isN x)) H
  | .bl k => (match x with
    | .bl j => Q (.bl (!decide (j = k))) H
    | _ => False)
  | _ => False
theorem op_isM : OpR X (compareOp .Is) mIs := opR_imp (op_isN.or op_isBl) fun x y H Q q => by
  unfold mIs at q
  split at q
  · exact .inl ⟨rfl, by rw [isN_eq]; exact q⟩
  · split at q
    · exact .inr ⟨_, _, rfl, rfl, q⟩
    · exact q.elim
  · exact q.elim
theorem op_notM : OpR X (compareOp .IsNot) mNot := opR_imp (op_notN.or op_notBl) fun x y H Q q => by
  unfold mNot at q
  split at q
  · exact .inl ⟨rfl, by rw [isN_eq]; exact q⟩
  · split at q
    · exact .inr ⟨_, _, rfl, rfl, q⟩
    · exact q.elim
  · exact q.elim
/-- a < b <= c -/
theorem chain_cl {r r' : R2} {σ : Sl} {H : Hp} {Q : VK} (q : mChain r r' ta tb tc σ H Q) : tChain (clR r) r' (cl ta) (cl tb) tc σ H Q :=
  ⟨_, q, fun x H1 q1 => ⟨_, q1, fun y H2 q2 => ⟨_, q2, fun z H3 q3 => by
    cases z with
    | bl k => cases k <;> exact ⟨_, rfl, q3⟩
    | _ => exact q3.elim⟩⟩⟩
theorem me_chain {op op' : CmpOp} {r r' : R2} (ho : OpR X (compareOp op) r) (ho' : OpR X (compareOp op') r') (ha : PE X a ta) (hb : PE X b tb) (hc : PE X c tc)
    (hm : lastMarks [op, op'] [b, c] = false := by with_unfolding_all rfl) : PE X (.Compare a [op, op'] [b, c] pos) (mChain r r' ta tb tc) :=
  pe_imp (pe_chain (opR_cl ho) ho' (pe_cl ha) (pe_cl hb) hc hm) fun σ H Q q => chain_cl q
def mTestC (r r' : R2) (ta tb tc : TE) : TT := fun σ H Q => mChain r r' ta tb tc σ H fun x H' => match x with
  | .bl k => Q k H'
  | _ => False
theorem mt_chain {op op' : CmpOp} {r r' : R2} (ho : OpR X (compareOp op) r) (ho' : OpR X (compareOp op') r') (ha : PE X a ta) (hb : PE X b tb) (hc : PE X c tc)
    (hm : lastMarks [op, op'] [b, c] = false := by with_unfolding_all rfl) : PT X (.Compare a [op, op'] [b, c] pos) (mTest (mChain r r' ta tb tc)) :=
  pt_imp (pt_chain (opR_cl ho) (opR_cl ho') (pe_cl ha) (pe_cl hb) (pe_cl hc) hm) fun σ H Q q => ⟨_, q, fun x H1 q1 => ⟨_, q1, fun y H2 q2 => ⟨_, q2, fun z H3 q3 => by
    cases z with
    | bl k =>
      cases k with
      | true => exact ⟨true, rfl, _, q3, fun w H4 q4 => ⟨_, q4, fun v H5 q5 => bX_of q5⟩⟩
      | false => exact ⟨false, rfl, false, rfl, q3⟩
    | _ => exact q3.elim⟩⟩⟩
/-- a, b, c = x, y, z -/
def mPar3 (i j l : Nat) (ta : TA) : TS := fun D σ H => ta σ H fun vs H1 => match vs with
  | [u, v, w] => D.nx (((σ.set i (some u)).set j (some v)).set l (some w)) H1
  | _ => False
theorem ms_par3 {i j l : Nat} {x y z : Str} {a b c : Expr} {ta : TA} {px py pz pt pos : Pos} {kt k2 pt2} (hc : X.calm = true) (hN : X.N.Nodup) (hi : X.N[i]? = some x) (hj : X.N[j]? = some y) (hl : X.N[l]? = some z) (hij : i ≠ j) (hil : i ≠ l) (hjl : j ≠ l)
    (hx : X.env.scope.names.lookup x = some .local) (hy : X.env.scope.names.lookup y = some .local) (hz : X.env.scope.names.lookup z = some .local) (ha : PA X [a, b, c] ta)
    (hw : swappedStores [.Tuple [.Name x px, .Name y py, .Name z pz] kt pt] (.Tuple [a, b, c] k2 pt2) X.env = pure (some [x, y, z]))
    (hs : swapsWithSole [.Tuple [.Name x px, .Name y py, .Name z pz] kt pt] (.Tuple [a, b, c] k2 pt2) pos.line X.env = pure false := by rfl) :
    PS X (.Assign [.Tuple [.Name x px, .Name y py, .Name z pz] kt pt] (.Tuple [a, b, c] k2 pt2) pos) (mPar3 i j l ta) :=
  ps_imp (ps_par3 hc hN hi hj hl hij hil hjl hx hy hz (pa_cl ha) hw hs) fun D σ H q => ⟨_, q, fun vs H1 z => by
    split at z
    · exact ⟨_, _, _, rfl, z⟩
    · exact z.elim⟩
end

/-! ### a def that may be called: where it stands, its promise -/
structure Cal (P : Program) (w : World) (K : PySem.W.Frag) (mg : Str → Option Value) (base : Heap) (CX : CXT) (x : Str) (k : Nat) (ps : List Str) (dvs : List V) (sp : Sp) : Prop where
  ex : ∃ f fd ds, FnOk P w K mg base CX k f fd ps sp ∧ mg x = some (.ref f) ∧ PySem.W.keepIn K (.ref f) = true ∧ Binds K fd ps ds ∧ Vals dvs ds
section
variable {X : Cx} {CX : CXT} {k : Nat} {ps : List Str} {sp : Sp} {dvs : List V} {E : XK} {x : Str} {p pos : Pos} {e : Expr} {es : List Expr} {t : TA}
theorem me_call (C : Cal X.prog X.w X.K X.mg X.base CX x k ps dvs sp) (hr : Room k X.A) (hg : Gl X x) (hx : Passes CX X E) (ha : PA X (e :: es) t) (hdb : (x == ("__debug__" : Str)) = false := by decide)
    (he : starEach (e :: es) X.env = (false, eval e X.env) :: starEach es X.env := by rfl) (hpl : (backTo pos (starEach es X.env)).any (·.1) = false := by rfl) : PE X (.Call (.Name x p) (e :: es) [] pos) (tCall sp dvs E t) := by
  obtain ⟨f, fd, ds, F, hm, hk, hb, hd⟩ := C.ex
  exact pe_call F hr hg hm hk hb hd hx ha hdb he hpl
theorem me_call0 (C : Cal X.prog X.w X.K X.mg X.base CX x k ps dvs sp) (hr : Room k X.A) (hg : Gl X x) (hx : Passes CX X E) (hdb : (x == ("__debug__" : Str)) = false := by decide) : PE X (.Call (.Name x p) [] [] pos) (tCall sp dvs E tNil) := by
  obtain ⟨f, fd, ds, F, hm, hk, hb, hd⟩ := C.ex
  first
    | exact pe_call0 F hr hg hm hk hb hd hx hdb
    | exact pe_call0 F hr hg hm hk hb hd hx
end
section
variable {P : Program} {w : World} {K : PySem.W.Frag} {mg : Str → Option Value} {base : Heap} {CX : CXT} {x : Str} {k j : Nat} {ps : List Str} {dvs : List V} {sp sp' : Sp}
theorem Cal.mono (C : Cal P w K mg base CX x k ps dvs sp) (h : k ≤ j) : Cal P w K mg base CX x j ps dvs sp := by
  obtain ⟨f, fd, ds, F, r⟩ := C.ex
  exact ⟨f, fd, ds, F.mono h, r⟩
theorem Cal.imp (C : Cal P w K mg base CX x k ps dvs sp) (h : ∀ vs H Q E, sp' vs H Q E → sp vs H Q E) : Cal P w K mg base CX x k ps dvs sp' := by
  obtain ⟨f, fd, ds, F, r⟩ := C.ex
  exact ⟨f, fd, ds, F.imp h, r⟩
/-- nothing can be asked with no call left -/
theorem FnOk.zero {f : Addr} {fd : FuncData} {sp : Sp} (no : ∀ vs H Q E, ¬ sp vs H Q E) : FnOk P w K mg base CX 0 f fd ps sp :=
  ⟨fun vs H Q E h => absurd h (no vs H Q E), fun A outer s H args us vs Q E _ _ _ _ h => absurd h (no vs H Q E)⟩
end
end M

namespace M
open PySem PySem.Spec PyProof.Rows L2

/-! ### x in (a, b, ..), written -/
def flB : V → Bool
  | .str _ => true
  | .int _ => true
  | .bl _ => true
  | .non => true
  | _ => false
theorem flB_ok {v : V} (h : flB v = true) : flatV v = true := by cases v <;> first | rfl | cases h
def mInT (neg : Bool) (te : TE) (ta : TA) : TE := fun σ H Q => te σ H fun x H1 => ta σ H1 fun ys H2 => flB x = true ∧ ys.all flB = true ∧ ys.length ≤ sizeLine ∧ ∀ p, H2 p = none → Q (.bl (if neg then !inV x ys else inV x ys)) (upd H2 p (.tup ys))
def mInTT (neg : Bool) (te : TE) (ta : TA) : TT := fun σ H Q => te σ H fun x H1 => ta σ H1 fun ys H2 => flB x = true ∧ ys.all flB = true ∧ ys.length ≤ sizeLine ∧ ∀ p, H2 p = none → Q (if neg then !inV x ys else inV x ys) (upd H2 p (.tup ys))
section
variable {X : Cx} {a : Expr} {es : List Expr} {ta : TE} {t : TA} {pos ps : Pos} {kk : Nat}
theorem all_fl {ys : List V} (h : ys.all flB = true) : ys.all flatV = true := by
  rw [List.all_eq_true] at *
  exact fun v hv => flB_ok (h v hv)
theorem inT_at {K : PySem.W.Frag} {x : V} {ys : List V} {H2 : Hp} {p : Addr} {neg : Bool} {Q : VK} (h1 : flB x = true) (h2 : ys.all flB = true) (q : Q (.bl (if neg then !inV x ys else inV x ys)) (upd H2 p (.tup ys))) : rIn K neg x (.ref p) (upd H2 p (.tup ys)) Q :=
  ⟨p, ys, rfl, .inr (SqT.of upd_same), flB_ok h1, all_fl h2, q⟩
theorem me_inT (ha : PE X a ta) (hb : PA X es t) (hm : behindInMarks .In (.Tuple es kk ps) = false := by rfl) : PE X (.Compare a [.In] [.Tuple es kk ps] pos) (mInT false ta t) :=
  pe_imp (pe_cmpR op_in_seq (pe_cl ha) (pe_tup (pa_cl hb)) hm) fun σ H Q q => ⟨_, q, fun x H1 q1 => ⟨_, q1, fun ys H2 ⟨h1, h2, h3, q2⟩ => ⟨h3, fun p hp => inT_at h1 h2 (q2 p hp)⟩⟩⟩
theorem me_ninT (ha : PE X a ta) (hb : PA X es t) (hm : behindInMarks .NotIn (.Tuple es kk ps) = false := by rfl) : PE X (.Compare a [.NotIn] [.Tuple es kk ps] pos) (mInT true ta t) :=
  pe_imp (pe_cmpR op_notIn_seq (pe_cl ha) (pe_tup (pa_cl hb)) hm) fun σ H Q q => ⟨_, q, fun x H1 q1 => ⟨_, q1, fun ys H2 ⟨h1, h2, h3, q2⟩ => ⟨h3, fun p hp => inT_at h1 h2 (q2 p hp)⟩⟩⟩
theorem mt_inT (ha : PE X a ta) (hb : PA X es t) (hm : behindInMarks .In (.Tuple es kk ps) = false := by rfl) : PT X (.Compare a [.In] [.Tuple es kk ps] pos) (mInTT false ta t) :=
  pt_imp (pt_cmpR op_in_seq (pe_cl ha) (pe_tup (pa_cl hb)) hm) fun σ H Q q => ⟨_, q, fun x H1 q1 => ⟨_, q1, fun ys H2 ⟨h1, h2, h3, q2⟩ => ⟨h3, fun p hp => inT_at h1 h2 ⟨_, rfl, q2 p hp⟩⟩⟩⟩
theorem mt_ninT (ha : PE X a ta) (hb : PA X es t) (hm : behindInMarks .NotIn (.Tuple es kk ps) = false := by rfl) : PT X (.Compare a [.NotIn] [.Tuple es kk ps] pos) (mInTT true ta t) :=
  pt_imp (pt_cmpR op_notIn_seq (pe_cl ha) (pe_tup (pa_cl hb)) hm) fun σ H Q q => ⟨_, q, fun x H1 q1 => ⟨_, q1, fun ys H2 ⟨h1, h2, h3, q2⟩ => ⟨h3, fun p hp => inT_at h1 h2 ⟨_, rfl, q2 p hp⟩⟩⟩⟩
end
theorem inV_nil (x : V) : inV x [] = false := rfl
theorem inV_cons (x y : V) (r : List V) : inV x (y :: r) = (eqV y x || inV x r) := rfl
theorem eqV_SS (a b : List Nat) : eqV (.str (S a)) (.str (S b)) = decide (a = b) := by
  show decide (S a = S b) = _
  by_cases h : a = b
  · subst h; simp
  · have : ¬ S a = S b := fun z => h (S_inj.mp z)
    simp [h, this]
theorem eqV_II (a b : Int) : eqV (.int a) (.int b) = decide (a = b) := by
  show (_ : Bool) = _
  first | rfl | simp [eqV]
end M

/-! ### own errors: class C(TurnError) with __init__(self, fl=None): super().__init__(fl); self.fl = fl -/
namespace M
open PySem PySem.Spec PySem.W PySem.Calls PyProof.Rows PySem.HandSPX
def qp (q : List Pos) (i : Nat) : Pos := q.getD i ⟨0, 0, 0, 0⟩
def eiB (fl : Str) (q : List Pos) : List Stmt := [.Expr (.Call (.Attribute (.Call (.Name "super" (qp q 0)) [] [] (qp q 1)) "__init__" (qp q 2)) [.Name fl (qp q 3)] [] (qp q 4)) (qp q 5), .Assign [.Attribute (.Name "self" (qp q 6)) fl (qp q 7)] (.Name fl (qp q 8)) (qp q 9)]
section
variable {P : Program} {w : World} {A : Around} {E : Value → Shared → Prop} {h : Heap} {g : Array GenState} {d : Drawn} {t : Nat} {os : OsState}
variable {nm q : Str} {C N : Addr} {bs bm : List Value} {hdct : Bool} {sn : List Str} {sub : List Value} {ab : Bool} {col : Option Bool} {dd : Option Addr} {k0 k1 k2 k3 k5 : Option Value}
theorem call_mw {u e t0 : Addr} {rest : List Value} {Q : Value → Shared → Prop}
    (hC : h.get? C = some (excClassObj nm q C N bs bm hdct sn sub ab col dd k0 k1 k2 k3 k5 "ValueError.__new__")) (he : h.get? e = some (HandSPX.excO C t0)) (hu : h.get? u = some (kxs_mw "ValueError.__init__" e)) (hrest : rest.length ≤ sizeLine)
    (hq : ∀ h' t1, (∀ b o, b ≠ e → h.get? b = some o → h'.get? b = some o) → h'.get? e = some (HandSPX.excO C t1) → Q .none ⟨h', g, d, t, os⟩) :
    wpAny (model P w) A (call (.ref u) rest) Q E ⟨h, g, d, t, os⟩ := by
  refine wpAny_call (codeAny_of_tree ?_)
  show wpAny _ A.in1 (callAny (.ref u) ⟨rest, []⟩) _ _ _
  simp only [callAny]
  refine wpAny_bind (wpAny_load hu ?_)
  simp only [kxs_mw, show (Value.type "method-wrapper" == Value.type "method" || Value.type "method-wrapper" == Value.type "builtin_function_or_method" || Value.type "method-wrapper" == Value.type "method-wrapper") = true by decide, if_true]
  refine W.KFB.if_so (by decide) ?_
  refine wpAny_bind (check_bound_init F.excBase_ValueError.toExcCallFacts hC he rfl ?_)
  refine wpAny_bind (wpAny_pure (wpAny_pure ?_))
  refine ⟨plainId_quiet F.excBase_ValueError.init.plain _, codeAny_builtin F.excBase_ValueError.initEntry ?_⟩
  exact exc_init_tree (cls := .ref C) (t0 := t0) (dv := none) (c2 := .none) (c3 := .none) (b4 := .bool false) he hrest fun h' k e' _ => hq h' _ k e'
end
theorem cw_one {Mo : Model} {A : Around} {E : Value → Shared → Prop} {s : Shared} {i : String} {u x : Addr} {pos : Pos} {env : Env} {e : Expr} {Q : Value → Shared → Prop}
    (h : wpAny Mo A (spliced (backTo pos (starEach [e] env))) (fun vs s₁ => KxsAt i u x s₁.heap ∧ wpAny Mo A (call (.ref u) vs) Q E s₁) E s)
    (he : starEach [e] env = (false, eval e env) :: starEach [] env := by rfl) : wpAny Mo A (callWith pos (.ref u) [] (backTo pos (starEach [e] env)) []) Q E s := by
  rw [he] at h ⊢
  exact kxs_callWith (i := i) (x := x) rfl (evalArgs_plain h)
theorem ve_slot : bootBuiltins "super" = some (.type "super") := by decide +kernel
section
variable {P : Program} {w : World} {A : Around} {R : Result → Shared → Prop} {s : Shared} {K : Frag} {mg mb : Str → Option Value} {C fI cda cc : Addr} {fl qual : Str} {sc : Scope} {params : Arguments} {q : List Pos}
  {oc dV kV doc pm ct : Value} {od an : Option Addr} {osl : Array (Option Value)} {ar : Arg}
theorem ini_run {args : Args} {x t0 : Addr} {v : Value} (X : K.In s.heap) (hlim : s.heap.NoLimit) (G : s.heap.Ns mainGlobals mg) (B : s.heap.Ns builtinsNs mb) (gs : mg "super" = none) (bs : mb "super" = some (.type "super")) (T : L2.OexC K C) (nf : findIn K (.ref C) fl = some none)
    (ho : K.lookup fI = some ⟨oc, od, .func (ksFn "__init__" qual params (eiB fl q) sc dV kV doc pm an (.ref cda) ct cc), osl⟩) (hcd : codeIn K (.ref cda) qual = true)
    (hcode : ∃ (ccl : Value) (cdd : Option Addr) (vs : Array Value) (ccs : Array (Option Value)) (file : Str) (tf : Tok), K.lookup cda = some ⟨ccl, cdd, .fields vs, ccs⟩ ∧ vs[2]? = some (.str file tf) ∧ ((P.main.file : Str) == file) = true)
    (hcell : ∃ (cl : Value) (cld : Option Addr) (csl : Array (Option Value)), K.lookup cc = some ⟨cl, cld, .cell (some (.ref C)), csl⟩)
    (hp : (params.posonlyargs ++ params.args).head? = some ar) (har : ar.arg = "self") (hsf : fl ≠ "self") (hdf : (fl == ("__debug__" : Str)) = false)
    (k1 : sc.kind = .function) (k2 : sc.isGenerator = false) (k3 : sc.isCoroutine = false) (k4 : sc.names.lookup ("self" : Str) = some .local) (k5 : sc.names.lookup fl = some .local) (k6 : sc.names.lookup ("super" : Str) = some .globalImplicit)
    (k7 : sc.names.lookup ("__class__" : Str) = some .free) (k8 : ∀ x ∈ sc.names, x.2 ≠ .cell)
    (htop : (P.main.scope.names.lookup ("super" : Str)).isSome = false) (hop : nsIn K cStatics "thirdparty.any" = some none) (sup : ks_superIn K C C "__init__" = some (some (.builtin "ValueError.__init__")))
    (hmro : mroIn K C (.ref C) = some true) (hsub : subIn K (.ref C) (.type "ValueError") = some true)
    (hint : ∀ env : Env, env.scope = sc → interactive env = false)
    (hev : ∀ env : Env, env.scope = sc → ∃ pl : Sem Bool, eval (.Call (.Attribute (.Call (.Name "super" (qp q 0)) [] [] (qp q 1)) "__init__" (qp q 2)) [.Name fl (qp q 3)] [] (qp q 4)) env = (do
      let ov ← attributeBase (.Call (.Name "super" (qp q 0)) [] [] (qp q 1)) "__init__" env (eval (.Call (.Name "super" (qp q 0)) [] [] (qp q 1)) env)
      standAt (qp q 2).atName
      let (f, first) ← holding [ov] (getMethod ov "__init__" pl)
      callWith (qp q 4) f first (backTo (qp q 4) (starEach [.Name fl (qp q 3)] env)) []))
    (hsw : ∀ env : Env, env.scope = sc → swapsWith (.Name fl (qp q 8)) (some (.Attribute (.Name "self" (qp q 6)) fl (qp q 7))) (qp q 9).line env = pure false)
    (hx : s.heap.get? x = some (excO C t0)) (hnx : K.lookup x = none) (hroom : A.depth < recursionLimit) (bind : BindsTo s (ksFn "__init__" qual params (eiB fl q) sc dV kV doc pm an (.ref cda) ct cc) args [("self", .ref x), (fl, v)])
    (hq : ∀ h' tk dx t1, (∀ b o, b ≠ x → s.heap.get? b = some o → h'.get? b = some o) → h'.get? x = some { cls := .ref C, dict := some dx, data := .fields #[.ref t1, .none, .none, .none, .bool false, .none] } → s.heap.objs.size ≤ dx → dx ≠ x →
      h'.Ns1 dx (fun y => if y = fl then some v else none) → R (.ok (.ret .none)) { s with heap := h', toks := tk }) :
    codeAny (model P w) A (.call (.ref fI) args) R s := by
  obtain ⟨nm, q', N, bs', bm, sn, sub, ab, col, dd, z0, z1, z2, z3, z5, hC, hbm⟩ := T.cls
  have hcl : clsIn K C = some { name := nm, bases := bs', mro := .ref C :: bm, ns := N, qualname := q', hasDict := true, slotNames := sn, subclasses := sub, abstract := ab, collection := col, hasDel := false } := by unfold clsIn; rw [hC] <;> rfl
  obtain ⟨ccl, cdd, vs, ccs, file, tf, hcode, hvs, hfile⟩ := hcode
  obtain ⟨cl, cld, csl, hcell⟩ := hcell
  refine ks_codeAny_call_defAt (fd := ksFn "__init__" qual params (eiB fl q) sc dV kV doc pm an (.ref cda) ct cc) (body := eiB fl q) (binds := [("self", .ref x), (fl, v)]) hroom (X _ _ ho) rfl hlim (codeRec_of X hcd) rfl bind k8
    (fun y hy => ?_) (fun h₁ hns hk₁ => ?_) k3 k2 k1
  · rcases List.mem_cons.mp hy with rfl | hy
    · exact k4
    rcases List.mem_cons.mp hy with rfl | hy
    · exact k5
    cases hy
  have hxL : s.heap.objs.size ≠ x := Nat.ne_of_gt (Heap.lt_size hx)
  have X₁ : K.In h₁ := X.keeps hk₁
  have hx₁ := hk₁ _ _ hx
  have mself : (fun x_1 => ([("self", .ref x), (fl, v)] : List (Str × Value)).reverse.lookup x_1) "self" = some (.ref x) := by
    have : (("self" : Str) == fl) = false := by simpa using fun z => hsf z.symm
    simp [List.lookup, this]
  have mfl : (fun x_1 => ([("self", .ref x), (fl, v)] : List (Str × Value)).reverse.lookup x_1) fl = some v := by
    simp [List.lookup]
  generalize hm : (fun x_1 => ([("self", .ref x), (fl, v)] : List (Str × Value)).reverse.lookup x_1) = m at hns mself mfl
  obtain ⟨hp0, g, dr, tk, os⟩ := s
  have I₁ : W.InstAt h₁ x (excO C t0) C none := ⟨hx₁, rfl, rfl, trivial⟩
  obtain ⟨oD, hD1, hD2⟩ : ∃ oD, h₁.get? C = some oD ∧ oD.data = .cls { name := nm, bases := bs', mro := .ref C :: bm, ns := N, qualname := q', hasDict := true, slotNames := sn, subclasses := sub, abstract := ab, collection := col, hasDel := false } := ⟨_, X₁ _ _ hC, rfl⟩
  have nk : ∀ {b : Addr} {o : Obj}, K.lookup b = some o → b ≠ x := fun e z => by rw [z, hnx] at e; cases e
  obtain ⟨pl, hev⟩ := hev (callEnv (ksFn "__init__" qual params (eiB fl q) sc dV kV doc pm an (.ref cda) ct cc) hp0.objs.size fI) rfl
  refine ks_wpAt_execs_cons (ks_wpAt_Expr_any (hi := hint _ rfl) (ks_wpAt_MethodCall (he := hev) ?_))
  refine ks_wpAt_super_base (env := callEnv (ksFn "__init__" qual params (eiB fl q) sc dV kV doc pm an (.ref cda) ct cc) hp0.objs.size fI) k6 k7 (by decide) rfl (X₁ _ _ ho) rfl hp rfl (X₁ _ _ hcode) rfl hvs hfile htop ?_
  refine ks_loadName_global k1 k6 (loadGlobal_builtin (G.keeps hk₁) gs (B.keeps hk₁) bs ⟨rfl, ?_⟩)
  refine wpAny_loadName_free k1 k7 rfl ⟨_, X₁ _ _ hcell, rfl⟩ ?_
  rw [har]
  refine wpAny_loadName_local k1 k4 hns mself ?_
  refine ks_wpAny_isType_cls hD1 hD2 ⟨rfl, ?_⟩
  refine ks_wpAny_call_super hD1 hD2 I₁.at_ I₁.cls (fun c e => by cases e) (looks_mroIn X₁ hmro) (fun h2 e2 kk2 => ?_)
  have X2 : K.In h2 := X₁.keeps kk2
  have hI2 : W.Looks (model P w) h2 (isInstance (.ref x) (.type "ValueError")) true := (show W.InstAt h2 x (excO C t0) C none from ⟨kk2 _ _ hx₁, rfl, rfl, trivial⟩).type.andThen (looks_subIn X2 hsub)
  have hxC : x ≠ C := fun z => by
    rw [← z, hx₁] at hD1
    cases hD1
    cases hD2
  have supA : alongIn K "__init__" (((.ref C :: bm).dropWhile (· != .ref C)).drop 1) = some (some (.builtin "ValueError.__init__")) := by
    have z := sup
    unfold ks_superIn at z
    rw [hcl] at z
    exact z
  refine kxs_getMethod kxs_ValueError e2 (looks_opaque X2 hop) (l₀ := .ref C :: bm) (fun A Q E s k q => wpAny_bind ((looks_clsIn X2 hcl) A _ E s k (wpAny_pure q))) rfl X2 supA hI2 hxC (by decide) ?_
  have kk3 : ∀ b o, h2.get? b = some o → (h2.push (kxs_mw "ValueError.__init__" x)).get? b = some o := fun b o e => Heap.get?_push_of_some _ e
  have hu : (h2.push (kxs_mw "ValueError.__init__" x)).get? h2.objs.size = some (kxs_mw "ValueError.__init__" x) := Heap.get?_push_size _ rfl
  refine cw_one (i := "ValueError.__init__") (x := x) (spliced_more ?_ rfl) rfl
  refine wpAny_Name (wpAny_loadName_local k1 k5 ((hns.keeps kk2).keeps kk3) mfl ?_) hdf
  refine spliced_none ⟨hu, ?_⟩
  refine call_mw (hC := kk3 _ _ (kk2 _ _ (X₁ _ _ hC))) (he := kk3 _ _ (kk2 _ _ hx₁)) hu (by show 1 ≤ sizeLine; rw [sizeLine_eq]; omega) (fun h4 t1 kk4 hx4 => ?_)
  have nx : ∀ {b : Addr} {o : Obj}, h₁.get? b = some o → b ≠ x → h4.get? b = some o := fun {b o} e n => kk4 b o n (kk3 _ _ (kk2 _ _ e))
  have X4 : K.In h4 := fun a o e => nx (X₁ _ _ e) (nk e)
  have hns4 : h4.Ns hp0.objs.size m := hns.at fun o e => nx e hxL
  refine wpAt_of_wpAny (wpAny_execs_cons (plainObj_wpAny_Assign_Attribute (hs := hsw _ rfl) ?_))
  refine wpAny_Name (wpAny_loadName_local k1 k5 hns4 mfl ?_) hdf
  refine wpAny_Name (wpAny_loadName_local k1 k4 hns4 mself ?_) (by decide)
  refine set_plain X4 (ox := excO C t1) (od := none) ⟨hx4, rfl, rfl, trivial⟩ T.sa ?_
  refine exc_osa X4 hx4 hcl (show refsVE (.ref C :: bm) = true from hbm) rfl nf (fun h5 tk5 dx k₅ dn dne hx5 hn5 => ?_)
  show wpAny _ _ (execs _ _) _ _ _
  have z : hp0.objs.size < h₁.objs.size := hns.lt
  have z4 : hp0.objs.size < h4.objs.size := hns4.lt
  exact wpAny_execs_nil (hq h5 tk5 dx t1 (fun b o hb e => k₅ b o hb (nx (hk₁ b o e) hb)) hx5 (Nat.le_of_lt (Nat.lt_of_lt_of_le z4 dn)) dne hn5)
end
end M

/-! ### own errors: raised, made -/
namespace M
open PySem PySem.Spec PyProof.Rows L2 PySem.HandSPX
/-- the run of C's __init__ -/
def IniRun (P : Program) (w : World) (K : PySem.W.Frag) (mg : Str → Option Value) (fl : Str) (C fI : Addr) (fd : FuncData) : Prop :=
  ∀ {A : Around} {R : Result → Shared → Prop} {s : Shared} {args : Args} {x t0 : Addr} {v : Value}, K.In s.heap → s.heap.NoLimit → s.heap.Ns mainGlobals mg → (∃ mb, s.heap.Ns builtinsNs mb ∧ ∀ x : Str, x ≠ "__name__" → mb x = bootBuiltins x) →
    s.heap.get? x = some (excO C t0) → K.lookup x = none → A.depth < recursionLimit → BindsTo s fd args [("self", .ref x), (fl, v)] →
    (∀ h' tk dx t1, (∀ b o, b ≠ x → s.heap.get? b = some o → h'.get? b = some o) → h'.get? x = some { cls := .ref C, dict := some dx, data := .fields #[.ref t1, .none, .none, .none, .bool false, .none] } → s.heap.objs.size ≤ dx → dx ≠ x →
      h'.Ns1 dx (fun y => if y = fl then some v else none) → R (.ok (.ret .none)) { s with heap := h', toks := tk }) → codeAny (model P w) A (.call (.ref fI) args) R s
structure ExcAt (P : Program) (w : World) (K : PySem.W.Frag) (mg : Str → Option Value) (x fl : Str) (C : Addr) : Prop where
  gC : mg x = some (.ref C)
  T : OexC K C
  ga : PySem.W.findIn K (.ref C) "__getattribute__" = some (some (.builtin "BaseException.__getattribute__"))
  gg : PySem.W.findIn K (.ref C) "__getattr__" = some none
  nf : PySem.W.findIn K (.ref C) fl = some none
  hd : PySem.W.hasDictIn K C = true
  init : ∃ (fI : Addr) (fd : FuncData), PySem.W.findIn K (.ref C) "__init__" = some (some (.ref fI)) ∧ PySem.W.typeIn K (.ref fI) = some (.type "function") ∧ IniRun P w K mg fl C fI fd ∧
    (∀ (s : Shared) (u v : Value), K.In s.heap → BindsTo s fd ⟨[u, v], []⟩ [("self", u), (fl, v)]) ∧ (∀ (s : Shared) (u : Value), K.In s.heap → BindsTo s fd ⟨[u], []⟩ [("self", u), (fl, .none)]) ∧
    (∀ (s : Shared) (u v : Value), K.In s.heap → BindsTo s fd ⟨[u], [(fl, v)]⟩ [("self", u), (fl, v)])
theorem relO_one {fl : Str} {v : V} {v' : Value} (r : RelV v v') (f : Str) : RelO (List.lookup f [(fl, v)]) (if f = fl then some v' else none) := relO_put (fs := []) (mA := fun _ => none) r (fun _ => trivial) f
section
variable {X : Cx} {C : Addr} {x fl : Str}
/-- a made one, seen from the caller -/
theorem mk_seen {pins : List (Addr × Obj)} {σ : L2.St} {H1 : Hp} {Q : XK} {hp h' : Heap} {g : Array GenState} {dr : Drawn} {tk tk' : Nat} {os : OsState} {e d t1 : Addr} {v : V} {v' : Value} (T : OexC X.K C) (I1 : Inv X pins σ H1 ⟨hp, g, dr, tk, os⟩)
    (keep : ∀ b o, hp.get? b = some o → h'.get? b = some o) (new : hp.objs.size ≤ e) (hx : h'.get? e = some { cls := .ref C, dict := some d, data := .fields #[.ref t1, .none, .none, .none, .bool false, .none] }) (db : hp.objs.size ≤ d) (dne : d ≠ e)
    (ns : h'.Ns1 d (fun y => if y = fl then some v' else none)) (rv : RelV v v') (q : Q (.ref C) (some d) (upd H1 d (.xd [(fl, v)]))) : MkP X pins σ Q (.ref e) ⟨h', g, dr, tk', os⟩ := by
  obtain ⟨G', g1, g2⟩ := restrict h' fun b => decide (b ≠ e)
  have gk : ∀ b, b ≠ e → G'.get? b = h'.get? b := fun b hb => g1 b (decide_eq_true hb)
  have ge : G'.get? e = none := g2 e (by simp)
  have old : ∀ b o, hp.get? b = some o → G'.get? b = some o := fun b o q => (gk b (Nat.ne_of_lt (Nat.lt_of_lt_of_le (Heap.lt_size q) new))).trans (keep b o q)
  have ob : ObjOk X.prog X.w (upd H1 d (.xd [(fl, v)])) G' d (.xd [(fl, v)]) := ⟨_, ns.at (fun o q => (gk d dne).trans q), fun f => relO_one rv f⟩
  have J : Inv X pins σ (upd H1 d (.xd [(fl, v)])) ⟨G', g, dr, tk', os⟩ := I1.laid (t' := tk') old db ob
  refine ⟨e, _, _, ⟨G', g, dr, tk', os⟩, _, .ref C, some d, rfl, J, fun b o q => ?_, ge, hx, ⟨rfl, rfl⟩, rfl, rfl, ?_, rfl, I1.bare, raises_own T.exC T.tyC, q⟩
  · by_cases hb : b = e
    · have q' : G'.get? b = some o := q
      rw [hb, ge] at q'; cases q'
    · exact (gk b hb).symm.trans q
  · rw [upd_ne (Ne.symm dne)]
    exact I1.hok.fresh new
def mMk (C : Addr) (fl : Str) (ta : TA) : L2.St → Hp → XK → Prop := fun σ H Q => ta σ H fun vs H1 => match vs with
  | [v] => ∀ d, H1 d = none → Q (.ref C) (some d) (upd H1 d (.xd [(fl, v)]))
  | _ => False
theorem vals_one {v : V} {us : List Value} (r : Vals [v] us) : ∃ u, us = [u] ∧ RelV v u := by
  cases r with
  | cons h1 h2 =>
    cases h2
    exact ⟨_, rfl, h1⟩
/-- C(v): the call -/
theorem call_exc {pins : List (Addr × Obj)} {σ : L2.St} {H1 : Hp} {Q : XK} {s1 : Shared} {v : V} {u : Value} {k : Nat} {A : Around} (T : ExcAt X.prog X.w X.K X.mg x fl C) (hr : A.depth + 2 < recursionLimit) (I1 : Inv X pins σ H1 s1) (rv : RelV v u)
    (q : ∀ d, H1 d = none → Q (.ref C) (some d) (upd H1 d (.xd [(fl, v)]))) {E : Value → Shared → Prop} : wpAny (model X.prog X.w) A (call (.ref C) [u]) (MkP X pins σ Q) E s1 := by
  obtain ⟨nm, q', N, bs, bm, sn, sub, ab, col, dd, k0, k1, k2, k3, k5, hC, hbm⟩ := T.T.cls
  obtain ⟨fI, fd, iC, tI, run, b1, _, _⟩ := T.init
  have hlim := I1.nolimit
  have KX := I1.kIn
  have G : s1.heap.Ns mainGlobals X.mg := I1.mod.glob.keeps I1.bk
  obtain ⟨mb, hb1, hb2⟩ := I1.mod.blt
  have B : s1.heap.Ns builtinsNs mb := hb1.keeps I1.bk
  obtain ⟨hp, g, dr, tk, os⟩ := s1
  have kk : ∀ b o, hp.get? b = some o → ((hp.push (PySem.W.kdv_tup [u])).push (excO C hp.objs.size)).get? b = some o := fun b o e => Heap.get?_push_of_some _ (Heap.get?_push_of_some _ e)
  have hget : ((hp.push (PySem.W.kdv_tup [u])).push (excO C hp.objs.size)).get? (hp.objs.size + 1) = some (excO C hp.objs.size) := by heap_get
  have hnx : X.K.lookup (hp.objs.size + 1) = none := by
    cases e : X.K.lookup (hp.objs.size + 1) with
    | none => rfl
    | some o =>
      have z : hp.get? (hp.objs.size + 1) = some o := KX _ _ e
      exact absurd (Nat.lt_of_succ_lt (Heap.lt_size z)) (Nat.lt_irrefl _)
  have KX2 : X.K.In ((hp.push (PySem.W.kdv_tup [u])).push (excO C hp.objs.size)) := KX.keeps kk
  refine wpAny_call (call_own F.excBase_ValueError (fun X => refsVE_contains X bm hbm) (KX _ _ hC) (PySem.W.looks_findIn KX iC) (fun self => PySem.W.bind_fn KX self tI) (by show 1 ≤ sizeLine; rw [sizeLine_eq]; omega) ?_)
  refine run (s := ⟨(hp.push (PySem.W.kdv_tup [u])).push (excO C hp.objs.size), g, dr, tk, os⟩) KX2 (hlim.keeps kk) (G.keeps kk) ⟨mb, B.keeps kk, hb2⟩ hget hnx ?_ (b1 _ _ _ KX2) fun h' tk' dx t1 k' hx dn dne hns => ?_
  · show A.depth + 1 < recursionLimit
    omega
  · have old : ∀ b o, hp.get? b = some o → h'.get? b = some o := fun b o e => k' b o (Nat.ne_of_lt (Nat.lt_succ_of_lt (Heap.lt_size e))) (kk b o e)
    have z : hp.objs.size + 1 + 1 ≤ dx := by
      first
        | (simpa only [Heap.size_push] using dn)
        | exact dn
    have db : hp.objs.size ≤ dx := Nat.le_trans (Nat.le_trans (Nat.le_succ _) (Nat.le_succ _)) z
    exact ⟨rfl, mk_seen T.T I1 old (Nat.le_succ _) hx db dne hns rv (q dx (I1.hok.fresh db))⟩
theorem pmk_exc {es : List Expr} {e : Expr} {ta : TA} {p pos : Pos} {k : Nat} (T : ExcAt X.prog X.w X.K X.mg x fl C) (hr : Room k X.A) (hg : Gl X x) (ha : PA X (e :: es) ta) (hdb : (x == ("__debug__" : Str)) = false := by decide)
    (he : starEach (e :: es) X.env = (false, eval e X.env) :: starEach es X.env := by rfl) (hpl : (backTo pos (starEach es X.env)).any (·.1) = false := by rfl) : PMk X (.Call (.Name x p) (e :: es) [] pos) (mMk C fl ta) := by
  intro pins s σ H Q I h
  refine wpAny_Call_Name_kw (ld_glob I hg T.gC ?_ hdb)
  refine PySem.W.callWith_K (h₀ := X.base) I.ok.mod.kin T.T.kC (thn ((pa_cl ha).run pos pins s σ H (fun vs H1 => ∃ v, vs = [v] ∧ ∀ d, H1 d = none → Q (.ref C) (some d) (upd H1 d (.xd [(fl, v)]))) I ⟨_, h, fun vs H1 z => ?_⟩) fun us s1 ⟨vs, H1, I1, r1, v, ev, q1⟩ => ⟨I1.kIn, ?_⟩) he hpl
  · split at z
    · exact ⟨_, rfl, z⟩
    · exact z.elim
  · subst ev
    obtain ⟨u, rfl, ru⟩ := vals_one r1
    exact call_exc (k := k) T (by have := hr.dp; omega) I1 ru q1
/-- raise C(v) -/
def mRaise (C : Addr) (fl : Str) (ta : TA) (E : XK) : TS := fun _ σ H => mMk C fl ta σ H fun cls d H' => E cls d H'
theorem ms_raise {es : List Expr} {e : Expr} {ta : TA} {p pos pos2 : Pos} {k : Nat} {E : XK} (T : ExcAt X.prog X.w X.K X.mg x fl C) (hr : Room k X.A) (hc : X.calm = true) (tk : Takes X (fun cls d _ H => E cls d H)) (hg : Gl X x) (ha : PA X (e :: es) ta) (hdb : (x == ("__debug__" : Str)) = false := by decide)
    (he : starEach (e :: es) X.env = (false, eval e X.env) :: starEach es X.env := by rfl) (hpl : (backTo pos (starEach es X.env)).any (·.1) = false := by rfl) : PS X (.Raise (some (.Call (.Name x p) (e :: es) [] pos)) none pos2) (mRaise C fl ta E) :=
  ps_raise hc tk (pmk_exc T hr hg ha hdb he hpl)
end
end M

/-! ### a caught error, kept behind the try -/
namespace M
open PySem PySem.Spec PyProof.Rows L2 PySem.HandSPX
/-- at a: an exception of the class cls, its dict d -/
def exk (a : Addr) (cls : Value) (d : Option Addr) : HO := .ext fun h => ∃ (o : Obj) (vs : Array Value), h.get? a = some o ∧ o.cls = cls ∧ o.dict = d ∧ o.data = .fields vs
theorem exk_ok {P : Program} {w : World} {H : Hp} {h : Heap} {a : Addr} {cls : Value} {d : Option Addr} {o : Obj} {vs : Array Value} (e : h.get? a = some o) (hz : Zc cls d o) (hd : o.data = .fields vs) : ObjOk P w H h a (exk a cls d) :=
  ⟨⟨o, vs, e, hz.1, hz.2, hd⟩, ⟨_, e⟩, fun h1 h2 z k => by
    obtain ⟨o, vs, q, r⟩ := z
    exact ⟨o, vs, k _ q, r⟩⟩
theorem exk_at {P : Program} {w : World} {H : Hp} {h : Heap} {a : Addr} {cls : Value} {d : Option Addr} (hok : HOk P w H h) (he : H a = some (exk a cls d)) : ∃ (o : Obj) (vs : Array Value), h.get? a = some o ∧ o.cls = cls ∧ o.dict = d ∧ o.data = .fields vs := by
  have x : ObjOk P w H h a (.ext fun h => ∃ (o : Obj) (vs : Array Value), h.get? a = some o ∧ o.cls = cls ∧ o.dict = d ∧ o.data = .fields vs) := hok a _ he
  exact x.1
section
variable {X : Cx} {pins : List (Addr × Obj)} {σ : L2.St} {H : Hp} {s : Shared}
/-- an object of the heap that was not looked at is looked at from now on -/
theorem Inv_track {a : Addr} {o : Obj} {vs : Array Value} {cls : Value} {d : Option Addr} (I : L2.Inv X pins σ H s) (e : s.heap.get? a = some o) (hz : Zc cls d o) (hd : o.data = .fields vs) (na : H a = none) (n0 : X.s_0.heap.get? a = none) (nL : a ≠ X.env.locals)
    (nP : ∀ p ∈ X.pn ++ pins, p.1 ≠ a) : L2.Inv X pins σ (upd H a (exk a cls d)) s := by
  have n1 : ∀ b o, X.s_0.heap.get? b = some o → b ≠ a := fun b o q z => by rw [z, n0] at q; cases q
  refine ⟨I.ok, I.os, I.bare, ⟨I.base.keep, I.base.slot, fun b o q n hx => ?_, I.base.there, fun b xs q => ?_, fun b o u q => ?_, fun b ps q => ?_⟩, I.loc, I.cell, ?_, fun x c q => ?_, fun p hp => ?_, fun b ob q => ?_, I.len⟩
  · rw [upd_ne (n1 b o q)]; exact I.base.free b o q n hx
  · have z := I.base.tups b xs q
    rw [upd_ne (ne_of_none z na)]; exact z
  · have z := I.base.frzs b o u q
    rw [upd_ne (ne_of_none z na)]; exact z
  · obtain ⟨more, z⟩ := I.base.tbls b ps q
    exact ⟨more, by rw [upd_ne (ne_of_none z na)]; exact z⟩
  · rw [upd_ne (Ne.symm nL)]; exact I.free
  · have : c ≠ a := fun z => by
      obtain ⟨v, hv⟩ := I.cell x c q
      obtain ⟨oc, q1, q2⟩ := hv
      rw [z, e] at q1
      cases q1
      rw [hd] at q2
      cases q2
    rw [upd_ne this]; exact I.freeC x c q
  · obtain ⟨p1, p2, p3⟩ := I.pin p hp
    exact ⟨p1, by rw [upd_ne (nP p hp)]; exact p2, p3⟩
  · by_cases hb : b = a
    · subst hb
      rw [upd_same] at q
      cases q
      exact exk_ok e hz hd
    · rw [upd_ne hb] at q
      exact (I.hok b ob q).stay (fun c v hc z => z) (fun c hc => by rw [upd_ne (ne_of_none hc na)]; exact hc) (fun c xs hc => by rw [upd_ne (ne_of_none hc na)]; exact hc)
/-- what is wished of an exception of the body: it is caught, n = it -/
def wK (K : PySem.W.Frag) (c : Value) (i j : Nat) (D : Ends) : WX := fun cls d σ H => PySem.W.exmOne K cls c = some true ∧ ∀ a, H a = none → D.nx ((σ.set j (some (.ref a))).set i none) (upd H a (exk a cls d))
def mTry (K : PySem.W.Frag) (c : Value) (i j : Nat) (tb : WX → TS) : TS := fun D σ H => tb (wK K c i j D) D σ H
end
end M

namespace M
open PySem PySem.Spec PyProof.Rows L2 PySem.HandSPX
section
variable {X : Cx} {x n y : Str} {c : Value} {i j : Nat} {body : List Stmt} {np pos pos' p1 p2 p3 : Pos} {tb : WX → TS}
theorem ms_try (hs : X.stack = X.env :: X.outer) (hf : X.env.frame = some X.env.locals) (hex : X.ex = []) (hN : X.N.Nodup) (hi : X.N[i]? = some n) (hln : X.env.kindOf n = some .local) (hc : Names X x c)
    (hb : ∀ (W : WX) (pn : List (Addr × Obj)) (xe : Value → Shared → Prop), Takes (X.tr pn xe) W → PassesOwn (model X.prog X.w) X.A X.env xe → PSs (X.tr pn xe) body (tb W))
    (hsu : ∀ (a : Addr) (oe : Obj) (pn : List (Addr × Obj)), (∃ vs, oe.data = .fields vs) → PSs (X.suite a ((a, oe) :: pn)) [.Assign [.Name y p1] (.Name n p2) p3] (tAsg (mVar i) (gName j))) :
    PS X (.Try body [.ExceptHandler (some (.Name x np)) (some n) [.Assign [.Name y p1] (.Name n p2) p3] pos'] [] [] pos) (mTry X.K c i j tb) := by
  refine ⟨fun pins s σ H D I h => ?_⟩
  have ok := I.ok
  have hfr : X.A.frames = some (X.env :: X.outer) := by rw [ok.frames, hs]
  have hloc : Loc X.env.scope n := .inl hln
  refine wpAny_Try_except ?_
  refine wpAny_mono ((hb (wK X.K c i j D) (X.pn ++ pins) (fun e s₁ => wpAny (model X.prog X.w) X.A (noteFrame e X.env) (fun _ s₂ => wpAny (model X.prog X.w) X.A (setFlight e none) (fun _ s₃ =>
    wpAny (model X.prog X.w) X.A (handleBy e X.env [.ExceptHandler (some (.Name x np)) (some n) [.Assign [.Name y p1] (.Name n p2) p3] pos']) (SP X pins D) X.xe s₃) X.xe s₂) X.xe s₁) (fun u s' xx => ?_) PassesOwn.looking).run [] s σ H D (I.toTry _) h) (fun f s1 hsp => ?_) (fun e s1 he => he)
  · obtain ⟨a, B, sI, pins', σ', H', cls, d, rfl, J', nb, up, sky, na, os, ag, hb1, hyes⟩ := xx
    have J : L2.Inv X pins σ' H' sI := J'.ofTry ok
    have sky' : Sky B (X.env :: X.outer) a (Zc cls d) X.env.locals s'.heap := by rw [← hs]; exact sky
    show wpAny (model X.prog X.w) X.A (noteFrame (.ref a) X.env) _ _ _
    refine Sky.land Zc.steady hfr hf sky' fun h3 fl3 up3 => ?_
    have J3 : L2.Inv X pins σ' H' { s' with heap := h3 } := J.landed nb fl3.1 (up.trans up3) os ag
    obtain ⟨oe3, vs3, he3, hz3, hd3⟩ := fl3.there
    have notFr : ∀ {h : Heap} {o : Obj} {vs : Array Value}, h.FunFrames B (X.env :: X.outer) → h.get? a = some o → o.data = .fields vs → a ∉ frs (X.env :: X.outer) := fun {h o vs} ff e dd hm => by
      obtain ⟨_, o', e', hnf⟩ := ff.mem hm
      rw [e] at e'; cases e'
      exact hnf _ dd
    have nfr := notFr fl3.2.2.1 he3 hd3
    have nL : a ≠ X.env.locals := fun z => nfr (List.mem_filterMap.mpr ⟨X.env, List.mem_cons_self, by rw [hf, z]⟩)
    have nF : a ∉ X.fs := fun hm => by
      obtain ⟨e, he, q⟩ := List.mem_filterMap.mp hm
      exact nfr (List.mem_filterMap.mpr ⟨e, List.mem_cons_of_mem _ he, q⟩)
    have nI : sI.heap.get? a = none := by
      cases q : sI.heap.get? a with
      | none => rfl
      | some o =>
        have z := nb a o q (by rw [hs]; exact nfr)
        rw [fl3.2.1] at z
        cases z
    have n0 : X.s_0.heap.get? a = none := by
      cases q : X.s_0.heap.get? a with
      | none => rfl
      | some o =>
        obtain ⟨o', z⟩ := J.base.there a o q (by rw [hex]; simp)
        rw [nI] at z
        cases z
    have nP : ∀ p ∈ X.pn ++ pins, p.1 ≠ a := fun p hp z => by
      have q := (J.pin p hp).1
      rw [z, nI] at q
      cases q
    have S3 := J3.suite he3 hd3 na nL nF
    refine wpAny_handleBy_cons (codeAny_handlers_test ?_) (by intro q; cases q)
    have LT : PySem.W.Looks (model X.prog X.w) h3 (typeOf (.ref a)) cls := fun A Q E s k q => wpAny_typeOf_ref (k _ _ he3) (by rw [hz3.1]; exact q)
    have LM := PySem.W.exm_one (M := model X.prog X.w) (J3.kIn) LT hb1
    have test : ∀ {Q : Value → Shared → Prop} {E : Value → Shared → Prop}, Q c { s' with heap := h3 } → wpAny (model X.prog X.w) (X.A.mark (some (.ref a))) (eval (.Name x np) X.env) Q E { s' with heap := h3 } := fun {Q E} q => by
      obtain ⟨hg, hdbg, hm | ⟨hm, hv, hnn⟩⟩ := hc
      · exact ld_glob (X := X.suite a ((a, oe3) :: (X.pn ++ pins))) S3 hg hm q hdbg
      · exact ld_blt (X := X.suite a ((a, oe3) :: (X.pn ++ pins))) S3 hg hm hv q hnn hdbg
    refine test (LM.here ?_)
    refine codeAny_handlers_suite_as ?_
    refine HandSPX.lands_againZ fl3 fun h4 fl4 up4 => ?_
    have J4 : L2.Inv X pins σ' H' { s' with heap := h4 } := J.landed nb fl4.1 ((up.trans up3).trans up4) os ag
    obtain ⟨oe4, vs4, he4, hz4, hd4⟩ := fl4.there
    have S4 := J4.suite he4 hd4 na nL nF
    refine store_ok (X := X.suite a ((a, oe4) :: (X.pn ++ pins))) (v := .ref a) S4 hN hi hloc rfl (fun s5 S5 => ?_) (.inr hln)
    have il : i < σ'.length := by
      rw [J.len]
      exact (List.getElem?_eq_some_iff.mp hi).1
    have hgt : ∀ (l : Sl) (k : Nat) (v : V), k < l.length → M.gt (l.set k (some v)) k = some v := by
      intro l
      induction l with
      | nil => intro k v hk; exact absurd hk (by simp)
      | cons b r ih =>
        intro k v hk
        cases k with
        | zero => rfl
        | succ k => exact ih k v (by simpa using hk)
    have hread : (tAsg (mVar i) (gName j)) ({ nx := fun σ6 H6 => H6 = H' ∧ σ6 = (σ'.set i (some (.ref a))).set j (some (.ref a)), rt := fun _ _ => False, bk := fun _ _ => False, ct := fun _ _ => False } : Ends) (σ'.set i (some (.ref a))) H' := by
      show (match M.gt (σ'.set i (some (.ref a))) i with | some v => _ | none => False)
      rw [hgt _ _ _ il]
      exact ⟨rfl, rfl⟩
    refine wpAny_mono ((hsu a oe4 (X.pn ++ pins) ⟨_, hd4⟩).run [] s5 _ H' _ S5 hread) (fun f s6 hsp => ?_) (fun _ _ z => False.elim z)
    cases f with
    | next =>
      obtain ⟨σ6, H6, S6, rfl, rfl⟩ := hsp
      have he6 : s6.heap.get? a = some oe4 := (S6.pin (a, oe4) (List.mem_append_left _ List.mem_cons_self)).1
      have T6 := Inv_track (S6.unsuite ok) he6 hz4 hd4 na n0 nL nP
      refine gone_ok T6 hN hi hln fun s7 J7 => ⟨_, _, J7, ?_⟩
      by_cases hij : i = j
      · subst hij
        have z := hyes a na
        rw [List.set_set] at z
        rw [List.set_set, List.set_set]
        exact z
      · have z := hyes a na
        have e : ((σ'.set i (some (V.ref a))).set j (some (V.ref a))).set i none = (σ'.set j (some (V.ref a))).set i none := by
          rw [List.set_comm _ _ hij, List.set_set]
        rw [e]
        exact z
    | brk =>
      obtain ⟨σ6, H6, S6, q6⟩ := hsp
      exact q6.elim
    | cont =>
      obtain ⟨σ6, H6, S6, q6⟩ := hsp
      exact q6.elim
    | ret u =>
      obtain ⟨v6, σ6, H6, S6, r6, q6⟩ := hsp
      exact q6.elim
  · cases f with
    | next =>
      obtain ⟨σ', H', J', q⟩ := hsp
      exact wpAny_execs_nil ⟨σ', H', J'.ofTry ok, q⟩
    | brk =>
      obtain ⟨σ', H', J', q⟩ := hsp
      exact ⟨σ', H', J'.ofTry ok, q⟩
    | cont =>
      obtain ⟨σ', H', J', q⟩ := hsp
      exact ⟨σ', H', J'.ofTry ok, q⟩
    | ret u =>
      obtain ⟨v, σ', H', J', r, q⟩ := hsp
      exact ⟨v, σ', H', J'.ofTry ok, r, q⟩
end
end M

/-! ### defs that show values: no repr is under way above them -/
namespace M
open PySem PySem.Spec PyProof.Rows L2 PySem.HandSPX
structure RoomG (k : Nat) (A : Around) : Prop where
  hd : A.handled = none
  dp : A.depth + k + 20 < recursionLimit
  un : A.units + 8 * k + 300 < cLine
  gd : A.guards = some []
theorem RoomG.mono {j k : Nat} {A : Around} (r : RoomG k A) (h : j ≤ k) : RoomG j A := ⟨r.hd, by have := r.dp; omega, by have := r.un; omega, r.gd⟩
theorem RoomG.deeper {k : Nat} {A : Around} (r : RoomG (k + 1) A) (env : Env) : RoomG k (A.deeper env) := ⟨r.hd, by have := r.dp; show A.depth + 1 + k + 20 < _; omega, by have := r.un; show A.units + 3 + 8 * k + 300 < _; omega, r.gd⟩
theorem RoomG.room {j k : Nat} {A : Around} (r : RoomG k A) (h1 : 3 * j ≤ k + 15) (h2 : 16 * j ≤ 8 * k + 100) : Room j A := ⟨r.hd, by have := r.dp; omega, by have := r.un; omega⟩
theorem RoomG.r0 {k : Nat} {A : Around} (r : RoomG k A) : Room 0 A := r.room (by omega) (by omega)
theorem RoomG.units {k : Nat} {A : Around} (r : RoomG k A) : A.units + 64 < cLine := by have := r.un; omega
theorem RoomG.depth {k : Nat} {A : Around} (r : RoomG k A) : A.depth < recursionLimit := by have := r.dp; omega
structure FnG (P : Program) (w : World) (K : PySem.W.Frag) (mg : Str → Option Value) (base : Heap) (CX : CXT) (k : Nat) (f : Addr) (fd : FuncData) (ps : List Str) (sp : Sp) : Prop where
  len : ∀ vs H Q E, sp vs H Q E → vs.length = ps.length
  run : ∀ (A : Around) (outer : List Env) (s : Shared) (H : Hp) (args : Args) (us : List Value) (vs : List V) (Q : VK) (E : XK), RoomG k A → Env0 P w K mg base A outer s H → BindsTo s fd args (ps.zip us) → Vals vs us → sp vs H Q E →
    codeAny (model P w) A (.call (.ref f) args) (CR CX outer P w H s Q E) s
theorem FnG.of {P : Program} {w : World} {K : PySem.W.Frag} {mg : Str → Option Value} {base : Heap} {CX : CXT} {j k : Nat} {f : Addr} {fd : FuncData} {ps : List Str} {sp : Sp} (F : FnOk P w K mg base CX j f fd ps sp) (h1 : 3 * j ≤ k + 15) (h2 : 16 * j ≤ 8 * k + 100) : FnG P w K mg base CX k f fd ps sp :=
  ⟨F.len, fun A outer s H args us vs Q E hr => F.run A outer s H args us vs Q E (hr.room h1 h2)⟩
theorem FnG.zero {P : Program} {w : World} {K : PySem.W.Frag} {mg : Str → Option Value} {base : Heap} {CX : CXT} {k : Nat} {f : Addr} {fd : FuncData} {ps : List Str} {sp : Sp} (no : ∀ vs H Q E, ¬ sp vs H Q E) : FnG P w K mg base CX k f fd ps sp :=
  ⟨fun vs H Q E h => absurd h (no vs H Q E), fun A outer s H args us vs Q E _ _ _ _ h => absurd h (no vs H Q E)⟩
theorem FnG.mono {P : Program} {w : World} {K : PySem.W.Frag} {mg : Str → Option Value} {base : Heap} {CX : CXT} {j k : Nat} {f : Addr} {fd : FuncData} {ps : List Str} {sp : Sp} (F : FnG P w K mg base CX j f fd ps sp) (h : j ≤ k) : FnG P w K mg base CX k f fd ps sp :=
  ⟨F.len, fun A outer s H args us vs Q E hr => F.run A outer s H args us vs Q E (hr.mono h)⟩
section
variable {P : Program} {w : World} {K : PySem.W.Frag} {mg : Str → Option Value} {base : Heap} {x qual : Str} {params : Arguments} {body : List Stmt} {scope : Scope} {dvs : List V} {kws : List (Str × V)} {f : Addr} {fd : FuncData}
theorem okG {CX : CXT} {N ps : List Str} {k : Nat} {sp : Sp} (F : FunD K x qual params body scope dvs kws f fd) (S : FnScope N ps scope) (len : ∀ vs H Q E, sp vs H Q E → vs.length = ps.length)
    (hbody : ∀ (cdv : Value) (A : Around) (outer : List Env) (s : Shared) (H : Hp) (vs : List V) (Q : VK) (E : XK), RoomG k (A.deeper (envOfC qual scope s.heap.objs.size f cdv)) → sp vs H Q E →
      ∃ t, PSs (cxOf CX P w K mg base N qual scope f cdv A outer s H E) body t ∧ t { nx := fun _ H' => Q .non H', rt := Q } (start N vs) H) : FnG P w K mg base CX (k + 1) f fd ps sp := by
  obtain ⟨oc, od, dV, kV, doc, pm, an, cdv, ct, osl, rfl, lk, hcd, _, _⟩ := F.ex
  refine ⟨len, fun A outer s H args us vs Q E hr e0 hb r hsp => ?_⟩
  have up : ∀ b o, base.get? b = some o → s.heap.get? b = some o := fun b o e => (e0.bs b o e).1
  have KX : K.In s.heap := e0.mod.kin.keeps up
  have par : ∀ y ∈ ps.zip us, scope.names.lookup y.1 = some .local ∨ (scope.names.lookup y.1 = some .cell ∧ ((cellsFrom (s.heap.objs.size + 1) scope.names []).lookup y.1).isSome = true) := by
    rintro ⟨n, v⟩ hy
    exact (S.par n (List.of_mem_zip hy).1).imp id fun q => ⟨q, PySem.W.cellsFrom_some _ _ _ (.inl q)⟩
  refine codeAny_call_function hr.depth (KX _ _ lk) rfl S.co S.gen rfl (PySem.W.codeRec_of KX hcd) (hb _ _ _ _ (wpAny_newFunctionEnv_cells S.kind par fun env he s1 x => ?_))
  subst he
  obtain ⟨t, ht, hq⟩ := hbody cdv A outer s H vs Q E (hr.deeper _) hsp
  refine ⟨(e0.mod.nolimit.keeps up).keeps x.toInCall.keep, codeAny_func (wpAny_mono (ht.run [] s1 (start N vs) H _ (inv_start S hr.hd e0 (len _ _ _ _ hsp) r x) hq) (fun fl s' hs => ?_) fun e s' hs => hs)⟩
  cases fl with
  | ret u =>
    obtain ⟨v, σ', H', J, rv, q⟩ := hs
    exact ⟨v, H', J.os, J.bare, J.base, J.hok, rv, q⟩
  | next =>
    obtain ⟨σ', H', J, q⟩ := hs
    exact ⟨V.non, H', J.os, J.bare, J.base, J.hok, rfl, q⟩
  | brk => exact (hs.elim fun _ z => z.elim fun _ z => z.2).elim
  | cont => exact (hs.elim fun _ z => z.elim fun _ z => z.2).elim
end
structure CalG (P : Program) (w : World) (K : PySem.W.Frag) (mg : Str → Option Value) (base : Heap) (CX : CXT) (x : Str) (k : Nat) (ps : List Str) (dvs : List V) (sp : Sp) : Prop where
  ex : ∃ f fd ds, FnG P w K mg base CX k f fd ps sp ∧ mg x = some (.ref f) ∧ PySem.W.keepIn K (.ref f) = true ∧ Binds K fd ps ds ∧ Vals dvs ds
section
variable {X : Cx} {CX : CXT} {k : Nat} {ps : List Str} {sp : Sp} {dvs : List V} {E : XK} {x : Str} {p pos : Pos} {e : Expr} {es : List Expr} {t : TA}
theorem me_callG (C : CalG X.prog X.w X.K X.mg X.base CX x k ps dvs sp) (hr : RoomG k X.A) (hg : Gl X x) (hx : Passes CX X E) (ha : PA X (e :: es) t) (hdb : (x == ("__debug__" : Str)) = false := by decide)
    (he : starEach (e :: es) X.env = (false, eval e X.env) :: starEach es X.env := by rfl) (hpl : (backTo pos (starEach es X.env)).any (·.1) = false := by rfl) : PE X (.Call (.Name x p) (e :: es) [] pos) (tCall sp dvs E t) := by
  obtain ⟨f, fd, ds, F, hm, hk, hb, hd⟩ := C.ex
  refine ⟨fun pins s σ H Q I h => wpAny_Call_Name_kw (ld_glob I hg hm (PySem.W.callWith_K (h₀ := X.base) I.ok.mod.kin hk (thn (ha.run pos pins s σ H _ I h) fun us s1 ⟨vs, H1, I1, r, q⟩ => ⟨I1.kIn, ?_⟩) he hpl) hdb)⟩
  have r2 : Vals (vs ++ dvs) (us ++ ds) := r.append hd
  refine wpAny_call (codeAny_mono (F.run X.A X.stack s1 H1 ⟨us, []⟩ (us ++ ds) (vs ++ dvs) Q E hr I1.env0 (hb s1 us I1.kIn (r2.length.symm.trans (F.len _ _ _ _ q))) r2 q) fun r s' hq => ?_)
  rcases r with er | fl
  · exact hx pins σ H1 s1 er s' I1 hq
  · cases fl with
    | ret u => exact I1.after hq
    | next => exact False.elim hq
    | brk => exact False.elim hq
    | cont => exact False.elim hq
end
/-! ### repr -/
section
variable {X : Cx}
def fd1 : V → Option PyData
  | .int i => some (.int i)
  | .str z => some (.str z)
  | .bl b => some (.bool b)
  | .non => some .none
  | _ => none
def kd1 : Key → PyData
  | .inl i => .int i
  | .inr x => .str x
def fdKV : List (Key × V) → Option (List (PyData × PyData))
  | [] => some []
  | (k, v) :: r => match fd1 v, fdKV r with
    | some d, some q => some ((kd1 k, d) :: q)
    | _, _ => none
/-- what repr shows of a value -/
inductive Sh (K : PySem.W.Frag) (H : Hp) : V → PyData → Prop
  | dp {v : V} {d : PyData} : Dp K H v d → d.hasDict = false → Sh K H v d
  | dct {a : Addr} {kvs : List (Key × V)} {ds : List (PyData × PyData)} : H a = some (.dK kvs) → fdKV kvs = some ds → Sh K H (.ref a) (.dict ds)
def mRepr (K : PySem.W.Frag) : List V → Hp → VK → Prop := fun xs H Q => match xs with
  | [x] => ∃ d, Sh K H x d ∧ d.showable = true ∧ d.depth ≤ 64 ∧ d.shown.length ≤ sizeLine ∧ Q (.str d.shown) H
  | _ => False
theorem rd1 {h : Heap} {v : V} {u : Value} {d : PyData} (r : RelV v u) (e : fd1 v = some d) : Reads h u d [] := by
  cases v with
  | int i => obtain ⟨t, rfl⟩ := r; cases e; exact .int i t
  | str z => obtain ⟨t, rfl⟩ := r; cases e; exact .str z t
  | bl b => cases r; cases e; exact .bool b
  | non => cases r; cases e; exact .none
  | _ => cases e
theorem rdKV {P : Program} {w : World} {h : Heap} : ∀ {kvs : List (Key × V)} {vs : List (Key × Value)} {es : List DictEntry} {ds : List (PyData × PyData)}, KV kvs vs → Pairs (mixKind P w) es vs → fdKV kvs = some ds →
    ReadsAll h (es.map (·.key)) (ds.map (·.1)) [] ∧ ReadsAll h (es.map (·.val)) (ds.map (·.2)) []
  | _, _, _, _, .nil, .nil, e => by cases e; exact ⟨.nil, .nil⟩
  | (k, v) :: r, (k', u) :: r', en :: es, ds, .cons hk hr, .cons h1 h2 h3, e => by
    obtain ⟨e1, e2⟩ := hk
    unfold fdKV at e
    split at e
    · rename_i d q ed eq
      cases e
      obtain ⟨a1, a2⟩ := rdKV (h := h) hr h3 eq
      refine ⟨?_, ?_⟩
      · refine ReadsAll.cons (as := []) (bs := []) ?_ a1
        show Reads h en.key (kd1 k) []
        have e1' : k = k' := e1
        subst e1'
        rcases keyIs_shape (show keyIs _ en.key = true from h1) with ⟨i, t, z1, z2⟩ | ⟨x, t, z1, z2⟩
        · have z1' : k = .inl i := z1
          rw [z2, z1']; exact .int i t
        · have z1' : k = .inr x := z1
          rw [z2, z1']; exact .str x t
      · refine ReadsAll.cons (as := []) (bs := []) ?_ a2
        show Reads h en.val d []
        rw [h2]
        exact rd1 e2 ed
    · cases e
theorem call_reprM {k : Nat} (hr : RoomG k X.A) : CallR X (.builtin "repr") (mRepr X.K) := by
  intro pins s σ H xs us Q I r h
  unfold mRepr at h
  split at h
  · rename_i x
    obtain ⟨d, hs, h1, h2, h3, q⟩ := h
    obtain ⟨u, rfl, ru⟩ := vals_one r
    have hun := hr.un
    have fin : ∀ (a : Addr) (as : List Addr), Reads s.heap (.ref a) d as → (d.hasDict = true → sysModules ∉ as) → wpAny (model X.prog X.w) X.A (call (.builtin "repr") [.ref a]) (EP X pins σ Q) X.xe s := fun a as rd hsm =>
      repr_of_reads' rd h1 hsm hr.gd (by omega) (fun _ _ e => e) (fun h' u tk k => ⟨.str d.shown, H, I.kept (t' := tk) k, ⟨u, rfl⟩, q⟩) h3
    cases hs with
    | dp hd hn =>
      obtain ⟨as, rd⟩ := Dp.reads I d x u hd ru
      have hsm : d.hasDict = true → sysModules ∉ as := PyData.noDict_hsm hn
      cases rd with
      | none => exact PySem.P.repr_of_none ⟨.str "None", H, I.tok _, ⟨_, rfl⟩, by simpa only [PyData.shown] using q⟩
      | bool b => exact PySem.P.repr_of_bool ⟨.str (if b then "True" else "False"), H, I.tok _, ⟨_, rfl⟩, by simpa only [PyData.shown] using q⟩
      | int i t => exact PySem.P.repr_of_int (by simpa [PyData.showable] using h1) ⟨.str (toString i), H, I.tok _, ⟨_, rfl⟩, by simpa only [PyData.shown] using q⟩
      | str z t => exact PySem.P.repr_of_str ⟨.str (reprText z), H, I.tok _, ⟨_, rfl⟩, by simpa only [PyData.shown] using q⟩ (by simpa only [PyData.shown] using h3)
      | list e1 e2 e3 e4 => exact fin _ _ (.list e1 e2 e3 e4) hsm
      | tuple e1 e2 e3 e4 => exact fin _ _ (.tuple e1 e2 e3 e4) hsm
      | dict e1 e2 e3 e4 e5 => exact fin _ _ (.dict e1 e2 e3 e4 e5) hsm
    | @dct a kvs ds ha hf =>
      cases ru
      obtain ⟨_, hns, vs, hkv, o, es, ep, e1, e2, e3, e4, e5, e6⟩ := dk_of I.hok ha
      obtain ⟨r1, r2⟩ := rdKV (h := s.heap) hkv e5 hf
      refine fin a ([a] ++ [] ++ []) (.dict e1 e2.1 e3 r1 r2) fun _ hm => ?_
      have z : sysModules = a := by simpa using hm
      rw [z] at hns
      simp at hns
  · exact h.elim
end
/-! ### a kept error's field, its class -/
structure ExcK (K : PySem.W.Frag) (fl : Str) (C : Addr) : Prop where
  ga : PySem.W.findIn K (.ref C) "__getattribute__" = some (some (.builtin "BaseException.__getattribute__"))
  gg : PySem.W.findIn K (.ref C) "__getattr__" = some none
  nf : PySem.W.findIn K (.ref C) fl = some none
  hd : PySem.W.hasDictIn K C = true
  exC : PySem.W.subIn K (.ref C) (.type "BaseException") = some true
  ha : PySem.W.findIn K (.ref C) "__class__" = some (some (.builtin "object.__class__"))
  hn : PySem.W.specialIn K (.builtin "object.__class__") "__get__" = some (some (.builtin "getset_descriptor.__get__"))
  ht : PySem.W.takesIn K (.builtin "object.__class__") = some true
  hm : PySem.W.mroIn K C (.type "object") = some true
def mFld (K : PySem.W.Frag) (fl : Str) (te : TE) : TE := fun σ H Q => te σ H fun x H1 => match x with
  | .ref a => ∃ (C d : Addr) (v : V), ExcK K fl C ∧ H1 a = some (exk a (.ref C) (some d)) ∧ H1 d = some (.xd [(fl, v)]) ∧ Q v H1
  | _ => False
section
variable {X : Cx}
theorem inst_of {pins : List (Addr × Obj)} {σ : L2.St} {H : Hp} {s : Shared} {a C d : Addr} {fs : List (Str × V)} (I : L2.Inv X pins σ H s) (h1 : H a = some (exk a (.ref C) (some d))) (h2 : H d = some (.xd fs)) :
    ∃ (o od : Obj) (mA : Str → Option Value), PySem.W.InstAt s.heap a o C (some od) ∧ s.heap.Ns1 d mA ∧ (∀ f, RelO (fs.lookup f) (mA f)) ∧ s.heap.get? d = some od := by
  obtain ⟨o, vs, e1, e2, e3, e4⟩ := exk_at I.hok h1
  have hx : ObjOk X.prog X.w H s.heap d (.xd fs) := I.hok d _ h2
  obtain ⟨mA, hns, hr⟩ := hx
  obtain ⟨od, ho, hl⟩ := lookIn_ns hns
  exact ⟨o, od, mA, ⟨e1, e2, by unfold PySem.W.notCls; rw [e4] <;> rfl, by rw [e3]; exact ho⟩, hns, hr, ho⟩
theorem me_fld {e : Expr} {te : TE} {fl : Str} {pos : Pos} (he : PE X e te) (hb : attributeBase e fl X.env (eval e X.env) = eval e X.env := by rfl) : PE X (.Attribute e fl pos) (mFld X.K fl te) := by
  refine ⟨fun pins s σ H Q I h => attr_of hb (thn ((pe_cl he).run pins s σ H (fun x H1 => ∃ (a C d : Addr) (v : V), x = .ref a ∧ ExcK X.K fl C ∧ H1 a = some (exk a (.ref C) (some d)) ∧ H1 d = some (.xd [(fl, v)]) ∧ Q v H1) I ⟨_, h, fun x H1 z => ?_⟩) fun u s1 hh => ?_)⟩
  · cases x with
    | ref a => obtain ⟨C, d, v, z⟩ := z; exact ⟨a, C, d, v, rfl, z⟩
    | _ => exact z.elim
  · obtain ⟨_, H1, I1, rx, a, C, d, v, rfl, T, h1, h2, q⟩ := hh
    cases rx
    obtain ⟨o, od, mA, J, hns, hr, ho⟩ := inst_of I1 h1 h2
    obtain ⟨od', ho', hl⟩ := lookIn_ns hns
    rw [ho] at ho'
    cases ho'
    have l : List.lookup fl [(fl, v)] = some v := by simp [List.lookup]
    obtain ⟨u, hu, ru⟩ := RelO.some_of (v := v) (o := mA fl) (by rw [← l]; exact hr fl)
    exact HandSPX.exc_get I1.kIn J T.ga T.gg T.exC (PySem.W.findObj_own T.hd T.nf rfl (by rw [hl, hu])) (handed_of ru) ⟨v, H1, I1.tok _, ru, q⟩
/-- isinstance(x, C'), x None or a kept error -/
def mIsiE (K : PySem.W.Frag) : List V → Hp → VK → Prop := fun xs H Q => match xs with
  | [.ref a, .ref C'] => ∃ (C d : Addr) (fl : Str) (fs : List (Str × V)) (b : Bool), ExcK K fl C ∧ H a = some (exk a (.ref C) (some d)) ∧ H d = some (.xd fs) ∧ PySem.W.kitOne K (.ref C) (.ref C') = some b ∧ Q (.bl b) H
  | _ => mIsi K xs H Q
theorem call_isiE : CallR X (.builtin "isinstance") (mIsiE X.K) := by
  intro pins s σ H xs us Q I r h
  unfold mIsiE at h
  split at h
  · rename_i a C'
    obtain ⟨C, d, fl, fs, b, T, h1, h2, hk, q⟩ := h
    cases r with
    | cons rx rr => cases rr with
      | cons rt rr =>
        cases rr; cases rx; cases rt
        obtain ⟨o, od, mA, J, _⟩ := inst_of I h1 h2
        obtain ⟨cd, hcd, _⟩ := PySem.W.any_some T.hd
        exact PySem.W.kia_one (PySem.W.kitx_exc (by rw [hcd]; rfl) T.ga T.gg T.exC T.ha T.hn T.ht T.hm) I.kIn J hk (fun z => nomatch z) fun tk => ⟨.bl b, H, I.kept (t' := tk) fun _ _ z => z, rfl, q⟩
  · exact call_isiM pins s σ H xs us Q I r h
end
end M

/-! ### the law's end for such defs -/
namespace M
open PySem PySem.Spec PyProof.Rows L2
section
variable {P : Program} {w : World} {K : PySem.W.Frag} {mg mb : Str → Option Value} {CX : CXT} {k : Nat} {fa a : Addr} {fd : FuncData} {x : Str} {sp : Sp} {s₁ : Shared} {vs : List Value} {ns : List Int}
/-- all but what H tracks is the ground -/
theorem ground_of {H : Hp} (KX : K.In s₁.heap) (hns : s₁.heap.Ns mainGlobals mg) (hb : s₁.heap.Ns builtinsNs mb) (hbb : ∀ x : Str, x ≠ "__name__" → mb x = bootBuiltins x) (hlim : s₁.heap.NoLimit) (hg : s₁.gens = #[])
    (hok : HOk P w H s₁.heap) (noD : ∀ b o es ep, s₁.heap.get? b = some o → o.data = .dict es ep → H b = none) (noK : ∀ b o, K.lookup b = some o → H b = none) :
    K.In (hidT s₁.heap H) ∧ (hidT s₁.heap H).Ns mainGlobals mg ∧ Env0 P w K mg (hidT s₁.heap H) callerA [] s₁ H := by
  have names : ∀ {b : Addr} {m : Str → Option Value}, s₁.heap.Ns b m → (hidT s₁.heap H).Ns b m := by
    rintro b m ⟨o, es, ep, e, d, r⟩
    exact ⟨o, es, ep, hidT_get e (noD b o es ep e d), d, r⟩
  have kin : K.In (hidT s₁.heap H) := fun b o e => hidT_get (KX b o e) (noK b o e)
  obtain ⟨mc, l1, l2⟩ := hlim
  refine ⟨kin, names hns, rfl, ⟨kin, names hns, ⟨mb, names hb, hbb⟩, mc, names l1, l2⟩, fun b o e => of_hidT e, Nat.le_of_eq (hidT_size _ _), trivial, fun b z => ?_, hok, .of_eq hg⟩
  cases z
theorem law_runG {H : Hp} (F : FnG P w K mg (hidT s₁.heap H) CX k fa fd [x] sp) (hr : RoomG k callerA) (e0 : Env0 P w K mg (hidT s₁.heap H) callerA [] s₁ H) (hbind : ∀ (s : Shared) (u : Value), BindsTo s fd ⟨[u], []⟩ [(x, u)]) (hO : Only H)
    (hsp : sp [.ref a] H (fun v _ => v = .bl true) fun _ _ _ => False) (hCX : ∀ H e s', CX [] H s₁ (fun _ _ _ => False) e s' → False) :
    codeAny (model P w) callerA (.call (.ref fa) ⟨[.ref a], []⟩) (fun r s' => r = .ok (.ret (.bool true)) ∧ OldK s₁.heap s'.heap ∧ s'.os = s₁.os ∧ AllBare s'.gens) s₁ := by
  refine codeAny_mono (F.run callerA [] s₁ H ⟨[.ref a], []⟩ [.ref a] [.ref a] _ _ hr e0 (hbind s₁ (.ref a)) (.cons rfl .nil) hsp) fun r s' h => ?_
  rcases r with e | fl
  · exact (hCX H e s' h).elim
  rcases fl with _ | _ | _ | u
  all_goals first | exact False.elim h | skip
  obtain ⟨v, H', os, bare, un, hok', rv, q⟩ := h
  cases (show v = .bl true from q)
  cases (show u = Value.bool true from rv)
  refine ⟨rfl, OldK.of_keep fun b o e => ?_, os, bare⟩
  rcases hO b with z | ⟨ob, xs, z⟩
  · exact un.keep b o e z (fun y => by cases y) (fun y => by cases y)
  · have e1 := (e0.hok b _ z).1
    have e2 := (hok' b _ (un.frzs b ob _ z)).1
    rw [e] at e1
    cases e1
    exact e2
theorem law_callG (KX : K.In s₁.heap) (hns : s₁.heap.Ns mainGlobals mg) (hb : s₁.heap.Ns builtinsNs mb) (hbb : ∀ x : Str, x ≠ "__name__" → mb x = bootBuiltins x) (hlim : s₁.heap.NoLimit) (hg : s₁.gens = #[])
    (ha : s₁.heap.get? a = some { cls := .type "list", data := .seq vs.toArray }) (hi : IntsAre vs ns) (hl : ns.length ≤ sizeLine) (hr : RoomG k callerA)
    (F : ∀ base : Heap, K.In base → base.Ns mainGlobals mg → FnG P w K mg base CX k fa fd [x] sp) (hbind : ∀ (s : Shared) (u : Value), BindsTo s fd ⟨[u], []⟩ [(x, u)])
    (hsp : ∀ H : Hp, Only H → SqL K H a (ns.map V.int) → sp [.ref a] H (fun v _ => v = .bl true) fun _ _ _ => False)
    (hCX : ∀ H e s', CX [] H s₁ (fun _ _ _ => False) e s' → False) :
    codeAny (model P w) callerA (.call (.ref fa) ⟨[.ref a], []⟩) (fun r s' => r = .ok (.ret (.bool true)) ∧ OldK s₁.heap s'.heap ∧ s'.os = s₁.os ∧ AllBare s'.gens) s₁ := by
  have go : ∀ H : Hp, Only H → SqL K H a (ns.map V.int) → HOk P w H s₁.heap → (∀ b, b ≠ a → H b = none) → (∀ o, K.lookup a = some o → H a = none) →
      codeAny (model P w) callerA (.call (.ref fa) ⟨[.ref a], []⟩) (fun r s' => r = .ok (.ret (.bool true)) ∧ OldK s₁.heap s'.heap ∧ s'.os = s₁.os ∧ AllBare s'.gens) s₁ := by
    intro H hO hS hok oth own
    obtain ⟨kin, nm, e0⟩ := ground_of KX hns hb hbb hlim hg hok (fun b o es ep e d => oth b fun z => by rw [z, ha] at e; cases e; cases d) fun b o e => by
      by_cases z : b = a
      · subst z; exact own o e
      · exact oth b z
    exact law_runG (F _ kin nm) hr e0 hbind hO (hsp H hO hS) hCX
  have rv := vals_ints hi
  cases hk : K.lookup a with
  | some o =>
    have e := KX a o hk
    rw [ha] at e
    cases e
    exact go (fun _ => none) (fun _ => .inl rfl) (.inr ⟨_, vs.toArray, _, hk, rfl, rfl, rfl, by rw [List.size_toArray, hi.length]; exact hl, by simpa using rv⟩) (fun b u z => nomatch (show (none : Option HO) = some u from z)) (fun _ _ => rfl) fun _ _ => rfl
  | none =>
    refine go (upd (fun _ => none) a (.frz { cls := .type "list", data := .seq vs.toArray } (.lst (ns.map V.int)))) (fun b => ?_) (.inl (.inr ⟨_, upd_same⟩)) (fun b u z => ?_) (fun b h => upd_ne h) fun o z => by rw [hk] at z; cases z
    · by_cases h : b = a
      · subst h; exact .inr ⟨_, _, upd_same⟩
      · exact .inl (upd_ne h)
    · by_cases h : b = a
      · subst h
        rw [upd_same] at z
        cases z
        exact ⟨ha, by rw [List.length_map]; exact hl, vs, _, rv, ha⟩
      · rw [upd_ne h] at z
        cases z
end
theorem walk_ofG {l : PySem.W.OpenLaw} {n k : Nat} {q : Program} {loose : List Str} {XP : (Str → Option Value) → Heap → Prop} {YP : World → Heap → Prop} {d : DefRec} {CX : CXT} {x : Str}
    (hn : l.most = some n) (hn2 : n ≤ sizeLine) (hdf : d.params.defaults = []) (hr : RoomG k callerA)
    (F : ∀ (w : World) (mg : Str → Option Value) (fa : Addr) (h : Heap), YP w h → h.Ns mainGlobals mg → mg d.name = some (.ref fa) →
      ∃ (K : PySem.W.Frag) (fd : FuncData) (sp : Sp), K.In h ∧ (∀ (s : Shared) (u : Value), BindsTo s fd ⟨[u], []⟩ [(x, u)]) ∧
        (∀ (H : Hp) (a : Addr) (ns : List Int), ns.length ≤ n → Only H → SqL K H a (ns.map V.int) → sp [.ref a] H (fun v _ => v = .bl true) fun _ _ _ => False) ∧
        ∀ base : Heap, K.In base → base.Ns mainGlobals mg → FnG l.prog w K mg base CX k fa fd [x] sp)
    (hCX : ∀ (H : Hp) (s : Shared) (e : Value) (s' : Shared), CX [] H s (fun _ _ _ => False) e s' → False) :
    PySem.W.WalkO q loose XP YP l.row.toRowW d [] (fun f vs => PySem.call f vs) := by
  refine Att.attach_call hn hdf fun w s₀ s₁ mg mb fa o pm cd doc a vs ns G Y ho hd hcd hmg hobj hints hlen hg => ?_
  obtain ⟨K, fd, sp, KX, hb, hsp, hF⟩ := F w mg fa _ Y G.T.g hmg
  exact law_callG KX G.T.g G.T.b G.T.builtins G.T.nolimit hg hobj hints (Nat.le_trans hlen hn2) hr hF hb (fun H hO hS => hsp H a ns hlen hO hS) fun H e s' => hCX H s₁ e s'
end M

/-! ### the head's facts, own errors among them -/
namespace M
open PySem PySem.Spec PyProof.Rows L2
/-- a def, its closure's names told -/
structure DefX where
  at_ : Str × Option Str
  name : Str
  qual : Str
  params : Arguments
  body : List Stmt
  scope : Scope
  dfl : List He.Dv := []
  kwd : List (Str × He.Dv) := []
  clos : List Str := []
  via : Nat := 0
/-- a property's getter (1), a classmethod's def (2) -/
def viaA (K : PySem.W.Frag) : Nat → Addr → Addr
  | 0, a => a
  | 1, a => (match PySem.W.recIn K a "property" with
    | some (.ref g :: _) => g
    | _ => 0)
  | _, a => (match PySem.W.recIn K a "classmethod" with
    | some (.ref g :: _) => g
    | _ => 0)
def DefX.ad (K : PySem.W.Frag) (d : DefX) : Addr := viaA K d.via (He.fAd K d.at_)
abbrev FnX : Type := Option (Str × Str × Arguments × FuncBody × Scope × Addr × List Str × Addr)
def fnX (K : PySem.W.Frag) (p : Addr) : FnX := match K.lookup p with
  | some ⟨_, _, .func fd, _⟩ => some (fd.name, fd.qualname, fd.params, fd.body, fd.scope, fd.globals, fd.closure.map (·.1), fd.builtins)
  | _ => none
def DefX.val (d : DefX) : FnX := some (d.name, d.qual, d.params, .stmts d.body, d.scope, mainGlobals, d.clos, builtinsNs)
def DefX.dvs (K : PySem.W.Frag) (d : DefX) : List V := d.dfl.map (He.Dv.v K)
def DefX.kws (K : PySem.W.Frag) (d : DefX) : List (Str × V) := d.kwd.map fun q => (q.1, q.2.v K)
def DefX.ok (K : PySem.W.Frag) (d : DefX) : Bool := PySem.W.keepIn K (.ref (d.ad K)) && (match K.lookup (d.ad K) with
  | some ⟨_, _, .func fd, _⟩ => PySem.W.codeIn K fd.code d.qual && (He.dflB K fd.defaults (d.dvs K) && He.kwdB K fd.kwdefaults (d.kws K))
  | _ => false)
theorem DefX.look {K : PySem.W.Frag} {d : DefX} (e : fnX K (d.ad K) = d.val) (c : d.ok K = true) : PySem.W.keepIn K (.ref (d.ad K)) = true ∧ ∃ (oc : Value) (od : Option Addr) (cl : List (Str × Addr)) (dV kV doc pm : Value) (an : Option Addr) (cdv ct : Value) (osl : Array (Option Value)),
    K.lookup (d.ad K) = some ⟨oc, od, .func (PySem.W.fnX d.name d.qual d.params d.body d.scope cl dV kV doc pm an cdv ct), osl⟩ ∧ cl.map (·.1) = d.clos ∧ PySem.W.codeIn K cdv d.qual = true ∧ DflV K dV (d.dvs K) ∧ KwdV K kV (d.kws K) := by
  obtain ⟨kp, c2⟩ := He.ba c
  refine ⟨kp, ?_⟩
  unfold M.fnX at e
  cases q : K.lookup (d.ad K) with
  | none =>
    rw [q] at c2
    cases c2
  | some o =>
    obtain ⟨oc, od, dt, osl⟩ := o
    rw [q] at c2 e
    cases dt with
    | func fd =>
      obtain ⟨n1, n2, n3, n4, n5, n6, n7, n8, n9, n10, n11, n12, n13, n14, n15⟩ := fd
      have e2 : (some (n1, n2, n3, n4, n5, n6, n7.map (·.1), n15) : FnX) = some (d.name, d.qual, d.params, .stmts d.body, d.scope, mainGlobals, d.clos, builtinsNs) := e
      simp only [Option.some.injEq, Prod.mk.injEq] at e2
      obtain ⟨h1, h2, h3, h4, h5, h6, h7, h8⟩ := e2
      subst h1 h2 h3 h4 h5 h6 h8
      obtain ⟨k1, k2⟩ := He.ba (show (PySem.W.codeIn K n13 d.qual && (He.dflB K n8 (d.dvs K) && He.kwdB K n9 (d.kws K))) = true from c2)
      obtain ⟨k3, k4⟩ := He.ba k2
      exact ⟨oc, od, n7, n8, n9, n10, n11, n12, n13, n14, osl, rfl, h7, k1, He.dflB_ok k3, He.kwdB_ok k4⟩
    | _ => cases c2
theorem DefX.funD {K : PySem.W.Frag} {d : DefX} (e : fnX K (d.ad K) = d.val) (c : d.ok K = true) (h : d.clos = []) : ∃ fd, FunD K d.name d.qual d.params d.body d.scope (d.dvs K) (d.kws K) (d.ad K) fd := by
  obtain ⟨kp, oc, od, cl, dV, kV, doc, pm, an, cdv, ct, osl, lk, hc, h1, h2, h3⟩ := DefX.look e c
  rw [h] at hc
  obtain rfl : cl = [] := List.map_eq_nil_iff.mp hc
  exact ⟨_, ⟨oc, od, dV, kV, doc, pm, an, cdv, ct, osl, rfl, lk, h1, h2, h3⟩, kp⟩
abbrev FaX : Type := PySem.W.Frag → Bool
def asX (g : Addr → Option Obj) : Nat → List Addr
  | 0 => [mainGlobals, cStatics]
  | n + 1 => He.growD g (asX g n)
abbrev AlX : Type := Bool × List FnX
def obsX (fa : List FaX) (fn : List DefX) (K : PySem.W.Frag) : AlX := ((fa.all fun f => f K) && fn.all fun d => d.ok K, fn.map fun d => fnX K (d.ad K))
def valX (fn : List DefX) : AlX := (true, fn.map DefX.val)
def SaysX (fa : List FaX) (fn : List DefX) (K : PySem.W.Frag) : Prop := obsX fa fn K = valX fn
def obsXG (n : Nat) (fa : List FaX) (fn : List DefX) (g : Addr → Option Obj) : AlX := obsX fa fn (He.frG g (asX g n))
def hookX (n : Nat) (fa : List FaX) (fn : List DefX) : PySem.W.Hook where
  α := AlX
  obs := fun s => obsXG n fa fn s.heap.get?
  val := fun _ => valX fn
  says := fun _ h => ∃ K : PySem.W.Frag, K.In h ∧ SaysX fa fn K
  of := fun _ _ e => ⟨_, He.frG_in, e⟩
  keeps := fun _ _ _ ⟨K, hK, c⟩ k => ⟨K, PySem.W.Frag.In.keeps hK k, c⟩
theorem obsXG_eq {n : Nat} {fa : List FaX} {fn : List DefX} {g : Addr → Option Obj} {s : Shared} (h : ∀ a, g a = s.heap.get? a) : obsXG n fa fn g = (hookX n fa fn).obs s := by
  have e : g = s.heap.get? := funext h
  rw [e] <;> rfl
section
variable {fa : List FaX} {fn : List DefX} {K : PySem.W.Frag}
theorem SaysX.fact (c : SaysX fa fn K) (i : Nat) {f : FaX} (h : fa[i]? = some f := by rfl) : f K = true := by
  have c1 := (He.ba (show ((fa.all fun f => f K) && fn.all fun d => d.ok K) = true from congrArg (fun z : AlX => z.1) c)).1
  exact List.all_eq_true.mp c1 f (List.mem_of_getElem? h)
theorem SaysX.def0 (c : SaysX fa fn K) (i : Nat) {d : DefX} (h : fn[i]? = some d := by rfl) : fnX K (d.ad K) = d.val ∧ d.ok K = true := by
  have c2 := (He.ba (show ((fa.all fun f => f K) && fn.all fun d => d.ok K) = true from congrArg (fun z : AlX => z.1) c)).2
  have e : fn.map (fun d => fnX K (d.ad K)) = fn.map DefX.val := congrArg (fun z : AlX => z.2) c
  have e2 : (fn.map fun d => fnX K (d.ad K))[i]? = (fn.map DefX.val)[i]? := by rw [e]
  rw [List.getElem?_map, List.getElem?_map, h] at e2
  exact ⟨Option.some.inj e2, List.all_eq_true.mp c2 d (List.mem_of_getElem? h)⟩
theorem SaysX.def_ (c : SaysX fa fn K) (i : Nat) {d : DefX} (h : fn[i]? = some d := by rfl) (hc : d.clos = [] := by rfl) : ∃ fd, FunD K d.name d.qual d.params d.body d.scope (d.dvs K) (d.kws K) (d.ad K) fd :=
  DefX.funD (c.def0 i h).1 (c.def0 i h).2 hc
end
end M

namespace M
open PySem PySem.Spec PyProof.Rows L2 PySem.HandSPX
/-- the class at C is an own error class -/
def oexB (K : PySem.W.Frag) (C : Addr) : Bool := match K.lookup C with
  | some ⟨c, _, .cls cd, sl⟩ => decide (c = .type "type") && (cd.hasDict && (!cd.hasDel && (match cd.mro, sl.toList with
    | .ref C' :: bm, [_, _, _, _, some (.builtin n), _] => decide (C' = C) && (decide (n = "ValueError.__new__") && refsVE bm)
    | _, _ => false)))
  | _ => false
theorem oexB_ok {K : PySem.W.Frag} {C : Addr} (h : oexB K C = true) : ∃ nm q N bs bm sn sub ab col dd k0 k1 k2 k3 k5, K.lookup C = some (excClassObj nm q C N bs bm true sn sub ab col dd k0 k1 k2 k3 k5 "ValueError.__new__") ∧ refsVE bm = true := by
  unfold oexB at h
  split at h
  · rename_i c dd cd sl ho
    obtain ⟨h1, h⟩ := He.ba h
    obtain ⟨h2, h⟩ := He.ba h
    obtain ⟨h3, h⟩ := He.ba h
    split at h
    · rename_i C' bm k0 k1 k2 k3 n k5 hm hs
      obtain ⟨h4, h⟩ := He.ba h
      obtain ⟨h5, h6⟩ := He.ba h
      obtain ⟨nm, bs, mro, N, qn, hd, sn, sub, ab, col, del⟩ := cd
      obtain ⟨sl⟩ := sl
      have e3 : del = false := by simpa using h3
      have e2 : hd = true := h2
      have e1 := of_decide_eq_true h1
      have e4 := of_decide_eq_true h4
      have e5 := of_decide_eq_true h5
      dsimp only at hm hs
      subst e1 e2 e3 e4 e5 hm hs
      exact ⟨nm, qn, N, bs, bm, sn, sub, ab, col, dd, k0, k1, k2, k3, k5, ho, h6⟩
    · cases h
  · cases h
def cellB (P : Program) (K : PySem.W.Frag) (C : Addr) (f : Addr) : Bool := match K.lookup f with
  | some ⟨_, _, .func fd, _⟩ => (match fd.code with
    | .ref cda => (match K.lookup cda with
      | some ⟨_, _, .fields vs, _⟩ => (match (vs[2]? : Option Value) with
        | some (.str file _) => (P.main.file : Str) == file
        | _ => false)
      | _ => false)
    | _ => false) && (match fd.closure with
      | [(_, cc)] => (match K.lookup cc with
        | some ⟨_, _, .cell (some (.ref D)), _⟩ => decide (D = C)
        | _ => false)
      | _ => false)
  | _ => false
def exB (P : Program) (x fl : Str) (K : PySem.W.Frag) : Bool :=
  He.eqO (PySem.W.nsIn K mainGlobals x) (some (some (.ref (He.ga K x)))) && (oexB K (He.ga K x) && (He.eqO (PySem.W.findIn K (.ref (He.ga K x)) "__setattr__") (some (some (.builtin "object.__setattr__"))) &&
  (decide (PySem.W.subIn K (.ref (He.ga K x)) (.type "BaseException") = some true) && (decide (PySem.W.typeIn K (.ref (He.ga K x)) = some (.type "type")) && (PySem.W.keepIn K (.ref (He.ga K x)) &&
  (He.eqO (PySem.W.findIn K (.ref (He.ga K x)) "__getattribute__") (some (some (.builtin "BaseException.__getattribute__"))) && (He.eqO (PySem.W.findIn K (.ref (He.ga K x)) "__getattr__") (some none) && (He.eqO (PySem.W.findIn K (.ref (He.ga K x)) fl) (some none) &&
  (PySem.W.hasDictIn K (He.ga K x) && (He.eqO (PySem.W.findIn K (.ref (He.ga K x)) "__init__") (some (some (.ref (He.ma K (He.ga K x) "__init__")))) && (decide (PySem.W.typeIn K (.ref (He.ma K (He.ga K x) "__init__")) = some (.type "function")) &&
  (cellB P K (He.ga K x) (He.ma K (He.ga K x) "__init__") && (He.eqO (PySem.W.nsIn K cStatics "thirdparty.any") (some none) && (He.eqO (PySem.W.ks_superIn K (He.ga K x) (He.ga K x) "__init__") (some (some (.builtin "ValueError.__init__"))) &&
  (decide (PySem.W.mroIn K (He.ga K x) (.ref (He.ga K x)) = some true) && (decide (PySem.W.subIn K (.ref (He.ga K x)) (.type "ValueError") = some true) && (He.eqO (PySem.W.findIn K (.ref (He.ga K x)) "__class__") (some (some (.builtin "object.__class__"))) &&
  (He.eqO (PySem.W.nsIn K mainGlobals "super") (some none) && decide (PySem.W.mroIn K (He.ga K x) (.type "object") = some true)))))))))))))))))))
theorem ex_get {K : PySem.W.Frag} : PySem.W.specialIn K (.builtin "object.__class__") "__get__" = some (some (.builtin "getset_descriptor.__get__")) ∧ PySem.W.takesIn K (.builtin "object.__class__") = some true := by
  constructor
  · kernel_rfl
  · kernel_rfl
section
variable {P : Program} {w : World} {K : PySem.W.Frag} {h : Heap} {mg : Str → Option Value} {x fl : Str}
theorem cell_of {C f : Addr} {oc : Value} {od : Option Addr} {osl : Array (Option Value)} {fd : FuncData} (lk : K.lookup f = some ⟨oc, od, .func fd, osl⟩) (c : cellB P K C f = true) :
    (∃ (cda : Addr), fd.code = .ref cda ∧ ∃ (ccl : Value) (cdd : Option Addr) (vs : Array Value) (ccs : Array (Option Value)) (file : Str) (tf : Tok), K.lookup cda = some ⟨ccl, cdd, .fields vs, ccs⟩ ∧ vs[2]? = some (.str file tf) ∧ ((P.main.file : Str) == file) = true) ∧
    ∃ (n : Str) (cc : Addr), fd.closure = [(n, cc)] ∧ ∃ (cl : Value) (cld : Option Addr) (csl : Array (Option Value)), K.lookup cc = some ⟨cl, cld, .cell (some (.ref C)), csl⟩ := by
  unfold cellB at c
  rw [lk] at c
  obtain ⟨c1, c2⟩ := He.ba c
  constructor
  · split at c1
    · rename_i cda e1
      split at c1
      · rename_i ccl cdd vs ccs e2
        split at c1
        · rename_i file tf e3
          exact ⟨cda, e1, ccl, cdd, vs, ccs, file, tf, e2, e3, c1⟩
        · cases c1
      · cases c1
    · cases c1
  · split at c2
    · rename_i n cc e1
      split at c2
      · rename_i cl cld D csl e2
        have e := of_decide_eq_true c2
        subst e
        exact ⟨n, cc, e1, cl, cld, csl, e2⟩
      · cases c2
    · cases c2
theorem ex_of {q : List Pos} {d : DefX} {ar : Arg} (X : K.In h) (G : h.Ns mainGlobals mg) (c : exB P x fl K = true) (D : fnX K (d.ad K) = d.val ∧ d.ok K = true) (hat : d.at_ = (x, some ("__init__" : Str))) (hn : d.name = "__init__") (hcl : d.clos = [("__class__" : Str)]) (hdf : d.dfl = [.non])
    (hb : d.body = eiB fl q) (hp : (d.params.posonlyargs ++ d.params.args).head? = some ar) (har : ar.arg = "self") (hsf : fl ≠ "self") (hdb : (fl == ("__debug__" : Str)) = false)
    (k1 : d.scope.kind = .function) (k2 : d.scope.isGenerator = false) (k3 : d.scope.isCoroutine = false) (k4 : d.scope.names.lookup ("self" : Str) = some .local) (k5 : d.scope.names.lookup fl = some .local) (k6 : d.scope.names.lookup ("super" : Str) = some .globalImplicit)
    (k7 : d.scope.names.lookup ("__class__" : Str) = some .free) (k8 : ∀ x ∈ d.scope.names, x.2 ≠ .cell) (htop : (P.main.scope.names.lookup ("super" : Str)).isSome = false)
    (hint : ∀ env : Env, env.scope = d.scope → interactive env = false)
    (hev : ∀ env : Env, env.scope = d.scope → ∃ pl : Sem Bool, eval (.Call (.Attribute (.Call (.Name "super" (qp q 0)) [] [] (qp q 1)) "__init__" (qp q 2)) [.Name fl (qp q 3)] [] (qp q 4)) env = (do
      let ov ← attributeBase (.Call (.Name "super" (qp q 0)) [] [] (qp q 1)) "__init__" env (eval (.Call (.Name "super" (qp q 0)) [] [] (qp q 1)) env)
      standAt (qp q 2).atName
      let (f, first) ← holding [ov] (getMethod ov "__init__" pl)
      callWith (qp q 4) f first (backTo (qp q 4) (starEach [.Name fl (qp q 3)] env)) []))
    (hsw : ∀ env : Env, env.scope = d.scope → swapsWith (.Name fl (qp q 8)) (some (.Attribute (.Name "self" (qp q 6)) fl (qp q 7))) (qp q 9).line env = pure false)
    (hb2 : ∀ (T : Addr) (cl : List (Str × Addr)) (kV doc pm : Value) (an : Option Addr) (cdv ct u v : Value), ∃ k, bindArgs (PySem.W.fnX d.name d.qual d.params d.body d.scope cl (.ref T) kV doc pm an cdv ct) ⟨[u, v], []⟩ = seqItems? (.ref T) >>= k ∧ k (some #[.none]) = pure [(("self" : Str), u), (fl, v)])
    (hb1 : ∀ (T : Addr) (cl : List (Str × Addr)) (kV doc pm : Value) (an : Option Addr) (cdv ct u : Value), ∃ k, bindArgs (PySem.W.fnX d.name d.qual d.params d.body d.scope cl (.ref T) kV doc pm an cdv ct) ⟨[u], []⟩ = seqItems? (.ref T) >>= k ∧ k (some #[.none]) = pure [(("self" : Str), u), (fl, .none)])
    (hbk : ∀ (T : Addr) (cl : List (Str × Addr)) (kV doc pm : Value) (an : Option Addr) (cdv ct u v : Value), ∃ k, bindArgs (PySem.W.fnX d.name d.qual d.params d.body d.scope cl (.ref T) kV doc pm an cdv ct) ⟨[u], [(fl, v)]⟩ = seqItems? (.ref T) >>= k ∧ k (some #[.none]) = pure [(("self" : Str), u), (fl, v)]) (hv : d.via = 0 := by rfl) :
    ExcAt P w K mg x fl (He.ga K x) ∧ ExcK K fl (He.ga K x) := by
  unfold exB at c
  simp only [Bool.and_eq_true, decide_eq_true_eq] at c
  obtain ⟨c1, c2, c3, c4, c5, c6, c7, c8, c9, c10, c11, c12, c13, c14, c15, c16, c17, c18, c19, c20⟩ := c
  have T : OexC K (He.ga K x) := ⟨oexB_ok c2, He.eqO_ok c3, c4, c5, c6⟩
  have hsup := PySem.W.mg_none_of X G (He.eqO_ok c19)
  obtain ⟨_, oc, od, cl, dV, kV, doc, pm, an, cdv, ct, osl, lk, hc, hcode, hD, _⟩ := DefX.look D.1 D.2
  have hf : d.ad K = He.ma K (He.ga K x) "__init__" := by unfold DefX.ad; rw [hat, hv]; rfl
  rw [hf] at lk
  obtain ⟨⟨cda, e1, z1⟩, n, cc, e2, z2⟩ := cell_of lk c13
  obtain rfl : cdv = .ref cda := e1
  obtain rfl : cl = [(n, cc)] := e2
  rw [hcl] at hc
  obtain rfl : n = "__class__" := by simpa using hc
  have hdv : d.dvs K = [.non] := by unfold DefX.dvs; rw [hdf]; rfl
  rw [hdv] at hD
  rcases hD with ⟨z, _⟩ | ⟨_, Ta, oT, its, nT, rfl, lT, hT, rT⟩
  · cases z
  obtain ⟨u0, rfl, ru⟩ := vals_one rT
  obtain rfl : u0 = .none := ru
  have bnd : ∀ {args : Args} {r : List (Str × Value)}, (∃ k, bindArgs (PySem.W.fnX d.name d.qual d.params d.body d.scope [("__class__", cc)] (.ref Ta) kV doc pm an (.ref cda) ct) args = seqItems? (.ref Ta) >>= k ∧ k (some #[.none]) = pure r) → ∀ s : Shared, K.In s.heap →
      BindsTo s (PySem.W.fnX d.name d.qual d.params d.body d.scope [("__class__", cc)] (.ref Ta) kV doc pm an (.ref cda) ct) args r := by
    rintro args r ⟨k, e1, e2⟩ s KX
    refine BindsTo.of_looks fun M => ?_
    rw [e1]
    exact looks_items KX lT hT (.of_pure e2)
  refine ⟨⟨PySem.W.mg_of X G (He.eqO_ok c1), T, He.eqO_ok c7, He.eqO_ok c8, He.eqO_ok c9, c10, He.ma K (He.ga K x) "__init__", _, He.eqO_ok c11, c12, ?_, fun s u v KX => bnd (hb2 _ _ _ _ _ _ _ _ _ _) s KX, fun s u KX => bnd (hb1 _ _ _ _ _ _ _ _ _) s KX, fun s u v KX => bnd (hbk _ _ _ _ _ _ _ _ _ _) s KX⟩,
    ⟨He.eqO_ok c7, He.eqO_ok c8, He.eqO_ok c9, c10, c4, He.eqO_ok c18, ex_get.1, ex_get.2, c20⟩⟩
  intro A R s args x' t0 v KX lim Gs Bs hx hnx hroom hbind hq
  obtain ⟨mb, B1, B2⟩ := Bs
  rw [hn, hb] at lk hbind
  exact ini_run (mg := mg) (mb := mb) KX lim Gs B1 hsup ((B2 _ (by decide)).trans ve_slot) T (He.eqO_ok c9) lk hcode z1 z2 hp har hsf hdb k1 k2 k3 k4 k5 k6 k7 k8 htop (He.eqO_ok c14) (He.eqO_ok c15) c16 c17 hint hev hsw hx hnx hroom hbind hq
end
end M

namespace M
open PySem PySem.Spec PyProof.Rows L2
section
variable {X : Cx} {k : Nat} {ps : List Str} {sp : Sp} {dvs : List V} {W : WX} {x : Str} {p pos : Pos} {e : Expr} {es : List Expr} {t : TA}
theorem me_callS (C : CalG X.prog X.w X.K X.mg X.base (L2.CX X.prog X.w) x k ps dvs sp) (hr : RoomG k X.A) (hg : Gl X x) (tk : Takes X W) (ha : PA X (e :: es) t) (hdb : (x == ("__debug__" : Str)) = false := by decide)
    (he : starEach (e :: es) X.env = (false, eval e X.env) :: starEach es X.env := by rfl) (hpl : (backTo pos (starEach es X.env)).any (·.1) = false := by rfl) : PE X (.Call (.Name x p) (e :: es) [] pos) (tCallSD sp dvs (WE W) t) := by
  obtain ⟨f, fd, ds, F, hm, hk, hb, hd⟩ := C.ex
  refine ⟨fun pins s σ H Q I h => wpAny_Call_Name_kw (ld_glob I hg hm (PySem.W.callWith_K (h₀ := X.base) I.ok.mod.kin hk (thn (ha.run pos pins s σ H _ I h) fun us s1 ⟨vs, H1, I1, r, q⟩ => ⟨I1.kIn, ?_⟩) he hpl) hdb)⟩
  have r2 : Vals (vs ++ dvs) (us ++ ds) := r.append hd
  refine wpAny_call (codeAny_mono (F.run X.A X.stack s1 H1 ⟨us, []⟩ (us ++ ds) (vs ++ dvs) Q (WE W σ) hr I1.env0 (hb s1 us I1.kIn (r2.length.symm.trans (F.len _ _ _ _ q))) r2 q) fun r s' hq => ?_)
  rcases r with er | fl
  · exact passAt tk σ pins H1 s1 er s' I1 hq
  · cases fl with
    | ret u => exact I1.after hq
    | next => exact False.elim hq
    | brk => exact False.elim hq
    | cont => exact False.elim hq
theorem me_callG0 {CX : CXT} {E : XK} (C : CalG X.prog X.w X.K X.mg X.base CX x k ps dvs sp) (hr : RoomG k X.A) (hg : Gl X x) (hx : Passes CX X E) (hdb : (x == ("__debug__" : Str)) = false := by decide) : PE X (.Call (.Name x p) [] [] pos) (tCall sp dvs E tNil) := by
  obtain ⟨f, fd, ds, F, hm, hk, hb, hd⟩ := C.ex
  refine ⟨fun pins s σ H Q I h => wpAny_Call_Name_kw (ld_glob I hg hm (PySem.W.callWith_K0 I.kIn hk ?_) hdb)⟩
  refine wpAny_call (codeAny_mono (F.run X.A X.stack s H ⟨[], []⟩ ([] ++ ds) ([] ++ dvs) Q E hr I.env0 (hb s [] I.kIn (hd.length.symm.trans (F.len _ _ _ _ h))) hd h) fun r s' hq => ?_)
  rcases r with er | fl
  · exact hx pins σ H s er s' I hq
  · cases fl with
    | ret u => exact I.after hq
    | next => exact False.elim hq
    | brk => exact False.elim hq
    | cont => exact False.elim hq
theorem CalG.mono {P : Program} {w : World} {K : PySem.W.Frag} {mg : Str → Option Value} {base : Heap} {CX : CXT} {x : Str} {k j : Nat} {ps : List Str} {dvs : List V} {sp : Sp} (C : CalG P w K mg base CX x k ps dvs sp) (h : k ≤ j) : CalG P w K mg base CX x j ps dvs sp := by
  obtain ⟨f, fd, ds, F, r⟩ := C.ex
  exact ⟨f, fd, ds, F.mono h, r⟩
end
end M
namespace M
open PySem PySem.Spec PyProof.Rows L2
/-- no error is wished for: none comes -/
theorem passF {X : Cx} : Passes (L2.CX X.prog X.w) X E0 := fun _ _ _ _ _ _ _ c => by
  obtain ⟨_, _, _, _, _, _, _, _, _, _, _, _, z⟩ := c
  exact z.elim
end M

namespace M
open PySem PySem.Spec PyProof.Rows L2
/-- (a, b, ..) = a tuple or a list -/
def mgSeq (K : PySem.W.Frag) (n : Nat) (t : TGs) : TG := fun v σ H Q => match v with
  | .ref a => ∃ xs, (SqT K H a xs ∨ SqL K H a xs) ∧ xs.length = n ∧ t xs σ H Q
  | _ => False
theorem mg_seq {X : Cx} {es : List Expr} {k : Nat} {t : TGs} {n : Nat} {pos : Pos} (hc : X.calm = true) (h : PGs X es t)
    (hn : (assignEach es X.env).length = n := by rfl) (hst : (assignEach es X.env).findIdx? (·.1) = none := by rfl) : PG X (.Tuple es k pos) (mgSeq X.K n t) := by
  refine ⟨fun pins s σ H v u Q I r q => ?_⟩
  unfold mgSeq at q
  split at q
  · obtain ⟨xs, h1 | h1, h2, h3⟩ := q
    · exact (pg_tup hc h hn hst).run pins s σ H _ u Q I r ⟨_, xs, rfl, h1, h2, h3⟩
    · exact (pg_unl hc h hn hst).run pins s σ H _ u Q I r ⟨_, xs, rfl, h1, h2, h3⟩
  · exact q.elim
end M

/-! ### comprehensions with two clauses; sorted texts -/
namespace M
open PySem PySem.Spec PyProof.Rows L2
section
variable {X : Cx}
/-- sorted(l), l a list of texts of any length -/
def mSorted (K : PySem.W.Frag) : List V → Hp → VK → Prop := fun vs H Q => match vs with
  | [.ref a] => ∃ xs : List Str, SqL K H a (xs.map V.str) ∧ ∀ (ys : List Str) (p : Addr), ys.Perm xs → sortedS ys = true → H p = none → Q (.ref p) (upd H p (.lst (ys.map V.str)))
  | _ => False
theorem call_sortedM : CallR X (.builtin "sorted") (mSorted X.K) := by
  intro pins s σ H vs us Q I r h
  unfold mSorted at h
  split at h
  · rename_i a
    obtain ⟨xs, hs, q⟩ := h
    obtain ⟨its, rv, hl, hz⟩ := I.list hs
    rw [Vals.ref1 r]
    refine PyProof.Rows.sorted_strsAny hl.isList rv.strs (by rw [← rv.length]; exact hz) fun out ys h1 h2 h3 => ?_
    obtain ⟨ep, he'⟩ := PyProof.Rows.sortedAll_at s.heap its out
    have hlen : (ys.map V.str).length ≤ sizeLine := by
      rw [List.length_map, h2.length_eq]
      rw [List.length_map] at hz
      exact hz
    exact ⟨.ref _, upd H (s.heap.objs.size + 1) (.lst (ys.map V.str)), I.laid (t' := s.toks) (fun _ _ => PyProof.Rows.sortedAll_old) (Nat.le_succ _) ⟨hlen, out.toList, ep, vals_of_strs h1, he'⟩, rfl, q ys _ h2 h3 (I.hok.fresh (Nat.le_succ _))⟩
  · exact h.elim
end
/-- what a clause's source hands on -/
def inner (s : Src) (g1 : TG) (tt1 : TT) (te : TE) (vs1 : List Nat) (τ : Sl) (D : Addr) (N : Hp → Prop) (H : Hp) : Prop := match s with
  | .v G L => cV G g1 tt1 te vs1 τ D N L H
  | .p G L => cP G g1 tt1 te vs1 τ D N L H
def dV (G : Hp → Prop) (g : TG) (tt : TT) (wi1 : MI) (g1 : TG) (tt1 : TT) (te : TE) (vs vs1 : List Nat) (τ : Sl) (D : Addr) (Q : Hp → Prop) : List V → Hp → Prop
  | [], H => G H ∧ Q H
  | x :: r, H => G H ∧ g x τ H fun σ2 H2 => wipe σ2 vs = τ ∧ tt σ2 H2 fun b H3 => if b = true then wi1 σ2 H3 fun s H4 => inner s g1 tt1 te vs1 (wipe σ2 vs1) D (dV G g tt wi1 g1 tt1 te vs vs1 τ D Q r) H4 else dV G g tt wi1 g1 tt1 te vs vs1 τ D Q r H3
def dP (G : Hp → Prop) (g : TG) (tt : TT) (wi1 : MI) (g1 : TG) (tt1 : TT) (te : TE) (vs vs1 : List Nat) (τ : Sl) (D : Addr) (Q : Hp → Prop) : List (V × V) → Hp → Prop
  | [], H => G H ∧ Q H
  | x :: r, H => G H ∧ ∀ T, H T = none → g (.ref T) τ (upd H T (.tup [x.1, x.2])) fun σ2 H2 => wipe σ2 vs = τ ∧ tt σ2 H2 fun b H3 => if b = true then wi1 σ2 H3 fun s H4 => inner s g1 tt1 te vs1 (wipe σ2 vs1) D (dP G g tt wi1 g1 tt1 te vs vs1 τ D Q r) H4 else dP G g tt wi1 g1 tt1 te vs vs1 τ D Q r H3
def mLc2 (wi : MI) (g : TG) (tt : TT) (wi1 : MI) (g1 : TG) (tt1 : TT) (te : TE) (vs vs1 : List Nat) : TE := fun σ H Q => wi σ H fun s H1 => ∀ D, H1 D = none → match s with
  | .v G L => dV G g tt wi1 g1 tt1 te vs vs1 (wipe σ vs) D (Q (.ref D)) L (upd H1 D (.lst []))
  | .p G L => dP G g tt wi1 g1 tt1 te vs vs1 (wipe σ vs) D (Q (.ref D)) L (upd H1 D (.lst []))
/-- the second source's own loop, over what feeds -/
theorem inner_W {J : It} {s : Src} (f : Feeds J s) {g1 : TG} {tt1 : TT} {te : TE} {vs1 : List Nat} {σ2 : Sl} {D : Addr} {N : Hp → Prop} {H4 : Hp} (z : inner s g1 tt1 te vs1 (wipe σ2 vs1) D N H4) :
    ∃ W1 : Nat → Nat → Hp → Prop, (∃ m, W1 0 m H4) ∧ ∀ j k H, W1 j k H →
      (J.stop j H ∧ N H) ∨ (J.go j H ∧ ∃ Nx1 : Hp → Prop, (∀ H', Nx1 H' → ∃ k', k' < k ∧ W1 (j + 1) k' H') ∧ ∀ x H', J.yld j H x H' → g1 x (wipe σ2 vs1) H' fun σ3 H5 => wipe σ3 vs1 = wipe σ2 vs1 ∧ tt1 σ3 H5 fun b H6 =>
        if b = true then te σ3 H6 fun y H7 => ∃ acc, H7 D = some (.lst acc) ∧ acc.length < sizeLine ∧ Nx1 (upd H7 D (.lst (acc ++ [y]))) else Nx1 H6) := by
  cases s with
  | v G L =>
    have w : Walk J L.length G (YAt L) := f
    refine ⟨fun i m H => m = L.length - i ∧ i ≤ L.length ∧ cV G g1 tt1 te vs1 (wipe σ2 vs1) D N (L.drop i) H, ⟨_, rfl, Nat.zero_le _, z⟩, ?_⟩
    rintro i m H ⟨rfl, hi, p⟩
    by_cases hlt : i < L.length
    · refine .inr ⟨w.goes i H hlt (cV_G p), fun H' => cV G g1 tt1 te vs1 (wipe σ2 vs1) D N (L.drop (i + 1)) H', fun H' p' => ⟨L.length - (i + 1), by omega, rfl, hlt, p'⟩, fun x H' y => ?_⟩
      obtain ⟨e, hx⟩ := w.yields i H x H' hlt (cV_G p) y
      subst e
      rw [drop_at hx] at p
      exact p.2
    · have e : i = L.length := by omega
      subst e
      refine .inl ⟨w.stops H (cV_G p), ?_⟩
      rw [List.drop_length] at p
      exact p.2
  | p G L =>
    have w : Walk J L.length G (YPair (fun i => L[i]?.map (·.1)) (fun i => L[i]?.map (·.2))) := f
    refine ⟨fun i m H => m = L.length - i ∧ i ≤ L.length ∧ cP G g1 tt1 te vs1 (wipe σ2 vs1) D N (L.drop i) H, ⟨_, rfl, Nat.zero_le _, z⟩, ?_⟩
    rintro i m H ⟨rfl, hi, p⟩
    by_cases hlt : i < L.length
    · refine .inr ⟨w.goes i H hlt (cP_G p), fun H' => cP G g1 tt1 te vs1 (wipe σ2 vs1) D N (L.drop (i + 1)) H', fun H' p' => ⟨L.length - (i + 1), by omega, rfl, hlt, p'⟩, fun x H' y => ?_⟩
      obtain ⟨T, a, b, e1, e2, e3, e4, e5⟩ := w.yields i H x H' hlt (cP_G p) y
      subst e1 e3
      have hx : L[i]? = some L[i] := List.getElem?_eq_getElem hlt
      rw [drop_at hx] at p
      have q := p.2 T e2
      have e4' : L[i]?.map (·.1) = some a := e4
      have e5' : L[i]?.map (·.2) = some b := e5
      rw [hx] at e4' e5'
      cases e4'
      cases e5'
      exact q
    · have e : i = L.length := by omega
      subst e
      refine .inl ⟨w.stops H (cP_G p), ?_⟩
      rw [List.drop_length] at p
      exact p.2
theorem dV_G {G : Hp → Prop} {g : TG} {tt : TT} {wi1 : MI} {g1 : TG} {tt1 : TT} {te : TE} {vs vs1 : List Nat} {τ : Sl} {D : Addr} {Q : Hp → Prop} {L : List V} {H : Hp} (h : dV G g tt wi1 g1 tt1 te vs vs1 τ D Q L H) : G H := by
  cases L <;> exact h.1
theorem dP_G {G : Hp → Prop} {g : TG} {tt : TT} {wi1 : MI} {g1 : TG} {tt1 : TT} {te : TE} {vs vs1 : List Nat} {τ : Sl} {D : Addr} {Q : Hp → Prop} {L : List (V × V)} {H : Hp} (h : dP G g tt wi1 g1 tt1 te vs vs1 τ D Q L H) : G H := by
  cases L <;> exact h.1
def clG (g : TG) : TG := fun v σ H Q => ∃ Q' : Sl → Hp → Prop, g v σ H Q' ∧ ∀ σ' H', Q' σ' H' → Q σ' H'
theorem pg_cl {X : Cx} {e : Expr} {g : TG} (h : PG X e g) : PG X e (clG g) := ⟨fun pins s σ H v u Q I r ⟨Q', q, w⟩ => thn (h.run pins s σ H v u Q' I r q) fun _ _ ⟨σ', H', I', z⟩ => ⟨σ', H', I', w _ _ z⟩⟩
theorem pts_cl {X : Cx} {es : List Expr} {t : TT} (h : PTs X es t) : PTs X es (clT t) := ⟨fun pins s σ H Q I ⟨Q', q, w⟩ => thn (h.run pins s σ H Q' I q) fun _ _ ⟨H', I', z⟩ => ⟨H', I', w _ H' z⟩⟩
theorem lc2_toM {wi : MI} {g : TG} {tt : TT} {wi1 : MI} {g1 : TG} {tt1 : TT} {te : TE} {vs vs1 : List Nat} {σ : Sl} {H : Hp} {Q : VK} (q : mLc2 wi g tt wi1 g1 tt1 te vs vs1 σ H Q) : tLc2 (toTI wi) (clG g) (clT tt) (toTI wi1) g1 tt1 te vs vs1 σ H Q :=
  ⟨_, q, fun s H1 J z f D hD => by
    have z := z D hD
    have nxt : ∀ {N : Hp → Prop} {σ2 : Sl} {H3 : Hp} {b : Bool} (q : if b = true then wi1 σ2 H3 fun s H4 => inner s g1 tt1 te vs1 (wipe σ2 vs1) D N H4 else N H3),
        if b = true then toTI wi1 σ2 H3 fun J1 H4 => ∃ W1 : Nat → Nat → Hp → Prop, (∃ m, W1 0 m H4) ∧ ∀ j k H, W1 j k H →
          (J1.stop j H ∧ N H) ∨ (J1.go j H ∧ ∃ Nx1 : Hp → Prop, (∀ H', Nx1 H' → ∃ k', k' < k ∧ W1 (j + 1) k' H') ∧ ∀ x H', J1.yld j H x H' → g1 x (wipe σ2 vs1) H' fun σ3 H5 => wipe σ3 vs1 = wipe σ2 vs1 ∧ tt1 σ3 H5 fun b H6 =>
            if b = true then te σ3 H6 fun y H7 => ∃ acc, H7 D = some (.lst acc) ∧ acc.length < sizeLine ∧ Nx1 (upd H7 D (.lst (acc ++ [y]))) else Nx1 H6) else N H3 := fun {N σ2 H3 b} q => by
      cases b with
      | false => exact q
      | true => exact ⟨_, q, fun s1 H4 J1 z1 f1 => inner_W f1 z1⟩
    cases s with
    | v G L =>
      have w : Walk J L.length G (YAt L) := f
      refine ⟨fun i m H => m = L.length - i ∧ i ≤ L.length ∧ dV G g tt wi1 g1 tt1 te vs vs1 (wipe σ vs) D (Q (.ref D)) (L.drop i) H, ⟨_, rfl, Nat.zero_le _, z⟩, ?_⟩
      rintro i m H ⟨rfl, hi, p⟩
      by_cases hlt : i < L.length
      · refine .inr ⟨w.goes i H hlt (dV_G p), fun H' => dV G g tt wi1 g1 tt1 te vs vs1 (wipe σ vs) D (Q (.ref D)) (L.drop (i + 1)) H', fun H' p' => ⟨L.length - (i + 1), by omega, rfl, hlt, p'⟩, fun x H' y => ?_⟩
        obtain ⟨e, hx⟩ := w.yields i H x H' hlt (dV_G p) y
        subst e
        rw [drop_at hx] at p
        exact ⟨_, p.2, fun σ2 H2 h => ⟨h.1, _, h.2, fun b H3 h => nxt h⟩⟩
      · have e : i = L.length := by omega
        subst e
        refine .inl ⟨w.stops H (dV_G p), ?_⟩
        rw [List.drop_length] at p
        exact p.2
    | p G L =>
      have w : Walk J L.length G (YPair (fun i => L[i]?.map (·.1)) (fun i => L[i]?.map (·.2))) := f
      refine ⟨fun i m H => m = L.length - i ∧ i ≤ L.length ∧ dP G g tt wi1 g1 tt1 te vs vs1 (wipe σ vs) D (Q (.ref D)) (L.drop i) H, ⟨_, rfl, Nat.zero_le _, z⟩, ?_⟩
      rintro i m H ⟨rfl, hi, p⟩
      by_cases hlt : i < L.length
      · refine .inr ⟨w.goes i H hlt (dP_G p), fun H' => dP G g tt wi1 g1 tt1 te vs vs1 (wipe σ vs) D (Q (.ref D)) (L.drop (i + 1)) H', fun H' p' => ⟨L.length - (i + 1), by omega, rfl, hlt, p'⟩, fun x H' y => ?_⟩
        obtain ⟨T, a, b, e1, e2, e3, e4, e5⟩ := w.yields i H x H' hlt (dP_G p) y
        subst e1 e3
        have hx : L[i]? = some L[i] := List.getElem?_eq_getElem hlt
        rw [drop_at hx] at p
        have q := p.2 T e2
        have e4' : L[i]?.map (·.1) = some a := e4
        have e5' : L[i]?.map (·.2) = some b := e5
        rw [hx] at e4' e5'
        cases e4'
        cases e5'
        exact ⟨_, q, fun σ2 H2 h => ⟨h.1, _, h.2, fun b H3 h => nxt h⟩⟩
      · have e : i = L.length := by omega
        subst e
        refine .inl ⟨w.stops H (dP_G p), ?_⟩
        rw [List.drop_length] at p
        exact p.2⟩
section
variable {X : Cx}
theorem me_lc2 {elt tg iter tg1 iter1 : Expr} {ifs ifs1 : List Expr} {scope : Scope} {own : List (Str × Nat)} {vs1 : List Nat} {pos : Pos} {wi wi1 : MI} {g g1 : TG} {tt tt1 : TT} {te : TE} (hc : X.calm = true) (hN : X.N.Nodup) (hi : PI X tg iter (toTI wi)) (ok : BlkOk X.N X.env.scope scope own) (hv : ∀ i ∈ vs1, i ∈ own.map (·.2))
    (hg : ∀ (s : Shared) (H : Hp) (C : Addr) (cl : List (Str × Addr)) (fp : List Addr), PG (X.blk s H scope (compEnvC scope cl C X.env) fp) tg g) (ht : ∀ (s : Shared) (H : Hp) (C : Addr) (cl : List (Str × Addr)) (fp : List Addr), PTs (X.blk s H scope (compEnvC scope cl C X.env) fp) ifs tt)
    (hi1 : ∀ (s : Shared) (H : Hp) (C : Addr) (cl : List (Str × Addr)) (fp : List Addr), PI (X.blk s H scope (compEnvC scope cl C X.env) fp) tg1 iter1 (toTI wi1))
    (hg1 : ∀ (s : Shared) (H : Hp) (C : Addr) (cl : List (Str × Addr)) (fp : List Addr), PG (X.blk s H scope (compEnvC scope cl C X.env) fp) tg1 g1) (ht1 : ∀ (s : Shared) (H : Hp) (C : Addr) (cl : List (Str × Addr)) (fp : List Addr), PTs (X.blk s H scope (compEnvC scope cl C X.env) fp) ifs1 tt1)
    (he : ∀ (s : Shared) (H : Hp) (C : Addr) (cl : List (Str × Addr)) (fp : List Addr), PE (X.blk s H scope (compEnvC scope cl C X.env) fp) elt te) (hs : ∀ x, foldedSetIterable iter X.env x = pure x := by intro _; rfl) (hs1 : ∀ env x, foldedSetIterable iter1 env x = pure x := by intro _ _; rfl) :
    PE X (.ListComp elt [⟨tg, iter, ifs, 0⟩, ⟨tg1, iter1, ifs1, 0⟩] scope pos) (mLc2 wi g tt wi1 g1 tt1 te (own.map (·.2)) vs1) :=
  pe_imp (pe_lc2 hc hN hi ok hv (fun s H C cl fp => pg_cl (hg s H C cl fp)) (fun s H C cl fp => pts_cl (ht s H C cl fp)) hi1 hg1 ht1 he hs hs1) fun σ H Q q => lc2_toM q
end
end M

/-! ### [f, g, ..][i](a, ..): one of several defs is called -/
namespace M
open PySem PySem.Spec PyProof.Rows L2
/-- the def at an address, as a value and called -/
structure CalV (P : Program) (w : World) (K : PySem.W.Frag) (mg : Str → Option Value) (base : Heap) (CX : CXT) (x : Str) (k : Nat) (ps : List Str) (sp : Sp) (a : Addr) : Prop where
  g : mg x = some (.ref a)
  ex : ∃ fd, FnG P w K mg base CX k a fd ps sp ∧ PySem.W.keepIn K (.ref a) = true ∧ Binds K fd ps []
theorem CalV.mono {P : Program} {w : World} {K : PySem.W.Frag} {mg : Str → Option Value} {base : Heap} {CX : CXT} {x : Str} {k j : Nat} {ps : List Str} {sp : Sp} {a : Addr} (C : CalV P w K mg base CX x k ps sp a) (h : k ≤ j) : CalV P w K mg base CX x j ps sp a := by
  obtain ⟨fd, F, r⟩ := C.ex
  exact ⟨C.g, fd, F.mono h, r⟩
/-- what may be called -/
inductive May (P : Program) (w : World) (K : PySem.W.Frag) (mg : Str → Option Value) (base : Heap) (CX : CXT) (k : Nat) : List (V × Sp) → Prop
  | nil : May P w K mg base CX k []
  | cons {x : Str} {ps : List Str} {sp : Sp} {a : Addr} {r : List (V × Sp)} : CalV P w K mg base CX x k ps sp a → May P w K mg base CX k r → May P w K mg base CX k ((.ref a, sp) :: r)
theorem May.get {P : Program} {w : World} {K : PySem.W.Frag} {mg : Str → Option Value} {base : Heap} {CX : CXT} {k : Nat} {fs : List (V × Sp)} (m : May P w K mg base CX k fs) {p : V × Sp} (h : p ∈ fs) : ∃ x ps a, p.1 = .ref a ∧ CalV P w K mg base CX x k ps p.2 a := by
  induction m with
  | nil => cases h
  | cons c _ ih =>
    rcases List.mem_cons.mp h with rfl | h
    · exact ⟨_, _, _, rfl, c⟩
    · exact ih h
def tCallV (fs : List (V × Sp)) (W : WX) (te : TE) (t : TA) : TE := fun σ H Q => te σ H fun x H1 => ∃ p, p ∈ fs ∧ x = p.1 ∧ t σ H1 fun vs H2 => p.2 vs H2 Q (WE W σ)
section
variable {X : Cx} {k : Nat} {fs : List (V × Sp)} {W : WX} {pos spos : Pos} {v i e : Expr} {es : List Expr} {te : TE} {t : TA}
theorem me_callVS (C : May X.prog X.w X.K X.mg X.base (L2.CX X.prog X.w) k fs) (hr : RoomG k X.A) (hf : PE X (.Subscript v i spos) te) (tk : Takes X W) (ha : PA X (e :: es) t)
    (hc : eval (.Call (.Subscript v i spos) (e :: es) [] pos) X.env = (do callWith pos (← eval (.Subscript v i spos) X.env) [] (backTo pos (starEach (e :: es) X.env)) (backToKw pos (keywordEach [] X.env))) := by rfl)
    (he : starEach (e :: es) X.env = (false, eval e X.env) :: starEach es X.env := by rfl) (hpl : (backTo pos (starEach es X.env)).any (·.1) = false := by rfl) : PE X (.Call (.Subscript v i spos) (e :: es) [] pos) (tCallV fs W te t) := by
  refine ⟨fun pins s σ H Q I h => ?_⟩
  rw [hc]
  refine wpAny_bind (thn (hf.run pins s σ H _ I h) fun u s0 ⟨x, H0, I0, rx, p, hp, ex, h0⟩ => ?_)
  obtain ⟨y, ps, a, ea, C⟩ := C.get hp
  obtain ⟨fd, F, hk, hb⟩ := C.ex
  rw [ex, ea] at rx
  cases rx
  refine PySem.W.callWith_K (h₀ := X.base) I0.ok.mod.kin hk (thn (ha.run pos pins s0 σ H0 _ I0 h0) fun us s1 ⟨vs, H1, I1, r, q⟩ => ⟨I1.kIn, ?_⟩) he hpl
  have hl := F.len _ _ _ _ q
  refine wpAny_call (codeAny_mono (F.run X.A X.stack s1 H1 ⟨us, []⟩ us vs Q (WE W σ) hr I1.env0 (by simpa using hb s1 us I1.kIn (by simpa using r.length.symm.trans hl)) r q) fun r s' hq => ?_)
  rcases r with er | fl
  · exact passAt tk σ pins H1 s1 er s' I1 hq
  · cases fl with
    | ret u => exact I1.after hq
    | next => exact False.elim hq
    | brk => exact False.elim hq
    | cont => exact False.elim hq
end
end M

/-! ### a text turned about -/
namespace M
open PySem PySem.Spec PyProof.Rows L2
theorem rev_cps (z : List Nat) : ((Builtin.Str.strSliceIndices none none (-1) (S z).length).filterMap ((S z).cps[·]?)) = z.reverse := by
  rw [picked_rev, filterMap_get]
  · rw [List.map_map, S_len]
    apply List.ext_getElem
    · simp
    · intro i h1 h2
      simp only [List.length_map, List.length_range] at h1
      simp only [List.getElem_map, List.getElem_range, List.getElem_reverse, Function.comp_apply]
      unfold S
      simp [Array.getD, show z.length - 1 - i < z.length by omega]
  · intro i hi
    obtain ⟨k, hk, rfl⟩ := List.mem_map.mp hi
    have hk' := List.mem_range.mp hk
    show (S z).length - 1 - k < (S z).length
    omega
def mRevS (te : TE) : TE := fun σ H Q => te σ H fun x H1 => match x with
  | .str a => a.length ≤ sizeLine ∧ Q (.str (S a.cps.toList.reverse)) H1
  | _ => False
section
variable {X : Cx} {e : Expr} {te : TE}
theorem me_revS {k : Nat} {p1 p2 p3 pos : Pos} (he : PE X e te) : PE X (.Subscript e (.Slice none none (some (.UnaryOp .USub (.Constant (.int 1) k p1) p2)) p3) pos) (mRevS te) := by
  refine ⟨fun pins s σ H Q I h => ?_⟩
  have h' : cl te σ H (fun x H1 => ∃ z : List Nat, x = .str (S z) ∧ z.length ≤ sizeLine ∧ Q (.str (S z.reverse)) H1) := ⟨_, h, fun x H1 q => by
    cases x with
    | str a =>
      refine ⟨a.cps.toList, by rw [S_of], ?_, q.2⟩
      have := q.1
      rw [← S_of a, S_len] at this
      exact this
    | _ => exact q.elim⟩
  refine Subscript_ (thn ((pe_cl he).run pins s σ H _ I h') fun v s1 ⟨x, H1, I1, r1, z, ex, hz, q⟩ => ?_)
  subst ex
  obtain ⟨t, rfl⟩ := r1
  have hst : PO X (some (.UnaryOp .USub (.Constant (.int 1) k p1) p2)) (tPart (tUn (rU fun i => .int (-i)) (tC (.int 1)))) := po_some (pe_un un_neg pe_int)
  refine wpAny_Slice (thn (po_none.run pins s1 σ H1 (fun o H2 => o = none ∧ H2 = H1) I1 ⟨rfl, rfl⟩) fun vl s2 ⟨l, H2, I2, pl, el, e2⟩ => ?_)
  subst el e2
  refine thn (po_none.run pins s2 σ H2 (fun o H3 => o = none ∧ H3 = H2) I2 ⟨rfl, rfl⟩) fun vu s3 ⟨u, H3, I3, pu, eu, e3⟩ => ?_
  subst eu e3
  refine thn (hst.run pins s3 σ H3 (fun o H4 => o = some (-1) ∧ H4 = H3) I3 ⟨1, rfl, -1, rfl, rfl, rfl⟩) fun vs s4 ⟨o, H4, I4, ps, eo, e4⟩ => ?_
  subst eo e4
  have I5 : Inv X pins σ H4 { s4 with heap := s4.heap.push { cls := .type "slice", data := .fields #[vl, vu, vs] } } := I4.kept (t' := s4.toks) fun b ob q => Heap.get?_push_of_some _ q
  obtain ⟨l, rfl, hl⟩ := IsPart.raw pl
  obtain ⟨u, rfl, hu⟩ := IsPart.raw pu
  obtain ⟨w, rfl, hw⟩ := IsPart.raw ps
  obtain ⟨os, hos, hcs, hds⟩ := Heap.IsSliceOf.new s4.heap (partValue l) (partValue u) (partValue w)
  refine tail_any (ops := [.str (S z) t, .ref s4.heap.objs.size]) (typeIs_str _ _ _) (F.slot_str_getitem.lookup) ?_ (by with_unfolding_all rfl)
  refine wpAny_getItem_str_slice (l := l) (u := u) (st := w) ⟨os, hos, hcs, hds⟩ (by first | (rw [hw]; rfl) | (rw [← hw]; rfl)) ?_
  have hm : sliceMade (S z) t l u w = Made.str (S z.reverse) := by
    have a1 : l.map (·.1) = none := by first | exact hl | exact hl.symm
    have a2 : u.map (·.1) = none := by first | exact hu | exact hu.symm
    have a3 : w.map (·.1) = some (-1) := by first | exact hw | exact hw.symm
    unfold sliceMade slicePicked
    rw [a1, a2, a3]
    show (if ((-1 : Int) == 1 && _) = true then _ else Made.str ⟨((Builtin.Str.strSliceIndices none none (-1) (S z).length).filterMap ((S z).cps[·]?)).toArray⟩) = _
    rw [if_neg (by simp), rev_cps]
    rfl
  rw [hm]
  have hlen : (S z.reverse).length ≤ sizeLine := by rw [S_len, List.length_reverse]; exact hz
  exact ⟨hlen, .str _, H4, I5.tok _, ⟨_, rfl⟩, q⟩
end
end M

/-! ### tuple(x); a list's first item popped -/
namespace M
open PySem PySem.Spec PyProof.Rows L2
section
variable {X : Cx} {pos apos : Pos} {o e : Expr} {to te : TE}
def mTuple (K : PySem.W.Frag) : List V → Hp → VK → Prop := fun xs H Q => match xs with
  | [.ref p] => ∃ ys, (SqL K H p ys ∧ ∀ l, H l = none → Q (.ref l) (upd H l (.tup ys))) ∨ (SqT K H p ys ∧ Q (.ref p) H)
  | _ => False
theorem call_tupleM : CallR X (.type "tuple") (mTuple X.K) := callR_imp call_tuple_of fun xs H Q q => by
  unfold mTuple at q
  split at q
  · obtain ⟨ys, h⟩ := q
    exact ⟨_, ys, rfl, h⟩
  · exact q.elim
def mPop0 : Addr → List V → List V → Hp → VK → Prop := fun l xs vs H Q => match vs with
  | [.int i] => i = 0 ∧ ∃ y r, xs = y :: r ∧ Q y (upd H l (.lst r))
  | _ => False
theorem me_pop0 (ho : PE X o to) (he : PE X e te) (hbase : attributeBase o "pop" X.env (eval o X.env) = eval o X.env := by rfl)
    (hfew : ((backTo pos (starEach [e] X.env)).all (fun x => !x.1) && (backToKw pos (keywordEach [] X.env)).all (fun x => x.1.isSome) && decide (([e] : List Expr).length + ([] : List Keyword).length + (if ([] : List Keyword).isEmpty then 0 else 1) < 30)) = true := by rfl)
    (hline : (apos.endLine == pos.line) = true := by rfl) (hs : starEach [e] X.env = (false, eval e X.env) :: starEach [] X.env := by rfl) (hplain : (backTo pos (starEach [] X.env)).any (·.1) = false := by rfl) :
    PE X (.Call (.Attribute o "pop" apos) [e] [] pos) (mLstM mPop0 to (tCons te tNil)) :=
  pe_imp (pe_bm PySem.F.plainAttrs_list PySem.F.slot_list_pop PySem.F.type_list_pop mt_popAt (pe_cl ho) (pa_cons (pe_cl he) pa_nil hs) hbase hfew hline hs hplain) fun σ H Q q => ⟨_, q, fun x H1 z => by
    cases x with
    | ref l =>
      obtain ⟨⟨ys, h⟩, z⟩ := z
      exact ⟨.inl ⟨rfl, _, SqL.of h⟩, _, z, fun y H2 w => by
        obtain ⟨xs, h2, w⟩ := w
        cases y with
        | int i =>
          obtain ⟨rfl, y', r, rfl, w⟩ := w
          exact ⟨l, _, 0, 0, y', rfl, rfl, h2, by decide, by decide, by simp [seqIndex?], rfl, w⟩
        | _ => exact w.elim⟩
    | _ => exact z.elim⟩
/-- lists of other lengths differ, whatever they hold -/
def mNeE (K : PySem.W.Frag) : R2 := fun x y H Q => (∃ a b xs ys, x = .ref a ∧ y = .ref b ∧ SqL K H a xs ∧ SqL K H b ys ∧ xs.length ≠ ys.length ∧ Q (.bl true) H) ∨ mNe K x y H Q
theorem op_neE (hu : X.A.units + 64 < cLine) : OpR X (compareOp .NotEq) (mNeE X.K) := by
  intro pins s σ H x y v u Q I rx ry h
  rcases h with ⟨a, b, xs, ys, rfl, rfl, h1, h2, hl, q⟩ | h
  · cases rx
    cases ry
    obtain ⟨is1, rv1, ⟨o1, n1, ho1, hc1, _, hd1⟩, _⟩ := I.list h1
    obtain ⟨is2, rv2, ⟨o2, n2, ho2, hc2, _, hd2⟩, _⟩ := I.list h2
    have l1 := rv1.length
    have l2 := rv2.length
    exact SeqAt.RcNeAt.lists_lengths ⟨_, ho1, hc1, _, hd1⟩ ⟨_, ho2, hc2, _, hd2⟩ (by simp; omega) (by omega) _ _ _ _ ⟨.bl _, H, I, rfl, q⟩
  · exact op_neM hu pins s σ H _ _ v u Q I rx ry h
/-- + whose new list is none of the system's -/
def mAddF : R2 := fun x y H Q => match x, y with
  | .ref a, .ref b => (∃ xs zs, H a = some (.lst xs) ∧ H b = some (.lst zs) ∧ xs.length + zs.length ≤ sizeLine ∧ ∀ p, H p = none → p ≠ sysModules → Q (.ref p) (upd H p (.lst (xs ++ zs))))
  | _, _ => mAdd x y H Q
theorem op_addF : OpR X (binaryOp .Add) mAddF := by
  intro pins s σ H x y v u Q I rx ry q
  unfold mAddF at q
  split at q
  · obtain ⟨xs, zs, hH, hB, hz, q⟩ := q
    cases rx
    cases ry
    obtain ⟨z, its, n, r, hl, e⟩ := I.lstM hH
    obtain ⟨z2, its2, n2, r2, hl2, e2⟩ := I.lstM hB
    refine PySem.P.add_list e e2 ?_ (by rw [List.size_toArray, List.size_toArray]; omega)
    have ea : its.toArray ++ its2.toArray = (its ++ its2).toArray := by simp
    rw [ea]
    exact ⟨.ref _, _, I.lnew (t' := s.toks) (r.append r2) (by rw [List.length_append]; omega), rfl, q _ I.fresh (Nat.ne_of_gt I.big)⟩
  · exact op_addM pins s σ H _ _ v u Q I rx ry q
/-- what repr shows of a list that holds dicts, too -/
inductive ShA (K : PySem.W.Frag) (H : Hp) : List V → List PyData → Prop
  | nil : ShA K H [] []
  | one {v : V} {d : PyData} {vs : List V} {ds : List PyData} : fd1 v = some d → ShA K H vs ds → ShA K H (v :: vs) (d :: ds)
  | dct {a : Addr} {kvs : List (Key × V)} {es : List (PyData × PyData)} {vs : List V} {ds : List PyData} : H a = some (.dK kvs) → fdKV kvs = some es → ShA K H vs ds → ShA K H (.ref a :: vs) (.dict es :: ds)
inductive ShD (K : PySem.W.Frag) (H : Hp) : V → PyData → Prop
  | sh {v : V} {d : PyData} : Sh K H v d → ShD K H v d
  | lst {a : Addr} {xs : List V} {ds : List PyData} : H a = some (.lst xs) → a ≠ sysModules → ShA K H xs ds → ShD K H (.ref a) (.list ds)
def mReprD (K : PySem.W.Frag) : List V → Hp → VK → Prop := fun xs H Q => match xs with
  | [x] => ∃ d, ShD K H x d ∧ d.showable = true ∧ d.depth ≤ 64 ∧ d.shown.length ≤ sizeLine ∧ Q (.str d.shown) H
  | _ => False
theorem ShA.reads {pins : List (Addr × Obj)} {σ : L2.St} {H : Hp} {s : Shared} (I : L2.Inv X pins σ H s) : ∀ {vs : List V} {ds : List PyData} {us : List Value}, ShA X.K H vs ds → Vals vs us → ∃ as, ReadsAll s.heap us ds as ∧ sysModules ∉ as
  | _, _, _, .nil, .nil => ⟨[], .nil, by simp⟩
  | _, _, _, .one e r, .cons r1 rs => by
    obtain ⟨as, h1, h2⟩ := ShA.reads I r rs
    exact ⟨[] ++ as, .cons (rd1 r1 e) h1, by simpa using h2⟩
  | _, _, _, @ShA.dct _ _ a kvs es vs ds ha hf r, .cons r1 rs => by
    obtain ⟨as, h1, h2⟩ := ShA.reads I r rs
    cases r1
    obtain ⟨_, hns, ws, hkv, o, oes, ep, e1, e2, e3, e4, e5, e6⟩ := dk_of I.hok ha
    obtain ⟨q1, q2⟩ := rdKV (h := s.heap) hkv e5 hf
    refine ⟨([a] ++ [] ++ []) ++ as, .cons (.dict e1 e2.1 e3 q1 q2) h1, fun hm => ?_⟩
    simp only [List.append_nil, List.mem_append, List.mem_singleton] at hm
    rcases hm with z | z
    · rw [z] at hns; simp at hns
    · exact h2 z
theorem call_reprD {k : Nat} (hr : RoomG k X.A) : CallR X (.builtin "repr") (mReprD X.K) := by
  intro pins s σ H xs us Q I r h
  unfold mReprD at h
  split at h
  · rename_i x
    obtain ⟨d, hs, h1, h2, h3, q⟩ := h
    cases hs with
    | sh hs => exact call_reprM hr pins s σ H _ us Q I r ⟨d, hs, h1, h2, h3, q⟩
    | @lst a xs ds ha hn hx =>
      obtain ⟨u, rfl, ru⟩ := vals_one r
      cases ru
      have hun := hr.un
      obtain ⟨its, rv, ⟨o, n, ho, hc, _, hd⟩, _⟩ := I.list (SqL.of (K := X.K) ha)
      obtain ⟨as, r1, r2⟩ := ShA.reads I hx rv
      have rd : Reads s.heap (.ref a) (.list ds) (a :: as) := .list ho hc hd r1
      refine repr_of_reads' rd h1 (fun _ hm => ?_) hr.gd (by omega) (fun _ _ e => e) (fun h' u tk k => ⟨.str (PyData.list ds).shown, H, I.kept (t' := tk) k, ⟨u, rfl⟩, q⟩) h3
      rcases List.mem_cons.mp hm with z | z
      · exact hn z.symm
      · exact r2 z
  · exact h.elim
end
end M

/-! ### tables of the module: dicts from texts to texts -/
namespace M
open PySem PySem.Spec PyProof.Rows L2
abbrev Rows := List (List Nat × List Nat)
def hasK (t : Rows) (z : Str) : Bool := t.any fun r => decide (S r.1 = z)
def atK (t : Rows) (z : Str) : Option (List Nat) := (t.find? fun r => decide (S r.1 = z)).map (·.2)
/-- a table at d with these rows -/
def TabAt (K : PySem.W.Frag) (w : World) (d : Addr) (t : Rows) : Prop := ∃ es n, KDict K w d es n ∧ ∀ z : Str, match atK t z with
  | some v => ∃ u, PySem.W.nsIn K d z = some (some u) ∧ RelV (.str (S v)) u
  | none => PySem.W.nsIn K d z = some none
theorem hasK_atK (t : Rows) (z : Str) : hasK t z = (atK t z).isSome := by
  unfold hasK atK
  rw [Option.isSome_map, List.isSome_find?]
def tabDv (t : Rows) : List (Str × He.Dv) := t.map fun r => (S r.1, .str (S r.2))
theorem atK_mem {t : Rows} {z : Str} {v : List Nat} (h : atK t z = some v) : (z, He.Dv.str (S v)) ∈ tabDv t := by
  unfold atK at h
  obtain ⟨r, hr, rfl⟩ := Option.map_eq_some_iff.mp h
  have h1 := List.find?_some hr
  have h2 := List.mem_of_find?_eq_some hr
  have h3 : S r.1 = z := by simpa using h1
  exact List.mem_map.mpr ⟨r, h2, by rw [h3]⟩
theorem atK_none {t : Rows} {z : Str} (h : atK t z = none) : ∀ k ∈ t.map (fun r => S r.1), k ≠ z := by
  unfold atK at h
  rw [Option.map_eq_none_iff, List.find?_eq_none] at h
  intro k hk e
  obtain ⟨r, hr, rfl⟩ := List.mem_map.mp hk
  exact h r hr (by simpa using e)
theorem no_key {P : Params} {z : Str} : ∀ {l : List DictEntry} {ks : List Str}, l.map He.keyOf = He.keysIn P ks → (∀ k ∈ ks, k ≠ z) → l.find? (fun e => e.key.isStr z) = none ∧ (l.any fun x => x.refKey) = false
  | [], _, _, _ => ⟨rfl, rfl⟩
  | e :: r, [], h, _ => by cases h
  | e :: r, k :: ks, h, hn => by
    have h1 : He.keyOf e :: r.map He.keyOf = some (k, PyData.keyHash P k) :: He.keysIn P ks := h
    injection h1 with h2 h3
    obtain ⟨g1, g2⟩ := no_key h3 fun k hk => hn k (List.mem_cons_of_mem _ hk)
    unfold He.keyOf at h2
    split at h2
    · rename_i x t q
      have h4 := Option.some.inj h2
      obtain ⟨h5, h6⟩ := Prod.mk.inj h4
      have hx : (x == z) = false := by
        rw [h5]
        have := hn k List.mem_cons_self
        exact beq_eq_false_iff_ne.mpr this
      refine ⟨?_, ?_⟩
      · rw [List.find?_cons, q]
        show (match (x == z) with | true => some e | false => _) = none
        rw [hx]; exact g1
      · rw [List.any_cons, g2]
        unfold DictEntry.refKey
        rw [q]; rfl
    · cases h2
theorem tab_of {K : PySem.W.Frag} {w : World} {a : Addr} {t : Rows} (h : He.dicW K a = some (He.keysIn w.params (t.map fun r => S r.1))) (hv : He.valsB K a (tabDv t) = true) : TabAt K w a t := by
  obtain ⟨es, n, D⟩ := He.dicW_ok h
  refine ⟨es, n, D, fun z => ?_⟩
  cases e : atK t z with
  | some v => exact He.valsB_ok hv (atK_mem e)
  | none =>
    have hk : es.toList.map He.keyOf = He.keysIn w.params (t.map fun r => S r.1) := by
      unfold He.dicW at h
      rw [D.at_] at h
      have h1 : (match decide (("dict" : String) = "dict") && (((#[] : Array (Option Value))).isEmpty && !(a == sysModules)) with
        | true => some (es.toList.map He.keyOf)
        | false => none) = some (He.keysIn w.params (t.map fun r => S r.1)) := h
      rw [D.low] at h1
      exact Option.some.inj h1
    obtain ⟨g1, g2⟩ := no_key hk (atK_none e)
    show PySem.W.nsIn K a z = some none
    unfold PySem.W.nsIn
    rw [D.at_]
    show (match List.find? (fun x => x.key.isStr z) es.toList with | some e => some (some e.val) | none => if (es.toList.any fun x => x.refKey) = true then none else some none) = some none
    rw [g1, g2]; rfl
section
variable {X : Cx}
def mInTab (t : Rows) (d : Addr) : R2 := fun x y H Q => y = .ref d ∧ match x with
  | .str z => Q (.bl (hasK t z)) H
  | _ => False
def mNinTab (t : Rows) (d : Addr) : R2 := fun x y H Q => y = .ref d ∧ match x with
  | .str z => Q (.bl (!hasK t z)) H
  | _ => False
def mIxTab (t : Rows) (d : Addr) : R2 := fun x y H Q => x = .ref d ∧ match y with
  | .str z => ∃ v, atK t z = some v ∧ Q (.str (S v)) H
  | _ => False
theorem op_inTab {t : Rows} {d : Addr} (h : TabAt X.K X.w d t) : OpR X (compareOp .In) (mInTab t d) := by
  obtain ⟨es, n, D, hz⟩ := h
  refine opR_imp (op_in_kd D) fun x y H Q q => ?_
  obtain ⟨rfl, q⟩ := q
  split at q
  · rename_i z
    have := hz z
    rw [hasK_atK] at q
    cases e : atK t z with
    | some v =>
      rw [e] at this q
      obtain ⟨u, h1, _⟩ := this
      exact ⟨z, _, rfl, rfl, h1, q⟩
    | none =>
      rw [e] at this q
      exact ⟨z, _, rfl, rfl, this, q⟩
  · exact q.elim
theorem op_ninTab {t : Rows} {d : Addr} (h : TabAt X.K X.w d t) : OpR X (compareOp .NotIn) (mNinTab t d) := by
  obtain ⟨es, n, D, hz⟩ := h
  refine opR_imp (op_notIn_kd D) fun x y H Q q => ?_
  obtain ⟨rfl, q⟩ := q
  split at q
  · rename_i z
    have := hz z
    rw [hasK_atK] at q
    cases e : atK t z with
    | some v =>
      rw [e] at this q
      obtain ⟨u, h1, _⟩ := this
      exact ⟨z, _, rfl, rfl, h1, q⟩
    | none =>
      rw [e] at this q
      exact ⟨z, _, rfl, rfl, this, q⟩
  · exact q.elim
theorem ixR_tab {t : Rows} {d : Addr} (h : TabAt X.K X.w d t) : IxR X (mIxTab t d) := by
  obtain ⟨es, n, D, hz⟩ := h
  refine ixR_imp ix_kdict fun x y H Q q => ?_
  obtain ⟨rfl, q⟩ := q
  split at q
  · rename_i z
    obtain ⟨v, e, q⟩ := q
    have := hz z
    rw [e] at this
    obtain ⟨u, h1, h2⟩ := this
    exact ⟨d, z, .str (S v), rfl, rfl, ⟨es, n, u, D.at_, D.lit, h1, h2⟩, q⟩
  · exact q.elim
theorem me_ixTab {a b : Expr} {ta tb : TE} {pos : Pos} {t : Rows} {d : Addr} (h : TabAt X.K X.w d t) (ha : PE X a ta) (hb : PE X b tb) (hs : PlainIx b) : PE X (.Subscript a b pos) (tOp (mIxTab t d) ta tb) := pe_ix (ixR_tab h) ha hb hs
theorem ms_setLc2 {i : Nat} {y : Str} {py : Pos} {elt tg iter tg1 iter1 : Expr} {ifs ifs1 : List Expr} {scope : Scope} {own : List (Str × Nat)} {vs1 : List Nat} {pos spos : Pos} {wi wi1 : MI} {g g1 : TG} {tt tt1 : TT} {te : TE} (hc : X.calm = true) (hN : X.N.Nodup) (hy : X.N[i]? = some y) (hyl : X.env.scope.names.lookup y = some .local)
    (hsw : swapsWith (.ListComp elt [⟨tg, iter, ifs, 0⟩, ⟨tg1, iter1, ifs1, 0⟩] scope pos) (some (.Name y py)) spos.line X.env = pure true) (hi : PI X tg iter (toTI wi)) (ok : BlkOk X.N X.env.scope scope own) (hv : ∀ i ∈ vs1, i ∈ own.map (·.2))
    (hg : ∀ (s : Shared) (H : Hp) (C : Addr) (cl : List (Str × Addr)) (fp : List Addr), PG (X.blk s H scope (compEnvC scope cl C X.env) fp) tg g) (ht : ∀ (s : Shared) (H : Hp) (C : Addr) (cl : List (Str × Addr)) (fp : List Addr), PTs (X.blk s H scope (compEnvC scope cl C X.env) fp) ifs tt)
    (hi1 : ∀ (s : Shared) (H : Hp) (C : Addr) (cl : List (Str × Addr)) (fp : List Addr), PI (X.blk s H scope (compEnvC scope cl C X.env) fp) tg1 iter1 (toTI wi1))
    (hg1 : ∀ (s : Shared) (H : Hp) (C : Addr) (cl : List (Str × Addr)) (fp : List Addr), PG (X.blk s H scope (compEnvC scope cl C X.env) fp) tg1 g1) (ht1 : ∀ (s : Shared) (H : Hp) (C : Addr) (cl : List (Str × Addr)) (fp : List Addr), PTs (X.blk s H scope (compEnvC scope cl C X.env) fp) ifs1 tt1)
    (he : ∀ (s : Shared) (H : Hp) (C : Addr) (cl : List (Str × Addr)) (fp : List Addr), PE (X.blk s H scope (compEnvC scope cl C X.env) fp) elt te) (hs : ∀ x, foldedSetIterable iter X.env x = pure x := by intro _; rfl) (hs1 : ∀ env x, foldedSetIterable iter1 env x = pure x := by intro _ _; rfl) :
    PS X (.Assign [.Name y py] (.ListComp elt [⟨tg, iter, ifs, 0⟩, ⟨tg1, iter1, ifs1, 0⟩] scope pos) spos) (tAsg (mLc2 wi g tt wi1 g1 tt1 te (own.map (·.2)) vs1) (gName i)) :=
  ps_imp (ps_setLc2 hc hN hy hyl hsw hi ok hv (fun s H C cl fp => pg_cl (hg s H C cl fp)) (fun s H C cl fp => pts_cl (ht s H C cl fp)) hi1 hg1 ht1 he hs hs1) fun D σ H q => lc2_toM (Q := fun x H1 => gName i x σ H1 D.nx) q
end
theorem q_nin1 {c : Nat} {z : List Nat} {H : Hp} {Q : VK} : mNinC (.str (S [c])) (.str (S z)) H Q = Q (.bl (!decide (c ∈ z))) H := by
  show (∃ k, S [c] = S [k] ∧ Q (.bl (!decide (k ∈ (S z).cps.toList))) H) = _
  rw [S_cps]
  refine propext ⟨fun ⟨k, e, h⟩ => ?_, fun h => ⟨c, rfl, h⟩⟩
  have := S_inj.mp e
  simp only [List.cons.injEq, and_true] at this
  rw [this]; exact h
theorem q_intab {t : Rows} {d : Addr} {z : Str} {H : Hp} {Q : VK} : mInTab t d (.str z) (.ref d) H Q = Q (.bl (hasK t z)) H := propext ⟨fun h => h.2, fun h => ⟨rfl, h⟩⟩
theorem q_ninta {t : Rows} {d : Addr} {z : Str} {H : Hp} {Q : VK} : mNinTab t d (.str z) (.ref d) H Q = Q (.bl (!hasK t z)) H := propext ⟨fun h => h.2, fun h => ⟨rfl, h⟩⟩
theorem q_ixtab {t : Rows} {d : Addr} {z : Str} {H : Hp} {Q : VK} : mIxTab t d (.ref d) (.str z) H Q = ∃ v, atK t z = some v ∧ Q (.str (S v)) H := propext ⟨fun h => h.2, fun h => ⟨rfl, h⟩⟩
/-! ### the Hook with tables -/
abbrev TabX : Type := Str × Rows
abbrev AlXT : Type := AlX × List (Option (List (Option (Str × Int))))
def obsXT (fa : List FaX) (fn : List DefX) (ts : List TabX) (K : PySem.W.Frag) : AlXT := (obsX fa fn K, ts.map fun t => He.dicW K (He.ga K t.1))
def valXT (fn : List DefX) (ts : List TabX) (w : World) : AlXT := (valX fn, ts.map fun t => some (He.keysIn w.params (t.2.map fun r => S r.1)))
def obsXTG (n : Nat) (fa : List FaX) (fn : List DefX) (ts : List TabX) (g : Addr → Option Obj) : AlXT := obsXT fa fn ts (He.frG g (sysModules :: asX g n))
def SaysXT (fa : List FaX) (fn : List DefX) (ts : List TabX) (w : World) (K : PySem.W.Frag) : Prop := obsXT fa fn ts K = valXT fn ts w
def hookXT (n : Nat) (fa : List FaX) (fn : List DefX) (ts : List TabX) : PySem.W.Hook where
  α := AlXT
  obs := fun s => obsXTG n fa fn ts s.heap.get?
  val := fun w => valXT fn ts w
  says := fun w h => ∃ K : PySem.W.Frag, K.In h ∧ SaysXT fa fn ts w K
  of := fun _ _ e => ⟨_, He.frG_in, e⟩
  keeps := fun _ _ _ ⟨K, hK, c⟩ k => ⟨K, PySem.W.Frag.In.keeps hK k, c⟩
theorem obsXTG_eq {n : Nat} {fa : List FaX} {fn : List DefX} {ts : List TabX} {g : Addr → Option Obj} {s : Shared} (h : ∀ a, g a = s.heap.get? a) : obsXTG n fa fn ts g = (hookXT n fa fn ts).obs s := by
  have e : g = s.heap.get? := funext h
  rw [e] <;> rfl
section
variable {fa : List FaX} {fn : List DefX} {ts : List TabX} {w : World} {K : PySem.W.Frag}
theorem SaysXT.d (c : SaysXT fa fn ts w K) : SaysX fa fn K := congrArg (fun z : AlXT => z.1) c
theorem SaysXT.tab (c : SaysXT fa fn ts w K) (i : Nat) {t : TabX} (h : ts[i]? = some t := by rfl) (hv : He.valsB K (He.ga K t.1) (tabDv t.2) = true) : TabAt K w (He.ga K t.1) t.2 := by
  have e : ts.map (fun t => He.dicW K (He.ga K t.1)) = ts.map fun t => some (He.keysIn w.params (t.2.map fun r => S r.1)) := congrArg (fun z : AlXT => z.2) c
  have e2 : (ts.map fun t => He.dicW K (He.ga K t.1))[i]? = (ts.map fun t => some (He.keysIn w.params (t.2.map fun r => S r.1)))[i]? := by rw [e]
  rw [List.getElem?_map, List.getElem?_map, h] at e2
  exact tab_of (Option.some.inj e2) hv
end
end M

namespace M
open PySem PySem.Spec PyProof.Rows L2

/-! ### cuts -/
section
variable {α : Type} (l : List α)
theorem cut_from (i : Nat) : cutL l (some (i : Int)) none = l.drop i := by
  unfold cutL
  rw [HT.sIx_nat, HT.sIx_none]
  by_cases h : i ≤ l.length
  · rw [Nat.min_eq_left h]
    exact List.take_of_length_le (by rw [List.length_drop]; omega)
  · rw [Nat.min_eq_right (by omega), List.drop_length, List.drop_eq_nil_of_le (by omega)]; simp
theorem cut_to (i : Nat) : cutL l none (some (i : Int)) = l.take i := by
  unfold cutL
  rw [HT.sIx_nat, HT.sIx_none, List.drop_zero, Nat.sub_zero]
  by_cases h : i ≤ l.length
  · rw [Nat.min_eq_left h]
  · rw [Nat.min_eq_right (by omega), List.take_length, List.take_of_length_le (by omega)]
theorem cut_mid (i j : Nat) : cutL l (some (i : Int)) (some (j : Int)) = (l.drop i).take (j - i) := by
  unfold cutL
  rw [HT.sIx_nat, HT.sIx_nat]
  by_cases h : i ≤ l.length
  · rw [Nat.min_eq_left h]
    by_cases h2 : j ≤ l.length
    · rw [Nat.min_eq_left h2]
    · rw [Nat.min_eq_right (by omega), List.take_of_length_le (by rw [List.length_drop]; omega), List.take_of_length_le (by rw [List.length_drop]; omega)]
  · rw [Nat.min_eq_right (show l.length ≤ i by omega), List.drop_length, List.drop_eq_nil_of_le (show l.length ≤ i by omega)]; simp
theorem cut_all : cutL l none none = l := by
  unfold cutL
  rw [HT.sIx_none, HT.sIx_none, List.drop_zero, Nat.sub_zero, List.take_length]
theorem sIx_neg (n d k : Nat) (hk : 0 < k) : HT.sIx n d (some (-(k : Int))) = n - k := by
  show (if (-(k : Int)) < 0 then (-(k : Int) + (n : Int)).toNat else _) = _
  rw [if_pos (by omega)]; omega
theorem cut_fromN (k : Nat) (hk : 0 < k) : cutL l (some (-(k : Int))) none = l.drop (l.length - k) := by
  unfold cutL
  rw [sIx_neg _ _ _ hk, HT.sIx_none]
  exact List.take_of_length_le (by rw [List.length_drop]; omega)
theorem cut_toN (k : Nat) (hk : 0 < k) : cutL l none (some (-(k : Int))) = l.take (l.length - k) := by
  unfold cutL
  rw [sIx_neg _ _ _ hk, HT.sIx_none, List.drop_zero, Nat.sub_zero]
theorem cut_midN (i k : Nat) (hk : 0 < k) : cutL l (some (i : Int)) (some (-(k : Int))) = (l.drop i).take (l.length - k - i) := by
  unfold cutL
  rw [sIx_neg _ _ _ hk, HT.sIx_nat]
  by_cases h : i ≤ l.length
  · rw [Nat.min_eq_left h]
  · rw [Nat.min_eq_right (show l.length ≤ i by omega), List.drop_length, List.drop_eq_nil_of_le (show l.length ≤ i by omega)]; simp
end
theorem cut_m3 {α : Type} (l : List α) : cutL l (some (-3)) none = l.drop (l.length - 3) := cut_fromN l 3 (by decide)
theorem cut_t3 {α : Type} (l : List α) : cutL l none (some (-3)) = l.take (l.length - 3) := cut_toN l 3 (by decide)
theorem cut_m1 {α : Type} (l : List α) : cutL l (some (-1)) none = l.drop (l.length - 1) := cut_fromN l 1 (by decide)
theorem cut_t1 {α : Type} (l : List α) : cutL l none (some (-1)) = l.take (l.length - 1) := cut_toN l 1 (by decide)
theorem cut_t2 {α : Type} (l : List α) : cutL l none (some (-2)) = l.take (l.length - 2) := cut_toN l 2 (by decide)
theorem S_def (z : Str) : ∃ l, z = S l := ⟨_, (S_of z).symm⟩
theorem S_eq {a b : List Nat} : (S a = S b) = (a = b) := propext S_inj
theorem szl : (sizeLine : Nat) = 16777216 := sizeLine_eq

/-! ### trees -/
inductive Tr where
  | lf
  | nd (l r : Tr)
  deriving DecidableEq
namespace Tr
def s : Tr → List Nat
  | .lf => [46]
  | .nd l r => 40 :: (l.s ++ (r.s ++ [41]))
def n : Tr → Nat
  | .lf => 0
  | .nd l r => l.n + r.n + 1
theorem s_len : ∀ t : Tr, t.s.length = 3 * t.n + 1
  | .lf => rfl
  | .nd l r => by simp only [s, n, List.length_cons, List.length_append, List.length_nil, s_len l, s_len r]; omega
end Tr

/-! ### is_tree -/
/-- one sign onto the waiting ones -/
def itStep (w : List Nat) (c : Nat) : Option (List Nat) :=
  if c = 41 then (if w.drop (w.length - 3) = [40, 46, 46] then some (w.take (w.length - 3) ++ [46]) else none)
  else if c = 40 ∨ c = 46 then some (w ++ [c]) else none
def itRun : List Nat → List Nat → Option (List Nat)
  | w, [] => some w
  | w, c :: r => (itStep w c).bind fun w' => itRun w' r
def isTr (l : List Nat) : Bool := decide (itRun [] l = some [46])
theorem itRun_app : ∀ (a b w : List Nat), itRun w (a ++ b) = (itRun w a).bind fun w' => itRun w' b
  | [], b, w => rfl
  | c :: a, b, w => by
    show (itStep w c).bind _ = ((itStep w c).bind _).bind _
    cases itStep w c with
    | none => rfl
    | some w' => exact itRun_app a b w'
theorem itRun_tree : ∀ (t : Tr) (w : List Nat), itRun w t.s = some (w ++ [46])
  | .lf, w => by simp [Tr.s, itRun, itStep]
  | .nd l r, w => by
    show (itStep w 40).bind _ = _
    have e1 : itStep w 40 = some (w ++ [40]) := by simp [itStep]
    rw [e1]
    show itRun (w ++ [40]) (l.s ++ (r.s ++ [41])) = _
    rw [itRun_app, itRun_tree l]
    show itRun (w ++ [40] ++ [46]) (r.s ++ [41]) = _
    rw [itRun_app, itRun_tree r]
    show (itStep (w ++ [40] ++ [46] ++ [46]) 41).bind _ = _
    have e2 : itStep (w ++ [40] ++ [46] ++ [46]) 41 = some (w ++ [46]) := by
      simp [itStep]
    rw [e2]; rfl
/-- waiting signs stand for the signs read -/
inductive Waits : List Nat → List Nat → Prop where
  | nil : Waits [] []
  | op {w l : List Nat} : Waits w l → Waits (w ++ [40]) (l ++ [40])
  | tr {w l : List Nat} (t : Tr) : Waits w l → Waits (w ++ [46]) (l ++ t.s)
theorem Waits.last {w l : List Nat} {c : Nat} (h : Waits (w ++ [c]) l) : (c = 40 ∧ ∃ l', l = l' ++ [40] ∧ Waits w l') ∨ (c = 46 ∧ ∃ (l' : List Nat) (t : Tr), l = l' ++ t.s ∧ Waits w l') := by
  generalize e : w ++ [c] = v at h
  cases h with
  | nil => simp at e
  | op h =>
    obtain ⟨rfl, e2⟩ := List.append_inj' e rfl
    cases e2
    exact .inl ⟨rfl, _, rfl, h⟩
  | tr t h =>
    obtain ⟨rfl, e2⟩ := List.append_inj' e rfl
    cases e2
    exact .inr ⟨rfl, _, t, rfl, h⟩
theorem Waits.step {w l w' : List Nat} {c : Nat} (h : Waits w l) (e : itStep w c = some w') : Waits w' (l ++ [c]) := by
  unfold itStep at e
  split at e
  · rename_i hc
    subst hc
    split at e
    · rename_i h3
      cases e
      have ew : w = w.take (w.length - 3) ++ [40] ++ [46] ++ [46] := by
        have := List.take_append_drop (w.length - 3) w
        rw [h3] at this
        simpa using this.symm
      rw [ew] at h
      rcases h.last with ⟨q, _⟩ | ⟨_, l1, t1, rfl, h1⟩
      · cases q
      rcases h1.last with ⟨q, _⟩ | ⟨_, l2, t2, rfl, h2⟩
      · cases q
      rcases h2.last with ⟨_, l3, rfl, h3⟩ | ⟨q, _⟩
      · have := Waits.tr (.nd t2 t1) h3
        simpa [Tr.s] using this
      · cases q
    · cases e
  · split at e
    · rename_i hc
      cases e
      rcases hc with rfl | rfl
      · exact .op h
      · exact .tr .lf h
    · cases e
theorem Waits.run : ∀ {r w l w' : List Nat}, Waits w l → itRun w r = some w' → Waits w' (l ++ r)
  | [], w, l, w', h, e => by
    cases e; simpa using h
  | c :: r, w, l, w', h, e => by
    have e' : (itStep w c).bind (fun w' => itRun w' r) = some w' := e
    cases q : itStep w c with
    | none => rw [q] at e'; cases e'
    | some v =>
      rw [q] at e'
      have := Waits.run (h.step q) e'
      simpa using this
theorem isTr_iff (l : List Nat) : isTr l = true ↔ ∃ t : Tr, l = t.s := by
  unfold isTr
  rw [decide_eq_true_eq]
  constructor
  · intro h
    have q := Waits.run .nil h
    have q' : Waits ([] ++ [46]) l := by simpa using q
    rcases q'.last with ⟨z, _⟩ | ⟨_, l', t, rfl, z⟩
    · cases z
    · generalize e : ([] : List Nat) = v at z
      cases z with
      | nil => exact ⟨t, by simp⟩
      | op _ => simp at e
      | tr _ _ => simp at e
  · rintro ⟨t, rfl⟩
    simpa using itRun_tree t []
theorem isTr_s (t : Tr) : isTr t.s = true := (isTr_iff _).mpr ⟨t, rfl⟩
theorem itStep_len {w w' : List Nat} {c : Nat} (e : itStep w c = some w') : w'.length ≤ w.length + 1 := by
  unfold itStep at e
  split at e
  · split at e
    · cases e; simp
      try omega
    · cases e
  · split at e
    · cases e; simp
    · cases e
end M

namespace M
open PySem PySem.Spec PyProof.Rows L2

/-! ### places -/
section
variable {α : Type}
theorem aI_nat (xs : List α) (i : Nat) : atI xs (i : Int) = xs[i]? := by
  unfold atI ixN
  rw [if_pos (by omega)]
  by_cases h : i < xs.length
  · rw [if_pos (by omega)]; simp
  · rw [if_neg (by omega), List.getElem?_eq_none (by omega)]; rfl
theorem aI_neg (xs : List α) (k : Nat) (hk : 0 < k) (h : k ≤ xs.length) : atI xs (-(k : Int)) = xs[xs.length - k]? := by
  unfold atI ixN
  rw [if_neg (by omega), if_pos (by omega)]
  show xs[(-(k : Int) + (xs.length : Int)).toNat]? = _
  congr 1
  omega
theorem aI_0 (x : α) (xs : List α) : atI (x :: xs) 0 = some x := aI_nat (x :: xs) 0
theorem aI_1 (x y : α) (xs : List α) : atI (x :: y :: xs) 1 = some y := aI_nat (x :: y :: xs) 1
theorem aI_2 (x y z : α) (xs : List α) : atI (x :: y :: z :: xs) 2 = some z := aI_nat (x :: y :: z :: xs) 2
theorem aI_3 (x y z u : α) (xs : List α) : atI (x :: y :: z :: u :: xs) 3 = some u := aI_nat (x :: y :: z :: u :: xs) 3
theorem aI_m1 (xs : List α) (v : α) : atI (xs ++ [v]) (-1) = some v := atI_last xs v
theorem aI_m2 (xs : List α) (u v : α) : atI (xs ++ [u, v]) (-2) = some u := by
  have e := aI_neg (xs ++ [u, v]) 2 (by decide) (by simp)
  rw [show ((2 : Nat) : Int) = 2 from rfl] at e
  rw [e]
  simp
theorem aI_m1' (xs : List α) (u v : α) : atI (xs ++ [u, v]) (-1) = some v := by
  have e := aI_neg (xs ++ [u, v]) 1 (by decide) (by simp)
  rw [show ((1 : Nat) : Int) = 1 from rfl] at e
  rw [e]
  simp
theorem iN_nat {n i : Nat} (h : i < n) : ixN n (i : Int) = some i := by
  unfold ixN
  rw [if_pos (by omega), if_pos (by omega)]; simp
theorem iN_m1 {n : Nat} (h : 0 < n) : ixN n (-1) = some (n - 1) := by
  unfold ixN
  rw [if_neg (by omega), if_pos (by omega)]
  congr 1
  omega
end

/-! ### data -/
def dStrs (l : List (List Nat)) : List PyData := l.map fun z => .str (S z)
def dInts (l : List Int) : List PyData := l.map .int
theorem dp_strs {K : PySem.W.Frag} {H : Hp} : ∀ l : List (List Nat), DpAll K H (l.map fun z => V.str (S z)) (dStrs l)
  | [] => .nil
  | z :: l => .cons (.str _) (dp_strs l)
theorem dp_ints {K : PySem.W.Frag} {H : Hp} : ∀ l : List Int, DpAll K H (l.map V.int) (dInts l)
  | [] => .nil
  | z :: l => .cons (.int _) (dp_ints l)
/-- codes of a text -/
def okc (l : List Nat) : Prop := ∀ c ∈ l, c < 1114112
theorem okc_app {a b : List Nat} (h1 : okc a) (h2 : okc b) : okc (a ++ b) := fun c h => (List.mem_append.mp h).elim (h1 c) (h2 c)
theorem okS {z : List Nat} (h : okc z) : PyData.strOk (S z) = true := by
  unfold PyData.strOk
  simp only [S, List.all_toArray, List.all_eq_true, decide_eq_true_eq]
  exact h
theorem lay_strs : ∀ l : List (List Nat), (∀ z ∈ l, okc z) → PyData.canLayAll0 (dStrs l) = true
  | [], _ => rfl
  | z :: l, h => by
    show PyData.canLayAll0 (.str (S z) :: dStrs l) = true
    simp only [PyData.canLayAll0, PyData.canLay0, lay_strs l fun y hy => h y (List.mem_cons_of_mem _ hy), okS (h z List.mem_cons_self), Bool.and_self]
theorem lay_ints : ∀ l, PyData.canLayAll0 (dInts l) = true
  | [] => rfl
  | z :: l => by show PyData.canLayAll0 (.int z :: dInts l) = true; simp only [PyData.canLayAll0, PyData.canLay0, lay_ints l, Bool.and_self]
theorem dep_strs : ∀ l, PyData.depthAll (dStrs l) = 0
  | [] => rfl
  | z :: l => by show PyData.depthAll (.str (S z) :: dStrs l) = 0; simp only [PyData.depthAll, PyData.depth, dep_strs l]; rfl
theorem dep_ints : ∀ l, PyData.depthAll (dInts l) = 0
  | [] => rfl
  | z :: l => by show PyData.depthAll (.int z :: dInts l) = 0; simp only [PyData.depthAll, PyData.depth, dep_ints l]; rfl
theorem eqv_strs : ∀ a b : List (List Nat), PyData.eqvAll (dStrs a) (dStrs b) = decide (a = b)
  | [], [] => rfl
  | [], z :: b => rfl
  | z :: a, [] => rfl
  | y :: a, z :: b => by
    show PyData.eqvAll (.str (S y) :: dStrs a) (.str (S z) :: dStrs b) = _
    simp only [PyData.eqvAll, PyData.eqv, eqv_strs a b]
    by_cases h : y = z
    · subst h; simp
    · have : ¬ S y = S z := fun q => h (S_inj.mp q)
      simp [h, this]
theorem eqv_ints : ∀ a b : List Int, PyData.eqvAll (dInts a) (dInts b) = decide (a = b)
  | [], [] => rfl
  | [], z :: b => rfl
  | z :: a, [] => rfl
  | y :: a, z :: b => by
    show PyData.eqvAll (.int y :: dInts a) (.int z :: dInts b) = _
    simp only [PyData.eqvAll, PyData.eqv, eqv_ints a b]
    by_cases h : y = z
    · subst h; simp
    · simp [h]
section
variable {K : PySem.W.Frag} {neg : Bool} {H : Hp} {Q : VK}
/-- two lists of texts compared -/
theorem eq_strs {p q : Addr} {a b : List (List Nat)} (h1 : SqL K H p (a.map fun z => V.str (S z))) (h2 : SqL K H q (b.map fun z => V.str (S z))) (oa : ∀ z ∈ a, okc z) (ob : ∀ z ∈ b, okc z) (k : Q (.bl (if neg then !decide (a = b) else decide (a = b))) H) : rEqW K neg (.ref p) (.ref q) H Q :=
  ⟨.list (dStrs a), .list (dStrs b), .lst h1 (dp_strs a), .lst h2 (dp_strs b), by simpa only [PyData.canLay0] using lay_strs a oa, by simpa only [PyData.canLay0] using lay_strs b ob, by simp only [PyData.depth, dep_strs]; decide, by simpa only [PyData.eqv, eqv_strs] using k⟩
theorem eq_ints {p q : Addr} {a b : List Int} (h1 : SqL K H p (a.map V.int)) (h2 : SqL K H q (b.map V.int)) (k : Q (.bl (if neg then !decide (a = b) else decide (a = b))) H) : rEqW K neg (.ref p) (.ref q) H Q :=
  ⟨.list (dInts a), .list (dInts b), .lst h1 (dp_ints a), .lst h2 (dp_ints b), by simpa only [PyData.canLay0] using lay_ints a, by simpa only [PyData.canLay0] using lay_ints b, by simp only [PyData.depth, dep_ints]; decide, by simpa only [PyData.eqv, eqv_ints] using k⟩
end

/-! ### nests: trees as pairs -/
inductive Nst (K : PySem.W.Frag) (H : Hp) : V → Tr → Prop
  | lf {a : Addr} : SqT K H a [] → Nst K H (.ref a) .lf
  | nd {a : Addr} {l r : V} {t u : Tr} : SqT K H a [l, r] → Nst K H l t → Nst K H r u → Nst K H (.ref a) (.nd t u)
theorem Nst.ex {K : PySem.W.Frag} {H H' : Hp} (e : Ex H H') {v : V} {t : Tr} (h : Nst K H v t) : Nst K H' v t := by
  induction h with
  | lf h => exact .lf (e.T h)
  | nd h _ _ i1 i2 => exact .nd (e.T h) i1 i2
def Tr.dat : Tr → PyData
  | .lf => .tuple []
  | .nd l r => .tuple [l.dat, r.dat]
theorem Nst.dp {K : PySem.W.Frag} {H : Hp} {v : V} {t : Tr} (h : Nst K H v t) : Dp K H v t.dat := by
  induction h with
  | lf h => exact .tup h .nil
  | nd h _ _ i1 i2 => exact .tup h (.cons i1 (.cons i2 .nil))
theorem Tr.lay : ∀ t : Tr, t.dat.canLay0 = true
  | .lf => rfl
  | .nd l r => by simp only [Tr.dat, PyData.canLay0, PyData.canLayAll0, Tr.lay l, Tr.lay r, Bool.and_self]
/-- a nest == () -/
theorem eq_nil {K : PySem.W.Frag} {H : Hp} {Q : VK} {v : V} {t : Tr} {q : Addr} (h : Nst K H v t) (h2 : SqT K H q []) (k : Q (.bl (decide (t = .lf))) H) : rEqW K false v (.ref q) H Q := by
  refine ⟨t.dat, .tuple [], h.dp, .tup h2 .nil, t.lay, rfl, Nat.le_trans (Nat.min_le_right _ _) (by simp only [PyData.depth, PyData.depthAll]; decide), ?_⟩
  have e : PyData.eqv t.dat (.tuple []) = decide (t = .lf) := by
    cases t with
    | lf => rfl
    | nd l r => simp [Tr.dat, PyData.eqv, PyData.eqvAll]
  rw [if_neg Bool.false_ne_true, e]
  exact k
theorem Nst.ref {K : PySem.W.Frag} {H : Hp} {v : V} {t : Tr} (h : Nst K H v t) : ∃ a, v = .ref a := by
  cases h <;> exact ⟨_, rfl⟩

/-! ### roads to leaves and nodes -/
namespace Tr
def lvs : Tr → List Nat → List (List Nat)
  | .lf, r => [r]
  | .nd a b, r => a.lvs (r ++ [108]) ++ b.lvs (r ++ [114])
def nds : Tr → List Nat → List (List Nat)
  | .lf, _ => []
  | .nd a b, r => a.nds (r ++ [108]) ++ ([r] ++ b.nds (r ++ [114]))
theorem lvs_len : ∀ (t : Tr) (r : List Nat), (t.lvs r).length = t.n + 1
  | .lf, _ => rfl
  | .nd a b, r => by simp only [lvs, n, List.length_append, lvs_len a, lvs_len b]; omega
theorem nds_len : ∀ (t : Tr) (r : List Nat), (t.nds r).length = t.n
  | .lf, _ => rfl
  | .nd a b, r => by simp only [nds, n, List.length_append, nds_len a, nds_len b, List.length_cons, List.length_nil]; omega
end Tr
end M
namespace M
open PySem PySem.Spec PyProof.Rows L2
theorem Fm.refl (m : List Addr) (H : Hp) : Fm m H H := fun _ _ _ h => h
theorem Fm.trans {m : List Addr} {H H1 H2 : Hp} (a : Fm m H H1) (b : Fm m H1 H2) : Fm m H H2 := fun x o n h => b x o n (a x o n h)
theorem Fm.ex {m : List Addr} {H H1 : Hp} (a : Ex H H1) : Fm m H H1 := fun x o _ h => a x o h
theorem Fm.new {m : List Addr} {H : Hp} {p : Addr} {o : HO} (h : H p = none) : Fm m H (upd H p o) := Fm.ex (Ex.new h)
theorem Fm.mut {m : List Addr} {H : Hp} {p : Addr} {o : HO} (h : p ∈ m) : Fm m H (upd H p o) := fun a u n e => by
  have : a ≠ p := fun z => n (z ▸ h)
  rw [upd_ne this]; exact e
theorem Fm.nil {H H1 : Hp} (a : Fm [] H H1) : Ex H H1 := fun x o h => a x o (by simp) h
theorem Fm.at_ {m : List Addr} {H H1 : Hp} (a : Fm m H H1) {p : Addr} {o : HO} (n : p ∉ m) (h : H p = some o) : H1 p = some o := a p o n h
/-- a purse of random numbers -/
def Pu (H : Hp) (g : Addr) (n : Nat) : Prop := ∃ a b c : Int, H g = some (.lst [.int a, .int b, .int c]) ∧ 0 ≤ a ∧ a < 2 ^ 2000 ∧ 0 ≤ b ∧ b < 2 ^ 31 ∧ 0 ≤ c ∧ c < n
theorem Pu.mono {H : Hp} {g : Addr} {n m : Nat} (h : n ≤ m) (p : Pu H g n) : Pu H g m := by
  obtain ⟨a, b, c, h1, h2, h3, h4, h5, h6, h7⟩ := p
  exact ⟨a, b, c, h1, h2, h3, h4, h5, h6, by omega⟩
theorem Pu.fm {H H1 : Hp} {g : Addr} {n : Nat} (e : Ex H H1) (p : Pu H g n) : Pu H1 g n := by
  obtain ⟨a, b, c, h1, r⟩ := p
  exact ⟨a, b, c, e _ _ h1, r⟩
theorem mulOk (a b : Nat) {i j : Int} (h1 : 0 ≤ i) (h2 : i < (2 : Int) ^ a) (h3 : 0 ≤ j) (h4 : j < (2 : Int) ^ b) (h0 : 0 < a := by decide) (h5 : 0 < b := by decide) (h6 : a + b ≤ 1000000 := by decide) : MulOk i j := by
  refine MulOk.of a b ?_ ?_ h0 h5 h6
  · have : (i.natAbs : Int) < ((2 ^ a : Nat) : Int) := by rw [Int.natAbs_of_nonneg h1]; exact_mod_cast h2
    exact_mod_cast this
  · have : (j.natAbs : Int) < ((2 ^ b : Nat) : Int) := by rw [Int.natAbs_of_nonneg h3]; exact_mod_cast h4
    exact_mod_cast this
theorem divOk (b : Nat) {j : Int} (h : 0 < j) (h4 : j < (2 : Int) ^ b) (h0 : 0 < b := by decide) (h9 : b ≤ 9000 := by decide) : DivOk j := by
  refine DivOk.of b h ?_ h0 h9
  have : (j.natAbs : Int) < ((2 ^ b : Nat) : Int) := by rw [Int.natAbs_of_nonneg (by omega)]; exact_mod_cast h4
  exact_mod_cast this
theorem bits_le {i : Int} {b : Nat} (h : 0 ≤ i) (h4 : i < (2 : Int) ^ b) : Builtin.Int.intBits i ≤ b := by
  unfold Builtin.Int.intBits
  by_cases e : i = 0
  · subst e; simp
  · have e' : (i == 0) = false := by simpa using e
    rw [e', if_neg Bool.false_ne_true]
    have : (i.natAbs : Int) < ((2 ^ b : Nat) : Int) := by rw [Int.natAbs_of_nonneg h]; exact_mod_cast h4
    have h5 : i.natAbs < 2 ^ b := by exact_mod_cast this
    have h6 : i.natAbs ≠ 0 := by omega
    have := (Nat.log2_lt h6).mpr h5
    omega
end M
namespace M
open PySem PySem.Spec PyProof.Rows L2
/-- what is no list stays -/
def Nl (H H' : Hp) : Prop := ∀ a o, (∀ xs, o ≠ .lst xs) → H a = some o → H' a = some o
theorem Nl.refl (H : Hp) : Nl H H := fun _ _ _ h => h
theorem Nl.trans {H H1 H2 : Hp} (a : Nl H H1) (b : Nl H1 H2) : Nl H H2 := fun x o n h => b x o n (a x o n h)
theorem Nl.ex {H H1 : Hp} (a : Ex H H1) : Nl H H1 := fun x o _ h => a x o h
theorem Nl.new {H : Hp} {p : Addr} {o : HO} (h : H p = none) : Nl H (upd H p o) := Nl.ex (Ex.new h)
theorem Nl.mut {H : Hp} {p : Addr} {o : HO} {xs : List V} (h : H p = some (.lst xs)) : Nl H (upd H p o) := fun a u n e => by
  have : a ≠ p := fun z => by rw [z, h] at e; cases e; exact n _ rfl
  rw [upd_ne this]; exact e
theorem Nl.T {K : PySem.W.Frag} {H H' : Hp} {a : Addr} {xs : List V} (e : Nl H H') (h : SqT K H a xs) : SqT K H' a xs := by
  rcases h with h | h
  · rcases h with h | ⟨o, h⟩
    · exact .inl (.inl (e a _ (fun _ z => by cases z) h))
    · exact .inl (.inr ⟨o, e a _ (fun _ z => by cases z) h⟩)
  · exact .inr h
theorem Nst.nl {K : PySem.W.Frag} {H H' : Hp} (e : Nl H H') {v : V} {t : Tr} (h : Nst K H v t) : Nst K H' v t := by
  induction h with
  | lf h => exact .lf (e.T h)
  | nd h _ _ i1 i2 => exact .nd (e.T h) i1 i2
/-- one of the lists that H does not know changes -/
theorem Ex.chg {H H1 : Hp} {p : Addr} {o : HO} (e : Ex H H1) (h : H p = none) : Ex H (upd H1 p o) := e.mut h
end M

/-! ### deep data, dicts in it too; what stays where some lists change -/
namespace M
open PySem PySem.Spec PyProof.Rows L2
/-- sys.modules is a dict -/
def smB (K : PySem.W.Frag) : Bool := match K.lookup sysModules with
  | some ⟨_, _, .dict _ _, _⟩ => true
  | _ => false
theorem smB_ok {K : PySem.W.Frag} {h : Heap} (X : K.In h) (c : smB K = true) : ∃ o es n, h.get? sysModules = some o ∧ o.data = .dict es n := by
  unfold smB at c
  cases e : K.lookup sysModules with
  | none => rw [e] at c; cases c
  | some o =>
    rw [e] at c
    obtain ⟨c1, c2, dt, c3⟩ := o
    cases dt with
    | dict es n => exact ⟨_, es, n, X _ _ e, rfl⟩
    | _ => cases c
/-- v is the data d, none of whose lists stands at m -/
inductive Dq (K : PySem.W.Frag) (H : Hp) (m : List Addr) : V → PyData → Prop
  | non : Dq K H m .non .none
  | bl (b : Bool) : Dq K H m (.bl b) (.bool b)
  | int (i : Int) : Dq K H m (.int i) (.int i)
  | str (x : Str) : Dq K H m (.str x) (.str x)
  | lst {a : Addr} {xs : List V} {ds : List PyData} : H a = some (.lst xs) → a ∉ m → xs.length = ds.length → (∀ (i : Nat) (v : V) (d : PyData), xs[i]? = some v → ds[i]? = some d → Dq K H m v d) → Dq K H m (.ref a) (.list ds)
  | tup {a : Addr} {xs : List V} {ds : List PyData} : H a = some (.tup xs) → a ∉ m → xs.length = ds.length → (∀ (i : Nat) (v : V) (d : PyData), xs[i]? = some v → ds[i]? = some d → Dq K H m v d) → Dq K H m (.ref a) (.tuple ds)
  | dct {a : Addr} {kvs : List (Key × V)} {es : List (PyData × PyData)} : H a = some (.dK kvs) → a ∉ m → fdKV kvs = some es → Dq K H m (.ref a) (.dict es)
inductive DqA (K : PySem.W.Frag) (H : Hp) (m : List Addr) : List V → List PyData → Prop
  | nil : DqA K H m [] []
  | cons {v : V} {vs : List V} {d : PyData} {ds : List PyData} : Dq K H m v d → DqA K H m vs ds → DqA K H m (v :: vs) (d :: ds)
section
variable {K : PySem.W.Frag} {H H' : Hp} {m m' : List Addr}
theorem dqA_iff : ∀ {xs : List V} {ds : List PyData}, DqA K H m xs ds ↔ xs.length = ds.length ∧ ∀ (i : Nat) (v : V) (d : PyData), xs[i]? = some v → ds[i]? = some d → Dq K H m v d := by
  intro xs
  induction xs with
  | nil =>
    intro ds
    constructor
    · intro h; cases h; exact ⟨rfl, fun i v d h => by simp at h⟩
    · intro ⟨h, _⟩
      have : ds = [] := List.eq_nil_of_length_eq_zero h.symm
      subst this; exact .nil
  | cons x xs ih =>
    intro ds
    constructor
    · intro h
      cases h with
      | cons h1 h2 =>
        obtain ⟨g1, g2⟩ := ih.mp h2
        refine ⟨by simp [g1], fun i v d a b => ?_⟩
        cases i with
        | zero => simp at a b; subst a b; exact h1
        | succ i => exact g2 i v d (by simpa using a) (by simpa using b)
    · intro ⟨h1, h2⟩
      cases ds with
      | nil => simp at h1
      | cons d ds => exact .cons (h2 0 x d rfl rfl) (ih.mpr ⟨by simpa using h1, fun i v d a b => h2 (i + 1) v d (by simpa using a) (by simpa using b)⟩)
theorem Dq.L {a : Addr} {xs : List V} {ds : List PyData} (h : H a = some (.lst xs)) (n : a ∉ m) (q : DqA K H m xs ds) : Dq K H m (.ref a) (.list ds) := .lst h n (dqA_iff.mp q).1 (dqA_iff.mp q).2
theorem Dq.T {a : Addr} {xs : List V} {ds : List PyData} (h : H a = some (.tup xs)) (n : a ∉ m) (q : DqA K H m xs ds) : Dq K H m (.ref a) (.tuple ds) := .tup h n (dqA_iff.mp q).1 (dqA_iff.mp q).2
theorem Dq.listI {v : V} {ds : List PyData} (h : Dq K H m v (.list ds)) : ∃ a xs, v = .ref a ∧ H a = some (.lst xs) ∧ a ∉ m ∧ DqA K H m xs ds := by
  cases h with
  | lst h1 h2 h3 h4 => exact ⟨_, _, rfl, h1, h2, dqA_iff.mpr ⟨h3, h4⟩⟩
theorem Dq.tupI {v : V} {ds : List PyData} (h : Dq K H m v (.tuple ds)) : ∃ a xs, v = .ref a ∧ H a = some (.tup xs) ∧ a ∉ m ∧ DqA K H m xs ds := by
  cases h with
  | tup h1 h2 h3 h4 => exact ⟨_, _, rfl, h1, h2, dqA_iff.mpr ⟨h3, h4⟩⟩
theorem Dq.fm {v : V} {d : PyData} (f : Fm m H H') (h : Dq K H m v d) : Dq K H' m v d := by
  induction h with
  | non => exact .non
  | bl b => exact .bl b
  | int i => exact .int i
  | str x => exact .str x
  | lst h n l _ ih => exact .lst (f _ _ n h) n l ih
  | tup h n l _ ih => exact .tup (f _ _ n h) n l ih
  | dct h n e => exact .dct (f _ _ n h) n e
theorem Dq.ex {v : V} {d : PyData} (e : Ex H H') (h : Dq K H m v d) : Dq K H' m v d := h.fm (Fm.ex e)
theorem Dq.less {v : V} {d : PyData} (l : ∀ a ∈ m', a ∈ m) (h : Dq K H m v d) : Dq K H m' v d := by
  induction h with
  | non => exact .non
  | bl b => exact .bl b
  | int i => exact .int i
  | str x => exact .str x
  | lst h n e _ ih => exact .lst h (fun z => n (l _ z)) e ih
  | tup h n e _ ih => exact .tup h (fun z => n (l _ z)) e ih
  | dct h n e => exact .dct h (fun z => n (l _ z)) e
theorem Dq.z {v : V} {d : PyData} (h : Dq K H m v d) : Dq K H [] v d := h.less fun a h => by cases h
/-- new places may be barred -/
theorem Dq.more {v : V} {d : PyData} (l : ∀ a ∈ m', a ∈ m ∨ H a = none) (h : Dq K H m v d) : Dq K H m' v d := by
  induction h with
  | non => exact .non
  | bl b => exact .bl b
  | int i => exact .int i
  | str x => exact .str x
  | lst h n e _ ih => exact .lst h (fun z => (l _ z).elim n fun y => by rw [h] at y; cases y) e ih
  | tup h n e _ ih => exact .tup h (fun z => (l _ z).elim n fun y => by rw [h] at y; cases y) e ih
  | dct h n e => exact .dct h (fun z => (l _ z).elim n fun y => by rw [h] at y; cases y) e
theorem DqA.fm {vs : List V} {ds : List PyData} (f : Fm m H H') (h : DqA K H m vs ds) : DqA K H' m vs ds := by
  induction h with
  | nil => exact .nil
  | cons h _ ih => exact .cons (h.fm f) ih
theorem DqA.ex {vs : List V} {ds : List PyData} (e : Ex H H') (h : DqA K H m vs ds) : DqA K H' m vs ds := h.fm (Fm.ex e)
theorem DqA.more {vs : List V} {ds : List PyData} (l : ∀ a ∈ m', a ∈ m ∨ H a = none) (h : DqA K H m vs ds) : DqA K H m' vs ds := by
  induction h with
  | nil => exact .nil
  | cons h _ ih => exact .cons (h.more l) ih
theorem DqA.z {vs : List V} {ds : List PyData} (h : DqA K H m vs ds) : DqA K H [] vs ds := h.more fun a h => by cases h
theorem DqA.len {vs : List V} {ds : List PyData} (h : DqA K H m vs ds) : vs.length = ds.length := (dqA_iff.mp h).1
theorem DqA.app {a b : List V} {x y : List PyData} (h : DqA K H m a x) (g : DqA K H m b y) : DqA K H m (a ++ b) (x ++ y) := by
  induction h with
  | nil => exact g
  | cons h _ ih => exact .cons h ih
theorem DqA.take {n : Nat} {a : List V} {x : List PyData} (h : DqA K H m a x) : DqA K H m (a.take n) (x.take n) := by
  induction h generalizing n with
  | nil => simp; exact .nil
  | cons h _ ih =>
    cases n with
    | zero => exact .nil
    | succ n => exact .cons h ih
theorem DqA.drop {n : Nat} {a : List V} {x : List PyData} (h : DqA K H m a x) : DqA K H m (a.drop n) (x.drop n) := by
  induction h generalizing n with
  | nil => simp; exact .nil
  | cons h hs ih =>
    cases n with
    | zero => exact .cons h hs
    | succ n => exact ih
theorem Dq.dp {v : V} {d : PyData} (h : Dq K H m v d) : d.hasDict = false → Dp K H v d := by
  induction h with
  | non => exact fun _ => .non
  | bl b => exact fun _ => .bl b
  | int i => exact fun _ => .int i
  | str x => exact fun _ => .str x
  | @lst a xs ds h n e g ih =>
    intro hd
    refine .lst (SqL.of h) ?_
    have hd' : PyData.hasDictAll ds = false := by simpa only [PyData.hasDict] using hd
    clear h hd
    induction xs generalizing ds with
    | nil =>
      have : ds = [] := List.eq_nil_of_length_eq_zero e.symm
      subst this; exact .nil
    | cons x xs jh =>
      cases ds with
      | nil => simp at e
      | cons d ds =>
        simp only [PyData.hasDictAll, Bool.or_eq_false_iff] at hd'
        exact .cons (ih 0 x d rfl rfl hd'.1) (jh (by simpa using e) (fun i v d a b => g (i + 1) v d (by simpa using a) (by simpa using b)) (fun i v d a b => ih (i + 1) v d (by simpa using a) (by simpa using b)) hd'.2)
  | @tup a xs ds h n e g ih =>
    intro hd
    refine .tup (SqT.of h) ?_
    have hd' : PyData.hasDictAll ds = false := by simpa only [PyData.hasDict] using hd
    clear h hd
    induction xs generalizing ds with
    | nil =>
      have : ds = [] := List.eq_nil_of_length_eq_zero e.symm
      subst this; exact .nil
    | cons x xs jh =>
      cases ds with
      | nil => simp at e
      | cons d ds =>
        simp only [PyData.hasDictAll, Bool.or_eq_false_iff] at hd'
        exact .cons (ih 0 x d rfl rfl hd'.1) (jh (by simpa using e) (fun i v d a b => g (i + 1) v d (by simpa using a) (by simpa using b)) (fun i v d a b => ih (i + 1) v d (by simpa using a) (by simpa using b)) hd'.2)
  | dct h n e => intro hd; simp [PyData.hasDict] at hd
end
section
variable {X : Cx} {pins : List (Addr × Obj)} {σ : L2.St} {H : Hp} {s : Shared} {m : List Addr}
theorem Dq.reads (I : L2.Inv X pins σ H s) (c : smB X.K = true) {v : V} {d : PyData} (h : Dq X.K H m v d) : ∀ {u : Value}, RelV v u → ∃ as, Reads s.heap u d as ∧ sysModules ∉ as := by
  obtain ⟨so, ses, sn, sg, sd⟩ := smB_ok I.kIn c
  induction h with
  | non => intro u r; cases r; exact ⟨_, .none, by simp⟩
  | bl b => intro u r; cases r; exact ⟨_, .bool b, by simp⟩
  | int i => intro u r; obtain ⟨t, rfl⟩ := r; exact ⟨_, .int i t, by simp⟩
  | str x => intro u r; obtain ⟨t, rfl⟩ := r; exact ⟨_, .str x t, by simp⟩
  | @lst a xs ds h n e _ ih =>
    intro u r
    cases r
    obtain ⟨its, rv, ⟨o, k, ho, hc, _, hd⟩, _⟩ := I.list (SqL.of h)
    have all : ∀ {its : List Value} {xs : List V} {ds : List PyData}, Vals xs its → xs.length = ds.length → (∀ (i : Nat) (v : V) (d : PyData), xs[i]? = some v → ds[i]? = some d → ∀ {u : Value}, RelV v u → ∃ as, Reads s.heap u d as ∧ sysModules ∉ as) → ∃ as, ReadsAll s.heap its ds as ∧ sysModules ∉ as := by
      intro its xs ds rv
      induction rv generalizing ds with
      | nil =>
        intro e _
        have : ds = [] := List.eq_nil_of_length_eq_zero e.symm
        subst this; exact ⟨[], .nil, by simp⟩
      | cons r1 rs jh =>
        intro e g
        cases ds with
        | nil => simp at e
        | cons d ds =>
          obtain ⟨as, q1, q2⟩ := g 0 _ d rfl rfl r1
          obtain ⟨bs, p1, p2⟩ := jh (ds := ds) (by simpa using e) fun i v d a b => g (i + 1) v d (by simpa using a) (by simpa using b)
          exact ⟨_, .cons q1 p1, by simp [q2, p2]⟩
    obtain ⟨as, q1, q2⟩ := all rv e ih
    refine ⟨_, .list ho hc hd q1, ?_⟩
    intro hm
    rcases List.mem_cons.mp hm with z | z
    · rw [← z, sg] at ho; cases ho; rw [sd] at hd; cases hd
    · exact q2 z
  | @tup a xs ds h n e _ ih =>
    intro u r
    cases r
    obtain ⟨its, rv, ⟨o, ho, hc, k, hd⟩, _⟩ := I.tuple (SqT.of h)
    have all : ∀ {its : List Value} {xs : List V} {ds : List PyData}, Vals xs its → xs.length = ds.length → (∀ (i : Nat) (v : V) (d : PyData), xs[i]? = some v → ds[i]? = some d → ∀ {u : Value}, RelV v u → ∃ as, Reads s.heap u d as ∧ sysModules ∉ as) → ∃ as, ReadsAll s.heap its ds as ∧ sysModules ∉ as := by
      intro its xs ds rv
      induction rv generalizing ds with
      | nil =>
        intro e _
        have : ds = [] := List.eq_nil_of_length_eq_zero e.symm
        subst this; exact ⟨[], .nil, by simp⟩
      | cons r1 rs jh =>
        intro e g
        cases ds with
        | nil => simp at e
        | cons d ds =>
          obtain ⟨as, q1, q2⟩ := g 0 _ d rfl rfl r1
          obtain ⟨bs, p1, p2⟩ := jh (ds := ds) (by simpa using e) fun i v d a b => g (i + 1) v d (by simpa using a) (by simpa using b)
          exact ⟨_, .cons q1 p1, by simp [q2, p2]⟩
    obtain ⟨as, q1, q2⟩ := all rv e ih
    exact ⟨_, .tuple ho hc hd q1, q2⟩
  | @dct a kvs es h n e =>
    intro u r
    cases r
    obtain ⟨_, hns, vs, hkv, o, oes, ep, e1, e2, e3, e4, e5, e6⟩ := dk_of I.hok h
    obtain ⟨r1, r2⟩ := rdKV (h := s.heap) hkv e5 e
    refine ⟨_, .dict e1 e2.1 e3 r1 r2, fun hm => ?_⟩
    have z : sysModules = a := by simpa using hm
    rw [z] at hns
    simp at hns
def mReprG (K : PySem.W.Frag) : List V → Hp → VK → Prop := fun xs H Q => match xs with
  | [x] => ∃ d, Dq K H [] x d ∧ d.showable = true ∧ d.depth ≤ 64 ∧ d.shown.length ≤ sizeLine ∧ Q (.str d.shown) H
  | _ => False
theorem call_reprG {k : Nat} (c : smB X.K = true) (hr : RoomG k X.A) : CallR X (.builtin "repr") (mReprG X.K) := by
  intro pins s σ H xs us Q I r h
  unfold mReprG at h
  split at h
  · rename_i x
    obtain ⟨d, hs, h1, h2, h3, q⟩ := h
    obtain ⟨u, rfl, ru⟩ := vals_one r
    have hun := hr.un
    obtain ⟨as, rd, hsm⟩ := hs.reads I c ru
    have fin : ∀ (a : Addr) (as : List Addr), Reads s.heap (.ref a) d as → sysModules ∉ as → wpAny (model X.prog X.w) X.A (call (.builtin "repr") [.ref a]) (EP X pins σ Q) X.xe s := fun a as rd hsm =>
      repr_of_reads' rd h1 (fun _ => hsm) hr.gd (by omega) (fun _ _ e => e) (fun h' u tk k => ⟨.str d.shown, H, I.kept (t' := tk) k, ⟨u, rfl⟩, q⟩) h3
    cases rd with
    | none => exact PySem.P.repr_of_none ⟨.str "None", H, I.tok _, ⟨_, rfl⟩, by simpa only [PyData.shown] using q⟩
    | bool b => exact PySem.P.repr_of_bool ⟨.str (if b then "True" else "False"), H, I.tok _, ⟨_, rfl⟩, by simpa only [PyData.shown] using q⟩
    | int i t => exact PySem.P.repr_of_int (by simpa [PyData.showable] using h1) ⟨.str (toString i), H, I.tok _, ⟨_, rfl⟩, by simpa only [PyData.shown] using q⟩
    | str z t => exact PySem.P.repr_of_str ⟨.str (reprText z), H, I.tok _, ⟨_, rfl⟩, by simpa only [PyData.shown] using q⟩ (by simpa only [PyData.shown] using h3)
    | list e1 e2 e3 e4 => exact fin _ _ (.list e1 e2 e3 e4) hsm
    | tuple e1 e2 e3 e4 => exact fin _ _ (.tuple e1 e2 e3 e4) hsm
    | dict e1 e2 e3 e4 e5 => exact fin _ _ (.dict e1 e2 e3 e4 e5) hsm
  · exact h.elim
end
/-- what isinstance says of data -/
def isD : PyData → String → Bool
  | .str _, "str" => true
  | .list _, "list" => true
  | .tuple _, "tuple" => true
  | .int _, "int" => true
  | .bool _, "int" => true
  | .bool _, "bool" => true
  | _, _ => false
theorem Dq.isi {K : PySem.W.Frag} {H : Hp} {m : List Addr} {v : V} {d : PyData} {n : String} {Q : VK} (h : Dq K H m v d) (hn : n = "str" ∨ n = "list" ∨ n = "tuple" ∨ n = "int" ∨ n = "bool") (q : Q (.bl (isD d n)) H) : mIsi K [v, .ty n] H Q := by
  cases h with
  | non => rcases hn with rfl | rfl | rfl | rfl | rfl <;> unfold mIsi <;> simp only [tyN, kb16, kb17, kb18, kb19, kb20] <;> exact q
  | bl b => rcases hn with rfl | rfl | rfl | rfl | rfl <;> unfold mIsi <;> simp only [tyN, kb11, kb12, kb13, kb14, kb15] <;> exact q
  | int b => rcases hn with rfl | rfl | rfl | rfl | rfl <;> unfold mIsi <;> simp only [tyN, kb6, kb7, kb8, kb9, kb10] <;> exact q
  | str b => rcases hn with rfl | rfl | rfl | rfl | rfl <;> unfold mIsi <;> simp only [tyN, kb1, kb2, kb3, kb4, kb5] <;> exact q
  | lst h _ _ _ => rcases hn with rfl | rfl | rfl | rfl | rfl <;> first | exact ⟨_, _, tyX_list (SqL.of h), ki_list.1, q⟩ | exact ⟨_, _, tyX_list (SqL.of h), ki_list.2.1, q⟩ | exact ⟨_, _, tyX_list (SqL.of h), ki_list.2.2.1, q⟩ | exact ⟨_, _, tyX_list (SqL.of h), ki_list.2.2.2.1, q⟩ | exact ⟨_, _, tyX_list (SqL.of h), ki_list.2.2.2.2, q⟩
  | tup h _ _ _ => rcases hn with rfl | rfl | rfl | rfl | rfl <;> first | exact ⟨_, _, tyX_tup (SqT.of h), ki_tup.1, q⟩ | exact ⟨_, _, tyX_tup (SqT.of h), ki_tup.2.1, q⟩ | exact ⟨_, _, tyX_tup (SqT.of h), ki_tup.2.2.1, q⟩ | exact ⟨_, _, tyX_tup (SqT.of h), ki_tup.2.2.2.1, q⟩ | exact ⟨_, _, tyX_tup (SqT.of h), ki_tup.2.2.2.2, q⟩
  | dct h _ _ => rcases hn with rfl | rfl | rfl | rfl | rfl <;> first | exact ⟨_, _, .base (.dK h), ki_dict.1, q⟩ | exact ⟨_, _, .base (.dK h), ki_dict.2.1, q⟩ | exact ⟨_, _, .base (.dK h), ki_dict.2.2.1, q⟩ | exact ⟨_, _, .base (.dK h), ki_dict.2.2.2.1, q⟩ | exact ⟨_, _, .base (.dK h), ki_dict.2.2.2.2, q⟩
end M
namespace M
open PySem PySem.Spec PyProof.Rows L2
/-- +, of tuples too -/
def mAddT (K : PySem.W.Frag) : R2 := fun x y H Q => rCatA K x y H Q ∨ mAdd x y H Q
theorem op_addT {X : Cx} : OpR X (binaryOp .Add) (mAddT X.K) := by
  intro pins s σ H x y v u Q I rx ry h
  rcases h with h | h
  · exact op_catA pins s σ H x y v u Q I rx ry h
  · exact op_addM pins s σ H x y v u Q I rx ry h
end M

/-! ### enumerate(text) -/
namespace M
open PySem PySem.Spec PyProof.Rows L2
def IteS (x : Str) : It :=
  ⟨fun i _ => i < x.cps.size, fun i H v H' => ∃ T c, v = .ref T ∧ H T = none ∧ H' = upd H T (.tup [.int (i : Nat), .str ⟨#[c]⟩]) ∧ x.cps[i]? = some c, fun i _ => x.cps.size = i⟩
theorem draws_str {prog : Program} {w : World} {A : Around} (hh : A.handled = none) (it : Addr) (x : Str) (t : Tok) :
    Draws prog w A.in1 it [it] x.cps.size (fun i v => ∃ c u, x.cps[i]? = some c ∧ v = .str ⟨#[c]⟩ u) (fun i h => h.IsStrIter it (strIterType x) x t i) := by
  cases ha : x.cps.all (· < 128)
  · have e : strIterType x = "str_iterator" := by simp [strIterType, ha]
    rw [e]; exact Draws.strWide (A := A.in1) hh it x t
  · have e : strIterType x = "str_ascii_iterator" := by simp [strIterType, ha]
    rw [e]; exact Draws.strAscii (A := A.in1) hh it x t
theorem turn_enumS {P : Program} {w : World} {K : PySem.W.Frag} {elts : List Expr} {kk : Nat} {tpos : Pos} (x : Str) (t : Tok) (e it : Addr) :
    Turn P w K (.Tuple elts kk tpos) (IteS x) [e, it] e (fun i h => (∃ old, IsEnum h e it ((i : Nat) : Int) old) ∧ h.IsStrIter it (strIterType x) x t i ∧ e ≠ it) where
  mem := by simp
  obj := fun i h st b hb => by
    obtain ⟨⟨old, he⟩, ⟨o, ho, hc, hd⟩, _⟩ := st
    have e' : b = e ∨ b = it := by simpa using hb
    rcases e' with z | z
    · rw [z]; exact ⟨_, he, fun v q => nomatch q⟩
    · rw [z]; exact ⟨o, ho, fun v q => by rw [hd] at q; cases q⟩
  keep := fun i h h' st k => let ⟨⟨old, he⟩, ⟨o, ho, r⟩, hne⟩ := st; ⟨⟨old, k e (by simp) _ he⟩, ⟨o, k it (by simp) o ho, r⟩, hne⟩
  item := by
    intro X hP hw hK hc i pins s σ H E I hf st hg
    subst hP hw hK
    obtain ⟨⟨old, he⟩, hit, hne⟩ := st
    have hel : e < s.heap.objs.size := Heap.lt_size he
    have hil : it < s.heap.objs.size := by obtain ⟨_, q, _⟩ := hit; exact Heap.lt_size q
    refine wpAny_pyNext_enum_itemD (draws_str (I.ok.hd hc) it x t) he hit hg hne (by simpa using hne) fun y h' tk hP ho hit' hT hsz hk => ?_
    obtain ⟨c, u, hcx, rfl⟩ := hP
    refine ⟨_, rfl, wpAny_letOwnedTupleGo_enum (s := { s with heap := h', toks := tk + 1 }) ho fun h'' he' sb => ?_⟩
    have hT2 : h''.get? s.heap.objs.size = some { cls := .type "tuple", data := .seq #[.int i tk, .str ⟨#[c]⟩ u] } := (sb.2 _ (Nat.ne_of_gt hel)).trans hT
    have new : ObjOk X.prog X.w (upd H s.heap.objs.size (.tup [.int (i : Nat), .str ⟨#[c]⟩])) h'' s.heap.objs.size (.tup [.int (i : Nat), .str ⟨#[c]⟩]) :=
      ⟨by show 2 ≤ sizeLine; decide, [.int i tk, .str ⟨#[c]⟩ u], .cons ⟨_, rfl⟩ (.cons ⟨_, rfl⟩ .nil), ⟨_, hT2, rfl, _, rfl⟩⟩
    have I1 : Inv X pins σ (upd H s.heap.objs.size (.tup [.int (i : Nat), .str ⟨#[c]⟩])) { s with heap := h'', toks := tk + 1 } :=
      I.turnedNew (ch := [e, it]) (fun b ob hb q => (sb.2 b (fun z => hb (by simp [z]))).trans (hk b ob (fun z => hb (by simp [z])) (fun z => hb (by simp [z])) q)) hf (Nat.le_refl _) new
    refine ⟨.ref s.heap.objs.size, _, I1, rfl, ⟨_, c, rfl, I.hok.fresh (Nat.le_refl _), rfl, hcx⟩, ⟨⟨.str ⟨#[c]⟩ u, ?_⟩, ?_, hne⟩, fun b hb => ?_⟩
    · have e1 : ((i + 1 : Nat) : Int) = (i : Int) + 1 := by omega
      rw [e1]; exact he'
    · obtain ⟨o, ho', r⟩ := hit'
      exact ⟨o, (sb.2 it (Ne.symm hne)).trans ho', r⟩
    · have hb' : b < s.heap.objs.size := by
        have e' : b = e ∨ b = it := by simpa using hb
        rcases e' with z | z
        · rw [z]; exact hel
        · rw [z]; exact hil
      rw [upd_ne (Nat.ne_of_lt hb')]
      exact (hf b hb).1
  done := by
    intro X hP hw hK hc i pins s σ H E I hf st hg
    subst hP hw hK
    obtain ⟨⟨old, he⟩, hit, hne⟩ := st
    obtain ⟨f0, f1, f2, f3, f4, f5⟩ := hf it (by simp)
    have hg' : x.cps.size = i := hg
    subst hg'
    exact wpAny_pyNext_enum_endD (draws_str (I.ok.hd hc) it x t) he hit fun h' eb => ⟨rfl, I.turned (t' := s.toks) (fun b o hb q => eb b o hb q) f0 f1 f3 f4 f5⟩
  self := fun A i s Q E st h => let ⟨⟨_, he⟩, _⟩ := st; wpAny_pyIter_enum he h
def iEnumS (ta : TA) : TI := fun σ H R => ta σ H fun vs H1 => ∃ x, vs = [.str x] ∧ R (IteS x) H1
theorem pi_enumS {X : Cx} {e : Expr} {ta : TA} {p pos tpos : Pos} {elts : List Expr} {kk : Nat} (hg : Gl X "enumerate") (hm : X.mg "enumerate" = none) (ha : PA X [e] ta) (hs : starEach [e] X.env = [(false, eval e X.env)] := by rfl) :
    PI X (.Tuple elts kk tpos) (.Call (.Name "enumerate" p) [e] [] pos) (iEnumS ta) := by
  refine ⟨fun pins s σ H R I h => ?_⟩
  refine Call_ (ld_blt I hg hm boot_enumerate (PyProof.Rows.callWith_type1 (thn (ha.run pos pins s σ H _ I h) fun us s1 ⟨vs, H1, I1, r1, q1⟩ => ?_) hs rfl))
  obtain ⟨x, ex, q⟩ := q1
  subst ex
  cases r1 with
  | cons r rr =>
    cases rr
    obtain ⟨t, rfl⟩ := r
    refine call_enumerate_str fun h' he hit hsz hk => wpAny_pyIter_enum he ?_
    have I2 : Inv X pins σ H1 { s1 with heap := h' } := I1.kept (t' := s1.toks) hk
    refine ⟨s1.heap.objs.size + 1, [s1.heap.objs.size + 1, s1.heap.objs.size], _, _, H1, rfl, I2, turn_enumS x t (s1.heap.objs.size + 1) s1.heap.objs.size, ⟨⟨.none, he⟩, hit, Nat.succ_ne_self _⟩, fun b hb => ?_, q⟩
    have e' : b = s1.heap.objs.size + 1 ∨ b = s1.heap.objs.size := by simpa using hb
    have hle : s1.heap.objs.size ≤ b := by
      rcases e' with z | z
      · rw [z]; exact Nat.le_add_right _ _
      · rw [z]; exact Nat.le_refl _
    exact I1.fpOk hle (I1.hok.fresh hle)
theorem walk_enumS {x : Str} : Walk (IteS x) x.cps.size (fun _ => True) (YPair (fun i => some (.int (i : Nat))) (fun i => (x.cps.toList.map fun c => V.str (S [c]))[i]?)) := by
  refine ⟨fun i _ hi _ => hi, fun _ _ => rfl, fun i H v H' _ q y => ?_⟩
  obtain ⟨T, c, h1, h2, h3, h4⟩ := y
  exact ⟨T, .int (i : Nat), .str ⟨#[c]⟩, h1, h2, h3, rfl, by show (List.map (fun c => V.str (S [c])) x.cps.toList)[i]? = _; rw [List.getElem?_map, Array.getElem?_toList, h4]; rfl⟩
theorem feeds_enumS {x : Str} : Feeds (IteS x) (.p (fun _ => True) (numd 0 (x.cps.toList.map fun c => V.str (S [c])))) := by
  show Walk _ (numd 0 (x.cps.toList.map fun c => V.str (S [c]))).length _ _
  rw [numd_len, List.length_map, Array.length_toList]
  refine Walk.mono walk_enumS (fun _ h => h) fun i H y H' _ _ ⟨T, a, z, h1, h2, h3, h4, h5⟩ => ⟨T, a, z, h1, h2, h3, ?_, ?_⟩
  · show (numd 0 _)[i]?.map (·.1) = _
    have h5' : (x.cps.toList.map fun c => V.str (S [c]))[i]? = some z := h5
    rw [numd_get, h5', ← h4]; simp
  · show (numd 0 _)[i]?.map (·.2) = _
    have h5' : (x.cps.toList.map fun c => V.str (S [c]))[i]? = some z := h5
    rw [numd_get, h5']; simp
def mEnumS (ta : TE) : MI := fun σ H P => ta σ H fun x H1 => match x with
  | .str z => P (.p (fun _ => True) (numd 0 (z.cps.toList.map fun c => V.str (S [c])))) H1
  | _ => False
theorem pi_enumSM {X : Cx} {e : Expr} {ta : TE} {p pos tpos : Pos} {elts : List Expr} {kk : Nat} (hg : Gl X "enumerate") (hm : X.mg "enumerate" = none) (ha : PE X e ta) (hs : starEach [e] X.env = [(false, eval e X.env)] := by rfl) :
    PI X (.Tuple elts kk tpos) (.Call (.Name "enumerate" p) [e] [] pos) (toTI (mEnumS ta)) :=
  pi_imp (pi_enumS hg hm (pa_cons (pe_cl ha) pa_nil hs) hs) fun σ H R ⟨P, q, w⟩ => ⟨_, q, fun x H1 z => by
    cases x with
    | str a => exact ⟨a, rfl, w _ _ _ z feeds_enumS⟩
    | _ => exact z.elim⟩
end M

/-! ### deep data compared -/
namespace M
open PySem PySem.Spec PyProof.Rows L2
def rEqG (K : PySem.W.Frag) (neg : Bool) : R2 := fun x y H Q => ∃ d e, Dp K H x d ∧ Dp K H y e ∧ d.canLay0 = true ∧ e.canLay0 = true ∧ min d.depth e.depth ≤ 260 ∧ Q (.bl (if neg then !PyData.eqv d e else PyData.eqv d e)) H
theorem RoomG.unitsG {k : Nat} {A : Around} (r : RoomG k A) : A.units + 300 < cLine := by have := r.un; omega
def mEqG (K : PySem.W.Frag) : R2 := fun x y H Q => match mEqB x y with
  | some b => Q (.bl b) H
  | none => rEqG K false x y H Q
theorem op_eqGM {X : Cx} (hu : X.A.units + 300 < cLine) : OpR X (compareOp .Eq) (mEqG X.K) := by
  intro pins s σ H x y v u Q I rx ry q
  unfold mEqG at q
  split at q
  · rename_i b e
    obtain ⟨h1, h2⟩ := mEqB_ok e
    refine op_eq pins s σ H _ _ v u Q I rx ry ⟨h1, ?_⟩
    rw [h2]; exact q
  · obtain ⟨d, e, hd, he, sd, se, hm, q⟩ := q
    obtain ⟨as, r1⟩ := Dp.reads I d x v hd rx
    obtain ⟨bs, r2⟩ := Dp.reads I e y u he ry
    exact SeqAt.compareEq_reads r1 r2 sd se (by omega) ⟨.bl _, H, I, rfl, q⟩
theorem Tr.dat_eqv : ∀ t : Tr, PyData.eqv t.dat t.dat = true
  | .lf => by simp [Tr.dat, PyData.eqv, PyData.eqvAll]
  | .nd l r => by simp [Tr.dat, PyData.eqv, PyData.eqvAll, Tr.dat_eqv l, Tr.dat_eqv r]
theorem Tr.dat_dep : ∀ t : Tr, t.dat.depth ≤ t.n + 1
  | .lf => by simp only [Tr.dat, PyData.depth, PyData.depthAll, Tr.n]; omega
  | .nd l r => by
    have h1 := Tr.dat_dep l
    have h2 := Tr.dat_dep r
    simp only [Tr.dat, PyData.depth, PyData.depthAll, Tr.n]; omega
/-- one tree's nest, twice -/
theorem eq_nestG {K : PySem.W.Frag} {H : Hp} {Q : VK} {v w : V} {t : Tr} (h1 : Nst K H v t) (h2 : Nst K H w t) (hd : t.dat.depth ≤ 260) (k : Q (.bl true) H) : mEqG K v w H Q := by
  obtain ⟨a, rfl⟩ := h1.ref
  obtain ⟨b, rfl⟩ := h2.ref
  exact ⟨t.dat, t.dat, h1.dp, h2.dp, t.lay, t.lay, by omega, by rw [Tr.dat_eqv]; exact k⟩
end M

/-! ### defs called by their parameters' names alone, written in the order turned about -/
namespace M
open PySem PySem.Spec PyProof.Rows L2
theorem vals_snoc {vs : List V} {us : List Value} {v : V} {u : Value} (h : Vals vs us) (r : RelV v u) : Vals (vs ++ [v]) (us ++ [u]) := h.append (.cons r .nil)
theorem vals_rev : ∀ {vs : List V} {us : List Value}, Vals vs us → Vals vs.reverse us.reverse := by
  intro vs us h
  induction h with
  | nil => exact .nil
  | cons r _ ih => rw [List.reverse_cons, List.reverse_cons]; exact vals_snoc ih r
structure CalK (P : Program) (w : World) (K : PySem.W.Frag) (mg : Str → Option Value) (base : Heap) (CX : CXT) (x : Str) (k : Nat) (ps ks : List Str) (sp : Sp) : Prop where
  ex : ∃ f fd, FnG P w K mg base CX k f fd ps sp ∧ mg x = some (.ref f) ∧ PySem.W.keepIn K (.ref f) = true ∧ KBn K fd ps 0 ks (fun _ ws => ws.reverse) (fun _ zs => zs.reverse)
def tKw (sp : Sp) (m : Nat) (E : XK) (t : TA) : TE := fun σ H Q => t σ H fun zs H1 => zs.length = m ∧ sp zs.reverse H1 Q E
section
variable {K : PySem.W.Frag} {x qual : Str} {params : Arguments} {body : List Stmt} {scope : Scope} {f : Addr} {fd : FuncData} {ps : List Str}
theorem kb_of (ks : List Str) (F : FunD K x qual params body scope [] [] f fd)
    (h : ∀ (kV doc pm : Value) (an : Option Addr) (cdv ct : Value) (ws : List Value), ws.length = ks.length → bindArgs (PySem.W.fnOf x qual params body scope .none kV doc pm an cdv ct) ⟨[], ks.zip ws⟩ = pure (ps.zip ws.reverse)) :
    KBn K fd ps 0 ks (fun _ ws => ws.reverse) (fun _ zs => zs.reverse) := by
  obtain ⟨oc, od, dV, kV, doc, pm, an, cdv, ct, osl, rfl, lk, hcd, hD, hK⟩ := F.ex
  rcases hD with ⟨_, rfl⟩ | ⟨e, _⟩
  · refine ⟨fun s us ws X l1 l2 => ?_, fun _ rz => vals_rev rz⟩
    cases us with
    | nil => exact .of_eq (h kV doc pm an cdv ct ws l2)
    | cons a b => simp at l1
  · exact absurd rfl e
end
section
variable {X : Cx} {CX : CXT} {k m : Nat} {ps ks : List Str} {sp : Sp} {E : XK} {x : Str} {p pos : Pos} {kws : List Keyword} {t : TA}
theorem me_callK (C : CalK X.prog X.w X.K X.mg X.base CX x k ps ks sp) (hr : RoomG k X.A) (hg : Gl X x) (hx : Passes CX X E) (hkw : PK X kws t)
    (hall : (backToKw pos (keywordEach kws X.env)).all (·.1.isSome) = true := by rfl) (hks : (backToKw pos (keywordEach kws X.env)).filterMap (·.1) = ks := by rfl)
    (hdb : (x == ("__debug__" : Str)) = false := by decide)
    (hpl : ((backTo pos (starEach [] X.env)).any (·.1) || (backToKw pos (keywordEach kws X.env)).any (·.1.isNone)) = false := by rfl) (hm : ks.length = m := by rfl) :
    PE X (.Call (.Name x p) [] kws pos) (tKw sp m E t) := by
  subst hm
  obtain ⟨f, fd, F, hm, hk, hb⟩ := C.ex
  refine ⟨fun pins s σ H Q I h => wpAny_Call_Name_kw (ld_glob I hg hm ?_ hdb)⟩
  refine PySem.W.callWith_KW0 (h₀ := X.base) I.ok.mod.kin hk hall (thn (hkw.run pos pins s σ H _ I h) fun ws s2 ⟨zs, H2, I2, rz, l2, q2⟩ => ⟨I2.kIn, ?_⟩) hpl
  rw [hks]
  have r2 : Vals zs.reverse ws.reverse := vals_rev rz
  refine wpAny_call (codeAny_mono (F.run X.A X.stack s2 H2 ⟨[], ks.zip ws⟩ ws.reverse zs.reverse Q E hr I2.env0 (hb.to s2 [] ws I2.kIn rfl (rz.length.symm.trans l2)) r2 q2) fun r s' hq => ?_)
  rcases r with er | fl
  · exact hx pins σ H2 s2 er s' I2 hq
  · cases fl with
    | ret u => exact I2.after hq
    | next => exact False.elim hq
    | brk => exact False.elim hq
    | cont => exact False.elim hq
end
end M

/-! ### own classes: made, called, their attributes, properties, methods and operators -/
namespace M
open PySem PySem.Spec PyProof.Rows L2
theorem make_guards {A : Around} {C : Addr} {us : List Value} {kw : List (Str × Value)} : (A.under (.builtin "type.__call__" ⟨.ref C :: us, kw⟩)).guards = A.guards := by
  first | rfl | simp [Around.under, Code.weight, Code.isCreation, Code.isGuard, Code.isCaller, Code.frames, Code.isFrame, guardIds]
theorem RoomG.make {k : Nat} {A : Around} (r : RoomG (k + 1) A) (C : Addr) (us : List Value) (kw : List (Str × Value)) : RoomG k (A.under (.builtin "type.__call__" ⟨.ref C :: us, kw⟩)) :=
  ⟨r.hd, by have := r.dp; rw [make_depth]; omega, by have := r.un; rw [make_units]; omega, by rw [make_guards]; exact r.gd⟩
theorem RoomG.in1 {k : Nat} {A : Around} (r : RoomG (k + 1) A) : RoomG k A.in1 :=
  ⟨r.hd, by have := r.dp; show A.depth + k + 20 < _; omega, by have := r.un; show A.units + 1 + 8 * k + 300 < _; omega, r.gd⟩
/-- a def called by place with all its arguments -/
structure CalR (P : Program) (w : World) (K : PySem.W.Frag) (mg : Str → Option Value) (base : Heap) (CX : CXT) (k : Nat) (f : Addr) (sp : Sp) : Prop where
  ex : ∃ fd ps, FnG P w K mg base CX k f fd ps sp ∧ Binds K fd ps []
theorem CalR.mono {P : Program} {w : World} {K : PySem.W.Frag} {mg : Str → Option Value} {base : Heap} {CX : CXT} {j k : Nat} {f : Addr} {sp : Sp} (c : CalR P w K mg base CX j f sp) (h : j ≤ k) : CalR P w K mg base CX k f sp := by
  obtain ⟨fd, ps, F, b⟩ := c.ex
  exact ⟨fd, ps, F.mono h, b⟩
section
variable {X : Cx} {CX : CXT} {k : Nat} {C f : Addr} {sp : Sp} {E : XK} {pins : List (Addr × Obj)} {σ : L2.St} {H : Hp} {s : Shared} {us : List Value} {vs : List V} {Q : VK} {A : Around}
/-- the callee's code, from any Around that stands in the same frames -/
theorem code_calR (c : CalR X.prog X.w X.K X.mg X.base CX k f sp) (hr : RoomG k A) (hf : A.frames = X.A.frames) (I : Inv X pins σ H s) (r : Vals vs us) (h : sp vs H Q E) :
    codeAny (model X.prog X.w) A (.call (.ref f) ⟨us, []⟩) (CR CX X.stack X.prog X.w H s Q E) s := by
  obtain ⟨fd, ps, F, hb⟩ := c.ex
  have e0 : Env0 X.prog X.w X.K X.mg X.base A X.stack s H := by
    have e := I.env0
    exact ⟨by rw [hf]; exact e.frames, e.mod, e.bs, e.bsz, e.funs, e.frf, e.hok, e.bare⟩
  have hl := r.length.symm.trans (F.len _ _ _ _ h)
  have b := hb s us I.kIn (by simpa using hl)
  rw [List.append_nil] at b
  exact F.run A X.stack s H ⟨us, []⟩ us vs Q E hr e0 b r h
theorem run_calR (c : CalR X.prog X.w X.K X.mg X.base CX k f sp) (hr : RoomG k A) (hf : A.frames = X.A.frames) (hx : Passes CX X E) (I : Inv X pins σ H s) (r : Vals vs us) (h : sp vs H Q E) :
    wpAny (model X.prog X.w) A (call (.ref f) us) (EP X pins σ Q) X.xe s := by
  refine wpAny_call (codeAny_mono (code_calR c hr hf I r h) fun r s' hq => ?_)
  rcases r with er | fl
  · exact hx pins σ H s er s' I hq
  · cases fl with
    | ret u => exact I.after hq
    | next => exact False.elim hq
    | brk => exact False.elim hq
    | cont => exact False.elim hq
end
section
variable {X : Cx} {CX : CXT} {k : Nat} {f C g p : Addr} {sp : Sp} {E : XK} {x m : Str} {ps_ pos apos : Pos} {e o : Expr} {es : List Expr} {ta te tf : TE} {t : TA}
/-! making -/
theorem run_makeG {pins : List (Addr × Obj)} {σ : L2.St} {H : Hp} {s : Shared} {Q : VK} {us : List Value} {vs : List V} (MK : Mk X.K C f) (F : CalR X.prog X.w X.K X.mg X.base CX k f sp) (hr : RoomG (k + 1) X.A)
    (hx : Passes CX X E) (I : Inv X pins σ H s) (r : Vals vs us)
    (h : ∀ x dx, H x = none → H dx = none → dx ≠ x → sp (.ref x :: (vs ++ [])) (upd (upd H dx (.own x)) x (.ins C dx [])) (fun v H2 => v = .non ∧ Q (.ref x) H2) E) :
    wpAny (model X.prog X.w) X.A (call (.ref C) us) (EP X pins σ Q) X.xe s := by
  have hq := h (s.heap.objs.size + 1) s.heap.objs.size (I.hok.fresh (Nat.le_succ _)) (I.hok.fresh (Nat.le_refl _)) (Nat.ne_of_lt (Nat.lt_succ_self _))
  have I2 := Inv.made (C := C) I
  have r2 : Vals (V.ref (s.heap.objs.size + 1) :: (vs ++ [])) (Value.ref (s.heap.objs.size + 1) :: us) := .cons rfl (by rw [List.append_nil]; exact r)
  have e0 := I2.env0.make C us []
  obtain ⟨fd, ps, FF, hb⟩ := F.ex
  have hl := r2.length.symm.trans (FF.len _ _ _ _ hq)
  have b := hb _ (Value.ref (s.heap.objs.size + 1) :: us) I2.kIn (by simpa using hl)
  rw [List.append_nil] at b
  refine wpAny_call (make_map (f := f) I.kIn MK.makes MK.init (beq_iff_eq.mp MK.fn) (codeAny_mono (FF.run _ X.stack _ _ ⟨Value.ref (s.heap.objs.size + 1) :: us, []⟩ (Value.ref (s.heap.objs.size + 1) :: us) _ _ E (hr.make C us []) e0 b r2 hq) fun r s' hq' => ?_))
  cases r with
  | error e => exact hx pins σ _ _ e s' I2 hq'
  | ok fl =>
    cases fl with
    | ret u =>
      obtain ⟨v, H', I3, rv, ev, q3⟩ := I2.after hq'
      subst ev
      exact ⟨rv, ⟨V.ref (s.heap.objs.size + 1), H', I3, rfl, q3⟩⟩
    | next => exact False.elim hq'
    | brk => exact False.elim hq'
    | cont => exact False.elim hq'
theorem me_make (MK : Mk X.K C f) (F : CalR X.prog X.w X.K X.mg X.base CX k f sp) (hr : RoomG (k + 1) X.A) (hg : Gl X x) (hm : X.mg x = some (.ref C)) (hx : Passes CX X E)
    (ha : PA X (e :: es) t) (hdb : (x == ("__debug__" : Str)) = false := by decide) (he : starEach (e :: es) X.env = (false, eval e X.env) :: starEach es X.env := by rfl) (hpl : (backTo pos (starEach es X.env)).any (·.1) = false := by rfl) :
    PE X (.Call (.Name x ps_) (e :: es) [] pos) (tMake C sp [] E t) := by
  refine ⟨fun pins s σ H Q I h => ?_⟩
  refine wpAny_Call_Name_kw (ld_glob I hg hm ?_ hdb)
  refine PySem.W.callWith_K (h₀ := X.base) I.ok.mod.kin MK.kp (thn (ha.run pos pins s σ H _ I h) fun us s1 ⟨vs, H1, I1, r, q⟩ => ⟨I1.kIn, ?_⟩) he hpl
  exact run_makeG MK F hr hx I1 r q
/-- cls(..), cls a variable that holds the class -/
def tMakeV (C : Addr) (sp : Sp) (E : XK) (tf : TE) (t : TA) : TE := fun σ H Q => tf σ H fun y H1 => y = .ref C ∧ tMake C sp [] E t σ H1 Q
theorem me_makeV (hf : PE X e tf) (MK : Mk X.K C f) (F : CalR X.prog X.w X.K X.mg X.base CX k f sp) (hr : RoomG (k + 1) X.A) (hx : Passes CX X E) {e1 : Expr}
    (ha : PA X (e1 :: es) t) (ht : eval (.Call e (e1 :: es) [] pos) X.env = (do callWith pos (← eval e X.env) [] (backTo pos (starEach (e1 :: es) X.env)) (backToKw pos (keywordEach [] X.env))) := by rfl)
    (he : starEach (e1 :: es) X.env = (false, eval e1 X.env) :: starEach es X.env := by rfl) (hpl : (backTo pos (starEach es X.env)).any (·.1) = false := by rfl) :
    PE X (.Call e (e1 :: es) [] pos) (tMakeV C sp E tf t) := by
  refine ⟨fun pins s σ H Q I h => ?_⟩
  refine Call_ (thn (hf.run pins s σ H _ I h) fun u s1 ⟨y, H1, I1, ry, ey, q⟩ => ?_) ht
  subst ey
  obtain rfl : u = Value.ref C := ry
  refine PySem.W.callWith_K (h₀ := X.base) I1.ok.mod.kin MK.kp (thn (ha.run pos pins s1 σ H1 _ I1 q) fun us s2 ⟨vs, H2, I2, r, q2⟩ => ⟨I2.kIn, ?_⟩) he hpl
  exact run_makeG MK F hr hx I2 r q2
/-! methods -/
theorem me_meth {pl : Sem Bool} (he : PE X o ta) (c : Cls X.K C) (hm : Meth X.K C m f) (F : CalR X.prog X.w X.K X.mg X.base CX k f sp) (hr : RoomG k X.A) (hx : Passes CX X E) (ha : PA X (e :: es) t)
    (hst : starEach (e :: es) X.env = (false, eval e X.env) :: starEach es X.env := by rfl) (hpl : (backTo pos (starEach es X.env)).any (·.1) = false := by rfl)
    (ht : eval (.Call (.Attribute o m apos) (e :: es) [] pos) X.env = (do
      let ov ← eval o X.env
      standAt apos.atName
      let (f, first) ← holding [ov] (getMethod ov m pl)
      callWith pos f first (backTo pos (starEach (e :: es) X.env)) (backToKw pos (keywordEach [] X.env))) := by rfl) :
    PE X (.Call (.Attribute o m apos) (e :: es) [] pos) (tMeth C m sp [] E ta t) := by
  refine ⟨fun pins s σ H Q I h => ?_⟩
  refine PySem.W.methodCall_KW (pl := pl) (thn (he.run pins s σ H _ I h) fun u s1 ⟨x, H1, I1, rx, a, dx, fs, ex, ea, l, q⟩ => ?_) ht
  subst ex
  obtain rfl : u = Value.ref a := rx
  refine getmeth_ok I1 ea c hm l ?_
  refine PySem.W.callWith_K (first := [.ref a]) (h₀ := X.base) I.ok.mod.kin hm.kp (thn (ha.run pos pins s1 σ H1 _ I1 q) fun us s2 ⟨vs, H2, I2, r, q2⟩ => ⟨I2.kIn, ?_⟩) hst hpl
  exact run_calR (us := .ref a :: us) (vs := .ref a :: (vs ++ [])) F hr rfl hx I2 (.cons rfl (by rw [List.append_nil]; exact r)) q2
/-! properties -/
theorem me_prop (he : PE X e ta) (c : Cls X.K C) {fl : Str} (hp : PropOf X.K C fl p g) (F : CalR X.prog X.w X.K X.mg X.base CX0 k g sp) (hr : RoomG (k + 1) X.A)
    (hab : attributeBase e fl X.env (eval e X.env) = eval e X.env) : PE X (.Attribute e fl pos) (tProp C sp [] E0 ta) := by
  refine ⟨fun pins s σ H Q I h => ?_⟩
  refine attr_of hab (thn (he.run pins s σ H _ I h) fun u s1 ⟨x, H1, I1, rx, a, dx, fs, ex, ea, q⟩ => ?_)
  subst ex
  obtain rfl : u = Value.ref a := rx
  obtain ⟨mA, O, _, _, _, _⟩ := ins_get I1.hok ea
  obtain ⟨od, J, _⟩ := O.look
  obtain ⟨rest, hrec⟩ := hp.rec_
  have I2 := I1.tok (s1.toks + 1)
  have hc : (PySem.W.clsIn X.K C).isSome = true := by
    obtain ⟨cd, hc, _⟩ := PySem.W.any_some c.hd
    rw [hc]
    rfl
  refine PySem.W.get_bind I1.kIn J (PySem.W.plainGet_of (c.get fl)).1 (PySem.W.findObj_data hc hp.at_ hp.get hp.tak) (PySem.W.plainGet_of (c.get fl)).2 (wpAny_call (PySem.W.prop_get (s := { s1 with toks := s1.toks + 1 }) I1.kIn hrec ?_))
  refine codeAny_mono (code_calR (A := X.A.in1) (E := E0) F hr.in1 rfl I2 (us := [.ref a]) (vs := [.ref a]) (.cons rfl .nil) q) fun r s' hq => ?_
  cases r with
  | error er => exact False.elim hq
  | ok fl =>
    cases fl with
    | ret u =>
      obtain ⟨v, H', I3, rv, q3⟩ := I2.after hq
      show wpAny _ _ (handedOut u) _ _ _
      rw [PySem.W.handedOut_of (handed_of rv)]
      exact wpAny_pure ⟨v, H', I3, rv, q3⟩
    | next => exact False.elim hq
    | brk => exact False.elim hq
    | cont => exact False.elim hq
/-! fields -/
def tFldC (C : Addr) (fl : Str) (ta : TE) : TE := fun σ H Q => ta σ H fun x H1 => ∃ a dx fs v, x = .ref a ∧ H1 a = some (.ins C dx fs) ∧ fs.lookup fl = some v ∧ Q v H1
theorem me_fldC {fl : Str} (he : PE X e ta) (c : Cls X.K C) (n : NoAttr X.K C fl) (hb : attributeBase e fl X.env (eval e X.env) = eval e X.env) : PE X (.Attribute e fl pos) (tFldC C fl ta) := by
  refine ⟨fun pins s σ H Q I h => ?_⟩
  refine attr_of hb (thn (he.run pins s σ H _ I h) fun u s1 ⟨x, H1, I1, rx, a, dx, fs, v, ex, ea, l, q⟩ => ?_)
  subst ex
  obtain rfl : u = Value.ref a := rx
  exact getattr_ok I1 ea c n l fun u' s2 I2 ru => ⟨v, H1, I2, ru, q⟩
def sFldC (C : Addr) (fl : Str) (ta tv : TE) : TS := fun D σ H => tv σ H fun y H1 => ta σ H1 fun x H2 => ∃ a dx fs, x = .ref a ∧ H2 a = some (.ins C dx fs) ∧ fs.length < 1000 ∧ D.nx σ (upd H2 a (.ins C dx (putF fl y fs)))
theorem ms_fldC {fl : Str} {value : Expr} {tv : TE} {pos' : Pos} (ha : PE X o ta) (hv : PE X value tv) (c : Cls X.K C) (n : NoAttr X.K C fl) (hs : swapsWith value (some (.Attribute o fl pos')) pos.line X.env = pure false) : PS X (.Assign [.Attribute o fl pos'] value pos) (sFldC C fl ta tv) := by
  refine ⟨fun pins s σ H D I h => ?_⟩
  refine plainObj_wpAny_Assign_Attribute (thn (hv.run pins s σ H _ I h) fun u s1 ⟨y, H1, I1, ry, q⟩ => thn (ha.run pins s1 σ H1 _ I1 q) fun ov s2 ⟨x, H2, I2, rx, a, dx, fs, ex, ea, l, q2⟩ => ?_) hs
  subst ex
  obtain rfl : ov = Value.ref a := rx
  exact setattr_ok I2 ea c n l ry fun s3 I3 => ⟨σ, _, I3, q2⟩
/-! calls of instances -/
def tInst (C : Addr) (sp : Sp) (E : XK) (tf : TE) (t : TA) : TE := fun σ H Q => tf σ H fun y H1 => ∃ a, y = .ref a ∧ t σ H1 fun vs H2 => (∃ dx fs, H2 a = some (.ins C dx fs)) ∧ sp (.ref a :: vs) H2 Q E
theorem me_inst {fe : Expr} (hf : PE X fe tf) (c : StX.CallO X.K C g) (F : CalR X.prog X.w X.K X.mg X.base CX k g sp) (hr : RoomG k X.A) (hx : Passes CX X E) (ha : PA X (e :: es) t)
    (ht : eval (.Call fe (e :: es) [] pos) X.env = (do callWith pos (← eval fe X.env) [] (backTo pos (starEach (e :: es) X.env)) (backToKw pos (keywordEach [] X.env))) := by rfl)
    (he : starEach (e :: es) X.env = (false, eval e X.env) :: starEach es X.env := by rfl) (hpl : (backTo pos (starEach es X.env)).any (·.1) = false := by rfl) : PE X (.Call fe (e :: es) [] pos) (tInst C sp E tf t) := by
  refine ⟨fun pins s σ H Q I h => ?_⟩
  refine Call_ (thn (hf.run pins s σ H _ I h) fun u s1 ⟨y, H1, I1, ry, a, ey, q⟩ => ?_) ht
  subst ey
  obtain rfl : u = Value.ref a := ry
  refine StX.callO_with (thn (ha.run pos pins s1 σ H1 _ I1 q) fun us s2 ⟨vs, H2, I2, r, ⟨dx, fs, hi⟩, q2⟩ => ?_) he hpl
  obtain ⟨mA, O, _⟩ := ins_get I2.hok hi
  obtain ⟨od, J, _⟩ := O.look
  refine ⟨⟨C, _, _, J, rfl⟩, wpAny_call (PySem.W.kco_code I2.kIn J rfl c.at_ c.fn c.fi (codeAny_mono (code_calR (us := .ref a :: us) (vs := .ref a :: vs) (E := E) F hr rfl I2 (.cons rfl r) q2) fun r s' hq => ?_))⟩
  rcases r with er | fl
  · exact hx pins σ H2 s2 er s' I2 hq
  · cases fl with
    | ret u => exact I2.after hq
    | next => exact False.elim hq
    | brk => exact False.elim hq
    | cont => exact False.elim hq
end
end M

/-! ### own classes: classmethods, operators, ==, repr, f-strings -/
namespace M
open PySem PySem.Spec PyProof.Rows L2
section
variable {X : Cx} {CX : CXT} {k : Nat} {f C g p : Addr} {sp : Sp} {E : XK} {x m : Str} {ps_ pos apos : Pos} {e o : Expr} {es : List Expr} {ta te tf : TE} {t : TA}
/-! C.m(..), m a classmethod -/
theorem run_cmG {q : Addr} {Q : VK} {us : List Value} {vs : List V} {pins : List (Addr × Obj)} {σ : L2.St} {H : Hp} {s : Shared} (F : CalR X.prog X.w X.K X.mg X.base CX k g sp) (hr : RoomG k X.A) (hx : Passes CX X E) (I : Inv X ((q, PySem.W.methodObj (.ref g) (.ref C)) :: pins) σ H s)
    (r : Vals vs us) (h : sp (.ref C :: vs) H Q E) : wpAny (model X.prog X.w) X.A (call (.ref q) us) (EP X pins σ Q) X.xe s := by
  have z : wpAny (model X.prog X.w) X.A (call (.ref q) us) (EP X ((q, PySem.W.methodObj (.ref g) (.ref C)) :: pins) σ Q) X.xe s :=
    wpAny_call (PySem.W.method_call (ClX.pin_at I) (codeAny_mono (code_calR (us := .ref C :: us) (vs := .ref C :: vs) (E := E) F hr rfl I (.cons rfl r) h) fun r s' hq => by
      rcases r with er | fl
      · exact hx _ σ H s er s' I hq
      · cases fl with
        | ret u => exact I.after hq
        | next => exact False.elim hq
        | brk => exact False.elim hq
        | cont => exact False.elim hq))
  exact thn z fun _ _ y => ClX.unpinE y
theorem me_cmeth {mc : Value} {pl : Sem Bool} (he : PE X o ta) (r : ClX.CRead X.K C mc) (c : ClX.CMet X.K C mc m p g) (F : CalR X.prog X.w X.K X.mg X.base CX k g sp) (hr : RoomG k X.A) (hx : Passes CX X E) (ha : PA X (e :: es) t)
    (hst : starEach (e :: es) X.env = (false, eval e X.env) :: starEach es X.env := by rfl) (hpl : (backTo pos (starEach es X.env)).any (·.1) = false := by rfl)
    (ht : eval (.Call (.Attribute o m apos) (e :: es) [] pos) X.env = (do
      let ov ← eval o X.env
      standAt apos.atName
      let (f, first) ← holding [ov] (getMethod ov m pl)
      callWith pos f first (backTo pos (starEach (e :: es) X.env)) (backToKw pos (keywordEach [] X.env))) := by rfl) :
    PE X (.Call (.Attribute o m apos) (e :: es) [] pos) (ClX.tCMeth C sp E ta t) := by
  refine ⟨fun pins s σ H Q I h => ?_⟩
  refine PySem.W.methodCall_KW (pl := pl) (thn (he.run pins s σ H _ I h) fun u s1 ⟨x, H1, I1, rx, ex, q⟩ => ?_) ht
  subst ex
  obtain rfl : u = Value.ref C := rx
  refine ClX.getmethcm_ok I1 r c fun s2 I2 => ?_
  refine ClX.callwith_cm I2 (ClX.base_none I1 (Nat.le_refl _)) c.fi (thn (ha.run pos _ s2 σ H1 _ I2 q) fun us s3 ⟨vs, H2, I3, rv, q2⟩ => ⟨⟨ClX.pin_at I3, I3.kIn⟩, ?_⟩) hst hpl
  exact run_cmG F hr hx I3 rv q2
/-! operators of two instances -/
def mOwn2 (C : Addr) (sp : Sp) (E : XK) : R2 := fun x y H Q => ∃ a b dx dy fs gs, x = .ref a ∧ y = .ref b ∧ H a = some (.ins C dx fs) ∧ H b = some (.ins C dy gs) ∧ sp [x, y] H Q E
theorem cmp_back {pins : List (Addr × Obj)} {σ : L2.St} {Q : VK} {v : Value} {s' : Shared} (h : EP X pins σ Q v s') : PySem.W.CmpBack (EP X pins σ Q) v s' := by
  obtain ⟨y, H', I, r, q⟩ := h
  cases v <;> first | exact ⟨y, H', I, r, q⟩ | (cases y <;> first | exact (show False from r) | (cases (show _ = _ from r)) | (obtain ⟨t, e⟩ := (show ∃ t, _ = _ from r); cases e))
structure OwnOp (K : PySem.W.Frag) (C : Addr) (nm : Str) (f : Addr) : Prop where
  at_ : PySem.W.findIn K (.ref C) nm = some (some (.ref f))
  fn : PySem.W.isFn K (.ref f) = true
theorem op_own {op : Operator} (hc : PySem.W.selfFirst X.K C = true) (c : OwnOp X.K C (PySem.dunder op.info.2) f) (F : CalR X.prog X.w X.K X.mg X.base CX k f sp) (hr : RoomG k X.A) (hx : Passes CX X E) : OpR X (binaryOp op) (mOwn2 C sp E) := by
  intro pins s σ H x y v u Q I rx ry h
  obtain ⟨a, b, dx, dy, fs, gs, rfl, rfl, ha, hb, q⟩ := h
  obtain rfl : v = Value.ref a := rx
  obtain rfl : u = Value.ref b := ry
  obtain ⟨mA, J, _⟩ := ins_get I.hok ha
  obtain ⟨mB, J', _⟩ := ins_get I.hok hb
  obtain ⟨od, J, _⟩ := J.look
  obtain ⟨od', J', _⟩ := J'.look
  obtain ⟨m, hF⟩ := I.fr
  exact PySem.W.binop_K hF I.ok.mod.kin J J'.type hc c.at_ c.fn (thn (run_calR (us := [.ref a, .ref b]) (vs := [.ref a, .ref b]) F hr rfl hx I (.cons rfl (.cons rfl .nil)) q) fun _ _ z => cmp_back z)
theorem cmp_own {op : CmpOp} (hu : X.A.units < cLine) (c : OwnOp X.K C (cmpInfo op).2.1 f) (F : CalR X.prog X.w X.K X.mg X.base CX k f sp) (hr : RoomG k X.A) (hx : Passes CX X E) : OpR X (richCompare op) (mOwn2 C sp E) := by
  intro pins s σ H x y v u Q I rx ry h
  obtain ⟨a, b, dx, dy, fs, gs, rfl, rfl, ha, hb, q⟩ := h
  obtain rfl : v = Value.ref a := rx
  obtain rfl : u = Value.ref b := ry
  obtain ⟨mA, J, _⟩ := ins_get I.hok ha
  obtain ⟨mB, J', _⟩ := ins_get I.hok hb
  obtain ⟨od, J, _⟩ := J.look
  obtain ⟨od', J', _⟩ := J'.look
  obtain ⟨m, hF⟩ := I.fr
  exact PySem.W.cmp_K hu hF I.ok.mod.kin J J'.type (by simp [PySem.W.notFirst]) c.at_ c.fn (thn (run_calR (us := [.ref a, .ref b]) (vs := [.ref a, .ref b]) F hr rfl hx I (.cons rfl (.cons rfl .nil)) q) fun _ _ z => cmp_back z)
theorem op_eqOwn (hu : X.A.units < cLine) (c : OwnOp X.K C "__eq__" f) (F : CalR X.prog X.w X.K X.mg X.base CX k f sp) (hr : RoomG k X.A) (hx : Passes CX X E) : OpR X (compareOp .Eq) (mOwn2 C sp E) := cmp_own (op := .Eq) hu c F hr hx
/-! ~ -/
def mInvO (C : Addr) (sp : Sp) (E : XK) (ta : TE) : TE := fun σ H Q => ta σ H fun x H1 => ∃ a dx fs, x = .ref a ∧ H1 a = some (.ins C dx fs) ∧ sp [x] H1 Q E
theorem me_invO (he : PE X e ta) (c : OwnOp X.K C "__invert__" f) (F : CalR X.prog X.w X.K X.mg X.base CX k f sp) (hr : RoomG k X.A) (hx : Passes CX X E) : PE X (.UnaryOp .Invert e pos) (mInvO C sp E ta) := by
  refine ⟨fun pins s σ H Q I h => ?_⟩
  refine wpAny_UnaryOp (thn (he.run pins s σ H _ I h) fun u s1 ⟨x, H1, I1, rx, a, dx, fs, ex, ea, q⟩ => ?_)
  subst ex
  obtain rfl : u = Value.ref a := rx
  obtain ⟨mA, J, _⟩ := ins_get I1.hok ea
  obtain ⟨od, J, _⟩ := J.look
  obtain ⟨m, hF⟩ := I1.fr
  exact PySem.W.ksp_inv hF I1.ok.mod.kin J c.at_ c.fn (run_calR (us := [.ref a]) (vs := [.ref a]) F hr rfl hx I1 (.cons rfl .nil) q)
end
end M

/-! ### own classes: !=, repr -/
namespace M
open PySem PySem.Spec PyProof.Rows L2
open Builtin in
section
variable {M₀ : Model} {prog : Program} {w : World} {A : Around} {E : Value → Shared → Prop} {s : Shared} {K : PySem.W.Frag} {x C f : Addr} {ox : Obj} {od : Option Obj} {b : Value}
/-- object.__ne__ over an own __eq__ -/
theorem ne_entry {Q : Fin → Shared → Prop} (hu : A.units < cLine) (X : K.In s.heap) (I : PySem.W.InstAt s.heap x ox C od) (hs : PySem.W.findIn K (.ref C) "__eq__" = some (some (.ref f))) (hf : PySem.W.isFn K (.ref f) = true) {y : Addr}
    (hcall : wpAny (model prog w) A (call (.ref f) [.ref x, .ref y]) (fun v s' => ∃ b, v = .bool b ∧ Q (.done (.ret (.bool (!b)))) s') E s) :
    wpAny (model prog w) A (Builtin.«object.__ne__» ⟨[.ref x, .ref y], []⟩) Q E s := by
  unfold Builtin.«object.__ne__»
  repeat (first
    | with_reducible refine wpAny_cRoomFor hu ?_
    | (refine wpAny_bind (m := callSpecialIfBound? (.ref x) (Str.ofString "__eq__") [.ref y])
        (PySem.W.ifBound_K X I hs hf (wpAny_mono hcall (fun r s' hr => by
          obtain ⟨b, rfl, hq⟩ := hr
          repeat (first | exact hq | exact wpAny_pure hq | exact wpAny_truthy_bool hq | (refine wpAny_bind (m := truthy (.bool _)) (wpAny_truthy_bool ?_)) | wp_step)) fun _ _ e => e)))
    | wp_step)
theorem call_objNe {Q : Value → Shared → Prop} (hu : A.in1.units < cLine) (X : K.In s.heap) (I : PySem.W.InstAt s.heap x ox C od) (hm : PySem.W.mroIn K C (.type "object") = some true) (hs : PySem.W.findIn K (.ref C) "__eq__" = some (some (.ref f))) (hf : PySem.W.isFn K (.ref f) = true) {y : Addr}
    (hcall : wpAny (model prog w) A.in1 (call (.ref f) [.ref x, .ref y]) (fun v s' => ∃ b, v = .bool b ∧ Q (.bool (!b)) s') E s) :
    wpAny (model prog w) A (call (.builtin "object.__ne__") [.ref x, .ref y]) Q E s :=
  wpAny_call (codeAny_call_builtin F.cmp_object.ne.plain F.cmpEntry_ne (PySem.W.check_slot F.cmpKind_ne F.cmpSplit_ne (I.type.andThen (PySem.W.looks_mroIn X hm)) (F.cmpArgs_ne _ _) (ne_entry (A := A.in1) hu X I hs hf (wpAny_mono hcall (fun v s' hv => by
    obtain ⟨b, rfl, hq⟩ := hv
    exact ⟨b, rfl, hq⟩) fun _ _ e => e))))
theorem ifBound_objNe {args : List Value} {Q : Option Value → Shared → Prop} (X : K.In s.heap) (I : PySem.W.InstAt s.heap x ox C od) (hs : PySem.W.findIn K (.ref C) "__ne__" = some (some (.builtin "object.__ne__")))
    (h : wpAny M₀ A (call (.builtin "object.__ne__") (.ref x :: args)) (fun v => Q (some v)) E s) : wpAny M₀ A (callSpecialIfBound? (.ref x) "__ne__" args) Q E s := by
  simp only [callSpecialIfBound?, bindSpecialIfBound?]
  refine wpAny_holding (wpAny_bind (wpAny_bind (wpAny_bind (I.type.here ((PySem.W.looks_findIn X hs).here ?_)))))
  refine wpAny_bind (wpAny_askSetting (wpAny_ite ?_))
  have fin : wpAny M₀ A (call (.builtin "object.__ne__") ([.ref x] ++ args) >>= fun v => pure (some v)) Q E s := wpAny_bind (wpAny_mono h (fun v s' h' => wpAny_pure h') fun _ _ h' => h')
  split
  · exact wpAny_bind (wpAny_of_eq (F.cmp_object.ne.bind _) (wpAny_pure (by exact fin)))
  · exact wpAny_tryCatch (wpAny_bind (wpAny_of_eq (F.cmp_object.ne.bind _) (wpAny_pure (by exact fin))))
theorem rich_ne {Q : Value → Shared → Prop} (hu : A.units < cLine) (hu1 : A.in1.units < cLine) (X : K.In s.heap) (I : PySem.W.InstAt s.heap x ox C od) {y : Addr} (hb : PySem.W.Looks (model prog w) s.heap (typeOf (.ref y)) (.ref C)) (hm : PySem.W.mroIn K C (.type "object") = some true)
    (hn : PySem.W.findIn K (.ref C) "__ne__" = some (some (.builtin "object.__ne__"))) (hs : PySem.W.findIn K (.ref C) "__eq__" = some (some (.ref f))) (hf : PySem.W.isFn K (.ref f) = true)
    (hcall : wpAny (model prog w) A.in1 (call (.ref f) [.ref x, .ref y]) (fun v s' => ∃ b, v = .bool b ∧ Q (.bool (!b)) s') E s) :
    wpAny (model prog w) A (richCompare .NotEq (.ref x) (.ref y)) Q E s := by
  have one : wpAny (model prog w) A (tryCompare (.ref x) "__ne__" (.ref y)) (fun r s' => ∃ v, r = some v ∧ Q v s') E s := by
    unfold tryCompare
    refine wpAny_bind (ifBound_objNe X I hn (call_objNe hu1 X I hm hs hf (wpAny_mono hcall (fun v s' hv => ?_) fun _ _ e => e)))
    obtain ⟨b, rfl, hq⟩ := hv
    exact ⟨b, rfl, wpAny_pure ⟨_, rfl, hq⟩⟩
  unfold richCompare
  simp only [oneThing_ref]
  refine wpAny_holding (wpAny_bind (wpAny_cRoomFor hu ?_))
  refine wpAny_bind (I.type.here (wpAny_bind (hb.here ?_)))
  split
  · rename_i q
    exact absurd q (by simp)
  · refine wpAny_bind (wpAny_pure ?_)
    simp only [Bool.false_eq_true, if_false]
    refine wpAny_bind (m := tryCompare (.ref x) _ (.ref y)) (wpAny_mono one (fun r s' z => ?_) fun _ _ e => e)
    obtain ⟨v, rfl, hq⟩ := z
    exact wpAny_pure hq
end
section
variable {X : Cx} {CX : CXT} {k : Nat} {f C : Addr} {sp : Sp} {E : XK}
/-- x != y by the own == of the class at C -/
def mOwnNe (C : Addr) (sp : Sp) (E : XK) : R2 := fun x y H Q => ∃ a b dx dy fs gs, x = .ref a ∧ y = .ref b ∧ H a = some (.ins C dx fs) ∧ H b = some (.ins C dy gs) ∧ sp [x, y] H (fun v H' => ∃ k, v = .bl k ∧ Q (.bl (!k)) H') E
theorem op_neOwn (hu : X.A.units + 64 < cLine) (hm : PySem.W.mroIn X.K C (.type "object") = some true) (hn : PySem.W.findIn X.K (.ref C) "__ne__" = some (some (.builtin "object.__ne__"))) (c : OwnOp X.K C "__eq__" f)
    (F : CalR X.prog X.w X.K X.mg X.base CX k f sp) (hr : RoomG (k + 1) X.A) (hx : Passes CX X E) : OpR X (compareOp .NotEq) (mOwnNe C sp E) := by
  intro pins s σ H x y v u Q I rx ry h
  obtain ⟨a, b, dx, dy, fs, gs, rfl, rfl, ha, hb, q⟩ := h
  obtain rfl : v = Value.ref a := rx
  obtain rfl : u = Value.ref b := ry
  obtain ⟨mA, J, _⟩ := ins_get I.hok ha
  obtain ⟨mB, J', _⟩ := ins_get I.hok hb
  obtain ⟨od, J, _⟩ := J.look
  obtain ⟨od', J', _⟩ := J'.look
  show wpAny (model X.prog X.w) X.A (richCompare .NotEq (.ref a) (.ref b)) (EP X pins σ Q) X.xe s
  refine rich_ne (by omega) (by show X.A.units + 1 < _; omega) I.kIn J J'.type hm hn c.at_ c.fn (thn (run_calR (A := X.A.in1) (us := [.ref a, .ref b]) (vs := [.ref a, .ref b]) F hr.in1 rfl hx I (.cons rfl (.cons rfl .nil)) q) fun r s' z => ?_)
  obtain ⟨y, H', I', ry, k, rfl, hq⟩ := z
  cases (show r = Value.bool k from ry)
  exact ⟨k, rfl, .bl (!k), H', I', rfl, hq⟩
/-- repr of an instance of the class at C, or of other data -/
def mReprO (K : PySem.W.Frag) (C : Addr) (sp : Sp) (E : XK) : List V → Hp → VK → Prop := fun xs H Q => mReprG K xs H Q ∨ ∃ a dx fs, xs = [.ref a] ∧ H a = some (.ins C dx fs) ∧ sp xs H (fun v H' => ∃ z, v = .str z ∧ Q v H') E
theorem call_reprO {j : Nat} (cs : smB X.K = true) (hj : RoomG j X.A) (c : OwnOp X.K C "__repr__" f) (F : CalR X.prog X.w X.K X.mg X.base CX k f sp) (hr : RoomG (k + 1) X.A) (hx : Passes CX X E) : CallR X (.builtin "repr") (mReprO X.K C sp E) := by
  intro pins s σ H vs us Q I r h
  rcases h with h | ⟨a, dx, fs, rfl, ha, q⟩
  · exact call_reprG cs hj pins s σ H vs us Q I r h
  · rw [Vals.ref1 r]
    obtain ⟨mA, J, _⟩ := ins_get I.hok ha
    obtain ⟨od, J, _⟩ := J.look
    obtain ⟨m, hF⟩ := I.fr
    have hu := hr.in1.units
    refine PySem.W.repr_K (by omega) hF I.ok.mod.kin J c.at_ c.fn (thn (run_calR (A := X.A.in1) (us := [.ref a]) (vs := [.ref a]) F hr.in1 rfl hx I (.cons rfl .nil) q) fun r s' z => ?_)
    obtain ⟨y, H', I', ry, z, rfl, hq⟩ := z
    obtain ⟨t, e⟩ := (show ∃ t, r = Value.str z t from ry)
    cases e
    exact ⟨.str z, H', I', ⟨t, rfl⟩, hq⟩
end
end M

/-! ### own classes: the facts that the head looks at; f-strings; what is never reached -/
namespace M
open PySem PySem.Spec PyProof.Rows L2
abbrev mtA (K : PySem.W.Frag) (x m : Str) : Addr := He.ma K (He.ga K x) m
def propB (x m : Str) (K : PySem.W.Frag) : Bool :=
  He.eqO (PySem.W.findIn K (.ref (He.ga K x)) m) (some (some (.ref (mtA K x m)))) && (He.eqO (PySem.W.specialIn K (.ref (mtA K x m)) "__get__") (some (some (.builtin "property.__get__"))) && (decide (PySem.W.takesIn K (.ref (mtA K x m)) = some true) &&
  (match PySem.W.recIn K (mtA K x m) "property" with
    | some (.ref _ :: _) => true
    | _ => false)))
theorem prop_ok {x m : Str} {K : PySem.W.Frag} (c : propB x m K = true) : PropOf K (He.ga K x) m (mtA K x m) (viaA K 1 (mtA K x m)) := by
  obtain ⟨c1, c⟩ := He.ba c
  obtain ⟨c2, c⟩ := He.ba c
  obtain ⟨c3, c4⟩ := He.ba c
  refine ⟨He.eqO_ok c1, He.eqO_ok c2, of_decide_eq_true c3, ?_⟩
  split at c4
  · rename_i g rest e
    have hv : viaA K 1 (mtA K x m) = g := by
      show (match PySem.W.recIn K (mtA K x m) "property" with | some (.ref g :: _) => g | _ => 0) = g
      rw [e]
    exact ⟨rest, by rw [hv, e]⟩
  · cases c4
def cmB (x m : Str) (K : PySem.W.Frag) : Bool :=
  PySem.W.readsIn K (He.ga K x) (.type "type") && (He.eqO (PySem.W.specialIn K (.ref (He.ga K x)) "__getattribute__") (some (some (.builtin "type.__getattribute__"))) &&
  ((match PySem.W.findCls K (.ref (He.ga K x)) (.type "type") m with
    | some (.get g (.ref p) .none c) => decide (g = .builtin "classmethod.__get__") && (decide (p = mtA K x m) && decide (c = .ref (He.ga K x)))
    | _ => false) && ((match PySem.W.recIn K (mtA K x m) "classmethod" with
    | some (.ref _ :: _) => true
    | _ => false) && PySem.W.fnIn K (viaA K 2 (mtA K x m)))))
theorem cm_ok {x m : Str} {K : PySem.W.Frag} (c : cmB x m K = true) : ClX.CRead K (He.ga K x) (.type "type") ∧ ClX.CMet K (He.ga K x) (.type "type") m (mtA K x m) (viaA K 2 (mtA K x m)) := by
  obtain ⟨c1, c⟩ := He.ba c
  obtain ⟨c2, c⟩ := He.ba c
  obtain ⟨c3, c⟩ := He.ba c
  obtain ⟨c4, c5⟩ := He.ba c
  refine ⟨⟨c1, He.eqO_ok c2⟩, ?_, ?_, c5⟩
  · split at c3
    · rename_i g p c' e
      obtain ⟨d1, d⟩ := He.ba c3
      obtain ⟨d2, d3⟩ := He.ba d
      rw [e, of_decide_eq_true d1, of_decide_eq_true d2, of_decide_eq_true d3]
    · cases c3
  · split at c4
    · rename_i g rest e
      have hv : viaA K 2 (mtA K x m) = g := by
        show (match PySem.W.recIn K (mtA K x m) "classmethod" with | some (.ref g :: _) => g | _ => 0) = g
        rw [e]
      exact ⟨rest, by rw [hv, e]⟩
    · cases c4
def callB (x : Str) (K : PySem.W.Frag) : Bool := He.eqO (PySem.W.findIn K (.ref (He.ga K x)) "__call__") (some (some (.ref (mtA K x "__call__")))) && (PySem.W.isFn K (.ref (mtA K x "__call__")) && PySem.W.fnIn K (mtA K x "__call__"))
theorem callO_ok {x : Str} {K : PySem.W.Frag} (c : callB x K = true) : StX.CallO K (He.ga K x) (mtA K x "__call__") := by
  obtain ⟨c1, c⟩ := He.ba c
  obtain ⟨c2, c3⟩ := He.ba c
  exact ⟨He.eqO_ok c1, c2, c3⟩
def ownB (x m : Str) (K : PySem.W.Frag) : Bool := He.eqO (PySem.W.findIn K (.ref (He.ga K x)) m) (some (some (.ref (mtA K x m)))) && PySem.W.isFn K (.ref (mtA K x m))
theorem own_ok {x m : Str} {K : PySem.W.Frag} (c : ownB x m K = true) : OwnOp K (He.ga K x) m (mtA K x m) := by
  obtain ⟨c1, c2⟩ := He.ba c
  exact ⟨He.eqO_ok c1, c2⟩
/-- the class stands first among its own, over object, without a __ne__ -/
def objB (x : Str) (K : PySem.W.Frag) : Bool := PySem.W.selfFirst K (He.ga K x) && (decide (PySem.W.mroIn K (He.ga K x) (.type "object") = some true) && He.eqO (PySem.W.findIn K (.ref (He.ga K x)) "__ne__") (some (some (.builtin "object.__ne__"))))
structure ObjC (K : PySem.W.Frag) (C : Addr) : Prop where
  sf : PySem.W.selfFirst K C = true
  ob : PySem.W.mroIn K C (.type "object") = some true
  ne : PySem.W.findIn K (.ref C) "__ne__" = some (some (.builtin "object.__ne__"))
theorem obj_ok {x : Str} {K : PySem.W.Frag} (c : objB x K = true) : ObjC K (He.ga K x) := by
  obtain ⟨c1, c⟩ := He.ba c
  obtain ⟨c2, c3⟩ := He.ba c
  exact ⟨c1, of_decide_eq_true c2, He.eqO_ok c3⟩
theorem calR_of {P : Program} {w : World} {K : PySem.W.Frag} {mg : Str → Option Value} {base : Heap} {CX : CXT} {k : Nat} {f : Addr} {fd : FuncData} {ps : List Str} {sp : Sp} (F : FnG P w K mg base CX k f fd ps sp) (b : Binds K fd ps []) : CalR P w K mg base CX k f sp := ⟨fd, ps, F, b⟩
section
variable {X : Cx} {e : Expr}
def tNever : TE := fun _ _ _ => False
theorem pe_never : PE X e tNever := ⟨fun _ _ _ _ _ _ h => h.elim⟩
def tJoin (ts : List TE) : TE := fun σ H Q => tJs ts Str.empty σ H fun out H1 => Q (.str out) H1
theorem me_jstr {v1 v2 : Expr} {rest : List Expr} {ts : List TE} {pos : Pos} (h : PJ X (v1 :: v2 :: rest) ts) : PE X (.JoinedStr (v1 :: v2 :: rest) pos) (tJoin ts) := pe_joined h
end
end M

/-! ### own classes within a try -/
namespace M
open PySem PySem.Spec PyProof.Rows L2
section
variable {X : Cx} {k : Nat} {f C g p : Addr} {sp : Sp} {W : WX} {x m : Str} {ps_ pos apos : Pos} {e o : Expr} {es : List Expr} {ta te tf : TE} {t : TA}
theorem end_calR {A : Around} {pins : List (Addr × Obj)} {σ : L2.St} {H : Hp} {s : Shared} {Q : VK} {C' : Code} (tk : Takes X W) (I : Inv X pins σ H s)
    (h : codeAny (model X.prog X.w) A C' (CR (L2.CX X.prog X.w) X.stack X.prog X.w H s Q (WE W σ)) s) :
    codeAny (model X.prog X.w) A C' (fun r s' => match r with | .ok (.ret v) => EP X pins σ Q v s' | .ok _ => False | .error e => X.xe e s') s := by
  refine codeAny_mono h fun r s' hq => ?_
  rcases r with er | fl
  · exact passAt tk σ pins H s er s' I hq
  · cases fl with
    | ret u => exact I.after hq
    | next => exact False.elim hq
    | brk => exact False.elim hq
    | cont => exact False.elim hq
def tInstS (C : Addr) (sp : Sp) (E : L2.St → XK) (tf : TE) (t : TA) : TE := fun σ H Q => tf σ H fun y H1 => ∃ a, y = .ref a ∧ t σ H1 fun vs H2 => (∃ dx fs, H2 a = some (.ins C dx fs)) ∧ sp (.ref a :: vs) H2 Q (E σ)
theorem me_instS {fe : Expr} (hf : PE X fe tf) (c : StX.CallO X.K C g) (F : CalR X.prog X.w X.K X.mg X.base (L2.CX X.prog X.w) k g sp) (hr : RoomG k X.A) (tk : Takes X W) (ha : PA X (e :: es) t)
    (ht : eval (.Call fe (e :: es) [] pos) X.env = (do callWith pos (← eval fe X.env) [] (backTo pos (starEach (e :: es) X.env)) (backToKw pos (keywordEach [] X.env))) := by rfl)
    (he : starEach (e :: es) X.env = (false, eval e X.env) :: starEach es X.env := by rfl) (hpl : (backTo pos (starEach es X.env)).any (·.1) = false := by rfl) : PE X (.Call fe (e :: es) [] pos) (tInstS C sp (WE W) tf t) := by
  refine ⟨fun pins s σ H Q I h => ?_⟩
  refine Call_ (thn (hf.run pins s σ H _ I h) fun u s1 ⟨y, H1, I1, ry, a, ey, q⟩ => ?_) ht
  subst ey
  obtain rfl : u = Value.ref a := ry
  refine StX.callO_with (thn (ha.run pos pins s1 σ H1 _ I1 q) fun us s2 ⟨vs, H2, I2, r, ⟨dx, fs, hi⟩, q2⟩ => ?_) he hpl
  obtain ⟨mA, O, _⟩ := ins_get I2.hok hi
  obtain ⟨od, J, _⟩ := O.look
  exact ⟨⟨C, _, _, J, rfl⟩, wpAny_call (PySem.W.kco_code I2.kIn J rfl c.at_ c.fn c.fi (end_calR tk I2 (code_calR (us := .ref a :: us) (vs := .ref a :: vs) (E := WE W σ) F hr rfl I2 (.cons rfl r) q2)))⟩
def tMethS (C : Addr) (m : Str) (sp : Sp) (E : L2.St → XK) (ta : TE) (t : TA) : TE := fun σ H Q => ta σ H fun x H1 => ∃ a dx fs, x = .ref a ∧ H1 a = some (.ins C dx fs) ∧ fs.lookup m = none ∧ t σ H1 fun vs H2 => sp (x :: vs) H2 Q (E σ)
theorem me_methS {pl : Sem Bool} (he : PE X o ta) (c : Cls X.K C) (hm : Meth X.K C m f) (F : CalR X.prog X.w X.K X.mg X.base (L2.CX X.prog X.w) k f sp) (hr : RoomG k X.A) (tk : Takes X W) (ha : PA X (e :: es) t)
    (hst : starEach (e :: es) X.env = (false, eval e X.env) :: starEach es X.env := by rfl) (hpl : (backTo pos (starEach es X.env)).any (·.1) = false := by rfl)
    (ht : eval (.Call (.Attribute o m apos) (e :: es) [] pos) X.env = (do
      let ov ← eval o X.env
      standAt apos.atName
      let (f, first) ← holding [ov] (getMethod ov m pl)
      callWith pos f first (backTo pos (starEach (e :: es) X.env)) (backToKw pos (keywordEach [] X.env))) := by rfl) :
    PE X (.Call (.Attribute o m apos) (e :: es) [] pos) (tMethS C m sp (WE W) ta t) := by
  refine ⟨fun pins s σ H Q I h => ?_⟩
  refine PySem.W.methodCall_KW (pl := pl) (thn (he.run pins s σ H _ I h) fun u s1 ⟨x, H1, I1, rx, a, dx, fs, ex, ea, l, q⟩ => ?_) ht
  subst ex
  obtain rfl : u = Value.ref a := rx
  refine getmeth_ok I1 ea c hm l ?_
  refine PySem.W.callWith_K (first := [.ref a]) (h₀ := X.base) I.ok.mod.kin hm.kp (thn (ha.run pos pins s1 σ H1 _ I1 q) fun us s2 ⟨vs, H2, I2, r, q2⟩ => ⟨I2.kIn, ?_⟩) hst hpl
  exact wpAny_call (end_calR tk I2 (code_calR (us := .ref a :: us) (vs := .ref a :: vs) (E := WE W σ) F hr rfl I2 (.cons rfl r) q2))
end
end M

/-! ### dicts that grow: d.get(k, x), d[k] = v -/
namespace M
open PySem PySem.Spec PyProof.Rows L2
theorem hu1_of {k : Nat} {A : Around} (r : RoomG k A) : A.units + 1 < cLine := by have := r.un; omega
section
variable {X : Cx} {k : Nat} {o e f : Expr} {apos cpos : Pos} {td ty tx : TE}
theorem me_dget2 (hr : RoomG k X.A) (ho : PE X o td) (he : PE X e ty) (hf : PE X f tx) (h1 : attributeBase o "get" X.env (eval o X.env) = eval o X.env := by rfl)
    (h2 : ((backTo cpos (starEach [e, f] X.env)).all (fun x => !x.1) && (backToKw cpos (keywordEach [] X.env)).all (fun x => x.1.isSome)
    && decide (([e, f] : List Expr).length + ([] : List Keyword).length + (if ([] : List Keyword).isEmpty then 0 else 1) < 30)) = true := by rfl)
    (h3 : (apos.endLine == cpos.line) = true := by rfl) (h4 : backTo cpos (starEach [e, f] X.env) = [(false, eval e X.env), (false, eval f X.env)] := by rfl) :
    PE X (.Call (.Attribute o "get" apos) [e, f] [] cpos) (tDGet2 td ty tx) := pe_dget2 (hu1_of hr) ho he hf ⟨h1, h2, h3, h4⟩
end
end M

/-! ### zip(xs, ys, strict=True), and a list of zip's pairs: the iterator -/
namespace M
open PySem PySem.Spec PyProof.Rows
section
variable {prog : Program} {w : World} {A : Around} {E : Value → Shared → Prop} {s : Shared}
/-- one item of a list's iterator, or None where it ends -/
theorem nx_item {it l : Addr} {k : Nat} {xs : Array Value} {x : Value} {Q : Option Value → Shared → Prop} (hit : s.heap.IsListIter it l k) (hl : s.heap.IsList l xs) (hx : xs[k]? = some x)
    (hQ : ∀ h', h'.IsListIter it l (k + 1) → Heap.SameBut it s.heap h' → Q (some x) { s with heap := h' }) : wpAny (model prog w) A (Builtin.SmallTypes.nextOrEnd (.ref it)) Q E s := by
  unfold Builtin.SmallTypes.nextOrEnd
  exact wpAny_bind (wpAny_attempt (wpAny_nextOf_list_item hit hl hx fun h' a b => wpAny_pure (hQ h' a b)))
theorem nx_end {it l : Addr} {k : Nat} {xs : Array Value} {Q : Option Value → Shared → Prop} (hh : A.handled = none) (hit : s.heap.IsListIter it l k) (hl : s.heap.IsList l xs) (hx : xs[k]? = none)
    (hQ : ∀ h', Heap.ExtBut it s.heap h' → Q none { s with heap := h' }) : wpAny (model prog w) A (Builtin.SmallTypes.nextOrEnd (.ref it)) Q E s := by
  unfold Builtin.SmallTypes.nextOrEnd
  refine wpAny_bind (wpAny_attempt (wpAny_nextOf_list_end hh hit hl hx fun h' e a b => ?_))
  obtain ⟨o, ho, hc⟩ := b
  refine wpAny_bind (wpAny_isInstance (T := "StopIteration") (b := true) ⟨o, ho, hc⟩ isSubtype_stop ?_)
  exact wpAny_pure (hQ _ a)
/-- zip's own object -/
abbrev ZipO (h : Heap) (z TI TO : Addr) (f0 f1 : Value) (st : Bool) : Prop :=
  h.get? z = some { cls := .type "zip", dict := none, data := .fields #[f0, f1, .bool st, .ref TI, .ref TO], slots := #[] }
/-- what zip draws from one of its iterators -/
def zdraw (st : Bool) (it : Value) : Sem (Option Value) := do
  if st then Builtin.SmallTypes.nextOrEnd it else return some (← Builtin.SmallTypes.nextOf it)
theorem zd_item {st : Bool} {it l : Addr} {k : Nat} {xs : Array Value} {x : Value} {Q : Option Value → Shared → Prop} (hit : s.heap.IsListIter it l k) (hl : s.heap.IsList l xs) (hx : xs[k]? = some x)
    (hQ : ∀ h', h'.IsListIter it l (k + 1) → Heap.SameBut it s.heap h' → Q (some x) { s with heap := h' }) : wpAny (model prog w) A (zdraw st (.ref it)) Q E s := by
  cases st with
  | true => exact nx_item hit hl hx hQ
  | false => exact wpAny_bind (wpAny_nextOf_list_item hit hl hx fun h' a b => wpAny_pure (hQ h' a b))
abbrev ZipFree (h : Heap) (z TI TO : Addr) (st : Bool) : Prop := ZipO h z TI TO .none (.bool false) st
/-- the first pair -/
theorem zn_free {st : Bool} {z TI TO i1 i2 l1 l2 : Addr} {k : Nat} {xs ys : Array Value} {x y a b : Value} {Q : Value → Shared → Prop} (D : ZipApart z TI TO i1 i2 l1 l2)
    (hz : ZipFree s.heap z TI TO st) (hTI : IsPair s.heap TI (.ref i1) (.ref i2)) (hTO : IsPair s.heap TO a b)
    (h1 : s.heap.IsListIter i1 l1 k) (h2 : s.heap.IsListIter i2 l2 k) (hl1 : s.heap.IsList l1 xs) (hl2 : s.heap.IsList l2 ys) (hx : xs[k]? = some x) (hy : ys[k]? = some y)
    (hQ : ∀ h', ZipO h' z TI TO (rawInt s.heap.objs.size) (.bool false) st → IsPair h' TO x y → h'.IsListIter i1 l1 (k + 1) → h'.IsListIter i2 l2 (k + 1) → IsPair h' s.heap.objs.size x y → h'.objs.size = s.heap.objs.size + 1 →
      (∀ c o, c ≠ z → c ≠ TO → c ≠ i1 → c ≠ i2 → s.heap.get? c = some o → h'.get? c = some o) → Q (.ref s.heap.objs.size) { s with heap := h' }) :
    wpAny (model prog w) A (Builtin.«zip.__next__» ⟨[.ref z], []⟩) (fun fin s' => ∃ v, fin = .done (.ret v) ∧ Q v s') E s := by
  have draw : ∀ {A : Around} {E : Value → Shared → Prop} {s : Shared} {it l : Addr} {k : Nat} {xs : Array Value} {x : Value} {Q : Option Value → Shared → Prop}, s.heap.IsListIter it l k → s.heap.IsList l xs → xs[k]? = some x →
      (∀ h', h'.IsListIter it l (k + 1) → Heap.SameBut it s.heap h' → Q (some x) { s with heap := h' }) → wpAny (model prog w) A (zdraw st (.ref it)) Q E s := zd_item
  show wpAny _ _ (field (.ref z) 2 >>= _) _ _ _
  refine wpAny_bind (wpAny_field hz rfl (x := .bool st) rfl ?_)
  show wpAny _ _ (field (.ref z) 3 >>= _) _ _ _
  refine wpAny_bind (wpAny_field hz rfl (x := .ref TI) rfl ?_)
  refine wpAny_bind (wpAny_seqItems hTI rfl ?_)
  show wpAny _ _ (Builtin.SmallTypes.ownedTupleIsFree (.ref z) >>= _) _ _ _
  refine wpAny_bind ?_
  unfold Builtin.SmallTypes.ownedTupleIsFree
  refine wpAny_bind (wpAny_field hz rfl (x := .none) rfl (wpAny_pure ?_))
  simp only [if_true]
  refine wpAny_bind (wpAny_rule ?_)
  refine wpAny_bind (wpAny_field hz rfl (x := .ref TO) rfl ?_)
  refine wpAny_bind (wpAny_setField_rec hz (by simp) fun h₁ hz₁ hs₁ => ?_)
  replace hz₁ : ZipO h₁ z TI TO .ellipsis (.bool false) st := hz₁
  refine wpAny_bind ?_
  simp only [List.zipIdx_cons, List.zipIdx_nil, List.forIn_cons, List.forIn_nil]
  have est : (Value.bool st == Value.bool true) = st := by cases st <;> rfl
  rw [est]
  refine wpAny_bind (wpAny_bind (wpAny_onRaise ?_))
  show wpAny _ _ (zdraw st (.ref i1)) _ _ _
  refine draw (h1.extBut hs₁.extBut D.i1z) (hl1.extBut hs₁.extBut D.l1z) hx fun h₂ h1₂ hs₂ => ?_
  have hTO₂ : IsPair h₂ TO a b := hs₂.extBut _ _ D.TOi1 (hs₁.extBut _ _ D.TOz hTO)
  refine wpAny_bind (wpAny_seqItems hTO₂ rfl ?_)
  refine wpAny_bind (wpAny_updateSeq_pair hTO₂ fun h₃ hTO₃ hs₃ => ?_)
  replace hTO₃ : IsPair h₃ TO x b := hTO₃
  refine wpAny_bind (wpAny_letGo (wpAny_pure ?_))
  refine wpAny_bind (wpAny_bind (wpAny_onRaise ?_))
  show wpAny _ _ (zdraw st (.ref i2)) _ _ _
  refine draw (((h2.extBut hs₁.extBut D.i2z).extBut hs₂.extBut D.i12.symm).extBut hs₃.extBut D.TOi2.symm)
    (((hl2.extBut hs₁.extBut D.l2z).extBut hs₂.extBut D.l2i1).extBut hs₃.extBut D.l2TO) hy fun h₄ h2₄ hs₄ => ?_
  have hTO₄ : IsPair h₄ TO x b := hs₄.extBut _ _ D.TOi2 hTO₃
  refine wpAny_bind (wpAny_seqItems hTO₄ rfl ?_)
  refine wpAny_bind (wpAny_updateSeq_pair hTO₄ fun h₅ hTO₅ hs₅ => ?_)
  replace hTO₅ : IsPair h₅ TO x y := hTO₅
  refine wpAny_bind (wpAny_letGo (wpAny_pure (wpAny_pure ?_)))
  refine wpAny_bind (wpAny_seqItems hTO₅ rfl ?_)
  refine wpAny_bind (wpAny_newTuple ?_)
  have hsz : h₅.objs.size = s.heap.objs.size := by rw [hs₅.1, hs₄.1, hs₃.1, hs₂.1, hs₁.1]
  have hz₅ : ZipO h₅ z TI TO .ellipsis (.bool false) st := hs₅.extBut _ _ D.TOz.symm (hs₄.extBut _ _ D.i2z.symm (hs₃.extBut _ _ D.TOz.symm (hs₂.extBut _ _ D.i1z.symm hz₁)))
  have hk₅ : ∀ c o, c ≠ z → c ≠ TO → c ≠ i1 → c ≠ i2 → s.heap.get? c = some o → h₅.get? c = some o := fun c o c1 c2 c3 c4 e =>
    hs₅.extBut _ _ c2 (hs₄.extBut _ _ c4 (hs₃.extBut _ _ c2 (hs₂.extBut _ _ c3 (hs₁.extBut _ _ c1 e))))
  have h1₅ : h₅.IsListIter i1 l1 (k + 1) := ((h1₂.extBut hs₃.extBut D.TOi1.symm).extBut hs₄.extBut D.i12).extBut hs₅.extBut D.TOi1.symm
  have h2₅ : h₅.IsListIter i2 l2 (k + 1) := h2₄.extBut hs₅.extBut D.TOi2.symm
  have hzlt : z < h₅.objs.size := Heap.lt_size hz₅
  show wpAny _ _ (Builtin.SmallTypes.ownedTupleHandOut (.ref z) (.ref h₅.objs.size) >>= _) _ _ _
  refine wpAny_bind ?_
  unfold Builtin.SmallTypes.ownedTupleHandOut
  have hz₆ : ZipO (h₅.push { cls := .type "tuple", data := .seq #[x, y] }) z TI TO .ellipsis (.bool false) st := Heap.get?_push_of_some _ hz₅
  refine wpAny_bind (wpAny_setField_rec hz₆ (by simp) fun h₇ hz₇ hs₇ => ?_)
  replace hz₇ : ZipO h₇ z TI TO (rawInt h₅.objs.size) (.bool false) st := hz₇
  refine wpAny_setField_rec hz₇ (by simp) fun h₈ hz₈ hs₈ => ?_
  replace hz₈ : ZipO h₈ z TI TO (rawInt h₅.objs.size) (.bool false) st := hz₈
  have up : ∀ c o, c ≠ z → h₅.get? c = some o → h₈.get? c = some o := fun c o c1 e => hs₈.extBut _ _ c1 (hs₇.extBut _ _ c1 (Heap.get?_push_of_some _ e))
  have hT₈ : IsPair h₈ h₅.objs.size x y := hs₈.extBut _ _ (Nat.ne_of_gt hzlt) (hs₇.extBut _ _ (Nat.ne_of_gt hzlt) (Heap.get?_push_size _ rfl))
  have hz8 : h₈.objs.size = h₅.objs.size + 1 := by rw [hs₈.1, hs₇.1, Heap.size_push]
  rw [hsz] at hz₈ hT₈ hz8
  refine wpAny_pure ⟨_, rfl, ?_⟩
  show Q (.ref h₅.objs.size) _
  rw [hsz]
  exact hQ h₈ hz₈ (up _ _ D.TOz hTO₅) (h1₅.at fun o e => up _ o D.i1z e) (h2₅.at fun o e => up _ o D.i2z e) hT₈ hz8 fun c o c1 c2 c3 c4 e => up c o c1 (hk₅ c o c1 c2 c3 c4 e)
theorem zn_alive {a : Addr} {o : Obj} {Q : Option Obj → Shared → Prop} (ho : s.heap.get? a = some o) (h : Q (some o) s) : wpAny (model prog w) A (loadIfAlive a) Q E s := by
  have h' : Q (s.heap.get? a) s := by rw [ho]; exact h
  exact fun _ _ _ => h'
/-- a further pair, while the pair handed out first is still there -/
theorem zn_out {st f : Bool} {z TI TO i1 i2 l1 l2 T0 : Addr} {oT : Obj} {k : Nat} {xs ys : Array Value} {x y : Value} {Q : Value → Shared → Prop} (D : ZipApart z TI TO i1 i2 l1 l2)
    (hz : ZipO s.heap z TI TO (rawInt T0) (.bool f) st) (hT0 : s.heap.get? T0 = some oT) (hTI : IsPair s.heap TI (.ref i1) (.ref i2))
    (h1 : s.heap.IsListIter i1 l1 k) (h2 : s.heap.IsListIter i2 l2 k) (hl1 : s.heap.IsList l1 xs) (hl2 : s.heap.IsList l2 ys) (hx : xs[k]? = some x) (hy : ys[k]? = some y)
    (hQ : ∀ h', ZipO h' z TI TO (rawInt T0) (.bool true) st → h'.IsListIter i1 l1 (k + 1) → h'.IsListIter i2 l2 (k + 1) → IsPair h' s.heap.objs.size x y → h'.objs.size = s.heap.objs.size + 1 →
      (∀ c o, c ≠ z → c ≠ i1 → c ≠ i2 → s.heap.get? c = some o → h'.get? c = some o) → Q (.ref s.heap.objs.size) { s with heap := h' }) :
    wpAny (model prog w) A (Builtin.«zip.__next__» ⟨[.ref z], []⟩) (fun fin s' => ∃ v, fin = .done (.ret v) ∧ Q v s') E s := by
  have draw : ∀ {A : Around} {E : Value → Shared → Prop} {s : Shared} {it l : Addr} {k : Nat} {xs : Array Value} {x : Value} {Q : Option Value → Shared → Prop}, s.heap.IsListIter it l k → s.heap.IsList l xs → xs[k]? = some x →
      (∀ h', h'.IsListIter it l (k + 1) → Heap.SameBut it s.heap h' → Q (some x) { s with heap := h' }) → wpAny (model prog w) A (zdraw st (.ref it)) Q E s := zd_item
  show wpAny _ _ (field (.ref z) 2 >>= _) _ _ _
  refine wpAny_bind (wpAny_field hz rfl (x := .bool st) rfl ?_)
  show wpAny _ _ (field (.ref z) 3 >>= _) _ _ _
  refine wpAny_bind (wpAny_field hz rfl (x := .ref TI) rfl ?_)
  refine wpAny_bind (wpAny_seqItems hTI rfl ?_)
  show wpAny _ _ (Builtin.SmallTypes.ownedTupleIsFree (.ref z) >>= _) _ _ _
  have est : (Value.bool st == Value.bool true) = st := by cases st <;> rfl
  rw [est]
  refine wpAny_bind ?_
  unfold Builtin.SmallTypes.ownedTupleIsFree
  refine wpAny_bind (wpAny_field hz rfl (x := rawInt T0) rfl ?_)
  show wpAny _ _ (loadIfAlive ((T0 : Int).toNat) >>= _) _ _ _
  rw [Int.toNat_natCast]
  refine wpAny_bind (zn_alive hT0 ?_)
  simp only [Option.isNone_some, Bool.false_eq_true, if_false]
  refine wpAny_bind (wpAny_field hz rfl (x := .bool f) rfl ?_)
  have main : ∀ h₀ : Heap, ZipO h₀ z TI TO (rawInt T0) (.bool true) st → Heap.SameBut z s.heap h₀ → ∀ h₂ h₄ : Heap, h₂.IsListIter i1 l1 (k + 1) → Heap.SameBut i1 h₀ h₂ → h₄.IsListIter i2 l2 (k + 1) → Heap.SameBut i2 h₂ h₄ →
      Q (.ref h₄.objs.size) { s with heap := h₄.push { cls := .type "tuple", data := .seq #[x, y] } } := fun h₀ hz₀ hs₀ h₂ h₄ h1₂ hs₂ h2₄ hs₄ => by
    have hsz : h₄.objs.size = s.heap.objs.size := by rw [hs₄.1, hs₂.1, hs₀.1]
    rw [hsz]
    have pt : (h₄.push { cls := .type "tuple", data := .seq #[x, y] }).get? s.heap.objs.size = some { cls := .type "tuple", data := .seq #[x, y] } := by rw [← hsz]; exact Heap.get?_push_size _ rfl
    exact hQ _ (Heap.get?_push_of_some _ (hs₄.extBut _ _ D.i2z.symm (hs₂.extBut _ _ D.i1z.symm hz₀))) ((h1₂.extBut hs₄.extBut D.i12).at fun o e => Heap.get?_push_of_some _ e) (h2₄.at fun o e => Heap.get?_push_of_some _ e) pt (by rw [Heap.size_push, hsz])
      fun c o c1 c2 c3 e => Heap.get?_push_of_some _ (hs₄.extBut _ _ c3 (hs₂.extBut _ _ c2 (hs₀.extBut _ _ c1 e)))
  cases f with
  | true =>
    rw [if_neg (show ¬ ((Value.bool true != Value.bool true) = true) from Bool.false_ne_true)]
    refine wpAny_pure ?_
    have hs₀ := Heap.SameBut.refl z s.heap
    simp only [Bool.false_eq_true, if_false]
    rw [← Array.forIn_toList]
    simp only [List.forIn_cons, List.forIn_nil]
    refine wpAny_bind (wpAny_bind (wpAny_bind (wpAny_holding ?_)))
    show wpAny _ _ (zdraw st (.ref i1)) _ _ _
    refine draw (h1.extBut hs₀.extBut D.i1z) (hl1.extBut hs₀.extBut D.l1z) hx fun h₂ h1₂ hs₂ => wpAny_pure (wpAny_bind (wpAny_bind (wpAny_holding ?_)))
    show wpAny _ _ (zdraw st (.ref i2)) _ _ _
    refine draw ((h2.extBut hs₀.extBut D.i2z).extBut hs₂.extBut D.i12.symm) ((hl2.extBut hs₀.extBut D.l2z).extBut hs₂.extBut D.l2i1) hy fun h₄ h2₄ hs₄ => wpAny_pure (wpAny_pure ?_)
    exact wpAny_bind (wpAny_newTuple (hsz := by show 2 ≤ sizeLine; decide) (wpAny_pure ⟨_, rfl, main _ ‹_› hs₀ h₂ h₄ h1₂ hs₂ h2₄ hs₄⟩))
  | false =>
    rw [if_pos (show (Value.bool false != Value.bool true) = true from rfl)]
    refine wpAny_bind (wpAny_setField_rec hz (by simp) fun h₀ hz₀ hs₀ => ?_)
    replace hz₀ : ZipO h₀ z TI TO (rawInt T0) (.bool true) st := hz₀
    refine wpAny_pure ?_
    simp only [Bool.false_eq_true, if_false]
    rw [← Array.forIn_toList]
    simp only [List.forIn_cons, List.forIn_nil]
    refine wpAny_bind (wpAny_bind (wpAny_bind (wpAny_holding ?_)))
    show wpAny _ _ (zdraw st (.ref i1)) _ _ _
    refine draw (h1.extBut hs₀.extBut D.i1z) (hl1.extBut hs₀.extBut D.l1z) hx fun h₂ h1₂ hs₂ => wpAny_pure (wpAny_bind (wpAny_bind (wpAny_holding ?_)))
    show wpAny _ _ (zdraw st (.ref i2)) _ _ _
    refine draw ((h2.extBut hs₀.extBut D.i2z).extBut hs₂.extBut D.i12.symm) ((hl2.extBut hs₀.extBut D.l2z).extBut hs₂.extBut D.l2i1) hy fun h₄ h2₄ hs₄ => wpAny_pure (wpAny_pure ?_)
    exact wpAny_bind (wpAny_newTuple (hsz := by show 2 ≤ sizeLine; decide) (wpAny_pure ⟨_, rfl, main _ ‹_› hs₀ h₂ h₄ h1₂ hs₂ h2₄ hs₄⟩))
/-- StopIteration is raised -/
theorem zn_stop {α : Type} {Q : α → Shared → Prop} (hh : A.handled = none) (hE : ∀ h' e, (∀ c o, s.heap.get? c = some o → h'.get? c = some o) → (∃ o, h'.get? e = some o ∧ o.cls = .type "StopIteration") → E (.ref e) { s with heap := h' }) :
    wpAny (model prog w) A (Builtin.SmallTypes.stopIteration : Sem α) Q E s := by
  unfold Builtin.SmallTypes.stopIteration
  refine wpAny_bind ?_
  simp only [newExc, newTuple]
  refine wpAny_bind (wpAny_newObj_type ?_ (by size_fits))
  refine wpAny_bind (m := firstArgMember _ _) (wpAny_of_eq (a := Value.none) (by first | rfl | (simp only [firstArgMember]; rfl)) ?_)
  refine wpAny_newObj_type ?_ (by size_fits)
  simp only [raiseNew]
  refine wpAny_bind (wpAny_handled ?_)
  rw [hh]
  refine wpAny_bind (wpAny_pure (wpAny_throw ?_))
  exact hE _ _ (fun c o e => Heap.get?_push_of_some _ (Heap.get?_push_of_some _ e)) ⟨_, Heap.get?_push_size _ rfl, rfl⟩
/-- the end: both lists have ended at once -/
theorem zn_end {st : Bool} {z TI TO i1 i2 l1 l2 : Addr} {f0 f1 : Value} {k : Nat} {xs ys : Array Value} {Q : PySem.Fin → Shared → Prop} (hh : A.handled = none) (D : ZipApart z TI TO i1 i2 l1 l2)
    (hz : ZipO s.heap z TI TO f0 f1 st) (hf : (f0 = .none ∧ f1 = .bool false ∧ ∃ a b, IsPair s.heap TO a b) ∨ ∃ (T0 : Addr) (oT : Obj) (f : Bool), f0 = rawInt T0 ∧ f1 = .bool f ∧ s.heap.get? T0 = some oT) (hTI : IsPair s.heap TI (.ref i1) (.ref i2))
    (h1 : s.heap.IsListIter i1 l1 k) (h2 : s.heap.IsListIter i2 l2 k) (hl1 : s.heap.IsList l1 xs) (hl2 : s.heap.IsList l2 ys) (hx : xs[k]? = none) (hy : ys[k]? = none)
    (hE : ∀ h' e, (∀ c o, c ≠ z → c ≠ TO → c ≠ i1 → c ≠ i2 → s.heap.get? c = some o → h'.get? c = some o) → (∃ o, h'.get? e = some o ∧ o.cls = .type "StopIteration") → E (.ref e) { s with heap := h' }) :
    wpAny (model prog w) A (Builtin.«zip.__next__» ⟨[.ref z], []⟩) Q E s := by
  rcases hf with ⟨rfl, rfl, a, b, hTO⟩ | ⟨T0, oT, f, rfl, rfl, hT0⟩
  · cases st with
    | false => exact zip_next_end hh D hz hTI hTO h1 h2 hl1 hl2 (.inl hx) hE
    | true =>
      show wpAny _ _ (field (.ref z) 2 >>= _) _ _ _
      refine wpAny_bind (wpAny_field hz rfl (x := .bool true) rfl ?_)
      show wpAny _ _ (field (.ref z) 3 >>= _) _ _ _
      refine wpAny_bind (wpAny_field hz rfl (x := .ref TI) rfl ?_)
      refine wpAny_bind (wpAny_seqItems hTI rfl ?_)
      show wpAny _ _ (Builtin.SmallTypes.ownedTupleIsFree (.ref z) >>= _) _ _ _
      refine wpAny_bind ?_
      unfold Builtin.SmallTypes.ownedTupleIsFree
      refine wpAny_bind (wpAny_field hz rfl (x := .none) rfl (wpAny_pure ?_))
      simp only [if_true]
      refine wpAny_bind (wpAny_rule ?_)
      refine wpAny_bind (wpAny_field hz rfl (x := .ref TO) rfl ?_)
      refine wpAny_bind (wpAny_setField_rec hz (by simp) fun h₁ hz₁ hs₁ => ?_)
      replace hz₁ : ZipO h₁ z TI TO .ellipsis (.bool false) true := hz₁
      refine wpAny_bind ?_
      simp only [List.zipIdx_cons, List.zipIdx_nil, List.forIn_cons, List.forIn_nil]
      refine wpAny_bind (wpAny_bind (wpAny_onRaise ?_))
      show wpAny _ _ (Builtin.SmallTypes.nextOrEnd (.ref i1)) _ _ _
      refine nx_end hh (h1.extBut hs₁.extBut D.i1z) (hl1.extBut hs₁.extBut D.l1z) hx fun h₂ hs₂ => ?_
      have hz₂ : ZipO h₂ z TI TO .ellipsis (.bool false) true := hs₂ _ _ D.i1z.symm hz₁
      refine wpAny_bind (wpAny_setField_rec hz₂ (by simp) fun h₃ hz₃ hs₃ => ?_)
      have k2 : h₃.IsListIter i2 l2 k := (((h2.extBut hs₁.extBut D.i2z).extBut hs₂ D.i12.symm).extBut hs₃.extBut D.i2z)
      have m2 : h₃.IsList l2 ys := (((hl2.extBut hs₁.extBut D.l2z).extBut hs₂ D.l2i1).extBut hs₃.extBut D.l2z)
      refine wpAny_bind ?_
      show wpAny _ _ (forIn [(Value.ref i2, 1)] PUnit.unit _ >>= _) _ _ _
      refine wpAny_bind ?_
      simp only [List.forIn_cons, List.forIn_nil]
      refine wpAny_bind (wpAny_bind (nx_end hh k2 m2 hy fun h₄ hs₄ => ?_))
      simp only [Option.isSome_none, Bool.false_eq_true, if_false]
      refine wpAny_pure (wpAny_pure ?_)
      refine wpAny_bind (wpAny_rule (zn_stop hh fun h' e he ho => ?_))
      exact hE h' e (fun c o c1 c2 c3 c4 q => he c o (hs₄ c o c4 (hs₃.extBut c o c1 (hs₂ c o c3 (hs₁.extBut c o c1 q))))) ho
  · show wpAny _ _ (field (.ref z) 2 >>= _) _ _ _
    refine wpAny_bind (wpAny_field hz rfl (x := .bool st) rfl ?_)
    show wpAny _ _ (field (.ref z) 3 >>= _) _ _ _
    refine wpAny_bind (wpAny_field hz rfl (x := .ref TI) rfl ?_)
    refine wpAny_bind (wpAny_seqItems hTI rfl ?_)
    show wpAny _ _ (Builtin.SmallTypes.ownedTupleIsFree (.ref z) >>= _) _ _ _
    have est : (Value.bool st == Value.bool true) = st := by cases st <;> rfl
    rw [est]
    refine wpAny_bind ?_
    unfold Builtin.SmallTypes.ownedTupleIsFree
    refine wpAny_bind (wpAny_field hz rfl (x := rawInt T0) rfl ?_)
    show wpAny _ _ (loadIfAlive ((T0 : Int).toNat) >>= _) _ _ _
    rw [Int.toNat_natCast]
    refine wpAny_bind (zn_alive hT0 ?_)
    simp only [Option.isNone_some, Bool.false_eq_true, if_false]
    refine wpAny_bind (wpAny_field hz rfl (x := .bool f) rfl ?_)
    have out : ∃ h₀ : Heap, Heap.SameBut z s.heap h₀ := ⟨_, Heap.SameBut.refl z s.heap⟩
    cases f with
    | true =>
      rw [if_neg (show ¬ ((Value.bool true != Value.bool true) = true) from Bool.false_ne_true)]
      refine wpAny_pure ?_
      have hs₀ := Heap.SameBut.refl z s.heap
      simp only [Bool.false_eq_true, if_false]
      rw [← Array.forIn_toList]
      simp only [List.forIn_cons, List.forIn_nil]
      refine wpAny_bind (wpAny_bind (wpAny_bind (wpAny_holding ?_)))
      cases st with
      | false =>
        show wpAny _ _ (Builtin.SmallTypes.nextOf (.ref i1) >>= _) _ _ _
        exact wpAny_bind (wpAny_nextOf_list_end hh (h1.extBut hs₀.extBut D.i1z) (hl1.extBut hs₀.extBut D.l1z) hx fun h₂ e hs₂ ho => hE h₂ e (fun c o c1 c2 c3 c4 q => hs₂ c o c3 (hs₀.extBut c o c1 q)) ho)
      | true =>
        show wpAny _ _ (Builtin.SmallTypes.nextOrEnd (.ref i1)) _ _ _
        refine nx_end hh (h1.extBut hs₀.extBut D.i1z) (hl1.extBut hs₀.extBut D.l1z) hx fun h₂ hs₂ => ?_
        refine wpAny_bind ?_
        show wpAny _ _ (forIn [(Value.ref i2, 1)] PUnit.unit _ >>= _) _ _ _
        have k2 : h₂.IsListIter i2 l2 k := (h2.extBut hs₀.extBut D.i2z).extBut hs₂ D.i12.symm
        have m2 : h₂.IsList l2 ys := (hl2.extBut hs₀.extBut D.l2z).extBut hs₂ D.l2i1
        refine wpAny_bind ?_
        simp only [List.forIn_cons, List.forIn_nil]
        refine wpAny_bind (wpAny_bind (nx_end hh k2 m2 hy fun h₄ hs₄ => ?_))
        simp only [Option.isSome_none, Bool.false_eq_true, if_false]
        refine wpAny_pure (wpAny_pure ?_)
        refine wpAny_bind (wpAny_rule (zn_stop hh fun h' e he ho => ?_))
        exact hE h' e (fun c o c1 c2 c3 c4 q => he c o (hs₄ c o c4 (hs₂ c o c3 (hs₀.extBut c o c1 q)))) ho
    | false =>
      rw [if_pos (show (Value.bool false != Value.bool true) = true from rfl)]
      refine wpAny_bind (wpAny_setField_rec hz (by simp) fun h₀ hz₀ hs₀ => ?_)
      refine wpAny_pure ?_
      simp only [Bool.false_eq_true, if_false]
      rw [← Array.forIn_toList]
      simp only [List.forIn_cons, List.forIn_nil]
      refine wpAny_bind (wpAny_bind (wpAny_bind (wpAny_holding ?_)))
      cases st with
      | false =>
        show wpAny _ _ (Builtin.SmallTypes.nextOf (.ref i1) >>= _) _ _ _
        exact wpAny_bind (wpAny_nextOf_list_end hh (h1.extBut hs₀.extBut D.i1z) (hl1.extBut hs₀.extBut D.l1z) hx fun h₂ e hs₂ ho => hE h₂ e (fun c o c1 c2 c3 c4 q => hs₂ c o c3 (hs₀.extBut c o c1 q)) ho)
      | true =>
        show wpAny _ _ (Builtin.SmallTypes.nextOrEnd (.ref i1)) _ _ _
        refine nx_end hh (h1.extBut hs₀.extBut D.i1z) (hl1.extBut hs₀.extBut D.l1z) hx fun h₂ hs₂ => ?_
        refine wpAny_bind ?_
        show wpAny _ _ (forIn [(Value.ref i2, 1)] PUnit.unit _ >>= _) _ _ _
        have k2 : h₂.IsListIter i2 l2 k := (h2.extBut hs₀.extBut D.i2z).extBut hs₂ D.i12.symm
        have m2 : h₂.IsList l2 ys := (hl2.extBut hs₀.extBut D.l2z).extBut hs₂ D.l2i1
        refine wpAny_bind ?_
        simp only [List.forIn_cons, List.forIn_nil]
        refine wpAny_bind (wpAny_bind (nx_end hh k2 m2 hy fun h₄ hs₄ => ?_))
        simp only [Option.isSome_none, Bool.false_eq_true, if_false]
        refine wpAny_pure (wpAny_pure ?_)
        refine wpAny_bind (wpAny_rule (zn_stop hh fun h' e he ho => ?_))
        exact hE h' e (fun c o c1 c2 c3 c4 q => he c o (hs₄ c o c4 (hs₂ c o c3 (hs₀.extBut c o c1 q)))) ho
/-- zip stands at place k of both lists -/
def ZSt (st : Bool) (h : Heap) (z TI TO i1 i2 l1 l2 S : Addr) (xs ys : Array Value) (k : Nat) : Prop :=
  IsPair h TI (.ref i1) (.ref i2) ∧ h.IsListIter i1 l1 k ∧ h.IsListIter i2 l2 k ∧ h.IsList l1 xs ∧ h.IsList l2 ys ∧ ∃ f0 f1, ZipO h z TI TO f0 f1 st ∧
    ((f0 = .none ∧ f1 = .bool false ∧ ∃ a b, IsPair h TO a b) ∨ ∃ (T0 : Addr) (oT : Obj) (f : Bool), f0 = rawInt T0 ∧ f1 = .bool f ∧ h.get? T0 = some oT ∧ T0 ≠ z ∧ T0 ≠ i1 ∧ T0 ≠ i2 ∧ T0 ≠ S)
theorem ZSt.keep {st : Bool} {h h' : Heap} {z TI TO i1 i2 l1 l2 S : Addr} {xs ys : Array Value} {k : Nat} (x : ZSt st h z TI TO i1 i2 l1 l2 S xs ys k) (ho : ∀ c o, c ≠ S → h.get? c = some o → h'.get? c = some o)
    (n : z ≠ S ∧ TI ≠ S ∧ TO ≠ S ∧ i1 ≠ S ∧ i2 ≠ S ∧ l1 ≠ S ∧ l2 ≠ S) : ZSt st h' z TI TO i1 i2 l1 l2 S xs ys k := by
  obtain ⟨n1, n2, n3, n4, n5, n6, n7⟩ := n
  obtain ⟨a1, a2, a3, a4, a5, f0, f1, a6, a7⟩ := x
  refine ⟨ho _ _ n2 a1, a2.at fun o e => ho _ o n4 e, a3.at fun o e => ho _ o n5 e, a4.at fun o e => ho _ o n6 e, a5.at fun o e => ho _ o n7 e, f0, f1, ho _ _ n1 a6, ?_⟩
  rcases a7 with ⟨e0, e1, a, b, hT⟩ | ⟨T0, oT, f, e0, e1, hT, m1, m2, m3, m4⟩
  · exact .inl ⟨e0, e1, a, b, ho _ _ n3 hT⟩
  · exact .inr ⟨T0, oT, f, e0, e1, ho _ _ m4 hT, m1, m2, m3, m4⟩
theorem zp_next {st : Bool} {z TI TO i1 i2 l1 l2 S : Addr} {k : Nat} {xs ys : Array Value} {x y : Value} {Q : Option Value → Shared → Prop} (D : ZipApart z TI TO i1 i2 l1 l2) (hs : ZSt st s.heap z TI TO i1 i2 l1 l2 S xs ys k) (hS : S < s.heap.objs.size)
    (hx : xs[k]? = some x) (hy : ys[k]? = some y)
    (hQ : ∀ h', ZSt st h' z TI TO i1 i2 l1 l2 S xs ys (k + 1) → IsPair h' s.heap.objs.size x y → h'.objs.size = s.heap.objs.size + 1 → (∀ c o, c ≠ z → c ≠ TO → c ≠ i1 → c ≠ i2 → s.heap.get? c = some o → h'.get? c = some o) → Q (some (.ref s.heap.objs.size)) { s with heap := h' }) :
    wpAny (model prog w) A (pyNext (.ref z)) Q E s := by
  obtain ⟨hTI, h1, h2, hl1, hl2, f0, f1, hz, hf⟩ := hs
  have hT : s.TypeIs (.ref z) "zip" := ⟨_, hz, rfl⟩
  have lt : ∀ {c o}, s.heap.get? c = some o → s.heap.objs.size ≠ c := fun e => Nat.ne_of_gt (Heap.lt_size e)
  have lt1 : s.heap.objs.size ≠ i1 := by obtain ⟨_, e, _⟩ := h1; exact lt e
  have lt2 : s.heap.objs.size ≠ i2 := by obtain ⟨_, e, _⟩ := h2; exact lt e
  unfold pyNext
  rcases hf with ⟨rfl, rfl, a, b, hTO⟩ | ⟨T0, oT, f, rfl, rfl, hT0, m1, m2, m3, m4⟩
  · refine wpAny_bind (wpAny_attempt (wpAny_callSpecial?_slot (name := Str.ofString "__next__") hT F.slot_zip_next
      (wpAny_call_entry F.slot_zip_next hT F.entry_zip_next (zn_free D hz hTI hTO h1 h2 hl1 hl2 hx hy fun h' a1 a2 a3 a4 a5 a6 hk => wpAny_pure ?_) (F.args_zip_next_1 _))))
    exact hQ h' ⟨hk _ _ D.TIz D.TITO D.TIi1 D.TIi2 hTI, a3, a4, hl1.at fun o e => hk _ o D.l1z D.l1TO D.l1i1 D.l1i2 e, hl2.at fun o e => hk _ o D.l2z D.l2TO D.l2i1 D.l2i2 e, _, _, a1,
      .inr ⟨_, _, false, rfl, rfl, a5, lt hz, lt1, lt2, Nat.ne_of_gt hS⟩⟩ a5 a6 hk
  · refine wpAny_bind (wpAny_attempt (wpAny_callSpecial?_slot (name := Str.ofString "__next__") hT F.slot_zip_next
      (wpAny_call_entry F.slot_zip_next hT F.entry_zip_next (zn_out D hz hT0 hTI h1 h2 hl1 hl2 hx hy fun h' a1 a3 a4 a5 a6 hk => wpAny_pure ?_) (F.args_zip_next_1 _))))
    exact hQ h' ⟨hk _ _ D.TIz D.TIi1 D.TIi2 hTI, a3, a4, hl1.at fun o e => hk _ o D.l1z D.l1i1 D.l1i2 e, hl2.at fun o e => hk _ o D.l2z D.l2i1 D.l2i2 e, _, _, a1,
      .inr ⟨_, _, true, rfl, rfl, hk _ _ m1 m2 m3 hT0, m1, m2, m3, m4⟩⟩ a5 a6 fun c o c1 _ c3 c4 e => hk c o c1 c3 c4 e
theorem zp_end {st : Bool} {z TI TO i1 i2 l1 l2 S : Addr} {k : Nat} {xs ys : Array Value} {Q : Option Value → Shared → Prop} (hh : A.handled = none) (D : ZipApart z TI TO i1 i2 l1 l2) (hs : ZSt st s.heap z TI TO i1 i2 l1 l2 S xs ys k)
    (hx : xs[k]? = none) (hy : ys[k]? = none) (hQ : ∀ h', (∀ c o, c ≠ z → c ≠ TO → c ≠ i1 → c ≠ i2 → s.heap.get? c = some o → h'.get? c = some o) → Q none { s with heap := h' }) :
    wpAny (model prog w) A (pyNext (.ref z)) Q E s := by
  obtain ⟨hTI, h1, h2, hl1, hl2, f0, f1, hz, hf⟩ := hs
  have hT : s.TypeIs (.ref z) "zip" := ⟨_, hz, rfl⟩
  unfold pyNext
  refine wpAny_bind (wpAny_attempt (wpAny_callSpecial?_slot (name := Str.ofString "__next__") hT F.slot_zip_next
    (wpAny_call_entry F.slot_zip_next hT F.entry_zip_next (zn_end hh D hz ?_ hTI h1 h2 hl1 hl2 hx hy fun h' e hk he => ?_) (F.args_zip_next_1 _))))
  · rcases hf with h | ⟨T0, oT, f, e0, e1, hT0, _⟩
    · exact .inl h
    · exact .inr ⟨T0, oT, f, e0, e1, hT0⟩
  · obtain ⟨o, ho, hc⟩ := he
    refine wpAny_bind (wpAny_isInstance (T := "StopIteration") (b := true) ⟨o, ho, hc⟩ isSubtype_stop ?_)
    exact wpAny_pure (hQ _ hk)
theorem zp_iter {st : Bool} {z TI TO : Addr} {f0 f1 : Value} {Q : Value → Shared → Prop} (hz : ZipO s.heap z TI TO f0 f1 st) (h : Q (.ref z) s) : wpAny (model prog w) A (pyIter (.ref z)) Q E s := by
  have hT : s.TypeIs (.ref z) "zip" := ⟨_, hz, rfl⟩
  refine wpAny_pyIter_slot hT F.slot_zip_iter (wpAny_call_entry F.slot_zip_iter hT F.entry_zip_iter ?_ (F.args_zip_iter_1 _))
  show wpAny _ _ (ret (.ref z)) _ _ s
  exact wpAny_pure ⟨_, rfl, "zip", _, hT, F.slot_zip_next.lookup, h⟩
theorem zip_len0 : typeLookup (.type "zip") "__len__" = pure none := am_miss_of_fast (by decide +kernel)
theorem zip_hint0 : typeLookup (.type "zip") "__length_hint__" = pure none := am_miss_of_fast (by decide +kernel)
theorem zp_hint {z : Addr} (hT : s.TypeIs (.ref z) "zip") {Q : Bool → Shared → Prop} (h : Q true s) : wpAny (model prog w) A (Builtin.List.listLengthHint (.ref z)) Q E s := by
  unfold Builtin.List.listLengthHint
  refine wpAny_bind (wpAny_specialOf hT zip_len0 ?_)
  show wpAny _ _ (specialOf (.ref z) (Str.ofString "__length_hint__") >>= _) _ _ _
  exact wpAny_bind (wpAny_specialOf hT zip_hint0 (wpAny_pure h))
/-- the pairs made so far -/
structure ZMade (xs ys : Array Value) (lo : Addr) (h : Heap) (as : List Addr) : Prop where
  rise : as.Pairwise (· < ·)
  above : ∀ a ∈ as, lo < a
  pairs : ∀ (j : Nat) (a : Addr), as[j]? = some a → ∃ x y, xs[j]? = some x ∧ ys[j]? = some y ∧ IsPair h a x y
theorem ZMade.there {xs ys : Array Value} {lo : Addr} {h : Heap} {as : List Addr} (g : ZMade xs ys lo h as) {a : Addr} (ha : a ∈ as) : a < h.objs.size := by
  obtain ⟨j, hj⟩ := List.mem_iff_getElem?.mp ha
  obtain ⟨_, _, _, _, e⟩ := g.pairs j a hj
  exact Heap.lt_size e
theorem zp_loop {st : Bool} {R : Result → Shared → Prop} {z TI TO i1 i2 l1 l2 S : Addr} {xs ys : Array Value} (hh : A.handled = none) (D : ZipApart z TI TO i1 i2 l1 l2) (hl : xs.size = ys.size) (hn : xs.size ≤ sizeLine)
    (nS : z ≠ S ∧ TI ≠ S ∧ TO ≠ S ∧ i1 ≠ S ∧ i2 ≠ S ∧ l1 ≠ S ∧ l2 ≠ S) (bz : z < S ∧ TO < S ∧ i1 < S ∧ i2 < S) (res : Value) {h₁ : Heap}
    (hR : ∀ h' tk acc c as, (∀ b o, b ≠ S → b ≠ z → b ≠ TO → b ≠ i1 → b ≠ i2 → h₁.get? b = some o → h'.get? b = some o) → h'.get? S = some { cls := .type "list", dict := none, data := .seq acc c, slots := #[] } → as.length = xs.size → ZMade xs ys S h' as →
      acc.toList = as.map Value.ref → R (.ok (.ret res)) { s with heap := h', toks := tk }) :
    ∀ (k i : Nat) (h : Heap) (tk c : Nat) (acc : Array Value) (as : List Addr), xs.size - i = k → i ≤ xs.size → ZSt st h z TI TO i1 i2 l1 l2 S xs ys i → (∀ b o, b ≠ S → b ≠ z → b ≠ TO → b ≠ i1 → b ≠ i2 → h₁.get? b = some o → h.get? b = some o) →
      h.get? S = some { cls := .type "list", dict := none, data := .seq acc c, slots := #[] } → acc.toList = as.map Value.ref → as.length = i → ZMade xs ys S h as →
      codeAny (model prog w) A (.builtin "list.extend.loop" ⟨[.ref S, .ref z, res], []⟩) R { s with heap := h, toks := tk } := by
  obtain ⟨n1, n2, n3, n4, n5, n6, n7⟩ := nS
  obtain ⟨b1, b2, b3, b4⟩ := bz
  intro k
  induction k with
  | zero =>
    intro i h tk c acc as hk hi hst hkeep hS hacc hal hG
    refine codeAny_builtin PySem.F.entry_extend_loop ?_
    rw [Around.under_plainId PySem.F.plain_extend_loop _]
    show wpAny _ A.in1 (pyNext (.ref z) >>= _) _ _ _
    refine wpAny_bind (zp_end (s := { s with heap := h, toks := tk }) (A := A.in1) hh D hst (Array.getElem?_eq_none (by omega)) (Array.getElem?_eq_none (by omega)) fun h' he => ?_)
    have ab : ∀ a, a ∈ as → a ≠ z ∧ a ≠ TO ∧ a ≠ i1 ∧ a ≠ i2 := fun a ha => by have := hG.above a ha; exact ⟨Nat.ne_of_gt (Nat.lt_trans b1 this), Nat.ne_of_gt (Nat.lt_trans b2 this), Nat.ne_of_gt (Nat.lt_trans b3 this), Nat.ne_of_gt (Nat.lt_trans b4 this)⟩
    refine wpAny_pure (hR h' tk acc c as (fun b o h1 h2 h3 h4 h5 e => he b o h2 h3 h4 h5 (hkeep b o h1 h2 h3 h4 h5 e)) (he S _ n1.symm n3.symm n4.symm n5.symm hS) (by omega) ⟨hG.rise, hG.above, fun j a hj => ?_⟩ hacc)
    obtain ⟨x, y, e1, e2, e3⟩ := hG.pairs j a hj
    obtain ⟨a1, a2, a3, a4⟩ := ab a (List.mem_of_getElem? hj)
    exact ⟨x, y, e1, e2, he a _ a1 a2 a3 a4 e3⟩
  | succ k ih =>
    intro i h tk c acc as hk hi hst hkeep hS hacc hal hG
    have hlt : i < xs.size := by omega
    have hlt2 : i < ys.size := by omega
    have hsz : acc.size = i := by rw [← Array.length_toList, hacc, List.length_map, hal]
    refine codeAny_builtin PySem.F.entry_extend_loop ?_
    rw [Around.under_plainId PySem.F.plain_extend_loop _]
    show wpAny _ A.in1 (pyNext (.ref z) >>= _) _ _ _
    have hSl : S < h.objs.size := Heap.lt_size hS
    refine wpAny_bind (zp_next (s := { s with heap := h, toks := tk }) D hst hSl (Array.getElem?_eq_getElem hlt) (Array.getElem?_eq_getElem hlt2) fun h' hst' ht hz hkp => ?_)
    dsimp only at ht hz hkp ⊢
    have hS' := hkp S _ n1.symm n3.symm n4.symm n5.symm hS
    have up : ∀ b o, b ≠ S → h'.get? b = some o → (h'.update S (Obj.mapSeq (·.push (Value.ref h.objs.size)))).get? b = some o := fun b o hb e => (Heap.get?_update_other _ _ (Ne.symm hb)).trans e
    show wpAny _ A.in1 (updateSeq S (·.push (Value.ref h.objs.size)) >>= _) _ _ _
    refine wpAny_bind ?_
    refine wpAny_updateSeq hS' rfl (wpAny_pure ⟨plainId_quiet PySem.F.plain_extend_loop _, ih (i + 1) _ tk _ (acc.push (Value.ref h.objs.size)) (as ++ [h.objs.size]) (by omega) hlt (hst'.keep up ⟨n1, n2, n3, n4, n5, n6, n7⟩)
      (fun b o h1 h2 h3 h4 h5 e => up b o h1 (hkp b o h2 h3 h4 h5 (hkeep b o h1 h2 h3 h4 h5 e))) (Heap.get?_update_self _ hS' rfl) (by rw [Array.toList_push, hacc, List.map_append]; rfl) (by rw [List.length_append, hal]; rfl) ⟨?_, ?_, ?_⟩⟩) (by rw [hsz]; omega) (by show (acc.push (Value.ref h.objs.size)).size ≤ sizeLine + 1; rw [Array.size_push, hsz]; omega)
    · refine List.pairwise_append.mpr ⟨hG.rise, List.pairwise_singleton _ _, fun a ha b hb => ?_⟩
      rw [List.mem_singleton.mp hb]
      exact hG.there ha
    · intro a ha
      rcases List.mem_append.mp ha with ha | ha
      · exact hG.above a ha
      · rw [List.mem_singleton.mp ha]; exact hSl
    · intro j b hj
      rcases Nat.lt_trichotomy j as.length with q | q | q
      · rw [List.getElem?_append_left q] at hj
        obtain ⟨x, y, e1, e2, e3⟩ := hG.pairs j b hj
        have hb := hG.above b (List.mem_of_getElem? hj)
        exact ⟨x, y, e1, e2, up b _ (Nat.ne_of_gt hb) (hkp b _ (Nat.ne_of_gt (Nat.lt_trans b1 hb)) (Nat.ne_of_gt (Nat.lt_trans b2 hb)) (Nat.ne_of_gt (Nat.lt_trans b3 hb)) (Nat.ne_of_gt (Nat.lt_trans b4 hb)) e3)⟩
      · subst q
        have hb : h.objs.size = b := by simpa using hj
        subst hb
        subst hal
        exact ⟨_, _, Array.getElem?_eq_getElem hlt, Array.getElem?_eq_getElem hlt2, up _ _ (Nat.ne_of_gt hSl) ht⟩
      · have hnone : (as ++ [h.objs.size])[j]? = none := List.getElem?_eq_none (by rw [List.length_append, List.length_singleton]; omega)
        rw [hnone] at hj; cases hj
/-- list(z) of a zip that has not begun -/
theorem zp_ext {st : Bool} {R : Result → Shared → Prop} {z TI TO i1 i2 l1 l2 S : Addr} {xs ys : Array Value} (hh : A.handled = none) (D : ZipApart z TI TO i1 i2 l1 l2) (hl : xs.size = ys.size) (hn : xs.size ≤ sizeLine)
    (nS : z ≠ S ∧ TI ≠ S ∧ TO ≠ S ∧ i1 ≠ S ∧ i2 ≠ S ∧ l1 ≠ S ∧ l2 ≠ S) (bz : z < S ∧ TO < S ∧ i1 < S ∧ i2 < S) (res : Value) (c₀ : Nat) (hst : ZSt st s.heap z TI TO i1 i2 l1 l2 S xs ys 0) (hS : s.heap.get? S = some { cls := .type "list", data := .seq #[] c₀ })
    (hR : ∀ h' tk acc c as, (∀ b o, b ≠ S → b ≠ z → b ≠ TO → b ≠ i1 → b ≠ i2 → s.heap.get? b = some o → h'.get? b = some o) → h'.get? S = some { cls := .type "list", dict := none, data := .seq acc c, slots := #[] } → as.length = xs.size → ZMade xs ys S h' as →
      acc.toList = as.map Value.ref → R (.ok (.ret res)) { s with heap := h', toks := tk }) :
    wpAny (model prog w) A.in1 (Builtin.List.listExtendWith (.ref S) (.ref z) res)
      (fun fin s' => match fin with | .done f => R (.ok f) s' | .again c' => c'.quiet = true ∧ codeAny (model prog w) A c' R s') (fun e s' => R (.error e) s') s := by
  obtain ⟨hTI, q1, q2, q3, q4, f0, f1, hz, hf⟩ := id hst
  have hT : s.TypeIs (.ref z) "zip" := ⟨_, hz, rfl⟩
  have key : ∀ (h : Heap) (c₁ tk : Nat), (∀ b o, b ≠ S → s.heap.get? b = some o → h.get? b = some o) → h.get? S = some { cls := .type "list", data := .seq #[] c₁ } →
      codeAny (model prog w) A (.builtin "list.extend.loop" ⟨[.ref S, .ref z, res], []⟩) R { s with heap := h, toks := tk } := fun h c₁ tk hk hS₁ =>
    zp_loop (s := s) (h₁ := s.heap) hh D hl hn nS bz res hR xs.size 0 h tk c₁ #[] [] (Nat.sub_zero _) (Nat.zero_le _) (hst.keep hk nS) (fun b o hb _ _ _ _ e => hk b o hb e) hS₁ rfl rfl
      ⟨List.Pairwise.nil, (fun _ ha => nomatch ha), (fun j a hj => by simp at hj)⟩
  unfold Builtin.List.listExtendWith
  refine wpAny_bind (wpAny_typeOf (T := "zip") hT ?_)
  have h1 : Builtin.List.listSameRef (.ref S) (.ref z) = false := by simp [Builtin.List.listSameRef, nS.1.symm]
  have h2 : (Value.type "zip" == Value.type "list") = false := by decide
  have h3 : (Value.type "zip" == Value.type "tuple") = false := by decide
  simp only [h1, h2, h3, Bool.or_false, Bool.false_eq_true, if_false]
  refine wpAny_bind (zp_iter hz ?_)
  refine wpAny_bind (wpAny_holding (zp_hint hT ?_))
  refine wpAny_ite_split (fun _ => ?_) (fun _ => wpAny_pure ⟨plainId_quiet PySem.F.plain_extend_loop _, key _ c₀ _ (fun b o _ e => e) hS⟩)
  refine wpAny_bind (wpAny_rule ?_)
  refine wpAny_bind ?_
  show wpAny _ _ (updateSeq S (·.push .none) >>= fun _ => updateSeq S (·.pop)) _ _ _
  refine wpAny_bind (wpAny_updateSeq hS rfl ?_)
  have hS₂ := Heap.get?_update_self (Obj.mapSeq (·.push Value.none)) hS rfl
  refine wpAny_updateSeq (hz := by seq_fits) hS₂ rfl ?_
  have hS₃ := Heap.get?_update_self (Obj.mapSeq (·.pop)) hS₂ rfl
  refine wpAny_pure ⟨plainId_quiet PySem.F.plain_extend_loop _, key _ _ _ (fun b o hb e => ?_) hS₃⟩
  exact (Heap.get?_update_other _ _ (Ne.symm hb)).trans ((Heap.get?_update_other _ _ (Ne.symm hb)).trans e)
theorem zp_init {st : Bool} {R : Result → Shared → Prop} {z TI TO i1 i2 l1 l2 S : Addr} {xs ys : Array Value} (hh : A.handled = none) (D : ZipApart z TI TO i1 i2 l1 l2) (hl : xs.size = ys.size) (hn : xs.size ≤ sizeLine)
    (nS : z ≠ S ∧ TI ≠ S ∧ TO ≠ S ∧ i1 ≠ S ∧ i2 ≠ S ∧ l1 ≠ S ∧ l2 ≠ S) (bz : z < S ∧ TO < S ∧ i1 < S ∧ i2 < S) (hst : ZSt st s.heap z TI TO i1 i2 l1 l2 S xs ys 0) (hS : s.heap.get? S = some { cls := .type "list", data := .seq #[] })
    (hR : ∀ h' tk acc c as, (∀ b o, b ≠ S → b ≠ z → b ≠ TO → b ≠ i1 → b ≠ i2 → s.heap.get? b = some o → h'.get? b = some o) → h'.get? S = some { cls := .type "list", dict := none, data := .seq acc c, slots := #[] } → as.length = xs.size → ZMade xs ys S h' as →
      acc.toList = as.map Value.ref → R (.ok (.ret .none)) { s with heap := h', toks := tk }) :
    wpAny (model prog w) A.in1 (Builtin.«list.__init__» ⟨[.ref S, .ref z], []⟩)
      (fun fin s' => match fin with | .done f => R (.ok f) s' | .again c' => c'.quiet = true ∧ codeAny (model prog w) A c' R s') (fun e s' => R (.error e) s') s := by
  show wpAny _ _ (Builtin.List.listItems (.ref S) >>= _) _ _ s
  refine wpAny_bind ?_
  unfold Builtin.List.listItems
  refine wpAny_bind (wpAny_seqItems hS rfl (wpAny_pure ?_))
  show wpAny _ _ (updateSeq S (fun _ => #[]) >>= fun _ => letGo (#[] : Array Value).toList.reverse >>= fun _ => Builtin.List.listExtendWith (.ref S) (.ref z) .none) _ _ s
  refine wpAny_bind (wpAny_updateSeq hS rfl ?_)
  have hS₂ := Heap.get?_update_self (Obj.mapSeq (fun _ => (#[] : Array Value))) hS rfl
  have oth : ∀ b o, b ≠ S → s.heap.get? b = some o → (s.heap.update S (Obj.mapSeq (fun _ => (#[] : Array Value)))).get? b = some o :=
    fun b o hb e => (Heap.get?_update_other _ _ (Ne.symm hb)).trans e
  refine wpAny_bind (wpAny_letGo ?_)
  exact zp_ext hh D hl hn nS bz .none _ (hst.keep oth nS) hS₂ fun h' tk acc' c' as hk hS' hal hG hacc => hR h' tk acc' c' as (fun b o h1 h2 h3 h4 h5 e => hk b o h1 h2 h3 h4 h5 (oth b o h1 e)) hS' hal hG hacc
end
end M

/-! ### list(zip(xs, ys)), list(zip(xs, ys, strict=True)) -/
namespace PySem.F
open PySem
theorem typeCall_zip_st (a b v : Value) : checkTypeCall "zip" ⟨[a, b], [(Str.ofString "strict", v)]⟩ = pure () := by kernel_rfl
theorem newCall_zip_st (a b v : Value) : checkBuiltinCall "zip.__new__" ⟨[.type "zip", a, b], [(Str.ofString "strict", v)]⟩ = pure () := by kernel_rfl
theorem args_init_zip_st (o a b v : Value) : argsOk "object.__init__" ⟨[o, a, b], [(Str.ofString "strict", v)]⟩ := by unfold argsOk; kernel_rfl
end PySem.F
namespace M
open PySem PySem.Spec PyProof.Rows
abbrev zstH5 (h : Heap) (l1 l2 : Addr) : Heap := (zipH4 h l1 l2).push { cls := .type "zip", data := .fields #[.none, .bool false, .bool true, .ref (zipH2 h l1 l2).objs.size, .ref (zipH3 h l1 l2).objs.size] }
theorem meets_zip_st (l1 l2 : Addr) (xs ys : Array Value) :
    Meets (Builtin.«zip.__new__» ⟨[.type "zip", .ref l1, .ref l2], [(Str.ofString "strict", .bool true)]⟩) (fun _ R s => s.heap.IsList l1 xs ∧ s.heap.IsList l2 ys ∧
      R (.ok (.ret (.ref (zipH4 s.heap l1 l2).objs.size))) { s with heap := zstH5 s.heap l1 l2 }) :=
  .of_wp fun prog w A R s h => by
    obtain ⟨hp, g, d, tk, os⟩ := s; obtain ⟨hl1, hl2, h⟩ := h
    have hsub := sub_zip
    have hL1 : Heap.IsList (Shared.heap ⟨hp, g, d, tk, os⟩) l1 xs := hl1
    have hL2 : Heap.IsList (Shared.heap ⟨hp.push { cls := .type "list_iterator", data := .fields #[.ref l1, .int 0 0] }, g, d, tk, os⟩) l2 ys := Heap.IsList.push hl2 _
    have e2 : (Str.ofString "strict" != ("strict" : Str)) = false := by decide +kernel
    wp_walk using wpAny_pyIter_list hL1, wpAny_pyIter_list hL2
    exact ⟨_, rfl, h⟩
section
variable {prog : Program} {w : World} {A : Around} {E : Value → Shared → Prop} {s : Shared}
/-- a new zip, and what it is made of -/
def ZNew (st : Bool) (s : Shared) (l1 l2 : Addr) (Q : Value → Shared → Prop) : Prop :=
  ∀ h', ZipFree h' (s.heap.objs.size + 4) (s.heap.objs.size + 2) (s.heap.objs.size + 3) st → IsPair h' (s.heap.objs.size + 2) (.ref s.heap.objs.size) (.ref (s.heap.objs.size + 1)) →
      IsPair h' (s.heap.objs.size + 3) .none .none → h'.IsListIter s.heap.objs.size l1 0 → h'.IsListIter (s.heap.objs.size + 1) l2 0 → h'.objs.size = s.heap.objs.size + 5 →
      (∀ c o, s.heap.get? c = some o → h'.get? c = some o) → Q (.ref (s.heap.objs.size + 4)) { s with heap := h' }
theorem call_zip_st {l1 l2 : Addr} {xs ys : Array Value} {Q : Value → Shared → Prop} (hl1 : s.heap.IsList l1 xs) (hl2 : s.heap.IsList l2 ys) (h : ZNew true s l1 l2 Q) :
    wpAny (model prog w) A (call (.type "zip") [.ref l1, .ref l2] [(Str.ofString "strict", .bool true)]) Q E s := by
  refine callType_newKw F.called_zip (by decide) (F.typeCall_zip_st _ _ _) (F.newCall_zip_st _ _ _) (fun obj => F.args_init_zip_st obj _ _ _) F.entry_zip_new
    (meets_zip_st l1 l2 xs ys) ⟨hl1, hl2, ?_⟩
  have z1 : (zipH1 s.heap l1).objs.size = s.heap.objs.size + 1 := Heap.size_push ..
  have z2 : (zipH2 s.heap l1 l2).objs.size = s.heap.objs.size + 2 := by rw [Heap.size_push, z1]
  have z3 : (zipH3 s.heap l1 l2).objs.size = s.heap.objs.size + 3 := by rw [Heap.size_push, z2]
  have z4 : (zipH4 s.heap l1 l2).objs.size = s.heap.objs.size + 4 := by rw [Heap.size_push, z3]
  have z5 : (zstH5 s.heap l1 l2).objs.size = s.heap.objs.size + 5 := by rw [Heap.size_push, z4]
  have g5 : (zstH5 s.heap l1 l2).get? (zipH4 s.heap l1 l2).objs.size = some _ := Heap.get?_push_size _ rfl
  have g4 : (zstH5 s.heap l1 l2).get? (zipH3 s.heap l1 l2).objs.size = some _ := Heap.get?_push_of_some _ (Heap.get?_push_size _ rfl)
  have g3 : (zstH5 s.heap l1 l2).get? (zipH2 s.heap l1 l2).objs.size = some _ := Heap.get?_push_of_some _ (Heap.get?_push_of_some _ (Heap.get?_push_size _ rfl))
  have g2 : (zstH5 s.heap l1 l2).get? (zipH1 s.heap l1).objs.size = some _ := Heap.get?_push_of_some _ (Heap.get?_push_of_some _ (Heap.get?_push_of_some _ (Heap.get?_push_size _ rfl)))
  have g1 : (zstH5 s.heap l1 l2).get? s.heap.objs.size = some _ := Heap.get?_push_of_some _ (Heap.get?_push_of_some _ (Heap.get?_push_of_some _ (Heap.get?_push_of_some _ (Heap.get?_push_size _ rfl))))
  show _ ∧ _
  rw [z2, z3, z4] at g5
  rw [z1, z2] at g3
  rw [z3] at g4
  rw [z1] at g2
  rw [z4]
  exact ⟨⟨_, g5, rfl⟩, h _ g5 g3 g4 ⟨_, g1, rfl, rfl⟩ ⟨_, g2, rfl, rfl⟩ z5 fun c o x =>
    Heap.get?_push_of_some _ (Heap.get?_push_of_some _ (Heap.get?_push_of_some _ (Heap.get?_push_of_some _ (Heap.get?_push_of_some _ x))))⟩
theorem call_zip_pl {l1 l2 : Addr} {xs ys : Array Value} {Q : Value → Shared → Prop} (hl1 : s.heap.IsList l1 xs) (hl2 : s.heap.IsList l2 ys) (h : ZNew false s l1 l2 Q) :
    wpAny (model prog w) A (call (.type "zip") [.ref l1, .ref l2]) Q E s := call_zip_2 hl1 hl2 h
theorem call_list_zip {st : Bool} {Q : Value → Shared → Prop} {z TI TO i1 i2 l1 l2 : Addr} {a b : Value} {xs ys : Array Value} (hh : A.handled = none) (D : ZipApart z TI TO i1 i2 l1 l2) (hl : xs.size = ys.size) (hn : xs.size ≤ sizeLine)
    (hz : ZipFree s.heap z TI TO st) (hTI : IsPair s.heap TI (.ref i1) (.ref i2)) (hTO : IsPair s.heap TO a b) (q1 : s.heap.IsListIter i1 l1 0) (q2 : s.heap.IsListIter i2 l2 0) (q3 : s.heap.IsList l1 xs) (q4 : s.heap.IsList l2 ys)
    (hQ : ∀ h' tk acc c as, (∀ b o, b ≠ z → b ≠ TO → b ≠ i1 → b ≠ i2 → s.heap.get? b = some o → h'.get? b = some o) → h'.get? s.heap.objs.size = some { cls := .type "list", dict := none, data := .seq acc c, slots := #[] } → as.length = xs.size → ZMade xs ys s.heap.objs.size h' as →
      acc.toList = as.map Value.ref → Q (.ref s.heap.objs.size) { s with heap := h', toks := tk }) :
    wpAny (model prog w) A (call (.type "list") [.ref z]) Q E s := by
  refine callType_codes (Q₁ := fun obj s₁ => obj = .ref s.heap.objs.size ∧ s₁ = { s with heap := s.heap.push { cls := .type "list", data := .seq #[] } }) F.called_list (F.typeCall_list_1 _) F.entry_list_init
    (code_list_new _ ⟨rfl, rfl⟩) fun obj s₁ h₁ => ?_
  obtain ⟨rfl, rfl⟩ := h₁
  have lt : ∀ {c o}, s.heap.get? c = some o → c < s.heap.objs.size := fun e => Heap.lt_size e
  have ltI : ∀ {c l k}, s.heap.IsListIter c l k → c < s.heap.objs.size := fun h => by obtain ⟨_, e, _⟩ := h; exact lt e
  have ltL : ∀ {c x}, s.heap.IsList c x → c < s.heap.objs.size := fun h => by obtain ⟨_, e, _⟩ := h; exact lt e
  have hst : ZSt st s.heap z TI TO i1 i2 l1 l2 s.heap.objs.size xs ys 0 := ⟨hTI, q1, q2, q3, q4, _, _, hz, .inl ⟨rfl, rfl, a, b, hTO⟩⟩
  have up : ∀ b o, s.heap.get? b = some o → (s.heap.push { cls := .type "list", data := .seq #[] }).get? b = some o := fun b o e => Heap.get?_push_of_some _ e
  have hS : (s.heap.push { cls := .type "list", data := .seq #[] }).get? s.heap.objs.size = some { cls := .type "list", data := .seq #[] } := Heap.get?_push_size _ rfl
  refine ⟨⟨_, hS, rfl⟩, F.args_list_init_2 _ _, zp_init (A := A.in1) (S := s.heap.objs.size) hh D hl hn ⟨Nat.ne_of_lt (lt hz), Nat.ne_of_lt (lt hTI), Nat.ne_of_lt (lt hTO), Nat.ne_of_lt (ltI q1), Nat.ne_of_lt (ltI q2), Nat.ne_of_lt (ltL q3), Nat.ne_of_lt (ltL q4)⟩ ⟨lt hz, lt hTO, ltI q1, ltI q2⟩
    (hst.keep (fun c o _ e => up c o e) ⟨Nat.ne_of_lt (lt hz), Nat.ne_of_lt (lt hTI), Nat.ne_of_lt (lt hTO), Nat.ne_of_lt (ltI q1), Nat.ne_of_lt (ltI q2), Nat.ne_of_lt (ltL q3), Nat.ne_of_lt (ltL q4)⟩) hS fun h' tk acc' c' as hk hS' hal hG hacc => ?_⟩
  exact ⟨rfl, hQ h' tk acc' c' as (fun b o h2 h3 h4 h5 e => hk b o (Nat.ne_of_lt (lt e)) h2 h3 h4 h5 (up b o e)) hS' hal hG hacc⟩
end
end M

/-! ### readings of list(zip(xs, ys)) -/
namespace M
open PySem PySem.Spec PyProof.Rows L2
/-- the values are tuples that hold the pairs -/
inductive PzL (H : Hp) : List V → List (V × V) → Prop
  | nil : PzL H [] []
  | cons {t : Addr} {x y : V} {r : List V} {l : List (V × V)} : H t = some (.tup [x, y]) → PzL H r l → PzL H (.ref t :: r) ((x, y) :: l)
theorem PzL.ex {H H' : Hp} (e : Ex H H') : ∀ {r : List V} {l : List (V × V)}, PzL H r l → PzL H' r l
  | _, _, .nil => .nil
  | _, _, .cons h t => .cons (e _ _ h) (t.ex e)
theorem PzL.len {H : Hp} : ∀ {r : List V} {l : List (V × V)}, PzL H r l → r.length = l.length
  | _, _, .nil => rfl
  | _, _, .cons _ t => by simp [t.len]
/-- many new objects at once -/
theorem HOk.news {P : Program} {w : World} {H H' : Hp} {h h' : Heap} (x : HOk P w H h) (k : ∀ b u, h.get? b = some u → h'.get? b = some u) (old : ∀ b o, H b = some o → H' b = some o)
    (new : ∀ b o, H b = none → H' b = some o → ObjOk P w H' h' b o) : HOk P w H' h' := fun b u e => by
  cases q : H b with
  | none => exact new b u q e
  | some o =>
    have := old b o q
    rw [this] at e; cases e
    exact (x b _ q).stay (fun c v _ r => k c v r) (fun c r => old c _ r) fun c xs r => old c _ r
theorem Un.news {fs ex : List Addr} {H H' : Hp} {h h' : Heap} (k : ∀ b u, h.get? b = some u → h'.get? b = some u) (old : ∀ b o, H b = some o → H' b = some o) (low : ∀ b, b < h.objs.size → H b = none → H' b = none) : Un fs ex H H' h h' where
  keep := fun b u q _ _ _ => k b u q
  slot := fun b u q _ _ _ => ⟨u.slots, k b u q⟩
  free := fun b u q n _ => low b (Heap.lt_size q) n
  there := fun b u q _ => ⟨u, k b u q⟩
  tups := fun b xs q => old b _ q
  frzs := fun b u xs q => old b _ q
  tbls := fun b ps q => ⟨#[], by rw [old b _ q]; simp⟩
theorem Inv.news {X : Cx} {pins : List (Addr × Obj)} {σ : L2.St} {H H' : Hp} {s : Shared} {h' : Heap} {t' : Nat} (I : Inv X pins σ H s) (k : ∀ b u, s.heap.get? b = some u → h'.get? b = some u) (old : ∀ b o, H b = some o → H' b = some o)
    (low : ∀ b, b < s.heap.objs.size → H b = none → H' b = none) (new : ∀ b o, H b = none → H' b = some o → ObjOk X.prog X.w H' h' b o) : Inv X pins σ H' { s with heap := h', toks := t' } :=
  I.un (Un.news k old low) (HOk.news I.hok k old new)
theorem idx_rise : ∀ {as : List Nat} {j a : Nat}, as.Pairwise (· < ·) → as[j]? = some a → as.idxOf a = j
  | [], j, a, _, h => by simp at h
  | b :: r, 0, a, _, h => by
    have : b = a := by simpa using h
    subst this; simp
  | b :: r, j + 1, a, p, h => by
    have h' : r[j]? = some a := by simpa using h
    obtain ⟨p1, p2⟩ := List.pairwise_cons.mp p
    have ne : b ≠ a := Nat.ne_of_lt (p1 a (List.mem_of_getElem? h'))
    rw [List.idxOf_cons, beq_eq_false_iff_ne.mpr ne, cond_false, idx_rise p2 h']
theorem PzL.of {H : Hp} : ∀ {as : List Addr} {P : List (V × V)}, as.length = P.length → (∀ (j : Nat) (a : Addr), as[j]? = some a → ∃ p : V × V, P[j]? = some p ∧ H a = some (.tup [p.1, p.2])) → PzL H (as.map V.ref) P
  | [], [], _, _ => .nil
  | [], _ :: _, h, _ => by simp at h
  | _ :: _, [], h, _ => by simp at h
  | a :: as, p :: P, h, k => by
    obtain ⟨q, e, h0⟩ := k 0 a rfl
    have : p = q := by simpa using e
    subst this
    exact .cons h0 (PzL.of (by simpa using h) fun j b hb => k (j + 1) b hb)
/-- the heap with the pairs and their list -/
def zipH (H : Hp) (S : Addr) (as : List Addr) (P : List (V × V)) : Hp := fun a =>
  if a = S then some (.lst (as.map V.ref)) else if a ∈ as then (match P[List.idxOf (α := Nat) a as]? with | some p => some (.tup [p.1, p.2]) | none => H a) else H a
def mZipL (K : PySem.W.Frag) (ta : TA) : TE := fun σ H Q => ta σ H fun vs H1 => ∃ a b xs ys, vs = [.ref a, .ref b] ∧ SqL K H1 a xs ∧ SqL K H1 b ys ∧ xs.length = ys.length ∧ ∀ H' p ts, Ex H1 H' → H1 p = none → H' p = some (.lst ts) → PzL H' ts (xs.zip ys) → Q (.ref p) H'
section
variable {X : Cx} {e e1 e2 : Expr} {t : TA} {p p2 pos pos2 : Pos} {kws : List Keyword}
theorem zipL_end {pins : List (Addr × Obj)} {s1 : Shared} {σ : L2.St} {H1 : Hp} {Q : VK} {st : Bool} {a b : Addr} {xs ys : List V} (hh : X.A.handled = none) (I1 : Inv X pins σ H1 s1) (hqx : SqL X.K H1 a xs) (hqy : SqL X.K H1 b ys) (hl : xs.length = ys.length)
    (q : ∀ H' p ts, Ex H1 H' → H1 p = none → H' p = some (.lst ts) → PzL H' ts (xs.zip ys) → Q (.ref p) H') : ∃ its its2 : Array Value, s1.heap.IsList a its ∧ s1.heap.IsList b its2 ∧
    ZNew st s1 a b fun z s2 => wpAny (model X.prog X.w) X.A (call (.type "list") [z]) (EP X pins σ Q) X.xe s2 := by
  obtain ⟨its, rv, pl1, zl⟩ := I1.list hqx
  obtain ⟨its2, rv2, pl2, _⟩ := I1.list hqy
  have la : a < s1.heap.objs.size := pl1.lt
  have lb : b < s1.heap.objs.size := pl2.lt
  have len1 := rv.length
  have len2 := rv2.length
  refine ⟨_, _, pl1.isList, pl2.isList, fun h' hz hTI hTO h1 h2 hsz hk => ?_⟩
  refine call_list_zip (s := { s1 with heap := h' }) (xs := its.toArray) (ys := its2.toArray) hh (PySem.W.ktu_apart s1.heap.objs.size a b la lb) (by simp; omega) (by simp; omega) hz hTI hTO h1 h2 (pl1.isList.at fun o e => hk _ o e) (pl2.isList.at fun o e => hk _ o e) fun h'' tk acc c as hk' hS hal hG hacc => ?_
  dsimp only at hS hG hk' ⊢
  rw [hsz] at hS hG ⊢
  have kk : ∀ b u, s1.heap.get? b = some u → h''.get? b = some u := fun b u e => by
    have lt : b < s1.heap.objs.size := Heap.lt_size e
    have ne : ∀ k, b ≠ s1.heap.objs.size + k := fun k => Nat.ne_of_lt (Nat.lt_of_lt_of_le lt (Nat.le_add_right _ _))
    exact hk' b u (ne 4) (ne 3) (ne 0) (ne 1) (hk b u e)
  have nS : H1 (s1.heap.objs.size + 5) = none := I1.hok.fresh (Nat.le_add_right _ _)
  have fa : ∀ c ∈ as, H1 c = none := fun c hc => I1.hok.fresh (Nat.le_of_lt (Nat.lt_of_le_of_lt (Nat.le_add_right _ 5) (hG.above c hc)))
  have alen : as.length = (xs.zip ys).length := by rw [hal, List.length_zip]; simp; omega
  have at_ : ∀ (j : Nat) (c : Addr), as[j]? = some c → ∃ p : V × V, (xs.zip ys)[j]? = some p ∧ zipH H1 (s1.heap.objs.size + 5) as (xs.zip ys) c = some (.tup [p.1, p.2]) ∧ ∃ u v, RelV p.1 u ∧ RelV p.2 v ∧ IsPair h'' c u v := fun j c hj => by
    have jl : j < as.length := (List.getElem?_eq_some_iff.mp hj).1
    have hmem := List.mem_of_getElem? hj
    have jp : j < (xs.zip ys).length := by omega
    refine ⟨(xs.zip ys)[j], List.getElem?_eq_getElem jp, ?_, ?_⟩
    · unfold zipH
      have hab := hG.above c hmem
      rw [if_neg (Nat.ne_of_gt hab), if_pos hmem, idx_rise hG.rise hj, List.getElem?_eq_getElem jp]
    · obtain ⟨u, v, g1, g2, g3⟩ := hG.pairs j c hj
      have jx : j < xs.length := by rw [List.length_zip] at jp; omega
      have jy : j < ys.length := by rw [List.length_zip] at jp; omega
      obtain ⟨u', hu', ru⟩ := rv.get (List.getElem?_eq_getElem jx)
      obtain ⟨v', hv', rv'⟩ := rv2.get (List.getElem?_eq_getElem jy)
      have e1 : u' = u := by
        have : its[j]? = some u := by simpa using g1
        rw [hu'] at this; exact Option.some.inj this
      have e2 : v' = v := by
        have : its2[j]? = some v := by simpa using g2
        rw [hv'] at this; exact Option.some.inj this
      subst e1 e2
      rw [List.getElem_zip]
      exact ⟨u', v', ru, rv', g3⟩
  have old : Ex H1 (zipH H1 (s1.heap.objs.size + 5) as (xs.zip ys)) := fun b o e => by
    unfold zipH
    have lt := I1.hok.lt e
    rw [if_neg (by intro z; rw [z, nS] at e; cases e), if_neg (fun z => by rw [fa b z] at e; cases e)]
    exact e
  have low : ∀ b, b < s1.heap.objs.size → H1 b = none → zipH H1 (s1.heap.objs.size + 5) as (xs.zip ys) b = none := fun b lt e => by
    unfold zipH
    rw [if_neg (by intro z; subst z; exact absurd lt (by have := Nat.le_add_right s1.heap.objs.size 5; omega)), if_neg (fun z => absurd (Nat.lt_trans (Nat.lt_of_lt_of_le lt (Nat.le_add_right _ 5)) (hG.above b z)) (Nat.lt_irrefl _))]
    exact e
  have J : Inv X pins σ (zipH H1 (s1.heap.objs.size + 5) as (xs.zip ys)) { s1 with heap := h'', toks := tk } := Inv.news I1 kk old low fun b o e1 e2 => by
    by_cases c1 : b = s1.heap.objs.size + 5
    · subst c1
      have : o = .lst (as.map V.ref) := by
        unfold zipH at e2
        rw [if_pos rfl] at e2
        exact (Option.some.inj e2).symm
      subst this
      have eacc : acc = (as.map Value.ref).toArray := by rw [← hacc]
      refine ⟨by rw [List.length_map, hal]; simp; omega, as.map Value.ref, c, ?_, by rw [hS, eacc]⟩
      clear hacc hS hG at_ alen hal fa eacc e1 e2 old low
      induction as with
      | nil => exact .nil
      | cons x r ih => exact .cons rfl ih
    · by_cases c2 : b ∈ as
      · obtain ⟨j, hj⟩ := List.mem_iff_getElem?.mp c2
        obtain ⟨p, g1, g2, u, v, ru, rv', g3⟩ := at_ j b hj
        rw [g2] at e2
        cases e2
        exact ⟨by show 2 ≤ sizeLine; decide, [u, v], .cons ru (.cons rv' .nil), ⟨_, g3, rfl, _, rfl⟩⟩
      · unfold zipH at e2
        rw [if_neg c1, if_neg c2, e1] at e2
        cases e2
  refine ⟨.ref (s1.heap.objs.size + 5), _, J, rfl, q _ _ _ old nS (by unfold zipH; rw [if_pos rfl]) (PzL.of alen fun j c hj => ?_)⟩
  obtain ⟨p, g1, g2, _⟩ := at_ j c hj
  exact ⟨p, g1, g2⟩
theorem callWith_tyK {mo : Model} {A : Around} {E : Value → Shared → Prop} {s : Shared} {env : Env} {pos : Pos} {T : String} {e : Expr} {rest : List Expr} {kws : List Keyword} {Q : Value → Shared → Prop}
    (h : wpAny mo A (spliced (backTo pos (starEach (e :: rest) env))) (fun vs s₁ => wpAny mo A (evalAll ((backToKw pos (keywordEach kws env)).map (·.2)))
      (fun kvs s₂ => wpAny mo A (call (.type T) vs (((backToKw pos (keywordEach kws env)).filterMap (·.1)).zip kvs)) Q E s₂) E s₁) E s)
    (he : backTo pos (starEach (e :: rest) env) = (false, eval e env) :: backTo pos (starEach rest env) := by rfl)
    (hplain : (backTo pos (starEach (e :: rest) env)).any (·.1) = false := by rfl)
    (hall : (backToKw pos (keywordEach kws env)).all (·.1.isSome) = true := by rfl)
    (hkw : (backToKw pos (keywordEach kws env)).any (·.1.isNone) = false := by rfl) :
    wpAny mo A (callWith pos (.type T) [] (backTo pos (starEach (e :: rest) env)) (backToKw pos (keywordEach kws env))) Q E s := by
  unfold callWith
  have h2 : wpAny mo A (evalArgs (.type T) true (backTo pos (starEach (e :: rest) env)) (backToKw pos (keywordEach kws env))) (fun a s₁ => wpAny mo A (call (.type T) ([] ++ a.pos) a.kw) Q E s₁) E s := by
    rw [he] at h ⊢
    exact PyProof.Rows.evalArgs_kwB hall h
  refine wpAny_bind (wpAny_holding (wpAny_mono h2 (fun a s₁ h₁ => wpAny_bind (wpAny_standAt ?_)) fun _ _ x => x))
  simp only [hplain, hkw, Bool.or_false]
  refine wpAny_bind (wpAny_pure ?_)
  exact wpAny_bind (wpAny_mono h₁ (fun r s₂ hr => wpAny_bind (wpAny_holding (wpAny_point (wpAny_pure hr)))) fun _ _ x => x)
theorem two_refs {a b : Addr} {us : List Value} (r : Vals [.ref a, .ref b] us) : us = [.ref a, .ref b] := by
  cases r with
  | cons r rr =>
    cases rr with
    | cons r' rr =>
      cases rr
      cases r
      cases r'
      rfl
/-- list(zip(a, b)) -/
theorem pe_lzip (hgl : Gl X "list") (hml : X.mg "list" = none) (hg : Gl X "zip") (hm : X.mg "zip" = none) (hc : X.calm = true) (ha : PA X [e1, e2] t)
    (hs : starEach [e1, e2] X.env = (false, eval e1 X.env) :: starEach [e2] X.env := by rfl) (hpl : (backTo pos2 (starEach [e2] X.env)).any (·.1) = false := by rfl)
    (hs' : starEach [Expr.Call (.Name "zip" p2) [e1, e2] [] pos2] X.env = (false, eval (.Call (.Name "zip" p2) [e1, e2] [] pos2) X.env) :: starEach [] X.env := by rfl) (hpl' : (backTo pos (starEach [] X.env)).any (·.1) = false := by rfl) :
    PE X (.Call (.Name "list" p) [.Call (.Name "zip" p2) [e1, e2] [] pos2] [] pos) (mZipL X.K t) := by
  refine ⟨fun pins s σ H Q I h => ?_⟩
  refine wpAny_Call_Name_kw (ld_blt I hgl hml (u := .type "list") (by kernel_rfl) ?_)
  refine PyProof.Rows.callWith_type1 ?_ hs' hpl'
  rw [hs']
  refine Calls.spliced_cons ?_
  refine Call_ (ld_blt I hg hm PyProof.Rows.boot_zip (PyProof.Rows.callWith_type1 (thn (ha.run pos2 pins s σ H _ I h) fun us s1 ⟨vs, H1, I1, r1, q1⟩ => ?_) hs hpl))
  obtain ⟨a, b, xs, ys, ex, hqx, hqy, hl, q⟩ := q1
  subst ex
  rw [two_refs r1]
  obtain ⟨its, its2, p1, p2, k⟩ := zipL_end (st := false) (I1.ok.hd hc) I1 hqx hqy hl q
  refine call_zip_pl p1 p2 fun h' z1 z2 z3 z4 z5 z6 z7 => Calls.spliced_nil (k h' z1 z2 z3 z4 z5 z6 z7)
/-- list(zip(a, b, strict=True)) -/
theorem pe_lzipS {j : Nat} {kp kp2 : Pos} (hgl : Gl X "list") (hml : X.mg "list" = none) (hg : Gl X "zip") (hm : X.mg "zip" = none) (hc : X.calm = true) (ha : PA X [e1, e2] t)
    (hs : backTo pos2 (starEach [e1, e2] X.env) = (false, eval e1 X.env) :: backTo pos2 (starEach [e2] X.env) := by rfl) (hpl : (backTo pos2 (starEach [e1, e2] X.env)).any (·.1) = false := by rfl)
    (hs' : starEach [Expr.Call (.Name "zip" p2) [e1, e2] [⟨some (Str.ofString "strict"), .Constant (.bool true) j kp, kp2⟩] pos2] X.env = (false, eval (.Call (.Name "zip" p2) [e1, e2] [⟨some (Str.ofString "strict"), .Constant (.bool true) j kp, kp2⟩] pos2) X.env) :: starEach [] X.env := by rfl) (hpl' : (backTo pos (starEach [] X.env)).any (·.1) = false := by rfl) :
    PE X (.Call (.Name "list" p) [.Call (.Name "zip" p2) [e1, e2] [⟨some (Str.ofString "strict"), .Constant (.bool true) j kp, kp2⟩] pos2] [] pos) (mZipL X.K t) := by
  refine ⟨fun pins s σ H Q I h => ?_⟩
  refine wpAny_Call_Name_kw (ld_blt I hgl hml (u := .type "list") (by kernel_rfl) ?_)
  refine PyProof.Rows.callWith_type1 ?_ hs' hpl'
  rw [hs']
  refine Calls.spliced_cons ?_
  refine wpAny_Call_Name_kw (ld_blt I hg hm PyProof.Rows.boot_zip ?_)
  refine callWith_tyK (thn (ha.run pos2 pins s σ H _ I h) fun us s1 ⟨vs, H1, I1, r1, q1⟩ => ?_) hs hpl
  have hk : PK X [⟨some (Str.ofString "strict"), .Constant (.bool true) j kp, kp2⟩] (tCons (mC (.bl true)) tNil) := pk_cons me_bl pk_nil
  refine thn (hk.run pos2 pins s1 σ H1 (fun zs H2 => zs = [.bl true] ∧ H2 = H1) I1 ⟨rfl, rfl⟩) fun ws s2 ⟨zs, H2, I2, r2, e1, e2⟩ => ?_
  subst e1 e2
  obtain ⟨a, b, xs, ys, ex, hqx, hqy, hl, q⟩ := q1
  subst ex
  rw [two_refs r1]
  have hw : ws = [.bool true] := by
    cases r2 with
    | cons r rr => cases rr; cases r; rfl
  rw [hw]
  obtain ⟨its, its2, p1, p2, k⟩ := zipL_end (st := true) (I2.ok.hd hc) I2 hqx hqy hl q
  refine call_zip_st p1 p2 fun h' z1 z2 z3 z4 z5 z6 z7 => Calls.spliced_nil (k h' z1 z2 z3 z4 z5 z6 z7)
end
end M

/-! ### xs.index(n) for a list of numbers that holds n -/
namespace M
open PySem PySem.Spec PyProof.Rows L2
section
variable {X : Cx} {pos apos : Pos} {o e : Expr} {to te : TE}
theorem vals_ints : ∀ {ns : List Int} {us : List Value}, Vals (ns.map V.int) us → IntsAre us ns
  | [], us, h => by
    cases h
    exact .nil
  | n :: ns, us, h => by
    cases h with
    | cons a b =>
      obtain ⟨t, rfl⟩ := a
      exact .cons n t (vals_ints b)
def rIndex : V → List V → Hp → VK → Prop := fun x vs H Q => ∃ l ns k, x = .ref l ∧ vs = [.int k] ∧ H l = some (.lst (ns.map V.int)) ∧ k ∈ ns ∧ Q (.int ((List.idxOf k ns : Nat) : Int)) H
theorem mt_index : MtM X "list.index" rIndex := by
  intro pins s σ H x vs v us Q I rx rv h
  obtain ⟨l, ns, k, rfl, rfl, hH, hk, q⟩ := h
  cases rx
  obtain ⟨u, rfl, ru⟩ := rv.one
  obtain ⟨t, rfl⟩ := ru
  obtain ⟨z, its, n, r, hl, e⟩ := I.lstM hH
  have hi := vals_ints r
  have hlen := hi.length
  rw [List.length_map] at *
  refine PySem.SeqAt.list_index_ints ⟨_, e, rfl, n, rfl⟩ hi (by omega) hk ?_
  exact ⟨.int _, _, I.tok _, ⟨_, rfl⟩, q⟩
def mIndex : Addr → List V → List V → Hp → VK → Prop := fun l xs vs H Q => match vs with
  | [.int i] => ∃ ns : List Int, xs = ns.map V.int ∧ i ∈ ns ∧ Q (.int ((List.idxOf i ns : Nat) : Int)) H
  | _ => False
theorem me_index (ho : PE X o to) (he : PE X e te) (hbase : attributeBase o "index" X.env (eval o X.env) = eval o X.env := by rfl)
    (hfew : ((backTo pos (starEach [e] X.env)).all (fun x => !x.1) && (backToKw pos (keywordEach [] X.env)).all (fun x => x.1.isSome) && decide (([e] : List Expr).length + ([] : List Keyword).length + (if ([] : List Keyword).isEmpty then 0 else 1) < 30)) = true := by rfl)
    (hline : (apos.endLine == pos.line) = true := by rfl) (hs : starEach [e] X.env = (false, eval e X.env) :: starEach [] X.env := by rfl) (hplain : (backTo pos (starEach [] X.env)).any (·.1) = false := by rfl) :
    PE X (.Call (.Attribute o "index" apos) [e] [] pos) (mLstM mIndex to (tCons te tNil)) :=
  pe_imp (pe_bm PySem.F.plainAttrs_list PySem.F.slot_list_index PySem.F.type_list_index mt_index (pe_cl ho) (pa_cons (pe_cl he) pa_nil hs) hbase hfew hline hs hplain) fun σ H Q q => ⟨_, q, fun x H1 z => by
    cases x with
    | ref l =>
      obtain ⟨⟨ys, h⟩, z⟩ := z
      exact ⟨.inl ⟨rfl, _, SqL.of h⟩, _, z, fun y H2 w => by
        obtain ⟨xs, h2, w⟩ := w
        cases y with
        | int i =>
          obtain ⟨ns, rfl, hk, w⟩ := w
          exact ⟨l, ns, i, rfl, rfl, h2, hk, w⟩
        | _ => exact w.elim⟩
    | _ => exact z.elim⟩
end
end M

/-! ### the readings at values that are known -/
namespace M
open PySem PySem.Spec PyProof.Rows L2
section
variable {K : PySem.W.Frag} {H : Hp} {Q : VK} {i j : Int} {a b : Str} {k l : Bool} {p q : Addr} {x y : V} {lo hi : Option Int}
theorem q_add1 : mAdd (.int i) (.int j) H Q = Q (.int (i + j)) H := rfl
theorem q_add2 : mAdd (.str a) (.str b) H Q = (a.length + b.length ≤ sizeLine ∧ Q (.str (a ++ b)) H) := rfl
theorem q_add3 : mAdd (.ref p) (.ref q) H Q = (∃ xs zs, H p = some (.lst xs) ∧ H q = some (.lst zs) ∧ xs.length + zs.length ≤ sizeLine ∧ ∀ r, H r = none → Q (.ref r) (upd H r (.lst (xs ++ zs)))) := rfl
theorem q_add4 : mAdd (.int i) (.bl k) H Q = Q (.int (i + b2i k)) H := rfl
theorem q_iadd1 : iAdd (.int i) (.int j) H Q = Q (.int (i + j)) H := rfl
theorem q_iadd2 : iAdd (.str a) (.str b) H Q = (a.length + b.length ≤ sizeLine ∧ Q (.str (a ++ b)) H) := rfl
theorem q_iadd3 : iAdd (.ref p) (.ref q) H Q = (∃ xs zs, H p = some (.lst xs) ∧ H q = some (.lst zs) ∧ xs.length + zs.length ≤ sizeLine ∧ Q (.ref p) (upd H p (.lst (xs ++ zs)))) := rfl
theorem q_sub : mSub (.int i) (.int j) H Q = Q (.int (i - j)) H := rfl
theorem q_mul1 : mMul (.int i) (.int j) H Q = (MulOk i j ∧ Q (.int (i * j)) H) := rfl
theorem q_mul2 : mMul (.ref p) (.int i) H Q = (∃ xs, H p = some (.lst xs) ∧ -(2 ^ 63) ≤ i ∧ i < 2 ^ 63 ∧ xs.length * i.toNat ≤ sizeLine ∧ ∀ r, H r = none → Q (.ref r) (upd H r (.lst (List.replicate i.toNat xs).flatten))) := rfl
theorem foldl_S (z : List Nat) : ∀ (n : Nat) (acc : List Nat), ((List.replicate n z.toArray).foldl (· ++ ·) acc.toArray) = (acc ++ (List.replicate n z).flatten).toArray
  | 0, acc => by simp
  | n + 1, acc => by
    rw [List.replicate_succ, List.foldl_cons, List.append_toArray, foldl_S z n, List.replicate_succ, List.flatten_cons, List.append_assoc]
theorem mul_S (z : List Nat) (k : Int) : Txt.mul (S z) k = S (List.replicate k.toNat z).flatten := by
  unfold Txt.mul
  by_cases h1 : k < 1
  · rw [if_pos h1, show k.toNat = 0 by omega]; rfl
  · rw [if_neg h1]
    split
    · rename_i h
      rcases Bool.or_eq_true_iff.mp h with h | h
      · have : k = 1 := by simpa using h
        subst this
        simp
      · have : z = [] := by
          have h2 : (S z).length = 0 := by simpa using h
          rw [S_len] at h2
          exact List.length_eq_zero_iff.mp h2
        subst this
        simp
    · have := foldl_S z k.toNat []
      simp only [List.nil_append] at this
      unfold S
      rw [← this]
theorem q_mul3 {z : List Nat} : mMul (.str (S z)) (.int i) H Q = ((z.length * 4096 ≤ 16777216 ∧ 0 ≤ i ∧ i ≤ 4096) ∧ Q (.str (S (List.replicate i.toNat z).flatten)) H) := by
  show (((S z).length * 4096 ≤ 16777216 ∧ 0 ≤ i ∧ i ≤ 4096) ∧ Q (.str (Txt.mul (S z) i)) H) = _
  rw [S_len, mul_S]
theorem q_mod : mMod (.int i) (.int j) H Q = (0 < j ∧ Q (.int (i % j)) H) := rfl
theorem q_div : mDiv (.int i) (.int j) H Q = (DivOk j ∧ Q (.int (i / j)) H) := rfl
theorem q_pow : mPow (.int i) (.int j) H Q = ((0 ≤ j ∧ (Builtin.Int.intBits i : Int) * j ≤ 2 ^ 27) ∧ Q (.int (i ^ j.toNat)) H) := rfl
theorem q_eq1 : mEq K (.int i) (.int j) H Q = Q (.bl (decide (i = j))) H := rfl
theorem q_eq2 : mEq K (.str a) (.str b) H Q = Q (.bl (decide (a = b))) H := rfl
theorem q_eq3 : mEq K (.bl k) (.bl l) H Q = Q (.bl (decide (k = l))) H := rfl
theorem q_eq4 : mEq K .non .non H Q = Q (.bl true) H := rfl
theorem q_eq5 : mEq K .non (.int j) H Q = Q (.bl false) H := rfl
theorem q_eq6 : mEq K (.int j) .non H Q = Q (.bl false) H := rfl
theorem q_eq7 : mEq K (.str a) .non H Q = Q (.bl false) H := rfl
theorem q_eq8 : mEq K .non (.str a) H Q = Q (.bl false) H := rfl
theorem q_eq9 : mEq K (.ref p) y H Q = rEqW K false (.ref p) y H Q := by cases y <;> rfl
theorem q_eq10 : mEq K x (.ref p) H Q = rEqW K false x (.ref p) H Q := by cases x <;> rfl
theorem q_ne1 : mNe K (.int i) (.int j) H Q = Q (.bl (!decide (i = j))) H := rfl
theorem q_ne2 : mNe K (.str a) (.str b) H Q = Q (.bl (!decide (a = b))) H := rfl
theorem q_ne3 : mNe K (.bl k) (.bl l) H Q = Q (.bl (!decide (k = l))) H := rfl
theorem q_ne9 : mNe K (.ref p) y H Q = rEqW K true (.ref p) y H Q := by cases y <;> rfl
theorem q_ne10 : mNe K x (.ref p) H Q = rEqW K true x (.ref p) H Q := by cases x <;> rfl
theorem q_lt : mLt (.int i) (.int j) H Q = Q (.bl (decide (i < j))) H := rfl
theorem q_le : mLe (.int i) (.int j) H Q = Q (.bl (decide (i ≤ j))) H := rfl
theorem q_gt : mGt (.int i) (.int j) H Q = Q (.bl (decide (j < i))) H := rfl
theorem q_ge : mGe (.int i) (.int j) H Q = Q (.bl (decide (j ≤ i))) H := rfl
theorem q_inc : mInC (.str a) (.str b) H Q = (∃ k, a = S [k] ∧ Q (.bl (decide (k ∈ b.cps.toList))) H) := rfl
theorem q_ninc : mNinC (.str a) (.str b) H Q = (∃ k, a = S [k] ∧ Q (.bl (!decide (k ∈ b.cps.toList))) H) := rfl
theorem q_inc1 {c : Nat} {z : List Nat} : mInC (.str (S [c])) (.str (S z)) H Q = Q (.bl (decide (c ∈ z))) H := by
  rw [q_inc, S_cps]
  refine propext ⟨fun ⟨k, e, h⟩ => ?_, fun h => ⟨c, rfl, h⟩⟩
  have := S_inj.mp e
  simp only [List.cons.injEq, and_true] at this
  rw [this]; exact h
theorem q_ix1 : mIx K (.str a) (.int i) H Q = (a.length ≤ sizeLine ∧ ∃ c, atI a.cps.toList i = some c ∧ Q (.str (S [c])) H) := rfl
theorem q_ix2 : mIx K (.ref p) (.int i) H Q = (∃ xs v, (SqL K H p xs ∨ SqT K H p xs) ∧ atI xs i = some v ∧ Q v H) := rfl
theorem q_sl1 : mSl K (.str a) lo hi H Q = (a.length ≤ sizeLine ∧ Q (.str (S (cutL a.cps.toList lo hi))) H) := rfl
theorem q_sl2 : mSl K (.ref p) lo hi H Q = (∃ xs, SqL K H p xs ∧ ∀ r, H r = none → Q (.ref r) (upd H r (.lst (cutL xs lo hi)))) := rfl
theorem q_set {R : Hp → Prop} : mSetL (.ref p) (.int i) x H R = (∃ xs j, H p = some (.lst xs) ∧ ixN xs.length i = some j ∧ R (upd H p (.lst (xs.set j x)))) := rfl
theorem q_len1 : mLen K [.str a] H Q = (a.length ≤ sizeLine ∧ Q (.int a.length) H) := rfl
theorem q_len2 : mLen K [.ref p] H Q = (∃ ys, (SqL K H p ys ∨ SqT K H p ys) ∧ Q (.int ys.length) H) := rfl
theorem q_int1 : mInt [.int i] H Q = Q (.int i) H := rfl
theorem q_int2 : mInt [.bl k] H Q = Q (.int (if k then 1 else 0)) H := rfl
theorem q_max : mMax [.int i, .int j] H Q = Q (.int (max i j)) H := rfl
theorem q_min : mMin [.int i, .int j] H Q = Q (.int (min i j)) H := rfl
theorem q_abs : mAbs [.int i] H Q = Q (.int (i.natAbs : Int)) H := rfl
theorem q_sum : mSum K [.ref p] H Q = (∃ ns : List Int, SqL K H p (ns.map V.int) ∧ Q (.int ns.sum) H) := rfl
theorem q_list : mList K [.ref p] H Q = (∃ ys, (SqL K H p ys ∨ SqT K H p ys) ∧ ∀ l, H l = none → Q (.ref l) (upd H l (.lst ys))) := rfl
theorem q_isi1 {z : Str} : mIsi K [.str z, .ty "str"] H Q = Q (.bl true) H := by unfold mIsi; simp only [tyN, kb1]
theorem q_is1 : mIs x .non H Q = Q (.bl (isN x)) H := rfl
theorem q_not1 : mNot x .non H Q = Q (.bl (!isN x)) H := rfl
theorem q_isN1 : isN .non = true := rfl
theorem q_isN2 : isN (.ref p) = false := rfl
theorem q_isN3 : isN (.str a) = false := rfl
theorem q_isN4 : isN (.int i) = false := rfl
theorem q_join : mJoin K a (.ref p) H Q = (∃ ys : List Str, (SqL K H p (ys.map V.str) ∨ SqT K H p (ys.map V.str)) ∧ (ys.map (·.length)).sum + ys.length * a.length ≤ 16777216 ∧ Q (.str (Txt.join a ys)) H) := rfl
theorem q_count : mCount a (.str b) H Q = Q (.int (Txt.count a b)) H := rfl
theorem q_split : mSplit a (.str b) H Q = ((b.length == 0) = false ∧ a.length + 2 ≤ sizeLine ∧ ∀ r, H r = none → Q (.ref r) (upd H r (.lst ((Txt.split a b).map V.str)))) := rfl
theorem q_app {xs : List V} : mApp p xs [y] H Q = (xs.length < sizeLine ∧ Q .non (upd H p (.lst (xs ++ [y])))) := rfl
theorem q_pop {xs : List V} : mPop p xs [] H Q = (∃ y, xs.getLast? = some y ∧ Q y (upd H p (.lst xs.dropLast))) := rfl
theorem q_clear {xs : List V} : mClear p xs [] H Q = Q .non (upd H p (.lst [])) := rfl
theorem q_isiE {C : Addr} : mIsiE K [.ref p, .ref C] H Q = (∃ (D d : Addr) (fl : Str) (fs : List (Str × V)) (b : Bool), ExcK K fl D ∧ H p = some (exk p (.ref D) (some d)) ∧ H d = some (.xd fs) ∧ PySem.W.kitOne K (.ref D) (.ref C) = some b ∧ Q (.bl b) H) := rfl
theorem q_sorted : mSorted K [.ref p] H Q = (∃ xs : List Str, SqL K H p (xs.map V.str) ∧ ∀ (ys : List Str) (r : Addr), ys.Perm xs → sortedS ys = true → H r = none → Q (.ref r) (upd H r (.lst (ys.map V.str)))) := rfl
theorem q_repr : mRepr K [x] H Q = (∃ d, Sh K H x d ∧ d.showable = true ∧ d.depth ≤ 64 ∧ d.shown.length ≤ sizeLine ∧ Q (.str d.shown) H) := rfl
theorem q_par {i j : Nat} {a b : TE} : mPar i j (tCons a (tCons b tNil)) = fun D σ H => a σ H fun u H1 => b σ H1 fun v H2 => D.nx ((σ.set i (some u)).set j (some v)) H2 := rfl
theorem q_par3 {i j l : Nat} {a b c : TE} : mPar3 i j l (tCons a (tCons b (tCons c tNil))) = fun D σ H => a σ H fun u H1 => b σ H1 fun v H2 => c σ H2 fun w H3 => D.nx (((σ.set i (some u)).set j (some v)).set l (some w)) H3 := rfl
/-- joined texts -/
theorem join_S : ∀ l : List (List Nat), Txt.join (S []) (l.map S) = S l.flatten := by
  intro l
  show PySem.Builtin.Str.glued (S []) (l.map S) = _
  rw [StrLaws.glued_eq_join]
  induction l with
  | nil => rfl
  | cons z l ih =>
    cases l with
    | nil => show S z = S (z ++ []); rw [List.append_nil]
    | cons y r =>
      show S z ++ S [] ++ Str.join (S []) ((y :: r).map S) = _
      rw [ih, S_app, S_app, List.append_nil]
      simp only [List.flatten_cons]
theorem join_signs (l : List Nat) : Txt.join (S []) (l.map fun c => S [c]) = S l := by
  have e : (l.map fun c => S [c]) = (l.map fun c => [c]).map S := by rw [List.map_map]; rfl
  rw [e, join_S]
  congr 1
  induction l with
  | nil => rfl
  | cons c r ih => show [c] ++ (r.map fun c => [c]).flatten = _; rw [ih (by rw [List.map_map]; rfl)]; rfl
end
def sg (P : List Nat) : List V := P.map fun c => V.str (S [c])
def tx (l : List (List Nat)) : List V := l.map fun z => V.str (S z)
theorem sg_tx (P : List Nat) : sg P = tx (P.map fun c => [c]) := by unfold sg tx; rw [List.map_map]; rfl
theorem sg_str (P : List Nat) : sg P = (P.map fun c => S [c]).map V.str := by unfold sg; rw [List.map_map]; rfl
theorem sg_len (P : List Nat) : (sg P).length = P.length := by unfold sg; rw [List.length_map]
theorem tx_len (P : List (List Nat)) : (tx P).length = P.length := by unfold tx; rw [List.length_map]
theorem sg_app (a b : List Nat) : sg (a ++ b) = sg a ++ sg b := by unfold sg; rw [List.map_append]
theorem tx_app (a b : List (List Nat)) : tx (a ++ b) = tx a ++ tx b := by unfold tx; rw [List.map_append]
theorem one_len (P : List Nat) : ((P.map fun c => S [c]).map (·.length)).sum = P.length := by
  induction P with
  | nil => rfl
  | cons c r ih => simp only [List.map_cons, List.sum_cons, List.length_cons, ih, S_len, List.length_nil]; omega
end M

/-! ### texts counted and cut at a sign -/
namespace M
open PySem PySem.Spec PyProof.Rows L2
theorem splitS {z : List Nat} {c : Nat} (hc : c < 256) : Txt.split (S z) (S [c]) = (TL.spl [c] 0 [] z).map S := SX.split_S (by simp) (by simpa using hc)
theorem spl_one {c d : Nat} {acc r : List Nat} : TL.spl [c] 0 acc (d :: r) = if d = c then acc :: TL.spl [c] 0 [] r else TL.spl [c] 0 (acc ++ [d]) r := by
  show (if TL.pre [c] (d :: r) = true then acc :: TL.spl [c] 0 [] r else TL.spl [c] 0 (acc ++ [d]) r) = _
  have : (TL.pre [c] (d :: r) = true) = (d = c) := by simp [TL.pre]
  simp only [this]
theorem spl_count (c : Nat) : ∀ (z acc : List Nat), (TL.spl [c] 0 acc z).length = z.count c + 1
  | [], acc => rfl
  | d :: r, acc => by
    rw [spl_one, List.count_cons]
    by_cases h : d = c
    · rw [if_pos h, List.length_cons, spl_count c r]; simp [h]
    · rw [if_neg h, spl_count c r]; simp [h]
theorem count_split {z : List Nat} {c : Nat} (hc : c < 256) : Txt.count (S z) (S [c]) + 1 = ((Txt.split (S z) (S [c])).length : Int) := by
  unfold Txt.count Txt.split
  by_cases h1 : (decide ((S z).length < (S [c]).length) || decide (Builtin.Str.strKind (S z) < Builtin.Str.strKind (S [c]))) = true
  · rw [if_pos h1]
    have hz : z = [] := by
      rcases Bool.or_eq_true_iff.mp h1 with h | h
      · have := of_decide_eq_true h
        simp only [S_len, List.length_singleton] at this
        exact List.length_eq_zero_iff.mp (by omega)
      · exact absurd (of_decide_eq_true h) (TL.kind_ok (SX.all256 (by simpa using hc)))
    subst hz
    have : Builtin.Str.occurrences (S []) (S [c]) 0 (S []).length ((S []).length + 1) = [] := by
      show Builtin.Str.occurrences (S []) (S [c]) 0 0 1 = []
      simp [Builtin.Str.occurrences, S_len]
    rw [this]; rfl
  · rw [if_neg h1]
    split
    · rename_i h2
      rw [List.isEmpty_iff.mp h2]; rfl
    · rw [length_partsBetween]
      push_cast
      rfl
theorem count_S {z : List Nat} {c : Nat} (hc : c < 256) : Txt.count (S z) (S [c]) = (z.count c : Int) := by
  have h := count_split (z := z) hc
  rw [splitS hc, List.length_map, spl_count] at h
  omega
theorem Tr.cnt_op : ∀ t : Tr, t.s.count 40 = t.n
  | .lf => rfl
  | .nd a b => by
    have h1 := Tr.cnt_op a
    have h2 := Tr.cnt_op b
    simp only [Tr.s, Tr.n, List.count_cons, List.count_append, List.count_nil, h1, h2]
    simp
theorem Tr.cnt_lf : ∀ t : Tr, t.s.count 46 = t.n + 1
  | .lf => rfl
  | .nd a b => by
    have h1 := Tr.cnt_lf a
    have h2 := Tr.cnt_lf b
    simp only [Tr.s, Tr.n, List.count_cons, List.count_append, List.count_nil, h1, h2]
    simp
    omega
/-- the pieces with texts between them -/
def fillP : List (List Nat) → List (List Nat) → List Nat
  | [], _ => []
  | p :: _, [] => p
  | p :: ps, h :: hs => p ++ h ++ fillP ps hs
theorem fill_acc (c : Nat) : ∀ (z acc : List Nat) (hs : List (List Nat)), fillP (TL.spl [c] 0 acc z) hs = acc ++ fillP (TL.spl [c] 0 [] z) hs
  | [], acc, hs => by cases hs <;> simp [TL.spl_nil, fillP]
  | d :: r, acc, hs => by
    rw [spl_one, spl_one]
    by_cases h : d = c
    · rw [if_pos h, if_pos h]
      cases hs <;> simp [fillP]
    · rw [if_neg h, if_neg h, fill_acc c r (acc ++ [d]), fill_acc c r ([] ++ [d])]
      simp
end M

/-! ### trees as a lattice -/
namespace M
namespace Tr
theorem s_cons (t : Tr) : ∃ c r, t.s = c :: r := by cases t <;> exact ⟨_, _, rfl⟩
theorem s_pre : ∀ (t u : Tr) (a b : List Nat), t.s ++ a = u.s ++ b → t = u ∧ a = b
  | .lf, .lf, a, b, h => ⟨rfl, by simpa [s] using h⟩
  | .lf, .nd l r, a, b, h => by simp [s] at h
  | .nd l r, .lf, a, b, h => by simp [s] at h
  | .nd l r, .nd l' r', a, b, h => by
    simp only [s, List.cons_append, List.append_assoc, List.cons.injEq, true_and] at h
    obtain ⟨rfl, h2⟩ := s_pre l l' _ _ h
    obtain ⟨rfl, h3⟩ := s_pre r r' _ _ h2
    exact ⟨rfl, by simpa using h3⟩
theorem s_inj {t u : Tr} : t.s = u.s ↔ t = u := ⟨fun h => (s_pre t u [] [] (by rw [h])).1, fun h => by rw [h]⟩
def join : Tr → Tr → Tr
  | .lf, t => t
  | .nd a b, .lf => .nd a b
  | .nd a b, .nd c d => .nd (join a c) (join b d)
def meet : Tr → Tr → Tr
  | .lf, _ => .lf
  | .nd _ _, .lf => .lf
  | .nd a b, .nd c d => .nd (meet a c) (meet b d)
/-- the first one grows into the second one -/
def le : Tr → Tr → Bool
  | .lf, _ => true
  | .nd _ _, .lf => false
  | .nd a b, .nd c d => le a c && le b d
theorem join_lf (t : Tr) : join t .lf = t := by cases t <;> rfl
theorem meet_lf (t : Tr) : meet t .lf = .lf := by cases t <;> rfl
theorem join_comm : ∀ t u : Tr, join t u = join u t
  | .lf, u => (join_lf u).symm
  | .nd a b, .lf => rfl
  | .nd a b, .nd c d => by simp only [join, join_comm a c, join_comm b d]
theorem meet_comm : ∀ t u : Tr, meet t u = meet u t
  | .lf, u => (meet_lf u).symm
  | .nd a b, .lf => rfl
  | .nd a b, .nd c d => by simp only [meet, meet_comm a c, meet_comm b d]
theorem join_self : ∀ t : Tr, join t t = t
  | .lf => rfl
  | .nd a b => by simp only [join, join_self a, join_self b]
theorem meet_self : ∀ t : Tr, meet t t = t
  | .lf => rfl
  | .nd a b => by simp only [meet, meet_self a, meet_self b]
theorem join_meet : ∀ t u : Tr, join t (meet t u) = t
  | .lf, u => rfl
  | .nd a b, .lf => rfl
  | .nd a b, .nd c d => by simp only [join, meet, join_meet a c, join_meet b d]
theorem meet_join : ∀ t u : Tr, meet t (join t u) = t
  | .lf, u => rfl
  | .nd a b, .lf => by show meet (.nd a b) (.nd a b) = _; exact meet_self _
  | .nd a b, .nd c d => by simp only [join, meet, meet_join a c, meet_join b d]
theorem join_assoc : ∀ t u v : Tr, join (join t u) v = join t (join u v)
  | .lf, u, v => rfl
  | .nd a b, .lf, v => rfl
  | .nd a b, .nd c d, .lf => rfl
  | .nd a b, .nd c d, .nd e f => by simp only [join, join_assoc a c e, join_assoc b d f]
theorem meet_assoc : ∀ t u v : Tr, meet (meet t u) v = meet t (meet u v)
  | .lf, u, v => rfl
  | .nd a b, .lf, v => rfl
  | .nd a b, .nd c d, .lf => rfl
  | .nd a b, .nd c d, .nd e f => by simp only [meet, meet_assoc a c e, meet_assoc b d f]
theorem join_dist : ∀ t u v : Tr, join t (meet u v) = meet (join t u) (join t v)
  | .lf, u, v => rfl
  | .nd a b, .lf, .lf => by show Tr.nd a b = meet (.nd a b) (.nd a b); rw [meet_self]
  | .nd a b, .lf, .nd e f => by
    show Tr.nd a b = meet (.nd a b) (.nd (join a e) (join b f))
    simp only [meet, meet_join]
  | .nd a b, .nd c d, .lf => by
    show Tr.nd a b = meet (.nd (join a c) (join b d)) (.nd a b)
    rw [meet_comm]; simp only [meet, meet_join]
  | .nd a b, .nd c d, .nd e f => by simp only [join, meet, join_dist a c e, join_dist b d f]
theorem n_join : ∀ t u : Tr, (join t u).n + (meet t u).n = t.n + u.n
  | .lf, u => by show u.n + 0 = 0 + u.n; omega
  | .nd a b, .lf => rfl
  | .nd a b, .nd c d => by
    have h1 := n_join a c
    have h2 := n_join b d
    simp only [join, meet, n]; omega
theorem le_join_iff : ∀ t u : Tr, le u t = true ↔ join t u = t
  | t, .lf => by simp [le, join_lf]
  | .lf, .nd c d => by simp [le, join]
  | .nd a b, .nd c d => by simp only [le, join, Bool.and_eq_true, le_join_iff a c, le_join_iff b d, Tr.nd.injEq]
theorem le_meet_iff : ∀ t u : Tr, le u t = true ↔ meet t u = u
  | t, .lf => by simp [le, meet_lf]
  | .lf, .nd c d => by simp [le, meet]
  | .nd a b, .nd c d => by simp only [le, meet, Bool.and_eq_true, le_meet_iff a c, le_meet_iff b d, Tr.nd.injEq]
theorem le_join (t u : Tr) : le t (join t u) = true := (le_meet_iff _ _).mpr (by rw [meet_comm, meet_join])
theorem meet_le (t u : Tr) : le (meet t u) t = true := (le_join_iff _ _).mpr (join_meet t u)
theorem join_n_le (t u : Tr) : (join t u).n ≤ t.n + u.n := by have := n_join t u; omega
theorem meet_n_le (t u : Tr) : (meet t u).n ≤ t.n + u.n := by have := n_join t u; omega
theorem le_n : ∀ t u : Tr, le t u = true → t.n ≤ u.n
  | .lf, u, _ => Nat.zero_le _
  | .nd a b, .lf, h => by simp [le] at h
  | .nd a b, .nd c d, h => by
    simp only [le, Bool.and_eq_true] at h
    have h1 := le_n a c h.1
    have h2 := le_n b d h.2
    simp only [n]; omega
/-- the trees with which a top grows into a tree -/
def hang : Tr → Tr → List Tr
  | .lf, t => [t]
  | .nd _ _, .lf => []
  | .nd a b, .nd c d => hang a c ++ hang b d
/-- the leaves replaced, from left to right -/
def grow : Tr → List Tr → Tr × List Tr
  | .lf, [] => (.lf, [])
  | .lf, h :: r => (h, r)
  | .nd a b, l => (.nd (grow a l).1 (grow b (grow a l).2).1, (grow b (grow a l).2).2)
theorem hang_len : ∀ t u : Tr, le t u = true → (hang t u).length = t.n + 1
  | .lf, u, _ => rfl
  | .nd a b, .lf, h => by simp [le] at h
  | .nd a b, .nd c d, h => by
    simp only [le, Bool.and_eq_true] at h
    simp only [hang, n, List.length_append, hang_len a c h.1, hang_len b d h.2]; omega
theorem grow_hang : ∀ (t u : Tr) (r : List Tr), le t u = true → grow t (hang t u ++ r) = (u, r)
  | .lf, u, r, _ => rfl
  | .nd a b, .lf, r, h => by simp [le] at h
  | .nd a b, .nd c d, r, h => by
    simp only [le, Bool.and_eq_true] at h
    simp only [grow, hang, List.append_assoc, grow_hang a c _ h.1, grow_hang b d _ h.2]
theorem hang_n : ∀ (t u h : Tr), h ∈ hang t u → h.n ≤ u.n
  | .lf, u, h, hm => by rw [List.mem_singleton.mp hm]; exact Nat.le_refl _
  | .nd a b, .lf, h, hm => by cases hm
  | .nd a b, .nd c d, h, hm => by
    simp only [n]
    rcases List.mem_append.mp hm with hm | hm
    · have := hang_n a c h hm; omega
    · have := hang_n b d h hm; omega
theorem fill_grow : ∀ (t : Tr) (hs : List Tr) (r : List Nat), t.n + 1 ≤ hs.length → fillP (TL.spl [46] 0 [] (t.s ++ r)) (hs.map Tr.s) = (grow t hs).1.s ++ fillP (TL.spl [46] 0 [] r) ((grow t hs).2.map Tr.s) ∧ (grow t hs).2.length + (t.n + 1) = hs.length
  | .lf, [], r, h => by simp [n] at h
  | .lf, x :: hs, r, h => by
    show fillP (TL.spl [46] 0 [] (46 :: r)) _ = _ ∧ _
    rw [spl_one, if_pos rfl]
    exact ⟨by simp [fillP, grow], by simp [grow, n]⟩
  | .nd a b, hs, r, h => by
    simp only [n] at h
    obtain ⟨a1, a2⟩ := fill_grow a hs (b.s ++ 41 :: r) (by omega)
    obtain ⟨b1, b2⟩ := fill_grow b (grow a hs).2 (41 :: r) (by omega)
    have e0 : TL.spl [46] 0 [] ((Tr.nd a b).s ++ r) = TL.spl [46] 0 [40] (a.s ++ (b.s ++ 41 :: r)) := by
      show TL.spl [46] 0 [] (40 :: ((a.s ++ (b.s ++ [41])) ++ r)) = _
      rw [spl_one, if_neg (by decide)]
      simp
    have e1 : fillP (TL.spl [46] 0 [] (41 :: r)) ((grow b (grow a hs).2).2.map Tr.s) = 41 :: fillP (TL.spl [46] 0 [] r) ((grow b (grow a hs).2).2.map Tr.s) := by
      rw [spl_one, if_neg (by decide), fill_acc]
      rfl
    refine ⟨?_, by simp only [grow, n]; omega⟩
    rw [e0, fill_acc, a1, b1, e1]
    simp [grow, s]
theorem fill_all (t : Tr) (hs : List Tr) (h : hs.length = t.n + 1) : fillP (TL.spl [46] 0 [] t.s) (hs.map Tr.s) = (grow t hs).1.s := by
  obtain ⟨h1, h2⟩ := fill_grow t hs [] (by omega)
  rw [List.append_nil] at h1
  have : (grow t hs).2 = [] := List.length_eq_zero_iff.mp (by omega)
  rw [h1, this]
  simp [TL.spl_nil, fillP]
theorem grow_n : ∀ (t : Tr) (hs : List Tr), (grow t hs).1.n + ((grow t hs).2.map Tr.n).sum ≤ t.n + (hs.map Tr.n).sum
  | .lf, [] => by simp [grow]
  | .lf, x :: hs => by simp [grow, n]
  | .nd a b, hs => by
    have h1 := grow_n a hs
    have h2 := grow_n b (grow a hs).2
    simp only [grow, n]
    omega
end Tr
end M

namespace M
open PySem PySem.Spec PyProof.Rows L2
namespace Tr
/-- the part at an address -/
def att : Tr → List Nat → Option Tr
  | t, [] => some t
  | .lf, _ :: _ => none
  | .nd a b, c :: r => if c = 114 then att b r else att a r
/-- another tree put at an address -/
def put : Tr → List Nat → Tr → Tr
  | _, [], o => o
  | .lf, _ :: _, _ => .lf
  | .nd a b, c :: r, o => if c = 114 then .nd a (put b r o) else .nd (put a r o) b
theorem att_lf (c : Nat) (r : List Nat) : att .lf (c :: r) = none := rfl
theorem att_nil (t : Tr) : att t [] = some t := by cases t <;> rfl
theorem put_nil (t o : Tr) : put t [] o = o := by cases t <;> rfl
theorem att_put : ∀ (r : List Nat) (t u : Tr), att t r = some u → ∃ pre post : List Nat, t.s = pre ++ u.s ++ post ∧ ∀ o, (put t r o).s = pre ++ o.s ++ post
  | [], t, u, h => by
    rw [att_nil] at h
    cases h
    exact ⟨[], [], by simp, fun o => by rw [put_nil]; simp⟩
  | c :: r, .lf, u, h => by cases h
  | c :: r, .nd a b, u, h => by
    by_cases z : c = 114
    · simp only [att, if_pos z] at h
      obtain ⟨p, q, h1, h2⟩ := att_put r b u h
      refine ⟨40 :: (a.s ++ p), q ++ [41], ?_, fun o => ?_⟩
      · simp only [Tr.s, h1, List.cons_append, List.append_assoc, List.nil_append]
      · simp only [put, if_pos z, Tr.s, h2, List.cons_append, List.append_assoc, List.nil_append]
    · simp only [att, if_neg z] at h
      obtain ⟨p, q, h1, h2⟩ := att_put r a u h
      refine ⟨40 :: p, q ++ (b.s ++ [41]), ?_, fun o => ?_⟩
      · simp only [Tr.s, h1, List.cons_append, List.append_assoc, List.nil_append]
      · simp only [put, if_neg z, Tr.s, h2, List.cons_append, List.append_assoc, List.nil_append]
theorem att_n : ∀ (r : List Nat) (t u : Tr), att t r = some u → u.n + r.length ≤ t.n
  | [], t, u, h => by rw [att_nil] at h; cases h; simp
  | c :: r, .lf, u, h => by cases h
  | c :: r, .nd a b, u, h => by
    simp only [att] at h
    simp only [Tr.n, List.length_cons]
    split at h
    · have := att_n r b u h; omega
    · have := att_n r a u h; omega
theorem put_n : ∀ (r : List Nat) (t o : Tr), (put t r o).n ≤ t.n + o.n
  | [], t, o => by rw [put_nil]; omega
  | c :: r, .lf, o => by simp [put, Tr.n]
  | c :: r, .nd a b, o => by
    simp only [put]
    split
    · have := put_n r b o; simp only [Tr.n]; omega
    · have := put_n r a o; simp only [Tr.n]; omega
end Tr
/-- an address' letters -/
def isAd (z : List Nat) : Bool := decide (∀ c ∈ z, c = 108 ∨ c = 114)
end M

/-! ### small tactics for heaps -/
namespace M
open PySem PySem.Spec PyProof.Rows L2
theorem Ex.at {H H1 : Hp} {a : Addr} {o : HO} (e : Ex H H1) (h : H a = some o) : H1 a = some o := e a o h
/-- what stands is not what is new -/
theorem ne_new {H : Hp} {p q : Addr} {o : HO} (h : H p = some o) (n : H q = none) : q ≠ p := fun z => by rw [z, h] at n; cases n
/-- what is refused: the error with the value -/
def Fail (E : XK) (H : Hp) (C : Addr) (v : V) : Prop := ∀ H' d, Ex H H' → H d = none → H' d = some (.xd [("value", v)]) → E (.ref C) (some d) H'
theorem Fail.ex {E : XK} {H H1 : Hp} {C : Addr} {v : V} (e : Ex H H1) (h : Fail E H C v) : Fail E H1 C v := fun H' d e1 n hd => h H' d (e.trans e1) (e.free n) hd
end M

/-! ### values shown by repr; a list of texts may grow -/
namespace M
open PySem PySem.Spec PyProof.Rows L2
theorem shown_str_le {z : List Nat} (h : okc z) : (PyData.str (S z)).shown.length ≤ 10 * z.length + 2 := by
  have := StrLaws.reprText_len (S z) fun c hc => by
    rw [S_cps] at hc
    have := h c hc
    exact Nat.lt_trans this (by decide)
  rw [S_len] at this
  simpa only [PyData.shown] using this
theorem shown_strs_sum (n : Nat) : ∀ l : List (List Nat), (∀ z ∈ l, z.length ≤ n ∧ okc z) → ((PyData.shownAll (dStrs l)).map (·.length)).sum ≤ (10 * n + 2) * l.length
  | [], _ => by simp [dStrs, PyData.shownAll]
  | z :: l, h => by
    have ih := shown_strs_sum n l fun y hy => h y (List.mem_cons_of_mem _ hy)
    have h1 := h z List.mem_cons_self
    have h2 := shown_str_le h1.2
    show ((PyData.shownAll (.str (S z) :: dStrs l)).map (·.length)).sum ≤ _
    simp only [PyData.shownAll, List.map_cons, List.sum_cons, List.length_cons, Nat.mul_add, Nat.mul_one]
    have : 10 * z.length ≤ 10 * n := by omega
    omega
theorem shownAll_len : ∀ l : List PyData, (PyData.shownAll l).length = l.length
  | [] => rfl
  | z :: l => by simp only [PyData.shownAll, List.length_cons, shownAll_len l]
theorem shown_list_le {n : Nat} {l : List (List Nat)} (h : ∀ z ∈ l, z.length ≤ n ∧ okc z) : (PyData.list (dStrs l)).shown.length ≤ (10 * n + 4) * l.length + 3 := by
  have h1 := listText_len_le (PyData.shownAll (dStrs l))
  have h2 := shown_strs_sum n l h
  rw [shownAll_len] at h1
  have h3 : (dStrs l).length = l.length := by unfold dStrs; rw [List.length_map]
  rw [h3] at h1
  simp only [PyData.shown]
  have : (10 * n + 4) * l.length = (10 * n + 2) * l.length + 2 * l.length := by rw [← Nat.add_mul]
  omega
theorem shown_tuple_le {n : Nat} {l : List (List Nat)} (h : ∀ z ∈ l, z.length ≤ n ∧ okc z) : (PyData.tuple (dStrs l)).shown.length ≤ (10 * n + 4) * l.length + 3 := by
  have h1 := tupleText_len_le (PyData.shownAll (dStrs l))
  have h2 := shown_strs_sum n l h
  rw [shownAll_len] at h1
  have h3 : (dStrs l).length = l.length := by unfold dStrs; rw [List.length_map]
  rw [h3] at h1
  simp only [PyData.shown]
  have : (10 * n + 4) * l.length = (10 * n + 2) * l.length + 2 * l.length := by rw [← Nat.add_mul]
  omega
theorem showable_strs : ∀ l : List (List Nat), PyData.showableAll (dStrs l) = true
  | [] => rfl
  | z :: l => by show PyData.showableAll (.str (S z) :: dStrs l) = true; simp only [PyData.showableAll, PyData.showable, showable_strs l, Bool.and_self]
theorem noDict_strs : ∀ l : List (List Nat), PyData.hasDictAll (dStrs l) = false
  | [] => rfl
  | z :: l => by show PyData.hasDictAll (.str (S z) :: dStrs l) = false; simp only [PyData.hasDictAll, PyData.hasDict, noDict_strs l, Bool.or_self]
end M

/-! ### texts told by repr have good signs -/
namespace M
open PySem PySem.Spec PyProof.Rows L2
def okT (x : Str) : Prop := ∀ c ∈ x.cps.toList, c < 1114112
theorem okT_strOk {x : Str} (h : okT x) : PyData.strOk x = true := by
  unfold PyData.strOk
  rw [← Array.all_toList, List.all_eq_true]
  intro c hc
  exact decide_eq_true (h c hc)
theorem char_lt (c : Char) : c.toNat < 1114112 := by
  have := c.valid
  rcases this with h | ⟨_, h⟩
  · exact Nat.lt_trans h (by decide)
  · exact h
theorem okT_app {a b : Str} (h1 : okT a) (h2 : okT b) : okT (a ++ b) := by
  intro c hc
  have e : (a ++ b).cps.toList = a.cps.toList ++ b.cps.toList := by
    show (a.cps ++ b.cps).toList = _
    simp
  rw [e] at hc
  exact (List.mem_append.mp hc).elim (h1 c) (h2 c)
theorem okT_of (s : String) : okT (Str.ofString s) := by
  intro c hc
  have e : (Str.ofString s).cps.toList = s.toList.map Char.toNat := by
    unfold Str.ofString
    rw [List.toList_toArray, cpsOfBytes_string]
  rw [e] at hc
  obtain ⟨d, _, rfl⟩ := List.mem_map.mp hc
  exact char_lt d
theorem okT_S {z : List Nat} (h : okc z) : okT (S z) := fun c hc => h c (by rw [S_cps] at hc; exact hc)
theorem hex_ok (w c : Nat) : ∀ d ∈ List.replicate (w - ((Nat.toDigits 16 c).map Char.toNat).length) 48 ++ (Nat.toDigits 16 c).map Char.toNat, d < 1114112 := fun d hd => by
  rcases List.mem_append.mp hd with h | h
  · rw [(List.mem_replicate.mp h).2]; decide
  · obtain ⟨x, _, rfl⟩ := List.mem_map.mp h
    exact char_lt x
theorem reprChar_ok (q c : Nat) (hq : q < 1114112) (hc : c < 1114112) : ∀ d ∈ Builtin.Str.reprChar q c, d < 1114112 := by
  intro d hd
  unfold Builtin.Str.reprChar at hd
  dsimp only at hd
  have h2 := hex_ok 2 c
  have h4 := hex_ok 4 c
  have h8 := hex_ok 8 c
  repeat' split at hd
  all_goals first
    | (simp only [List.mem_cons, List.not_mem_nil, or_false] at hd; omega)
    | (rcases List.mem_append.mp hd with hd | hd
       · simp only [List.mem_cons, List.not_mem_nil, or_false] at hd; omega
       · first | exact h2 d hd | exact h4 d hd | exact h8 d hd)
theorem foldl_repr_ok (q : Nat) (hq : q < 1114112) : ∀ (l : List Nat) (acc : Array Nat), (∀ c ∈ l, c < 1114112) → (∀ c ∈ acc.toList, c < 1114112) → ∀ c ∈ (l.foldl (fun out c => out ++ (Builtin.Str.reprChar q c).toArray) acc).toList, c < 1114112
  | [], acc, _, h => h
  | x :: r, acc, h1, h2 => by
    rw [List.foldl_cons]
    refine foldl_repr_ok q hq r _ (fun c hc => h1 c (List.mem_cons_of_mem _ hc)) fun c hc => ?_
    rw [Array.toList_append, List.toList_toArray] at hc
    exact (List.mem_append.mp hc).elim (h2 c) (reprChar_ok q x hq (h1 x List.mem_cons_self) c)
theorem okT_repr {x : Str} (h : okT x) : okT (reprText x) := by
  have hq : reprQuote x < 1114112 := by
    unfold reprQuote
    split <;> decide
  intro c hc
  unfold reprText at hc
  rw [← Array.foldl_toList] at hc
  simp only [Array.toList_push] at hc
  rcases List.mem_append.mp hc with hc | hc
  · exact foldl_repr_ok _ hq _ _ h (fun c hc => by rw [List.mem_singleton.mp hc]; exact hq) c hc
  · rw [List.mem_singleton.mp hc]; exact hq
theorem okT_join {s : Str} (hs : okT s) : ∀ l : List Str, (∀ x ∈ l, okT x) → okT (Str.join s l)
  | [], _ => fun c hc => by cases hc
  | [x], h => h x List.mem_cons_self
  | x :: y :: r, h => by
    have ih := okT_join hs (y :: r) fun z hz => h z (List.mem_cons_of_mem _ hz)
    show okT (x ++ s ++ Str.join s (y :: r))
    exact okT_app (okT_app (h x List.mem_cons_self) hs) ih
theorem okT_textFrom : ∀ (l : List Str) (k : Nat) (acc : Str), okT acc → (∀ x ∈ l, okT x) → okT (PySem.textFrom k acc l)
  | [], k, acc, h, _ => h
  | x :: r, k, acc, h, hl => by
    refine okT_textFrom r (k + 1) _ (okT_app (okT_app h (okT_of _)) (hl x List.mem_cons_self)) fun z hz => hl z (List.mem_cons_of_mem _ hz)
theorem okT_strs : ∀ l : List (List Nat), (∀ z ∈ l, okc z) → ∀ x ∈ PyData.shownAll (dStrs l), okT x
  | [], _ => fun x hx => by cases hx
  | z :: l, h => fun x hx => by
    have hx' : x ∈ PyData.shownAll (.str (S z) :: dStrs l) := hx
    simp only [PyData.shownAll, PyData.shown] at hx'
    rcases List.mem_cons.mp hx' with rfl | hx'
    · exact okT_repr (okT_S (h z List.mem_cons_self))
    · exact okT_strs l (fun y hy => h y (List.mem_cons_of_mem _ hy)) x hx'
theorem okT_list {l : List (List Nat)} (h : ∀ z ∈ l, okc z) : okT (PyData.list (dStrs l)).shown := by
  simp only [PyData.shown]
  exact okT_app (okT_textFrom _ 0 _ (okT_of "[") (okT_strs l h)) (okT_of "]")
theorem okT_tuple {l : List (List Nat)} (h : ∀ z ∈ l, okc z) : okT (PyData.tuple (dStrs l)).shown := by
  simp only [PyData.shown]
  exact okT_app (okT_app (okT_of "(") (okT_join (okT_of ", ") _ (okT_strs l h))) (okT_of _)
end M

namespace M
open PySem PySem.Spec PyProof.Rows L2
/-- what is shown: a value that stays, or a list of at most n texts that may grow -/
inductive Bd (K : PySem.W.Frag) (n : Nat) (H : Hp) : V → List Addr → PyData → Prop
  | st {v : V} {d : PyData} : (∀ H', Ex H H' → Sh K H' v d) → d.showable = true → d.depth ≤ 64 → d.shown.length ≤ sizeLine → okT d.shown → (∀ (H' : Hp) (Q : VK), Ex H H' → Q (.bl false) H' → mIsi K [v, .ty "list"] H' Q) → Bd K n H v [] d
  | ls {p : Addr} {l : List (List Nat)} : H p = some (.lst (tx l)) → l.length ≤ n → (∀ z ∈ l, z.length ≤ 1000 ∧ okc z) → Bd K n H (.ref p) [p] (.list (dStrs l))
theorem Bd.ex {K : PySem.W.Frag} {n : Nat} {H H' : Hp} {v : V} {m : List Addr} {d : PyData} (e : Ex H H') (h : Bd K n H v m d) : Bd K n H' v m d := by
  cases h with
  | st h1 h2 h3 h4 h6 h5 => exact .st (fun H2 e2 => h1 H2 (e.trans e2)) h2 h3 h4 h6 fun H2 Q e2 => h5 H2 Q (e.trans e2)
  | ls h1 h2 h3 => exact .ls (e _ _ h1) h2 h3
theorem Bd.mono {K : PySem.W.Frag} {n k : Nat} {H : Hp} {v : V} {m : List Addr} {d : PyData} (hk : n ≤ k) (h : Bd K n H v m d) : Bd K k H v m d := by
  cases h with
  | st h1 h2 h3 h4 h6 h5 => exact .st h1 h2 h3 h4 h6 h5
  | ls h1 h2 h3 => exact .ls h1 (by omega) h3
theorem Bd.shows {K : PySem.W.Frag} {n : Nat} {H : Hp} {v : V} {m : List Addr} {d : PyData} (h : Bd K n H v m d) (hn : n ≤ 1000) : Sh K H v d ∧ d.showable = true ∧ d.depth ≤ 64 ∧ d.shown.length ≤ sizeLine ∧ okT d.shown := by
  cases h with
  | st h1 h2 h3 h4 h6 h5 => exact ⟨h1 H (Ex.refl H), h2, h3, h4, h6⟩
  | @ls p l h1 h2 h3 =>
    have := shown_list_le h3
    refine ⟨.dp (.lst (SqL.of h1) (dp_strs l)) (by simpa only [PyData.hasDict] using noDict_strs l), by simpa only [PyData.showable] using showable_strs l, by simp only [PyData.depth, dep_strs]; decide, ?_, okT_list fun z hz => (h3 z hz).2⟩
    have h4 : (10 * 1000 + 4) * l.length ≤ (10 * 1000 + 4) * 1000 := Nat.mul_le_mul_left _ (by omega)
    rw [szl]; omega
section
variable {K : PySem.W.Frag} {n : Nat} {H : Hp}
theorem Bd.non : Bd K n H .non [] .none := .st (fun _ _ => .dp .non rfl) rfl (by decide) (by decide +kernel) (okT_of "None") fun H' Q _ q => by unfold mIsi; simp only [tyN, kb19]; exact q
theorem Bd.int (i : Int) (h1 : (PyData.int i).showable = true) (h2 : (PyData.int i).shown.length ≤ sizeLine) : Bd K n H (.int i) [] (.int i) := .st (fun _ _ => .dp (.int i) rfl) h1 (by simp only [PyData.depth]; decide) h2 (by simp only [PyData.shown]; exact okT_of _) fun H' Q _ q => by unfold mIsi; simp only [tyN, kb9]; exact q
theorem Bd.bl (b : Bool) : Bd K n H (.bl b) [] (.bool b) := .st (fun _ _ => .dp (.bl b) rfl) rfl (by simp only [PyData.depth]; decide) (by cases b <;> decide +kernel) (by simp only [PyData.shown]; cases b <;> exact okT_of _) fun H' Q _ q => by unfold mIsi; simp only [tyN, kb14]; exact q
theorem Bd.str {z : List Nat} (hz : okc z) (hl : z.length ≤ 1000000) : Bd K n H (.str (S z)) [] (.str (S z)) := .st (fun _ _ => .dp (.str _) rfl) rfl (by simp only [PyData.depth]; decide) (by have := shown_str_le hz; rw [szl]; omega) (by simp only [PyData.shown]; exact okT_repr (okT_S hz)) fun H' Q _ q => by unfold mIsi; simp only [tyN, kb4]; exact q
theorem Bd.tup {a : Addr} {l : List (List Nat)} (h : SqT K H a (tx l)) (hl : l.length ≤ 1000) (h3 : ∀ z ∈ l, z.length ≤ 1000 ∧ okc z) : Bd K n H (.ref a) [] (.tuple (dStrs l)) :=
  .st (fun _ e => .dp (.tup (e.T h) (dp_strs l)) (by simpa only [PyData.hasDict] using noDict_strs l)) (by simpa only [PyData.showable] using showable_strs l) (by simp only [PyData.depth, dep_strs]; decide) (by
    have := shown_tuple_le h3
    have h4 : (10 * 1000 + 4) * l.length ≤ (10 * 1000 + 4) * 1000 := Nat.mul_le_mul_left _ (by omega)
    rw [szl]; omega) (okT_tuple fun z hz => (h3 z hz).2) fun H' Q e q => ⟨_, _, tyX_tup (e.T h), ki_tup.2.2.2.1, q⟩
theorem Bd.dct {a : Addr} (h : H a = some (.dK [])) : Bd K n H (.ref a) [] (.dict []) := .st (fun _ e => .dct (e _ _ h) rfl) rfl (by decide) (by decide +kernel) (okT_app (okT_app (okT_of "{") (okT_join (okT_of ", ") _ fun x hx => by cases hx)) (okT_of "}")) fun H' Q e q => ⟨_, _, .base (.dK (e _ _ h)), ki_dict.2.2.2.1, q⟩
end
/-- a bad value shown stays one -/
theorem Bd.fm {K : PySem.W.Frag} {n k : Nat} {H H' : Hp} {v : V} {m : List Addr} {d d' : PyData} (h : Bd K n H v m d) (f : Fm m H H') (h' : Bd K k H' v m d') : Ex H H' ∨ ∃ p xs, v = .ref p ∧ m = [p] ∧ SqL K H' p xs := by
  cases h with
  | st => exact .inl (Fm.nil f)
  | ls => cases h' with
    | ls h1 => exact .inr ⟨_, _, rfl, rfl, SqL.of h1⟩
/-- lists [b, c, text] compared -/
theorem eq_bbs {K : PySem.W.Frag} {neg : Bool} {H : Hp} {Q : VK} {p q : Addr} {b c : Bool} {x : Str} (h1 : SqL K H p [.bl b, .bl c, .str x]) (h2 : SqL K H q [.bl b, .bl c, .str x]) (hx : okT x) (k : Q (.bl (!neg)) H) : rEqW K neg (.ref p) (.ref q) H Q := by
  have lay : (PyData.list [.bool b, .bool c, .str x]).canLay0 = true := by simp only [PyData.canLay0, PyData.canLayAll0, okT_strOk hx, Bool.and_self]
  have dp : ∀ {r : Addr}, SqL K H r [.bl b, .bl c, .str x] → Dp K H (.ref r) (.list [.bool b, .bool c, .str x]) := fun h => .lst h (.cons (.bl b) (.cons (.bl c) (.cons (.str x) .nil)))
  refine ⟨_, _, dp h1, dp h2, lay, lay, by simp only [PyData.depth, PyData.depthAll]; decide, ?_⟩
  have e : PyData.eqv (.list [.bool b, .bool c, .str x]) (.list [.bool b, .bool c, .str x]) = true := by simp [PyData.eqv, PyData.eqvAll]
  rw [e]
  cases neg <;> exact k
end M

/-! ### bad values in a row, each of them a list that may grow -/
namespace M
open PySem PySem.Spec PyProof.Rows L2
def gdL (l : List (List Nat)) : Prop := ∀ z ∈ l, z.length ≤ 1000 ∧ okc z
inductive Bw (K : PySem.W.Frag) (n : Nat) (H : Hp) : V → Prop
  | non : Bw K n H .non
  | int {i : Int} : (PyData.int i).showable = true → (PyData.int i).shown.length ≤ sizeLine → Bw K n H (.int i)
  | bl (b : Bool) : Bw K n H (.bl b)
  | str {z : List Nat} : okc z → z.length ≤ 1000000 → Bw K n H (.str (S z))
  | lst {p : Addr} {l : List (List Nat)} : H p = some (.lst (tx l)) → l.length ≤ n → gdL l → Bw K n H (.ref p)
  | tup {p : Addr} {l : List (List Nat)} : H p = some (.tup (tx l)) → l.length ≤ 1000 → gdL l → Bw K n H (.ref p)
  | dct {p : Addr} : H p = some (.dK []) → Bw K n H (.ref p)
theorem Bw.bd {K : PySem.W.Frag} {n : Nat} {H : Hp} {w : V} (h : Bw K n H w) : ∃ m d, Bd K n H w m d ∧ ∀ p ∈ m, w = .ref p := by
  cases h with
  | non => exact ⟨_, _, .non, fun p h => by cases h⟩
  | int h1 h2 => exact ⟨_, _, .int _ h1 h2, fun p h => by cases h⟩
  | bl b => exact ⟨_, _, .bl b, fun p h => by cases h⟩
  | str h1 h2 => exact ⟨_, _, .str h1 h2, fun p h => by cases h⟩
  | lst h1 h2 h3 => exact ⟨_, _, .ls h1 h2 h3, fun p h => by rw [List.mem_singleton.mp h]⟩
  | tup h1 h2 h3 => exact ⟨_, _, .tup (SqT.of h1) h2 h3, fun p h => by cases h⟩
  | dct h1 => exact ⟨_, _, .dct h1, fun p h => by cases h⟩
theorem Bw.ex {K : PySem.W.Frag} {n : Nat} {H H' : Hp} {w : V} (e : Ex H H') (h : Bw K n H w) : Bw K n H' w := by
  cases h with
  | non => exact .non
  | int h1 h2 => exact .int h1 h2
  | bl b => exact .bl b
  | str h1 h2 => exact .str h1 h2
  | lst h1 h2 h3 => exact .lst (e _ _ h1) h2 h3
  | tup h1 h2 h3 => exact .tup (e _ _ h1) h2 h3
  | dct h1 => exact .dct (e _ _ h1)
theorem Bw.step {K : PySem.W.Frag} {n k : Nat} {H H' : Hp} {v w : V} {m : List Addr} {d d' : PyData} (h : Bw K n H w) (bd : Bd K n H v m d) (f : Fm m H H') (bd' : Bd K k H' v m d') (hk : n ≤ k) : Bw K k H' w := by
  have at_ : ∀ {p : Addr} {o : HO}, H p = some o → (∀ l, o ≠ .lst (tx l)) → H' p = some o := fun {p o} h n => by
    refine f p o (fun hp => ?_) h
    cases bd with
    | st => cases hp
    | ls h1 => rw [List.mem_singleton.mp hp, h1] at h; cases h; exact n _ rfl
  cases h with
  | non => exact .non
  | int h1 h2 => exact .int h1 h2
  | bl b => exact .bl b
  | str h1 h2 => exact .str h1 h2
  | @lst p l h1 h2 h3 =>
    by_cases hp : p ∈ m
    · cases bd' with
      | st => cases hp
      | ls g1 g2 g3 => rw [List.mem_singleton.mp hp]; exact .lst g1 g2 g3
    · exact .lst (f p _ hp h1) (by omega) h3
  | tup h1 h2 h3 => exact .tup (at_ h1 fun l z => by cases z) h2 h3
  | dct h1 => exact .dct (at_ h1 fun l z => by cases z)
/-- the addresses of a value -/
def rf : V → List Addr
  | .ref p => [p]
  | _ => []
theorem rf_mem {v : V} {p : Addr} : p ∈ rf v ↔ v = .ref p := by
  cases v <;> simp [rf, eq_comm]
theorem Bw.stp {K : PySem.W.Frag} {n k : Nat} {H H' : Hp} {v w : V} (h : Bw K n H w) (f : Fm (rf v) H H') (b : Bw K k H' v) (hk : n ≤ k) : Bw K k H' w := by
  have at_ : ∀ {p : Addr} {o : HO}, H p = some o → v ≠ .ref p → H' p = some o := fun {p o} h n => f p o (fun hp => n (rf_mem.mp hp)) h
  cases h with
  | non => exact .non
  | int h1 h2 => exact .int h1 h2
  | bl b => exact .bl b
  | str h1 h2 => exact .str h1 h2
  | @lst p l h1 h2 h3 =>
    by_cases e : v = .ref p
    · rw [← e]; exact b
    · exact .lst (at_ h1 e) (by omega) h3
  | @tup p l h1 h2 h3 =>
    by_cases e : v = .ref p
    · rw [← e]; exact b
    · exact .tup (at_ h1 e) h2 h3
  | @dct p h1 =>
    by_cases e : v = .ref p
    · rw [← e]; exact b
    · exact .dct (at_ h1 e)
theorem SqL.fm {K : PySem.W.Frag} {H H' : Hp} {m : List Addr} {q : Addr} {xs : List V} (hq : q ∉ m) (f : Fm m H H') (hL : SqL K H q xs) : SqL K H' q xs := by
  rcases hL with h | h
  · rcases h with h | ⟨o, h⟩
    · exact .inl (.inl (f _ _ hq h))
    · exact .inl (.inr ⟨o, f _ _ hq h⟩)
  · exact .inr h
theorem Fm.mono {a b : List Addr} {H H' : Hp} (h : ∀ x ∈ a, x ∈ b) (f : Fm a H H') : Fm b H H' := fun x o n => f x o fun y => n (h x y)
theorem Tr.s_okc : ∀ t : Tr, okc t.s
  | .lf => fun c h => by rw [List.mem_singleton.mp h]; decide
  | .nd a b => fun c h => by
    simp only [Tr.s, List.mem_cons, List.mem_append, List.not_mem_nil, or_false] at h
    rcases h with rfl | h | h | rfl
    · decide
    · exact Tr.s_okc a c h
    · exact Tr.s_okc b c h
    · decide
/-- what is new may change -/
theorem Fm.exN {m : List Addr} {H H1 H2 : Hp} (e : Ex H H1) (n : ∀ p ∈ m, H p = none) (f : Fm m H1 H2) : Ex H H2 := fun a o h => f a o (fun z => by rw [n a z] at h; cases h) (e a o h)
end M

/-! ### roads and parts -/
namespace M
open PySem PySem.Spec PyProof.Rows L2
theorem isAd_app {a b : List Nat} (h1 : isAd a = true) (h2 : isAd b = true) : isAd (a ++ b) = true := by
  unfold isAd at h1 h2 ⊢
  rw [decide_eq_true_eq] at h1 h2 ⊢
  exact fun c hc => (List.mem_append.mp hc).elim (h1 c) (h2 c)
theorem Tr.att_app : ∀ (a b : List Nat) (t : Tr), t.att (a ++ b) = (t.att a).bind fun u => u.att b
  | [], b, t => by rw [Tr.att_nil]; rfl
  | c :: a, b, .lf => rfl
  | c :: a, b, .nd l r => by
    show (if c = 114 then r.att (a ++ b) else l.att (a ++ b)) = (if c = 114 then r.att a else l.att a).bind _
    split
    · exact Tr.att_app a b r
    · exact Tr.att_app a b l
theorem lvs_att : ∀ (t : Tr) (r z : List Nat), z ∈ t.lvs r → ∃ s, z = r ++ s ∧ isAd s = true ∧ t.att s = some .lf
  | .lf, r, z, h => ⟨[], by rw [List.mem_singleton.mp h]; simp, rfl, rfl⟩
  | .nd a b, r, z, h => by
    rcases List.mem_append.mp h with h | h
    · obtain ⟨s, e, h1, h2⟩ := lvs_att a _ z h
      exact ⟨108 :: s, by rw [e]; simp, isAd_app (a := [108]) (by decide) h1, h2⟩
    · obtain ⟨s, e, h1, h2⟩ := lvs_att b _ z h
      exact ⟨114 :: s, by rw [e]; simp, isAd_app (a := [114]) (by decide) h1, h2⟩
theorem nds_att : ∀ (t : Tr) (r z : List Nat), z ∈ t.nds r → ∃ s a b, z = r ++ s ∧ isAd s = true ∧ t.att s = some (.nd a b)
  | .lf, r, z, h => by cases h
  | .nd a b, r, z, h => by
    rcases List.mem_append.mp h with h | h
    · obtain ⟨s, x, y, e, h1, h2⟩ := nds_att a _ z h
      exact ⟨108 :: s, x, y, by rw [e]; simp, isAd_app (a := [108]) (by decide) h1, h2⟩
    · rcases List.mem_append.mp h with h | h
      · exact ⟨[], a, b, by rw [List.mem_singleton.mp h]; simp, rfl, rfl⟩
      · obtain ⟨s, x, y, e, h1, h2⟩ := nds_att b _ z h
        exact ⟨114 :: s, x, y, by rw [e]; simp, isAd_app (a := [114]) (by decide) h1, h2⟩
theorem lvs_off {t : Tr} {z w : List Nat} (h : t.att z = some .lf) (hw : w ≠ []) : t.att (z ++ w) = none := by
  rw [Tr.att_app, h]
  cases w with
  | nil => exact absurd rfl hw
  | cons c w => rfl
/-- the tuples of a nest are no list -/
theorem Nst.fm {K : PySem.W.Frag} {m : List Addr} {H H' : Hp} {v : V} {t : Tr} (hm : ∀ p ∈ m, H p = none ∨ ∃ xs, H p = some (.lst xs)) (f : Fm m H H') (h : Nst K H v t) : Nst K H' v t := by
  have T : ∀ {a : Addr} {xs : List V}, SqT K H a xs → SqT K H' a xs := fun {a xs} h => by
    have no : ∀ {o : HO}, H a = some o → (∀ ys, o ≠ .lst ys) → H' a = some o := fun {o} e n => f a o (fun z => by
      rcases hm a z with w | ⟨ys, w⟩
      · rw [w] at e; cases e
      · rw [w] at e; cases e; exact n _ rfl) e
    rcases h with h | h
    · rcases h with h | ⟨o, h⟩
      · exact .inl (.inl (no h fun _ z => by cases z))
      · exact .inl (.inr ⟨o, no h fun _ z => by cases z⟩)
    · exact .inr h
  induction h with
  | lf h => exact .lf (T h)
  | nd h _ _ i1 i2 => exact .nd (T h) i1 i2
theorem Pu.fmo {H H1 : Hp} {g : Addr} {n : Nat} {m : List Addr} (h : g ∉ m) (e : Fm m H H1) (p : Pu H g n) : Pu H1 g n := by
  obtain ⟨a, b, c, h1, r⟩ := p
  exact ⟨a, b, c, e _ _ h h1, r⟩
theorem isTr_dot (t : Tr) : isTr (t.s ++ [46]) = false := by
  unfold isTr
  rw [itRun_app, itRun_tree]
  rfl
theorem Fm.exg {H H1 H2 : Hp} {g : Addr} (e : Ex H H1) (n : H g = none) (f : Fm [g] H1 H2) : Ex H H2 := Fm.exN e (fun p hp => by rw [List.mem_singleton.mp hp]; exact n) f
theorem Pu.lst {H : Hp} {g : Addr} {n : Nat} (p : Pu H g n) : ∃ xs, H g = some (.lst xs) := by
  obtain ⟨a, b, c, h1, r⟩ := p
  exact ⟨_, h1⟩
theorem Pu.ne {H : Hp} {g p : Addr} {n : Nat} (h : Pu H g n) (hp : H p = none) : p ≠ g := fun z => by
  obtain ⟨_, _, _, z1, _⟩ := h
  rw [z, z1] at hp; cases hp
end M

/-! ### a refusal that is caught; values that are shown and stay -/
namespace M
open PySem PySem.Spec PyProof.Rows L2
theorem fin_go {K : PySem.W.Frag} {aT C : Addr} {i j : Nat} {D : Ends} {σ : Sl} {H : Hp} {v : V} (x1 : PySem.W.exmOne K (.ref C) (.ref aT) = some true)
    (k : ∀ (a dd : Addr) (H' : Hp), Ex H H' → H' a = some (exk a (.ref C) (some dd)) → H' dd = some (.xd [("value", v)]) → H a = none → H dd = none → D.nx ((σ.set j (some (.ref a))).set i none) H') : Fail (WE (wK K (.ref aT) i j D) σ) H C v := fun H' dd e nd hd =>
  ⟨x1, fun a na => k a dd _ (e.push na) upd_same (Ex.new na _ _ hd) (e.free na) nd⟩
theorem okT_none : okT (PyData.none).shown := okT_of "None"
theorem okT_dct : okT (PyData.dict []).shown := okT_app (okT_app (okT_of "{") (okT_join (okT_of ", ") [] fun x hx => by cases hx)) (okT_of "}")
theorem okT_int (i : Int) : okT (PyData.int i).shown := by simp only [PyData.shown]; exact okT_of _
theorem okT_bl (b : Bool) : okT (PyData.bool b).shown := by simp only [PyData.shown]; cases b <;> exact okT_of _
theorem okT_str {z : List Nat} (h : okc z) : okT (PyData.str (S z)).shown := by simp only [PyData.shown]; exact okT_repr (okT_S h)
/-- a value that stays, and is shown -/
def Sv (K : PySem.W.Frag) (H : Hp) (v : V) (d : PyData) : Prop := (∀ H', Ex H H' → Sh K H' v d) ∧ d.showable = true ∧ d.depth ≤ 64 ∧ d.shown.length ≤ sizeLine
theorem Sv.ex {K : PySem.W.Frag} {H H' : Hp} {v : V} {d : PyData} (e : Ex H H') (h : Sv K H v d) : Sv K H' v d := ⟨fun H2 e2 => h.1 H2 (e.trans e2), h.2⟩
section
variable {K : PySem.W.Frag} {H : Hp}
theorem Sv.non : Sv K H .non .none := ⟨fun _ _ => .dp .non rfl, rfl, by decide, by decide +kernel⟩
theorem Sv.int (i : Int) (h1 : (PyData.int i).showable = true) (h2 : (PyData.int i).shown.length ≤ sizeLine) : Sv K H (.int i) (.int i) := ⟨fun _ _ => .dp (.int i) rfl, h1, by simp only [PyData.depth]; decide, h2⟩
theorem Sv.bl (b : Bool) : Sv K H (.bl b) (.bool b) := ⟨fun _ _ => .dp (.bl b) rfl, rfl, by simp only [PyData.depth]; decide, by cases b <;> decide +kernel⟩
theorem Sv.str {z : List Nat} (hz : okc z) (hl : z.length ≤ 1000000) : Sv K H (.str (S z)) (.str (S z)) := ⟨fun _ _ => .dp (.str _) rfl, rfl, by simp only [PyData.depth]; decide, by have := shown_str_le hz; rw [szl]; omega⟩
theorem Sv.dct {a : Addr} (h : H a = some (.dK [])) : Sv K H (.ref a) (.dict []) := ⟨fun _ e => .dct (e _ _ h) rfl, rfl, by decide, by decide +kernel⟩
theorem Sv.lst {a : Addr} {xs : List V} {ds : List PyData} (h : SqL K H a xs) (hd : ∀ H', Ex H H' → DpAll K H' xs ds) (h1 : (PyData.list ds).hasDict = false) (h2 : (PyData.list ds).showable = true) (h3 : (PyData.list ds).depth ≤ 64) (h4 : (PyData.list ds).shown.length ≤ sizeLine) : Sv K H (.ref a) (.list ds) :=
  ⟨fun H' e => .dp (.lst (e.L h) (hd H' e)) h1, h2, h3, h4⟩
theorem Sv.tup {a : Addr} {xs : List V} {ds : List PyData} (h : SqT K H a xs) (hd : ∀ H', Ex H H' → DpAll K H' xs ds) (h1 : (PyData.tuple ds).hasDict = false) (h2 : (PyData.tuple ds).showable = true) (h3 : (PyData.tuple ds).depth ≤ 64) (h4 : (PyData.tuple ds).shown.length ≤ sizeLine) : Sv K H (.ref a) (.tuple ds) :=
  ⟨fun H' e => .dp (.tup (e.T h) (hd H' e)) h1, h2, h3, h4⟩
end
end M

/-! ### all trees of a size, in a row; rows in order -/
namespace M
open PySem PySem.Spec PyProof.Rows L2
def ndS (a b : List Nat) : List Nat := 40 :: (a ++ (b ++ [41]))
def prodS (A B : List (List Nat)) : List (List Nat) := A.flatMap fun a => B.map fun b => ndS a b
def mkL (F : List (List (List Nat))) (c : Nat) : List (List Nat) := (List.range c).flatMap fun l => prodS (F.getD l []) (F.getD (c - 1 - l) [])
def levs : Nat → List (List (List Nat))
  | 0 => [[[46]]]
  | n + 1 => levs n ++ [mkL (levs n) (n + 1)]
def lev (n : Nat) : List (List Nat) := (levs n).getD n []
theorem levs_len : ∀ n, (levs n).length = n + 1
  | 0 => rfl
  | n + 1 => by simp [levs, levs_len n]
theorem levs_get : ∀ n i, i ≤ n → (levs n).getD i [] = lev i
  | 0, i, h => by obtain rfl : i = 0 := by omega
                  rfl
  | n + 1, i, h => by
    by_cases e : i = n + 1
    · subst e; rfl
    · have := levs_get n i (by omega)
      rw [← this, levs, List.getD_eq_getElem?_getD, List.getD_eq_getElem?_getD, List.getElem?_append_left (by rw [levs_len]; omega)]
theorem lev_succ (n : Nat) : lev (n + 1) = mkL (levs n) (n + 1) := by
  unfold lev
  rw [levs, List.getD_eq_getElem?_getD, List.getElem?_append_right (by rw [levs_len]; exact Nat.le_refl _), levs_len]
  simp
theorem lev_mem : ∀ t : Tr, t.s ∈ lev t.n
  | .lf => by simp [Tr.s, Tr.n, lev, levs]
  | .nd a b => by
    have ha := lev_mem a
    have hb := lev_mem b
    show ndS a.s b.s ∈ lev (a.n + b.n + 1)
    rw [lev_succ]
    refine List.mem_flatMap.mpr ⟨a.n, List.mem_range.mpr (by omega), List.mem_flatMap.mpr ⟨a.s, ?_, List.mem_map.mpr ⟨b.s, ?_, rfl⟩⟩⟩
    · rw [levs_get _ _ (by omega)]; exact ha
    · rw [levs_get _ _ (by omega), show a.n + b.n + 1 - 1 - a.n = b.n by omega]; exact hb
theorem lev_tree : ∀ n i, i ≤ n → ∀ z ∈ lev i, ∃ t : Tr, z = t.s ∧ t.n = i
  | 0, i, h, z, hz => by
    obtain rfl : i = 0 := by omega
    exact ⟨.lf, List.mem_singleton.mp hz, rfl⟩
  | n + 1, i, h, z, hz => by
    by_cases e : i = n + 1
    · subst e
      rw [lev_succ] at hz
      obtain ⟨l, hl, h1⟩ := List.mem_flatMap.mp hz
      obtain ⟨a, h2, h3⟩ := List.mem_flatMap.mp h1
      obtain ⟨b, h4, rfl⟩ := List.mem_map.mp h3
      have hl' := List.mem_range.mp hl
      rw [levs_get _ _ (by omega)] at h2 h4
      obtain ⟨t, rfl, ht⟩ := lev_tree n l (by omega) a h2
      obtain ⟨u, rfl, hu⟩ := lev_tree n (n + 1 - 1 - l) (by omega) b h4
      exact ⟨.nd t u, rfl, by show t.n + u.n + 1 = n + 1; omega⟩
    · exact lev_tree n i (by omega) z hz
theorem lev_few {i : Nat} (h : i ≤ 8) : (lev i).length ≤ 1430 := by
  have e : ((levs 8).all fun L => decide (L.length ≤ 1430)) = true := by decide +kernel
  rw [List.all_eq_true] at e
  rw [← levs_get 8 i h, List.getD_eq_getElem?_getD, List.getElem?_eq_getElem (by rw [levs_len]; omega)]
  exact of_decide_eq_true (e _ (List.getElem_mem _))
theorem prodS_len (A B : List (List Nat)) : (prodS A B).length = A.length * B.length := by
  unfold prodS
  induction A with
  | nil => simp
  | cons a A ih => rw [List.flatMap_cons, List.length_append, ih, List.length_map, List.length_cons, Nat.add_mul]; omega
theorem flat_perm {α β : Type} {f g : α → List β} : ∀ l : List α, (∀ x ∈ l, (f x).Perm (g x)) → (l.flatMap f).Perm (l.flatMap g)
  | [], _ => .refl _
  | x :: l, h => by
    rw [List.flatMap_cons, List.flatMap_cons]
    exact (h x List.mem_cons_self).append (flat_perm l fun y hy => h y (List.mem_cons_of_mem _ hy))
theorem prodS_perm {A A' B B' : List (List Nat)} (h1 : A.Perm A') (h2 : B.Perm B') : (prodS A B).Perm (prodS A' B') :=
  (h1.flatMap_right _).trans (flat_perm A' fun a _ => h2.map _)
theorem mkL_perm {F G : List (List (List Nat))} {c : Nat} (h : ∀ i < c, (F.getD i []).Perm (G.getD i [])) : (mkL F c).Perm (mkL G c) :=
  flat_perm _ fun l hl => by
    have := List.mem_range.mp hl
    exact prodS_perm (h l this) (h (c - 1 - l) (by omega))
/-! rows in order -/
theorem perm_eq {α : Type} {le : α → α → Prop} (anti : ∀ a b, le a b → le b a → a = b) : ∀ {l m : List α}, l.Pairwise le → m.Pairwise le → l.Perm m → l = m
  | [], m, _, _, h => (List.Perm.nil_eq h)
  | a :: l, [], _, _, h => absurd h.symm.nil_eq (by simp)
  | a :: l, b :: m, hl, hm, h => by
    have e : a = b := by
      have ha : a ∈ b :: m := h.mem_iff.mp List.mem_cons_self
      have hb : b ∈ a :: l := h.mem_iff.mpr List.mem_cons_self
      rcases List.mem_cons.mp ha with e | ha
      · exact e
      rcases List.mem_cons.mp hb with e | hb
      · exact e.symm
      exact anti a b ((List.pairwise_cons.mp hl).1 b hb) ((List.pairwise_cons.mp hm).1 a ha)
    subst e
    rw [perm_eq anti (List.pairwise_cons.mp hl).2 (List.pairwise_cons.mp hm).2 (List.Perm.cons_inv h)]
def leS (a b : Str) : Prop := a.cps.toList ≤ b.cps.toList
theorem ltCps_eq : ∀ a b : List Nat, ltCps a b = decide (a < b)
  | [], [] => rfl
  | [], b :: t => by simp [ltCps]
  | a :: r, [] => by simp [ltCps]
  | a :: r, b :: t => by
    show (decide (a < b) || (a == b && ltCps r t)) = _
    rw [ltCps_eq r t, Bool.eq_iff_iff]
    simp [List.cons_lt_cons_iff]
theorem rising_pair : ∀ (l : List Str) (p : Str), risingS p l = true → (∀ x ∈ l, leS p x) ∧ l.Pairwise leS
  | [], p, _ => ⟨fun x h => (by cases h), List.Pairwise.nil⟩
  | x :: r, p, h => by
    have h' : (!ltCps x.cps.toList p.cps.toList && risingS x r) = true := h
    rw [Bool.and_eq_true] at h'
    obtain ⟨h1, h2⟩ := rising_pair r x h'.2
    have h3 : leS p x := by
      have := h'.1
      unfold leS
      rw [ltCps_eq] at this
      simpa using this
    exact ⟨fun y hy => by
      rcases List.mem_cons.mp hy with rfl | hy
      · exact h3
      · exact List.le_trans h3 (h1 y hy), List.pairwise_cons.mpr ⟨h1, h2⟩⟩
theorem sortedS_eq {l m : List Str} (h1 : sortedS l = true) (h2 : sortedS m = true) (h : l.Perm m) : l = m := by
  have pw : ∀ {l : List Str}, sortedS l = true → l.Pairwise leS := fun {l} h => by
    cases l with
    | nil => exact .nil
    | cons x r =>
      obtain ⟨a, b⟩ := rising_pair r x h
      exact List.pairwise_cons.mpr ⟨a, b⟩
  refine perm_eq (fun a b h1 h2 => ?_) (pw h1) (pw h2) h
  have e := List.le_antisymm h1 h2
  rw [← S_of a, ← S_of b, e]
/-- a sorted row of texts, as codes -/
theorem row_of {ys : List Str} {L : List (List Nat)} (h : ys.Perm (L.map S)) : ∃ M : List (List Nat), ys = M.map S ∧ M.Perm L := by
  refine ⟨ys.map (·.cps.toList), ?_, ?_⟩
  · rw [List.map_map]
    have : (S ∘ fun x : Str => x.cps.toList) = id := by funext x; exact S_of x
    rw [this, List.map_id]
  · have := h.map (·.cps.toList)
    rw [List.map_map] at this
    have e : ((fun x : Str => x.cps.toList) ∘ S) = id := by funext x; exact S_cps x
    rw [e, List.map_id] at this
    exact this
theorem map_S_inj {L M : List (List Nat)} (h : L.map S = M.map S) : L = M := by
  have := congrArg (List.map fun x : Str => x.cps.toList) h
  rw [List.map_map, List.map_map] at this
  have e : ((fun x : Str => x.cps.toList) ∘ S) = id := by funext x; exact S_cps x
  rw [e, List.map_id, List.map_id] at this
  exact this
end M

/-! ### data that may be shown; trees, addresses, steps and scripts among data -/
namespace M
open PySem PySem.Spec PyProof.Rows L2
mutual
def okD : PyData → Bool
  | .none | .bool _ => true
  | .int i => decide (i.natAbs.log2 < 1920)
  | .str z => decide (z.length ≤ 1000000) && z.cps.all fun c => decide (c < 1114112)
  | .list xs | .tuple xs => okDs xs
  | .dict kvs => kvs.isEmpty
def okDs : List PyData → Bool
  | [] => true
  | x :: xs => okD x && okDs xs
end
mutual
def wt : PyData → Nat
  | .none | .bool _ => 5
  | .int i => (PyData.int i).shown.length
  | .str z => 10 * z.length + 2
  | .list xs | .tuple xs => wts xs + 3
  | .dict _ => 2
def wts : List PyData → Nat
  | [] => 0
  | x :: xs => wt x + 2 + wts xs
end
theorem okD_str {z : List Nat} : okD (.str (S z)) = true ↔ z.length ≤ 1000000 ∧ okc z := by
  have e : ((S z).cps.all fun c => decide (c < 1114112)) = true ↔ okc z := by simp [S, okc]
  simp only [okD, S_len, Bool.and_eq_true, decide_eq_true_eq, e]
theorem okDs_mem : ∀ {l : List PyData}, okDs l = true ↔ ∀ d ∈ l, okD d = true
  | [] => by simp [okDs]
  | x :: l => by simp only [okDs, Bool.and_eq_true, List.mem_cons, forall_eq_or_imp, okDs_mem]
mutual
theorem okD_show : ∀ d : PyData, okD d = true → d.showable = true
  | .none, _ => rfl
  | .bool _, _ => rfl
  | .str _, _ => rfl
  | .int i, h => by simpa only [PyData.showable, okD] using h
  | .list xs, h => by simpa only [PyData.showable] using okDs_show xs (by simpa only [okD] using h)
  | .tuple xs, h => by simpa only [PyData.showable] using okDs_show xs (by simpa only [okD] using h)
  | .dict kvs, h => by
    have : kvs = [] := by simpa [okD] using h
    subst this; rfl
theorem okDs_show : ∀ d : List PyData, okDs d = true → PyData.showableAll d = true
  | [], _ => rfl
  | x :: xs, h => by
    simp only [okDs, Bool.and_eq_true] at h
    simp only [PyData.showableAll, okD_show x h.1, okDs_show xs h.2, Bool.and_self]
end
mutual
theorem okD_T : ∀ d : PyData, okD d = true → okT d.shown
  | .none, _ => okT_of "None"
  | .bool b, _ => by simp only [PyData.shown]; cases b <;> exact okT_of _
  | .str z, h => by
    obtain ⟨l, rfl⟩ := S_def z
    simp only [PyData.shown]; exact okT_repr (okT_S (okD_str.mp h).2)
  | .int i, h => by simp only [PyData.shown]; exact okT_of _
  | .list xs, h => by
    simp only [PyData.shown]
    exact okT_app (okT_textFrom _ 0 _ (okT_of "[") (okDs_T xs (by simpa only [okD] using h))) (okT_of "]")
  | .tuple xs, h => by
    simp only [PyData.shown]
    have := okDs_T xs (by simpa only [okD] using h)
    exact okT_app (okT_app (okT_of "(") (okT_join (okT_of ", ") _ this)) (okT_of _)
  | .dict kvs, h => by
    have : kvs = [] := by simpa [okD] using h
    subst this; exact okT_dct
theorem okDs_T : ∀ d : List PyData, okDs d = true → ∀ x ∈ PyData.shownAll d, okT x
  | [], _, x, hx => by cases hx
  | d :: xs, h, x, hx => by
    simp only [okDs, Bool.and_eq_true] at h
    simp only [PyData.shownAll] at hx
    rcases List.mem_cons.mp hx with rfl | hx
    · exact okD_T d h.1
    · exact okDs_T xs h.2 x hx
end
mutual
theorem okD_len : ∀ d : PyData, okD d = true → d.shown.length ≤ wt d
  | .none, _ => by decide
  | .bool b, _ => by cases b <;> decide
  | .str z, h => by
    obtain ⟨l, rfl⟩ := S_def z
    have := shown_str_le (okD_str.mp h).2
    simp only [wt, S_len]; exact this
  | .int i, h => by simp only [wt]; exact Nat.le_refl _
  | .list xs, h => by
    have h1 := listText_len_le (PyData.shownAll xs)
    have h2 := okDs_len xs (by simpa only [okD] using h)
    rw [shownAll_len] at h1
    simp only [PyData.shown, wt]
    omega
  | .tuple xs, h => by
    have h1 := tupleText_len_le (PyData.shownAll xs)
    have h2 := okDs_len xs (by simpa only [okD] using h)
    rw [shownAll_len] at h1
    simp only [PyData.shown, wt]
    omega
  | .dict kvs, h => by
    have : kvs = [] := by simpa [okD] using h
    subst this; decide +kernel
theorem okDs_len : ∀ d : List PyData, okDs d = true → ((PyData.shownAll d).map (·.length)).sum + 2 * d.length ≤ wts d
  | [], _ => by simp [PyData.shownAll, wts]
  | d :: xs, h => by
    simp only [okDs, Bool.and_eq_true] at h
    have h1 := okD_len d h.1
    have h2 := okDs_len xs h.2
    simp only [PyData.shownAll, List.map_cons, List.sum_cons, List.length_cons, wts]
    omega
end
/-- may be shown, not too long -/
def Gd (n : Nat) (d : PyData) : Prop := okD d = true ∧ d.depth ≤ 60 ∧ wt d ≤ n
theorem Gd.mono {n m : Nat} {d : PyData} (h : Gd n d) (l : n ≤ m) : Gd m d := ⟨h.1, h.2.1, by have := h.2.2; omega⟩
theorem Gd.reprs {K : PySem.W.Frag} {H : Hp} {m : List Addr} {v : V} {d : PyData} {Q : VK} (h : Gd 10000000 d) (q : Dq K H m v d) (k : Q (.str d.shown) H) : mReprG K [v] H Q :=
  ⟨d, q.z, okD_show d h.1, by have := h.2.1; omega, by have := okD_len d h.1; have := h.2.2; rw [szl]; omega, k⟩
/-! ### what a value is -/
def isTrD : PyData → Bool
  | .str z => isTr z.cps.toList
  | _ => false
def isAdD : PyData → Bool
  | .str z => isAd z.cps.toList
  | _ => false
abbrev cL : List Nat := [108, 101, 102, 116]
abbrev cR : List Nat := [114, 105, 103, 104, 116]
def isStepD : PyData → Bool
  | .tuple [.str w, x] => (decide (w = S cL) || decide (w = S cR)) && isAdD x
  | _ => false
def isScrD : PyData → Bool
  | .list ds => ds.all isStepD
  | _ => false
/-- a step: to the right or not, its address -/
abbrev Stp : Type := Bool × List Nat
namespace Stp
def w (s : Stp) : List Nat := if s.1 then cR else cL
def d (s : Stp) : PyData := .tuple [.str (S s.w), .str (S s.2)]
def fl (s : Stp) : Stp := (!s.1, s.2)
end Stp
def adS (ss : List Stp) : Prop := ∀ s ∈ ss, isAd s.2 = true
theorem isAdD_S {z : List Nat} : isAdD (.str (S z)) = isAd z := by simp only [isAdD, S_cps]
theorem isTrD_S {z : List Nat} : isTrD (.str (S z)) = isTr z := by simp only [isTrD, S_cps]
theorem isStep_d {s : Stp} (h : isAd s.2 = true) : isStepD s.d = true := by
  obtain ⟨b, z⟩ := s
  cases b <;> simp [Stp.d, Stp.w, isStepD, isAdD_S] <;> exact h
theorem isStep_of {d : PyData} (h : isStepD d = true) : ∃ s : Stp, isAd s.2 = true ∧ d = s.d := by
  unfold isStepD at h
  split at h
  · rename_i w x
    simp only [Bool.and_eq_true, Bool.or_eq_true, decide_eq_true_eq] at h
    obtain ⟨h1, h2⟩ := h
    cases x with
    | str z =>
      obtain ⟨l, rfl⟩ := S_def z
      rw [isAdD_S] at h2
      rcases h1 with rfl | rfl
      · exact ⟨(false, l), h2, rfl⟩
      · exact ⟨(true, l), h2, rfl⟩
    | _ => cases h2
  · cases h
theorem isScr_d {ss : List Stp} (h : adS ss) : isScrD (.list (ss.map Stp.d)) = true := by
  simp only [isScrD, List.all_map, List.all_eq_true]
  exact fun s hs => isStep_d (h s hs)
theorem steps_of : ∀ {ds : List PyData}, ds.all isStepD = true → ∃ ss : List Stp, adS ss ∧ ds = ss.map Stp.d
  | [], _ => ⟨[], (fun s hs => (by cases hs)), rfl⟩
  | d :: ds, h => by
    simp only [List.all_cons, Bool.and_eq_true] at h
    obtain ⟨s, h1, rfl⟩ := isStep_of h.1
    obtain ⟨ss, h2, rfl⟩ := steps_of h.2
    exact ⟨s :: ss, fun x hx => (List.mem_cons.mp hx).elim (fun z => z ▸ h1) (h2 x), rfl⟩
theorem isScr_of {d : PyData} (h : isScrD d = true) : ∃ ss : List Stp, adS ss ∧ d = .list (ss.map Stp.d) := by
  cases d with
  | list ds =>
    obtain ⟨ss, h1, rfl⟩ := steps_of h
    exact ⟨ss, h1, rfl⟩
  | _ => cases h
theorem Stp.w_len (s : Stp) : s.w.length ≤ 5 := by obtain ⟨b, z⟩ := s; cases b <;> simp [Stp.w]
theorem Stp.w_okc (s : Stp) : okc s.w := by obtain ⟨b, z⟩ := s; cases b <;> (intro c hc; simp [Stp.w] at hc; omega)
theorem isAd_ok {z : List Nat} (h : isAd z = true) : okc z := fun c hc => by
  unfold isAd at h
  have := of_decide_eq_true h c hc
  omega
theorem Stp.ok {s : Stp} (h : isAd s.2 = true) (l : s.2.length ≤ 1000000) : okD s.d = true := by
  show (okD (.str (S s.w)) && (okD (.str (S s.2)) && true)) = true
  rw [Bool.and_true, Bool.and_eq_true]
  refine ⟨?_, ?_⟩
  · exact okD_str.mpr ⟨by have := s.w_len; omega, s.w_okc⟩
  · exact okD_str.mpr ⟨l, isAd_ok h⟩
theorem Stp.wt_le (s : Stp) : wt s.d ≤ 10 * s.2.length + 61 := by
  have := s.w_len
  simp only [Stp.d, wt, wts, S_len]; omega
theorem steps_ok : ∀ {ss : List Stp}, adS ss → (∀ s ∈ ss, s.2.length ≤ 1000000) → okDs (ss.map Stp.d) = true := fun {ss} h l => okDs_mem.mpr fun d hd => by
  obtain ⟨s, hs, rfl⟩ := List.mem_map.mp hd
  exact Stp.ok (h s hs) (l s hs)
theorem steps_wt {n : Nat} : ∀ {ss : List Stp}, (∀ s ∈ ss, s.2.length ≤ n) → wts (ss.map Stp.d) ≤ ss.length * (10 * n + 63)
  | [], _ => by simp [wts]
  | s :: ss, h => by
    have h1 := s.wt_le
    have h2 := h s List.mem_cons_self
    have h3 := steps_wt (ss := ss) fun x hx => h x (List.mem_cons_of_mem _ hx)
    simp only [List.map_cons, wts, List.length_cons, Nat.add_mul, Nat.one_mul]
    omega
theorem steps_dep : ∀ ss : List Stp, PyData.depthAll (ss.map Stp.d) ≤ 1
  | [] => by simp [PyData.depthAll]
  | s :: ss => by
    have := steps_dep ss
    simp only [List.map_cons, PyData.depthAll, Stp.d, PyData.depth]
    omega
theorem steps_nod : ∀ ss : List Stp, PyData.hasDictAll (ss.map Stp.d) = false
  | [] => rfl
  | s :: ss => by simp only [List.map_cons, PyData.hasDictAll, Stp.d, PyData.hasDict, steps_nod ss, Bool.or_self]
theorem steps_gd {n : Nat} {ss : List Stp} (h : adS ss) (l : ∀ s ∈ ss, s.2.length ≤ n) (hn : n ≤ 1000000) (m : Nat) (hm : ss.length * (10 * n + 63) + 3 ≤ m) : Gd m (.list (ss.map Stp.d)) := by
  refine ⟨by simpa only [okD] using steps_ok h fun s hs => by have := l s hs; omega, ?_, ?_⟩
  · have := steps_dep ss
    simp only [PyData.depth]; omega
  · have := steps_wt l
    simp only [wt]; omega
theorem Stp.d_inj {s t : Stp} : s.d = t.d ↔ s = t := by
  constructor
  · intro h
    obtain ⟨b, z⟩ := s
    obtain ⟨c, y⟩ := t
    simp only [Stp.d, PyData.tuple.injEq, List.cons.injEq, PyData.str.injEq, S_inj, and_true, Stp.w] at h
    obtain ⟨h1, h2⟩ := h
    subst h2
    cases b <;> cases c <;> first | rfl | simp at h1
  · rintro rfl; rfl
theorem Stp.eqv (s t : Stp) : PyData.eqv s.d t.d = decide (s = t) := by
  have e : decide (s = t) = (decide (s.w = t.w) && decide (s.2 = t.2)) := by
    obtain ⟨b, z⟩ := s
    obtain ⟨c, y⟩ := t
    cases b <;> cases c <;> simp [Stp.w]
  rw [e]
  simp only [Stp.d, PyData.eqv, PyData.eqvAll, Bool.and_true]
  simp only [← S_eq]
  congr 1
theorem steps_eqv : ∀ a b : List Stp, PyData.eqvAll (a.map Stp.d) (b.map Stp.d) = decide (a = b)
  | [], [] => rfl
  | [], _ :: _ => rfl
  | _ :: _, [] => rfl
  | s :: a, t :: b => by
    simp only [List.map_cons, PyData.eqvAll, Stp.eqv, steps_eqv a b]
    simp only [List.cons.injEq, Bool.decide_and]
theorem steps_lay : ∀ {ss : List Stp}, adS ss → PyData.canLayAll0 (ss.map Stp.d) = true
  | [], _ => rfl
  | s :: ss, h => by
    have h1 := okS (s.w_okc)
    have h2 := okS (isAd_ok (h s List.mem_cons_self))
    simp only [List.map_cons, PyData.canLayAll0, Stp.d, PyData.canLay0, h1, h2, steps_lay fun x hx => h x (List.mem_cons_of_mem _ hx), Bool.and_self]
/-- two scripts compared -/
theorem eq_steps {K : PySem.W.Frag} {neg : Bool} {H : Hp} {Q : VK} {m m' : List Addr} {v w : V} {a b : List Stp} (h1 : Dq K H m v (.list (a.map Stp.d))) (h2 : Dq K H m' w (.list (b.map Stp.d))) (oa : adS a) (ob : adS b) (k : Q (.bl (if neg then !decide (a = b) else decide (a = b))) H) : rEqW K neg v w H Q :=
  ⟨_, _, h1.dp (by simpa only [PyData.hasDict] using steps_nod a), h2.dp (by simpa only [PyData.hasDict] using steps_nod b), by simpa only [PyData.canLay0] using steps_lay oa, by simpa only [PyData.canLay0] using steps_lay ob, by
    have := steps_dep a
    simp only [PyData.depth]; omega, by simpa only [PyData.eqv, steps_eqv] using k⟩
end M

/-! ### a value that may grow, if it is a list -/
namespace M
open PySem PySem.Spec PyProof.Rows L2
abbrev mor : List Nat := [109, 111, 114, 101]
def moreD : PyData → PyData
  | .list ds => .list (ds ++ [.str (S mor)])
  | d => d
/-- the list that changes, if one does -/
def mvd : V → PyData → List Addr
  | x, .list _ => rf x
  | _, _ => []
/-- x is the data d, and no list in it but itself stands where x does -/
def Gr (K : PySem.W.Frag) (H : Hp) (x : V) (d : PyData) : Prop := (∃ a xs ds, x = .ref a ∧ d = .list ds ∧ H a = some (.lst xs) ∧ DqA K H [a] xs ds) ∨ ((∀ ds, d ≠ .list ds) ∧ Dq K H [] x d)
theorem Gr.dq {K : PySem.W.Frag} {H : Hp} {x : V} {d : PyData} (h : Gr K H x d) : Dq K H [] x d := by
  rcases h with ⟨a, xs, ds, rfl, rfl, h1, h2⟩ | ⟨_, h⟩
  · exact .L h1 (by simp) h2.z
  · exact h
theorem Gr.ex {K : PySem.W.Frag} {H H' : Hp} {x : V} {d : PyData} (e : Ex H H') (h : Gr K H x d) : Gr K H' x d := by
  rcases h with ⟨a, xs, ds, rfl, rfl, h1, h2⟩ | ⟨h1, h⟩
  · exact .inl ⟨a, xs, ds, rfl, rfl, e _ _ h1, h2.ex e⟩
  · exact .inr ⟨h1, h.ex e⟩
theorem mvd_mem {x : V} {d : PyData} {a : Addr} (h : a ∈ mvd x d) : x = .ref a ∧ ∃ ds, d = .list ds := by
  unfold mvd at h
  split at h
  · exact ⟨rf_mem.mp h, _, rfl⟩
  · cases h
theorem mvd_list {a : Addr} {ds : List PyData} : mvd (.ref a) (.list ds) = [a] := rfl
theorem mvd_no {x : V} {d : PyData} (h : ∀ ds, d ≠ .list ds) : mvd x d = [] := by
  unfold mvd
  split
  · exact absurd rfl (h _)
  · rfl
theorem moreD_no {d : PyData} (h : ∀ ds, d ≠ .list ds) : moreD d = d := by
  unfold moreD
  split
  · exact absurd rfl (h _)
  · rfl
/-- a list's copy -/
theorem Gr.lst {K : PySem.W.Frag} {H : Hp} {a : Addr} {xs : List V} {ds : List PyData} (h : H a = some (.lst xs)) (q : DqA K H [a] xs ds) : Gr K H (.ref a) (.list ds) := .inl ⟨a, xs, ds, rfl, rfl, h, q⟩
/-- the same, nothing of it at M -/
def Gm (K : PySem.W.Frag) (H : Hp) (M : List Addr) (x : V) (d : PyData) : Prop := (∃ a xs ds, x = .ref a ∧ d = .list ds ∧ H a = some (.lst xs) ∧ a ∉ M ∧ DqA K H (a :: M) xs ds) ∨ ((∀ ds, d ≠ .list ds) ∧ Dq K H M x d)
theorem Gm.gr {K : PySem.W.Frag} {H : Hp} {M : List Addr} {x : V} {d : PyData} (h : Gm K H M x d) : Gr K H x d := by
  rcases h with ⟨a, xs, ds, rfl, rfl, h1, _, h2⟩ | ⟨h1, h⟩
  · exact .inl ⟨a, xs, ds, rfl, rfl, h1, h2.more fun b hb => .inl (by rw [List.mem_singleton.mp hb]; exact List.mem_cons_self)⟩
  · exact .inr ⟨h1, h.z⟩
theorem Gm.fm {K : PySem.W.Frag} {H H' : Hp} {M : List Addr} {x : V} {d : PyData} (f : Fm M H H') (h : Gm K H M x d) : Gm K H' M x d := by
  rcases h with ⟨a, xs, ds, rfl, rfl, h1, hn, h2⟩ | ⟨h1, h⟩
  · exact .inl ⟨a, xs, ds, rfl, rfl, f _ _ hn h1, hn, h2.fm (f.mono fun b hb => List.mem_cons_of_mem _ hb)⟩
  · exact .inr ⟨h1, h.fm f⟩
theorem Gm.ex {K : PySem.W.Frag} {H H' : Hp} {M : List Addr} {x : V} {d : PyData} (e : Ex H H') (h : Gm K H M x d) : Gm K H' M x d := h.fm (Fm.ex e)
theorem Gm.dq {K : PySem.W.Frag} {H : Hp} {M : List Addr} {x : V} {d : PyData} (h : Gm K H M x d) : Dq K H M x d := by
  rcases h with ⟨a, xs, ds, rfl, rfl, h1, hn, h2⟩ | ⟨h1, h⟩
  · exact .L h1 hn (h2.more fun b hb => .inl (List.mem_cons_of_mem _ hb))
  · exact h
theorem okDs_app : ∀ {a b : List PyData}, okDs (a ++ b) = (okDs a && okDs b)
  | [], b => by simp [okDs]
  | x :: a, b => by simp only [List.cons_append, okDs, okDs_app, Bool.and_assoc]
theorem wts_app : ∀ {a b : List PyData}, wts (a ++ b) = wts a + wts b
  | [], b => by simp [wts]
  | x :: a, b => by simp only [List.cons_append, wts, wts_app]; omega
theorem dep_app : ∀ {a b : List PyData}, PyData.depthAll (a ++ b) = max (PyData.depthAll a) (PyData.depthAll b)
  | [], b => by simp [PyData.depthAll]
  | x :: a, b => by simp only [List.cons_append, PyData.depthAll, dep_app, Nat.max_assoc]
theorem Gd.more {n : Nat} {d : PyData} (h : Gd n d) : Gd (n + 50) (moreD d) := by
  obtain ⟨h1, h2, h3⟩ := h
  cases d with
  | list ds =>
    refine ⟨?_, ?_, ?_⟩
    · simp only [moreD, okD, okDs_app, okDs, Bool.and_true, Bool.and_eq_true] at h1 ⊢
      exact ⟨h1, by simpa only [okD, Bool.and_eq_true] using (okD_str (z := mor)).mpr ⟨by decide, by show ∀ c ∈ _, c < 1114112; decide⟩⟩
    · simp only [moreD, PyData.depth, dep_app, PyData.depthAll] at h2 ⊢
      omega
    · simp only [moreD, wt, wts_app, wts, S_len] at h3 ⊢
      simp only [List.length_cons, List.length_nil]
      omega
  | _ => exact ⟨h1, h2, by simp only [moreD]; omega⟩
/-- data that stand, nothing of them at g -/
def DL (K : PySem.W.Frag) (H : Hp) (g : Addr) (l : List (V × PyData)) : Prop := H g ≠ none ∧ ∀ x ∈ l, Dq K H [g] x.1 x.2
theorem DL.nil {K : PySem.W.Frag} {H : Hp} {g : Addr} (h : H g ≠ none) : DL K H g [] := ⟨h, fun x hx => by cases hx⟩
theorem DL.ex {K : PySem.W.Frag} {H H' : Hp} {g : Addr} {l : List (V × PyData)} (h : DL K H g l) (e : Ex H H') : DL K H' g l := by
  refine ⟨?_, fun x hx => (h.2 x hx).ex e⟩
  obtain ⟨o, ho⟩ := Option.ne_none_iff_exists'.mp h.1
  rw [e _ _ ho]; simp
theorem DL.fm {K : PySem.W.Frag} {H H' : Hp} {g : Addr} {l : List (V × PyData)} (h : DL K H g l) (f : Fm [g] H H') (hg : H' g ≠ none) : DL K H' g l := ⟨hg, fun x hx => (h.2 x hx).fm f⟩
theorem DL.cons {K : PySem.W.Frag} {H : Hp} {g : Addr} {l : List (V × PyData)} {v : V} {d : PyData} (h : DL K H g l) (q : Dq K H [g] v d) : DL K H g ((v, d) :: l) := ⟨h.1, fun x hx => by
  rcases List.mem_cons.mp hx with rfl | hx
  · exact q
  · exact h.2 x hx⟩
theorem DL.ne {K : PySem.W.Frag} {H : Hp} {g p : Addr} {l : List (V × PyData)} (h : DL K H g l) (hp : H p = none) : p ∉ [g] := by
  rw [List.mem_singleton]; exact fun z => h.1 (z ▸ hp)
theorem DL.lst {K : PySem.W.Frag} {H : Hp} {g p : Addr} {l : List (V × PyData)} {xs : List V} {ds : List PyData} (h : DL K H g l) (hp : H p = none) (q : DqA K H [g] xs ds) : DL K (upd H p (.lst xs)) g ((.ref p, .list ds) :: l) :=
  (h.ex (Ex.new hp)).cons (.L upd_same (h.ne hp) (q.ex (Ex.new hp)))
theorem DL.tup {K : PySem.W.Frag} {H : Hp} {g p : Addr} {l : List (V × PyData)} {xs : List V} {ds : List PyData} (h : DL K H g l) (hp : H p = none) (q : DqA K H [g] xs ds) : DL K (upd H p (.tup xs)) g ((.ref p, .tuple ds) :: l) :=
  (h.ex (Ex.new hp)).cons (.T upd_same (h.ne hp) (q.ex (Ex.new hp)))
theorem DL.dct {K : PySem.W.Frag} {H : Hp} {g p : Addr} {l : List (V × PyData)} (h : DL K H g l) (hp : H p = none) : DL K (upd H p (.dK [])) g ((.ref p, .dict []) :: l) :=
  (h.ex (Ex.new hp)).cons (.dct upd_same (h.ne hp) rfl)
theorem DL.at {K : PySem.W.Frag} {H : Hp} {g : Addr} {l : List (V × PyData)} (h : DL K H g l) (i : Nat) {v : V} {d : PyData} (hi : l[i]? = some (v, d)) : Dq K H [g] v d := h.2 (v, d) (List.mem_of_getElem? hi)
end M

/-! ### a text read into nested pairs: the open parts, the inmost first -/
namespace M
open PySem PySem.Spec PyProof.Rows L2
def rtStep : List (List Tr) → Nat → Option (List (List Tr))
  | [], _ => none
  | top :: rest, c => if c = 40 then some ([] :: top :: rest) else if c = 46 then some ((top ++ [.lf]) :: rest) else if c = 41 then (match top, rest with
    | [a, b], up :: r => some ((up ++ [.nd a b]) :: r)
    | _, _ => none) else none
def rtRun : List (List Tr) → List Nat → Option (List (List Tr))
  | st, [] => some st
  | st, c :: r => (rtStep st c).bind fun st' => rtRun st' r
theorem rtStep_cons (top : List Tr) (rest : List (List Tr)) (c : Nat) : rtStep (top :: rest) c = if c = 40 then some ([] :: top :: rest) else if c = 46 then some ((top ++ [.lf]) :: rest) else if c = 41 then (match top, rest with
    | [a, b], up :: r => some ((up ++ [.nd a b]) :: r)
    | _, _ => none) else none := rfl
theorem rt_tree : ∀ (t : Tr) (top : List Tr) (rest : List (List Tr)) (z : List Nat), rtRun (top :: rest) (t.s ++ z) = rtRun ((top ++ [t]) :: rest) z
  | .lf, top, rest, z => by simp [Tr.s, rtRun, rtStep]
  | .nd a b, top, rest, z => by
    show (rtStep (top :: rest) 40).bind (fun st' => rtRun st' ((a.s ++ (b.s ++ [41])) ++ z)) = _
    have e : rtStep (top :: rest) 40 = some ([] :: top :: rest) := by simp [rtStep]
    rw [e]
    show rtRun ([] :: top :: rest) ((a.s ++ (b.s ++ [41])) ++ z) = _
    rw [List.append_assoc, List.append_assoc, rt_tree a, rt_tree b]
    show (rtStep _ 41).bind (fun st' => rtRun st' z) = _
    have e2 : rtStep ((([] ++ [a]) ++ [b]) :: top :: rest) 41 = some ((top ++ [.nd a b]) :: rest) := by simp [rtStep]
    rw [e2]; rfl
def catT (l : List Tr) : List Nat := l.flatMap Tr.s
def unp : List (List Tr) → List Nat
  | [] => []
  | [l] => catT l
  | top :: r => unp r ++ 40 :: catT top
theorem unp_top (top : List Tr) (t : Tr) (rest : List (List Tr)) : unp ((top ++ [t]) :: rest) = unp (top :: rest) ++ t.s := by
  cases rest with
  | nil => simp [unp, catT]
  | cons a r => simp [unp, catT]
theorem rt_unp {st st' : List (List Tr)} {c : Nat} (h : rtStep st c = some st') : unp st' = unp st ++ [c] := by
  cases st with
  | nil => cases h
  | cons top rest =>
    rw [rtStep_cons] at h
    split at h
    · rename_i e; cases h; subst e; simp [unp, catT]
    · split at h
      · rename_i e; cases h; subst e; rw [unp_top]; rfl
      · split at h
        · rename_i e
          subst e
          split at h
          · cases h
            rw [unp_top]
            simp [unp, catT, Tr.s]
          · cases h
        · cases h
theorem rt_unpR : ∀ (z : List Nat) (st st' : List (List Tr)), rtRun st z = some st' → unp st' = unp st ++ z
  | [], st, st', h => by cases h; simp
  | c :: z, st, st', h => by
    have h' : (rtStep st c).bind (fun s => rtRun s z) = some st' := h
    cases e : rtStep st c with
    | none => rw [e] at h'; cases h'
    | some s =>
      rw [e] at h'
      rw [rt_unpR z s st' h', rt_unp e]
      simp
theorem rt_yes (t : Tr) : rtRun [[]] t.s = some [[t]] := by
  have := rt_tree t [] [] []
  simpa [rtRun] using this
theorem rt_back {z : List Nat} {t : Tr} (h : rtRun [[]] z = some [[t]]) : z = t.s := by
  have := rt_unpR z _ _ h
  simpa [unp, catT] using this.symm
theorem rt_ne {st st' : List (List Tr)} {c : Nat} (h : rtStep st c = some st') : st' ≠ [] := by
  cases st with
  | nil => cases h
  | cons top rest =>
    rw [rtStep_cons] at h
    split at h
    · cases h; simp
    · split at h
      · cases h; simp
      · split at h
        · split at h
          · cases h; simp
          · cases h
        · cases h
/-! the heap of the open parts -/
inductive NsA (K : PySem.W.Frag) (H : Hp) : List V → List Tr → Prop
  | nil : NsA K H [] []
  | cons {v : V} {t : Tr} {vs : List V} {ts : List Tr} : Nst K H v t → NsA K H vs ts → NsA K H (v :: vs) (t :: ts)
theorem NsA.nl {K : PySem.W.Frag} {H H' : Hp} (e : Nl H H') {vs : List V} {ts : List Tr} (h : NsA K H vs ts) : NsA K H' vs ts := by
  induction h with
  | nil => exact .nil
  | cons h _ ih => exact .cons (h.nl e) ih
theorem NsA.app {K : PySem.W.Frag} {H : Hp} {vs ws : List V} {ts us : List Tr} (h : NsA K H vs ts) (g : NsA K H ws us) : NsA K H (vs ++ ws) (ts ++ us) := by
  induction h with
  | nil => exact g
  | cons h _ ih => exact .cons h ih
theorem NsA.len {K : PySem.W.Frag} {H : Hp} {vs : List V} {ts : List Tr} (h : NsA K H vs ts) : vs.length = ts.length := by
  induction h with
  | nil => rfl
  | cons h _ ih => simp [ih]
inductive StA (K : PySem.W.Frag) (H : Hp) : List Addr → List (List Tr) → Prop
  | nil : StA K H [] []
  | cons {p : Addr} {ps : List Addr} {vs : List V} {l : List Tr} {st : List (List Tr)} : H p = some (.lst vs) → NsA K H vs l → StA K H ps st → StA K H (p :: ps) (l :: st)
theorem StA.len {K : PySem.W.Frag} {H : Hp} {ps : List Addr} {st : List (List Tr)} (h : StA K H ps st) : ps.length = st.length := by
  induction h with
  | nil => rfl
  | cons h _ _ ih => simp [ih]
theorem StA.keep {K : PySem.W.Frag} {H H' : Hp} (e : Nl H H') {ps : List Addr} {st : List (List Tr)} (f : ∀ p ∈ ps, ∀ o, H p = some o → H' p = some o) (h : StA K H ps st) : StA K H' ps st := by
  induction h with
  | nil => exact .nil
  | cons h n _ ih => exact .cons (f _ List.mem_cons_self _ h) (n.nl e) (ih fun p hp => f p (List.mem_cons_of_mem _ hp))
structure Rt (K : PySem.W.Frag) (H0 H : Hp) (o : Addr) (ps : List Addr) (st : List (List Tr)) : Prop where
  ex : Ex H0 H
  ho : H o = some (.lst (ps.reverse.map V.ref))
  n0 : H0 o = none
  nd : ps.Nodup
  no : o ∉ ps
  np : ∀ p ∈ ps, H0 p = none
  sa : StA K H ps st
theorem Rt.new {K : PySem.W.Frag} {H0 H : Hp} {o : Addr} {ps : List Addr} {st : List (List Tr)} (r : Rt K H0 H o ps st) {q : Addr} {x : HO} (h : H q = none) : Rt K H0 (upd H q x) o ps st :=
  ⟨r.ex.push h, Ex.new h _ _ r.ho, r.n0, r.nd, r.no, r.np, r.sa.keep (Nl.new h) fun p _ o ho => Ex.new h _ _ ho⟩
theorem Rt.top {K : PySem.W.Frag} {H0 H : Hp} {o p : Addr} {ps : List Addr} {l : List Tr} {st : List (List Tr)} (r : Rt K H0 H o (p :: ps) (l :: st)) : ∃ vs, H p = some (.lst vs) ∧ NsA K H vs l := by
  cases r.sa with
  | cons h n _ => exact ⟨_, h, n⟩
/-- the inmost open part gets one more -/
theorem Rt.put {K : PySem.W.Frag} {H0 H : Hp} {o p : Addr} {ps : List Addr} {l : List Tr} {st : List (List Tr)} {vs : List V} {v : V} {t : Tr} (r : Rt K H0 H o (p :: ps) (l :: st)) (hp : H p = some (.lst vs)) (hv : Nst K H v t) : Rt K H0 (upd H p (.lst (vs ++ [v]))) o (p :: ps) ((l ++ [t]) :: st) := by
  have op : o ≠ p := fun z => r.no (by rw [z]; exact List.mem_cons_self)
  have e : Nl H (upd H p (.lst (vs ++ [v]))) := Nl.mut hp
  refine ⟨r.ex.mut (r.np p List.mem_cons_self), (upd_ne op).trans r.ho, r.n0, r.nd, r.no, r.np, ?_⟩
  cases r.sa with
  | cons h n s =>
    rw [hp] at h
    cases h
    refine .cons upd_same (NsA.app (n.nl e) (.cons (hv.nl e) .nil)) (s.keep e fun q hq o ho => ?_)
    have : q ≠ p := fun z => (List.nodup_cons.mp r.nd).1 (z ▸ hq)
    exact (upd_ne this).trans ho
/-- one more open part -/
theorem Rt.open_ {K : PySem.W.Frag} {H0 H : Hp} {o q : Addr} {ps : List Addr} {st : List (List Tr)} (r : Rt K H0 H o ps st) (h : H q = none) : Rt K H0 (upd (upd H q (.lst [])) o (.lst (ps.reverse.map V.ref ++ [.ref q]))) o (q :: ps) ([] :: st) := by
  have r1 := r.new (x := .lst []) h
  have qo : q ≠ o := fun z => by rw [z, r.ho] at h; cases h
  have qp : q ∉ ps := fun hq => by
    have : ∀ {ps : List Addr} {st : List (List Tr)}, StA K H ps st → q ∈ ps → False := fun {ps st} s => by
      induction s with
      | nil => intro z; cases z
      | cons a _ _ ih =>
        intro z
        rcases List.mem_cons.mp z with e | z
        · rw [← e, h] at a; cases a
        · exact ih z
    exact this r.sa hq
  have e : Nl (upd H q (.lst [])) (upd (upd H q (.lst [])) o (.lst (ps.reverse.map V.ref ++ [.ref q]))) := Nl.mut r1.ho
  refine ⟨r1.ex.mut r.n0, by rw [upd_same]; simp, r.n0, List.nodup_cons.mpr ⟨qp, r.nd⟩, ?_, ?_, .cons ((upd_ne qo).trans upd_same) .nil (r1.sa.keep e fun p hp x hx => ?_)⟩
  · intro z
    rcases List.mem_cons.mp z with e | z
    · exact qo e.symm
    · exact r.no z
  · intro p hp
    rcases List.mem_cons.mp hp with rfl | hp
    · exact r.ex.free h
    · exact r.np p hp
  · have : p ≠ o := fun z => r.no (z ▸ hp)
    exact (upd_ne this).trans hx
/-- the inmost open part is taken off -/
theorem Rt.pop {K : PySem.W.Frag} {H0 H : Hp} {o p : Addr} {ps : List Addr} {l : List Tr} {st : List (List Tr)} (r : Rt K H0 H o (p :: ps) (l :: st)) : Rt K H0 (upd H o (.lst (ps.reverse.map V.ref))) o ps st := by
  have e : Nl H (upd H o (.lst (ps.reverse.map V.ref))) := Nl.mut r.ho
  refine ⟨r.ex.mut r.n0, upd_same, r.n0, (List.nodup_cons.mp r.nd).2, fun z => r.no (List.mem_cons_of_mem _ z), fun q hq => r.np q (List.mem_cons_of_mem _ hq), ?_⟩
  cases r.sa with
  | cons h n s => exact s.keep e fun q hq x hx => (upd_ne (fun z => r.no (by rw [← z]; exact List.mem_cons_of_mem _ hq))).trans hx
end M

/-! ### heights and leans -/
namespace M
open PySem PySem.Spec PyProof.Rows L2
namespace Tr
def meas : Tr → List Int → Int × List Int
  | .lf, row => (row.headD 0, [])
  | .nd a b, row => (1 + max (a.meas (row.take (a.n + 1))).1 (b.meas (row.drop (a.n + 1))).1, (a.meas (row.take (a.n + 1))).2 ++ ([(a.meas (row.take (a.n + 1))).1 - (b.meas (row.drop (a.n + 1))).1] ++ (b.meas (row.drop (a.n + 1))).2))
theorem meas_len : ∀ (t : Tr) (row : List Int), (t.meas row).2.length = t.n
  | .lf, _ => rfl
  | .nd a b, row => by
    simp only [meas, n, List.length_append, List.length_singleton, meas_len a, meas_len b]; omega
def evn (t : Tr) (row : List Int) (s : Int) : Bool := (t.meas row).2.all fun d => decide ((d.natAbs : Int) ≤ s)
end Tr
/-- the fewest nodes by heights -/
def nup (s : Nat) : Nat → List Nat
  | 0 => [0]
  | n + 1 => nup s n ++ [1 + (nup s n).getD n 0 + (nup s n).getD (n - s) 0]
def least (s n : Nat) : Nat := (nup s n).getD n 0
theorem nup_len (s : Nat) : ∀ n, (nup s n).length = n + 1
  | 0 => rfl
  | n + 1 => by simp [nup, nup_len s n]
theorem nup_get (s : Nat) : ∀ n i, i ≤ n → (nup s n).getD i 0 = least s i
  | 0, i, h => by obtain rfl : i = 0 := by omega
                  rfl
  | n + 1, i, h => by
    by_cases e : i = n + 1
    · subst e; rfl
    · have := nup_get s n i (by omega)
      rw [← this, nup, List.getD_eq_getElem?_getD, List.getD_eq_getElem?_getD, List.getElem?_append_left (by rw [nup_len]; omega)]
      first | rfl | simp [List.getD_eq_getElem?_getD]
theorem least_succ (s n : Nat) : least s (n + 1) = 1 + least s n + least s (n - s) := by
  have e : least s (n + 1) = 1 + (nup s n).getD n 0 + (nup s n).getD (n - s) 0 := by
    unfold least
    rw [nup, List.getD_eq_getElem?_getD, List.getElem?_append_right (by rw [nup_len]; exact Nat.le_refl _), nup_len]
    simp
  rw [e, nup_get s n n (Nat.le_refl _), nup_get s n (n - s) (by omega)]
theorem least_zero (s : Nat) : least s 0 = 0 := rfl
theorem least_le (s : Nat) : ∀ n, least s n ≤ least s (n + 1) := fun n => by rw [least_succ]; omega
theorem least_mono (s : Nat) {m n : Nat} (h : m ≤ n) : least s m ≤ least s n := by
  induction h with
  | refl => exact Nat.le_refl _
  | step _ ih => exact Nat.le_trans ih (least_le s _)
theorem nup_at (s n i : Nat) (h : i ≤ n) : atI ((nup s n).map fun (k : Nat) => V.int (k : Int)) (i : Int) = some (.int (least s i : Int)) := by
  rw [aI_nat, List.getElem?_map, ← nup_get s n i h, List.getD_eq_getElem?_getD, List.getElem?_eq_getElem (by rw [nup_len]; omega)]
  rfl
namespace Tr
def ht : Tr → Nat
  | .lf => 0
  | .nd a b => 1 + max a.ht b.ht
def lz : Tr → List Int
  | .lf => []
  | .nd a b => a.lz ++ ([(a.ht : Int) - (b.ht : Int)] ++ b.lz)
theorem meas_zero : ∀ t : Tr, t.meas (List.replicate (t.n + 1) 0) = ((t.ht : Int), t.lz)
  | .lf => rfl
  | .nd a b => by
    have h1 : (List.replicate (a.n + b.n + 1 + 1) (0 : Int)).take (a.n + 1) = List.replicate (a.n + 1) 0 := by rw [List.take_replicate]; congr 1; omega
    have h2 : (List.replicate (a.n + b.n + 1 + 1) (0 : Int)).drop (a.n + 1) = List.replicate (b.n + 1) 0 := by rw [List.drop_replicate]; congr 1; omega
    simp only [meas, n, h1, h2, meas_zero a, meas_zero b, ht, lz]
    congr 1
    omega
end Tr
def combL : Nat → Tr
  | 0 => .lf
  | k + 1 => .nd (combL k) .lf
def combR : Nat → Tr
  | 0 => .lf
  | k + 1 => .nd .lf (combR k)
theorem combL_n : ∀ k, (combL k).n = k
  | 0 => rfl
  | k + 1 => by show (combL k).n + 0 + 1 = k + 1; rw [combL_n k]
theorem combR_n : ∀ k, (combR k).n = k
  | 0 => rfl
  | k + 1 => by show 0 + (combR k).n + 1 = k + 1; rw [combR_n k]; omega
theorem Tr.ht_le : ∀ t : Tr, t.ht ≤ t.n
  | .lf => Nat.le_refl _
  | .nd a b => by
    have := Tr.ht_le a
    have := Tr.ht_le b
    simp only [Tr.ht, Tr.n]; omega
theorem combL_ht : ∀ k, (combL k).ht = k
  | 0 => rfl
  | k + 1 => by show 1 + max (combL k).ht 0 = k + 1; rw [combL_ht k]; omega
theorem combR_ht : ∀ k, (combR k).ht = k
  | 0 => rfl
  | k + 1 => by show 1 + max 0 (combR k).ht = k + 1; rw [combR_ht k]; omega
theorem repl0M (n : Nat) : (List.replicate n [V.int 0]).flatten = (List.replicate n (0 : Int)).map V.int := by simp
theorem eq_nilI {K : PySem.W.Frag} {H : Hp} {Q : VK} {p q : Addr} {l : List Int} (h1 : SqL K H p (l.map V.int)) (h2 : SqL K H q []) (k : Q (.bl (decide (l = []))) H) : rEqW K false (.ref p) (.ref q) H Q :=
  eq_ints (a := l) (b := []) h1 h2 k
end M

namespace Pf
open PySem PySem.Spec PyProof.Rows L2 M
def top (i : Nat) : Stmt := PySem.Challenge.pw_treeturns_k52_changes_of_height.main.body.getD i (.Pass ⟨0, 0, 0, 0⟩)
abbrev rows_OTHER_WORD : Rows := [([108, 101, 102, 116], [114, 105, 103, 104, 116]), ([114, 105, 103, 104, 116], [108, 101, 102, 116])]
abbrev rows_SIDES : Rows := [([108, 101, 102, 116], [114]), ([114, 105, 103, 104, 116], [108])]
abbrev Rw : PySem.W.OpenRow := PySem.W.OpenLaw.row PySem.Challenge.rw_treeturns_k52_changes_of_height
abbrev Pg : Program := (PySem.Challenge.rw_treeturns_k52_changes_of_height).prog
def dx_InvalidTree___init__ : DefX := ⟨("InvalidTree", some "__init__"), "__init__", "InvalidTree.__init__", defArgs (inClass (top 3) 0), defBody (inClass (top 3) 0), defScope (inClass (top 3) 0), [.non], [], ["__class__"], 0⟩
def dx_InvalidList___init__ : DefX := ⟨("InvalidList", some "__init__"), "__init__", "InvalidList.__init__", defArgs (inClass (top 4) 0), defBody (inClass (top 4) 0), defScope (inClass (top 4) 0), [.non], [], ["__class__"], 0⟩
def dx_InvalidMove___init__ : DefX := ⟨("InvalidMove", some "__init__"), "__init__", "InvalidMove.__init__", defArgs (inClass (top 6) 0), defBody (inClass (top 6) 0), defScope (inClass (top 6) 0), [.non], [], ["__class__"], 0⟩
def dx_CannotMove___init__ : DefX := ⟨("CannotMove", some "__init__"), "__init__", "CannotMove.__init__", defArgs (inClass (top 7) 0), defBody (inClass (top 7) 0), defScope (inClass (top 7) 0), [.non], [], ["__class__"], 0⟩
def dx_is_tree : DefX := ⟨("is_tree", none), "is_tree", "is_tree", defArgs (top 9), defBody (top 9), defScope (top 9), [], [], [], 0⟩
def dx_check_tree : DefX := ⟨("check_tree", none), "check_tree", "check_tree", defArgs (top 11), defBody (top 11), defScope (top 11), [], [], [], 0⟩
def dx_height : DefX := ⟨("height", none), "height", "height", defArgs (top 12), defBody (top 12), defScope (top 12), [], [], [], 0⟩
def dx_end_of : DefX := ⟨("end_of", none), "end_of", "end_of", defArgs (top 13), defBody (top 13), defScope (top 13), [], [], [], 0⟩
def dx_walked : DefX := ⟨("walked", none), "walked", "walked", defArgs (top 17), defBody (top 17), defScope (top 17), [], [], [], 0⟩
def dx_addresses_of_leaves : DefX := ⟨("addresses_of_leaves", none), "addresses_of_leaves", "addresses_of_leaves", defArgs (top 18), defBody (top 18), defScope (top 18), [], [], [], 0⟩
def dx_grown_by : DefX := ⟨("grown_by", none), "grown_by", "grown_by", defArgs (top 20), defBody (top 20), defScope (top 20), [], [], [], 0⟩
def dx_grown : DefX := ⟨("grown", none), "grown", "grown", defArgs (top 21), defBody (top 21), defScope (top 21), [], [], [], 0⟩
def dx_hung_on : DefX := ⟨("hung_on", none), "hung_on", "hung_on", defArgs (top 22), defBody (top 22), defScope (top 22), [], [], [], 0⟩
def dx_Move___init__ : DefX := ⟨("Move", some "__init__"), "__init__", "Move.__init__", defArgs (inClass (top 37) 0), defBody (inClass (top 37) 0), defScope (inClass (top 37) 0), [], [], [], 0⟩
def dx_Move_before : DefX := ⟨("Move", some "before"), "before", "Move.before", defArgs (inClass (top 37) 1), defBody (inClass (top 37) 1), defScope (inClass (top 37) 1), [], [], [], 1⟩
def dx_Move_after : DefX := ⟨("Move", some "after"), "after", "Move.after", defArgs (inClass (top 37) 2), defBody (inClass (top 37) 2), defScope (inClass (top 37) 2), [], [], [], 1⟩
def dx_Move___call__ : DefX := ⟨("Move", some "__call__"), "__call__", "Move.__call__", defArgs (inClass (top 37) 4), defBody (inClass (top 37) 4), defScope (inClass (top 37) 4), [], [], [], 0⟩
def dx_check_move : DefX := ⟨("check_move", none), "check_move", "check_move", defArgs (top 39), defBody (top 39), defScope (top 39), [], [], [], 0⟩
def dx_read_tree : DefX := ⟨("read_tree", none), "read_tree", "read_tree", defArgs (top 41), defBody (top 41), defScope (top 41), [], [], [], 0⟩
def dx_nested : DefX := ⟨("nested", none), "nested", "nested", defArgs (top 42), defBody (top 42), defScope (top 42), [], [], [], 0⟩
def dx_depths : DefX := ⟨("depths", none), "depths", "depths", defArgs (top 43), defBody (top 43), defScope (top 43), [.int 0], [], [], 0⟩
def dx_depth_pairs : DefX := ⟨("depth_pairs", none), "depth_pairs", "depth_pairs", defArgs (top 45), defBody (top 45), defScope (top 45), [], [], [], 0⟩
def dx_change : DefX := ⟨("change", none), "change", "change", defArgs (top 46), defBody (top 46), defScope (top 46), [], [], [], 0⟩
def dx__law_mixed : DefX := ⟨("_law_mixed", none), "_law_mixed", "_law_mixed", defArgs (top 48), defBody (top 48), defScope (top 48), [], [], [], 0⟩
def dx__law_purse : DefX := ⟨("_law_purse", none), "_law_purse", "_law_purse", defArgs (top 49), defBody (top 49), defScope (top 49), [], [], [], 0⟩
def dx__law_draw : DefX := ⟨("_law_draw", none), "_law_draw", "_law_draw", defArgs (top 50), defBody (top 50), defScope (top 50), [], [], [], 0⟩
def dx__law_nest : DefX := ⟨("_law_nest", none), "_law_nest", "_law_nest", defArgs (top 51), defBody (top 51), defScope (top 51), [], [], [], 0⟩
def dx__law_text : DefX := ⟨("_law_text", none), "_law_text", "_law_text", defArgs (top 52), defBody (top 52), defScope (top 52), [], [], [], 0⟩
def dx__law_depths : DefX := ⟨("_law_depths", none), "_law_depths", "_law_depths", defArgs (top 54), defBody (top 54), defScope (top 54), [], [], [], 0⟩
def dx__law_comb : DefX := ⟨("_law_comb", none), "_law_comb", "_law_comb", defArgs (top 55), defBody (top 55), defScope (top 55), [], [], [], 0⟩
def dx__law_high : DefX := ⟨("_law_high", none), "_law_high", "_law_high", defArgs (top 56), defBody (top 56), defScope (top 56), [], [], [], 0⟩
def dx__law_done : DefX := ⟨("_law_done", none), "_law_done", "_law_done", defArgs (top 57), defBody (top 57), defScope (top 57), [], [], [], 0⟩
def dx__law_right : DefX := ⟨("_law_right", none), "_law_right", "_law_right", defArgs (top 58), defBody (top 58), defScope (top 58), [], [], [], 0⟩
def dx_law : DefX := ⟨("law", none), "law", "law", defArgs (top 59), defBody (top 59), defScope (top 59), [], [], [], 0⟩
def fnL : List DefX := ([dx_InvalidTree___init__,
  dx_InvalidList___init__,
  dx_InvalidMove___init__,
  dx_CannotMove___init__,
  dx_is_tree,
  dx_check_tree,
  dx_height,
  dx_end_of,
  dx_walked,
  dx_addresses_of_leaves,
  dx_grown_by,
  dx_grown,
  dx_hung_on,
  dx_Move___init__,
  dx_Move_before,
  dx_Move_after,
  dx_Move___call__,
  dx_check_move,
  dx_read_tree,
  dx_nested,
  dx_depths,
  dx_depth_pairs,
  dx_change,
  dx__law_mixed,
  dx__law_purse] : List DefX) ++ ([dx__law_draw,
  dx__law_nest,
  dx__law_text,
  dx__law_depths,
  dx__law_comb,
  dx__law_high,
  dx__law_done,
  dx__law_right,
  dx_law] : List DefX)
def faL : List FaX := ([fun K => (He.Fa.glo "TurnError").ok K,
  fun K => (He.Fa.glo "InvalidTree").ok K,
  fun K => (He.Fa.glo "InvalidList").ok K,
  fun K => (He.Fa.glo "InvalidScript").ok K,
  fun K => (He.Fa.glo "InvalidMove").ok K,
  fun K => (He.Fa.glo "CannotMove").ok K,
  fun K => (He.Fa.glo "is_tree").ok K,
  fun K => (He.Fa.glo "check_tree").ok K,
  fun K => (He.Fa.glo "height").ok K,
  fun K => (He.Fa.glo "end_of").ok K,
  fun K => (He.Fa.glo "walked").ok K,
  fun K => (He.Fa.glo "addresses_of_leaves").ok K,
  fun K => (He.Fa.glo "grown_by").ok K,
  fun K => (He.Fa.glo "grown").ok K,
  fun K => (He.Fa.glo "hung_on").ok K] : List FaX) ++ ([fun K => (He.Fa.glo "Move").ok K,
  fun K => (He.Fa.glo "check_move").ok K,
  fun K => (He.Fa.glo "read_tree").ok K,
  fun K => (He.Fa.glo "nested").ok K,
  fun K => (He.Fa.glo "depths").ok K,
  fun K => (He.Fa.glo "depth_pairs").ok K,
  fun K => (He.Fa.glo "change").ok K,
  fun K => (He.Fa.glo "_law_mixed").ok K,
  fun K => (He.Fa.glo "_law_purse").ok K,
  fun K => (He.Fa.glo "_law_draw").ok K,
  fun K => (He.Fa.glo "_law_nest").ok K,
  fun K => (He.Fa.glo "_law_text").ok K,
  fun K => (He.Fa.glo "_law_depths").ok K,
  fun K => (He.Fa.glo "_law_comb").ok K,
  fun K => (He.Fa.glo "_law_high").ok K] : List FaX) ++ ([fun K => (He.Fa.glo "_law_done").ok K,
  fun K => (He.Fa.glo "_law_right").ok K,
  fun K => (He.Fa.glo "law").ok K,
  fun K => (He.Fa.glo "OTHER_WORD").ok K,
  fun K => He.valsB K (He.ga K "OTHER_WORD") (tabDv rows_OTHER_WORD),
  fun K => (He.Fa.glo "SIDES").ok K,
  fun K => He.valsB K (He.ga K "SIDES") (tabDv rows_SIDES),
  fun K => (He.Fa.free "isinstance").ok K,
  fun K => (He.Fa.free "str").ok K,
  fun K => (He.Fa.free "max").ok K,
  fun K => (He.Fa.free "len").ok K,
  fun K => (He.Fa.free "enumerate").ok K,
  fun K => (He.Fa.free "list").ok K,
  fun K => (He.Fa.free "tuple").ok K,
  fun K => (He.Fa.free "zip").ok K] : List FaX) ++ ([fun K => (He.Fa.free "min").ok K,
  fun K => (He.Fa.free "int").ok K,
  fun K => (He.Fa.free "sum").ok K,
  fun K => (He.Fa.free "range").ok K,
  fun K => (He.Fa.free "repr").ok K,
  fun K => smB K,
  fun K => exB Pg "InvalidTree" "value" K,
  fun K => exB Pg "InvalidList" "value" K,
  fun K => exB Pg "InvalidMove" "value" K,
  fun K => exB Pg "CannotMove" "value" K,
  fun K => (He.Fa.cls "Move").ok K,
  fun K => (He.Fa.noat "Move" "trees").ok K,
  fun K => (He.Fa.mkr "Move").ok K,
  fun K => propB "Move" "before" K,
  fun K => callB "Move" K] : List FaX) ++ ([fun K => propB "Move" "after" K,
  fun K => decide (PySem.W.kitOne K (.ref (He.ga K "Move")) (.ref (He.ga K "Move")) = some true),
  fun K => He.eqO (PySem.W.findIn K (.ref (He.ga K "Move")) "__class__") (some (some (.builtin "object.__class__"))),
  fun K => objB "Move" K,
  fun K => (He.Fa.exm "InvalidMove" "TurnError" true).ok K,
  fun K => decide (PySem.W.kitOne K (.ref (He.ga K "InvalidMove")) (.ref (He.ga K "InvalidMove")) = some true),
  fun K => decide (PySem.W.kitOne K (.type "NoneType") (.ref (He.ga K "Move")) = some false),
  fun K => decide (PySem.W.kitOne K (.type "int") (.ref (He.ga K "Move")) = some false),
  fun K => decide (PySem.W.kitOne K (.type "bool") (.ref (He.ga K "Move")) = some false),
  fun K => decide (PySem.W.kitOne K (.type "str") (.ref (He.ga K "Move")) = some false),
  fun K => decide (PySem.W.kitOne K (.type "list") (.ref (He.ga K "Move")) = some false),
  fun K => decide (PySem.W.kitOne K (.type "tuple") (.ref (He.ga K "Move")) = some false),
  fun K => decide (PySem.W.kitOne K (.type "dict") (.ref (He.ga K "Move")) = some false)] : List FaX)
def loose : List PySem.Str := (["_wall",
  "TurnError",
  "InvalidTree",
  "InvalidList",
  "InvalidScript",
  "InvalidMove",
  "CannotMove",
  "is_tree",
  "is_address",
  "check_tree",
  "height",
  "end_of",
  "parts_of",
  "place_of",
  "part_at",
  "walked",
  "addresses_of_leaves",
  "put_at",
  "grown_by",
  "grown",
  "hung_on",
  "joined_trees",
  "is_step",
  "check_script",
  "turned_piece"] : List PySem.Str) ++ (["turned_once",
  "road_tree",
  "leaf_on",
  "sprouted",
  "least_pair",
  "pair_of",
  "Move",
  "is_at_most",
  "check_move",
  "read_tree",
  "nested",
  "depths",
  "depth_pairs",
  "change",
  "_law_mixed",
  "_law_purse",
  "_law_draw",
  "_law_nest",
  "_law_text",
  "_law_width",
  "_law_depths",
  "_law_comb",
  "_law_high",
  "_law_done",
  "_law_right"] : List PySem.Str) ++ (["OTHER_WORD",
  "SIDES"] : List PySem.Str)
def tabL : List TabX := [("OTHER_WORD", rows_OTHER_WORD), ("SIDES", rows_SIDES)]
abbrev hk : PySem.W.Hook := hookXT 5 faL fnL tabL
def ob (s : PySem.W.SharedT) : AlXT := obsXTG 5 faL fnL tabL (HandSHeadRun.getT s)
theorem ob_eq (s : PySem.W.SharedT) : ob s = hk.obs s.abs := obsXTG_eq (HandSHeadRun.getT_eq s)

set_option maxHeartbeats 0 in
theorem run_false (w : World) : HandSHeadRun.RunEq Rw (PySem.W.view Rw.prog [59]) hk ob 6000 loose (w.withFollow "special-get-raises" false) := by
  intro os
  kernel_rfl
set_option maxHeartbeats 0 in
theorem run_true (w : World) : HandSHeadRun.RunEq Rw (PySem.W.view Rw.prog [59]) hk ob 6000 loose (w.withFollow "special-get-raises" true) := by
  intro os
  kernel_rfl
theorem run (w : World) : HandSHeadRun.RunEq Rw (PySem.W.view Rw.prog [59]) hk ob 6000 loose w := PySem.W.byRow2 "special-get-raises" (P := fun w => HandSHeadRun.RunEq Rw (PySem.W.view Rw.prog [59]) hk ob 6000 loose w) run_false run_true w
end Pf
namespace Pf
open PySem PySem.Spec PyProof.Rows L2 M
@[reducible] def rd__wall_b1 (K : PySem.W.Frag) (D : Ends) (σ : Sl) (H : Hp) : Prop := (tNext : TS) D σ H
def rd__wall (K : PySem.W.Frag) : TS := (mWhile (mTest (mC (.bl true))) (rd__wall_b1 K))
abbrev N__wall : List Str := ["k"]
@[reducible] def rd_is_tree_b1 (K : PySem.W.Frag) (D : Ends) (σ : Sl) (H : Hp) : Prop := ((tIfS (mTest (tOp (mEq K) (mVar 2) (mC (.str (S [41]))))) (tSeq (tIfS (mTest (tOp (mNe K) (tSl (mSl K) (mVar 1) (mPart (mUn (fun i => -i) (mC (.int 3)))) tNoPart) (mC (.str (S [40, 46, 46]))))) (tRet (mC (.bl false))) tNext)
  (tAsg (tOp mAdd (tSl (mSl K) (mVar 1) tNoPart (mPart (mUn (fun i => -i) (mC (.int 3))))) (mC (.str (S [46])))) (gName 1))) (tIfS (mInTT false (mVar 2) (tCons (mC (.str (S [40]))) (tCons (mC (.str (S [46]))) tNil))) (tAsg (tOp mAdd (mVar 1) (mVar 2)) (gName 1)) (tRet (mC (.bl false))))) : TS) D σ H
def rd_is_tree (K : PySem.W.Frag) : TS := (tSeq (tIfS (tNot (mTest (tCB (mIsi K) (tCons (mVar 0) (tCons (mC (.ty "str")) tNil))))) (tRet (mC (.bl false))) tNext)
  (tSeq (tAsg (mC (.str (S []))) (gName 1))
  (tSeq (mFor (mIter K (mVar 0)) (gName 2) (rd_is_tree_b1 K))
  (tRet (tOp (mEq K) (mVar 1) (mC (.str (S [46]))))))))
abbrev N_is_tree : List Str := ["value", "waiting", "sign"]
def rd_is_address (K : PySem.W.Frag) : TS := (tRet (mAndV (tCB (mIsi K) (tCons (mVar 0) (tCons (mC (.ty "str")) tNil))) (tOp (mEq K) (mLc (mIter K (mVar 0)) (gName 1) (mInTT true (mVar 1) (tCons (mC (.str (S [108]))) (tCons (mC (.str (S [114]))) tNil))) (mVar 1) [1]) (tLst tNil))))
abbrev N_is_address : List Str := ["value", "letter"]
def rd_check_tree (K : PySem.W.Frag) (sp_is_tree : Sp) (a_InvalidTree : Addr) (E : XK) : TS := (tIfS (tNot (mTest (tCall sp_is_tree [] E0 (tCons (mVar 0) tNil)))) (mRaise a_InvalidTree "value" (tCons (mVar 0) tNil) E) tNext)
abbrev N_check_tree : List Str := ["value"]
def rd_height (K : PySem.W.Frag) (sp_check_tree : Sp) (sp_addresses_of_leaves : Sp) (E : XK) : TS := (tSeq (tDrop (tCall sp_check_tree [] E (tCons (mVar 0) tNil)))
  (tRet (tCB (mMaxL K) (tCons (mLc (mIter K (tCall sp_addresses_of_leaves [] E0 (tCons (mVar 0) tNil))) (gName 1) tYes (tCB (mLen K) (tCons (mVar 1) tNil)) [1]) tNil))))
abbrev N_height : List Str := ["tree", "address"]
@[reducible] def rd_end_of_b1 (K : PySem.W.Frag) (D : Ends) (σ : Sl) (H : Hp) : Prop := ((tSeq (tIfS (mTest (tOp (mEq K) (tOp (mIx K) (mVar 0) (mVar 2)) (mC (.str (S [40]))))) (tAsg (tOp mAdd (mVar 3) (mC (.int 1))) (gName 3)) (tIfS (mTest (tOp (mEq K) (tOp (mIx K) (mVar 0) (mVar 2)) (mC (.str (S [41]))))) (tAsg (tOp mSub (mVar 3) (mC (.int 1))) (gName 3)) tNext))
  (tSeq (tAsg (tOp mAdd (mVar 2) (mC (.int 1))) (gName 2))
  (tIfS (mTest (tOp (mEq K) (mVar 3) (mC (.int 0)))) (tRet (mVar 2)) tNext))) : TS) D σ H
def rd_end_of (K : PySem.W.Frag) : TS := (tSeq (tAsg (mVar 1) (gName 2))
  (tSeq (tAsg (mC (.int 0)) (gName 3))
  (mWhile (mTest (mC (.bl true))) (rd_end_of_b1 K))))
abbrev N_end_of : List Str := ["tree", "start", "at", "opened"]
def rd_parts_of (K : PySem.W.Frag) (sp_end_of : Sp) : TS := (tSeq (tAsg (tCall sp_end_of [] E0 (tCons (mVar 0) (tCons (mC (.int 1)) tNil))) (gName 1))
  (tRet (tTup (tCons (tSl (mSl K) (mVar 0) (mPart (mC (.int 1))) (mPart (mVar 1))) (tCons (tSl (mSl K) (mVar 0) (mPart (mVar 1)) (mPart (mUn (fun i => -i) (mC (.int 1))))) tNil)))))
abbrev N_parts_of : List Str := ["tree", "cut"]
@[reducible] def rd_place_of_b1 (K : PySem.W.Frag) (sp_end_of : Sp) (D : Ends) (σ : Sl) (H : Hp) : Prop := ((tSeq (tIfS (mTest (tOp (mEq K) (tOp (mIx K) (mVar 0) (mVar 2)) (mC (.str (S [46]))))) (tRet (mC .non)) tNext)
  (tSeq (mAug 2 (mC (.int 1)) iAdd)
  (tIfS (mTest (tOp (mEq K) (mVar 3) (mC (.str (S [114]))))) (tAsg (tCall sp_end_of [] E0 (tCons (mVar 0) (tCons (mVar 2) tNil))) (gName 2)) tNext))) : TS) D σ H
def rd_place_of (K : PySem.W.Frag) (sp_end_of : Sp) : TS := (tSeq (tAsg (mC (.int 0)) (gName 2))
  (tSeq (mFor (mIter K (mVar 1)) (gName 3) (rd_place_of_b1 K sp_end_of))
  (tRet (tTup (tCons (mVar 2) (tCons (tCall sp_end_of [] E0 (tCons (mVar 0) (tCons (mVar 2) tNil))) tNil))))))
abbrev N_place_of : List Str := ["tree", "address", "start", "letter"]
def rd_part_at (K : PySem.W.Frag) (sp_place_of : Sp) : TS := (tSeq (tAsg (tCall sp_place_of [] E0 (tCons (mVar 0) (tCons (mVar 1) tNil))) (gName 2))
  (tRet (tIf (mTest (tOp (mIs) (mVar 2) (mC .non))) (mC .non) (tSl (mSl K) (mVar 0) (mPart (tOp (mIx K) (mVar 2) (mC (.int 0)))) (mPart (tOp (mIx K) (mVar 2) (mC (.int 1))))))))
abbrev N_part_at : List Str := ["tree", "address", "place"]
@[reducible] def rd_walked_b1 (K : PySem.W.Frag) (D : Ends) (σ : Sl) (H : Hp) : Prop := ((tIfS (mTest (tOp (mEq K) (mVar 4) (mC (.str (S [40]))))) (tDrop (mLstM mApp (mVar 1) (tCons (mC (.str (S [108]))) tNil))) (tSeq (tIfS (mTest (tOp (mEq K) (mVar 4) (mC (.str (S [46]))))) (tDrop (mLstM mApp (mVar 2) (tCons (mStrM (mJoin K) (mC (.str (S []))) (mVar 1)) tNil))) (tDrop (mLstM mPop (mVar 1) tNil)))
  (tIfS (tAnd (mTest (tOp (mNe K) (mVar 1) (tLst tNil))) (mTest (tOp (mEq K) (tOp (mIx K) (mVar 1) (mUn (fun i => -i) (mC (.int 1)))) (mC (.str (S [108])))))) (tSeq (tDrop (mLstM mApp (mVar 3) (tCons (mStrM (mJoin K) (mC (.str (S []))) (tSl (mSl K) (mVar 1) tNoPart (mPart (mUn (fun i => -i) (mC (.int 1)))))) tNil)))
  (tAsg (mC (.str (S [114]))) (gSub (mVar 1) (mUn (fun i => -i) (mC (.int 1))) mSetL))) tNext))) : TS) D σ H
def rd_walked (K : PySem.W.Frag) : TS := (tSeq (mPar3 1 2 3 (tCons (tLst tNil) (tCons (tLst tNil) (tCons (tLst tNil) tNil))))
  (tSeq (mFor (mIter K (mVar 0)) (gName 4) (rd_walked_b1 K))
  (tRet (tTup (tCons (mVar 2) (tCons (mVar 3) tNil))))))
abbrev N_walked : List Str := ["tree", "path", "leaves_found", "nodes_found", "sign"]
def rd_addresses_of_leaves (K : PySem.W.Frag) (sp_walked : Sp) : TS := (tRet (tOp (mIx K) (tCall sp_walked [] E0 (tCons (mVar 0) tNil)) (mC (.int 0))))
abbrev N_addresses_of_leaves : List Str := ["tree"]
def rd_put_at (K : PySem.W.Frag) (sp_place_of : Sp) : TS := (tSeq (tAsg (tCall sp_place_of [] E0 (tCons (mVar 0) (tCons (mVar 1) tNil))) (mgTup K 2 (mgCons (gName 3) (mgCons (gName 4) mgNil))))
  (tRet (tOp mAdd (tOp mAdd (tSl (mSl K) (mVar 0) tNoPart (mPart (mVar 3))) (mVar 2)) (tSl (mSl K) (mVar 0) (mPart (mVar 4)) tNoPart))))
abbrev N_put_at : List Str := ["tree", "address", "other", "start", "end"]
def rd_grown_by (K : PySem.W.Frag) : TS := (tSeq (tAsg (mStrM (mSplit) (mVar 0) (mC (.str (S [46])))) (gName 2))
  (tRet (tOp mAdd (tOp (mIx K) (mVar 2) (mC (.int 0))) (mStrM (mJoin K) (mC (.str (S []))) (mLc (mEnum K (mVar 1)) (mgTup K 2 (mgCons (gName 3) (mgCons (gName 4) mgNil))) tYes (tOp mAdd (mVar 4) (tOp (mIx K) (mVar 2) (tOp mAdd (mVar 3) (mC (.int 1))))) [3, 4])))))
abbrev N_grown_by : List Str := ["tree", "trees", "pieces", "number", "other"]
def rd_grown (K : PySem.W.Frag) (sp_check_tree : Sp) (sp_is_tree : Sp) (sp_grown_by : Sp) (a_InvalidList : Addr) (E : XK) : TS := (tSeq (tDrop (tCall sp_check_tree [] E (tCons (mVar 0) tNil)))
  (tSeq (tIfS (tOr (tNot (mTest (tCB (mIsi K) (tCons (mVar 1) (tCons (mC (.ty "list")) tNil))))) (mTest (tOp (mNe K) (tCB (mLen K) (tCons (mVar 1) tNil)) (mStrM (mCount) (mVar 0) (mC (.str (S [46]))))))) (mRaise a_InvalidList "value" (tCons (mVar 1) tNil) E) tNext)
  (tSeq (tIfS (mTest (tOp (mNeE K) (mLc (mIter K (mVar 1)) (gName 2) (tNot (mTest (tCall sp_is_tree [] E0 (tCons (mVar 2) tNil)))) (mVar 2) [2]) (tLst tNil))) (mRaise a_InvalidList "value" (tCons (mVar 1) tNil) E) tNext)
  (tRet (tCall sp_grown_by [] E0 (tCons (mVar 0) (tCons (mVar 1) tNil)))))))
abbrev N_grown : List Str := ["tree", "hung", "other"]
@[reducible] def rd_hung_on_b1 (K : PySem.W.Frag) (sp_end_of : Sp) (D : Ends) (σ : Sl) (H : Hp) : Prop := ((tIfS (mTest (tOp (mEq K) (mVar 4) (mC (.str (S [46]))))) (tSeq (tAsg (tCall sp_end_of [] E0 (tCons (mVar 0) (tCons (mVar 3) tNil))) (gName 5))
  (tSeq (tAsg (tOp mAdd (mVar 2) (tLst (tCons (tSl (mSl K) (mVar 0) (mPart (mVar 3)) (mPart (mVar 5))) tNil))) (gName 2))
  (tAsg (mVar 5) (gName 3)))) (tIfS (mTest (tOp (mEq K) (tOp (mIx K) (mVar 0) (mVar 3)) (mVar 4))) (tAsg (tOp mAdd (mVar 3) (mC (.int 1))) (gName 3)) (tRet (mC .non)))) : TS) D σ H
def rd_hung_on (K : PySem.W.Frag) (sp_end_of : Sp) : TS := (tSeq (tAsg (tLst tNil) (gName 2))
  (tSeq (tAsg (mC (.int 0)) (gName 3))
  (tSeq (mFor (mIter K (mVar 1)) (gName 4) (rd_hung_on_b1 K sp_end_of))
  (tRet (mVar 2)))))
abbrev N_hung_on : List Str := ["tree", "top", "found", "at", "sign", "end"]
@[reducible] def rd_joined_trees_b1 (K : PySem.W.Frag) (sp_end_of : Sp) (D : Ends) (σ : Sl) (H : Hp) : Prop := ((tIfS (mTest (tOp (mEq K) (tOp (mIx K) (mVar 0) (mVar 3)) (mC (.str (S [46]))))) (tSeq (tAsg (tCall sp_end_of [] E0 (tCons (mVar 1) (tCons (mVar 4) tNil))) (gName 5))
  (tSeq (tAsg (tOp mAdd (mVar 2) (tSl (mSl K) (mVar 1) (mPart (mVar 4)) (mPart (mVar 5)))) (gName 2))
  (tSeq (tAsg (tOp mAdd (mVar 3) (mC (.int 1))) (gName 3))
  (tAsg (mVar 5) (gName 4))))) (tIfS (mTest (tOp (mEq K) (tOp (mIx K) (mVar 1) (mVar 4)) (mC (.str (S [46]))))) (tSeq (tAsg (tCall sp_end_of [] E0 (tCons (mVar 0) (tCons (mVar 3) tNil))) (gName 5))
  (tSeq (tAsg (tOp mAdd (mVar 2) (tSl (mSl K) (mVar 0) (mPart (mVar 3)) (mPart (mVar 5)))) (gName 2))
  (tSeq (tAsg (mVar 5) (gName 3))
  (tAsg (tOp mAdd (mVar 4) (mC (.int 1))) (gName 4))))) (tSeq (tAsg (tOp mAdd (mVar 2) (tOp (mIx K) (mVar 0) (mVar 3))) (gName 2))
  (tSeq (tAsg (tOp mAdd (mVar 3) (mC (.int 1))) (gName 3))
  (tAsg (tOp mAdd (mVar 4) (mC (.int 1))) (gName 4)))))) : TS) D σ H
def rd_joined_trees (K : PySem.W.Frag) (sp_end_of : Sp) : TS := (tSeq (tAsg (mC (.str (S []))) (gName 2))
  (tSeq (tAsg (mC (.int 0)) (gName 3))
  (tSeq (tAsg (mC (.int 0)) (gName 4))
  (tSeq (mWhile (mTest (tOp (mLt) (mVar 3) (tCB (mLen K) (tCons (mVar 0) tNil)))) (rd_joined_trees_b1 K sp_end_of))
  (tRet (mVar 2))))))
abbrev N_joined_trees : List Str := ["one", "other", "found", "at", "place", "end"]
def rd_is_step (K : PySem.W.Frag) (sp_is_address : Sp) (a_OTHER_WORD : Addr) : TS := (tSeq (tIfS (tOr (tNot (mTest (tCB (mIsi K) (tCons (mVar 0) (tCons (mC (.ty "tuple")) tNil))))) (mTest (tOp (mNe K) (tCB (mLen K) (tCons (mVar 0) tNil)) (mC (.int 2))))) (tRet (mC (.bl false))) tNext)
  (tRet (mAndV (tCB (mIsi K) (tCons (tOp (mIx K) (mVar 0) (mC (.int 0))) (tCons (mC (.ty "str")) tNil))) (mAndV (tOp (mInTab rows_OTHER_WORD a_OTHER_WORD) (tOp (mIx K) (mVar 0) (mC (.int 0))) (mC (.ref a_OTHER_WORD))) (tCall sp_is_address [] E0 (tCons (tOp (mIx K) (mVar 0) (mC (.int 1))) tNil))))))
abbrev N_is_step : List Str := ["value"]
def rd_check_script (K : PySem.W.Frag) (sp_is_step : Sp) (a_InvalidScript : Addr) (E : XK) : TS := (tIfS (tOr (tNot (mTest (tCB (mIsi K) (tCons (mVar 0) (tCons (mC (.ty "list")) tNil))))) (mTest (tOp (mNeE K) (mLc (mIter K (mVar 0)) (gName 1) (tNot (mTest (tCall sp_is_step [] E0 (tCons (mVar 1) tNil)))) (mVar 1) [1]) (tLst tNil)))) (mRaise a_InvalidScript "value" (tCons (mVar 0) tNil) E) tNext)
abbrev N_check_script : List Str := ["value", "step"]
def rd_turned_piece (K : PySem.W.Frag) (sp_parts_of : Sp) : TS := (tSeq (tIfS (tOr (mTest (tOp (mIs) (mVar 0) (mC .non))) (mTest (tOp (mEq K) (mVar 0) (mC (.str (S [46])))))) (tRet (mC .non)) tNext)
  (tSeq (tAsg (tCall sp_parts_of [] E0 (tCons (mVar 0) tNil)) (mgTup K 2 (mgCons (gName 2) (mgCons (gName 3) mgNil))))
  (tSeq (tIfS (mTest (tOp (mEq K) (mVar 1) (mC (.str (S [114, 105, 103, 104, 116]))))) (tSeq (tIfS (mTest (tOp (mEq K) (mVar 2) (mC (.str (S [46]))))) (tRet (mC .non)) tNext)
  (tSeq (tAsg (tCall sp_parts_of [] E0 (tCons (mVar 2) tNil)) (mgTup K 2 (mgCons (gName 4) (mgCons (gName 5) mgNil))))
  (tRet (tOp mAdd (tOp mAdd (tOp mAdd (tOp mAdd (tOp mAdd (mC (.str (S [40]))) (mVar 4)) (mC (.str (S [40])))) (mVar 5)) (mVar 3)) (mC (.str (S [41, 41]))))))) tNext)
  (tSeq (tIfS (mTest (tOp (mEq K) (mVar 3) (mC (.str (S [46]))))) (tRet (mC .non)) tNext)
  (tSeq (tAsg (tCall sp_parts_of [] E0 (tCons (mVar 3) tNil)) (mgTup K 2 (mgCons (gName 4) (mgCons (gName 5) mgNil))))
  (tRet (tOp mAdd (tOp mAdd (tOp mAdd (tOp mAdd (tOp mAdd (mC (.str (S [40, 40]))) (mVar 2)) (mVar 4)) (mC (.str (S [41])))) (mVar 5)) (mC (.str (S [41]))))))))))
abbrev N_turned_piece : List Str := ["piece", "word", "left", "right", "first", "second"]
def rd_turned_once (K : PySem.W.Frag) (sp_turned_piece : Sp) (sp_part_at : Sp) (sp_put_at : Sp) : TS := (tSeq (tAsg (mVar 1) (mgSeq K 2 (mgCons (gName 2) (mgCons (gName 3) mgNil))))
  (tSeq (tAsg (tCall sp_turned_piece [] E0 (tCons (tCall sp_part_at [] E0 (tCons (mVar 0) (tCons (mVar 3) tNil))) (tCons (mVar 2) tNil))) (gName 4))
  (tRet (tIf (mTest (tOp (mIs) (mVar 4) (mC .non))) (mC .non) (tCall sp_put_at [] E0 (tCons (mVar 0) (tCons (mVar 3) (tCons (mVar 4) tNil))))))))
abbrev N_turned_once : List Str := ["tree", "step", "word", "address", "piece"]
@[reducible] def rd_road_tree_b1 (K : PySem.W.Frag) (D : Ends) (σ : Sl) (H : Hp) : Prop := ((tAsg (tIf (mTest (tOp (mEq K) (mVar 2) (mC (.str (S [108]))))) (tOp mAdd (tOp mAdd (mC (.str (S [40]))) (mVar 1)) (mC (.str (S [46, 41])))) (tOp mAdd (tOp mAdd (mC (.str (S [40, 46]))) (mVar 1)) (mC (.str (S [41]))))) (gName 1)) : TS) D σ H
def rd_road_tree (K : PySem.W.Frag) : TS := (tSeq (tAsg (mC (.str (S [40, 46, 46, 41]))) (gName 1))
  (tSeq (mFor (mIter K (mRevS (mVar 0))) (gName 2) (rd_road_tree_b1 K))
  (tRet (mVar 1))))
abbrev N_road_tree : List Str := ["letters", "piece", "letter"]
@[reducible] def rd_leaf_on_b1 (K : PySem.W.Frag) (sp_end_of : Sp) (D : Ends) (σ : Sl) (H : Hp) : Prop := ((tSeq (tIfS (mTest (tOp (mEq K) (tOp (mIx K) (mVar 0) (mVar 2)) (mC (.str (S [46]))))) (tRet (tTup (tCons (mVar 3) (tCons (mStrM (mCount) (tSl (mSl K) (mVar 0) tNoPart (mPart (mVar 2))) (mC (.str (S [46])))) tNil)))) tNext)
  (tSeq (mAug 2 (mC (.int 1)) iAdd)
  (tIfS (mTest (tOp (mEq K) (mVar 4) (mC (.str (S [114]))))) (tAsg (tCall sp_end_of [] E0 (tCons (mVar 0) (tCons (mVar 2) tNil))) (gName 2)) tNext))) : TS) D σ H
def rd_leaf_on (K : PySem.W.Frag) (sp_end_of : Sp) : TS := (tSeq (tAsg (mC (.int 0)) (gName 2))
  (tSeq (mFor (mEnumS (mVar 1)) (mgTup K 2 (mgCons (gName 3) (mgCons (gName 4) mgNil))) (rd_leaf_on_b1 K sp_end_of))
  (tRet (tIf (mTest (tOp (mEq K) (tOp (mIx K) (mVar 0) (mVar 2)) (mC (.str (S [46]))))) (tTup (tCons (tCB (mLen K) (tCons (mVar 1) tNil)) (tCons (mStrM (mCount) (tSl (mSl K) (mVar 0) tNoPart (mPart (mVar 2))) (mC (.str (S [46])))) tNil))) (mC .non)))))
abbrev N_leaf_on : List Str := ["tree", "path", "start", "used", "letter"]
def rd_sprouted (K : PySem.W.Frag) : TS := (tSeq (tAsg (mStrM (mSplit) (mVar 0) (mC (.str (S [46])))) (gName 3))
  (tRet (tOp mAdd (tOp mAdd (mStrM (mJoin K) (mC (.str (S [46]))) (tSl (mSl K) (mVar 3) tNoPart (mPart (tOp mAdd (mVar 1) (mC (.int 1)))))) (mVar 2)) (mStrM (mJoin K) (mC (.str (S [46]))) (tSl (mSl K) (mVar 3) (mPart (tOp mAdd (mVar 1) (mC (.int 1)))) tNoPart)))))
abbrev N_sprouted : List Str := ["tree", "number", "piece", "pieces"]
@[reducible] def rd_least_pair_b1 (K : PySem.W.Frag) (sp_leaf_on : Sp) (sp_road_tree : Sp) (sp_sprouted : Sp) (sp_turned_once : Sp) (a_SIDES : Addr) (D : Ends) (σ : Sl) (H : Hp) : Prop := ((tSeq (tAsg (tOp mAdd (tOp (mIx K) (mVar 3) (mC (.int 1))) (tOp (mIxTab rows_SIDES a_SIDES) (mC (.ref a_SIDES)) (tOp (mIx K) (mVar 3) (mC (.int 0))))) (gName 4))
  (tSeq (tAsg (tCall sp_leaf_on [] E0 (tCons (mVar 2) (tCons (mVar 4) tNil))) (gName 5))
  (tSeq (tIfS (mTest (tOp (mNot) (mVar 5) (mC .non))) (tSeq (tAsg (tCall sp_road_tree [] E0 (tCons (tSl (mSl K) (mVar 4) (mPart (tOp (mIx K) (mVar 5) (mC (.int 0)))) tNoPart) tNil)) (gName 6))
  (mPar 1 2 (tCons (tCall sp_sprouted [] E0 (tCons (mVar 1) (tCons (tOp (mIx K) (mVar 5) (mC (.int 1))) (tCons (mVar 6) tNil)))) (tCons (tCall sp_sprouted [] E0 (tCons (mVar 2) (tCons (tOp (mIx K) (mVar 5) (mC (.int 1))) (tCons (mVar 6) tNil)))) tNil)))) tNext)
  (tAsg (tCall sp_turned_once [] E0 (tCons (mVar 2) (tCons (mVar 3) tNil))) (gName 2))))) : TS) D σ H
def rd_least_pair (K : PySem.W.Frag) (sp_leaf_on : Sp) (sp_road_tree : Sp) (sp_sprouted : Sp) (sp_turned_once : Sp) (a_SIDES : Addr) : TS := (tSeq (tAsg (tTup (tCons (mC (.str (S [46]))) (tCons (mC (.str (S [46]))) tNil))) (mgTup K 2 (mgCons (gName 1) (mgCons (gName 2) mgNil))))
  (tSeq (mFor (mIter K (mVar 0)) (gName 3) (rd_least_pair_b1 K sp_leaf_on sp_road_tree sp_sprouted sp_turned_once a_SIDES))
  (tRet (tTup (tCons (mVar 1) (tCons (mVar 2) tNil))))))
abbrev N_least_pair : List Str := ["steps", "before", "after", "step", "path", "leaf", "piece"]
def rd_pair_of (K : PySem.W.Frag) (sp_check_script : Sp) (sp_least_pair : Sp) : TS := (tSeq (tDrop (tCall sp_check_script [] E0 (tCons (mVar 0) tNil)))
  (tRet (tCall sp_least_pair [] E0 (tCons (mVar 0) tNil))))
abbrev N_pair_of : List Str := ["steps"]
def rd_Move___init__ (K : PySem.W.Frag) (sp_check_tree : Sp) (a_InvalidMove : Addr) (a_Move : Addr) (E : XK) : TS := (tSeq (tDrop (tCall sp_check_tree [] E (tCons (mVar 1) tNil)))
  (tSeq (tDrop (tCall sp_check_tree [] E (tCons (mVar 2) tNil)))
  (tSeq (tIfS (mTest (tOp (mNe K) (mStrM (mCount) (mVar 1) (mC (.str (S [40])))) (mStrM (mCount) (mVar 2) (mC (.str (S [40])))))) (mRaise a_InvalidMove "value" (tCons (tTup (tCons (mVar 1) (tCons (mVar 2) tNil))) tNil) E) tNext)
  (sFldC a_Move "trees" (mVar 0) (tTup (tCons (mVar 1) (tCons (mVar 2) tNil)))))))
abbrev N_Move___init__ : List Str := ["self", "before", "after"]
def rd_Move_before (K : PySem.W.Frag) (a_Move : Addr) : TS := (tRet (tOp (mIx K) (tFldC a_Move "trees" (mVar 0)) (mC (.int 0))))
abbrev N_Move_before : List Str := ["self"]
def rd_Move_after (K : PySem.W.Frag) (a_Move : Addr) : TS := (tRet (tOp (mIx K) (tFldC a_Move "trees" (mVar 0)) (mC (.int 1))))
abbrev N_Move_after : List Str := ["self"]
def rd_Move_of (K : PySem.W.Frag) (sp_pair_of : Sp) (a_Move : Addr) (sp_Move___init__ : Sp) : TS := (tSeq (tAsg (tCall sp_pair_of [] E0 (tCons (mVar 1) tNil)) (mgTup K 2 (mgCons (gName 2) (mgCons (gName 3) mgNil))))
  (tRet (tMakeV a_Move sp_Move___init__ E0 (mVar 0) (tCons (mVar 2) (tCons (mVar 3) tNil)))))
abbrev N_Move_of : List Str := ["cls", "steps", "before", "after"]
def rd_Move___call__ (K : PySem.W.Frag) (sp_is_tree : Sp) (sp_hung_on : Sp) (sp_check_tree : Sp) (sp_grown_by : Sp) (a_CannotMove : Addr) (a_Move : Addr) (E : XK) : TS := (tSeq (tAsg (tIf (mTest (tCall sp_is_tree [] E0 (tCons (mVar 1) tNil))) (tCall sp_hung_on [] E0 (tCons (mVar 1) (tCons (tOp (mIx K) (tFldC a_Move "trees" (mVar 0)) (mC (.int 0))) tNil))) (mC .non)) (gName 2))
  (tSeq (tIfS (mTest (tOp (mIs) (mVar 2) (mC .non))) (tSeq (tDrop (tCall sp_check_tree [] E (tCons (mVar 1) tNil)))
  (mRaise a_CannotMove "value" (tCons (mVar 1) tNil) E)) tNext)
  (tRet (tCall sp_grown_by [] E0 (tCons (tOp (mIx K) (tFldC a_Move "trees" (mVar 0)) (mC (.int 1))) (tCons (mVar 2) tNil))))))
abbrev N_Move___call__ : List Str := ["self", "tree", "found"]
def rd_Move_can (K : PySem.W.Frag) (sp_check_tree : Sp) (sp_hung_on : Sp) (a_Move : Addr) (E : XK) : TS := (tSeq (tDrop (tCall sp_check_tree [] E (tCons (mVar 1) tNil)))
  (tRet (tOp (mNot) (tCall sp_hung_on [] E0 (tCons (mVar 1) (tCons (tOp (mIx K) (tFldC a_Move "trees" (mVar 0)) (mC (.int 0))) tNil))) (mC .non))))
abbrev N_Move_can : List Str := ["self", "tree"]
def rd_Move___eq__ (K : PySem.W.Frag) (a_Move : Addr) : TS := (tRet (mAndV (tCB (mIsi K) (tCons (mVar 1) (tCons (mC (.ref a_Move)) tNil))) (tOp (mEq K) (tFldC a_Move "trees" (mVar 0)) (tFldC a_Move "trees" (mVar 1)))))
abbrev N_Move___eq__ : List Str := ["self", "other"]
def rd_Move___repr__ (K : PySem.W.Frag) (a_Move : Addr) : TS := (tRet (tJoin [(mC (.str (S [77, 111, 118, 101, 40, 39]))), (tFmt (tOp (mIx K) (tFldC a_Move "trees" (mVar 0)) (mC (.int 0)))), (mC (.str (S [39, 44, 32, 39]))), (tFmt (tOp (mIx K) (tFldC a_Move "trees" (mVar 0)) (mC (.int 1)))), (mC (.str (S [39, 41])))]))
abbrev N_Move___repr__ : List Str := ["self"]
def rd_Move___mul__ (K : PySem.W.Frag) (sp_joined_trees : Sp) (sp_grown_by : Sp) (sp_hung_on : Sp) (a_Move : Addr) (sp_Move___init__ : Sp) : TS := (tSeq (tIfS (tNot (mTest (tCB (mIsi K) (tCons (mVar 1) (tCons (mC (.ref a_Move)) tNil))))) (tRet tNever) tNext)
  (tSeq (tAsg (tCall sp_joined_trees [] E0 (tCons (tOp (mIx K) (tFldC a_Move "trees" (mVar 0)) (mC (.int 1))) (tCons (tOp (mIx K) (tFldC a_Move "trees" (mVar 1)) (mC (.int 0))) tNil))) (gName 2))
  (tSeq (tAsg (tCall sp_grown_by [] E0 (tCons (tOp (mIx K) (tFldC a_Move "trees" (mVar 0)) (mC (.int 0))) (tCons (tCall sp_hung_on [] E0 (tCons (mVar 2) (tCons (tOp (mIx K) (tFldC a_Move "trees" (mVar 0)) (mC (.int 1))) tNil))) tNil))) (gName 3))
  (tRet (tMake a_Move sp_Move___init__ [] E0 (tCons (mVar 3) (tCons (tCall sp_grown_by [] E0 (tCons (tOp (mIx K) (tFldC a_Move "trees" (mVar 1)) (mC (.int 1))) (tCons (tCall sp_hung_on [] E0 (tCons (mVar 2) (tCons (tOp (mIx K) (tFldC a_Move "trees" (mVar 1)) (mC (.int 0))) tNil))) tNil))) tNil)))))))
abbrev N_Move___mul__ : List Str := ["self", "other", "middle", "first"]
def rd_Move___invert__ (K : PySem.W.Frag) (a_Move : Addr) (sp_Move___init__ : Sp) : TS := (tRet (tMake a_Move sp_Move___init__ [] E0 (tCons (tOp (mIx K) (tFldC a_Move "trees" (mVar 0)) (mC (.int 1))) (tCons (tOp (mIx K) (tFldC a_Move "trees" (mVar 0)) (mC (.int 0))) tNil))))
abbrev N_Move___invert__ : List Str := ["self"]
def rd_Move_times (K : PySem.W.Frag) (sp__wall : Sp) : TS := (tDrop (tCall sp__wall [] E0 (tCons (mC (.int 0)) tNil)))
abbrev N_Move_times : List Str := ["self", "count"]
def rd_Move_under (K : PySem.W.Frag) (sp__wall : Sp) : TS := (tDrop (tCall sp__wall [] E0 (tCons (mC (.int 1)) tNil)))
abbrev N_Move_under : List Str := ["self", "address"]
def rd_Move___le__ (K : PySem.W.Frag) (sp_is_at_most : Sp) (a_Move : Addr) : TS := (tSeq (tIfS (tNot (mTest (tCB (mIsi K) (tCons (mVar 1) (tCons (mC (.ref a_Move)) tNil))))) (tRet tNever) tNext)
  (tRet (tCall sp_is_at_most [] E0 (tCons (mVar 0) (tCons (mVar 1) tNil)))))
abbrev N_Move___le__ : List Str := ["self", "other"]
def rd_Move___lt__ (K : PySem.W.Frag) (sp_is_at_most : Sp) (a_Move : Addr) : TS := (tSeq (tIfS (tNot (mTest (tCB (mIsi K) (tCons (mVar 1) (tCons (mC (.ref a_Move)) tNil))))) (tRet tNever) tNext)
  (tRet (mAndV (tOp (mNe K) (tFldC a_Move "trees" (mVar 0)) (tFldC a_Move "trees" (mVar 1))) (tCall sp_is_at_most [] E0 (tCons (mVar 0) (tCons (mVar 1) tNil))))))
abbrev N_Move___lt__ : List Str := ["self", "other"]
def rd_Move___ge__ (K : PySem.W.Frag) (sp_is_at_most : Sp) (a_Move : Addr) : TS := (tSeq (tIfS (tNot (mTest (tCB (mIsi K) (tCons (mVar 1) (tCons (mC (.ref a_Move)) tNil))))) (tRet tNever) tNext)
  (tRet (tCall sp_is_at_most [] E0 (tCons (mVar 1) (tCons (mVar 0) tNil)))))
abbrev N_Move___ge__ : List Str := ["self", "other"]
def rd_Move___gt__ (K : PySem.W.Frag) (sp_is_at_most : Sp) (a_Move : Addr) : TS := (tSeq (tIfS (tNot (mTest (tCB (mIsi K) (tCons (mVar 1) (tCons (mC (.ref a_Move)) tNil))))) (tRet tNever) tNext)
  (tRet (mAndV (tOp (mNe K) (tFldC a_Move "trees" (mVar 0)) (tFldC a_Move "trees" (mVar 1))) (tCall sp_is_at_most [] E0 (tCons (mVar 1) (tCons (mVar 0) tNil))))))
abbrev N_Move___gt__ : List Str := ["self", "other"]
def rd_is_at_most (K : PySem.W.Frag) (sp_hung_on : Sp) (a_Move : Addr) : TS := (tSeq (tAsg (tCall sp_hung_on [] E0 (tCons (tOp (mIx K) (tFldC a_Move "trees" (mVar 0)) (mC (.int 0))) (tCons (tOp (mIx K) (tFldC a_Move "trees" (mVar 1)) (mC (.int 0))) tNil))) (gName 2))
  (tRet (mAndV (tOp (mNot) (mVar 2) (mC .non)) (tOp (mEq K) (tCall sp_hung_on [] E0 (tCons (tOp (mIx K) (tFldC a_Move "trees" (mVar 0)) (mC (.int 1))) (tCons (tOp (mIx K) (tFldC a_Move "trees" (mVar 1)) (mC (.int 1))) tNil))) (mVar 2)))))
abbrev N_is_at_most : List Str := ["one", "other", "found"]
def rd_check_move (K : PySem.W.Frag) (a_InvalidMove : Addr) (a_Move : Addr) (E : XK) : TS := (tIfS (tNot (mTest (tCB (mIsi K) (tCons (mVar 0) (tCons (mC (.ref a_Move)) tNil))))) (mRaise a_InvalidMove "value" (tCons (mVar 0) tNil) E) tNext)
abbrev N_check_move : List Str := ["value"]
@[reducible] def rd_read_tree_b1 (K : PySem.W.Frag) (D : Ends) (σ : Sl) (H : Hp) : Prop := ((tIfS (mTest (tOp (mEq K) (mVar 2) (mC (.str (S [40]))))) (tDrop (mLstM mApp (mVar 1) (tCons (tLst tNil) tNil))) (tIfS (mTest (tOp (mEq K) (mVar 2) (mC (.str (S [46]))))) (tDrop (mLstM mApp (tOp (mIx K) (mVar 1) (mUn (fun i => -i) (mC (.int 1)))) (tCons (tTup tNil) tNil))) (tIfS (tAnd (mTest (tOp (mEq K) (mVar 2) (mC (.str (S [41]))))) (tAnd (mTest (tOp (mGt) (tCB (mLen K) (tCons (mVar 1) tNil)) (mC (.int 1)))) (mTest (tOp (mEq K) (tCB (mLen K) (tCons (tOp (mIx K) (mVar 1) (mUn (fun i => -i) (mC (.int 1)))) tNil)) (mC (.int 2)))))) (tSeq (tAsg (mLstM mPop (mVar 1) tNil) (gName 3))
  (tDrop (mLstM mApp (tOp (mIx K) (mVar 1) (mUn (fun i => -i) (mC (.int 1)))) (tCons (tTup (tCons (tOp (mIx K) (mVar 3) (mC (.int 0))) (tCons (tOp (mIx K) (mVar 3) (mC (.int 1))) tNil))) tNil)))) (tRet (mC .non))))) : TS) D σ H
def rd_read_tree (K : PySem.W.Frag) : TS := (tSeq (tIfS (tNot (mTest (tCB (mIsi K) (tCons (mVar 0) (tCons (mC (.ty "str")) tNil))))) (tRet (mC .non)) tNext)
  (tSeq (tAsg (tLst (tCons (tLst tNil) tNil)) (gName 1))
  (tSeq (mFor (mIter K (mVar 0)) (gName 2) (rd_read_tree_b1 K))
  (tRet (tIf (tAnd (mTest (tOp (mEq K) (tCB (mLen K) (tCons (mVar 1) tNil)) (mC (.int 1)))) (mTest (tOp (mEq K) (tCB (mLen K) (tCons (tOp (mIx K) (mVar 1) (mC (.int 0))) tNil)) (mC (.int 1))))) (tOp (mIx K) (tOp (mIx K) (mVar 1) (mC (.int 0))) (mC (.int 0))) (mC .non))))))
abbrev N_read_tree : List Str := ["value", "open_parts", "sign", "parts"]
def rd_nested (K : PySem.W.Frag) (sp_read_tree : Sp) (a_InvalidTree : Addr) (E : XK) : TS := (tSeq (tAsg (tCall sp_read_tree [] E0 (tCons (mVar 0) tNil)) (gName 1))
  (tSeq (tIfS (mTest (tOp (mIs) (mVar 1) (mC .non))) (mRaise a_InvalidTree "value" (tCons (mVar 0) tNil) E) tNext)
  (tRet (mVar 1))))
abbrev N_nested : List Str := ["tree", "found"]
def rd_depths (K : PySem.W.Frag) (sp_depths : Sp) : TS := (tSeq (tIfS (mTest (tOp (mEq K) (mVar 0) (tTup tNil))) (tRet (tLst (tCons (mVar 1) tNil))) tNext)
  (tRet (tOp mAdd (tCall sp_depths [] E0 (tCons (tOp (mIx K) (mVar 0) (mC (.int 0))) (tCons (tOp mAdd (mVar 1) (mC (.int 1))) tNil))) (tCall sp_depths [] E0 (tCons (tOp (mIx K) (mVar 0) (mC (.int 1))) (tCons (tOp mAdd (mVar 1) (mC (.int 1))) tNil))))))
abbrev N_depths : List Str := ["nest", "depth"]
def rd_depth_pairs (K : PySem.W.Frag) (sp_depths : Sp) (sp_nested : Sp) (a_Move : Addr) (sp_Move_after : Sp) (sp_Move_before : Sp) (E : XK) : TS := (tRet (mZipL K (tCons (tCall sp_depths [.int 0] E0 (tCons (tCall sp_nested [] E (tCons (tProp a_Move sp_Move_before [] E0 (mVar 0)) tNil)) tNil)) (tCons (tCall sp_depths [.int 0] E0 (tCons (tCall sp_nested [] E (tCons (tProp a_Move sp_Move_after [] E0 (mVar 0)) tNil)) tNil)) tNil))))
abbrev N_depth_pairs : List Str := ["move"]
def rd_change (K : PySem.W.Frag) (sp_check_move : Sp) (sp_depth_pairs : Sp) (E : XK) : TS := (tSeq (tDrop (tCall sp_check_move [] E (tCons (mVar 0) tNil)))
  (tSeq (tAsg (tCall sp_depth_pairs [] E (tCons (mVar 0) tNil)) (gName 1))
  (tSeq (tAsg (tCB (mMinL K) (tCons (mLc (mIter K (mVar 1)) (mgTup K 2 (mgCons (gName 3) (mgCons (gName 4) mgNil))) tYes (tCB (mInt) (tCons (tOp mSub (mVar 4) (mVar 3)) tNil)) [3, 4]) tNil)) (gName 2))
  (tRet (tTup (tCons (mVar 2) (tCons (tCB (mMaxL K) (tCons (mLc (mIter K (mVar 1)) (mgTup K 2 (mgCons (gName 3) (mgCons (gName 4) mgNil))) tYes (tCB (mInt) (tCons (tOp mSub (mVar 4) (mVar 3)) tNil)) [3, 4]) tNil)) tNil)))))))
abbrev N_change : List Str := ["move", "pairs", "least", "before", "after"]
def rd__law_mixed (K : PySem.W.Frag) : TS := (tSeq (tAsg (tOp mMod (tOp mAdd (tOp mAdd (tOp mAdd (tOp mMul (mVar 0) (mC (.int 1103515245))) (tOp mMul (tOp mMul (mC (.int 7919)) (mVar 1)) (mVar 1))) (mVar 1)) (mC (.int 1))) (mC (.int 2147483647))) (gName 2))
  (tSeq (tAsg (tOp mMod (tOp mAdd (tOp mMul (mVar 2) (mVar 2)) (mC (.int 69621))) (mC (.int 2147483629))) (gName 2))
  (tRet (tOp mMod (tOp mMul (mVar 2) (mC (.int 48271))) (mC (.int 2147483587))))))
abbrev N__law_mixed : List Str := ["_law_cell", "_law_k", "_law_number"]
def rd__law_purse (K : PySem.W.Frag) : TS := (tSeq (tAsg (tCB (mSum K) (tCons (tSl (mSl K) (mVar 0) (mPart (mVar 1)) (mPart (tOp mAdd (mVar 1) (mC (.int 1))))) tNil)) (gName 2))
  (tRet (tLst (tCons (tOp mMod (tCB (mMax) (tCons (tOp mSub (mVar 2) (tOp mPow (mC (.int 10)) (mC (.int 18)))) (tCons (mC (.int 0)) tNil))) (tOp mPow (tOp mPow (mC (.int 10)) (mC (.int 60))) (mC (.int 10)))) (tCons (tOp mMod (mVar 2) (mC (.int 2147483647))) (tCons (tOp mMul (mC (.int 1000)) (mVar 1)) tNil))))))
abbrev N__law_purse : List Str := ["_law_script", "_law_at", "_law_cell"]
@[reducible] def rd__law_draw_b1 (K : PySem.W.Frag) (sp__law_mixed : Sp) (D : Ends) (σ : Sl) (H : Hp) : Prop := ((tSeq (tAsg (tOp mAdd (tOp (mIx K) (mVar 0) (mC (.int 2))) (mC (.int 1))) (gSub (mVar 0) (mC (.int 2)) mSetL))
  (tAsg (tOp mAdd (tOp mMul (mVar 3) (mC (.int 2147483587))) (tCall sp__law_mixed [] E0 (tCons (tOp (mIx K) (mVar 0) (mC (.int 1))) (tCons (tOp (mIx K) (mVar 0) (mC (.int 2))) tNil)))) (gName 3))) : TS) D σ H
def rd__law_draw (K : PySem.W.Frag) (sp__law_mixed : Sp) : TS := (tSeq (tIfS (mTest (tOp (mGt) (tOp (mIx K) (mVar 0) (mC (.int 0))) (mC (.int 0)))) (tSeq (tAsg (tOp mMod (tOp (mIx K) (mVar 0) (mC (.int 0))) (mVar 1)) (gName 2))
  (tSeq (tAsg (tOp mDiv (tOp (mIx K) (mVar 0) (mC (.int 0))) (mVar 1)) (gSub (mVar 0) (mC (.int 0)) mSetL))
  (tRet (mVar 2)))) tNext)
  (tSeq (tAsg (mC (.int 0)) (gName 3))
  (tSeq (mFor (mRng1 (tOp mAdd (mC (.int 1)) (tOp mDiv (mBits (mVar 1)) (mC (.int 30))))) (gName 4) (rd__law_draw_b1 K sp__law_mixed))
  (tRet (tOp mMod (mVar 3) (mVar 1))))))
abbrev N__law_draw : List Str := ["_law_purse_here", "_law_out_of", "_law_drawn", "_law_number", "_law_k"]
def rd__law_nest (K : PySem.W.Frag) (sp__law_draw : Sp) (sp__law_nest : Sp) : TS := (tSeq (tIfS (mTest (tOp (mEq K) (mVar 1) (mC (.int 0)))) (tRet (tTup tNil)) tNext)
  (tSeq (tAsg (tCall sp__law_draw [] E0 (tCons (mVar 0) (tCons (mVar 1) tNil))) (gName 2))
  (tSeq (tAsg (tOp (mIx K) (tLst (tCons (mVar 2) (tCons (mVar 2) (tCons (mVar 2) (tCons (mVar 2) (tCons (mC (.int 0)) (tCons (tOp mSub (mVar 1) (mC (.int 1))) tNil))))))) (tCall sp__law_draw [] E0 (tCons (mVar 0) (tCons (mC (.int 6)) tNil)))) (gName 2))
  (tRet (tTup (tCons (tCall sp__law_nest [] E0 (tCons (mVar 0) (tCons (mVar 2) tNil))) (tCons (tCall sp__law_nest [] E0 (tCons (mVar 0) (tCons (tOp mSub (tOp mSub (mVar 1) (mC (.int 1))) (mVar 2)) tNil))) tNil)))))))
abbrev N__law_nest : List Str := ["_law_purse_here", "_law_count", "_law_left"]
def rd__law_text (K : PySem.W.Frag) (sp__law_text : Sp) : TS := (tSeq (tIfS (mTest (tOp (mEq K) (mVar 0) (tTup tNil))) (tRet (mC (.str (S [46])))) tNext)
  (tRet (tOp mAdd (tOp mAdd (tOp mAdd (mC (.str (S [40]))) (tCall sp__law_text [] E0 (tCons (tOp (mIx K) (mVar 0) (mC (.int 0))) tNil))) (tCall sp__law_text [] E0 (tCons (tOp (mIx K) (mVar 0) (mC (.int 1))) tNil))) (mC (.str (S [41]))))))
abbrev N__law_text : List Str := ["_law_nest_here"]
def rd__law_width (K : PySem.W.Frag) (sp__law_width : Sp) : TS := (tRet (tIf (mTest (tOp (mEq K) (mVar 0) (tTup tNil))) (mC (.int 1)) (tOp mAdd (tCall sp__law_width [] E0 (tCons (tOp (mIx K) (mVar 0) (mC (.int 0))) tNil)) (tCall sp__law_width [] E0 (tCons (tOp (mIx K) (mVar 0) (mC (.int 1))) tNil)))))
abbrev N__law_width : List Str := ["_law_nest_here"]
def rd__law_depths (K : PySem.W.Frag) (sp__law_depths : Sp) : TS := (tSeq (tIfS (mTest (tOp (mEq K) (mVar 0) (tTup tNil))) (tRet (tLst (tCons (mVar 1) tNil))) tNext)
  (tRet (tOp mAdd (tCall sp__law_depths [] E0 (tCons (tOp (mIx K) (mVar 0) (mC (.int 0))) (tCons (tOp mAdd (mVar 1) (mC (.int 1))) tNil))) (tCall sp__law_depths [] E0 (tCons (tOp (mIx K) (mVar 0) (mC (.int 1))) (tCons (tOp mAdd (mVar 1) (mC (.int 1))) tNil))))))
abbrev N__law_depths : List Str := ["_law_nest_here", "_law_depth"]
@[reducible] def rd__law_comb_b1 (K : PySem.W.Frag) (sp__law_draw : Sp) (D : Ends) (σ : Sl) (H : Hp) : Prop := ((tAsg (tIf (mTest (tOp (mEq K) (tCall sp__law_draw [] E0 (tCons (mVar 0) (tCons (mC (.int 2)) tNil))) (mC (.int 0)))) (tOp mAdd (tOp mAdd (mC (.str (S [40]))) (mVar 2)) (mC (.str (S [46, 41])))) (tOp mAdd (tOp mAdd (mC (.str (S [40, 46]))) (mVar 2)) (mC (.str (S [41]))))) (gName 2)) : TS) D σ H
def rd__law_comb (K : PySem.W.Frag) (sp__law_draw : Sp) : TS := (tSeq (tAsg (mC (.str (S [46]))) (gName 2))
  (tSeq (mFor (mRng1 (mVar 1)) (gName 3) (rd__law_comb_b1 K sp__law_draw))
  (tRet (mVar 2))))
abbrev N__law_comb : List Str := ["_law_purse_here", "_law_high_here", "_law_tree", "_law_turn"]
@[reducible] def rd__law_high_b1 (K : PySem.W.Frag) (D : Ends) (σ : Sl) (H : Hp) : Prop := ((tIfS (mTest (tOp (mGt) (tOp mAdd (mVar 3) (mVar 4)) (mVar 2))) (tAsg (tOp mAdd (mVar 3) (mVar 4)) (gName 2)) tNext) : TS) D σ H
def rd__law_high (K : PySem.W.Frag) : TS := (tSeq (tAsg (mC (.int 0)) (gName 2))
  (tSeq (mFor (mZip K (mVar 0) (mVar 1)) (mgTup K 2 (mgCons (gName 3) (mgCons (gName 4) mgNil))) (rd__law_high_b1 K))
  (tRet (mVar 2))))
abbrev N__law_high : List Str := ["_law_deeps", "_law_row", "_law_found", "_law_depth", "_law_more"]
def rd__law_done (K : PySem.W.Frag) (sp__law_text : Sp) (sp_grown : Sp) (sp__law_comb : Sp) (sp__law_depths : Sp) (sp__law_high : Sp) (sp_height : Sp) (a_Move : Addr) (sp_Move___init__ : Sp) (sp_Move_before : Sp) (sp_Move___call__ : Sp) : TS := (tSeq (tAsg (tMake a_Move sp_Move___init__ [] E0 (tCons (tCall sp__law_text [] E0 (tCons (mVar 1) tNil)) (tCons (tCall sp__law_text [] E0 (tCons (mVar 2) tNil)) tNil))) (gName 4))
  (tSeq (tAsg (tCall sp_grown [] E0 (tCons (tProp a_Move sp_Move_before [] E0 (mVar 4)) (tCons (mLc (mIter K (mVar 3)) (gName 9) tYes (tCall sp__law_comb [] E0 (tCons (mVar 0) (tCons (mVar 9) tNil))) [9]) tNil))) (gName 5))
  (tSeq (mPar 6 7 (tCons (tCall sp__law_depths [] E0 (tCons (mVar 1) (tCons (mC (.int 0)) tNil))) (tCons (tCall sp__law_depths [] E0 (tCons (mVar 2) (tCons (mC (.int 0)) tNil))) tNil)))
  (tSeq (tAsg (tOp mSub (tCall sp__law_high [] E0 (tCons (mVar 7) (tCons (mVar 3) tNil))) (tCall sp__law_high [] E0 (tCons (mVar 6) (tCons (mVar 3) tNil)))) (gName 8))
  (tRet (tIf (mTest (tOp (mEq K) (tOp mSub (tCall sp_height [] E0 (tCons (tInst a_Move sp_Move___call__ E0 (mVar 4) (tCons (mVar 5) tNil)) tNil)) (tCall sp_height [] E0 (tCons (mVar 5) tNil))) (mVar 8))) (mVar 8) (mC .non)))))))
abbrev N__law_done : List Str := ["_law_purse_here", "_law_one", "_law_other", "_law_row", "_law_move", "_law_tree", "_law_first", "_law_second", "_law_due", "_law_more"]
@[reducible] def rd__law_right_b1 (K : PySem.W.Frag) (sp__law_depths : Sp) (sp_change : Sp) (sp__law_text : Sp) (sp__law_draw : Sp) (sp__law_done : Sp) (a_Move : Addr) (sp_Move___init__ : Sp) (D : Ends) (σ : Sl) (H : Hp) : Prop := ((tAsg (tCall sp__law_draw [] E0 (tCons (mVar 0) (tCons (mVar 8) tNil))) (gSub (mVar 9) (tCall sp__law_draw [] E0 (tCons (mVar 0) (tCons (tCB (mLen K) (tCons (mVar 5) tNil)) tNil))) mSetL)) : TS) D σ H
@[reducible] def rd__law_right_b2 (K : PySem.W.Frag) (sp__law_depths : Sp) (sp_change : Sp) (sp__law_text : Sp) (sp__law_draw : Sp) (sp__law_done : Sp) (a_Move : Addr) (sp_Move___init__ : Sp) (D : Ends) (σ : Sl) (H : Hp) : Prop := ((tSeq (tAsg (tOp mMul (tLst (tCons (mC (.int 0)) tNil)) (tCB (mLen K) (tCons (mVar 5) tNil))) (gName 9))
  (tSeq (mFor (mRng1 (mC (.int 5))) (gName 10) (rd__law_right_b1 K sp__law_depths sp_change sp__law_text sp__law_draw sp__law_done a_Move sp_Move___init__))
  (tSeq (tAsg (tCall sp__law_done [] E0 (tCons (mVar 0) (tCons (mVar 1) (tCons (mVar 2) (tCons (mVar 9) tNil))))) (gName 11))
  (tIfS (tOr (mTest (tOp (mIs) (mVar 11) (mC .non))) (tNot (mTest (mChain (mLe) (mLe) (mVar 6) (mVar 11) (mVar 7))))) (tRet (mC (.bl false))) tNext)))) : TS) D σ H
@[reducible] def rd__law_right_b3 (K : PySem.W.Frag) (sp__law_depths : Sp) (sp_change : Sp) (sp__law_text : Sp) (sp__law_draw : Sp) (sp__law_done : Sp) (a_Move : Addr) (sp_Move___init__ : Sp) (D : Ends) (σ : Sl) (H : Hp) : Prop := ((tSeq (tAsg (mLc (mRng1 (tCB (mLen K) (tCons (mVar 5) tNil))) (gName 13) tYes (tOp mMul (mC (.int 60)) (tCB (mInt) (tCons (tOp (mEq K) (mVar 13) (mLstM mIndex (mVar 5) (tCons (mVar 12) tNil))) tNil))) [13]) (gName 9))
  (tIfS (mTest (tOp (mNe K) (tCall sp__law_done [] E0 (tCons (mVar 0) (tCons (mVar 1) (tCons (mVar 2) (tCons (mVar 9) tNil))))) (mVar 12))) (tRet (mC (.bl false))) tNext)) : TS) D σ H
def rd__law_right (K : PySem.W.Frag) (sp__law_depths : Sp) (sp_change : Sp) (sp__law_text : Sp) (sp__law_draw : Sp) (sp__law_done : Sp) (a_Move : Addr) (sp_Move___init__ : Sp) : TS := (tSeq (tAsg (tTup (tCons (tCall sp__law_depths [] E0 (tCons (mVar 1) (tCons (mC (.int 0)) tNil))) (tCons (tCall sp__law_depths [] E0 (tCons (mVar 2) (tCons (mC (.int 0)) tNil))) tNil))) (mgTup K 2 (mgCons (gName 3) (mgCons (gName 4) mgNil))))
  (tSeq (tAsg (mLc (mRng1 (tCB (mLen K) (tCons (mVar 3) tNil))) (gName 13) tYes (tCB (mInt) (tCons (tOp mSub (tOp (mIx K) (mVar 4) (mVar 13)) (tOp (mIx K) (mVar 3) (mVar 13))) tNil)) [13]) (gName 5))
  (tSeq (tAsg (tCall sp_change [] E0 (tCons (tMake a_Move sp_Move___init__ [] E0 (tCons (tCall sp__law_text [] E0 (tCons (mVar 1) tNil)) (tCons (tCall sp__law_text [] E0 (tCons (mVar 2) tNil)) tNil))) tNil)) (mgTup K 2 (mgCons (gName 6) (mgCons (gName 7) mgNil))))
  (tSeq (tIfS (mTest (tOp (mNe K) (tTup (tCons (mVar 6) (tCons (mVar 7) tNil))) (tTup (tCons (tCB (mMinL K) (tCons (mLc (mIter K (mVar 5)) (gName 1) tYes (tCB (mInt) (tCons (mVar 1) tNil)) [1]) tNil)) (tCons (tCB (mMaxL K) (tCons (mLc (mIter K (mVar 5)) (gName 1) tYes (tCB (mInt) (tCons (mVar 1) tNil)) [1]) tNil)) tNil))))) (tRet (mC (.bl false))) tNext)
  (tSeq (tIfS (mTest (tOp (mNe K) (tCall sp_change [] E0 (tCons (tMake a_Move sp_Move___init__ [] E0 (tCons (tCall sp__law_text [] E0 (tCons (mVar 2) tNil)) (tCons (tCall sp__law_text [] E0 (tCons (mVar 1) tNil)) tNil))) tNil)) (tTup (tCons (tOp mSub (mC (.int 0)) (mVar 7)) (tCons (tOp mSub (mC (.int 0)) (mVar 6)) tNil))))) (tRet (mC (.bl false))) tNext)
  (tSeq (mFor (mIter K (tLst (tCons (mC (.int 1)) (tCons (mC (.int 4)) (tCons (mC (.int 31)) tNil))))) (gName 8) (rd__law_right_b2 K sp__law_depths sp_change sp__law_text sp__law_draw sp__law_done a_Move sp_Move___init__))
  (tSeq (mFor (mIter K (tLst (tCons (mVar 6) (tCons (mVar 7) tNil)))) (gName 12) (rd__law_right_b3 K sp__law_depths sp_change sp__law_text sp__law_draw sp__law_done a_Move sp_Move___init__))
  (tRet (mC (.bl true))))))))))
abbrev N__law_right : List Str := ["_law_purse_here", "_law_one", "_law_other", "_law_first", "_law_second", "_law_apart", "_law_least", "_law_most", "_law_wide", "_law_row", "_law_turn", "_law_found", "_law_due", "_law_at"]
@[reducible] def rd_law_b1 (K : PySem.W.Frag) (sp__law_purse : Sp) (sp__law_draw : Sp) (sp__law_right : Sp) (sp__law_nest : Sp) (sp_change : Sp) (a_TurnError : Addr) (a_InvalidMove : Addr) (D : Ends) (σ : Sl) (H : Hp) : Prop := ((tSeq (tAsg (tCall sp__law_draw [] E0 (tCons (mVar 2) (tCons (mVar 3) tNil))) (gName 4))
  (tIfS (tNot (mTest (tCall sp__law_right [] E0 (tCons (mVar 2) (tCons (tCall sp__law_nest [] E0 (tCons (mVar 2) (tCons (mVar 4) tNil))) (tCons (tCall sp__law_nest [] E0 (tCons (mVar 2) (tCons (mVar 4) tNil))) tNil)))))) (tRet (mC (.bl false))) tNext)) : TS) D σ H
@[reducible] def rd_law_b2 (K : PySem.W.Frag) (sp__law_purse : Sp) (sp__law_draw : Sp) (sp__law_right : Sp) (sp__law_nest : Sp) (sp_change : Sp) (a_TurnError : Addr) (a_InvalidMove : Addr) (D : Ends) (σ : Sl) (H : Hp) : Prop := ((tSeq (tAsg (tCall sp__law_purse [] E0 (tCons (mVar 0) (tCons (mVar 1) tNil))) (gName 2))
  (mFor (mIter K (tLst (tCons (mC (.int 13)) (tCons (tOp (mIx K) (tLst (tCons (mC (.int 13)) (tCons (mC (.int 61)) tNil))) (tCall sp__law_draw [] E0 (tCons (mVar 2) (tCons (mC (.int 2)) tNil)))) tNil)))) (gName 3) (rd_law_b1 K sp__law_purse sp__law_draw sp__law_right sp__law_nest sp_change a_TurnError a_InvalidMove))) : TS) D σ H
@[reducible] def rd_law_b3 (K : PySem.W.Frag) (sp__law_purse : Sp) (sp__law_draw : Sp) (sp__law_right : Sp) (sp__law_nest : Sp) (sp_change : Sp) (a_TurnError : Addr) (a_InvalidMove : Addr) (D : Ends) (σ : Sl) (H : Hp) : Prop := ((tSeq (tAsg (mC .non) (gName 6))
  (tSeq (mTry K (.ref a_TurnError) 7 6 (fun W => (tDrop (tCallSD sp_change [] (WE W) (tCons (mVar 5) tNil)))))
  (tIfS (tOr (tNot (mTest (tCB (mIsiE K) (tCons (mVar 6) (tCons (mC (.ref a_InvalidMove)) tNil))))) (mTest (tOp (mNe K) (tCB (mReprG K) (tCons (mFld K "value" (mVar 6)) tNil)) (tCB (mReprG K) (tCons (mVar 5) tNil))))) (tRet (mC (.bl false))) tNext))) : TS) D σ H
def rd_law (K : PySem.W.Frag) (sp__law_purse : Sp) (sp__law_draw : Sp) (sp__law_right : Sp) (sp__law_nest : Sp) (sp_change : Sp) (a_TurnError : Addr) (a_InvalidMove : Addr) : TS := (tSeq (mFor (mRng1 (mC (.int 3))) (gName 1) (rd_law_b2 K sp__law_purse sp__law_draw sp__law_right sp__law_nest sp_change a_TurnError a_InvalidMove))
  (tSeq (mFor (mIter K (tLst (tCons (mC .non) (tCons (mC (.int 3)) (tCons (mC (.str (S [40, 40, 46, 46, 41, 46, 41]))) (tCons (tTup (tCons (mC (.str (S [40, 40, 46, 46, 41, 46, 41]))) (tCons (mC (.str (S [40, 46, 40, 46, 46, 41, 41]))) tNil))) (tCons (tLst tNil) (tCons (mC (.bl true)) tNil)))))))) (gName 5) (rd_law_b3 K sp__law_purse sp__law_draw sp__law_right sp__law_nest sp_change a_TurnError a_InvalidMove))
  (tRet (mC (.bl true)))))
abbrev N_law : List Str := ["_law_script", "_law_cell", "_law_purse_here", "_law_most", "_law_many", "_law_odd", "_law_caught", "e"]
structure Tx (K : PySem.W.Frag) (mg : Str → Option Value) : Prop where
  f_isinstance : mg "isinstance" = none
  f_str : mg "str" = none
  f_max : mg "max" = none
  f_len : mg "len" = none
  f_enumerate : mg "enumerate" = none
  f_list : mg "list" = none
  f_tuple : mg "tuple" = none
  f_zip : mg "zip" = none
  f_min : mg "min" = none
  f_int : mg "int" = none
  f_sum : mg "sum" = none
  f_range : mg "range" = none
  f_repr : mg "repr" = none
  sm : smB K = true
section
variable {P : Program} {w : World} {K : PySem.W.Frag} {mg : Str → Option Value} {base : Heap} {f : Addr} {fd : FuncData}
abbrev s__wall : Stmt := top 0
theorem sc__wall : FnScope N__wall ["k"] (defScope s__wall) := ⟨rfl, rfl, rfl, by decide +kernel, rfl, by decide +kernel, by decide +kernel⟩
theorem ok__wall {k : Nat} {sp : Sp}  (F : FunD K "_wall" "_wall" (defArgs s__wall) (defBody s__wall) (defScope s__wall) [] [] f fd) (T : Tx K mg)  
    (len : ∀ vs H Q E, sp vs H Q E → vs.length = 1) (pu : ∀ vs H Q E, sp vs H Q E → rd__wall K { nx := fun _ H' => Q .non H', rt := Q } (start N__wall vs) H) :
    FnG P w K mg base CX0 (k + 1) f fd ["k"] sp :=
  okG F sc__wall len fun cdv A outer s H vs Q E hr h => ⟨rd__wall K, PSs.nox (
    have nd := sc__wall.nd
    let N := N__wall
    let scope := defScope s__wall
    (pss_one (ms_while PassesOwn.never (mt_val me_bl) (pss_one ps_pass)))), pu vs H Q E h⟩
abbrev s_is_tree : Stmt := top 9
theorem sc_is_tree : FnScope N_is_tree ["value"] (defScope s_is_tree) := ⟨rfl, rfl, rfl, by decide +kernel, rfl, by decide +kernel, by decide +kernel⟩
theorem ok_is_tree {k : Nat} {sp : Sp}  (F : FunD K "is_tree" "is_tree" (defArgs s_is_tree) (defBody s_is_tree) (defScope s_is_tree) [] [] f fd) (T : Tx K mg)  
    (len : ∀ vs H Q E, sp vs H Q E → vs.length = 1) (pu : ∀ vs H Q E, sp vs H Q E → rd_is_tree K { nx := fun _ H' => Q .non H', rt := Q } (start N_is_tree vs) H) :
    FnG P w K mg base CX0 (k + 1) f fd ["value"] sp :=
  okG F sc_is_tree len fun cdv A outer s H vs Q E hr h => ⟨rd_is_tree K, PSs.nox (
    have nd := sc_is_tree.nd
    let N := N_is_tree
    let scope := defScope s_is_tree
    (pss_cons (ps_if (pt_not (mt_val (pe_callB call_isiM (by rfl) T.f_isinstance (by decide +kernel) (pa_cons (mv 0) (pa_cons (me_ty "str" (by rfl) T.f_str (by decide +kernel)) pa_nil))))) (pss_one (ps_ret me_bl)) pss_nil)
  (pss_cons (ps_set (i := 1) nd rfl (by first | exact Or.inl rfl | exact Or.inr rfl) (me_str [] (by rfl)))
  (pss_cons (ms_for PassesOwn.never rfl (pi_iterM (mv 0)) (pg_name (i := 2) nd rfl (by first | exact Or.inl rfl | exact Or.inr rfl)) (pss_one (ps_if (mt_cmp (op_eqM hr.units) (mv 2) (me_str [41] (by rfl)) (by rfl)) (pss_cons (ps_if (mt_cmp (op_neM hr.units) (me_slice (mv 1) (mo_some (me_neg me_int)) po_none) (me_str [40, 46, 46] (by rfl)) (by rfl)) (pss_one (ps_ret me_bl)) pss_nil)
  (pss_one (ps_set (i := 1) nd rfl (by first | exact Or.inl rfl | exact Or.inr rfl) (pe_op op_addM (me_slice (mv 1) po_none (mo_some (me_neg me_int))) (me_str [46] (by rfl)))))) (pss_one (ps_if (mt_inT (mv 2) (pa_cons (me_str [40] (by rfl)) (pa_cons (me_str [46] (by rfl)) pa_nil))) (pss_one (ps_set (i := 1) nd rfl (by first | exact Or.inl rfl | exact Or.inr rfl) (pe_op op_addM (mv 1) (mv 2)))) (pss_one (ps_ret me_bl)))))))
  (pss_one (ps_ret (pe_cmpR (op_eqM hr.units) (mv 1) (me_str [46] (by rfl)) (by rfl)))))))), pu vs H Q E h⟩
abbrev s_is_address : Stmt := top 10
theorem sc_is_address : FnScope N_is_address ["value"] (defScope s_is_address) := ⟨rfl, rfl, rfl, by decide +kernel, rfl, by decide +kernel, by decide +kernel⟩
theorem ok_is_address {k : Nat} {sp : Sp}  (F : FunD K "is_address" "is_address" (defArgs s_is_address) (defBody s_is_address) (defScope s_is_address) [] [] f fd) (T : Tx K mg)  
    (len : ∀ vs H Q E, sp vs H Q E → vs.length = 1) (pu : ∀ vs H Q E, sp vs H Q E → rd_is_address K { nx := fun _ H' => Q .non H', rt := Q } (start N_is_address vs) H) :
    FnG P w K mg base CX0 (k + 1) f fd ["value"] sp :=
  okG F sc_is_address len fun cdv A outer s H vs Q E hr h => ⟨rd_is_address K, PSs.nox (
    have nd := sc_is_address.nd
    let N := N_is_address
    let scope := defScope s_is_address
    (pss_one (ps_ret (me_and (pe_callB call_isiM (by rfl) T.f_isinstance (by decide +kernel) (pa_cons (mv 0) (pa_cons (me_ty "str" (by rfl) T.f_str (by decide +kernel)) pa_nil))) (pe_one (pe_cmpR (op_eqM hr.units) (me_lc (own := [("letter", 1)]) rfl nd (pi_iterM (mv 0)) (blkOk_by (own := [("letter", 1)]) (N := N) (sc := scope) (by decide +kernel)) (fun _ _ _ _ _ => (pg_name (i := 1) nd rfl (by first | exact Or.inl rfl | exact Or.inr rfl))) (fun _ _ _ _ _ => (pts_one (mt_ninT (mv 1) (pa_cons (me_str [108] (by rfl)) (pa_cons (me_str [114] (by rfl)) pa_nil))))) (fun _ _ _ _ _ => (mv 1))) (pe_lst pa_nil) (by rfl))))))), pu vs H Q E h⟩
abbrev s_check_tree : Stmt := top 11
theorem sc_check_tree : FnScope N_check_tree ["value"] (defScope s_check_tree) := ⟨rfl, rfl, rfl, by decide +kernel, rfl, by decide +kernel, by decide +kernel⟩
theorem ok_check_tree {k : Nat} {sp : Sp} {sp_is_tree : Sp} {k_is_tree : Nat} {p_is_tree : List Str} {a_InvalidTree : Addr} (F : FunD K "check_tree" "check_tree" (defArgs s_check_tree) (defBody s_check_tree) (defScope s_check_tree) [] [] f fd) (T : Tx K mg) (C_is_tree : CalG P w K mg base CX0 "is_tree" k_is_tree p_is_tree [] sp_is_tree) (X_InvalidTree : ExcAt P w K mg "InvalidTree" "value" a_InvalidTree) (l_is_tree : k_is_tree ≤ k)
    (len : ∀ vs H Q E, sp vs H Q E → vs.length = 1) (pu : ∀ vs H Q E, sp vs H Q E → rd_check_tree K sp_is_tree a_InvalidTree E { nx := fun _ H' => Q .non H', rt := Q } (start N_check_tree vs) H) :
    FnG P w K mg base (L2.CX P w) (k + 1) f fd ["value"] sp :=
  okG F sc_check_tree len fun cdv A outer s H vs Q E hr h => ⟨rd_check_tree K sp_is_tree a_InvalidTree E, (
    have nd := sc_check_tree.nd
    let N := N_check_tree
    let scope := defScope s_check_tree
    (pss_one (ps_if (pt_not (mt_val (me_callG C_is_tree (hr.mono l_is_tree) (by rfl) pass0 (pa_cons (mv 0) pa_nil)))) (pss_one (ms_raise X_InvalidTree hr.r0 rfl (takes_of rfl rfl rfl rfl) (by rfl) (pa_cons (mv 0) pa_nil))) pss_nil))), pu vs H Q E h⟩
abbrev s_height : Stmt := top 12
theorem sc_height : FnScope N_height ["tree"] (defScope s_height) := ⟨rfl, rfl, rfl, by decide +kernel, rfl, by decide +kernel, by decide +kernel⟩
theorem ok_height {k : Nat} {sp : Sp} {sp_check_tree : Sp} {sp_addresses_of_leaves : Sp} {k_check_tree : Nat} {p_check_tree : List Str} {k_addresses_of_leaves : Nat} {p_addresses_of_leaves : List Str} (F : FunD K "height" "height" (defArgs s_height) (defBody s_height) (defScope s_height) [] [] f fd) (T : Tx K mg) (C_check_tree : CalG P w K mg base (L2.CX P w) "check_tree" k_check_tree p_check_tree [] sp_check_tree) (C_addresses_of_leaves : CalG P w K mg base CX0 "addresses_of_leaves" k_addresses_of_leaves p_addresses_of_leaves [] sp_addresses_of_leaves) (l_check_tree : k_check_tree ≤ k) (l_addresses_of_leaves : k_addresses_of_leaves ≤ k)
    (len : ∀ vs H Q E, sp vs H Q E → vs.length = 1) (pu : ∀ vs H Q E, sp vs H Q E → rd_height K sp_check_tree sp_addresses_of_leaves E { nx := fun _ H' => Q .non H', rt := Q } (start N_height vs) H) :
    FnG P w K mg base (L2.CX P w) (k + 1) f fd ["tree"] sp :=
  okG F sc_height len fun cdv A outer s H vs Q E hr h => ⟨rd_height K sp_check_tree sp_addresses_of_leaves E, (
    have nd := sc_height.nd
    let N := N_height
    let scope := defScope s_height
    (pss_cons (ps_expr (me_callG C_check_tree (hr.mono l_check_tree) (by rfl) (passes_call (takes_of rfl rfl rfl rfl) fun _ _ _ _ h => h) (pa_cons (mv 0) pa_nil)))
  (pss_one (ps_ret (pe_callB (call_maxLM rfl) (by rfl) T.f_max (by decide +kernel) (pa_cons (me_lc (own := [("address", 1)]) rfl nd (pi_iterM (me_callG C_addresses_of_leaves (hr.mono l_addresses_of_leaves) (by rfl) pass0 (pa_cons (mv 0) pa_nil))) (blkOk_by (own := [("address", 1)]) (N := N) (sc := scope) (by decide +kernel)) (fun _ _ _ _ _ => (pg_name (i := 1) nd rfl (by first | exact Or.inl rfl | exact Or.inr rfl))) (fun _ _ _ _ _ => pts_nil) (fun _ _ _ _ _ => (pe_callB call_lenM (by rfl) T.f_len (by decide +kernel) (pa_cons (mv 1) pa_nil)))) pa_nil)))))), pu vs H Q E h⟩
abbrev s_end_of : Stmt := top 13
theorem sc_end_of : FnScope N_end_of ["tree", "start"] (defScope s_end_of) := ⟨rfl, rfl, rfl, by decide +kernel, rfl, by decide +kernel, by decide +kernel⟩
theorem ok_end_of {k : Nat} {sp : Sp}  (F : FunD K "end_of" "end_of" (defArgs s_end_of) (defBody s_end_of) (defScope s_end_of) [] [] f fd) (T : Tx K mg)  
    (len : ∀ vs H Q E, sp vs H Q E → vs.length = 2) (pu : ∀ vs H Q E, sp vs H Q E → rd_end_of K { nx := fun _ H' => Q .non H', rt := Q } (start N_end_of vs) H) :
    FnG P w K mg base CX0 (k + 1) f fd ["tree", "start"] sp :=
  okG F sc_end_of len fun cdv A outer s H vs Q E hr h => ⟨rd_end_of K, PSs.nox (
    have nd := sc_end_of.nd
    let N := N_end_of
    let scope := defScope s_end_of
    (pss_cons (ps_set (i := 2) nd rfl (by first | exact Or.inl rfl | exact Or.inr rfl) (mv 1))
  (pss_cons (ps_set (i := 3) nd rfl (by first | exact Or.inl rfl | exact Or.inr rfl) me_int)
  (pss_one (ms_while PassesOwn.never (mt_val me_bl) (pss_cons (ps_if (mt_cmp (op_eqM hr.units) (me_ix (mv 0) (mv 2) (fun _ _ => rfl)) (me_str [40] (by rfl)) (by rfl)) (pss_one (ps_set (i := 3) nd rfl (by first | exact Or.inl rfl | exact Or.inr rfl) (pe_op op_addM (mv 3) me_int))) (pss_one (ps_if (mt_cmp (op_eqM hr.units) (me_ix (mv 0) (mv 2) (fun _ _ => rfl)) (me_str [41] (by rfl)) (by rfl)) (pss_one (ps_set (i := 3) nd rfl (by first | exact Or.inl rfl | exact Or.inr rfl) (pe_op op_subM (mv 3) me_int))) pss_nil)))
  (pss_cons (ps_set (i := 2) nd rfl (by first | exact Or.inl rfl | exact Or.inr rfl) (pe_op op_addM (mv 2) me_int))
  (pss_one (ps_if (mt_cmp (op_eqM hr.units) (mv 3) me_int (by rfl)) (pss_one (ps_ret (mv 2))) pss_nil))))))))), pu vs H Q E h⟩
abbrev s_parts_of : Stmt := top 14
theorem sc_parts_of : FnScope N_parts_of ["tree"] (defScope s_parts_of) := ⟨rfl, rfl, rfl, by decide +kernel, rfl, by decide +kernel, by decide +kernel⟩
theorem ok_parts_of {k : Nat} {sp : Sp} {sp_end_of : Sp} {k_end_of : Nat} {p_end_of : List Str} (F : FunD K "parts_of" "parts_of" (defArgs s_parts_of) (defBody s_parts_of) (defScope s_parts_of) [] [] f fd) (T : Tx K mg) (C_end_of : CalG P w K mg base CX0 "end_of" k_end_of p_end_of [] sp_end_of) (l_end_of : k_end_of ≤ k)
    (len : ∀ vs H Q E, sp vs H Q E → vs.length = 1) (pu : ∀ vs H Q E, sp vs H Q E → rd_parts_of K sp_end_of { nx := fun _ H' => Q .non H', rt := Q } (start N_parts_of vs) H) :
    FnG P w K mg base CX0 (k + 1) f fd ["tree"] sp :=
  okG F sc_parts_of len fun cdv A outer s H vs Q E hr h => ⟨rd_parts_of K sp_end_of, PSs.nox (
    have nd := sc_parts_of.nd
    let N := N_parts_of
    let scope := defScope s_parts_of
    (pss_cons (ps_set (i := 1) nd rfl (by first | exact Or.inl rfl | exact Or.inr rfl) (me_callG C_end_of (hr.mono l_end_of) (by rfl) pass0 (pa_cons (mv 0) (pa_cons me_int pa_nil))))
  (pss_one (ps_ret (pe_tup (pa_cons (me_slice (mv 0) (mo_some me_int) (mo_some (mv 1))) (pa_cons (me_slice (mv 0) (mo_some (mv 1)) (mo_some (me_neg me_int))) pa_nil))))))), pu vs H Q E h⟩
abbrev s_place_of : Stmt := top 15
theorem sc_place_of : FnScope N_place_of ["tree", "address"] (defScope s_place_of) := ⟨rfl, rfl, rfl, by decide +kernel, rfl, by decide +kernel, by decide +kernel⟩
theorem ok_place_of {k : Nat} {sp : Sp} {sp_end_of : Sp} {k_end_of : Nat} {p_end_of : List Str} (F : FunD K "place_of" "place_of" (defArgs s_place_of) (defBody s_place_of) (defScope s_place_of) [] [] f fd) (T : Tx K mg) (C_end_of : CalG P w K mg base CX0 "end_of" k_end_of p_end_of [] sp_end_of) (l_end_of : k_end_of ≤ k)
    (len : ∀ vs H Q E, sp vs H Q E → vs.length = 2) (pu : ∀ vs H Q E, sp vs H Q E → rd_place_of K sp_end_of { nx := fun _ H' => Q .non H', rt := Q } (start N_place_of vs) H) :
    FnG P w K mg base CX0 (k + 1) f fd ["tree", "address"] sp :=
  okG F sc_place_of len fun cdv A outer s H vs Q E hr h => ⟨rd_place_of K sp_end_of, PSs.nox (
    have nd := sc_place_of.nd
    let N := N_place_of
    let scope := defScope s_place_of
    (pss_cons (ps_set (i := 2) nd rfl (by first | exact Or.inl rfl | exact Or.inr rfl) me_int)
  (pss_cons (ms_for PassesOwn.never rfl (pi_iterM (mv 1)) (pg_name (i := 3) nd rfl (by first | exact Or.inl rfl | exact Or.inr rfl)) (pss_cons (ps_if (mt_cmp (op_eqM hr.units) (me_ix (mv 0) (mv 2) (fun _ _ => rfl)) (me_str [46] (by rfl)) (by rfl)) (pss_one (ps_ret me_non)) pss_nil)
  (pss_cons (ms_aug (i := 2) nd rfl (by first | exact Or.inl rfl | exact Or.inr rfl) me_int iop_addM)
  (pss_one (ps_if (mt_cmp (op_eqM hr.units) (mv 3) (me_str [114] (by rfl)) (by rfl)) (pss_one (ps_set (i := 2) nd rfl (by first | exact Or.inl rfl | exact Or.inr rfl) (me_callG C_end_of (hr.mono l_end_of) (by rfl) pass0 (pa_cons (mv 0) (pa_cons (mv 2) pa_nil))))) pss_nil)))))
  (pss_one (ps_ret (pe_tup (pa_cons (mv 2) (pa_cons (me_callG C_end_of (hr.mono l_end_of) (by rfl) pass0 (pa_cons (mv 0) (pa_cons (mv 2) pa_nil))) pa_nil)))))))), pu vs H Q E h⟩
abbrev s_part_at : Stmt := top 16
theorem sc_part_at : FnScope N_part_at ["tree", "address"] (defScope s_part_at) := ⟨rfl, rfl, rfl, by decide +kernel, rfl, by decide +kernel, by decide +kernel⟩
theorem ok_part_at {k : Nat} {sp : Sp} {sp_place_of : Sp} {k_place_of : Nat} {p_place_of : List Str} (F : FunD K "part_at" "part_at" (defArgs s_part_at) (defBody s_part_at) (defScope s_part_at) [] [] f fd) (T : Tx K mg) (C_place_of : CalG P w K mg base CX0 "place_of" k_place_of p_place_of [] sp_place_of) (l_place_of : k_place_of ≤ k)
    (len : ∀ vs H Q E, sp vs H Q E → vs.length = 2) (pu : ∀ vs H Q E, sp vs H Q E → rd_part_at K sp_place_of { nx := fun _ H' => Q .non H', rt := Q } (start N_part_at vs) H) :
    FnG P w K mg base CX0 (k + 1) f fd ["tree", "address"] sp :=
  okG F sc_part_at len fun cdv A outer s H vs Q E hr h => ⟨rd_part_at K sp_place_of, PSs.nox (
    have nd := sc_part_at.nd
    let N := N_part_at
    let scope := defScope s_part_at
    (pss_cons (ps_set (i := 2) nd rfl (by first | exact Or.inl rfl | exact Or.inr rfl) (me_callG C_place_of (hr.mono l_place_of) (by rfl) pass0 (pa_cons (mv 0) (pa_cons (mv 1) pa_nil))))
  (pss_one (ps_ret (pe_ifExp (mt_cmp op_isM (mv 2) me_non (by rfl)) me_non (me_slice (mv 0) (mo_some (me_ix (mv 2) me_int (fun _ _ => rfl))) (mo_some (me_ix (mv 2) me_int (fun _ _ => rfl))))))))), pu vs H Q E h⟩
abbrev s_walked : Stmt := top 17
theorem sc_walked : FnScope N_walked ["tree"] (defScope s_walked) := ⟨rfl, rfl, rfl, by decide +kernel, rfl, by decide +kernel, by decide +kernel⟩
theorem ok_walked {k : Nat} {sp : Sp}  (F : FunD K "walked" "walked" (defArgs s_walked) (defBody s_walked) (defScope s_walked) [] [] f fd) (T : Tx K mg)  
    (len : ∀ vs H Q E, sp vs H Q E → vs.length = 1) (pu : ∀ vs H Q E, sp vs H Q E → rd_walked K { nx := fun _ H' => Q .non H', rt := Q } (start N_walked vs) H) :
    FnG P w K mg base CX0 (k + 1) f fd ["tree"] sp :=
  okG F sc_walked len fun cdv A outer s H vs Q E hr h => ⟨rd_walked K, PSs.nox (
    have nd := sc_walked.nd
    let N := N_walked
    let scope := defScope s_walked
    (pss_cons (ms_par3 (i := 1) (j := 2) (l := 3) rfl nd rfl rfl rfl (by decide) (by decide) (by decide) rfl rfl rfl (pa_cons (pe_lst pa_nil) (pa_cons (pe_lst pa_nil) (pa_cons (pe_lst pa_nil) pa_nil))) (by rfl))
  (pss_cons (ms_for PassesOwn.never rfl (pi_iterM (mv 0)) (pg_name (i := 4) nd rfl (by first | exact Or.inl rfl | exact Or.inr rfl)) (pss_one (ps_if (mt_cmp (op_eqM hr.units) (mv 4) (me_str [40] (by rfl)) (by rfl)) (pss_one (ps_expr (me_append (mv 1) (me_str [108] (by rfl))))) (pss_cons (ps_if (mt_cmp (op_eqM hr.units) (mv 4) (me_str [46] (by rfl)) (by rfl)) (pss_one (ps_expr (me_append (mv 2) (me_join (me_str [] (by rfl)) (mv 1))))) (pss_one (ps_expr (me_pop (mv 1)))))
  (pss_one (ps_if (PW.pt (pw_and (mt_cmp (op_neM hr.units) (mv 1) (pe_lst pa_nil) (by rfl)) (pw_and1 (mt_cmp (op_eqM hr.units) (me_ix (mv 1) (me_neg me_int) (fun _ _ => rfl)) (me_str [108] (by rfl)) (by rfl))))) (pss_cons (ps_expr (me_append (mv 3) (me_join (me_str [] (by rfl)) (me_slice (mv 1) po_none (mo_some (me_neg me_int))))))
  (pss_one (ps_asg (me_str [114] (by rfl)) (pg_sub (mv 1) (me_neg me_int) set_listM)))) pss_nil))))))
  (pss_one (ps_ret (pe_tup (pa_cons (mv 2) (pa_cons (mv 3) pa_nil)))))))), pu vs H Q E h⟩
abbrev s_addresses_of_leaves : Stmt := top 18
theorem sc_addresses_of_leaves : FnScope N_addresses_of_leaves ["tree"] (defScope s_addresses_of_leaves) := ⟨rfl, rfl, rfl, by decide +kernel, rfl, by decide +kernel, by decide +kernel⟩
theorem ok_addresses_of_leaves {k : Nat} {sp : Sp} {sp_walked : Sp} {k_walked : Nat} {p_walked : List Str} (F : FunD K "addresses_of_leaves" "addresses_of_leaves" (defArgs s_addresses_of_leaves) (defBody s_addresses_of_leaves) (defScope s_addresses_of_leaves) [] [] f fd) (T : Tx K mg) (C_walked : CalG P w K mg base CX0 "walked" k_walked p_walked [] sp_walked) (l_walked : k_walked ≤ k)
    (len : ∀ vs H Q E, sp vs H Q E → vs.length = 1) (pu : ∀ vs H Q E, sp vs H Q E → rd_addresses_of_leaves K sp_walked { nx := fun _ H' => Q .non H', rt := Q } (start N_addresses_of_leaves vs) H) :
    FnG P w K mg base CX0 (k + 1) f fd ["tree"] sp :=
  okG F sc_addresses_of_leaves len fun cdv A outer s H vs Q E hr h => ⟨rd_addresses_of_leaves K sp_walked, PSs.nox (
    have nd := sc_addresses_of_leaves.nd
    let N := N_addresses_of_leaves
    let scope := defScope s_addresses_of_leaves
    (pss_one (ps_ret (me_ix (me_callG C_walked (hr.mono l_walked) (by rfl) pass0 (pa_cons (mv 0) pa_nil)) me_int (fun _ _ => rfl))))), pu vs H Q E h⟩
abbrev s_put_at : Stmt := top 19
theorem sc_put_at : FnScope N_put_at ["tree", "address", "other"] (defScope s_put_at) := ⟨rfl, rfl, rfl, by decide +kernel, rfl, by decide +kernel, by decide +kernel⟩
theorem ok_put_at {k : Nat} {sp : Sp} {sp_place_of : Sp} {k_place_of : Nat} {p_place_of : List Str} (F : FunD K "put_at" "put_at" (defArgs s_put_at) (defBody s_put_at) (defScope s_put_at) [] [] f fd) (T : Tx K mg) (C_place_of : CalG P w K mg base CX0 "place_of" k_place_of p_place_of [] sp_place_of) (l_place_of : k_place_of ≤ k)
    (len : ∀ vs H Q E, sp vs H Q E → vs.length = 3) (pu : ∀ vs H Q E, sp vs H Q E → rd_put_at K sp_place_of { nx := fun _ H' => Q .non H', rt := Q } (start N_put_at vs) H) :
    FnG P w K mg base CX0 (k + 1) f fd ["tree", "address", "other"] sp :=
  okG F sc_put_at len fun cdv A outer s H vs Q E hr h => ⟨rd_put_at K sp_place_of, PSs.nox (
    have nd := sc_put_at.nd
    let N := N_put_at
    let scope := defScope s_put_at
    (pss_cons (ps_asg (me_callG C_place_of (hr.mono l_place_of) (by rfl) pass0 (pa_cons (mv 0) (pa_cons (mv 1) pa_nil))) (mg_tup rfl (mgs_cons (pg_name (i := 3) nd rfl (by first | exact Or.inl rfl | exact Or.inr rfl)) (mgs_cons (pg_name (i := 4) nd rfl (by first | exact Or.inl rfl | exact Or.inr rfl)) mgs_nil))))
  (pss_one (ps_ret (pe_op op_addM (pe_op op_addM (me_slice (mv 0) po_none (mo_some (mv 3))) (mv 2)) (me_slice (mv 0) (mo_some (mv 4)) po_none)))))), pu vs H Q E h⟩
abbrev s_grown_by : Stmt := top 20
theorem sc_grown_by : FnScope N_grown_by ["tree", "trees"] (defScope s_grown_by) := ⟨rfl, rfl, rfl, by decide +kernel, rfl, by decide +kernel, by decide +kernel⟩
theorem ok_grown_by {k : Nat} {sp : Sp}  (F : FunD K "grown_by" "grown_by" (defArgs s_grown_by) (defBody s_grown_by) (defScope s_grown_by) [] [] f fd) (T : Tx K mg)  
    (len : ∀ vs H Q E, sp vs H Q E → vs.length = 2) (pu : ∀ vs H Q E, sp vs H Q E → rd_grown_by K { nx := fun _ H' => Q .non H', rt := Q } (start N_grown_by vs) H) :
    FnG P w K mg base CX0 (k + 1) f fd ["tree", "trees"] sp :=
  okG F sc_grown_by len fun cdv A outer s H vs Q E hr h => ⟨rd_grown_by K, PSs.nox (
    have nd := sc_grown_by.nd
    let N := N_grown_by
    let scope := defScope s_grown_by
    (pss_cons (ps_set (i := 2) nd rfl (by first | exact Or.inl rfl | exact Or.inr rfl) (me_split (mv 0) (me_str [46] (by rfl))))
  (pss_one (ps_ret (pe_op op_addM (me_ix (mv 2) me_int (fun _ _ => rfl)) (me_join (me_str [] (by rfl)) (me_lc (own := [("number", 3), ("other", 4)]) rfl nd (pi_enumM (by rfl) T.f_enumerate (mv 1)) (blkOk_by (own := [("number", 3), ("other", 4)]) (N := N) (sc := scope) (by decide +kernel)) (fun _ _ _ _ _ => (mg_tup rfl (mgs_cons (pg_name (i := 3) nd rfl (by first | exact Or.inl rfl | exact Or.inr rfl)) (mgs_cons (pg_name (i := 4) nd rfl (by first | exact Or.inl rfl | exact Or.inr rfl)) mgs_nil)))) (fun _ _ _ _ _ => pts_nil) (fun _ _ _ _ _ => (pe_op op_addM (mv 4) (me_ix (mv 2) (pe_op op_addM (mv 3) me_int) (fun _ _ => rfl))))))))))), pu vs H Q E h⟩
abbrev s_grown : Stmt := top 21
theorem sc_grown : FnScope N_grown ["tree", "hung"] (defScope s_grown) := ⟨rfl, rfl, rfl, by decide +kernel, rfl, by decide +kernel, by decide +kernel⟩
theorem ok_grown {k : Nat} {sp : Sp} {sp_check_tree : Sp} {sp_is_tree : Sp} {sp_grown_by : Sp} {k_check_tree : Nat} {p_check_tree : List Str} {k_is_tree : Nat} {p_is_tree : List Str} {k_grown_by : Nat} {p_grown_by : List Str} {a_InvalidList : Addr} (F : FunD K "grown" "grown" (defArgs s_grown) (defBody s_grown) (defScope s_grown) [] [] f fd) (T : Tx K mg) (C_check_tree : CalG P w K mg base (L2.CX P w) "check_tree" k_check_tree p_check_tree [] sp_check_tree) (C_is_tree : CalG P w K mg base CX0 "is_tree" k_is_tree p_is_tree [] sp_is_tree) (C_grown_by : CalG P w K mg base CX0 "grown_by" k_grown_by p_grown_by [] sp_grown_by) (X_InvalidList : ExcAt P w K mg "InvalidList" "value" a_InvalidList) (l_check_tree : k_check_tree ≤ k) (l_is_tree : k_is_tree ≤ k) (l_grown_by : k_grown_by ≤ k)
    (len : ∀ vs H Q E, sp vs H Q E → vs.length = 2) (pu : ∀ vs H Q E, sp vs H Q E → rd_grown K sp_check_tree sp_is_tree sp_grown_by a_InvalidList E { nx := fun _ H' => Q .non H', rt := Q } (start N_grown vs) H) :
    FnG P w K mg base (L2.CX P w) (k + 1) f fd ["tree", "hung"] sp :=
  okG F sc_grown len fun cdv A outer s H vs Q E hr h => ⟨rd_grown K sp_check_tree sp_is_tree sp_grown_by a_InvalidList E, (
    have nd := sc_grown.nd
    let N := N_grown
    let scope := defScope s_grown
    (pss_cons (ps_expr (me_callG C_check_tree (hr.mono l_check_tree) (by rfl) (passes_call (takes_of rfl rfl rfl rfl) fun _ _ _ _ h => h) (pa_cons (mv 0) pa_nil)))
  (pss_cons (ps_if (PW.pt (pw_or (pt_not (mt_val (pe_callB call_isiM (by rfl) T.f_isinstance (by decide +kernel) (pa_cons (mv 1) (pa_cons (me_ty "list" (by rfl) T.f_list (by decide +kernel)) pa_nil))))) (pw_or1 (mt_cmp (op_neM hr.units) (pe_callB call_lenM (by rfl) T.f_len (by decide +kernel) (pa_cons (mv 1) pa_nil)) (me_count (mv 0) (me_str [46] (by rfl))) (by rfl))))) (pss_one (ms_raise X_InvalidList hr.r0 rfl (takes_of rfl rfl rfl rfl) (by rfl) (pa_cons (mv 1) pa_nil))) pss_nil)
  (pss_cons (ps_if (mt_cmp (op_neE hr.units) (me_lc (own := [("other", 2)]) rfl nd (pi_iterM (mv 1)) (blkOk_by (own := [("other", 2)]) (N := N) (sc := scope) (by decide +kernel)) (fun _ _ _ _ _ => (pg_name (i := 2) nd rfl (by first | exact Or.inl rfl | exact Or.inr rfl))) (fun _ _ _ _ _ => (pts_one (pt_not (mt_val (me_callG C_is_tree (hr.mono l_is_tree) (by rfl) pass0 (pa_cons (mv 2) pa_nil)))))) (fun _ _ _ _ _ => (mv 2))) (pe_lst pa_nil) (by rfl)) (pss_one (ms_raise X_InvalidList hr.r0 rfl (takes_of rfl rfl rfl rfl) (by rfl) (pa_cons (mv 1) pa_nil))) pss_nil)
  (pss_one (ps_ret (me_callG C_grown_by (hr.mono l_grown_by) (by rfl) pass0 (pa_cons (mv 0) (pa_cons (mv 1) pa_nil))))))))), pu vs H Q E h⟩
abbrev s_hung_on : Stmt := top 22
theorem sc_hung_on : FnScope N_hung_on ["tree", "top"] (defScope s_hung_on) := ⟨rfl, rfl, rfl, by decide +kernel, rfl, by decide +kernel, by decide +kernel⟩
theorem ok_hung_on {k : Nat} {sp : Sp} {sp_end_of : Sp} {k_end_of : Nat} {p_end_of : List Str} (F : FunD K "hung_on" "hung_on" (defArgs s_hung_on) (defBody s_hung_on) (defScope s_hung_on) [] [] f fd) (T : Tx K mg) (C_end_of : CalG P w K mg base CX0 "end_of" k_end_of p_end_of [] sp_end_of) (l_end_of : k_end_of ≤ k)
    (len : ∀ vs H Q E, sp vs H Q E → vs.length = 2) (pu : ∀ vs H Q E, sp vs H Q E → rd_hung_on K sp_end_of { nx := fun _ H' => Q .non H', rt := Q } (start N_hung_on vs) H) :
    FnG P w K mg base CX0 (k + 1) f fd ["tree", "top"] sp :=
  okG F sc_hung_on len fun cdv A outer s H vs Q E hr h => ⟨rd_hung_on K sp_end_of, PSs.nox (
    have nd := sc_hung_on.nd
    let N := N_hung_on
    let scope := defScope s_hung_on
    (pss_cons (ps_set (i := 2) nd rfl (by first | exact Or.inl rfl | exact Or.inr rfl) (pe_lst pa_nil))
  (pss_cons (ps_set (i := 3) nd rfl (by first | exact Or.inl rfl | exact Or.inr rfl) me_int)
  (pss_cons (ms_for PassesOwn.never rfl (pi_iterM (mv 1)) (pg_name (i := 4) nd rfl (by first | exact Or.inl rfl | exact Or.inr rfl)) (pss_one (ps_if (mt_cmp (op_eqM hr.units) (mv 4) (me_str [46] (by rfl)) (by rfl)) (pss_cons (ps_set (i := 5) nd rfl (by first | exact Or.inl rfl | exact Or.inr rfl) (me_callG C_end_of (hr.mono l_end_of) (by rfl) pass0 (pa_cons (mv 0) (pa_cons (mv 3) pa_nil))))
  (pss_cons (ps_set (i := 2) nd rfl (by first | exact Or.inl rfl | exact Or.inr rfl) (pe_op op_addM (mv 2) (pe_lst (pa_cons (me_slice (mv 0) (mo_some (mv 3)) (mo_some (mv 5))) pa_nil))))
  (pss_one (ps_set (i := 3) nd rfl (by first | exact Or.inl rfl | exact Or.inr rfl) (mv 5))))) (pss_one (ps_if (mt_cmp (op_eqM hr.units) (me_ix (mv 0) (mv 3) (fun _ _ => rfl)) (mv 4) (by rfl)) (pss_one (ps_set (i := 3) nd rfl (by first | exact Or.inl rfl | exact Or.inr rfl) (pe_op op_addM (mv 3) me_int))) (pss_one (ps_ret me_non)))))))
  (pss_one (ps_ret (mv 2))))))), pu vs H Q E h⟩
abbrev s_joined_trees : Stmt := top 23
theorem sc_joined_trees : FnScope N_joined_trees ["one", "other"] (defScope s_joined_trees) := ⟨rfl, rfl, rfl, by decide +kernel, rfl, by decide +kernel, by decide +kernel⟩
theorem ok_joined_trees {k : Nat} {sp : Sp} {sp_end_of : Sp} {k_end_of : Nat} {p_end_of : List Str} (F : FunD K "joined_trees" "joined_trees" (defArgs s_joined_trees) (defBody s_joined_trees) (defScope s_joined_trees) [] [] f fd) (T : Tx K mg) (C_end_of : CalG P w K mg base CX0 "end_of" k_end_of p_end_of [] sp_end_of) (l_end_of : k_end_of ≤ k)
    (len : ∀ vs H Q E, sp vs H Q E → vs.length = 2) (pu : ∀ vs H Q E, sp vs H Q E → rd_joined_trees K sp_end_of { nx := fun _ H' => Q .non H', rt := Q } (start N_joined_trees vs) H) :
    FnG P w K mg base CX0 (k + 1) f fd ["one", "other"] sp :=
  okG F sc_joined_trees len fun cdv A outer s H vs Q E hr h => ⟨rd_joined_trees K sp_end_of, PSs.nox (
    have nd := sc_joined_trees.nd
    let N := N_joined_trees
    let scope := defScope s_joined_trees
    (pss_cons (ps_set (i := 2) nd rfl (by first | exact Or.inl rfl | exact Or.inr rfl) (me_str [] (by rfl)))
  (pss_cons (ps_set (i := 3) nd rfl (by first | exact Or.inl rfl | exact Or.inr rfl) me_int)
  (pss_cons (ps_set (i := 4) nd rfl (by first | exact Or.inl rfl | exact Or.inr rfl) me_int)
  (pss_cons (ms_while PassesOwn.never (mt_cmp op_ltM (mv 3) (pe_callB call_lenM (by rfl) T.f_len (by decide +kernel) (pa_cons (mv 0) pa_nil)) (by rfl)) (pss_one (ps_if (mt_cmp (op_eqM hr.units) (me_ix (mv 0) (mv 3) (fun _ _ => rfl)) (me_str [46] (by rfl)) (by rfl)) (pss_cons (ps_set (i := 5) nd rfl (by first | exact Or.inl rfl | exact Or.inr rfl) (me_callG C_end_of (hr.mono l_end_of) (by rfl) pass0 (pa_cons (mv 1) (pa_cons (mv 4) pa_nil))))
  (pss_cons (ps_set (i := 2) nd rfl (by first | exact Or.inl rfl | exact Or.inr rfl) (pe_op op_addM (mv 2) (me_slice (mv 1) (mo_some (mv 4)) (mo_some (mv 5)))))
  (pss_cons (ps_set (i := 3) nd rfl (by first | exact Or.inl rfl | exact Or.inr rfl) (pe_op op_addM (mv 3) me_int))
  (pss_one (ps_set (i := 4) nd rfl (by first | exact Or.inl rfl | exact Or.inr rfl) (mv 5)))))) (pss_one (ps_if (mt_cmp (op_eqM hr.units) (me_ix (mv 1) (mv 4) (fun _ _ => rfl)) (me_str [46] (by rfl)) (by rfl)) (pss_cons (ps_set (i := 5) nd rfl (by first | exact Or.inl rfl | exact Or.inr rfl) (me_callG C_end_of (hr.mono l_end_of) (by rfl) pass0 (pa_cons (mv 0) (pa_cons (mv 3) pa_nil))))
  (pss_cons (ps_set (i := 2) nd rfl (by first | exact Or.inl rfl | exact Or.inr rfl) (pe_op op_addM (mv 2) (me_slice (mv 0) (mo_some (mv 3)) (mo_some (mv 5)))))
  (pss_cons (ps_set (i := 3) nd rfl (by first | exact Or.inl rfl | exact Or.inr rfl) (mv 5))
  (pss_one (ps_set (i := 4) nd rfl (by first | exact Or.inl rfl | exact Or.inr rfl) (pe_op op_addM (mv 4) me_int)))))) (pss_cons (ps_set (i := 2) nd rfl (by first | exact Or.inl rfl | exact Or.inr rfl) (pe_op op_addM (mv 2) (me_ix (mv 0) (mv 3) (fun _ _ => rfl))))
  (pss_cons (ps_set (i := 3) nd rfl (by first | exact Or.inl rfl | exact Or.inr rfl) (pe_op op_addM (mv 3) me_int))
  (pss_one (ps_set (i := 4) nd rfl (by first | exact Or.inl rfl | exact Or.inr rfl) (pe_op op_addM (mv 4) me_int))))))))))
  (pss_one (ps_ret (mv 2)))))))), pu vs H Q E h⟩
abbrev s_is_step : Stmt := top 27
theorem sc_is_step : FnScope N_is_step ["value"] (defScope s_is_step) := ⟨rfl, rfl, rfl, by decide +kernel, rfl, by decide +kernel, by decide +kernel⟩
theorem ok_is_step {k : Nat} {sp : Sp} {sp_is_address : Sp} {k_is_address : Nat} {p_is_address : List Str} {a_OTHER_WORD : Addr} (F : FunD K "is_step" "is_step" (defArgs s_is_step) (defBody s_is_step) (defScope s_is_step) [] [] f fd) (T : Tx K mg) (C_is_address : CalG P w K mg base CX0 "is_address" k_is_address p_is_address [] sp_is_address) (D_OTHER_WORD : mg "OTHER_WORD" = some (.ref a_OTHER_WORD) ∧ TabAt K w a_OTHER_WORD rows_OTHER_WORD) (l_is_address : k_is_address ≤ k)
    (len : ∀ vs H Q E, sp vs H Q E → vs.length = 1) (pu : ∀ vs H Q E, sp vs H Q E → rd_is_step K sp_is_address a_OTHER_WORD { nx := fun _ H' => Q .non H', rt := Q } (start N_is_step vs) H) :
    FnG P w K mg base CX0 (k + 1) f fd ["value"] sp :=
  okG F sc_is_step len fun cdv A outer s H vs Q E hr h => ⟨rd_is_step K sp_is_address a_OTHER_WORD, PSs.nox (
    have nd := sc_is_step.nd
    let N := N_is_step
    let scope := defScope s_is_step
    (pss_cons (ps_if (PW.pt (pw_or (pt_not (mt_val (pe_callB call_isiM (by rfl) T.f_isinstance (by decide +kernel) (pa_cons (mv 0) (pa_cons (me_ty "tuple" (by rfl) T.f_tuple (by decide +kernel)) pa_nil))))) (pw_or1 (mt_cmp (op_neM hr.units) (pe_callB call_lenM (by rfl) T.f_len (by decide +kernel) (pa_cons (mv 0) pa_nil)) me_int (by rfl))))) (pss_one (ps_ret me_bl)) pss_nil)
  (pss_one (ps_ret (me_and (pe_callB call_isiM (by rfl) T.f_isinstance (by decide +kernel) (pa_cons (me_ix (mv 0) me_int (fun _ _ => rfl)) (pa_cons (me_ty "str" (by rfl) T.f_str (by decide +kernel)) pa_nil))) (me_and (pe_cmpR (op_inTab D_OTHER_WORD.2) (me_ix (mv 0) me_int (fun _ _ => rfl)) (pe_glob (by rfl) D_OTHER_WORD.1 rfl) (by rfl)) (pe_one (me_callG C_is_address (hr.mono l_is_address) (by rfl) pass0 (pa_cons (me_ix (mv 0) me_int (fun _ _ => rfl)) pa_nil))))))))), pu vs H Q E h⟩
abbrev s_check_script : Stmt := top 28
theorem sc_check_script : FnScope N_check_script ["value"] (defScope s_check_script) := ⟨rfl, rfl, rfl, by decide +kernel, rfl, by decide +kernel, by decide +kernel⟩
theorem ok_check_script {k : Nat} {sp : Sp} {sp_is_step : Sp} {k_is_step : Nat} {p_is_step : List Str} {a_InvalidScript : Addr} (F : FunD K "check_script" "check_script" (defArgs s_check_script) (defBody s_check_script) (defScope s_check_script) [] [] f fd) (T : Tx K mg) (C_is_step : CalG P w K mg base CX0 "is_step" k_is_step p_is_step [] sp_is_step) (X_InvalidScript : ExcAt P w K mg "InvalidScript" "value" a_InvalidScript) (l_is_step : k_is_step ≤ k)
    (len : ∀ vs H Q E, sp vs H Q E → vs.length = 1) (pu : ∀ vs H Q E, sp vs H Q E → rd_check_script K sp_is_step a_InvalidScript E { nx := fun _ H' => Q .non H', rt := Q } (start N_check_script vs) H) :
    FnG P w K mg base (L2.CX P w) (k + 1) f fd ["value"] sp :=
  okG F sc_check_script len fun cdv A outer s H vs Q E hr h => ⟨rd_check_script K sp_is_step a_InvalidScript E, (
    have nd := sc_check_script.nd
    let N := N_check_script
    let scope := defScope s_check_script
    (pss_one (ps_if (PW.pt (pw_or (pt_not (mt_val (pe_callB call_isiM (by rfl) T.f_isinstance (by decide +kernel) (pa_cons (mv 0) (pa_cons (me_ty "list" (by rfl) T.f_list (by decide +kernel)) pa_nil))))) (pw_or1 (mt_cmp (op_neE hr.units) (me_lc (own := [("step", 1)]) rfl nd (pi_iterM (mv 0)) (blkOk_by (own := [("step", 1)]) (N := N) (sc := scope) (by decide +kernel)) (fun _ _ _ _ _ => (pg_name (i := 1) nd rfl (by first | exact Or.inl rfl | exact Or.inr rfl))) (fun _ _ _ _ _ => (pts_one (pt_not (mt_val (me_callG C_is_step (hr.mono l_is_step) (by rfl) pass0 (pa_cons (mv 1) pa_nil)))))) (fun _ _ _ _ _ => (mv 1))) (pe_lst pa_nil) (by rfl))))) (pss_one (ms_raise X_InvalidScript hr.r0 rfl (takes_of rfl rfl rfl rfl) (by rfl) (pa_cons (mv 0) pa_nil))) pss_nil))), pu vs H Q E h⟩
abbrev s_turned_piece : Stmt := top 29
theorem sc_turned_piece : FnScope N_turned_piece ["piece", "word"] (defScope s_turned_piece) := ⟨rfl, rfl, rfl, by decide +kernel, rfl, by decide +kernel, by decide +kernel⟩
theorem ok_turned_piece {k : Nat} {sp : Sp} {sp_parts_of : Sp} {k_parts_of : Nat} {p_parts_of : List Str} (F : FunD K "turned_piece" "turned_piece" (defArgs s_turned_piece) (defBody s_turned_piece) (defScope s_turned_piece) [] [] f fd) (T : Tx K mg) (C_parts_of : CalG P w K mg base CX0 "parts_of" k_parts_of p_parts_of [] sp_parts_of) (l_parts_of : k_parts_of ≤ k)
    (len : ∀ vs H Q E, sp vs H Q E → vs.length = 2) (pu : ∀ vs H Q E, sp vs H Q E → rd_turned_piece K sp_parts_of { nx := fun _ H' => Q .non H', rt := Q } (start N_turned_piece vs) H) :
    FnG P w K mg base CX0 (k + 1) f fd ["piece", "word"] sp :=
  okG F sc_turned_piece len fun cdv A outer s H vs Q E hr h => ⟨rd_turned_piece K sp_parts_of, PSs.nox (
    have nd := sc_turned_piece.nd
    let N := N_turned_piece
    let scope := defScope s_turned_piece
    (pss_cons (ps_if (PW.pt (pw_or (mt_cmp op_isM (mv 0) me_non (by rfl)) (pw_or1 (mt_cmp (op_eqM hr.units) (mv 0) (me_str [46] (by rfl)) (by rfl))))) (pss_one (ps_ret me_non)) pss_nil)
  (pss_cons (ps_asg (me_callG C_parts_of (hr.mono l_parts_of) (by rfl) pass0 (pa_cons (mv 0) pa_nil)) (mg_tup rfl (mgs_cons (pg_name (i := 2) nd rfl (by first | exact Or.inl rfl | exact Or.inr rfl)) (mgs_cons (pg_name (i := 3) nd rfl (by first | exact Or.inl rfl | exact Or.inr rfl)) mgs_nil))))
  (pss_cons (ps_if (mt_cmp (op_eqM hr.units) (mv 1) (me_str [114, 105, 103, 104, 116] (by rfl)) (by rfl)) (pss_cons (ps_if (mt_cmp (op_eqM hr.units) (mv 2) (me_str [46] (by rfl)) (by rfl)) (pss_one (ps_ret me_non)) pss_nil)
  (pss_cons (ps_asg (me_callG C_parts_of (hr.mono l_parts_of) (by rfl) pass0 (pa_cons (mv 2) pa_nil)) (mg_tup rfl (mgs_cons (pg_name (i := 4) nd rfl (by first | exact Or.inl rfl | exact Or.inr rfl)) (mgs_cons (pg_name (i := 5) nd rfl (by first | exact Or.inl rfl | exact Or.inr rfl)) mgs_nil))))
  (pss_one (ps_ret (pe_op op_addM (pe_op op_addM (pe_op op_addM (pe_op op_addM (pe_op op_addM (me_str [40] (by rfl)) (mv 4)) (me_str [40] (by rfl))) (mv 5)) (mv 3)) (me_str [41, 41] (by rfl))))))) pss_nil)
  (pss_cons (ps_if (mt_cmp (op_eqM hr.units) (mv 3) (me_str [46] (by rfl)) (by rfl)) (pss_one (ps_ret me_non)) pss_nil)
  (pss_cons (ps_asg (me_callG C_parts_of (hr.mono l_parts_of) (by rfl) pass0 (pa_cons (mv 3) pa_nil)) (mg_tup rfl (mgs_cons (pg_name (i := 4) nd rfl (by first | exact Or.inl rfl | exact Or.inr rfl)) (mgs_cons (pg_name (i := 5) nd rfl (by first | exact Or.inl rfl | exact Or.inr rfl)) mgs_nil))))
  (pss_one (ps_ret (pe_op op_addM (pe_op op_addM (pe_op op_addM (pe_op op_addM (pe_op op_addM (me_str [40, 40] (by rfl)) (mv 2)) (mv 4)) (me_str [41] (by rfl))) (mv 5)) (me_str [41] (by rfl))))))))))), pu vs H Q E h⟩
abbrev s_turned_once : Stmt := top 30
theorem sc_turned_once : FnScope N_turned_once ["tree", "step"] (defScope s_turned_once) := ⟨rfl, rfl, rfl, by decide +kernel, rfl, by decide +kernel, by decide +kernel⟩
theorem ok_turned_once {k : Nat} {sp : Sp} {sp_turned_piece : Sp} {sp_part_at : Sp} {sp_put_at : Sp} {k_part_at : Nat} {p_part_at : List Str} {k_turned_piece : Nat} {p_turned_piece : List Str} {k_put_at : Nat} {p_put_at : List Str} (F : FunD K "turned_once" "turned_once" (defArgs s_turned_once) (defBody s_turned_once) (defScope s_turned_once) [] [] f fd) (T : Tx K mg) (C_part_at : CalG P w K mg base CX0 "part_at" k_part_at p_part_at [] sp_part_at) (C_turned_piece : CalG P w K mg base CX0 "turned_piece" k_turned_piece p_turned_piece [] sp_turned_piece) (C_put_at : CalG P w K mg base CX0 "put_at" k_put_at p_put_at [] sp_put_at) (l_part_at : k_part_at ≤ k) (l_turned_piece : k_turned_piece ≤ k) (l_put_at : k_put_at ≤ k)
    (len : ∀ vs H Q E, sp vs H Q E → vs.length = 2) (pu : ∀ vs H Q E, sp vs H Q E → rd_turned_once K sp_turned_piece sp_part_at sp_put_at { nx := fun _ H' => Q .non H', rt := Q } (start N_turned_once vs) H) :
    FnG P w K mg base CX0 (k + 1) f fd ["tree", "step"] sp :=
  okG F sc_turned_once len fun cdv A outer s H vs Q E hr h => ⟨rd_turned_once K sp_turned_piece sp_part_at sp_put_at, PSs.nox (
    have nd := sc_turned_once.nd
    let N := N_turned_once
    let scope := defScope s_turned_once
    (pss_cons (ps_asg (mv 1) (mg_seq rfl (mgs_cons (pg_name (i := 2) nd rfl (by first | exact Or.inl rfl | exact Or.inr rfl)) (mgs_cons (pg_name (i := 3) nd rfl (by first | exact Or.inl rfl | exact Or.inr rfl)) mgs_nil))))
  (pss_cons (ps_set (i := 4) nd rfl (by first | exact Or.inl rfl | exact Or.inr rfl) (me_callG C_turned_piece (hr.mono l_turned_piece) (by rfl) pass0 (pa_cons (me_callG C_part_at (hr.mono l_part_at) (by rfl) pass0 (pa_cons (mv 0) (pa_cons (mv 3) pa_nil))) (pa_cons (mv 2) pa_nil))))
  (pss_one (ps_ret (pe_ifExp (mt_cmp op_isM (mv 4) me_non (by rfl)) me_non (me_callG C_put_at (hr.mono l_put_at) (by rfl) pass0 (pa_cons (mv 0) (pa_cons (mv 3) (pa_cons (mv 4) pa_nil)))))))))), pu vs H Q E h⟩
abbrev s_road_tree : Stmt := top 31
theorem sc_road_tree : FnScope N_road_tree ["letters"] (defScope s_road_tree) := ⟨rfl, rfl, rfl, by decide +kernel, rfl, by decide +kernel, by decide +kernel⟩
theorem ok_road_tree {k : Nat} {sp : Sp}  (F : FunD K "road_tree" "road_tree" (defArgs s_road_tree) (defBody s_road_tree) (defScope s_road_tree) [] [] f fd) (T : Tx K mg)  
    (len : ∀ vs H Q E, sp vs H Q E → vs.length = 1) (pu : ∀ vs H Q E, sp vs H Q E → rd_road_tree K { nx := fun _ H' => Q .non H', rt := Q } (start N_road_tree vs) H) :
    FnG P w K mg base CX0 (k + 1) f fd ["letters"] sp :=
  okG F sc_road_tree len fun cdv A outer s H vs Q E hr h => ⟨rd_road_tree K, PSs.nox (
    have nd := sc_road_tree.nd
    let N := N_road_tree
    let scope := defScope s_road_tree
    (pss_cons (ps_set (i := 1) nd rfl (by first | exact Or.inl rfl | exact Or.inr rfl) (me_str [40, 46, 46, 41] (by rfl)))
  (pss_cons (ms_for PassesOwn.never rfl (pi_iterM (me_revS (mv 0))) (pg_name (i := 2) nd rfl (by first | exact Or.inl rfl | exact Or.inr rfl)) (pss_one (ps_set (i := 1) nd rfl (by first | exact Or.inl rfl | exact Or.inr rfl) (pe_ifExp (mt_cmp (op_eqM hr.units) (mv 2) (me_str [108] (by rfl)) (by rfl)) (pe_op op_addM (pe_op op_addM (me_str [40] (by rfl)) (mv 1)) (me_str [46, 41] (by rfl))) (pe_op op_addM (pe_op op_addM (me_str [40, 46] (by rfl)) (mv 1)) (me_str [41] (by rfl)))))))
  (pss_one (ps_ret (mv 1)))))), pu vs H Q E h⟩
abbrev s_leaf_on : Stmt := top 32
theorem sc_leaf_on : FnScope N_leaf_on ["tree", "path"] (defScope s_leaf_on) := ⟨rfl, rfl, rfl, by decide +kernel, rfl, by decide +kernel, by decide +kernel⟩
theorem ok_leaf_on {k : Nat} {sp : Sp} {sp_end_of : Sp} {k_end_of : Nat} {p_end_of : List Str} (F : FunD K "leaf_on" "leaf_on" (defArgs s_leaf_on) (defBody s_leaf_on) (defScope s_leaf_on) [] [] f fd) (T : Tx K mg) (C_end_of : CalG P w K mg base CX0 "end_of" k_end_of p_end_of [] sp_end_of) (l_end_of : k_end_of ≤ k)
    (len : ∀ vs H Q E, sp vs H Q E → vs.length = 2) (pu : ∀ vs H Q E, sp vs H Q E → rd_leaf_on K sp_end_of { nx := fun _ H' => Q .non H', rt := Q } (start N_leaf_on vs) H) :
    FnG P w K mg base CX0 (k + 1) f fd ["tree", "path"] sp :=
  okG F sc_leaf_on len fun cdv A outer s H vs Q E hr h => ⟨rd_leaf_on K sp_end_of, PSs.nox (
    have nd := sc_leaf_on.nd
    let N := N_leaf_on
    let scope := defScope s_leaf_on
    (pss_cons (ps_set (i := 2) nd rfl (by first | exact Or.inl rfl | exact Or.inr rfl) me_int)
  (pss_cons (ms_for PassesOwn.never rfl (pi_enumSM (by rfl) T.f_enumerate (mv 1)) (mg_tup rfl (mgs_cons (pg_name (i := 3) nd rfl (by first | exact Or.inl rfl | exact Or.inr rfl)) (mgs_cons (pg_name (i := 4) nd rfl (by first | exact Or.inl rfl | exact Or.inr rfl)) mgs_nil))) (pss_cons (ps_if (mt_cmp (op_eqM hr.units) (me_ix (mv 0) (mv 2) (fun _ _ => rfl)) (me_str [46] (by rfl)) (by rfl)) (pss_one (ps_ret (pe_tup (pa_cons (mv 3) (pa_cons (me_count (me_slice (mv 0) po_none (mo_some (mv 2))) (me_str [46] (by rfl))) pa_nil))))) pss_nil)
  (pss_cons (ms_aug (i := 2) nd rfl (by first | exact Or.inl rfl | exact Or.inr rfl) me_int iop_addM)
  (pss_one (ps_if (mt_cmp (op_eqM hr.units) (mv 4) (me_str [114] (by rfl)) (by rfl)) (pss_one (ps_set (i := 2) nd rfl (by first | exact Or.inl rfl | exact Or.inr rfl) (me_callG C_end_of (hr.mono l_end_of) (by rfl) pass0 (pa_cons (mv 0) (pa_cons (mv 2) pa_nil))))) pss_nil)))))
  (pss_one (ps_ret (pe_ifExp (mt_cmp (op_eqM hr.units) (me_ix (mv 0) (mv 2) (fun _ _ => rfl)) (me_str [46] (by rfl)) (by rfl)) (pe_tup (pa_cons (pe_callB call_lenM (by rfl) T.f_len (by decide +kernel) (pa_cons (mv 1) pa_nil)) (pa_cons (me_count (me_slice (mv 0) po_none (mo_some (mv 2))) (me_str [46] (by rfl))) pa_nil))) me_non)))))), pu vs H Q E h⟩
abbrev s_sprouted : Stmt := top 33
theorem sc_sprouted : FnScope N_sprouted ["tree", "number", "piece"] (defScope s_sprouted) := ⟨rfl, rfl, rfl, by decide +kernel, rfl, by decide +kernel, by decide +kernel⟩
theorem ok_sprouted {k : Nat} {sp : Sp}  (F : FunD K "sprouted" "sprouted" (defArgs s_sprouted) (defBody s_sprouted) (defScope s_sprouted) [] [] f fd) (T : Tx K mg)  
    (len : ∀ vs H Q E, sp vs H Q E → vs.length = 3) (pu : ∀ vs H Q E, sp vs H Q E → rd_sprouted K { nx := fun _ H' => Q .non H', rt := Q } (start N_sprouted vs) H) :
    FnG P w K mg base CX0 (k + 1) f fd ["tree", "number", "piece"] sp :=
  okG F sc_sprouted len fun cdv A outer s H vs Q E hr h => ⟨rd_sprouted K, PSs.nox (
    have nd := sc_sprouted.nd
    let N := N_sprouted
    let scope := defScope s_sprouted
    (pss_cons (ps_set (i := 3) nd rfl (by first | exact Or.inl rfl | exact Or.inr rfl) (me_split (mv 0) (me_str [46] (by rfl))))
  (pss_one (ps_ret (pe_op op_addM (pe_op op_addM (me_join (me_str [46] (by rfl)) (me_slice (mv 3) po_none (mo_some (pe_op op_addM (mv 1) me_int)))) (mv 2)) (me_join (me_str [46] (by rfl)) (me_slice (mv 3) (mo_some (pe_op op_addM (mv 1) me_int)) po_none))))))), pu vs H Q E h⟩
abbrev s_least_pair : Stmt := top 34
theorem sc_least_pair : FnScope N_least_pair ["steps"] (defScope s_least_pair) := ⟨rfl, rfl, rfl, by decide +kernel, rfl, by decide +kernel, by decide +kernel⟩
theorem ok_least_pair {k : Nat} {sp : Sp} {sp_leaf_on : Sp} {sp_road_tree : Sp} {sp_sprouted : Sp} {sp_turned_once : Sp} {k_leaf_on : Nat} {p_leaf_on : List Str} {k_road_tree : Nat} {p_road_tree : List Str} {k_sprouted : Nat} {p_sprouted : List Str} {k_turned_once : Nat} {p_turned_once : List Str} {a_SIDES : Addr} (F : FunD K "least_pair" "least_pair" (defArgs s_least_pair) (defBody s_least_pair) (defScope s_least_pair) [] [] f fd) (T : Tx K mg) (C_leaf_on : CalG P w K mg base CX0 "leaf_on" k_leaf_on p_leaf_on [] sp_leaf_on) (C_road_tree : CalG P w K mg base CX0 "road_tree" k_road_tree p_road_tree [] sp_road_tree) (C_sprouted : CalG P w K mg base CX0 "sprouted" k_sprouted p_sprouted [] sp_sprouted) (C_turned_once : CalG P w K mg base CX0 "turned_once" k_turned_once p_turned_once [] sp_turned_once) (D_SIDES : mg "SIDES" = some (.ref a_SIDES) ∧ TabAt K w a_SIDES rows_SIDES) (l_leaf_on : k_leaf_on ≤ k) (l_road_tree : k_road_tree ≤ k) (l_sprouted : k_sprouted ≤ k) (l_turned_once : k_turned_once ≤ k)
    (len : ∀ vs H Q E, sp vs H Q E → vs.length = 1) (pu : ∀ vs H Q E, sp vs H Q E → rd_least_pair K sp_leaf_on sp_road_tree sp_sprouted sp_turned_once a_SIDES { nx := fun _ H' => Q .non H', rt := Q } (start N_least_pair vs) H) :
    FnG P w K mg base CX0 (k + 1) f fd ["steps"] sp :=
  okG F sc_least_pair len fun cdv A outer s H vs Q E hr h => ⟨rd_least_pair K sp_leaf_on sp_road_tree sp_sprouted sp_turned_once a_SIDES, PSs.nox (
    have nd := sc_least_pair.nd
    let N := N_least_pair
    let scope := defScope s_least_pair
    (pss_cons (ps_asg (pe_tup (pa_cons (me_str [46] (by rfl)) (pa_cons (me_str [46] (by rfl)) pa_nil))) (mg_tup rfl (mgs_cons (pg_name (i := 1) nd rfl (by first | exact Or.inl rfl | exact Or.inr rfl)) (mgs_cons (pg_name (i := 2) nd rfl (by first | exact Or.inl rfl | exact Or.inr rfl)) mgs_nil))))
  (pss_cons (ms_for PassesOwn.never rfl (pi_iterM (mv 0)) (pg_name (i := 3) nd rfl (by first | exact Or.inl rfl | exact Or.inr rfl)) (pss_cons (ps_set (i := 4) nd rfl (by first | exact Or.inl rfl | exact Or.inr rfl) (pe_op op_addM (me_ix (mv 3) me_int (fun _ _ => rfl)) (me_ixTab D_SIDES.2 (pe_glob (by rfl) D_SIDES.1 rfl) (me_ix (mv 3) me_int (fun _ _ => rfl)) (fun _ _ => rfl))))
  (pss_cons (ps_set (i := 5) nd rfl (by first | exact Or.inl rfl | exact Or.inr rfl) (me_callG C_leaf_on (hr.mono l_leaf_on) (by rfl) pass0 (pa_cons (mv 2) (pa_cons (mv 4) pa_nil))))
  (pss_cons (ps_if (mt_cmp op_notM (mv 5) me_non (by rfl)) (pss_cons (ps_set (i := 6) nd rfl (by first | exact Or.inl rfl | exact Or.inr rfl) (me_callG C_road_tree (hr.mono l_road_tree) (by rfl) pass0 (pa_cons (me_slice (mv 4) (mo_some (me_ix (mv 5) me_int (fun _ _ => rfl))) po_none) pa_nil)))
  (pss_one (ms_par (i := 1) (j := 2) rfl nd rfl rfl (by decide) rfl rfl (pa_cons (me_callG C_sprouted (hr.mono l_sprouted) (by rfl) pass0 (pa_cons (mv 1) (pa_cons (me_ix (mv 5) me_int (fun _ _ => rfl)) (pa_cons (mv 6) pa_nil)))) (pa_cons (me_callG C_sprouted (hr.mono l_sprouted) (by rfl) pass0 (pa_cons (mv 2) (pa_cons (me_ix (mv 5) me_int (fun _ _ => rfl)) (pa_cons (mv 6) pa_nil)))) pa_nil)) (by rfl)))) pss_nil)
  (pss_one (ps_set (i := 2) nd rfl (by first | exact Or.inl rfl | exact Or.inr rfl) (me_callG C_turned_once (hr.mono l_turned_once) (by rfl) pass0 (pa_cons (mv 2) (pa_cons (mv 3) pa_nil)))))))))
  (pss_one (ps_ret (pe_tup (pa_cons (mv 1) (pa_cons (mv 2) pa_nil)))))))), pu vs H Q E h⟩
abbrev s_pair_of : Stmt := top 35
theorem sc_pair_of : FnScope N_pair_of ["steps"] (defScope s_pair_of) := ⟨rfl, rfl, rfl, by decide +kernel, rfl, by decide +kernel, by decide +kernel⟩
theorem ok_pair_of {k : Nat} {sp : Sp} {sp_check_script : Sp} {sp_least_pair : Sp} {k_check_script : Nat} {p_check_script : List Str} {k_least_pair : Nat} {p_least_pair : List Str} (F : FunD K "pair_of" "pair_of" (defArgs s_pair_of) (defBody s_pair_of) (defScope s_pair_of) [] [] f fd) (T : Tx K mg) (C_check_script : CalG P w K mg base (L2.CX P w) "check_script" k_check_script p_check_script [] sp_check_script) (C_least_pair : CalG P w K mg base CX0 "least_pair" k_least_pair p_least_pair [] sp_least_pair) (l_check_script : k_check_script ≤ k) (l_least_pair : k_least_pair ≤ k)
    (len : ∀ vs H Q E, sp vs H Q E → vs.length = 1) (pu : ∀ vs H Q E, sp vs H Q E → rd_pair_of K sp_check_script sp_least_pair { nx := fun _ H' => Q .non H', rt := Q } (start N_pair_of vs) H) :
    FnG P w K mg base CX0 (k + 1) f fd ["steps"] sp :=
  okG F sc_pair_of len fun cdv A outer s H vs Q E hr h => ⟨rd_pair_of K sp_check_script sp_least_pair, PSs.nox (
    have nd := sc_pair_of.nd
    let N := N_pair_of
    let scope := defScope s_pair_of
    (pss_cons (ps_expr (me_callG C_check_script (hr.mono l_check_script) (by rfl) passF (pa_cons (mv 0) pa_nil)))
  (pss_one (ps_ret (me_callG C_least_pair (hr.mono l_least_pair) (by rfl) pass0 (pa_cons (mv 0) pa_nil)))))), pu vs H Q E h⟩
abbrev s_Move___init__ : Stmt := inClass (top 37) 0
theorem sc_Move___init__ : FnScope N_Move___init__ ["self", "before", "after"] (defScope s_Move___init__) := ⟨rfl, rfl, rfl, by decide +kernel, rfl, by decide +kernel, by decide +kernel⟩
theorem ok_Move___init__ {k : Nat} {sp : Sp} {sp_check_tree : Sp} {k_check_tree : Nat} {p_check_tree : List Str} {a_InvalidMove : Addr} {a_Move : Addr} (F : FunD K "__init__" "Move.__init__" (defArgs s_Move___init__) (defBody s_Move___init__) (defScope s_Move___init__) [] [] f fd) (T : Tx K mg) (C_check_tree : CalG P w K mg base (L2.CX P w) "check_tree" k_check_tree p_check_tree [] sp_check_tree) (X_InvalidMove : ExcAt P w K mg "InvalidMove" "value" a_InvalidMove) (c_Move : Cls K a_Move) (n_Move_trees : NoAttr K a_Move "trees") (l_check_tree : k_check_tree ≤ k)
    (len : ∀ vs H Q E, sp vs H Q E → vs.length = 3) (pu : ∀ vs H Q E, sp vs H Q E → rd_Move___init__ K sp_check_tree a_InvalidMove a_Move E { nx := fun _ H' => Q .non H', rt := Q } (start N_Move___init__ vs) H) :
    FnG P w K mg base (L2.CX P w) (k + 1) f fd ["self", "before", "after"] sp :=
  okG F sc_Move___init__ len fun cdv A outer s H vs Q E hr h => ⟨rd_Move___init__ K sp_check_tree a_InvalidMove a_Move E, (
    have nd := sc_Move___init__.nd
    let N := N_Move___init__
    let scope := defScope s_Move___init__
    (pss_cons (ps_expr (me_callG C_check_tree (hr.mono l_check_tree) (by rfl) (passes_call (takes_of rfl rfl rfl rfl) fun _ _ _ _ h => h) (pa_cons (mv 1) pa_nil)))
  (pss_cons (ps_expr (me_callG C_check_tree (hr.mono l_check_tree) (by rfl) (passes_call (takes_of rfl rfl rfl rfl) fun _ _ _ _ h => h) (pa_cons (mv 2) pa_nil)))
  (pss_cons (ps_if (mt_cmp (op_neM hr.units) (me_count (mv 1) (me_str [40] (by rfl))) (me_count (mv 2) (me_str [40] (by rfl))) (by rfl)) (pss_one (ms_raise X_InvalidMove hr.r0 rfl (takes_of rfl rfl rfl rfl) (by rfl) (pa_cons (pe_tup (pa_cons (mv 1) (pa_cons (mv 2) pa_nil))) pa_nil))) pss_nil)
  (pss_one (ms_fldC (mv 0) (pe_tup (pa_cons (mv 1) (pa_cons (mv 2) pa_nil))) c_Move n_Move_trees rfl)))))), pu vs H Q E h⟩
abbrev s_Move_before : Stmt := inClass (top 37) 1
theorem sc_Move_before : FnScope N_Move_before ["self"] (defScope s_Move_before) := ⟨rfl, rfl, rfl, by decide +kernel, rfl, by decide +kernel, by decide +kernel⟩
theorem ok_Move_before {k : Nat} {sp : Sp} {a_Move : Addr} (F : FunD K "before" "Move.before" (defArgs s_Move_before) (defBody s_Move_before) (defScope s_Move_before) [] [] f fd) (T : Tx K mg) (c_Move : Cls K a_Move) (n_Move_trees : NoAttr K a_Move "trees") 
    (len : ∀ vs H Q E, sp vs H Q E → vs.length = 1) (pu : ∀ vs H Q E, sp vs H Q E → rd_Move_before K a_Move { nx := fun _ H' => Q .non H', rt := Q } (start N_Move_before vs) H) :
    FnG P w K mg base CX0 (k + 1) f fd ["self"] sp :=
  okG F sc_Move_before len fun cdv A outer s H vs Q E hr h => ⟨rd_Move_before K a_Move, PSs.nox (
    have nd := sc_Move_before.nd
    let N := N_Move_before
    let scope := defScope s_Move_before
    (pss_one (ps_ret (me_ix (me_fldC (mv 0) c_Move n_Move_trees rfl) me_int (fun _ _ => rfl))))), pu vs H Q E h⟩
abbrev s_Move_after : Stmt := inClass (top 37) 2
theorem sc_Move_after : FnScope N_Move_after ["self"] (defScope s_Move_after) := ⟨rfl, rfl, rfl, by decide +kernel, rfl, by decide +kernel, by decide +kernel⟩
theorem ok_Move_after {k : Nat} {sp : Sp} {a_Move : Addr} (F : FunD K "after" "Move.after" (defArgs s_Move_after) (defBody s_Move_after) (defScope s_Move_after) [] [] f fd) (T : Tx K mg) (c_Move : Cls K a_Move) (n_Move_trees : NoAttr K a_Move "trees") 
    (len : ∀ vs H Q E, sp vs H Q E → vs.length = 1) (pu : ∀ vs H Q E, sp vs H Q E → rd_Move_after K a_Move { nx := fun _ H' => Q .non H', rt := Q } (start N_Move_after vs) H) :
    FnG P w K mg base CX0 (k + 1) f fd ["self"] sp :=
  okG F sc_Move_after len fun cdv A outer s H vs Q E hr h => ⟨rd_Move_after K a_Move, PSs.nox (
    have nd := sc_Move_after.nd
    let N := N_Move_after
    let scope := defScope s_Move_after
    (pss_one (ps_ret (me_ix (me_fldC (mv 0) c_Move n_Move_trees rfl) me_int (fun _ _ => rfl))))), pu vs H Q E h⟩
abbrev s_Move_of : Stmt := inClass (top 37) 3
theorem sc_Move_of : FnScope N_Move_of ["cls", "steps"] (defScope s_Move_of) := ⟨rfl, rfl, rfl, by decide +kernel, rfl, by decide +kernel, by decide +kernel⟩
theorem ok_Move_of {k : Nat} {sp : Sp} {sp_pair_of : Sp} {k_pair_of : Nat} {p_pair_of : List Str} {a_Move : Addr} {sp_Move___init__ : Sp} {k_Move___init__ : Nat} {f_Move___init__ : Addr} (F : FunD K "of" "Move.of" (defArgs s_Move_of) (defBody s_Move_of) (defScope s_Move_of) [] [] f fd) (T : Tx K mg) (C_pair_of : CalG P w K mg base CX0 "pair_of" k_pair_of p_pair_of [] sp_pair_of) (c_Move : Cls K a_Move) (R_Move___init__ : CalR P w K mg base (L2.CX P w) k_Move___init__ f_Move___init__ sp_Move___init__) (MK_Move : Mk K a_Move f_Move___init__) (l_pair_of : k_pair_of ≤ k) (l_Move___init__ : k_Move___init__ + 1 ≤ k)
    (len : ∀ vs H Q E, sp vs H Q E → vs.length = 2) (pu : ∀ vs H Q E, sp vs H Q E → rd_Move_of K sp_pair_of a_Move sp_Move___init__ { nx := fun _ H' => Q .non H', rt := Q } (start N_Move_of vs) H) :
    FnG P w K mg base CX0 (k + 1) f fd ["cls", "steps"] sp :=
  okG F sc_Move_of len fun cdv A outer s H vs Q E hr h => ⟨rd_Move_of K sp_pair_of a_Move sp_Move___init__, PSs.nox (
    have nd := sc_Move_of.nd
    let N := N_Move_of
    let scope := defScope s_Move_of
    (pss_cons (ps_asg (me_callG C_pair_of (hr.mono l_pair_of) (by rfl) pass0 (pa_cons (mv 1) pa_nil)) (mg_tup rfl (mgs_cons (pg_name (i := 2) nd rfl (by first | exact Or.inl rfl | exact Or.inr rfl)) (mgs_cons (pg_name (i := 3) nd rfl (by first | exact Or.inl rfl | exact Or.inr rfl)) mgs_nil))))
  (pss_one (ps_ret (me_makeV (mv 0) MK_Move R_Move___init__ (hr.mono l_Move___init__) passF (pa_cons (mv 2) (pa_cons (mv 3) pa_nil))))))), pu vs H Q E h⟩
abbrev s_Move___call__ : Stmt := inClass (top 37) 4
theorem sc_Move___call__ : FnScope N_Move___call__ ["self", "tree"] (defScope s_Move___call__) := ⟨rfl, rfl, rfl, by decide +kernel, rfl, by decide +kernel, by decide +kernel⟩
theorem ok_Move___call__ {k : Nat} {sp : Sp} {sp_is_tree : Sp} {sp_hung_on : Sp} {sp_check_tree : Sp} {sp_grown_by : Sp} {k_is_tree : Nat} {p_is_tree : List Str} {k_hung_on : Nat} {p_hung_on : List Str} {k_check_tree : Nat} {p_check_tree : List Str} {k_grown_by : Nat} {p_grown_by : List Str} {a_CannotMove : Addr} {a_Move : Addr} (F : FunD K "__call__" "Move.__call__" (defArgs s_Move___call__) (defBody s_Move___call__) (defScope s_Move___call__) [] [] f fd) (T : Tx K mg) (C_is_tree : CalG P w K mg base CX0 "is_tree" k_is_tree p_is_tree [] sp_is_tree) (C_hung_on : CalG P w K mg base CX0 "hung_on" k_hung_on p_hung_on [] sp_hung_on) (C_check_tree : CalG P w K mg base (L2.CX P w) "check_tree" k_check_tree p_check_tree [] sp_check_tree) (C_grown_by : CalG P w K mg base CX0 "grown_by" k_grown_by p_grown_by [] sp_grown_by) (X_CannotMove : ExcAt P w K mg "CannotMove" "value" a_CannotMove) (c_Move : Cls K a_Move) (n_Move_trees : NoAttr K a_Move "trees") (l_is_tree : k_is_tree ≤ k) (l_hung_on : k_hung_on ≤ k) (l_check_tree : k_check_tree ≤ k) (l_grown_by : k_grown_by ≤ k)
    (len : ∀ vs H Q E, sp vs H Q E → vs.length = 2) (pu : ∀ vs H Q E, sp vs H Q E → rd_Move___call__ K sp_is_tree sp_hung_on sp_check_tree sp_grown_by a_CannotMove a_Move E { nx := fun _ H' => Q .non H', rt := Q } (start N_Move___call__ vs) H) :
    FnG P w K mg base (L2.CX P w) (k + 1) f fd ["self", "tree"] sp :=
  okG F sc_Move___call__ len fun cdv A outer s H vs Q E hr h => ⟨rd_Move___call__ K sp_is_tree sp_hung_on sp_check_tree sp_grown_by a_CannotMove a_Move E, (
    have nd := sc_Move___call__.nd
    let N := N_Move___call__
    let scope := defScope s_Move___call__
    (pss_cons (ps_set (i := 2) nd rfl (by first | exact Or.inl rfl | exact Or.inr rfl) (pe_ifExp (mt_val (me_callG C_is_tree (hr.mono l_is_tree) (by rfl) pass0 (pa_cons (mv 1) pa_nil))) (me_callG C_hung_on (hr.mono l_hung_on) (by rfl) pass0 (pa_cons (mv 1) (pa_cons (me_ix (me_fldC (mv 0) c_Move n_Move_trees rfl) me_int (fun _ _ => rfl)) pa_nil))) me_non))
  (pss_cons (ps_if (mt_cmp op_isM (mv 2) me_non (by rfl)) (pss_cons (ps_expr (me_callG C_check_tree (hr.mono l_check_tree) (by rfl) (passes_call (takes_of rfl rfl rfl rfl) fun _ _ _ _ h => h) (pa_cons (mv 1) pa_nil)))
  (pss_one (ms_raise X_CannotMove hr.r0 rfl (takes_of rfl rfl rfl rfl) (by rfl) (pa_cons (mv 1) pa_nil)))) pss_nil)
  (pss_one (ps_ret (me_callG C_grown_by (hr.mono l_grown_by) (by rfl) pass0 (pa_cons (me_ix (me_fldC (mv 0) c_Move n_Move_trees rfl) me_int (fun _ _ => rfl)) (pa_cons (mv 2) pa_nil)))))))), pu vs H Q E h⟩
abbrev s_Move_can : Stmt := inClass (top 37) 5
theorem sc_Move_can : FnScope N_Move_can ["self", "tree"] (defScope s_Move_can) := ⟨rfl, rfl, rfl, by decide +kernel, rfl, by decide +kernel, by decide +kernel⟩
theorem ok_Move_can {k : Nat} {sp : Sp} {sp_check_tree : Sp} {sp_hung_on : Sp} {k_check_tree : Nat} {p_check_tree : List Str} {k_hung_on : Nat} {p_hung_on : List Str} {a_Move : Addr} (F : FunD K "can" "Move.can" (defArgs s_Move_can) (defBody s_Move_can) (defScope s_Move_can) [] [] f fd) (T : Tx K mg) (C_check_tree : CalG P w K mg base (L2.CX P w) "check_tree" k_check_tree p_check_tree [] sp_check_tree) (C_hung_on : CalG P w K mg base CX0 "hung_on" k_hung_on p_hung_on [] sp_hung_on) (c_Move : Cls K a_Move) (n_Move_trees : NoAttr K a_Move "trees") (l_check_tree : k_check_tree ≤ k) (l_hung_on : k_hung_on ≤ k)
    (len : ∀ vs H Q E, sp vs H Q E → vs.length = 2) (pu : ∀ vs H Q E, sp vs H Q E → rd_Move_can K sp_check_tree sp_hung_on a_Move E { nx := fun _ H' => Q .non H', rt := Q } (start N_Move_can vs) H) :
    FnG P w K mg base (L2.CX P w) (k + 1) f fd ["self", "tree"] sp :=
  okG F sc_Move_can len fun cdv A outer s H vs Q E hr h => ⟨rd_Move_can K sp_check_tree sp_hung_on a_Move E, (
    have nd := sc_Move_can.nd
    let N := N_Move_can
    let scope := defScope s_Move_can
    (pss_cons (ps_expr (me_callG C_check_tree (hr.mono l_check_tree) (by rfl) (passes_call (takes_of rfl rfl rfl rfl) fun _ _ _ _ h => h) (pa_cons (mv 1) pa_nil)))
  (pss_one (ps_ret (pe_cmpR op_notM (me_callG C_hung_on (hr.mono l_hung_on) (by rfl) pass0 (pa_cons (mv 1) (pa_cons (me_ix (me_fldC (mv 0) c_Move n_Move_trees rfl) me_int (fun _ _ => rfl)) pa_nil))) me_non (by rfl)))))), pu vs H Q E h⟩
abbrev s_Move___eq__ : Stmt := inClass (top 37) 6
theorem sc_Move___eq__ : FnScope N_Move___eq__ ["self", "other"] (defScope s_Move___eq__) := ⟨rfl, rfl, rfl, by decide +kernel, rfl, by decide +kernel, by decide +kernel⟩
theorem ok_Move___eq__ {k : Nat} {sp : Sp} {a_Move : Addr} (F : FunD K "__eq__" "Move.__eq__" (defArgs s_Move___eq__) (defBody s_Move___eq__) (defScope s_Move___eq__) [] [] f fd) (T : Tx K mg) (G_Move : mg "Move" = some (.ref a_Move)) (c_Move : Cls K a_Move) (n_Move_trees : NoAttr K a_Move "trees") 
    (len : ∀ vs H Q E, sp vs H Q E → vs.length = 2) (pu : ∀ vs H Q E, sp vs H Q E → rd_Move___eq__ K a_Move { nx := fun _ H' => Q .non H', rt := Q } (start N_Move___eq__ vs) H) :
    FnG P w K mg base CX0 (k + 1) f fd ["self", "other"] sp :=
  okG F sc_Move___eq__ len fun cdv A outer s H vs Q E hr h => ⟨rd_Move___eq__ K a_Move, PSs.nox (
    have nd := sc_Move___eq__.nd
    let N := N_Move___eq__
    let scope := defScope s_Move___eq__
    (pss_one (ps_ret (me_and (pe_callB call_isiM (by rfl) T.f_isinstance (by decide +kernel) (pa_cons (mv 1) (pa_cons (pe_glob (by rfl) G_Move rfl) pa_nil))) (pe_one (pe_cmpR (op_eqM hr.units) (me_fldC (mv 0) c_Move n_Move_trees rfl) (me_fldC (mv 1) c_Move n_Move_trees rfl) (by rfl))))))), pu vs H Q E h⟩
abbrev s_Move___repr__ : Stmt := inClass (top 37) 7
theorem sc_Move___repr__ : FnScope N_Move___repr__ ["self"] (defScope s_Move___repr__) := ⟨rfl, rfl, rfl, by decide +kernel, rfl, by decide +kernel, by decide +kernel⟩
theorem ok_Move___repr__ {k : Nat} {sp : Sp} {a_Move : Addr} (F : FunD K "__repr__" "Move.__repr__" (defArgs s_Move___repr__) (defBody s_Move___repr__) (defScope s_Move___repr__) [] [] f fd) (T : Tx K mg) (c_Move : Cls K a_Move) (n_Move_trees : NoAttr K a_Move "trees") 
    (len : ∀ vs H Q E, sp vs H Q E → vs.length = 1) (pu : ∀ vs H Q E, sp vs H Q E → rd_Move___repr__ K a_Move { nx := fun _ H' => Q .non H', rt := Q } (start N_Move___repr__ vs) H) :
    FnG P w K mg base CX0 (k + 1) f fd ["self"] sp :=
  okG F sc_Move___repr__ len fun cdv A outer s H vs Q E hr h => ⟨rd_Move___repr__ K a_Move, PSs.nox (
    have nd := sc_Move___repr__.nd
    let N := N_Move___repr__
    let scope := defScope s_Move___repr__
    (pss_one (ps_ret (me_jstr (.cons (me_str [77, 111, 118, 101, 40, 39] (by rfl)) (.cons (pe_fmt (me_ix (me_fldC (mv 0) c_Move n_Move_trees rfl) me_int (fun _ _ => rfl))) (.cons (me_str [39, 44, 32, 39] (by rfl)) (.cons (pe_fmt (me_ix (me_fldC (mv 0) c_Move n_Move_trees rfl) me_int (fun _ _ => rfl))) (.cons (me_str [39, 41] (by rfl)) .nil))))))))), pu vs H Q E h⟩
abbrev s_Move___mul__ : Stmt := inClass (top 37) 8
theorem sc_Move___mul__ : FnScope N_Move___mul__ ["self", "other"] (defScope s_Move___mul__) := ⟨rfl, rfl, rfl, by decide +kernel, rfl, by decide +kernel, by decide +kernel⟩
theorem ok_Move___mul__ {k : Nat} {sp : Sp} {sp_joined_trees : Sp} {sp_grown_by : Sp} {sp_hung_on : Sp} {k_joined_trees : Nat} {p_joined_trees : List Str} {k_hung_on : Nat} {p_hung_on : List Str} {k_grown_by : Nat} {p_grown_by : List Str} {a_Move : Addr} {sp_Move___init__ : Sp} {k_Move___init__ : Nat} {f_Move___init__ : Addr} (F : FunD K "__mul__" "Move.__mul__" (defArgs s_Move___mul__) (defBody s_Move___mul__) (defScope s_Move___mul__) [] [] f fd) (T : Tx K mg) (C_joined_trees : CalG P w K mg base CX0 "joined_trees" k_joined_trees p_joined_trees [] sp_joined_trees) (C_hung_on : CalG P w K mg base CX0 "hung_on" k_hung_on p_hung_on [] sp_hung_on) (C_grown_by : CalG P w K mg base CX0 "grown_by" k_grown_by p_grown_by [] sp_grown_by) (G_Move : mg "Move" = some (.ref a_Move)) (c_Move : Cls K a_Move) (n_Move_trees : NoAttr K a_Move "trees") (R_Move___init__ : CalR P w K mg base (L2.CX P w) k_Move___init__ f_Move___init__ sp_Move___init__) (MK_Move : Mk K a_Move f_Move___init__) (l_joined_trees : k_joined_trees ≤ k) (l_hung_on : k_hung_on ≤ k) (l_grown_by : k_grown_by ≤ k) (l_Move___init__ : k_Move___init__ + 1 ≤ k)
    (len : ∀ vs H Q E, sp vs H Q E → vs.length = 2) (pu : ∀ vs H Q E, sp vs H Q E → rd_Move___mul__ K sp_joined_trees sp_grown_by sp_hung_on a_Move sp_Move___init__ { nx := fun _ H' => Q .non H', rt := Q } (start N_Move___mul__ vs) H) :
    FnG P w K mg base CX0 (k + 1) f fd ["self", "other"] sp :=
  okG F sc_Move___mul__ len fun cdv A outer s H vs Q E hr h => ⟨rd_Move___mul__ K sp_joined_trees sp_grown_by sp_hung_on a_Move sp_Move___init__, PSs.nox (
    have nd := sc_Move___mul__.nd
    let N := N_Move___mul__
    let scope := defScope s_Move___mul__
    (pss_cons (ps_if (pt_not (mt_val (pe_callB call_isiM (by rfl) T.f_isinstance (by decide +kernel) (pa_cons (mv 1) (pa_cons (pe_glob (by rfl) G_Move rfl) pa_nil))))) (pss_one (ps_ret pe_never)) pss_nil)
  (pss_cons (ps_set (i := 2) nd rfl (by first | exact Or.inl rfl | exact Or.inr rfl) (me_callG C_joined_trees (hr.mono l_joined_trees) (by rfl) pass0 (pa_cons (me_ix (me_fldC (mv 0) c_Move n_Move_trees rfl) me_int (fun _ _ => rfl)) (pa_cons (me_ix (me_fldC (mv 1) c_Move n_Move_trees rfl) me_int (fun _ _ => rfl)) pa_nil))))
  (pss_cons (ps_set (i := 3) nd rfl (by first | exact Or.inl rfl | exact Or.inr rfl) (me_callG C_grown_by (hr.mono l_grown_by) (by rfl) pass0 (pa_cons (me_ix (me_fldC (mv 0) c_Move n_Move_trees rfl) me_int (fun _ _ => rfl)) (pa_cons (me_callG C_hung_on (hr.mono l_hung_on) (by rfl) pass0 (pa_cons (mv 2) (pa_cons (me_ix (me_fldC (mv 0) c_Move n_Move_trees rfl) me_int (fun _ _ => rfl)) pa_nil))) pa_nil))))
  (pss_one (ps_ret (me_make MK_Move R_Move___init__ (hr.mono l_Move___init__) (by rfl) G_Move passF (pa_cons (mv 3) (pa_cons (me_callG C_grown_by (hr.mono l_grown_by) (by rfl) pass0 (pa_cons (me_ix (me_fldC (mv 1) c_Move n_Move_trees rfl) me_int (fun _ _ => rfl)) (pa_cons (me_callG C_hung_on (hr.mono l_hung_on) (by rfl) pass0 (pa_cons (mv 2) (pa_cons (me_ix (me_fldC (mv 1) c_Move n_Move_trees rfl) me_int (fun _ _ => rfl)) pa_nil))) pa_nil))) pa_nil))))))))), pu vs H Q E h⟩
abbrev s_Move___invert__ : Stmt := inClass (top 37) 9
theorem sc_Move___invert__ : FnScope N_Move___invert__ ["self"] (defScope s_Move___invert__) := ⟨rfl, rfl, rfl, by decide +kernel, rfl, by decide +kernel, by decide +kernel⟩
theorem ok_Move___invert__ {k : Nat} {sp : Sp} {a_Move : Addr} {sp_Move___init__ : Sp} {k_Move___init__ : Nat} {f_Move___init__ : Addr} (F : FunD K "__invert__" "Move.__invert__" (defArgs s_Move___invert__) (defBody s_Move___invert__) (defScope s_Move___invert__) [] [] f fd) (T : Tx K mg) (G_Move : mg "Move" = some (.ref a_Move)) (c_Move : Cls K a_Move) (n_Move_trees : NoAttr K a_Move "trees") (R_Move___init__ : CalR P w K mg base (L2.CX P w) k_Move___init__ f_Move___init__ sp_Move___init__) (MK_Move : Mk K a_Move f_Move___init__) (l_Move___init__ : k_Move___init__ + 1 ≤ k)
    (len : ∀ vs H Q E, sp vs H Q E → vs.length = 1) (pu : ∀ vs H Q E, sp vs H Q E → rd_Move___invert__ K a_Move sp_Move___init__ { nx := fun _ H' => Q .non H', rt := Q } (start N_Move___invert__ vs) H) :
    FnG P w K mg base CX0 (k + 1) f fd ["self"] sp :=
  okG F sc_Move___invert__ len fun cdv A outer s H vs Q E hr h => ⟨rd_Move___invert__ K a_Move sp_Move___init__, PSs.nox (
    have nd := sc_Move___invert__.nd
    let N := N_Move___invert__
    let scope := defScope s_Move___invert__
    (pss_one (ps_ret (me_make MK_Move R_Move___init__ (hr.mono l_Move___init__) (by rfl) G_Move passF (pa_cons (me_ix (me_fldC (mv 0) c_Move n_Move_trees rfl) me_int (fun _ _ => rfl)) (pa_cons (me_ix (me_fldC (mv 0) c_Move n_Move_trees rfl) me_int (fun _ _ => rfl)) pa_nil)))))), pu vs H Q E h⟩
abbrev s_Move_times : Stmt := inClass (top 37) 10
theorem sc_Move_times : FnScope N_Move_times ["self", "count"] (defScope s_Move_times) := ⟨rfl, rfl, rfl, by decide +kernel, rfl, by decide +kernel, by decide +kernel⟩
theorem ok_Move_times {k : Nat} {sp : Sp} {sp__wall : Sp} {k__wall : Nat} {p__wall : List Str} (F : FunD K "times" "Move.times" (defArgs s_Move_times) (defBody s_Move_times) (defScope s_Move_times) [] [] f fd) (T : Tx K mg) (C__wall : CalG P w K mg base CX0 "_wall" k__wall p__wall [] sp__wall) (l__wall : k__wall ≤ k)
    (len : ∀ vs H Q E, sp vs H Q E → vs.length = 2) (pu : ∀ vs H Q E, sp vs H Q E → rd_Move_times K sp__wall { nx := fun _ H' => Q .non H', rt := Q } (start N_Move_times vs) H) :
    FnG P w K mg base CX0 (k + 1) f fd ["self", "count"] sp :=
  okG F sc_Move_times len fun cdv A outer s H vs Q E hr h => ⟨rd_Move_times K sp__wall, PSs.nox (
    have nd := sc_Move_times.nd
    let N := N_Move_times
    let scope := defScope s_Move_times
    (pss_one (ps_expr (me_callG C__wall (hr.mono l__wall) (by rfl) pass0 (pa_cons me_int pa_nil))))), pu vs H Q E h⟩
abbrev s_Move_under : Stmt := inClass (top 37) 11
theorem sc_Move_under : FnScope N_Move_under ["self", "address"] (defScope s_Move_under) := ⟨rfl, rfl, rfl, by decide +kernel, rfl, by decide +kernel, by decide +kernel⟩
theorem ok_Move_under {k : Nat} {sp : Sp} {sp__wall : Sp} {k__wall : Nat} {p__wall : List Str} (F : FunD K "under" "Move.under" (defArgs s_Move_under) (defBody s_Move_under) (defScope s_Move_under) [] [] f fd) (T : Tx K mg) (C__wall : CalG P w K mg base CX0 "_wall" k__wall p__wall [] sp__wall) (l__wall : k__wall ≤ k)
    (len : ∀ vs H Q E, sp vs H Q E → vs.length = 2) (pu : ∀ vs H Q E, sp vs H Q E → rd_Move_under K sp__wall { nx := fun _ H' => Q .non H', rt := Q } (start N_Move_under vs) H) :
    FnG P w K mg base CX0 (k + 1) f fd ["self", "address"] sp :=
  okG F sc_Move_under len fun cdv A outer s H vs Q E hr h => ⟨rd_Move_under K sp__wall, PSs.nox (
    have nd := sc_Move_under.nd
    let N := N_Move_under
    let scope := defScope s_Move_under
    (pss_one (ps_expr (me_callG C__wall (hr.mono l__wall) (by rfl) pass0 (pa_cons me_int pa_nil))))), pu vs H Q E h⟩
abbrev s_Move___le__ : Stmt := inClass (top 37) 12
theorem sc_Move___le__ : FnScope N_Move___le__ ["self", "other"] (defScope s_Move___le__) := ⟨rfl, rfl, rfl, by decide +kernel, rfl, by decide +kernel, by decide +kernel⟩
theorem ok_Move___le__ {k : Nat} {sp : Sp} {sp_is_at_most : Sp} {k_is_at_most : Nat} {p_is_at_most : List Str} {a_Move : Addr} (F : FunD K "__le__" "Move.__le__" (defArgs s_Move___le__) (defBody s_Move___le__) (defScope s_Move___le__) [] [] f fd) (T : Tx K mg) (C_is_at_most : CalG P w K mg base CX0 "is_at_most" k_is_at_most p_is_at_most [] sp_is_at_most) (G_Move : mg "Move" = some (.ref a_Move)) (l_is_at_most : k_is_at_most ≤ k)
    (len : ∀ vs H Q E, sp vs H Q E → vs.length = 2) (pu : ∀ vs H Q E, sp vs H Q E → rd_Move___le__ K sp_is_at_most a_Move { nx := fun _ H' => Q .non H', rt := Q } (start N_Move___le__ vs) H) :
    FnG P w K mg base CX0 (k + 1) f fd ["self", "other"] sp :=
  okG F sc_Move___le__ len fun cdv A outer s H vs Q E hr h => ⟨rd_Move___le__ K sp_is_at_most a_Move, PSs.nox (
    have nd := sc_Move___le__.nd
    let N := N_Move___le__
    let scope := defScope s_Move___le__
    (pss_cons (ps_if (pt_not (mt_val (pe_callB call_isiM (by rfl) T.f_isinstance (by decide +kernel) (pa_cons (mv 1) (pa_cons (pe_glob (by rfl) G_Move rfl) pa_nil))))) (pss_one (ps_ret pe_never)) pss_nil)
  (pss_one (ps_ret (me_callG C_is_at_most (hr.mono l_is_at_most) (by rfl) pass0 (pa_cons (mv 0) (pa_cons (mv 1) pa_nil))))))), pu vs H Q E h⟩
abbrev s_Move___lt__ : Stmt := inClass (top 37) 13
theorem sc_Move___lt__ : FnScope N_Move___lt__ ["self", "other"] (defScope s_Move___lt__) := ⟨rfl, rfl, rfl, by decide +kernel, rfl, by decide +kernel, by decide +kernel⟩
theorem ok_Move___lt__ {k : Nat} {sp : Sp} {sp_is_at_most : Sp} {k_is_at_most : Nat} {p_is_at_most : List Str} {a_Move : Addr} (F : FunD K "__lt__" "Move.__lt__" (defArgs s_Move___lt__) (defBody s_Move___lt__) (defScope s_Move___lt__) [] [] f fd) (T : Tx K mg) (C_is_at_most : CalG P w K mg base CX0 "is_at_most" k_is_at_most p_is_at_most [] sp_is_at_most) (G_Move : mg "Move" = some (.ref a_Move)) (c_Move : Cls K a_Move) (n_Move_trees : NoAttr K a_Move "trees") (l_is_at_most : k_is_at_most ≤ k)
    (len : ∀ vs H Q E, sp vs H Q E → vs.length = 2) (pu : ∀ vs H Q E, sp vs H Q E → rd_Move___lt__ K sp_is_at_most a_Move { nx := fun _ H' => Q .non H', rt := Q } (start N_Move___lt__ vs) H) :
    FnG P w K mg base CX0 (k + 1) f fd ["self", "other"] sp :=
  okG F sc_Move___lt__ len fun cdv A outer s H vs Q E hr h => ⟨rd_Move___lt__ K sp_is_at_most a_Move, PSs.nox (
    have nd := sc_Move___lt__.nd
    let N := N_Move___lt__
    let scope := defScope s_Move___lt__
    (pss_cons (ps_if (pt_not (mt_val (pe_callB call_isiM (by rfl) T.f_isinstance (by decide +kernel) (pa_cons (mv 1) (pa_cons (pe_glob (by rfl) G_Move rfl) pa_nil))))) (pss_one (ps_ret pe_never)) pss_nil)
  (pss_one (ps_ret (me_and (pe_cmpR (op_neM hr.units) (me_fldC (mv 0) c_Move n_Move_trees rfl) (me_fldC (mv 1) c_Move n_Move_trees rfl) (by rfl)) (pe_one (me_callG C_is_at_most (hr.mono l_is_at_most) (by rfl) pass0 (pa_cons (mv 0) (pa_cons (mv 1) pa_nil))))))))), pu vs H Q E h⟩
abbrev s_Move___ge__ : Stmt := inClass (top 37) 14
theorem sc_Move___ge__ : FnScope N_Move___ge__ ["self", "other"] (defScope s_Move___ge__) := ⟨rfl, rfl, rfl, by decide +kernel, rfl, by decide +kernel, by decide +kernel⟩
theorem ok_Move___ge__ {k : Nat} {sp : Sp} {sp_is_at_most : Sp} {k_is_at_most : Nat} {p_is_at_most : List Str} {a_Move : Addr} (F : FunD K "__ge__" "Move.__ge__" (defArgs s_Move___ge__) (defBody s_Move___ge__) (defScope s_Move___ge__) [] [] f fd) (T : Tx K mg) (C_is_at_most : CalG P w K mg base CX0 "is_at_most" k_is_at_most p_is_at_most [] sp_is_at_most) (G_Move : mg "Move" = some (.ref a_Move)) (l_is_at_most : k_is_at_most ≤ k)
    (len : ∀ vs H Q E, sp vs H Q E → vs.length = 2) (pu : ∀ vs H Q E, sp vs H Q E → rd_Move___ge__ K sp_is_at_most a_Move { nx := fun _ H' => Q .non H', rt := Q } (start N_Move___ge__ vs) H) :
    FnG P w K mg base CX0 (k + 1) f fd ["self", "other"] sp :=
  okG F sc_Move___ge__ len fun cdv A outer s H vs Q E hr h => ⟨rd_Move___ge__ K sp_is_at_most a_Move, PSs.nox (
    have nd := sc_Move___ge__.nd
    let N := N_Move___ge__
    let scope := defScope s_Move___ge__
    (pss_cons (ps_if (pt_not (mt_val (pe_callB call_isiM (by rfl) T.f_isinstance (by decide +kernel) (pa_cons (mv 1) (pa_cons (pe_glob (by rfl) G_Move rfl) pa_nil))))) (pss_one (ps_ret pe_never)) pss_nil)
  (pss_one (ps_ret (me_callG C_is_at_most (hr.mono l_is_at_most) (by rfl) pass0 (pa_cons (mv 1) (pa_cons (mv 0) pa_nil))))))), pu vs H Q E h⟩
abbrev s_Move___gt__ : Stmt := inClass (top 37) 15
theorem sc_Move___gt__ : FnScope N_Move___gt__ ["self", "other"] (defScope s_Move___gt__) := ⟨rfl, rfl, rfl, by decide +kernel, rfl, by decide +kernel, by decide +kernel⟩
theorem ok_Move___gt__ {k : Nat} {sp : Sp} {sp_is_at_most : Sp} {k_is_at_most : Nat} {p_is_at_most : List Str} {a_Move : Addr} (F : FunD K "__gt__" "Move.__gt__" (defArgs s_Move___gt__) (defBody s_Move___gt__) (defScope s_Move___gt__) [] [] f fd) (T : Tx K mg) (C_is_at_most : CalG P w K mg base CX0 "is_at_most" k_is_at_most p_is_at_most [] sp_is_at_most) (G_Move : mg "Move" = some (.ref a_Move)) (c_Move : Cls K a_Move) (n_Move_trees : NoAttr K a_Move "trees") (l_is_at_most : k_is_at_most ≤ k)
    (len : ∀ vs H Q E, sp vs H Q E → vs.length = 2) (pu : ∀ vs H Q E, sp vs H Q E → rd_Move___gt__ K sp_is_at_most a_Move { nx := fun _ H' => Q .non H', rt := Q } (start N_Move___gt__ vs) H) :
    FnG P w K mg base CX0 (k + 1) f fd ["self", "other"] sp :=
  okG F sc_Move___gt__ len fun cdv A outer s H vs Q E hr h => ⟨rd_Move___gt__ K sp_is_at_most a_Move, PSs.nox (
    have nd := sc_Move___gt__.nd
    let N := N_Move___gt__
    let scope := defScope s_Move___gt__
    (pss_cons (ps_if (pt_not (mt_val (pe_callB call_isiM (by rfl) T.f_isinstance (by decide +kernel) (pa_cons (mv 1) (pa_cons (pe_glob (by rfl) G_Move rfl) pa_nil))))) (pss_one (ps_ret pe_never)) pss_nil)
  (pss_one (ps_ret (me_and (pe_cmpR (op_neM hr.units) (me_fldC (mv 0) c_Move n_Move_trees rfl) (me_fldC (mv 1) c_Move n_Move_trees rfl) (by rfl)) (pe_one (me_callG C_is_at_most (hr.mono l_is_at_most) (by rfl) pass0 (pa_cons (mv 1) (pa_cons (mv 0) pa_nil))))))))), pu vs H Q E h⟩
abbrev s_is_at_most : Stmt := top 38
theorem sc_is_at_most : FnScope N_is_at_most ["one", "other"] (defScope s_is_at_most) := ⟨rfl, rfl, rfl, by decide +kernel, rfl, by decide +kernel, by decide +kernel⟩
theorem ok_is_at_most {k : Nat} {sp : Sp} {sp_hung_on : Sp} {k_hung_on : Nat} {p_hung_on : List Str} {a_Move : Addr} (F : FunD K "is_at_most" "is_at_most" (defArgs s_is_at_most) (defBody s_is_at_most) (defScope s_is_at_most) [] [] f fd) (T : Tx K mg) (C_hung_on : CalG P w K mg base CX0 "hung_on" k_hung_on p_hung_on [] sp_hung_on) (c_Move : Cls K a_Move) (n_Move_trees : NoAttr K a_Move "trees") (l_hung_on : k_hung_on ≤ k)
    (len : ∀ vs H Q E, sp vs H Q E → vs.length = 2) (pu : ∀ vs H Q E, sp vs H Q E → rd_is_at_most K sp_hung_on a_Move { nx := fun _ H' => Q .non H', rt := Q } (start N_is_at_most vs) H) :
    FnG P w K mg base CX0 (k + 1) f fd ["one", "other"] sp :=
  okG F sc_is_at_most len fun cdv A outer s H vs Q E hr h => ⟨rd_is_at_most K sp_hung_on a_Move, PSs.nox (
    have nd := sc_is_at_most.nd
    let N := N_is_at_most
    let scope := defScope s_is_at_most
    (pss_cons (ps_set (i := 2) nd rfl (by first | exact Or.inl rfl | exact Or.inr rfl) (me_callG C_hung_on (hr.mono l_hung_on) (by rfl) pass0 (pa_cons (me_ix (me_fldC (mv 0) c_Move n_Move_trees rfl) me_int (fun _ _ => rfl)) (pa_cons (me_ix (me_fldC (mv 1) c_Move n_Move_trees rfl) me_int (fun _ _ => rfl)) pa_nil))))
  (pss_one (ps_ret (me_and (pe_cmpR op_notM (mv 2) me_non (by rfl)) (pe_one (pe_cmpR (op_eqM hr.units) (me_callG C_hung_on (hr.mono l_hung_on) (by rfl) pass0 (pa_cons (me_ix (me_fldC (mv 0) c_Move n_Move_trees rfl) me_int (fun _ _ => rfl)) (pa_cons (me_ix (me_fldC (mv 1) c_Move n_Move_trees rfl) me_int (fun _ _ => rfl)) pa_nil))) (mv 2) (by rfl)))))))), pu vs H Q E h⟩
abbrev s_check_move : Stmt := top 39
theorem sc_check_move : FnScope N_check_move ["value"] (defScope s_check_move) := ⟨rfl, rfl, rfl, by decide +kernel, rfl, by decide +kernel, by decide +kernel⟩
theorem ok_check_move {k : Nat} {sp : Sp} {a_InvalidMove : Addr} {a_Move : Addr} (F : FunD K "check_move" "check_move" (defArgs s_check_move) (defBody s_check_move) (defScope s_check_move) [] [] f fd) (T : Tx K mg) (X_InvalidMove : ExcAt P w K mg "InvalidMove" "value" a_InvalidMove) (G_Move : mg "Move" = some (.ref a_Move)) 
    (len : ∀ vs H Q E, sp vs H Q E → vs.length = 1) (pu : ∀ vs H Q E, sp vs H Q E → rd_check_move K a_InvalidMove a_Move E { nx := fun _ H' => Q .non H', rt := Q } (start N_check_move vs) H) :
    FnG P w K mg base (L2.CX P w) (k + 1) f fd ["value"] sp :=
  okG F sc_check_move len fun cdv A outer s H vs Q E hr h => ⟨rd_check_move K a_InvalidMove a_Move E, (
    have nd := sc_check_move.nd
    let N := N_check_move
    let scope := defScope s_check_move
    (pss_one (ps_if (pt_not (mt_val (pe_callB call_isiM (by rfl) T.f_isinstance (by decide +kernel) (pa_cons (mv 0) (pa_cons (pe_glob (by rfl) G_Move rfl) pa_nil))))) (pss_one (ms_raise X_InvalidMove hr.r0 rfl (takes_of rfl rfl rfl rfl) (by rfl) (pa_cons (mv 0) pa_nil))) pss_nil))), pu vs H Q E h⟩
abbrev s_read_tree : Stmt := top 41
theorem sc_read_tree : FnScope N_read_tree ["value"] (defScope s_read_tree) := ⟨rfl, rfl, rfl, by decide +kernel, rfl, by decide +kernel, by decide +kernel⟩
theorem ok_read_tree {k : Nat} {sp : Sp}  (F : FunD K "read_tree" "read_tree" (defArgs s_read_tree) (defBody s_read_tree) (defScope s_read_tree) [] [] f fd) (T : Tx K mg)  
    (len : ∀ vs H Q E, sp vs H Q E → vs.length = 1) (pu : ∀ vs H Q E, sp vs H Q E → rd_read_tree K { nx := fun _ H' => Q .non H', rt := Q } (start N_read_tree vs) H) :
    FnG P w K mg base CX0 (k + 1) f fd ["value"] sp :=
  okG F sc_read_tree len fun cdv A outer s H vs Q E hr h => ⟨rd_read_tree K, PSs.nox (
    have nd := sc_read_tree.nd
    let N := N_read_tree
    let scope := defScope s_read_tree
    (pss_cons (ps_if (pt_not (mt_val (pe_callB call_isiM (by rfl) T.f_isinstance (by decide +kernel) (pa_cons (mv 0) (pa_cons (me_ty "str" (by rfl) T.f_str (by decide +kernel)) pa_nil))))) (pss_one (ps_ret me_non)) pss_nil)
  (pss_cons (ps_set (i := 1) nd rfl (by first | exact Or.inl rfl | exact Or.inr rfl) (pe_lst (pa_cons (pe_lst pa_nil) pa_nil)))
  (pss_cons (ms_for PassesOwn.never rfl (pi_iterM (mv 0)) (pg_name (i := 2) nd rfl (by first | exact Or.inl rfl | exact Or.inr rfl)) (pss_one (ps_if (mt_cmp (op_eqM hr.units) (mv 2) (me_str [40] (by rfl)) (by rfl)) (pss_one (ps_expr (me_append (mv 1) (pe_lst pa_nil)))) (pss_one (ps_if (mt_cmp (op_eqM hr.units) (mv 2) (me_str [46] (by rfl)) (by rfl)) (pss_one (ps_expr (me_append (me_ix (mv 1) (me_neg me_int) (fun _ _ => rfl)) (pe_tup pa_nil)))) (pss_one (ps_if (PW.pt (pw_and (mt_cmp (op_eqM hr.units) (mv 2) (me_str [41] (by rfl)) (by rfl)) (pw_and (mt_cmp op_gtM (pe_callB call_lenM (by rfl) T.f_len (by decide +kernel) (pa_cons (mv 1) pa_nil)) me_int (by rfl)) (pw_and1 (mt_cmp (op_eqM hr.units) (pe_callB call_lenM (by rfl) T.f_len (by decide +kernel) (pa_cons (me_ix (mv 1) (me_neg me_int) (fun _ _ => rfl)) pa_nil)) me_int (by rfl)))))) (pss_cons (ps_set (i := 3) nd rfl (by first | exact Or.inl rfl | exact Or.inr rfl) (me_pop (mv 1)))
  (pss_one (ps_expr (me_append (me_ix (mv 1) (me_neg me_int) (fun _ _ => rfl)) (pe_tup (pa_cons (me_ix (mv 3) me_int (fun _ _ => rfl)) (pa_cons (me_ix (mv 3) me_int (fun _ _ => rfl)) pa_nil))))))) (pss_one (ps_ret me_non)))))))))
  (pss_one (ps_ret (pe_ifExp (PW.pt (pw_and (mt_cmp (op_eqM hr.units) (pe_callB call_lenM (by rfl) T.f_len (by decide +kernel) (pa_cons (mv 1) pa_nil)) me_int (by rfl)) (pw_and1 (mt_cmp (op_eqM hr.units) (pe_callB call_lenM (by rfl) T.f_len (by decide +kernel) (pa_cons (me_ix (mv 1) me_int (fun _ _ => rfl)) pa_nil)) me_int (by rfl))))) (me_ix (me_ix (mv 1) me_int (fun _ _ => rfl)) me_int (fun _ _ => rfl)) me_non))))))), pu vs H Q E h⟩
abbrev s_nested : Stmt := top 42
theorem sc_nested : FnScope N_nested ["tree"] (defScope s_nested) := ⟨rfl, rfl, rfl, by decide +kernel, rfl, by decide +kernel, by decide +kernel⟩
theorem ok_nested {k : Nat} {sp : Sp} {sp_read_tree : Sp} {k_read_tree : Nat} {p_read_tree : List Str} {a_InvalidTree : Addr} (F : FunD K "nested" "nested" (defArgs s_nested) (defBody s_nested) (defScope s_nested) [] [] f fd) (T : Tx K mg) (C_read_tree : CalG P w K mg base CX0 "read_tree" k_read_tree p_read_tree [] sp_read_tree) (X_InvalidTree : ExcAt P w K mg "InvalidTree" "value" a_InvalidTree) (l_read_tree : k_read_tree ≤ k)
    (len : ∀ vs H Q E, sp vs H Q E → vs.length = 1) (pu : ∀ vs H Q E, sp vs H Q E → rd_nested K sp_read_tree a_InvalidTree E { nx := fun _ H' => Q .non H', rt := Q } (start N_nested vs) H) :
    FnG P w K mg base (L2.CX P w) (k + 1) f fd ["tree"] sp :=
  okG F sc_nested len fun cdv A outer s H vs Q E hr h => ⟨rd_nested K sp_read_tree a_InvalidTree E, (
    have nd := sc_nested.nd
    let N := N_nested
    let scope := defScope s_nested
    (pss_cons (ps_set (i := 1) nd rfl (by first | exact Or.inl rfl | exact Or.inr rfl) (me_callG C_read_tree (hr.mono l_read_tree) (by rfl) pass0 (pa_cons (mv 0) pa_nil)))
  (pss_cons (ps_if (mt_cmp op_isM (mv 1) me_non (by rfl)) (pss_one (ms_raise X_InvalidTree hr.r0 rfl (takes_of rfl rfl rfl rfl) (by rfl) (pa_cons (mv 0) pa_nil))) pss_nil)
  (pss_one (ps_ret (mv 1)))))), pu vs H Q E h⟩
abbrev s_depths : Stmt := top 43
theorem sc_depths : FnScope N_depths ["nest", "depth"] (defScope s_depths) := ⟨rfl, rfl, rfl, by decide +kernel, rfl, by decide +kernel, by decide +kernel⟩
theorem ok_depths {k : Nat} {sp : Sp} {sp_depths : Sp} {k_depths : Nat} {p_depths : List Str} (F : FunD K "depths" "depths" (defArgs s_depths) (defBody s_depths) (defScope s_depths) [.int 0] [] f fd) (T : Tx K mg) (C_depths : CalG P w K mg base CX0 "depths" k_depths p_depths [] sp_depths) (l_depths : k_depths ≤ k)
    (len : ∀ vs H Q E, sp vs H Q E → vs.length = 2) (pu : ∀ vs H Q E, sp vs H Q E → rd_depths K sp_depths { nx := fun _ H' => Q .non H', rt := Q } (start N_depths vs) H) :
    FnG P w K mg base CX0 (k + 1) f fd ["nest", "depth"] sp :=
  okG F sc_depths len fun cdv A outer s H vs Q E hr h => ⟨rd_depths K sp_depths, PSs.nox (
    have nd := sc_depths.nd
    let N := N_depths
    let scope := defScope s_depths
    (pss_cons (ps_if (mt_cmp (op_eqM hr.units) (mv 0) (pe_tup pa_nil) (by rfl)) (pss_one (ps_ret (pe_lst (pa_cons (mv 1) pa_nil)))) pss_nil)
  (pss_one (ps_ret (pe_op op_addM (me_callG C_depths (hr.mono l_depths) (by rfl) pass0 (pa_cons (me_ix (mv 0) me_int (fun _ _ => rfl)) (pa_cons (pe_op op_addM (mv 1) me_int) pa_nil))) (me_callG C_depths (hr.mono l_depths) (by rfl) pass0 (pa_cons (me_ix (mv 0) me_int (fun _ _ => rfl)) (pa_cons (pe_op op_addM (mv 1) me_int) pa_nil)))))))), pu vs H Q E h⟩
abbrev s_depth_pairs : Stmt := top 45
theorem sc_depth_pairs : FnScope N_depth_pairs ["move"] (defScope s_depth_pairs) := ⟨rfl, rfl, rfl, by decide +kernel, rfl, by decide +kernel, by decide +kernel⟩
theorem ok_depth_pairs {k : Nat} {sp : Sp} {sp_depths : Sp} {sp_nested : Sp} {k_nested : Nat} {p_nested : List Str} {k_depths__1 : Nat} {p_depths__1 : List Str} {a_Move : Addr} {sp_Move_after : Sp} {k_Move_after : Nat} {f_Move_after : Addr} {sp_Move_before : Sp} {k_Move_before : Nat} {f_Move_before : Addr} {p_Move_after : Addr} {p_Move_before : Addr} (F : FunD K "depth_pairs" "depth_pairs" (defArgs s_depth_pairs) (defBody s_depth_pairs) (defScope s_depth_pairs) [] [] f fd) (T : Tx K mg) (C_nested : CalG P w K mg base (L2.CX P w) "nested" k_nested p_nested [] sp_nested) (C_depths__1 : CalG P w K mg base CX0 "depths" k_depths__1 p_depths__1 [.int 0] sp_depths) (c_Move : Cls K a_Move) (R_Move_after : CalR P w K mg base CX0 k_Move_after f_Move_after sp_Move_after) (R_Move_before : CalR P w K mg base CX0 k_Move_before f_Move_before sp_Move_before) (PR_Move_after : PropOf K a_Move "after" p_Move_after f_Move_after) (PR_Move_before : PropOf K a_Move "before" p_Move_before f_Move_before) (l_nested : k_nested ≤ k) (l_depths__1 : k_depths__1 ≤ k) (l_Move_after : k_Move_after + 1 ≤ k) (l_Move_before : k_Move_before + 1 ≤ k)
    (len : ∀ vs H Q E, sp vs H Q E → vs.length = 1) (pu : ∀ vs H Q E, sp vs H Q E → rd_depth_pairs K sp_depths sp_nested a_Move sp_Move_after sp_Move_before E { nx := fun _ H' => Q .non H', rt := Q } (start N_depth_pairs vs) H) :
    FnG P w K mg base (L2.CX P w) (k + 1) f fd ["move"] sp :=
  okG F sc_depth_pairs len fun cdv A outer s H vs Q E hr h => ⟨rd_depth_pairs K sp_depths sp_nested a_Move sp_Move_after sp_Move_before E, (
    have nd := sc_depth_pairs.nd
    let N := N_depth_pairs
    let scope := defScope s_depth_pairs
    (pss_one (ps_ret (pe_lzipS (by rfl) T.f_list (by rfl) T.f_zip rfl (pa_cons (me_callG C_depths__1 (hr.mono l_depths__1) (by rfl) pass0 (pa_cons (me_callG C_nested (hr.mono l_nested) (by rfl) (passes_call (takes_of rfl rfl rfl rfl) fun _ _ _ _ h => h) (pa_cons (me_prop (mv 0) c_Move PR_Move_before R_Move_before (hr.mono l_Move_before) rfl) pa_nil)) pa_nil)) (pa_cons (me_callG C_depths__1 (hr.mono l_depths__1) (by rfl) pass0 (pa_cons (me_callG C_nested (hr.mono l_nested) (by rfl) (passes_call (takes_of rfl rfl rfl rfl) fun _ _ _ _ h => h) (pa_cons (me_prop (mv 0) c_Move PR_Move_after R_Move_after (hr.mono l_Move_after) rfl) pa_nil)) pa_nil)) pa_nil)))))), pu vs H Q E h⟩
abbrev s_change : Stmt := top 46
theorem sc_change : FnScope N_change ["move"] (defScope s_change) := ⟨rfl, rfl, rfl, by decide +kernel, rfl, by decide +kernel, by decide +kernel⟩
theorem ok_change {k : Nat} {sp : Sp} {sp_check_move : Sp} {sp_depth_pairs : Sp} {k_check_move : Nat} {p_check_move : List Str} {k_depth_pairs : Nat} {p_depth_pairs : List Str} (F : FunD K "change" "change" (defArgs s_change) (defBody s_change) (defScope s_change) [] [] f fd) (T : Tx K mg) (C_check_move : CalG P w K mg base (L2.CX P w) "check_move" k_check_move p_check_move [] sp_check_move) (C_depth_pairs : CalG P w K mg base (L2.CX P w) "depth_pairs" k_depth_pairs p_depth_pairs [] sp_depth_pairs) (l_check_move : k_check_move ≤ k) (l_depth_pairs : k_depth_pairs ≤ k)
    (len : ∀ vs H Q E, sp vs H Q E → vs.length = 1) (pu : ∀ vs H Q E, sp vs H Q E → rd_change K sp_check_move sp_depth_pairs E { nx := fun _ H' => Q .non H', rt := Q } (start N_change vs) H) :
    FnG P w K mg base (L2.CX P w) (k + 1) f fd ["move"] sp :=
  okG F sc_change len fun cdv A outer s H vs Q E hr h => ⟨rd_change K sp_check_move sp_depth_pairs E, (
    have nd := sc_change.nd
    let N := N_change
    let scope := defScope s_change
    (pss_cons (ps_expr (me_callG C_check_move (hr.mono l_check_move) (by rfl) (passes_call (takes_of rfl rfl rfl rfl) fun _ _ _ _ h => h) (pa_cons (mv 0) pa_nil)))
  (pss_cons (ps_set (i := 1) nd rfl (by first | exact Or.inl rfl | exact Or.inr rfl) (me_callG C_depth_pairs (hr.mono l_depth_pairs) (by rfl) (passes_call (takes_of rfl rfl rfl rfl) fun _ _ _ _ h => h) (pa_cons (mv 0) pa_nil)))
  (pss_cons (ps_set (i := 2) nd rfl (by first | exact Or.inl rfl | exact Or.inr rfl) (pe_callB (call_minLM rfl) (by rfl) T.f_min (by decide +kernel) (pa_cons (me_lc (own := [("before", 3), ("after", 4)]) rfl nd (pi_iterM (mv 1)) (blkOk_by (own := [("before", 3), ("after", 4)]) (N := N) (sc := scope) (by decide +kernel)) (fun _ _ _ _ _ => (mg_tup rfl (mgs_cons (pg_name (i := 3) nd rfl (by first | exact Or.inl rfl | exact Or.inr rfl)) (mgs_cons (pg_name (i := 4) nd rfl (by first | exact Or.inl rfl | exact Or.inr rfl)) mgs_nil)))) (fun _ _ _ _ _ => pts_nil) (fun _ _ _ _ _ => (pe_callTy call_intM (by rfl) T.f_int (by decide +kernel) (pa_cons (pe_op op_subM (mv 4) (mv 3)) pa_nil)))) pa_nil)))
  (pss_one (ps_ret (pe_tup (pa_cons (mv 2) (pa_cons (pe_callB (call_maxLM rfl) (by rfl) T.f_max (by decide +kernel) (pa_cons (me_lc (own := [("before", 3), ("after", 4)]) rfl nd (pi_iterM (mv 1)) (blkOk_by (own := [("before", 3), ("after", 4)]) (N := N) (sc := scope) (by decide +kernel)) (fun _ _ _ _ _ => (mg_tup rfl (mgs_cons (pg_name (i := 3) nd rfl (by first | exact Or.inl rfl | exact Or.inr rfl)) (mgs_cons (pg_name (i := 4) nd rfl (by first | exact Or.inl rfl | exact Or.inr rfl)) mgs_nil)))) (fun _ _ _ _ _ => pts_nil) (fun _ _ _ _ _ => (pe_callTy call_intM (by rfl) T.f_int (by decide +kernel) (pa_cons (pe_op op_subM (mv 4) (mv 3)) pa_nil)))) pa_nil)) pa_nil))))))))), pu vs H Q E h⟩
abbrev s__law_mixed : Stmt := top 48
theorem sc__law_mixed : FnScope N__law_mixed ["_law_cell", "_law_k"] (defScope s__law_mixed) := ⟨rfl, rfl, rfl, by decide +kernel, rfl, by decide +kernel, by decide +kernel⟩
theorem ok__law_mixed {k : Nat} {sp : Sp}  (F : FunD K "_law_mixed" "_law_mixed" (defArgs s__law_mixed) (defBody s__law_mixed) (defScope s__law_mixed) [] [] f fd) (T : Tx K mg)  
    (len : ∀ vs H Q E, sp vs H Q E → vs.length = 2) (pu : ∀ vs H Q E, sp vs H Q E → rd__law_mixed K { nx := fun _ H' => Q .non H', rt := Q } (start N__law_mixed vs) H) :
    FnG P w K mg base CX0 (k + 1) f fd ["_law_cell", "_law_k"] sp :=
  okG F sc__law_mixed len fun cdv A outer s H vs Q E hr h => ⟨rd__law_mixed K, PSs.nox (
    have nd := sc__law_mixed.nd
    let N := N__law_mixed
    let scope := defScope s__law_mixed
    (pss_cons (ps_set (i := 2) nd rfl (by first | exact Or.inl rfl | exact Or.inr rfl) (pe_op op_modM (pe_op op_addM (pe_op op_addM (pe_op op_addM (pe_op op_mulM (mv 0) me_int) (pe_op op_mulM (pe_op op_mulM me_int (mv 1)) (mv 1))) (mv 1)) me_int) me_int))
  (pss_cons (ps_set (i := 2) nd rfl (by first | exact Or.inl rfl | exact Or.inr rfl) (pe_op op_modM (pe_op op_addM (pe_op op_mulM (mv 2) (mv 2)) me_int) me_int))
  (pss_one (ps_ret (pe_op op_modM (pe_op op_mulM (mv 2) me_int) me_int)))))), pu vs H Q E h⟩
abbrev s__law_purse : Stmt := top 49
theorem sc__law_purse : FnScope N__law_purse ["_law_script", "_law_at"] (defScope s__law_purse) := ⟨rfl, rfl, rfl, by decide +kernel, rfl, by decide +kernel, by decide +kernel⟩
theorem ok__law_purse {k : Nat} {sp : Sp}  (F : FunD K "_law_purse" "_law_purse" (defArgs s__law_purse) (defBody s__law_purse) (defScope s__law_purse) [] [] f fd) (T : Tx K mg)  
    (len : ∀ vs H Q E, sp vs H Q E → vs.length = 2) (pu : ∀ vs H Q E, sp vs H Q E → rd__law_purse K { nx := fun _ H' => Q .non H', rt := Q } (start N__law_purse vs) H) :
    FnG P w K mg base CX0 (k + 1) f fd ["_law_script", "_law_at"] sp :=
  okG F sc__law_purse len fun cdv A outer s H vs Q E hr h => ⟨rd__law_purse K, PSs.nox (
    have nd := sc__law_purse.nd
    let N := N__law_purse
    let scope := defScope s__law_purse
    (pss_cons (ps_set (i := 2) nd rfl (by first | exact Or.inl rfl | exact Or.inr rfl) (pe_callB (call_sumM rfl) (by rfl) T.f_sum (by decide +kernel) (pa_cons (me_slice (mv 0) (mo_some (mv 1)) (mo_some (pe_op op_addM (mv 1) me_int))) pa_nil)))
  (pss_one (ps_ret (pe_lst (pa_cons (pe_op op_modM (pe_callB (call_maxM rfl) (by rfl) T.f_max (by decide +kernel) (pa_cons (pe_op op_subM (mv 2) (pe_op op_powM me_int me_int)) (pa_cons me_int pa_nil))) (pe_op op_powM (pe_op op_powM me_int me_int) me_int)) (pa_cons (pe_op op_modM (mv 2) me_int) (pa_cons (pe_op op_mulM me_int (mv 1)) pa_nil)))))))), pu vs H Q E h⟩
abbrev s__law_draw : Stmt := top 50
theorem sc__law_draw : FnScope N__law_draw ["_law_purse_here", "_law_out_of"] (defScope s__law_draw) := ⟨rfl, rfl, rfl, by decide +kernel, rfl, by decide +kernel, by decide +kernel⟩
theorem ok__law_draw {k : Nat} {sp : Sp} {sp__law_mixed : Sp} {k__law_mixed : Nat} {p__law_mixed : List Str} (F : FunD K "_law_draw" "_law_draw" (defArgs s__law_draw) (defBody s__law_draw) (defScope s__law_draw) [] [] f fd) (T : Tx K mg) (C__law_mixed : CalG P w K mg base CX0 "_law_mixed" k__law_mixed p__law_mixed [] sp__law_mixed) (l__law_mixed : k__law_mixed ≤ k)
    (len : ∀ vs H Q E, sp vs H Q E → vs.length = 2) (pu : ∀ vs H Q E, sp vs H Q E → rd__law_draw K sp__law_mixed { nx := fun _ H' => Q .non H', rt := Q } (start N__law_draw vs) H) :
    FnG P w K mg base CX0 (k + 1) f fd ["_law_purse_here", "_law_out_of"] sp :=
  okG F sc__law_draw len fun cdv A outer s H vs Q E hr h => ⟨rd__law_draw K sp__law_mixed, PSs.nox (
    have nd := sc__law_draw.nd
    let N := N__law_draw
    let scope := defScope s__law_draw
    (pss_cons (ps_if (mt_cmp op_gtM (me_ix (mv 0) me_int (fun _ _ => rfl)) me_int (by rfl)) (pss_cons (ps_set (i := 2) nd rfl (by first | exact Or.inl rfl | exact Or.inr rfl) (pe_op op_modM (me_ix (mv 0) me_int (fun _ _ => rfl)) (mv 1)))
  (pss_cons (ps_asg (pe_op op_divM (me_ix (mv 0) me_int (fun _ _ => rfl)) (mv 1)) (pg_sub (mv 0) me_int set_listM))
  (pss_one (ps_ret (mv 2))))) pss_nil)
  (pss_cons (ps_set (i := 3) nd rfl (by first | exact Or.inl rfl | exact Or.inr rfl) me_int)
  (pss_cons (ms_for PassesOwn.never rfl (pi_rng1M (by rfl) T.f_range (pe_op op_addM me_int (pe_op op_divM (me_bits (mv 1)) me_int))) (pg_name (i := 4) nd rfl (by first | exact Or.inl rfl | exact Or.inr rfl)) (pss_cons (ps_asg (pe_op op_addM (me_ix (mv 0) me_int (fun _ _ => rfl)) me_int) (pg_sub (mv 0) me_int set_listM))
  (pss_one (ps_set (i := 3) nd rfl (by first | exact Or.inl rfl | exact Or.inr rfl) (pe_op op_addM (pe_op op_mulM (mv 3) me_int) (me_callG C__law_mixed (hr.mono l__law_mixed) (by rfl) pass0 (pa_cons (me_ix (mv 0) me_int (fun _ _ => rfl)) (pa_cons (me_ix (mv 0) me_int (fun _ _ => rfl)) pa_nil))))))))
  (pss_one (ps_ret (pe_op op_modM (mv 3) (mv 1)))))))), pu vs H Q E h⟩
abbrev s__law_nest : Stmt := top 51
theorem sc__law_nest : FnScope N__law_nest ["_law_purse_here", "_law_count"] (defScope s__law_nest) := ⟨rfl, rfl, rfl, by decide +kernel, rfl, by decide +kernel, by decide +kernel⟩
theorem ok__law_nest {k : Nat} {sp : Sp} {sp__law_draw : Sp} {sp__law_nest : Sp} {k__law_draw : Nat} {p__law_draw : List Str} {k__law_nest : Nat} {p__law_nest : List Str} (F : FunD K "_law_nest" "_law_nest" (defArgs s__law_nest) (defBody s__law_nest) (defScope s__law_nest) [] [] f fd) (T : Tx K mg) (C__law_draw : CalG P w K mg base CX0 "_law_draw" k__law_draw p__law_draw [] sp__law_draw) (C__law_nest : CalG P w K mg base CX0 "_law_nest" k__law_nest p__law_nest [] sp__law_nest) (l__law_draw : k__law_draw ≤ k) (l__law_nest : k__law_nest ≤ k)
    (len : ∀ vs H Q E, sp vs H Q E → vs.length = 2) (pu : ∀ vs H Q E, sp vs H Q E → rd__law_nest K sp__law_draw sp__law_nest { nx := fun _ H' => Q .non H', rt := Q } (start N__law_nest vs) H) :
    FnG P w K mg base CX0 (k + 1) f fd ["_law_purse_here", "_law_count"] sp :=
  okG F sc__law_nest len fun cdv A outer s H vs Q E hr h => ⟨rd__law_nest K sp__law_draw sp__law_nest, PSs.nox (
    have nd := sc__law_nest.nd
    let N := N__law_nest
    let scope := defScope s__law_nest
    (pss_cons (ps_if (mt_cmp (op_eqM hr.units) (mv 1) me_int (by rfl)) (pss_one (ps_ret (pe_tup pa_nil))) pss_nil)
  (pss_cons (ps_set (i := 2) nd rfl (by first | exact Or.inl rfl | exact Or.inr rfl) (me_callG C__law_draw (hr.mono l__law_draw) (by rfl) pass0 (pa_cons (mv 0) (pa_cons (mv 1) pa_nil))))
  (pss_cons (ps_set (i := 2) nd rfl (by first | exact Or.inl rfl | exact Or.inr rfl) (me_ix (pe_lst (pa_cons (mv 2) (pa_cons (mv 2) (pa_cons (mv 2) (pa_cons (mv 2) (pa_cons me_int (pa_cons (pe_op op_subM (mv 1) me_int) pa_nil))))))) (me_callG C__law_draw (hr.mono l__law_draw) (by rfl) pass0 (pa_cons (mv 0) (pa_cons me_int pa_nil))) (fun _ _ => rfl)))
  (pss_one (ps_ret (pe_tup (pa_cons (me_callG C__law_nest (hr.mono l__law_nest) (by rfl) pass0 (pa_cons (mv 0) (pa_cons (mv 2) pa_nil))) (pa_cons (me_callG C__law_nest (hr.mono l__law_nest) (by rfl) pass0 (pa_cons (mv 0) (pa_cons (pe_op op_subM (pe_op op_subM (mv 1) me_int) (mv 2)) pa_nil))) pa_nil))))))))), pu vs H Q E h⟩
abbrev s__law_text : Stmt := top 52
theorem sc__law_text : FnScope N__law_text ["_law_nest_here"] (defScope s__law_text) := ⟨rfl, rfl, rfl, by decide +kernel, rfl, by decide +kernel, by decide +kernel⟩
theorem ok__law_text {k : Nat} {sp : Sp} {sp__law_text : Sp} {k__law_text : Nat} {p__law_text : List Str} (F : FunD K "_law_text" "_law_text" (defArgs s__law_text) (defBody s__law_text) (defScope s__law_text) [] [] f fd) (T : Tx K mg) (C__law_text : CalG P w K mg base CX0 "_law_text" k__law_text p__law_text [] sp__law_text) (l__law_text : k__law_text ≤ k)
    (len : ∀ vs H Q E, sp vs H Q E → vs.length = 1) (pu : ∀ vs H Q E, sp vs H Q E → rd__law_text K sp__law_text { nx := fun _ H' => Q .non H', rt := Q } (start N__law_text vs) H) :
    FnG P w K mg base CX0 (k + 1) f fd ["_law_nest_here"] sp :=
  okG F sc__law_text len fun cdv A outer s H vs Q E hr h => ⟨rd__law_text K sp__law_text, PSs.nox (
    have nd := sc__law_text.nd
    let N := N__law_text
    let scope := defScope s__law_text
    (pss_cons (ps_if (mt_cmp (op_eqM hr.units) (mv 0) (pe_tup pa_nil) (by rfl)) (pss_one (ps_ret (me_str [46] (by rfl)))) pss_nil)
  (pss_one (ps_ret (pe_op op_addM (pe_op op_addM (pe_op op_addM (me_str [40] (by rfl)) (me_callG C__law_text (hr.mono l__law_text) (by rfl) pass0 (pa_cons (me_ix (mv 0) me_int (fun _ _ => rfl)) pa_nil))) (me_callG C__law_text (hr.mono l__law_text) (by rfl) pass0 (pa_cons (me_ix (mv 0) me_int (fun _ _ => rfl)) pa_nil))) (me_str [41] (by rfl))))))), pu vs H Q E h⟩
abbrev s__law_width : Stmt := top 53
theorem sc__law_width : FnScope N__law_width ["_law_nest_here"] (defScope s__law_width) := ⟨rfl, rfl, rfl, by decide +kernel, rfl, by decide +kernel, by decide +kernel⟩
theorem ok__law_width {k : Nat} {sp : Sp} {sp__law_width : Sp} {k__law_width : Nat} {p__law_width : List Str} (F : FunD K "_law_width" "_law_width" (defArgs s__law_width) (defBody s__law_width) (defScope s__law_width) [] [] f fd) (T : Tx K mg) (C__law_width : CalG P w K mg base CX0 "_law_width" k__law_width p__law_width [] sp__law_width) (l__law_width : k__law_width ≤ k)
    (len : ∀ vs H Q E, sp vs H Q E → vs.length = 1) (pu : ∀ vs H Q E, sp vs H Q E → rd__law_width K sp__law_width { nx := fun _ H' => Q .non H', rt := Q } (start N__law_width vs) H) :
    FnG P w K mg base CX0 (k + 1) f fd ["_law_nest_here"] sp :=
  okG F sc__law_width len fun cdv A outer s H vs Q E hr h => ⟨rd__law_width K sp__law_width, PSs.nox (
    have nd := sc__law_width.nd
    let N := N__law_width
    let scope := defScope s__law_width
    (pss_one (ps_ret (pe_ifExp (mt_cmp (op_eqM hr.units) (mv 0) (pe_tup pa_nil) (by rfl)) me_int (pe_op op_addM (me_callG C__law_width (hr.mono l__law_width) (by rfl) pass0 (pa_cons (me_ix (mv 0) me_int (fun _ _ => rfl)) pa_nil)) (me_callG C__law_width (hr.mono l__law_width) (by rfl) pass0 (pa_cons (me_ix (mv 0) me_int (fun _ _ => rfl)) pa_nil))))))), pu vs H Q E h⟩
abbrev s__law_depths : Stmt := top 54
theorem sc__law_depths : FnScope N__law_depths ["_law_nest_here", "_law_depth"] (defScope s__law_depths) := ⟨rfl, rfl, rfl, by decide +kernel, rfl, by decide +kernel, by decide +kernel⟩
theorem ok__law_depths {k : Nat} {sp : Sp} {sp__law_depths : Sp} {k__law_depths : Nat} {p__law_depths : List Str} (F : FunD K "_law_depths" "_law_depths" (defArgs s__law_depths) (defBody s__law_depths) (defScope s__law_depths) [] [] f fd) (T : Tx K mg) (C__law_depths : CalG P w K mg base CX0 "_law_depths" k__law_depths p__law_depths [] sp__law_depths) (l__law_depths : k__law_depths ≤ k)
    (len : ∀ vs H Q E, sp vs H Q E → vs.length = 2) (pu : ∀ vs H Q E, sp vs H Q E → rd__law_depths K sp__law_depths { nx := fun _ H' => Q .non H', rt := Q } (start N__law_depths vs) H) :
    FnG P w K mg base CX0 (k + 1) f fd ["_law_nest_here", "_law_depth"] sp :=
  okG F sc__law_depths len fun cdv A outer s H vs Q E hr h => ⟨rd__law_depths K sp__law_depths, PSs.nox (
    have nd := sc__law_depths.nd
    let N := N__law_depths
    let scope := defScope s__law_depths
    (pss_cons (ps_if (mt_cmp (op_eqM hr.units) (mv 0) (pe_tup pa_nil) (by rfl)) (pss_one (ps_ret (pe_lst (pa_cons (mv 1) pa_nil)))) pss_nil)
  (pss_one (ps_ret (pe_op op_addM (me_callG C__law_depths (hr.mono l__law_depths) (by rfl) pass0 (pa_cons (me_ix (mv 0) me_int (fun _ _ => rfl)) (pa_cons (pe_op op_addM (mv 1) me_int) pa_nil))) (me_callG C__law_depths (hr.mono l__law_depths) (by rfl) pass0 (pa_cons (me_ix (mv 0) me_int (fun _ _ => rfl)) (pa_cons (pe_op op_addM (mv 1) me_int) pa_nil)))))))), pu vs H Q E h⟩
abbrev s__law_comb : Stmt := top 55
theorem sc__law_comb : FnScope N__law_comb ["_law_purse_here", "_law_high_here"] (defScope s__law_comb) := ⟨rfl, rfl, rfl, by decide +kernel, rfl, by decide +kernel, by decide +kernel⟩
theorem ok__law_comb {k : Nat} {sp : Sp} {sp__law_draw : Sp} {k__law_draw : Nat} {p__law_draw : List Str} (F : FunD K "_law_comb" "_law_comb" (defArgs s__law_comb) (defBody s__law_comb) (defScope s__law_comb) [] [] f fd) (T : Tx K mg) (C__law_draw : CalG P w K mg base CX0 "_law_draw" k__law_draw p__law_draw [] sp__law_draw) (l__law_draw : k__law_draw ≤ k)
    (len : ∀ vs H Q E, sp vs H Q E → vs.length = 2) (pu : ∀ vs H Q E, sp vs H Q E → rd__law_comb K sp__law_draw { nx := fun _ H' => Q .non H', rt := Q } (start N__law_comb vs) H) :
    FnG P w K mg base CX0 (k + 1) f fd ["_law_purse_here", "_law_high_here"] sp :=
  okG F sc__law_comb len fun cdv A outer s H vs Q E hr h => ⟨rd__law_comb K sp__law_draw, PSs.nox (
    have nd := sc__law_comb.nd
    let N := N__law_comb
    let scope := defScope s__law_comb
    (pss_cons (ps_set (i := 2) nd rfl (by first | exact Or.inl rfl | exact Or.inr rfl) (me_str [46] (by rfl)))
  (pss_cons (ms_for PassesOwn.never rfl (pi_rng1M (by rfl) T.f_range (mv 1)) (pg_name (i := 3) nd rfl (by first | exact Or.inl rfl | exact Or.inr rfl)) (pss_one (ps_set (i := 2) nd rfl (by first | exact Or.inl rfl | exact Or.inr rfl) (pe_ifExp (mt_cmp (op_eqM hr.units) (me_callG C__law_draw (hr.mono l__law_draw) (by rfl) pass0 (pa_cons (mv 0) (pa_cons me_int pa_nil))) me_int (by rfl)) (pe_op op_addM (pe_op op_addM (me_str [40] (by rfl)) (mv 2)) (me_str [46, 41] (by rfl))) (pe_op op_addM (pe_op op_addM (me_str [40, 46] (by rfl)) (mv 2)) (me_str [41] (by rfl)))))))
  (pss_one (ps_ret (mv 2)))))), pu vs H Q E h⟩
abbrev s__law_high : Stmt := top 56
theorem sc__law_high : FnScope N__law_high ["_law_deeps", "_law_row"] (defScope s__law_high) := ⟨rfl, rfl, rfl, by decide +kernel, rfl, by decide +kernel, by decide +kernel⟩
theorem ok__law_high {k : Nat} {sp : Sp}  (F : FunD K "_law_high" "_law_high" (defArgs s__law_high) (defBody s__law_high) (defScope s__law_high) [] [] f fd) (T : Tx K mg)  
    (len : ∀ vs H Q E, sp vs H Q E → vs.length = 2) (pu : ∀ vs H Q E, sp vs H Q E → rd__law_high K { nx := fun _ H' => Q .non H', rt := Q } (start N__law_high vs) H) :
    FnG P w K mg base CX0 (k + 1) f fd ["_law_deeps", "_law_row"] sp :=
  okG F sc__law_high len fun cdv A outer s H vs Q E hr h => ⟨rd__law_high K, PSs.nox (
    have nd := sc__law_high.nd
    let N := N__law_high
    let scope := defScope s__law_high
    (pss_cons (ps_set (i := 2) nd rfl (by first | exact Or.inl rfl | exact Or.inr rfl) me_int)
  (pss_cons (ms_for PassesOwn.never rfl (pi_zipM (by rfl) T.f_zip (mv 0) (mv 1)) (mg_tup rfl (mgs_cons (pg_name (i := 3) nd rfl (by first | exact Or.inl rfl | exact Or.inr rfl)) (mgs_cons (pg_name (i := 4) nd rfl (by first | exact Or.inl rfl | exact Or.inr rfl)) mgs_nil))) (pss_one (ps_if (mt_cmp op_gtM (pe_op op_addM (mv 3) (mv 4)) (mv 2) (by rfl)) (pss_one (ps_set (i := 2) nd rfl (by first | exact Or.inl rfl | exact Or.inr rfl) (pe_op op_addM (mv 3) (mv 4)))) pss_nil)))
  (pss_one (ps_ret (mv 2)))))), pu vs H Q E h⟩
abbrev s__law_done : Stmt := top 57
theorem sc__law_done : FnScope N__law_done ["_law_purse_here", "_law_one", "_law_other", "_law_row"] (defScope s__law_done) := ⟨rfl, rfl, rfl, by decide +kernel, rfl, by decide +kernel, by decide +kernel⟩
theorem ok__law_done {k : Nat} {sp : Sp} {sp__law_text : Sp} {sp_grown : Sp} {sp__law_comb : Sp} {sp__law_depths : Sp} {sp__law_high : Sp} {sp_height : Sp} {k__law_text : Nat} {p__law_text : List Str} {k__law_comb : Nat} {p__law_comb : List Str} {k_grown : Nat} {p_grown : List Str} {k__law_depths : Nat} {p__law_depths : List Str} {k__law_high : Nat} {p__law_high : List Str} {k_height : Nat} {p_height : List Str} {a_Move : Addr} {sp_Move___init__ : Sp} {k_Move___init__ : Nat} {f_Move___init__ : Addr} {sp_Move_before : Sp} {k_Move_before : Nat} {f_Move_before : Addr} {sp_Move___call__ : Sp} {k_Move___call__ : Nat} {f_Move___call__ : Addr} {p_Move_before : Addr} (F : FunD K "_law_done" "_law_done" (defArgs s__law_done) (defBody s__law_done) (defScope s__law_done) [] [] f fd) (T : Tx K mg) (C__law_text : CalG P w K mg base CX0 "_law_text" k__law_text p__law_text [] sp__law_text) (C__law_comb : CalG P w K mg base CX0 "_law_comb" k__law_comb p__law_comb [] sp__law_comb) (C_grown : CalG P w K mg base (L2.CX P w) "grown" k_grown p_grown [] sp_grown) (C__law_depths : CalG P w K mg base CX0 "_law_depths" k__law_depths p__law_depths [] sp__law_depths) (C__law_high : CalG P w K mg base CX0 "_law_high" k__law_high p__law_high [] sp__law_high) (C_height : CalG P w K mg base (L2.CX P w) "height" k_height p_height [] sp_height) (G_Move : mg "Move" = some (.ref a_Move)) (c_Move : Cls K a_Move) (R_Move___init__ : CalR P w K mg base (L2.CX P w) k_Move___init__ f_Move___init__ sp_Move___init__) (R_Move_before : CalR P w K mg base CX0 k_Move_before f_Move_before sp_Move_before) (R_Move___call__ : CalR P w K mg base (L2.CX P w) k_Move___call__ f_Move___call__ sp_Move___call__) (MK_Move : Mk K a_Move f_Move___init__) (PR_Move_before : PropOf K a_Move "before" p_Move_before f_Move_before) (CO_Move___call__ : StX.CallO K a_Move f_Move___call__) (l__law_text : k__law_text ≤ k) (l__law_comb : k__law_comb ≤ k) (l_grown : k_grown ≤ k) (l__law_depths : k__law_depths ≤ k) (l__law_high : k__law_high ≤ k) (l_height : k_height ≤ k) (l_Move___init__ : k_Move___init__ + 1 ≤ k) (l_Move_before : k_Move_before + 1 ≤ k) (l_Move___call__ : k_Move___call__ ≤ k)
    (len : ∀ vs H Q E, sp vs H Q E → vs.length = 4) (pu : ∀ vs H Q E, sp vs H Q E → rd__law_done K sp__law_text sp_grown sp__law_comb sp__law_depths sp__law_high sp_height a_Move sp_Move___init__ sp_Move_before sp_Move___call__ { nx := fun _ H' => Q .non H', rt := Q } (start N__law_done vs) H) :
    FnG P w K mg base CX0 (k + 1) f fd ["_law_purse_here", "_law_one", "_law_other", "_law_row"] sp :=
  okG F sc__law_done len fun cdv A outer s H vs Q E hr h => ⟨rd__law_done K sp__law_text sp_grown sp__law_comb sp__law_depths sp__law_high sp_height a_Move sp_Move___init__ sp_Move_before sp_Move___call__, PSs.nox (
    have nd := sc__law_done.nd
    let N := N__law_done
    let scope := defScope s__law_done
    (pss_cons (ps_set (i := 4) nd rfl (by first | exact Or.inl rfl | exact Or.inr rfl) (me_make MK_Move R_Move___init__ (hr.mono l_Move___init__) (by rfl) G_Move passF (pa_cons (me_callG C__law_text (hr.mono l__law_text) (by rfl) pass0 (pa_cons (mv 1) pa_nil)) (pa_cons (me_callG C__law_text (hr.mono l__law_text) (by rfl) pass0 (pa_cons (mv 2) pa_nil)) pa_nil))))
  (pss_cons (ps_set (i := 5) nd rfl (by first | exact Or.inl rfl | exact Or.inr rfl) (me_callG C_grown (hr.mono l_grown) (by rfl) passF (pa_cons (me_prop (mv 4) c_Move PR_Move_before R_Move_before (hr.mono l_Move_before) rfl) (pa_cons (me_lc (own := [("_law_more", 9)]) rfl nd (pi_iterM (mv 3)) (blkOk_by (own := [("_law_more", 9)]) (N := N) (sc := scope) (by decide +kernel)) (fun _ _ _ _ _ => (pg_name (i := 9) nd rfl (by first | exact Or.inl rfl | exact Or.inr rfl))) (fun _ _ _ _ _ => pts_nil) (fun _ _ _ _ _ => (me_callG C__law_comb (hr.mono l__law_comb) (by rfl) pass0 (pa_cons (mv 0) (pa_cons (mv 9) pa_nil))))) pa_nil))))
  (pss_cons (ms_par (i := 6) (j := 7) rfl nd rfl rfl (by decide) rfl rfl (pa_cons (me_callG C__law_depths (hr.mono l__law_depths) (by rfl) pass0 (pa_cons (mv 1) (pa_cons me_int pa_nil))) (pa_cons (me_callG C__law_depths (hr.mono l__law_depths) (by rfl) pass0 (pa_cons (mv 2) (pa_cons me_int pa_nil))) pa_nil)) (by rfl))
  (pss_cons (ps_set (i := 8) nd rfl (by first | exact Or.inl rfl | exact Or.inr rfl) (pe_op op_subM (me_callG C__law_high (hr.mono l__law_high) (by rfl) pass0 (pa_cons (mv 7) (pa_cons (mv 3) pa_nil))) (me_callG C__law_high (hr.mono l__law_high) (by rfl) pass0 (pa_cons (mv 6) (pa_cons (mv 3) pa_nil)))))
  (pss_one (ps_ret (pe_ifExp (mt_cmp (op_eqM hr.units) (pe_op op_subM (me_callG C_height (hr.mono l_height) (by rfl) passF (pa_cons (me_inst (mv 4) CO_Move___call__ R_Move___call__ (hr.mono l_Move___call__) passF (pa_cons (mv 5) pa_nil)) pa_nil)) (me_callG C_height (hr.mono l_height) (by rfl) passF (pa_cons (mv 5) pa_nil))) (mv 8) (by rfl)) (mv 8) me_non)))))))), pu vs H Q E h⟩
abbrev s__law_right : Stmt := top 58
theorem sc__law_right : FnScope N__law_right ["_law_purse_here", "_law_one", "_law_other"] (defScope s__law_right) := ⟨rfl, rfl, rfl, by decide +kernel, rfl, by decide +kernel, by decide +kernel⟩
theorem ok__law_right {k : Nat} {sp : Sp} {sp__law_depths : Sp} {sp_change : Sp} {sp__law_text : Sp} {sp__law_draw : Sp} {sp__law_done : Sp} {k__law_depths : Nat} {p__law_depths : List Str} {k__law_text : Nat} {p__law_text : List Str} {k_change : Nat} {p_change : List Str} {k__law_draw : Nat} {p__law_draw : List Str} {k__law_done : Nat} {p__law_done : List Str} {a_Move : Addr} {sp_Move___init__ : Sp} {k_Move___init__ : Nat} {f_Move___init__ : Addr} (F : FunD K "_law_right" "_law_right" (defArgs s__law_right) (defBody s__law_right) (defScope s__law_right) [] [] f fd) (T : Tx K mg) (C__law_depths : CalG P w K mg base CX0 "_law_depths" k__law_depths p__law_depths [] sp__law_depths) (C__law_text : CalG P w K mg base CX0 "_law_text" k__law_text p__law_text [] sp__law_text) (C_change : CalG P w K mg base (L2.CX P w) "change" k_change p_change [] sp_change) (C__law_draw : CalG P w K mg base CX0 "_law_draw" k__law_draw p__law_draw [] sp__law_draw) (C__law_done : CalG P w K mg base CX0 "_law_done" k__law_done p__law_done [] sp__law_done) (G_Move : mg "Move" = some (.ref a_Move)) (c_Move : Cls K a_Move) (R_Move___init__ : CalR P w K mg base (L2.CX P w) k_Move___init__ f_Move___init__ sp_Move___init__) (MK_Move : Mk K a_Move f_Move___init__) (l__law_depths : k__law_depths ≤ k) (l__law_text : k__law_text ≤ k) (l_change : k_change ≤ k) (l__law_draw : k__law_draw ≤ k) (l__law_done : k__law_done ≤ k) (l_Move___init__ : k_Move___init__ + 1 ≤ k)
    (len : ∀ vs H Q E, sp vs H Q E → vs.length = 3) (pu : ∀ vs H Q E, sp vs H Q E → rd__law_right K sp__law_depths sp_change sp__law_text sp__law_draw sp__law_done a_Move sp_Move___init__ { nx := fun _ H' => Q .non H', rt := Q } (start N__law_right vs) H) :
    FnG P w K mg base CX0 (k + 1) f fd ["_law_purse_here", "_law_one", "_law_other"] sp :=
  okG F sc__law_right len fun cdv A outer s H vs Q E hr h => ⟨rd__law_right K sp__law_depths sp_change sp__law_text sp__law_draw sp__law_done a_Move sp_Move___init__, PSs.nox (
    have nd := sc__law_right.nd
    let N := N__law_right
    let scope := defScope s__law_right
    (pss_cons (ps_asg (pe_tup (pa_cons (me_callG C__law_depths (hr.mono l__law_depths) (by rfl) pass0 (pa_cons (mv 1) (pa_cons me_int pa_nil))) (pa_cons (me_callG C__law_depths (hr.mono l__law_depths) (by rfl) pass0 (pa_cons (mv 2) (pa_cons me_int pa_nil))) pa_nil))) (mg_tup rfl (mgs_cons (pg_name (i := 3) nd rfl (by first | exact Or.inl rfl | exact Or.inr rfl)) (mgs_cons (pg_name (i := 4) nd rfl (by first | exact Or.inl rfl | exact Or.inr rfl)) mgs_nil))))
  (pss_cons (ps_set (i := 5) nd rfl (by first | exact Or.inl rfl | exact Or.inr rfl) (me_lc (own := [("_law_at", 13)]) rfl nd (pi_rng1M (by rfl) T.f_range (pe_callB call_lenM (by rfl) T.f_len (by decide +kernel) (pa_cons (mv 3) pa_nil))) (blkOk_by (own := [("_law_at", 13)]) (N := N) (sc := scope) (by decide +kernel)) (fun _ _ _ _ _ => (pg_name (i := 13) nd rfl (by first | exact Or.inl rfl | exact Or.inr rfl))) (fun _ _ _ _ _ => pts_nil) (fun _ _ _ _ _ => (pe_callTy call_intM (by rfl) T.f_int (by decide +kernel) (pa_cons (pe_op op_subM (me_ix (mv 4) (mv 13) (fun _ _ => rfl)) (me_ix (mv 3) (mv 13) (fun _ _ => rfl))) pa_nil)))))
  (pss_cons (ps_asg (me_callG C_change (hr.mono l_change) (by rfl) passF (pa_cons (me_make MK_Move R_Move___init__ (hr.mono l_Move___init__) (by rfl) G_Move passF (pa_cons (me_callG C__law_text (hr.mono l__law_text) (by rfl) pass0 (pa_cons (mv 1) pa_nil)) (pa_cons (me_callG C__law_text (hr.mono l__law_text) (by rfl) pass0 (pa_cons (mv 2) pa_nil)) pa_nil))) pa_nil)) (mg_tup rfl (mgs_cons (pg_name (i := 6) nd rfl (by first | exact Or.inl rfl | exact Or.inr rfl)) (mgs_cons (pg_name (i := 7) nd rfl (by first | exact Or.inl rfl | exact Or.inr rfl)) mgs_nil))))
  (pss_cons (ps_if (mt_cmp (op_neM hr.units) (pe_tup (pa_cons (mv 6) (pa_cons (mv 7) pa_nil))) (pe_tup (pa_cons (pe_callB (call_minLM rfl) (by rfl) T.f_min (by decide +kernel) (pa_cons (me_lc (own := [("_law_one", 1)]) rfl nd (pi_iterM (mv 5)) (blkOk_by (own := [("_law_one", 1)]) (N := N) (sc := scope) (by decide +kernel)) (fun _ _ _ _ _ => (pg_name (i := 1) nd rfl (by first | exact Or.inl rfl | exact Or.inr rfl))) (fun _ _ _ _ _ => pts_nil) (fun _ _ _ _ _ => (pe_callTy call_intM (by rfl) T.f_int (by decide +kernel) (pa_cons (mv 1) pa_nil)))) pa_nil)) (pa_cons (pe_callB (call_maxLM rfl) (by rfl) T.f_max (by decide +kernel) (pa_cons (me_lc (own := [("_law_one", 1)]) rfl nd (pi_iterM (mv 5)) (blkOk_by (own := [("_law_one", 1)]) (N := N) (sc := scope) (by decide +kernel)) (fun _ _ _ _ _ => (pg_name (i := 1) nd rfl (by first | exact Or.inl rfl | exact Or.inr rfl))) (fun _ _ _ _ _ => pts_nil) (fun _ _ _ _ _ => (pe_callTy call_intM (by rfl) T.f_int (by decide +kernel) (pa_cons (mv 1) pa_nil)))) pa_nil)) pa_nil))) (by rfl)) (pss_one (ps_ret me_bl)) pss_nil)
  (pss_cons (ps_if (mt_cmp (op_neM hr.units) (me_callG C_change (hr.mono l_change) (by rfl) passF (pa_cons (me_make MK_Move R_Move___init__ (hr.mono l_Move___init__) (by rfl) G_Move passF (pa_cons (me_callG C__law_text (hr.mono l__law_text) (by rfl) pass0 (pa_cons (mv 2) pa_nil)) (pa_cons (me_callG C__law_text (hr.mono l__law_text) (by rfl) pass0 (pa_cons (mv 1) pa_nil)) pa_nil))) pa_nil)) (pe_tup (pa_cons (pe_op op_subM me_int (mv 7)) (pa_cons (pe_op op_subM me_int (mv 6)) pa_nil))) (by rfl)) (pss_one (ps_ret me_bl)) pss_nil)
  (pss_cons (ms_for PassesOwn.never rfl (pi_iterM (pe_lst (pa_cons me_int (pa_cons me_int (pa_cons me_int pa_nil))))) (pg_name (i := 8) nd rfl (by first | exact Or.inl rfl | exact Or.inr rfl)) (pss_cons (ps_set (i := 9) nd rfl (by first | exact Or.inl rfl | exact Or.inr rfl) (pe_op op_mulM (pe_lst (pa_cons me_int pa_nil)) (pe_callB call_lenM (by rfl) T.f_len (by decide +kernel) (pa_cons (mv 5) pa_nil))))
  (pss_cons (ms_for PassesOwn.never rfl (pi_rng1M (by rfl) T.f_range me_int) (pg_name (i := 10) nd rfl (by first | exact Or.inl rfl | exact Or.inr rfl)) (pss_one (ps_asg (me_callG C__law_draw (hr.mono l__law_draw) (by rfl) pass0 (pa_cons (mv 0) (pa_cons (mv 8) pa_nil))) (pg_sub (mv 9) (me_callG C__law_draw (hr.mono l__law_draw) (by rfl) pass0 (pa_cons (mv 0) (pa_cons (pe_callB call_lenM (by rfl) T.f_len (by decide +kernel) (pa_cons (mv 5) pa_nil)) pa_nil))) set_listM))))
  (pss_cons (ps_set (i := 11) nd rfl (by first | exact Or.inl rfl | exact Or.inr rfl) (me_callG C__law_done (hr.mono l__law_done) (by rfl) pass0 (pa_cons (mv 0) (pa_cons (mv 1) (pa_cons (mv 2) (pa_cons (mv 9) pa_nil))))))
  (pss_one (ps_if (PW.pt (pw_or (mt_cmp op_isM (mv 11) me_non (by rfl)) (pw_or1 (pt_not (mt_chain op_leM op_leM (mv 6) (mv 11) (mv 7)))))) (pss_one (ps_ret me_bl)) pss_nil))))))
  (pss_cons (ms_for PassesOwn.never rfl (pi_iterM (pe_lst (pa_cons (mv 6) (pa_cons (mv 7) pa_nil)))) (pg_name (i := 12) nd rfl (by first | exact Or.inl rfl | exact Or.inr rfl)) (pss_cons (ms_setLc (i := 9) (own := [("_law_at", 13)]) rfl nd rfl rfl (sw_true rfl rfl rfl (by decide +kernel)) (pi_rng1M (by rfl) T.f_range (pe_callB call_lenM (by rfl) T.f_len (by decide +kernel) (pa_cons (mv 5) pa_nil))) (blkOk_by (own := [("_law_at", 13)]) (N := N) (sc := scope) (by decide +kernel)) (fun _ _ _ _ _ => (pg_name (i := 13) nd rfl (by first | exact Or.inl rfl | exact Or.inr rfl))) (fun _ _ _ _ _ => pts_nil) (fun _ _ _ _ _ => (pe_op op_mulM me_int (pe_callTy call_intM (by rfl) T.f_int (by decide +kernel) (pa_cons (pe_cmpR (op_eqM hr.units) (mv 13) (me_index (mv 5) (mv 12)) (by rfl)) pa_nil)))))
  (pss_one (ps_if (mt_cmp (op_neM hr.units) (me_callG C__law_done (hr.mono l__law_done) (by rfl) pass0 (pa_cons (mv 0) (pa_cons (mv 1) (pa_cons (mv 2) (pa_cons (mv 9) pa_nil))))) (mv 12) (by rfl)) (pss_one (ps_ret me_bl)) pss_nil))))
  (pss_one (ps_ret me_bl)))))))))), pu vs H Q E h⟩
abbrev s_law : Stmt := top 59
theorem sc_law : FnScope N_law ["_law_script"] (defScope s_law) := ⟨rfl, rfl, rfl, by decide +kernel, rfl, by decide +kernel, by decide +kernel⟩
theorem ok_law {k : Nat} {sp : Sp} {sp__law_purse : Sp} {sp__law_draw : Sp} {sp__law_right : Sp} {sp__law_nest : Sp} {sp_change : Sp} {k__law_purse : Nat} {p__law_purse : List Str} {k__law_draw : Nat} {p__law_draw : List Str} {k__law_nest : Nat} {p__law_nest : List Str} {k__law_right : Nat} {p__law_right : List Str} {k_change : Nat} {p_change : List Str} {a_TurnError : Addr} {a_InvalidMove : Addr} (F : FunD K "law" "law" (defArgs s_law) (defBody s_law) (defScope s_law) [] [] f fd) (T : Tx K mg) (C__law_purse : CalG P w K mg base CX0 "_law_purse" k__law_purse p__law_purse [] sp__law_purse) (C__law_draw : CalG P w K mg base CX0 "_law_draw" k__law_draw p__law_draw [] sp__law_draw) (C__law_nest : CalG P w K mg base CX0 "_law_nest" k__law_nest p__law_nest [] sp__law_nest) (C__law_right : CalG P w K mg base CX0 "_law_right" k__law_right p__law_right [] sp__law_right) (C_change : CalG P w K mg base (L2.CX P w) "change" k_change p_change [] sp_change) (G_TurnError : mg "TurnError" = some (.ref a_TurnError)) (X_InvalidMove : ExcAt P w K mg "InvalidMove" "value" a_InvalidMove) (l__law_purse : k__law_purse ≤ k) (l__law_draw : k__law_draw ≤ k) (l__law_nest : k__law_nest ≤ k) (l__law_right : k__law_right ≤ k) (l_change : k_change ≤ k)
    (len : ∀ vs H Q E, sp vs H Q E → vs.length = 1) (pu : ∀ vs H Q E, sp vs H Q E → rd_law K sp__law_purse sp__law_draw sp__law_right sp__law_nest sp_change a_TurnError a_InvalidMove { nx := fun _ H' => Q .non H', rt := Q } (start N_law vs) H) :
    FnG P w K mg base CX0 (k + 1) f fd ["_law_script"] sp :=
  okG F sc_law len fun cdv A outer s H vs Q E hr h => ⟨rd_law K sp__law_purse sp__law_draw sp__law_right sp__law_nest sp_change a_TurnError a_InvalidMove, PSs.nox (
    have nd := sc_law.nd
    let N := N_law
    let scope := defScope s_law
    (pss_cons (ms_for PassesOwn.never rfl (pi_rng1M (by rfl) T.f_range me_int) (pg_name (i := 1) nd rfl (by first | exact Or.inl rfl | exact Or.inr rfl)) (pss_cons (ps_set (i := 2) nd rfl (by first | exact Or.inl rfl | exact Or.inr rfl) (me_callG C__law_purse (hr.mono l__law_purse) (by rfl) pass0 (pa_cons (mv 0) (pa_cons (mv 1) pa_nil))))
  (pss_one (ms_for PassesOwn.never rfl (pi_iterM (pe_lst (pa_cons me_int (pa_cons (me_ix (pe_lst (pa_cons me_int (pa_cons me_int pa_nil))) (me_callG C__law_draw (hr.mono l__law_draw) (by rfl) pass0 (pa_cons (mv 2) (pa_cons me_int pa_nil))) (fun _ _ => rfl)) pa_nil)))) (pg_name (i := 3) nd rfl (by first | exact Or.inl rfl | exact Or.inr rfl)) (pss_cons (ps_set (i := 4) nd rfl (by first | exact Or.inl rfl | exact Or.inr rfl) (me_callG C__law_draw (hr.mono l__law_draw) (by rfl) pass0 (pa_cons (mv 2) (pa_cons (mv 3) pa_nil))))
  (pss_one (ps_if (pt_not (mt_val (me_callG C__law_right (hr.mono l__law_right) (by rfl) pass0 (pa_cons (mv 2) (pa_cons (me_callG C__law_nest (hr.mono l__law_nest) (by rfl) pass0 (pa_cons (mv 2) (pa_cons (mv 4) pa_nil))) (pa_cons (me_callG C__law_nest (hr.mono l__law_nest) (by rfl) pass0 (pa_cons (mv 2) (pa_cons (mv 4) pa_nil))) pa_nil)))))) (pss_one (ps_ret me_bl)) pss_nil)))))))
  (pss_cons (ms_for PassesOwn.never rfl (pi_iterM (pe_lst (pa_cons me_non (pa_cons me_int (pa_cons (me_str [40, 40, 46, 46, 41, 46, 41] (by rfl)) (pa_cons (pe_tup (pa_cons (me_str [40, 40, 46, 46, 41, 46, 41] (by rfl)) (pa_cons (me_str [40, 46, 40, 46, 46, 41, 41] (by rfl)) pa_nil))) (pa_cons (pe_lst pa_nil) (pa_cons me_bl pa_nil)))))))) (pg_name (i := 5) nd rfl (by first | exact Or.inl rfl | exact Or.inr rfl)) (pss_cons (ps_set (i := 6) nd rfl (by first | exact Or.inl rfl | exact Or.inr rfl) me_non)
  (pss_cons (ms_try (i := 7) (j := 6) (tb := fun W => (tDrop (tCallSD sp_change [] (WE W) (tCons (mVar 5) tNil)))) rfl rfl rfl nd rfl rfl ⟨by rfl, by decide, Or.inl G_TurnError⟩ (fun W pn xe tk po => (pss_one (ps_expr (me_callS C_change (hr.mono l_change) (by rfl) tk (pa_cons (mv 5) pa_nil))))) (fun a oe pn hf => pss_one (ps_set (i := 6) nd rfl (by first | exact Or.inl rfl | exact Or.inr rfl) (mv 7))))
  (pss_one (ps_if (PW.pt (pw_or (pt_not (mt_val (pe_callB call_isiE (by rfl) T.f_isinstance (by decide +kernel) (pa_cons (mv 6) (pa_cons (pe_glob (by rfl) X_InvalidMove.gC rfl) pa_nil))))) (pw_or1 (mt_cmp (op_neM hr.units) (pe_callB (call_reprG T.sm hr) (by rfl) T.f_repr (by decide +kernel) (pa_cons (me_fld (mv 6)) pa_nil)) (pe_callB (call_reprG T.sm hr) (by rfl) T.f_repr (by decide +kernel) (pa_cons (mv 5) pa_nil)) (by rfl))))) (pss_one (ps_ret me_bl)) pss_nil)))))
  (pss_one (ps_ret me_bl))))), pu vs H Q E h⟩
end
end Pf
namespace Pf
open PySem PySem.Spec PyProof.Rows L2 M
local macro_rules | `(tactic| walk_at "go") => `(tactic| try simp only [↓q_par, ↓q_par3, tSeq, tIfS, tIf, tNot, mTest, tCB, tCons, tNil, mVar, M.gt, mC, Bool.not_true, Bool.not_false, Bool.false_eq_true, if_false, if_true, tNext, tAsg, gName, gSub, List.set_cons_zero, List.set_cons_succ, mFor, mIter, mRevS, S_cps, S_len, S_app, tOp, tSl, mPart, mUn, tNoPart, tRet, tRetN, tTup, tLst, tAnd, tOr, mAndV, mOrV, mNotV, tCall, tCallSD, tDrop, mPar, mPar3, mLstM, mStrM, mBits, mRng1, mRng2, mgTup, mgSeq, mgCons, mgNil, q_add1, q_add2, q_add3, q_add4, q_iadd1, q_iadd2, q_iadd3, q_sorted, q_sub, q_mul1, q_mul2, q_mul3, q_mod, q_div, q_pow, q_eq1, q_eq2, q_eq3, q_eq4, q_eq5, q_eq6, q_eq7, q_eq8, q_eq9, q_eq10, q_ne1, q_ne2, q_ne3, q_ne9, q_ne10, q_lt, q_le, q_gt, q_ge, q_inc1, q_ix1, q_ix2, q_sl1, q_sl2, q_set, q_len1, q_len2, q_int1, q_int2, q_max, q_min, q_abs, q_sum, q_list, q_isi1, q_is1, q_not1, q_isN1, q_isN2, q_isN3, q_isN4, q_join, q_count, q_split, q_app, q_pop, q_clear, q_isiE, q_repr, q_nin1, q_intab, q_ninta, q_ixtab, wipe, List.map_cons, List.map_nil, List.length_cons, List.length_nil, List.length_append, List.length_map, List.nil_append, List.cons_append, List.append_nil, cut_m3, cut_t3, cut_m1, cut_t1, cut_t2, S_eq, decide_eq_true_eq, Bool.not_eq_true', decide_eq_false_iff_not, ne_eq])
local macro_rules | `(tactic| walk_at "hh") => `(tactic| first | assumption | exact upd_same | exact Ex.new (by assumption) _ _ (by walk_at "hh") | exact Ex.at (by assumption) (by assumption) | solve_by_elim [Ex.at])
local macro_rules | `(tactic| walk_at "ee") => `(tactic| first | assumption | exact Ex.refl _ | exact Ex.push (by walk_at "ee") (by assumption) | exact Ex.trans (by assumption) (by assumption) | solve_by_elim [Ex.trans])
local macro_rules | `(tactic| walk_at "sz") => `(tactic| first | (rw [szl]; omega) | (simp only [szl, tx_len, sg_len, List.length_map, List.length_append, List.length_cons, List.length_nil, List.length_singleton, List.length_take, List.length_drop, List.length_reverse, S_len]; omega))
def sp__law_mixed : Sp := fun vs H Q _ => ∃ i j : Int, vs = [.int i, .int j] ∧ 0 ≤ i ∧ i < 2 ^ 40 ∧ 0 ≤ j ∧ j < 2 ^ 200 ∧ ∀ r : Int, 0 ≤ r → r < 2147483587 → Q (.int r) H
theorem pu__law_mixed (K : PySem.W.Frag) (vs : List V) (H : Hp) (Q : VK) (E : XK) (h : sp__law_mixed vs H Q E) : rd__law_mixed K { nx := fun _ H' => Q .non H', rt := Q } (L2.start N__law_mixed vs) H := by
  obtain ⟨i, j, rfl, h1, h2, h3, h4, k⟩ := h
  show rd__law_mixed K _ [some _, some _, none] H
  unfold rd__law_mixed
  walk_at "go"
  have m1 : ∀ x : Int, 0 ≤ x % 2147483647 ∧ x % 2147483647 < 2 ^ 31 := fun x => ⟨Int.emod_nonneg _ (by decide), Int.lt_of_lt_of_le (Int.emod_lt_of_pos _ (by decide)) (by decide)⟩
  have m2 : ∀ x : Int, 0 ≤ x % 2147483629 ∧ x % 2147483629 < 2 ^ 31 := fun x => ⟨Int.emod_nonneg _ (by decide), Int.lt_of_lt_of_le (Int.emod_lt_of_pos _ (by decide)) (by decide)⟩
  refine ⟨mulOk 40 31 h1 h2 (by decide) (by decide), mulOk 20 200 (by decide) (by decide) h3 h4, ?_, by decide, mulOk 31 31 (m1 _).1 (m1 _).2 (m1 _).1 (m1 _).2, by decide, mulOk 31 31 (m2 _).1 (m2 _).2 (by decide) (by decide), by decide, k _ (Int.emod_nonneg _ (by decide)) (Int.emod_lt_of_pos _ (by decide))⟩
  refine mulOk 220 200 (Int.mul_nonneg (by decide) h3) ?_ h3 h4
  calc 7919 * j ≤ 7919 * 2 ^ 200 := Int.mul_le_mul_of_nonneg_left (Int.le_of_lt h4) (by decide)
    _ < 2 ^ 220 := by decide
def sp__law_purse (K : PySem.W.Frag) : Sp := fun vs H Q _ => ∃ (a : Addr) (ns : List Int) (i : Nat), vs = [.ref a, .int i] ∧ SqL K H a (ns.map V.int) ∧ i ≤ 1000 ∧ ∀ H' p, Ex H H' → H p = none → Pu H' p 2000000 → Q (.ref p) H'
theorem pu__law_purse (K : PySem.W.Frag) (vs : List V) (H : Hp) (Q : VK) (E : XK) (h : sp__law_purse K vs H Q E) : rd__law_purse K { nx := fun _ H' => Q .non H', rt := Q } (L2.start N__law_purse vs) H := by
  obtain ⟨a, ns, i, rfl, hL, hi, k⟩ := h
  show rd__law_purse K _ [some _, some _, none] H
  unfold rd__law_purse
  walk_at "go"
  refine ⟨_, hL, fun q hq => ?_⟩
  walk_at "go"
  refine ⟨(ns.drop i).take (i + 1 - i), SqL.of ?_, ?_⟩
  · rw [upd_same, show ((i : Int) + 1) = ((i + 1 : Nat) : Int) by omega, cut_mid, ← List.map_drop, ← List.map_take]
  generalize ((ns.drop i).take (i + 1 - i)).sum = r
  walk_at "go"
  refine ⟨by decide, by decide +kernel, by decide +kernel, by decide, by decide, ?_, by walk_at "sz", fun p hp => k _ p ((Ex.new hq).push hp) ((Ex.new hq).free hp) ⟨_, _, _, upd_same, ?_⟩⟩
  · exact mulOk 20 20 (by decide) (by decide) (by omega) (by omega)
  · have e : (((10 : Int) ^ (60 : Int).toNat) ^ (10 : Int).toNat) = 10 ^ 600 := by decide +kernel
    rw [e]
    have e2 : (10 : Int) ^ 600 < 2 ^ 2000 := by decide +kernel
    refine ⟨Int.emod_nonneg _ (by decide +kernel), Int.lt_trans (Int.emod_lt_of_pos _ (by decide +kernel)) e2, Int.emod_nonneg _ (by decide), Int.lt_of_lt_of_le (Int.emod_lt_of_pos _ (by decide)) (by decide), by omega, by omega⟩
def sp__law_draw : Sp := fun vs H Q _ => ∃ (g : Addr) (n : Nat) (m : Int), vs = [.ref g, .int m] ∧ 0 < m ∧ m < 2 ^ 200 ∧ n < 2 ^ 100 ∧ Pu H g n ∧ ∀ H' r, Fm [g] H H' → Pu H' g (n + 10) → 0 ≤ r → r < m → Q (.int r) H'
theorem pu__law_draw (K : PySem.W.Frag) (vs : List V) (H : Hp) (Q : VK) (E : XK) (h : sp__law_draw vs H Q E) : rd__law_draw K sp__law_mixed { nx := fun _ H' => Q .non H', rt := Q } (L2.start N__law_draw vs) H := by
  obtain ⟨g, n, m, rfl, m0, m1, hn, ⟨a, b, c, hg, a0, a1, b0, b1, c0, c1⟩, k⟩ := h
  show rd__law_draw K _ _ [some _, some _, none, none, none] H
  unfold rd__law_draw
  walk_at "go"
  refine ⟨_, _, .inl (SqL.of hg), aI_0 _ _, ?_⟩
  walk_at "go"
  by_cases ca : 0 < a
  · rw [if_pos ca]
    refine ⟨_, _, .inl (SqL.of hg), aI_0 _ _, ?_⟩
    walk_at "go"
    refine ⟨m0, _, _, .inl (SqL.of hg), aI_0 _ _, ?_⟩
    walk_at "go"
    refine ⟨divOk 200 m0 m1, _, 0, hg, rfl, ?_⟩
    refine k _ _ (Fm.mut (by simp)) ⟨_, b, c, upd_same, ?_⟩ (Int.emod_nonneg _ (by omega)) (Int.emod_lt_of_pos _ m0)
    refine ⟨Int.ediv_nonneg a0 (by omega), Int.lt_of_le_of_lt (Int.ediv_le_self _ a0) a1, b0, b1, c0, by omega⟩
  · rw [if_neg ca]
    walk_at "go"
    have hb := bits_le (Int.le_of_lt m0) m1
    have hd : ((Builtin.Int.intBits m : Int) / 30) ≤ 6 := by omega
    have hd0 : 0 ≤ ((Builtin.Int.intBits m : Int) / 30) := by omega
    refine ⟨divOk 10 (by decide) (by decide), ⟨by omega, by omega⟩, ?_⟩
    refine (?lp : ∀ (r : List V) (w : Int) (v : Option V) (j : Nat) (c : Int) (H1 : Hp), Fm [g] H H1 → H1 g = some (.lst [.int a, .int b, .int c]) → 0 ≤ c → c < n + j → 0 ≤ w → w < 2 ^ (40 * j + 1) → r.length + j ≤ 7 → fV _ _ _ _ r [some _, some _, none, some (.int w), v] H1) _ 0 none 0 c H (Fm.refl _ _) hg c0 (by omega) (by decide) (by decide) (by simp [upto]; omega)
    intro r
    induction r with
    | nil =>
      intro w v j c H1 e h1 c0 c1 w0 w1 hl
      simp only [fV]
      walk_at "go"
      refine ⟨trivial, m0, k _ _ e ⟨a, b, c, h1, a0, a1, b0, b1, c0, ?_⟩ (Int.emod_nonneg _ (by omega)) (Int.emod_lt_of_pos _ m0)⟩
      simp only [List.length_nil] at hl; omega
    | cons x r ih =>
      intro w v j c H1 e h1 c0 c1 w0 w1 hl
      simp only [fV]
      walk_at "go"
      refine ⟨trivial, _, _, .inl (SqL.of h1), aI_2 _ _ _ _, ?_⟩
      walk_at "go"
      refine ⟨_, 2, h1, rfl, ?_⟩
      simp only [List.set_cons_zero, List.set_cons_succ]
      refine ⟨?_, _, _, .inl (SqL.of upd_same), aI_1 _ _ _, _, _, .inl (SqL.of upd_same), aI_2 _ _ _ _, ?_⟩
      · refine mulOk 400 40 w0 (Int.lt_of_lt_of_le w1 ?_) (by decide) (by decide)
        exact_mod_cast Nat.pow_le_pow_right (by decide) (by simp only [List.length_cons] at hl; omega)
      · refine ⟨b, c + 1, rfl, b0, Int.lt_of_lt_of_le b1 (by decide), by omega, ?_, fun z z0 z1 => ?_⟩
        · have : (n : Int) < 2 ^ 100 := by exact_mod_cast hn
          simp only [List.length_cons] at hl
          calc c + 1 ≤ (2 : Int) ^ 100 + 8 := by omega
            _ < 2 ^ 200 := by decide
        · walk_at "go"
          refine ih _ _ (j + 1) (c + 1) _ (e.trans (Fm.mut (by simp))) upd_same (by omega) (by omega) ?_ ?_ (by simp only [List.length_cons] at hl; omega)
          · exact Int.add_nonneg (Int.mul_nonneg w0 (by decide)) z0
          · have e1 : (2 : Int) ^ (40 * (j + 1) + 1) = 2 ^ (40 * j + 1) * 2 ^ 40 := by
              rw [show 40 * (j + 1) + 1 = (40 * j + 1) + 40 by omega, Int.pow_add]
            have w2 : w + 1 ≤ 2 ^ (40 * j + 1) := w1
            calc w * 2147483587 + z < w * 2147483587 + 2147483587 := by omega
              _ = (w + 1) * 2147483587 := by rw [Int.add_mul]; omega
              _ ≤ 2 ^ (40 * j + 1) * 2147483587 := Int.mul_le_mul_of_nonneg_right w2 (by decide)
              _ ≤ 2 ^ (40 * j + 1) * 2 ^ 40 := Int.mul_le_mul_of_nonneg_left (by decide) (by omega)
              _ = _ := e1.symm
end Pf

namespace Pf
open PySem PySem.Spec PyProof.Rows L2 M
local macro_rules | `(tactic| walk_at "go") => `(tactic| try simp only [↓q_par, ↓q_par3, tSeq, tIfS, tIf, tNot, mTest, tCB, tCons, tNil, mVar, M.gt, mC, Bool.not_true, Bool.not_false, Bool.false_eq_true, if_false, if_true, tNext, tAsg, gName, gSub, List.set_cons_zero, List.set_cons_succ, mFor, mIter, mRevS, S_cps, S_len, S_app, tOp, tSl, mPart, mUn, tNoPart, tRet, tRetN, tTup, tLst, tAnd, tOr, mAndV, mOrV, mNotV, tCall, tCallSD, tDrop, mPar, mPar3, mLstM, mStrM, mBits, mRng1, mRng2, mgTup, mgSeq, mgCons, mgNil, q_add1, q_add2, q_add3, q_add4, q_iadd1, q_iadd2, q_iadd3, q_sorted, q_sub, q_mul1, q_mul2, q_mul3, q_mod, q_div, q_pow, q_eq1, q_eq2, q_eq3, q_eq4, q_eq5, q_eq6, q_eq7, q_eq8, q_eq9, q_eq10, q_ne1, q_ne2, q_ne3, q_ne9, q_ne10, q_lt, q_le, q_gt, q_ge, q_inc1, q_ix1, q_ix2, q_sl1, q_sl2, q_set, q_len1, q_len2, q_int1, q_int2, q_max, q_min, q_abs, q_sum, q_list, q_isi1, q_is1, q_not1, q_isN1, q_isN2, q_isN3, q_isN4, q_join, q_count, q_split, q_app, q_pop, q_clear, q_isiE, q_repr, q_nin1, q_intab, q_ninta, q_ixtab, wipe, List.map_cons, List.map_nil, List.length_cons, List.length_nil, List.length_append, List.length_map, List.nil_append, List.cons_append, List.append_nil, cut_m3, cut_t3, cut_m1, cut_t1, cut_t2, S_eq, decide_eq_true_eq, Bool.not_eq_true', decide_eq_false_iff_not, ne_eq])
local macro_rules | `(tactic| walk_at "hh") => `(tactic| first | assumption | exact upd_same | exact Ex.new (by assumption) _ _ (by walk_at "hh") | exact Ex.at (by assumption) (by assumption) | solve_by_elim [Ex.at])
local macro_rules | `(tactic| walk_at "ee") => `(tactic| first | assumption | exact Ex.refl _ | exact Ex.push (by walk_at "ee") (by assumption) | exact Ex.trans (by assumption) (by assumption) | solve_by_elim [Ex.trans])
local macro_rules | `(tactic| walk_at "sz") => `(tactic| first | (rw [szl]; omega) | (simp only [szl, tx_len, sg_len, List.length_map, List.length_append, List.length_cons, List.length_nil, List.length_singleton, List.length_take, List.length_drop, List.length_reverse, S_len]; omega))
def sp__law_nest (K : PySem.W.Frag) (N : Nat) : Sp := fun vs H Q _ => ∃ (g : Addr) (n m : Nat), vs = [.ref g, .int m] ∧ m < N ∧ m ≤ 2000 ∧ n + 20 * m < 2 ^ 90 ∧ Pu H g n ∧ ∀ H' v (t : Tr), t.n = m → Fm [g] H H' → Pu H' g (n + 20 * m) → Nst K H' v t → Q v H'
theorem pu__law_nest (K : PySem.W.Frag) (N : Nat) (vs : List V) (H : Hp) (Q : VK) (E : XK) (h : sp__law_nest K (N + 1) vs H Q E) : rd__law_nest K sp__law_draw (sp__law_nest K N) { nx := fun _ H' => Q .non H', rt := Q } (L2.start N__law_nest vs) H := by
  obtain ⟨g, n, m, rfl, mN, mm, hn, hp, k⟩ := h
  show rd__law_nest K _ _ _ [some _, some _, none] H
  unfold rd__law_nest
  walk_at "go"
  by_cases c : (m : Int) = 0
  · rw [if_pos c]
    walk_at "go"
    refine ⟨by walk_at "sz", fun p h1 => ?_⟩
    exact k _ _ .lf (by show 0 = m; omega) (Fm.new h1) ((hp.fm (Ex.new h1)).mono (by omega)) (.lf (SqT.of upd_same))
  · rw [if_neg c]
    walk_at "go"
    refine ⟨g, n, (m : Int), rfl, by omega, ?_, by omega, hp, fun H1 r e1 p1 r0 r1 => ?_⟩
    · have : (m : Int) ≤ 2000 := by exact_mod_cast mm
      exact Int.lt_of_le_of_lt this (by decide)
    walk_at "go"
    refine ⟨by walk_at "sz", fun p hp1 => ⟨g, n + 10, 6, rfl, by decide, by decide, by omega, p1.fm (Ex.new hp1), fun H2 j e2 p2 j0 j1 => ?_⟩⟩
    have h2 := e2 p _ (by simpa using p1.ne hp1) (upd_same (H := H1))
    have e3 : Fm [g] H H2 := e1.trans ((Fm.new hp1).trans e2)
    obtain ⟨r, rfl⟩ := Int.eq_ofNat_of_zero_le r0
    obtain ⟨j, rfl⟩ := Int.eq_ofNat_of_zero_le j0
    obtain ⟨q, hq, hqm⟩ : ∃ q : Nat, atI [V.int (r : Int), V.int r, V.int r, V.int r, V.int 0, V.int ((m : Int) - 1)] (j : Int) = some (.int q) ∧ q < m := by
      rcases j with _ | _ | _ | _ | _ | _ | j
      · exact ⟨r, rfl, by omega⟩
      · exact ⟨r, rfl, by omega⟩
      · exact ⟨r, rfl, by omega⟩
      · exact ⟨r, rfl, by omega⟩
      · exact ⟨0, rfl, by omega⟩
      · exact ⟨m - 1, by rw [aI_nat]; show some (V.int _) = _; congr 2; omega, by omega⟩
      · omega
    walk_at "go"
    refine ⟨_, _, .inl (SqL.of h2), hq, ?_⟩
    refine ⟨g, n + 10 + 10, q, rfl, by omega, by omega, by omega, p2, fun H3 v1 t1 ht1 e4 p3 n1 => ?_⟩
    walk_at "go"
    refine ⟨g, n + 10 + 10 + 20 * q, m - 1 - q, by congr 3; omega, by omega, by omega, by omega, p3, fun H4 v2 t2 ht2 e5 p4 n2 => ?_⟩
    walk_at "go"
    refine ⟨by walk_at "sz", fun s hs => ?_⟩
    have e6 := Ex.new (o := .tup [v1, v2]) hs
    have n1' : Nst K H4 v1 t1 := n1.fm (fun p hp => .inr (by rw [List.mem_singleton.mp hp]; exact p3.lst)) e5
    exact k _ _ (.nd t1 t2) (by show t1.n + t2.n + 1 = m; omega) (e3.trans (e4.trans (e5.trans (Fm.ex e6)))) ((p4.fm e6).mono (by omega)) (.nd (SqT.of upd_same) (n1'.ex e6) (n2.ex e6))
end Pf

namespace Pf
open PySem PySem.Spec PyProof.Rows L2 M
local macro_rules | `(tactic| walk_at "go") => `(tactic| try simp only [↓q_par, ↓q_par3, tSeq, tIfS, tIf, tNot, mTest, tCB, tCons, tNil, mVar, M.gt, mC, Bool.not_true, Bool.not_false, Bool.false_eq_true, if_false, if_true, tNext, tAsg, gName, gSub, List.set_cons_zero, List.set_cons_succ, mFor, mIter, mRevS, S_cps, S_len, S_app, tOp, tSl, mPart, mUn, tNoPart, tRet, tRetN, tTup, tLst, tAnd, tOr, mAndV, mOrV, mNotV, tCall, tCallSD, tDrop, mPar, mPar3, mLstM, mStrM, mBits, mRng1, mRng2, mgTup, mgSeq, mgCons, mgNil, q_add1, q_add2, q_add3, q_add4, q_iadd1, q_iadd2, q_iadd3, q_sorted, q_sub, q_mul1, q_mul2, q_mul3, q_mod, q_div, q_pow, q_eq1, q_eq2, q_eq3, q_eq4, q_eq5, q_eq6, q_eq7, q_eq8, q_eq9, q_eq10, q_ne1, q_ne2, q_ne3, q_ne9, q_ne10, q_lt, q_le, q_gt, q_ge, q_inc1, q_ix1, q_ix2, q_sl1, q_sl2, q_set, q_len1, q_len2, q_int1, q_int2, q_max, q_min, q_abs, q_sum, q_list, q_isi1, q_is1, q_not1, q_isN1, q_isN2, q_isN3, q_isN4, q_join, q_count, q_split, q_app, q_pop, q_clear, q_isiE, q_repr, q_nin1, q_intab, q_ninta, q_ixtab, wipe, List.map_cons, List.map_nil, List.length_cons, List.length_nil, List.length_append, List.length_map, List.nil_append, List.cons_append, List.append_nil, cut_m3, cut_t3, cut_m1, cut_t1, cut_t2, S_eq, decide_eq_true_eq, Bool.not_eq_true', decide_eq_false_iff_not, ne_eq])
local macro_rules | `(tactic| walk_at "hh") => `(tactic| first | assumption | exact upd_same | exact Ex.new (by assumption) _ _ (by walk_at "hh") | exact Ex.at (by assumption) (by assumption) | solve_by_elim [Ex.at])
local macro_rules | `(tactic| walk_at "ee") => `(tactic| first | assumption | exact Ex.refl _ | exact Ex.push (by walk_at "ee") (by assumption) | exact Ex.trans (by assumption) (by assumption) | solve_by_elim [Ex.trans])
local macro_rules | `(tactic| walk_at "sz") => `(tactic| first | (rw [szl]; omega) | (simp only [szl, tx_len, sg_len, List.length_map, List.length_append, List.length_cons, List.length_nil, List.length_singleton, List.length_take, List.length_drop, List.length_reverse, S_len]; omega))
def sp__law_text (K : PySem.W.Frag) (N : Nat) : Sp := fun vs H Q _ => ∃ (v : V) (t : Tr), vs = [v] ∧ Nst K H v t ∧ t.ht < N ∧ t.n ≤ 100000 ∧ ∀ H', Ex H H' → Q (.str (S t.s)) H'
theorem pu__law_text (K : PySem.W.Frag) (N : Nat) (vs : List V) (H : Hp) (Q : VK) (E : XK) (h : sp__law_text K (N + 1) vs H Q E) : rd__law_text K (sp__law_text K N) { nx := fun _ H' => Q .non H', rt := Q } (L2.start N__law_text vs) H := by
  obtain ⟨v, t, rfl, ht, hN, hl, k⟩ := h
  obtain ⟨a, rfl⟩ := ht.ref
  show rd__law_text K _ _ [some _] H
  unfold rd__law_text
  walk_at "go"
  refine ⟨by walk_at "sz", fun p hp => ?_⟩
  refine eq_nil (ht.ex (Ex.new hp)) (SqT.of upd_same) ?_
  have e1 := Ex.new (o := .tup []) hp
  cases ht with
  | lf h1 =>
    walk_at "go"
    exact k _ e1
  | @nd _ l r t u h1 h2 h3 =>
    simp only [Tr.ht] at hN
    simp only [Tr.n] at hl
    have l1 := t.s_len
    have l2 := u.s_len
    walk_at "go"
    rw [if_neg (by simp)]
    refine ⟨_, _, .inr (e1.T h1), aI_0 _ _, ?_⟩
    refine ⟨l, t, rfl, h2.ex e1, by omega, by omega, fun H1 e2 => ?_⟩
    walk_at "go"
    have e3 := e1.trans e2
    refine ⟨by walk_at "sz", _, _, .inr (e3.T h1), aI_1 _ _ _, ?_⟩
    refine ⟨r, u, rfl, h3.ex e3, by omega, by omega, fun H2 e4 => ?_⟩
    walk_at "go"
    refine ⟨by walk_at "sz", by walk_at "sz", ?_⟩
    have := k H2 (e3.trans e4)
    simpa only [Tr.s, List.append_assoc, List.cons_append, List.nil_append] using this
end Pf

namespace Pf
open PySem PySem.Spec PyProof.Rows L2 M
local macro_rules | `(tactic| walk_at "go") => `(tactic| try simp only [↓q_par, ↓q_par3, tSeq, tIfS, tIf, tNot, mTest, tCB, tCons, tNil, mVar, M.gt, mC, Bool.not_true, Bool.not_false, Bool.false_eq_true, if_false, if_true, tNext, tAsg, gName, gSub, List.set_cons_zero, List.set_cons_succ, mFor, mIter, mRevS, S_cps, S_len, S_app, tOp, tSl, mPart, mUn, tNoPart, tRet, tRetN, tTup, tLst, tAnd, tOr, mAndV, mOrV, mNotV, tCall, tCallSD, tDrop, mPar, mPar3, mLstM, mStrM, mBits, mRng1, mRng2, mgTup, mgSeq, mgCons, mgNil, q_add1, q_add2, q_add3, q_add4, q_iadd1, q_iadd2, q_iadd3, q_sorted, q_sub, q_mul1, q_mul2, q_mul3, q_mod, q_div, q_pow, q_eq1, q_eq2, q_eq3, q_eq4, q_eq5, q_eq6, q_eq7, q_eq8, q_eq9, q_eq10, q_ne1, q_ne2, q_ne3, q_ne9, q_ne10, q_lt, q_le, q_gt, q_ge, q_inc1, q_ix1, q_ix2, q_sl1, q_sl2, q_set, q_len1, q_len2, q_int1, q_int2, q_max, q_min, q_abs, q_sum, q_list, q_isi1, q_is1, q_not1, q_isN1, q_isN2, q_isN3, q_isN4, q_join, q_count, q_split, q_app, q_pop, q_clear, q_isiE, q_repr, q_nin1, q_intab, q_ninta, q_ixtab, wipe, List.map_cons, List.map_nil, List.length_cons, List.length_nil, List.length_append, List.length_map, List.nil_append, List.cons_append, List.append_nil, cut_m3, cut_t3, cut_m1, cut_t1, cut_t2, S_eq, decide_eq_true_eq, Bool.not_eq_true', decide_eq_false_iff_not, ne_eq])
/-- a value that is no text -/
inductive Oth (K : PySem.W.Frag) (H : Hp) : V → Prop
  | non : Oth K H .non
  | int (i : Int) : Oth K H (.int i)
  | bl (b : Bool) : Oth K H (.bl b)
  | lst {a : Addr} {xs : List V} : SqL K H a xs → Oth K H (.ref a)
  | tup {a : Addr} {xs : List V} : SqT K H a xs → Oth K H (.ref a)
  | dct {a : Addr} {kvs : List (Key × V)} : H a = some (.dK kvs) → Oth K H (.ref a)
theorem Oth.ex {K : PySem.W.Frag} {H H' : Hp} (e : Ex H H') {v : V} (h : Oth K H v) : Oth K H' v := by
  cases h with
  | non => exact .non
  | int i => exact .int i
  | bl b => exact .bl b
  | lst h => exact .lst (e.L h)
  | tup h => exact .tup (e.T h)
  | dct h => exact .dct (e _ _ h)
theorem Oth.isi {K : PySem.W.Frag} {H : Hp} {v : V} {Q : VK} (h : Oth K H v) (q : Q (.bl false) H) : mIsi K [v, .ty "str"] H Q := by
  cases h with
  | non => unfold mIsi; simp only [tyN, kb16]; exact q
  | int i => unfold mIsi; simp only [tyN, kb6]; exact q
  | bl b => unfold mIsi; simp only [tyN, kb11]; exact q
  | lst h => exact ⟨_, _, tyX_list h, ki_list.1, q⟩
  | tup h => exact ⟨_, _, tyX_tup h, ki_tup.1, q⟩
  | dct h => exact ⟨_, _, .base (.dK h), ki_dict.1, q⟩
def TV (K : PySem.W.Frag) (H : Hp) (v : V) (b : Bool) : Prop := (∃ z, v = .str (S z) ∧ z.length ≤ 1000000 ∧ b = isTr z) ∨ (Oth K H v ∧ b = false)
theorem TV.ex {K : PySem.W.Frag} {H H' : Hp} (e : Ex H H') {v : V} {b : Bool} (h : TV K H v b) : TV K H' v b := h.imp id fun ⟨h1, h2⟩ => ⟨h1.ex e, h2⟩
def sp_is_tree (K : PySem.W.Frag) : Sp := fun vs H Q _ => ∃ v b, vs = [v] ∧ TV K H v b ∧ ∀ H', Ex H H' → Q (.bl b) H'
theorem pu_is_tree (K : PySem.W.Frag) (vs : List V) (H : Hp) (Q : VK) (E : XK) (h : sp_is_tree K vs H Q E) : rd_is_tree K { nx := fun _ H' => Q .non H', rt := Q } (L2.start N_is_tree vs) H := by
  obtain ⟨v, b, rfl, ⟨z, rfl, hz, rfl⟩ | ⟨ho, rfl⟩, k⟩ := h
  · show rd_is_tree K _ [some _, none, none] H
    unfold rd_is_tree
    walk_at "go"
    refine (?lp : ∀ (r w : List Nat) (v : Option V) (H1 : Hp), Ex H H1 → (isTr z = true ↔ itRun w r = some [46]) → w.length + r.length ≤ z.length → fV _ _ _ _ (List.map (fun c => V.str (S [c])) r) [some (V.str (S z)), some (V.str (S w)), v] H1) z [] none H (Ex.refl H) (by unfold isTr; exact decide_eq_true_iff) (by simp)
    intro r
    induction r with
    | nil =>
      intro w v H1 e hi hl
      simp only [List.map_nil, fV]
      walk_at "go"
      refine ⟨trivial, ?_⟩
      have e2 : isTr z = decide (w = [46]) := by
        rw [Bool.eq_iff_iff, hi, decide_eq_true_iff]
        simp [itRun]
      have := k H1 e
      rw [e2] at this
      exact this
    | cons c r ih =>
      intro w v H1 e hi hl
      simp only [List.length_cons] at hl
      simp only [List.map_cons, fV]
      walk_at "go"
      simp only [itRun] at hi
      refine ⟨trivial, ?_⟩
      by_cases c1 : [c] = [41]
      · rw [if_pos c1]
        simp only [List.cons.injEq, and_true] at c1
        subst c1
        refine ⟨by rw [szl]; omega, ?_⟩
        by_cases c2 : w.drop (w.length - 3) = [40, 46, 46]
        · have e1 : itStep w 41 = some (w.take (w.length - 3) ++ [46]) := by unfold itStep; rw [if_pos rfl, if_pos c2]
          rw [e1, Option.bind_some] at hi
          rw [if_neg (by simpa using c2)]
          walk_at "go"
          refine ⟨by rw [szl]; omega, by rw [szl, List.length_take]; omega, ?_⟩
          exact ih _ _ _ e hi (by rw [List.length_append, List.length_take, List.length_singleton]; omega)
        · have e1 : itStep w 41 = none := by unfold itStep; rw [if_pos rfl, if_neg c2]
          rw [e1] at hi
          rw [if_pos (by simpa using c2)]
          walk_at "go"
          have e2 : isTr z = false := by rw [Bool.eq_false_iff, Ne, hi]; simp
          have := k H1 e
          rw [e2] at this
          exact this
      · rw [if_neg c1]
        simp only [List.cons.injEq, and_true] at c1
        walk_at "go"
        unfold mInTT
        walk_at "go"
        refine ⟨rfl, rfl, by rw [szl]; omega, fun p hp => ?_⟩
        by_cases c2 : c = 40 ∨ c = 46
        · have e1 : itStep w c = some (w ++ [c]) := by unfold itStep; rw [if_neg c1, if_pos c2]
          rw [e1, Option.bind_some] at hi
          have e2 : inV (.str (S [c])) [.str (S [40]), .str (S [46])] = true := by
            simp only [inV_cons, inV_nil, eqV_SS, Bool.or_false, Bool.or_eq_true, decide_eq_true_eq, List.cons.injEq, and_true]
            rcases c2 with rfl | rfl <;> simp
          rw [e2]
          walk_at "go"
          refine ⟨by rw [szl]; omega, ?_⟩
          exact ih _ _ _ (e.push hp) hi (by rw [List.length_append, List.length_singleton]; omega)
        · have e1 : itStep w c = none := by unfold itStep; rw [if_neg c1, if_neg c2]
          rw [e1] at hi
          have e2 : inV (.str (S [c])) [.str (S [40]), .str (S [46])] = false := by
            simp only [inV_cons, inV_nil, eqV_SS, Bool.or_false, Bool.or_eq_false_iff, decide_eq_false_iff_not, List.cons.injEq, and_true]
            exact ⟨fun z => c2 (.inl z.symm), fun z => c2 (.inr z.symm)⟩
          rw [e2]
          walk_at "go"
          have e3 : isTr z = false := by rw [Bool.eq_false_iff, Ne, hi]; simp
          rw [e3] at k
          exact k _ (e.push hp)
  · show rd_is_tree K _ [some _, none, none] H
    unfold rd_is_tree
    walk_at "go"
    refine ho.isi ?_
    walk_at "go"
    exact k H (Ex.refl H)
end Pf

namespace Pf
open PySem PySem.Spec PyProof.Rows L2 M
local macro_rules | `(tactic| walk_at "go") => `(tactic| try simp only [↓q_par, ↓q_par3, tSeq, tIfS, tIf, tNot, mTest, tCB, tCons, tNil, mVar, M.gt, mC, Bool.not_true, Bool.not_false, Bool.false_eq_true, if_false, if_true, tNext, tAsg, gName, gSub, List.set_cons_zero, List.set_cons_succ, mFor, mIter, mRevS, S_cps, S_len, S_app, tOp, tSl, mPart, mUn, tNoPart, tRet, tRetN, tTup, tLst, tAnd, tOr, mAndV, mOrV, mNotV, tCall, tCallSD, tDrop, mPar, mPar3, mLstM, mStrM, mBits, mRng1, mRng2, mgTup, mgSeq, mgCons, mgNil, q_add1, q_add2, q_add3, q_add4, q_iadd1, q_iadd2, q_iadd3, q_sorted, q_sub, q_mul1, q_mul2, q_mul3, q_mod, q_div, q_pow, q_eq1, q_eq2, q_eq3, q_eq4, q_eq5, q_eq6, q_eq7, q_eq8, q_eq9, q_eq10, q_ne1, q_ne2, q_ne3, q_ne9, q_ne10, q_lt, q_le, q_gt, q_ge, q_inc1, q_ix1, q_ix2, q_sl1, q_sl2, q_set, q_len1, q_len2, q_int1, q_int2, q_max, q_min, q_abs, q_sum, q_list, q_isi1, q_is1, q_not1, q_isN1, q_isN2, q_isN3, q_isN4, q_join, q_count, q_split, q_app, q_pop, q_clear, q_isiE, q_repr, q_nin1, q_intab, q_ninta, q_ixtab, wipe, List.map_cons, List.map_nil, List.length_cons, List.length_nil, List.length_append, List.length_map, List.nil_append, List.cons_append, List.append_nil, cut_m3, cut_t3, cut_m1, cut_t1, cut_t2, S_eq, decide_eq_true_eq, Bool.not_eq_true', decide_eq_false_iff_not, ne_eq])
def sp_check_tree (K : PySem.W.Frag) (a_InvalidTree : Addr) : Sp := fun vs H Q E => ∃ v b, vs = [v] ∧ TV K H v b ∧ (b = true → ∀ H', Ex H H' → Q .non H') ∧ (b = false → ∀ H' d, Ex H H' → H d = none → H' d = some (.xd [("value", v)]) → E (.ref a_InvalidTree) (some d) H')
theorem pu_check_tree (K : PySem.W.Frag) (a : Addr) (vs : List V) (H : Hp) (Q : VK) (E : XK) (h : sp_check_tree K a vs H Q E) : rd_check_tree K (sp_is_tree K) a E { nx := fun _ H' => Q .non H', rt := Q } (L2.start N_check_tree vs) H := by
  obtain ⟨v, b, rfl, tv, k1, k2⟩ := h
  show rd_check_tree K _ _ _ _ [some _] H
  unfold rd_check_tree
  walk_at "go"
  refine ⟨v, b, rfl, tv, fun H1 e => ?_⟩
  cases b with
  | true =>
    walk_at "go"
    exact k1 rfl H1 e
  | false =>
    walk_at "go"
    unfold mRaise mMk
    walk_at "go"
    exact fun d hd => k2 rfl _ d (e.push hd) (e.free hd) upd_same
end Pf

namespace Pf
open PySem PySem.Spec PyProof.Rows L2 M
local macro_rules | `(tactic| walk_at "go") => `(tactic| try simp only [↓q_par, ↓q_par3, tSeq, tIfS, tIf, tNot, mTest, tCB, tCons, tNil, mVar, M.gt, mC, Bool.not_true, Bool.not_false, Bool.false_eq_true, if_false, if_true, tNext, tAsg, gName, gSub, List.set_cons_zero, List.set_cons_succ, mFor, mIter, mRevS, S_cps, S_len, S_app, tOp, tSl, mPart, mUn, tNoPart, tRet, tRetN, tTup, tLst, tAnd, tOr, mAndV, mOrV, mNotV, tCall, tCallSD, tDrop, mPar, mPar3, mLstM, mStrM, mBits, mRng1, mRng2, mgTup, mgSeq, mgCons, mgNil, q_add1, q_add2, q_add3, q_add4, q_iadd1, q_iadd2, q_iadd3, q_sorted, q_sub, q_mul1, q_mul2, q_mul3, q_mod, q_div, q_pow, q_eq1, q_eq2, q_eq3, q_eq4, q_eq5, q_eq6, q_eq7, q_eq8, q_eq9, q_eq10, q_ne1, q_ne2, q_ne3, q_ne9, q_ne10, q_lt, q_le, q_gt, q_ge, q_inc1, q_ix1, q_ix2, q_sl1, q_sl2, q_set, q_len1, q_len2, q_int1, q_int2, q_max, q_min, q_abs, q_sum, q_list, q_isi1, q_is1, q_not1, q_isN1, q_isN2, q_isN3, q_isN4, q_join, q_count, q_split, q_app, q_pop, q_clear, q_isiE, q_repr, q_nin1, q_intab, q_ninta, q_ixtab, wipe, List.map_cons, List.map_nil, List.length_cons, List.length_nil, List.length_append, List.length_map, List.nil_append, List.cons_append, List.append_nil, cut_m3, cut_t3, cut_m1, cut_t1, cut_t2, S_eq, decide_eq_true_eq, Bool.not_eq_true', decide_eq_false_iff_not, ne_eq])
/-! walked -/
def okP (P : List Nat) : Prop := ∀ c ∈ P, c = 108 ∨ c = 114
theorem okP.okc {P : List Nat} (h : okP P) : okc P := fun c hc => by rcases h c hc with rfl | rfl <;> decide
def turn (P : List Nat) : List Nat := if P.getLast? = some 108 then P.dropLast ++ [114] else P
def turnN (P : List Nat) : List (List Nat) := if P.getLast? = some 108 then [P.dropLast] else []
structure Wk (H H1 : Hp) (p1 p2 p3 : Addr) (P : List Nat) (L N : List (List Nat)) : Prop where
  ex : Ex H H1
  n1 : H p1 = none
  n2 : H p2 = none
  n3 : H p3 = none
  h1 : H1 p1 = some (.lst (sg P))
  h2 : H1 p2 = some (.lst (tx L))
  h3 : H1 p3 = some (.lst (tx N))
  d12 : p1 ≠ p2
  d13 : p1 ≠ p3
  d23 : p2 ≠ p3
theorem Wk.new {H H1 : Hp} {p1 p2 p3 : Addr} {P : List Nat} {L N : List (List Nat)} (w : Wk H H1 p1 p2 p3 P L N) {q : Addr} {o : HO} (h : H1 q = none) : Wk H (upd H1 q o) p1 p2 p3 P L N :=
  ⟨w.ex.push h, w.n1, w.n2, w.n3, by rw [upd_ne (ne_of_none w.h1 h)]; exact w.h1, by rw [upd_ne (ne_of_none w.h2 h)]; exact w.h2, by rw [upd_ne (ne_of_none w.h3 h)]; exact w.h3, w.d12, w.d13, w.d23⟩
theorem Wk.s1 {H H1 : Hp} {p1 p2 p3 : Addr} {P P' : List Nat} {L N : List (List Nat)} (w : Wk H H1 p1 p2 p3 P L N) : Wk H (upd H1 p1 (.lst (sg P'))) p1 p2 p3 P' L N :=
  ⟨w.ex.mut w.n1, w.n1, w.n2, w.n3, upd_same, by rw [upd_ne (Ne.symm w.d12)]; exact w.h2, by rw [upd_ne (Ne.symm w.d13)]; exact w.h3, w.d12, w.d13, w.d23⟩
theorem Wk.s2 {H H1 : Hp} {p1 p2 p3 : Addr} {P : List Nat} {L L' N : List (List Nat)} (w : Wk H H1 p1 p2 p3 P L N) : Wk H (upd H1 p2 (.lst (tx L'))) p1 p2 p3 P L' N :=
  ⟨w.ex.mut w.n2, w.n1, w.n2, w.n3, by rw [upd_ne w.d12]; exact w.h1, upd_same, by rw [upd_ne (Ne.symm w.d23)]; exact w.h3, w.d12, w.d13, w.d23⟩
theorem Wk.s3 {H H1 : Hp} {p1 p2 p3 : Addr} {P : List Nat} {L N N' : List (List Nat)} (w : Wk H H1 p1 p2 p3 P L N) : Wk H (upd H1 p3 (.lst (tx N'))) p1 p2 p3 P L N' :=
  ⟨w.ex.mut w.n3, w.n1, w.n2, w.n3, by rw [upd_ne w.d13]; exact w.h1, by rw [upd_ne w.d23]; exact w.h2, upd_same, w.d12, w.d13, w.d23⟩
/-- the end of a turn: the path's last l turns into r -/
def wkTail (K : PySem.W.Frag) : TS := (tIfS (tAnd (mTest (tOp (mNe K) (mVar 1) (tLst tNil))) (mTest (tOp (mEq K) (tOp (mIx K) (mVar 1) (mUn (fun i => -i) (mC (.int 1)))) (mC (.str (S [108])))))) (tSeq (tDrop (mLstM mApp (mVar 3) (tCons (mStrM (mJoin K) (mC (.str (S []))) (tSl (mSl K) (mVar 1) tNoPart (mPart (mUn (fun i => -i) (mC (.int 1)))))) tNil)))
  (tAsg (mC (.str (S [114]))) (gSub (mVar 1) (mUn (fun i => -i) (mC (.int 1))) mSetL))) tNext)
theorem lp_wkTail (K : PySem.W.Frag) (D : Ends) (H : Hp) (x : Option V) (p1 p2 p3 : Addr) (v : Option V) (P : List Nat) (L N : List (List Nat)) (H1 : Hp) (w : Wk H H1 p1 p2 p3 P L N) (ok : okP P) (hP : P.length ≤ 1000000) (hN : N.length ≤ 1000000)
    (k : ∀ H2, Wk H H2 p1 p2 p3 (turn P) L (N ++ turnN P) → D.nx [x, some (.ref p1), some (.ref p2), some (.ref p3), v] H2) : wkTail K D [x, some (.ref p1), some (.ref p2), some (.ref p3), v] H1 := by
  unfold wkTail
  walk_at "go"
  refine ⟨by rw [szl]; omega, fun q hq => ?_⟩
  have w1 := w.new (o := .lst []) hq
  refine eq_strs (a := P.map fun c => [c]) (b := []) (SqL.of (by rw [w1.h1, sg_tx]; rfl)) (SqL.of upd_same) (fun z hz => ?_) (fun z hz => by cases hz) ?_
  · obtain ⟨c, hc, rfl⟩ := List.mem_map.mp hz
    intro d hd
    rw [List.mem_singleton.mp hd]
    exact ok.okc c hc
  by_cases c0 : P = []
  · subst c0
    walk_at "go"
    exact k _ (by simpa only [turn, turnN, List.getLast?_nil, if_false, List.append_nil, reduceCtorEq] using w1)
  · have e0 : (decide ((P.map fun c => [c]) = [])) = false := by simpa using c0
    rw [e0]
    walk_at "go"
    obtain ⟨R, c, rfl⟩ : ∃ R c, P = R ++ [c] := ⟨P.dropLast, P.getLast c0, (List.dropLast_concat_getLast c0).symm⟩
    refine ⟨_, _, .inl (SqL.of w1.h1), by rw [sg_app]; exact aI_m1 _ _, ?_⟩
    dsimp only
    walk_at "go"
    by_cases c1 : [c] = [108]
    · rw [if_pos c1]
      simp only [List.cons.injEq, and_true] at c1
      subst c1
      have et : turn (R ++ [108]) = R ++ [114] := by simp [turn]
      have en : turnN (R ++ [108]) = [R] := by simp [turnN]
      rw [et, en] at k
      refine ⟨⟨_, w1.h3⟩, _, SqL.of w1.h1, fun r hr => ?_⟩
      rw [show (sg (R ++ [108])).take ((sg (R ++ [108])).length - 1) = sg R by rw [sg_app]; simp [sg]]
      have w2 := w1.new (o := .lst (sg R)) hr
      refine ⟨R.map fun c => S [c], .inl (SqL.of (by rw [← sg_str]; exact upd_same)), ?_, _, w2.h3, by rw [szl, tx_len]; omega, ?_⟩
      · rw [one_len]
        rw [List.length_append] at hP
        simp only [List.length_map, Nat.mul_zero, Nat.add_zero]; omega
      have ej : Txt.join (S []) (R.map fun c => S [c]) = S R := join_signs R
      rw [ej, show tx N ++ [V.str (S R)] = tx (N ++ [R]) by rw [tx_app]; rfl]
      have w3 := w2.s3 (N' := N ++ [R])
      refine ⟨_, _, w3.h1, iN_m1 (by rw [sg_len]; simp), ?_⟩
      rw [show (sg (R ++ [108])).set ((sg (R ++ [108])).length - 1) (V.str (S [114])) = sg (R ++ [114]) by simp [sg]]
      exact k _ w3.s1
    · rw [if_neg c1]
      simp only [List.cons.injEq, and_true] at c1
      have et : turn (R ++ [c]) = R ++ [c] := by simp [turn, c1]
      have en : turnN (R ++ [c]) = [] := by simp [turnN, c1]
      rw [et, en, List.append_nil] at k
      exact k _ w1
theorem b1_walked (K : PySem.W.Frag) (D : Ends) (σ : Sl) (H : Hp) : rd_walked_b1 K D σ H = (tIfS (mTest (tOp (mEq K) (mVar 4) (mC (.str (S [40]))))) (tDrop (mLstM mApp (mVar 1) (tCons (mC (.str (S [108]))) tNil))) (tSeq (tIfS (mTest (tOp (mEq K) (mVar 4) (mC (.str (S [46]))))) (tDrop (mLstM mApp (mVar 2) (tCons (mStrM (mJoin K) (mC (.str (S []))) (mVar 1)) tNil))) (tDrop (mLstM mPop (mVar 1) tNil))) (wkTail K))) D σ H := rfl
theorem lp_walked (K : PySem.W.Frag) (D : Ends) (H : Hp) (x : Option V) (p1 p2 p3 : Addr) : ∀ (t : Tr) (rest : List V) (v : Option V) (P : List Nat) (L N : List (List Nat)) (H1 : Hp), Wk H H1 p1 p2 p3 P L N → okP P → P.length + L.length + N.length + t.n + t.n + t.n + 10 ≤ 1000000 →
    (∀ H2 v', Wk H H2 p1 p2 p3 (turn P) (L ++ t.lvs P) (N ++ t.nds P ++ turnN P) → fV (fun _ => True) (gName 4) (rd_walked_b1 K) D rest [x, some (.ref p1), some (.ref p2), some (.ref p3), v'] H2) →
    fV (fun _ => True) (gName 4) (rd_walked_b1 K) D (t.s.map (fun c => V.str (S [c])) ++ rest) [x, some (.ref p1), some (.ref p2), some (.ref p3), v] H1 := by
  intro t
  induction t with
  | lf =>
    intro rest v P L N H1 w ok hl k
    simp only [Tr.s, List.map_cons, List.map_nil, List.cons_append, List.nil_append, fV]
    refine ⟨trivial, ?_⟩
    show rd_walked_b1 K _ [x, some (.ref p1), some (.ref p2), some (.ref p3), some _] H1
    rw [b1_walked]
    walk_at "go"
    rw [if_neg (by decide)]
    walk_at "go"
    refine ⟨⟨_, w.h2⟩, P.map fun c => S [c], .inl (SqL.of (by rw [← sg_str]; exact w.h1)), ?_, _, w.h2, by rw [szl, tx_len]; omega, ?_⟩
    · rw [one_len]; simp only [List.length_map, Nat.mul_zero, Nat.add_zero]; omega
    rw [show Txt.join (S []) (P.map fun c => S [c]) = S P from join_signs P, show tx L ++ [V.str (S P)] = tx (L ++ [P]) by rw [tx_app]; rfl]
    exact lp_wkTail K _ H x p1 p2 p3 _ P _ N _ w.s2 ok (by omega) (by omega) fun H2 w2 => k H2 _ (by simpa only [Tr.lvs, Tr.nds, List.append_nil] using w2)
  | nd a b iha ihb =>
    intro rest v P L N H1 w ok hl k
    simp only [Tr.n] at hl
    have la := a.lvs_len (P ++ [108])
    have na := a.nds_len (P ++ [108])
    have lb := b.lvs_len (P ++ [114])
    have nb := b.nds_len (P ++ [114])
    have okl : okP (P ++ [108]) := fun c hc => (List.mem_append.mp hc).elim (ok c) fun z => .inl (List.mem_singleton.mp z)
    have okr : okP (P ++ [114]) := fun c hc => (List.mem_append.mp hc).elim (ok c) fun z => .inr (List.mem_singleton.mp z)
    have tl : turn (P ++ [108]) = P ++ [114] := by simp [turn]
    have tr : turn (P ++ [114]) = P ++ [114] := by simp [turn]
    have ul : turnN (P ++ [108]) = [P] := by simp [turnN]
    have ur : turnN (P ++ [114]) = [] := by simp [turnN]
    simp only [Tr.s, List.map_cons, List.map_append, List.map_nil, List.cons_append, List.append_assoc, List.nil_append, fV]
    refine ⟨trivial, ?_⟩
    show rd_walked_b1 K _ [x, some (.ref p1), some (.ref p2), some (.ref p3), some _] H1
    rw [b1_walked]
    walk_at "go"
    refine ⟨⟨_, w.h1⟩, _, w.h1, by rw [szl, sg_len]; omega, ?_⟩
    rw [show sg P ++ [V.str (S [108])] = sg (P ++ [108]) by rw [sg_app]; rfl]
    refine iha _ _ (P ++ [108]) L N _ w.s1 okl (by simp only [List.length_append, List.length_singleton]; omega) fun H2 v2 w2 => ?_
    rw [tl, ul] at w2
    refine ihb _ _ (P ++ [114]) _ _ _ w2 okr (by simp only [List.length_append, List.length_singleton, la, na]; omega) fun H3 v3 w3 => ?_
    rw [tr, ur, List.append_nil] at w3
    simp only [fV]
    refine ⟨trivial, ?_⟩
    show rd_walked_b1 K _ [x, some (.ref p1), some (.ref p2), some (.ref p3), some _] H3
    rw [b1_walked]
    walk_at "go"
    rw [if_neg (by decide), if_neg (by decide)]
    walk_at "go"
    refine ⟨⟨_, w3.h1⟩, _, w3.h1, _, (by rw [sg_app]; exact List.getLast?_concat), ?_⟩
    rw [show (sg (P ++ [114])).dropLast = sg P by rw [sg_app]; simp [sg]]
    refine lp_wkTail K _ H x p1 p2 p3 _ P _ _ _ w3.s1 ok (by omega) (by simp only [List.length_append, List.length_singleton, na, nb]; omega) fun H4 w4 => k H4 _ ?_
    simpa only [Tr.lvs, Tr.nds, List.append_assoc] using w4
def sp_walked (K : PySem.W.Frag) : Sp := fun vs H Q _ => ∃ t : Tr, vs = [.str (S t.s)] ∧ t.n ≤ 100000 ∧ ∀ H' a b p, Ex H H' → H a = none → H b = none → H' a = some (.lst (tx (t.lvs []))) → H' b = some (.lst (tx (t.nds []))) → H' p = some (.tup [.ref a, .ref b]) → Q (.ref p) H'
theorem pu_walked (K : PySem.W.Frag) (vs : List V) (H : Hp) (Q : VK) (E : XK) (h : sp_walked K vs H Q E) : rd_walked K { nx := fun _ H' => Q .non H', rt := Q } (L2.start N_walked vs) H := by
  obtain ⟨t, rfl, hn, k⟩ := h
  show rd_walked K _ [some _, none, none, none, none] H
  unfold rd_walked
  walk_at "go"
  refine ⟨by rw [szl]; omega, fun p1 h1 => ?_⟩
  walk_at "go"
  refine ⟨by rw [szl]; omega, fun p2 h2 => ?_⟩
  walk_at "go"
  refine ⟨by rw [szl]; omega, fun p3 h3 => ?_⟩
  walk_at "go"
  have d12 : p1 ≠ p2 := fun z => by rw [z, upd_same] at h2; cases h2
  have d23 : p2 ≠ p3 := fun z => by rw [z, upd_same] at h3; cases h3
  have d13 : p1 ≠ p3 := fun z => by rw [← z, upd_ne d12, upd_same] at h3; cases h3
  have w : Wk H (upd (upd (upd H p1 (.lst [])) p2 (.lst [])) p3 (.lst [])) p1 p2 p3 [] [] [] :=
    ⟨((Ex.new h1).push h2).push h3, h1, (Ex.new h1).free h2, ((Ex.new h1).push h2).free h3, by rw [upd_ne d13, upd_ne d12]; exact upd_same, by rw [upd_ne d23]; exact upd_same, upd_same, d12, d13, d23⟩
  rw [show t.s.map (fun c => V.str (S [c])) = t.s.map (fun c => V.str (S [c])) ++ [] by simp]
  refine lp_walked K _ H _ p1 p2 p3 t [] none [] [] [] _ w (fun c hc => by cases hc) (by simp; omega) fun H2 v' w2 => ?_
  simp only [fV]
  walk_at "go"
  refine ⟨trivial, by rw [szl]; omega, fun q hq => ?_⟩
  have w3 := w2.new (o := .tup [.ref p2, .ref p3]) hq
  exact k _ p2 p3 q w3.ex w3.n2 w3.n3 (by simpa only [List.nil_append] using w3.h2) (by simpa only [List.nil_append, turnN, List.getLast?_nil, reduceCtorEq, if_false, List.append_nil] using w3.h3) upd_same
end Pf

namespace Pf
open PySem PySem.Spec PyProof.Rows L2 M
local macro_rules | `(tactic| walk_at "go") => `(tactic| try simp only [↓q_par, ↓q_par3, tSeq, tIfS, tIf, tNot, mTest, tCB, tCons, tNil, mVar, M.gt, mC, Bool.not_true, Bool.not_false, Bool.false_eq_true, if_false, if_true, tNext, tAsg, gName, gSub, List.set_cons_zero, List.set_cons_succ, mFor, mIter, mRevS, S_cps, S_len, S_app, tOp, tSl, mPart, mUn, tNoPart, tRet, tRetN, tTup, tLst, tAnd, tOr, mAndV, mOrV, mNotV, tCall, tCallSD, tDrop, mPar, mPar3, mLstM, mStrM, mBits, mRng1, mRng2, mgTup, mgSeq, mgCons, mgNil, q_add1, q_add2, q_add3, q_add4, q_iadd1, q_iadd2, q_iadd3, q_sorted, q_sub, q_mul1, q_mul2, q_mul3, q_mod, q_div, q_pow, q_eq1, q_eq2, q_eq3, q_eq4, q_eq5, q_eq6, q_eq7, q_eq8, q_eq9, q_eq10, q_ne1, q_ne2, q_ne3, q_ne9, q_ne10, q_lt, q_le, q_gt, q_ge, q_inc1, q_ix1, q_ix2, q_sl1, q_sl2, q_set, q_len1, q_len2, q_int1, q_int2, q_max, q_min, q_abs, q_sum, q_list, q_isi1, q_is1, q_not1, q_isN1, q_isN2, q_isN3, q_isN4, q_join, q_count, q_split, q_app, q_pop, q_clear, q_isiE, q_repr, q_nin1, q_intab, q_ninta, q_ixtab, wipe, List.map_cons, List.map_nil, List.length_cons, List.length_nil, List.length_append, List.length_map, List.nil_append, List.cons_append, List.append_nil, cut_m3, cut_t3, cut_m1, cut_t1, cut_t2, S_eq, decide_eq_true_eq, Bool.not_eq_true', decide_eq_false_iff_not, ne_eq])
def sp_end_of : Sp := fun vs H Q _ => ∃ (z : List Nat) (i : Nat) (t : Tr) (rest : List Nat), vs = [.str (S z), .int i] ∧ z.drop i = t.s ++ rest ∧ z.length ≤ 1000000 ∧ Q (.int ((i + t.s.length : Nat) : Int)) H
theorem drop_get {z r : List Nat} {i c : Nat} (h : z.drop i = c :: r) : z[i]? = some c ∧ z.drop (i + 1) = r := by
  constructor
  · have := congrArg (fun l => l[0]?) h
    simpa [List.getElem?_drop] using this
  · rw [← List.drop_drop, h]; rfl
theorem lp_end_of (K : PySem.W.Frag) (D : Ends) (H : Hp) (z : List Nat) (hz : z.length ≤ 1000000) (x : Option V) : ∀ (t : Tr) (rest : List Nat) (i d n : Nat), z.drop i = t.s ++ rest → 0 < d →
    whW (mTest (mC (.bl true))) (rd_end_of_b1 K) D n [some (.str (S z)), x, some (.int ((i + t.s.length : Nat) : Int)), some (.int d)] H →
    whW (mTest (mC (.bl true))) (rd_end_of_b1 K) D (n + t.s.length) [some (.str (S z)), x, some (.int i), some (.int d)] H := by
  intro t
  induction t with
  | lf =>
    intro rest i d n hd h0 k
    obtain ⟨hg, hr⟩ := drop_get hd
    show whW _ _ _ (n + 1) _ _
    simp only [whW]
    walk_at "go"
    refine ⟨by rw [szl]; omega, 46, by rw [aI_nat]; exact hg, ?_⟩
    walk_at "go"
    rw [if_neg (by decide)]
    refine ⟨by rw [szl]; omega, 46, by rw [aI_nat]; exact hg, ?_⟩
    walk_at "go"
    rw [if_neg (by decide)]
    walk_at "go"
    rw [if_neg (by omega)]
    walk_at "go"
    exact k
  | nd a b iha ihb =>
    intro rest i d n hd h0 k
    simp only [Tr.s, List.cons_append, List.append_assoc] at hd
    obtain ⟨hg, hr⟩ := drop_get hd
    have hr2 : z.drop (i + 1 + a.s.length) = b.s ++ ([41] ++ rest) := by
      rw [← List.drop_drop, hr]; simp
    have hr3 : z.drop (i + 1 + a.s.length + b.s.length) = 41 :: rest := by
      rw [← List.drop_drop, hr2]; simp
    obtain ⟨hg3, _⟩ := drop_get hr3
    have e : n + (Tr.nd a b).s.length = (n + 1 + b.s.length + a.s.length) + 1 := by simp [Tr.s]; omega
    rw [e]
    simp only [whW]
    walk_at "go"
    refine ⟨by rw [szl]; omega, 40, by rw [aI_nat]; exact hg, ?_⟩
    walk_at "go"
    rw [if_neg (by omega)]
    walk_at "go"
    refine iha _ (i + 1) (d + 1) _ hr (by omega) ?_
    refine ihb _ (i + 1 + a.s.length) (d + 1) _ hr2 (by omega) ?_
    simp only [whW]
    walk_at "go"
    refine ⟨by rw [szl]; omega, 41, by rw [aI_nat]; exact hg3, ?_⟩
    walk_at "go"
    rw [if_neg (by decide)]
    refine ⟨by rw [szl]; omega, 41, by rw [aI_nat]; exact hg3, ?_⟩
    walk_at "go"
    rw [if_neg (by omega)]
    have e1 : ((d + 1 : Nat) : Int) - 1 = (d : Int) := by omega
    have e2 : ((i + 1 + a.s.length + b.s.length : Nat) : Int) + 1 = ((i + (Tr.nd a b).s.length : Nat) : Int) := by simp [Tr.s]; omega
    rw [e1, e2]
    exact k
theorem pu_end_of (K : PySem.W.Frag) (vs : List V) (H : Hp) (Q : VK) (E : XK) (h : sp_end_of vs H Q E) : rd_end_of K { nx := fun _ H' => Q .non H', rt := Q } (L2.start N_end_of vs) H := by
  obtain ⟨z, i, t, rest, rfl, hd, hz, k⟩ := h
  show rd_end_of K _ [some _, some _, none, none] H
  unfold rd_end_of
  walk_at "go"
  cases t with
  | lf =>
    obtain ⟨hg, hr⟩ := drop_get hd
    refine ⟨1, ?_⟩
    simp only [whW]
    walk_at "go"
    refine ⟨by rw [szl]; omega, 46, by rw [aI_nat]; exact hg, ?_⟩
    walk_at "go"
    rw [if_neg (by decide)]
    refine ⟨by rw [szl]; omega, 46, by rw [aI_nat]; exact hg, ?_⟩
    walk_at "go"
    rw [if_neg (by decide)]
    walk_at "go"
    exact k
  | nd a b =>
    simp only [Tr.s, List.cons_append, List.append_assoc] at hd
    obtain ⟨hg, hr⟩ := drop_get hd
    have hr2 : z.drop (i + 1 + a.s.length) = b.s ++ ([41] ++ rest) := by
      rw [← List.drop_drop, hr]; simp
    have hr3 : z.drop (i + 1 + a.s.length + b.s.length) = 41 :: rest := by
      rw [← List.drop_drop, hr2]; simp
    obtain ⟨hg3, _⟩ := drop_get hr3
    refine ⟨(0 + 1 + b.s.length + a.s.length) + 1, ?_⟩
    simp only [whW]
    walk_at "go"
    refine ⟨by rw [szl]; omega, 40, by rw [aI_nat]; exact hg, ?_⟩
    walk_at "go"
    rw [if_neg (by decide)]
    refine lp_end_of K _ H z hz _ a _ (i + 1) 1 _ hr (by omega) ?_
    refine lp_end_of K _ H z hz _ b _ (i + 1 + a.s.length) 1 _ hr2 (by omega) ?_
    simp only [whW]
    walk_at "go"
    refine ⟨by rw [szl]; omega, 41, by rw [aI_nat]; exact hg3, ?_⟩
    walk_at "go"
    rw [if_neg (by decide)]
    refine ⟨by rw [szl]; omega, 41, by rw [aI_nat]; exact hg3, ?_⟩
    walk_at "go"
    have e2 : ((i + 1 + a.s.length + b.s.length : Nat) : Int) + 1 = ((i + (Tr.nd a b).s.length : Nat) : Int) := by simp [Tr.s]; omega
    rw [e2]
    exact k
end Pf

namespace Pf
open PySem PySem.Spec PyProof.Rows L2 M
local macro_rules | `(tactic| walk_at "go") => `(tactic| try simp only [↓q_par, ↓q_par3, tSeq, tIfS, tIf, tNot, mTest, tCB, tCons, tNil, mVar, M.gt, mC, Bool.not_true, Bool.not_false, Bool.false_eq_true, if_false, if_true, tNext, tAsg, gName, gSub, List.set_cons_zero, List.set_cons_succ, mFor, mIter, mRevS, S_cps, S_len, S_app, tOp, tSl, mPart, mUn, tNoPart, tRet, tRetN, tTup, tLst, tAnd, tOr, mAndV, mOrV, mNotV, tCall, tCallSD, tDrop, mPar, mPar3, mLstM, mStrM, mBits, mRng1, mRng2, mgTup, mgSeq, mgCons, mgNil, q_add1, q_add2, q_add3, q_add4, q_iadd1, q_iadd2, q_iadd3, q_sorted, q_sub, q_mul1, q_mul2, q_mul3, q_mod, q_div, q_pow, q_eq1, q_eq2, q_eq3, q_eq4, q_eq5, q_eq6, q_eq7, q_eq8, q_eq9, q_eq10, q_ne1, q_ne2, q_ne3, q_ne9, q_ne10, q_lt, q_le, q_gt, q_ge, q_inc1, q_ix1, q_ix2, q_sl1, q_sl2, q_set, q_len1, q_len2, q_int1, q_int2, q_max, q_min, q_abs, q_sum, q_list, q_isi1, q_is1, q_not1, q_isN1, q_isN2, q_isN3, q_isN4, q_join, q_count, q_split, q_app, q_pop, q_clear, q_isiE, q_repr, q_nin1, q_intab, q_ninta, q_ixtab, wipe, List.map_cons, List.map_nil, List.length_cons, List.length_nil, List.length_append, List.length_map, List.nil_append, List.cons_append, List.append_nil, cut_m3, cut_t3, cut_m1, cut_t1, cut_t2, S_eq, decide_eq_true_eq, Bool.not_eq_true', decide_eq_false_iff_not, ne_eq])
/-- an address, or none -/
def AV (K : PySem.W.Frag) (H : Hp) (v : V) (b : Bool) : Prop := (∃ z, v = .str (S z) ∧ z.length ≤ 1000000 ∧ okc z ∧ b = isAd z) ∨ (Oth K H v ∧ b = false)
theorem AV.ex {K : PySem.W.Frag} {H H' : Hp} (e : Ex H H') {v : V} {b : Bool} (h : AV K H v b) : AV K H' v b := h.imp id fun ⟨h1, h2⟩ => ⟨h1.ex e, h2⟩
def sp_place_of : Sp := fun vs H Q _ => ∃ (t : Tr) (z : List Nat), vs = [.str (S t.s), .str (S z)] ∧ t.n ≤ 100000 ∧ z.length ≤ 1000000 ∧
  (Tr.att t z = none → Q .non H) ∧ (∀ u pre post, Tr.att t z = some u → t.s = pre ++ u.s ++ post → (∀ o, (Tr.put t z o).s = pre ++ o.s ++ post) → ∀ p, H p = none → Q (.ref p) (upd H p (.tup [.int pre.length, .int ((pre.length + u.s.length : Nat) : Int)])))
end Pf

namespace Pf
open PySem PySem.Spec PyProof.Rows L2 M
local macro_rules | `(tactic| walk_at "go") => `(tactic| try simp only [↓q_par, ↓q_par3, tSeq, tIfS, tIf, tNot, mTest, tCB, tCons, tNil, mVar, M.gt, mC, Bool.not_true, Bool.not_false, Bool.false_eq_true, if_false, if_true, tNext, tAsg, gName, gSub, List.set_cons_zero, List.set_cons_succ, mFor, mIter, mRevS, S_cps, S_len, S_app, tOp, tSl, mPart, mUn, tNoPart, tRet, tRetN, tTup, tLst, tAnd, tOr, mAndV, mOrV, mNotV, tCall, tCallSD, tDrop, mPar, mPar3, mLstM, mStrM, mBits, mRng1, mRng2, mgTup, mgSeq, mgCons, mgNil, q_add1, q_add2, q_add3, q_add4, q_iadd1, q_iadd2, q_iadd3, q_sorted, q_sub, q_mul1, q_mul2, q_mul3, q_mod, q_div, q_pow, q_eq1, q_eq2, q_eq3, q_eq4, q_eq5, q_eq6, q_eq7, q_eq8, q_eq9, q_eq10, q_ne1, q_ne2, q_ne3, q_ne9, q_ne10, q_lt, q_le, q_gt, q_ge, q_inc1, q_ix1, q_ix2, q_sl1, q_sl2, q_set, q_len1, q_len2, q_int1, q_int2, q_max, q_min, q_abs, q_sum, q_list, q_isi1, q_is1, q_not1, q_isN1, q_isN2, q_isN3, q_isN4, q_join, q_count, q_split, q_app, q_pop, q_clear, q_isiE, q_repr, q_nin1, q_intab, q_ninta, q_ixtab, wipe, List.map_cons, List.map_nil, List.length_cons, List.length_nil, List.length_append, List.length_map, List.nil_append, List.cons_append, List.append_nil, cut_m3, cut_t3, cut_m1, cut_t1, cut_t2, S_eq, decide_eq_true_eq, Bool.not_eq_true', decide_eq_false_iff_not, ne_eq])
theorem pu_place_of (K : PySem.W.Frag) (vs : List V) (H : Hp) (Q : VK) (E : XK) (h : sp_place_of vs H Q E) : rd_place_of K sp_end_of { nx := fun _ H' => Q .non H', rt := Q } (L2.start N_place_of vs) H := by
  obtain ⟨t, z, rfl, hn, hz, k1, k2⟩ := h
  show rd_place_of K _ _ [some _, some _, none, none] H
  unfold rd_place_of
  walk_at "go"
  have hs := t.s_len
  refine (?lp : ∀ (r : List Nat) (u : Tr) (pre post : List Nat) (v : Option V), t.s = pre ++ u.s ++ post → (Tr.att t z = Tr.att u r) → (∀ o, (Tr.put t z o).s = pre ++ (Tr.put u r o).s ++ post) → fV _ _ _ _ (List.map (fun c => V.str (S [c])) r) [some (V.str (S t.s)), some (V.str (S z)), some (.int (pre.length : Nat)), v] H) z t [] [] none (by simp) rfl (fun o => by simp)
  intro r
  induction r with
  | nil =>
    intro u pre post v h1 h2 h3
    simp only [List.map_nil, fV]
    refine ⟨trivial, ?_⟩
    walk_at "go"
    refine ⟨t.s, pre.length, u, post, rfl, by rw [h1]; simp, by omega, ?_⟩
    rw [Tr.att_nil] at h2
    refine ⟨by rw [szl]; omega, fun p hp => ?_⟩
    exact k2 u pre post h2 h1 (fun o => by rw [h3, Tr.put_nil]) p hp
  | cons c r ih =>
    intro u pre post v h1 h2 h3
    simp only [List.map_cons, fV]
    refine ⟨trivial, ?_⟩
    walk_at "go"
    cases u with
    | lf =>
      refine ⟨by rw [szl]; omega, 46, by rw [aI_nat, h1]; simp [Tr.s], ?_⟩
      walk_at "go"
      exact k1 (by rw [h2]; rfl)
    | nd a b =>
      refine ⟨by rw [szl]; omega, 40, by rw [aI_nat, h1]; simp [Tr.s], ?_⟩
      walk_at "go"
      rw [if_neg (by decide)]
      unfold mAug
      walk_at "go"
      by_cases cc : c = 114
      · subst cc
        walk_at "go"
        have h1' : t.s = (pre ++ 40 :: a.s) ++ b.s ++ (41 :: post) := by rw [h1]; simp [Tr.s]
        refine ⟨t.s, pre.length + 1, a, b.s ++ (41 :: post), rfl, by rw [h1]; simp [Tr.s, ← List.drop_drop], by omega, ?_⟩
        have := ih b (pre ++ 40 :: a.s) (41 :: post) (some (.str (S [114]))) h1' (by rw [h2]; rfl) (fun o => by rw [h3]; simp [Tr.put, Tr.s])
        walk_at "go"
        have e : ((pre.length + 1 + a.s.length : Nat) : Int) = (((pre ++ 40 :: a.s).length : Nat) : Int) := by simp; omega
        rw [e]
        exact this
      · rw [if_neg (by simpa using cc)]
        have h1' : t.s = (pre ++ [40]) ++ a.s ++ (b.s ++ 41 :: post) := by rw [h1]; simp [Tr.s]
        have := ih a (pre ++ [40]) (b.s ++ 41 :: post) (some (.str (S [c]))) h1' (by rw [h2]; simp [Tr.att, cc]) (fun o => by rw [h3]; simp [Tr.put, Tr.s, cc])
        simpa using this
end Pf

namespace Pf
open PySem PySem.Spec PyProof.Rows L2 M
local macro_rules | `(tactic| walk_at "go") => `(tactic| try simp only [↓q_par, ↓q_par3, tSeq, tIfS, tIf, tNot, mTest, tCB, tCons, tNil, mVar, M.gt, mC, Bool.not_true, Bool.not_false, Bool.false_eq_true, if_false, if_true, tNext, tAsg, gName, gSub, List.set_cons_zero, List.set_cons_succ, mFor, mIter, mRevS, S_cps, S_len, S_app, tOp, tSl, mPart, mUn, tNoPart, tRet, tRetN, tTup, tLst, tAnd, tOr, mAndV, mOrV, mNotV, tCall, tCallSD, tDrop, mPar, mPar3, mLstM, mStrM, mBits, mRng1, mRng2, mgTup, mgSeq, mgCons, mgNil, q_add1, q_add2, q_add3, q_add4, q_iadd1, q_iadd2, q_iadd3, q_sorted, q_sub, q_mul1, q_mul2, q_mul3, q_mod, q_div, q_pow, q_eq1, q_eq2, q_eq3, q_eq4, q_eq5, q_eq6, q_eq7, q_eq8, q_eq9, q_eq10, q_ne1, q_ne2, q_ne3, q_ne9, q_ne10, q_lt, q_le, q_gt, q_ge, q_inc1, q_ix1, q_ix2, q_sl1, q_sl2, q_set, q_len1, q_len2, q_int1, q_int2, q_max, q_min, q_abs, q_sum, q_list, q_isi1, q_is1, q_not1, q_isN1, q_isN2, q_isN3, q_isN4, q_join, q_count, q_split, q_app, q_pop, q_clear, q_isiE, q_repr, q_nin1, q_intab, q_ninta, q_ixtab, wipe, List.map_cons, List.map_nil, List.length_cons, List.length_nil, List.length_append, List.length_map, List.nil_append, List.cons_append, List.append_nil, cut_m3, cut_t3, cut_m1, cut_t1, cut_t2, S_eq, decide_eq_true_eq, Bool.not_eq_true', decide_eq_false_iff_not, ne_eq])
def sp_is_address (K : PySem.W.Frag) : Sp := fun vs H Q _ => ∃ v b, vs = [v] ∧ AV K H v b ∧ ∀ H', Ex H H' → Q (.bl b) H'
theorem pu_is_address (K : PySem.W.Frag) (vs : List V) (H : Hp) (Q : VK) (E : XK) (h : sp_is_address K vs H Q E) : rd_is_address K { nx := fun _ H' => Q .non H', rt := Q } (L2.start N_is_address vs) H := by
  obtain ⟨v, b, rfl, ⟨z, rfl, hz, hc, rfl⟩ | ⟨ho, rfl⟩, k⟩ := h
  · show rd_is_address K _ [some _, none] H
    unfold rd_is_address
    walk_at "go"
    unfold mLc
    walk_at "go"
    intro D1 hD1
    refine (?lp : ∀ (r : List Nat) (bad : List Nat) (Hx : Hp), Ex H Hx → Hx D1 = some (.lst (bad.map fun c => V.str (S [c]))) → bad.length + r.length ≤ 1000000 → okc bad → okc r → (isAd z = true ↔ (bad = [] ∧ isAd r = true)) → cV _ _ _ _ _ _ D1 _ (r.map fun c => V.str (S [c])) Hx) z [] _ (Ex.new hD1) upd_same (by simpa using hz) (fun c h => by cases h) hc (by simp)
    intro r
    induction r with
    | nil =>
      intro bad Hx ex hx hl ob _ hi
      simp only [List.map_nil, cV]
      refine ⟨trivial, ?_⟩
      refine ⟨by rw [szl]; omega, fun p hp => ?_⟩
      refine eq_strs (a := bad.map fun c => [c]) (b := []) (SqL.of (by rw [upd_ne (ne_of_none hx hp), List.map_map]; exact hx)) (SqL.of upd_same) ?_ (fun y hy => by cases hy) ?_
      · intro y hy
        obtain ⟨c, h1, rfl⟩ := List.mem_map.mp hy
        exact fun d hd => by rw [List.mem_singleton.mp hd]; exact ob c h1
      have e : decide (List.map (fun c => [c]) bad = []) = isAd z := by
        rw [Bool.eq_iff_iff, hi, decide_eq_true_iff]
        simp [isAd]
      rw [e]
      exact k _ (ex.push hp)
    | cons c r ih =>
      intro bad Hx ex hx hl ob oc hi
      simp only [List.length_cons] at hl
      simp only [List.map_cons, cV]
      refine ⟨trivial, ?_⟩
      walk_at "go"
      unfold mInTT
      walk_at "go"
      refine ⟨trivial, ?_⟩
      have oc' : okc r := fun d h => oc d (List.mem_cons_of_mem _ h)
      refine ⟨rfl, rfl, by rw [szl]; omega, fun p hp => ?_⟩
      have dp : D1 ≠ p := ne_of_none hx hp
      have hx2 : upd Hx p (.tup [.str (S [108]), .str (S [114])]) D1 = some (.lst (bad.map fun c => V.str (S [c]))) := by rw [upd_ne dp]; exact hx
      by_cases cc : c = 108 ∨ c = 114
      · have e2 : inV (.str (S [c])) [.str (S [108]), .str (S [114])] = true := by
          simp only [inV_cons, inV_nil, eqV_SS, Bool.or_false, Bool.or_eq_true, decide_eq_true_eq, List.cons.injEq, and_true]
          rcases cc with rfl | rfl <;> simp
        rw [e2, if_neg (by decide)]
        refine ih bad _ (ex.push hp) hx2 (by omega) ob oc' ?_
        rw [hi]
        simp [isAd, cc]
      · have e2 : inV (.str (S [c])) [.str (S [108]), .str (S [114])] = false := by
          simp only [inV_cons, inV_nil, eqV_SS, Bool.or_false, Bool.or_eq_false_iff, decide_eq_false_iff_not, List.cons.injEq, and_true]
          exact ⟨fun z => cc (.inl z.symm), fun z => cc (.inr z.symm)⟩
        rw [if_pos e2]
        refine ⟨_, hx2, by rw [szl, List.length_map]; omega, ?_⟩
        refine ih (bad ++ [c]) _ ?_ (by rw [upd_same, List.map_append]; rfl) (by rw [List.length_append, List.length_singleton]; omega) (okc_app ob fun d h => by rw [List.mem_singleton.mp h]; exact oc c List.mem_cons_self) oc' ?_
        · intro a o ha
          have na : a ≠ D1 := ne_of_none ha hD1
          rw [upd_ne na]
          exact (ex.push hp) a o ha
        · rw [hi]
          simp [isAd, cc]
  · show rd_is_address K _ [some _, none] H
    unfold rd_is_address
    walk_at "go"
    refine ho.isi ?_
    walk_at "go"
    exact k H (Ex.refl H)
end Pf

namespace Pf
open PySem PySem.Spec PyProof.Rows L2 M
local macro_rules | `(tactic| walk_at "go") => `(tactic| try simp only [↓q_par, ↓q_par3, tSeq, tIfS, tIf, tNot, mTest, tCB, tCons, tNil, mVar, M.gt, mC, Bool.not_true, Bool.not_false, Bool.false_eq_true, if_false, if_true, tNext, tAsg, gName, gSub, List.set_cons_zero, List.set_cons_succ, mFor, mIter, mRevS, S_cps, S_len, S_app, tOp, tSl, mPart, mUn, tNoPart, tRet, tRetN, tTup, tLst, tAnd, tOr, mAndV, mOrV, mNotV, tCall, tCallSD, tDrop, mPar, mPar3, mLstM, mStrM, mBits, mRng1, mRng2, mgTup, mgSeq, mgCons, mgNil, q_add1, q_add2, q_add3, q_add4, q_iadd1, q_iadd2, q_iadd3, q_sorted, q_sub, q_mul1, q_mul2, q_mul3, q_mod, q_div, q_pow, q_eq1, q_eq2, q_eq3, q_eq4, q_eq5, q_eq6, q_eq7, q_eq8, q_eq9, q_eq10, q_ne1, q_ne2, q_ne3, q_ne9, q_ne10, q_lt, q_le, q_gt, q_ge, q_inc1, q_ix1, q_ix2, q_sl1, q_sl2, q_set, q_len1, q_len2, q_int1, q_int2, q_max, q_min, q_abs, q_sum, q_list, q_isi1, q_is1, q_not1, q_isN1, q_isN2, q_isN3, q_isN4, q_join, q_count, q_split, q_app, q_pop, q_clear, q_isiE, q_repr, q_nin1, q_intab, q_ninta, q_ixtab, wipe, List.map_cons, List.map_nil, List.length_cons, List.length_nil, List.length_append, List.length_map, List.nil_append, List.cons_append, List.append_nil, cut_m3, cut_t3, cut_m1, cut_t1, cut_t2, S_eq, decide_eq_true_eq, Bool.not_eq_true', decide_eq_false_iff_not, ne_eq])
local macro_rules | `(tactic| walk_at "hh") => `(tactic| first | assumption | exact upd_same | exact Ex.new (by assumption) _ _ (by walk_at "hh") | exact Ex.at (by assumption) (by assumption) | solve_by_elim [Ex.at])
local macro_rules | `(tactic| walk_at "ee") => `(tactic| first | assumption | exact Ex.refl _ | exact Ex.push (by walk_at "ee") (by assumption) | exact Ex.trans (by assumption) (by assumption) | solve_by_elim [Ex.trans])
local macro_rules | `(tactic| walk_at "sz") => `(tactic| first | (rw [szl]; omega) | (simp only [szl, tx_len, sg_len, List.length_map, List.length_append, List.length_cons, List.length_nil, List.length_singleton, List.length_take, List.length_drop, List.length_reverse, S_len]; omega))
def sp_part_at : Sp := fun vs H Q _ => ∃ (t : Tr) (z : List Nat), vs = [.str (S t.s), .str (S z)] ∧ t.n ≤ 100000 ∧ z.length ≤ 1000000 ∧ (Tr.att t z = none → ∀ H', Ex H H' → Q .non H') ∧ (∀ u, Tr.att t z = some u → ∀ H', Ex H H' → Q (.str (S u.s)) H')
theorem pu_part_at (K : PySem.W.Frag) (vs : List V) (H : Hp) (Q : VK) (E : XK) (h : sp_part_at vs H Q E) : rd_part_at K sp_place_of { nx := fun _ H' => Q .non H', rt := Q } (L2.start N_part_at vs) H := by
  obtain ⟨t, z, rfl, hn, hz, k1, k2⟩ := h
  show rd_part_at K _ _ [some _, some _, none] H
  unfold rd_part_at
  walk_at "go"
  have hs := t.s_len
  refine ⟨t, z, rfl, hn, hz, fun h0 => ?_, fun u pre post h1 h2 h3 p hp => ?_⟩
  · walk_at "go"
    exact k1 h0 H (Ex.refl H)
  · walk_at "go"
    refine ⟨_, _, .inr (SqT.of upd_same), aI_0 _ _, _, _, .inr (SqT.of upd_same), aI_1 _ _ _, ?_⟩
    walk_at "go"
    refine ⟨by walk_at "sz", ?_⟩
    rw [cut_mid]
    rw [show ((t.s.drop pre.length).take (pre.length + u.s.length - pre.length)) = u.s by rw [h2]; simp]
    exact k2 u h1 _ (Ex.new hp)

theorem att_len {t u : Tr} {z : List Nat} (h : t.att z = some u) (hn : t.n ≤ 100000) : z.length ≤ 1000000 := by
  have := Tr.att_n z t u h; omega
def sp_put_at : Sp := fun vs H Q _ => ∃ (t u o : Tr) (z : List Nat), vs = [.str (S t.s), .str (S z), .str (S o.s)] ∧ t.n + o.n ≤ 100000 ∧ t.att z = some u ∧ ∀ H', Ex H H' → Q (.str (S (Tr.put t z o).s)) H'
theorem pu_put_at (K : PySem.W.Frag) (vs : List V) (H : Hp) (Q : VK) (E : XK) (h : sp_put_at vs H Q E) : rd_put_at K sp_place_of { nx := fun _ H' => Q .non H', rt := Q } (L2.start N_put_at vs) H := by
  obtain ⟨t, u, o, z, rfl, hn, hu, k⟩ := h
  show rd_put_at K _ _ [some _, some _, some _, none, none] H
  unfold rd_put_at
  walk_at "go"
  have hs := t.s_len
  have ho := o.s_len
  refine ⟨t, z, rfl, by omega, att_len hu (by omega), fun h0 => (by rw [h0] at hu; cases hu), fun w pre post h1 h2 h3 p hp => ?_⟩
  rw [h1] at hu
  cases hu
  refine ⟨_, SqT.of upd_same, rfl, ?_⟩
  walk_at "go"
  refine ⟨by walk_at "sz", ?_⟩
  rw [cut_to, show t.s.take pre.length = pre by rw [h2]; simp]
  have hl := congrArg List.length h2
  simp only [List.length_append] at hl
  walk_at "go"
  refine ⟨by walk_at "sz", by walk_at "sz", ?_⟩
  rw [cut_from, show t.s.drop (pre.length + u.s.length) = post by rw [h2]; simp [← List.drop_drop]]
  walk_at "go"
  refine ⟨by walk_at "sz", ?_⟩
  rw [← h3 o]
  exact k _ (Ex.new hp)

end Pf

namespace Pf
open PySem PySem.Spec PyProof.Rows L2 M
local macro_rules | `(tactic| walk_at "go") => `(tactic| try simp only [↓q_par, ↓q_par3, tSeq, tIfS, tIf, tNot, mTest, tCB, tCons, tNil, mVar, M.gt, mC, Bool.not_true, Bool.not_false, Bool.false_eq_true, if_false, if_true, tNext, tAsg, gName, gSub, List.set_cons_zero, List.set_cons_succ, mFor, mIter, mRevS, S_cps, S_len, S_app, tOp, tSl, mPart, mUn, tNoPart, tRet, tRetN, tTup, tLst, tAnd, tOr, mAndV, mOrV, mNotV, tCall, tCallSD, tDrop, mPar, mPar3, mLstM, mStrM, mBits, mRng1, mRng2, mgTup, mgSeq, mgCons, mgNil, q_add1, q_add2, q_add3, q_add4, q_iadd1, q_iadd2, q_iadd3, q_sorted, q_sub, q_mul1, q_mul2, q_mul3, q_mod, q_div, q_pow, q_eq1, q_eq2, q_eq3, q_eq4, q_eq5, q_eq6, q_eq7, q_eq8, q_eq9, q_eq10, q_ne1, q_ne2, q_ne3, q_ne9, q_ne10, q_lt, q_le, q_gt, q_ge, q_inc1, q_ix1, q_ix2, q_sl1, q_sl2, q_set, q_len1, q_len2, q_int1, q_int2, q_max, q_min, q_abs, q_sum, q_list, q_isi1, q_is1, q_not1, q_isN1, q_isN2, q_isN3, q_isN4, q_join, q_count, q_split, q_app, q_pop, q_clear, q_isiE, q_repr, q_nin1, q_intab, q_ninta, q_ixtab, wipe, List.map_cons, List.map_nil, List.length_cons, List.length_nil, List.length_append, List.length_map, List.nil_append, List.cons_append, List.append_nil, cut_m3, cut_t3, cut_m1, cut_t1, cut_t2, S_eq, decide_eq_true_eq, Bool.not_eq_true', decide_eq_false_iff_not, ne_eq])
theorem _root_.M.Dq.oth {K : PySem.W.Frag} {H : Hp} {m : List Addr} {v : V} {d : PyData} (h : Dq K H m v d) (n : ∀ z, d ≠ .str z) : Oth K H v := by
  cases h with
  | non => exact .non
  | bl b => exact .bl b
  | int i => exact .int i
  | str z => exact absurd rfl (n z)
  | lst h _ _ _ => exact .lst (SqL.of h)
  | tup h _ _ _ => exact .tup (SqT.of h)
  | dct h _ _ => exact .dct h
theorem _root_.M.Dq.av {K : PySem.W.Frag} {H : Hp} {m : List Addr} {v : V} {d : PyData} (h : Dq K H m v d) (o : okD d = true) : AV K H v (isAdD d) := by
  cases d with
  | str z =>
    obtain ⟨l, rfl⟩ := S_def z
    cases h
    obtain ⟨o1, o2⟩ := okD_str.mp o
    exact .inl ⟨l, rfl, o1, o2, isAdD_S⟩
  | _ => exact .inr ⟨h.oth (fun z hz => by cases hz), rfl⟩
theorem len2 {α : Type} {l : List α} (h : l.length = 2) : ∃ a b, l = [a, b] := by
  match l, h with
  | [a, b], _ => exact ⟨a, b, rfl⟩
theorem otherK {w : Str} : hasK rows_OTHER_WORD w = (decide (w = S cL) || decide (w = S cR)) := by
  unfold hasK
  simp only [List.any_cons, List.any_nil, Bool.or_false]
  congr 1 <;> exact decide_eq_decide.mpr eq_comm
def sp_is_step (K : PySem.W.Frag) : Sp := fun vs H Q _ => ∃ v d, vs = [v] ∧ Dq K H [] v d ∧ okD d = true ∧ ∀ H', Ex H H' → Q (.bl (isStepD d)) H'
theorem pu_is_step (K : PySem.W.Frag) (aO : Addr) (vs : List V) (H : Hp) (Q : VK) (E : XK) (h : sp_is_step K vs H Q E) : rd_is_step K (sp_is_address K) aO { nx := fun _ H' => Q .non H', rt := Q } (L2.start N_is_step vs) H := by
  obtain ⟨v, d, rfl, dq, od, k⟩ := h
  show rd_is_step K _ _ _ [some _] H
  unfold rd_is_step
  walk_at "go"
  refine dq.isi (.inr (.inr (.inl rfl))) ?_
  have no : isD d "tuple" = false → isStepD d = false := fun h => by cases d <;> first | rfl | cases h
  by_cases ht : isD d "tuple" = true
  · have : ∃ ds, d = .tuple ds := by cases d <;> first | exact ⟨_, rfl⟩ | cases ht
    obtain ⟨ds, rfl⟩ := this
    obtain ⟨a, xs, rfl, ha, -, hx⟩ := dq.tupI
    rw [ht]
    walk_at "go"
    refine ⟨_, .inr (SqT.of ha), ?_⟩
    have hl := hx.len
    by_cases h2 : xs.length = 2
    · obtain ⟨v0, v1, rfl⟩ := len2 h2
      obtain ⟨d0, d1, rfl⟩ := len2 (hl.symm.trans h2)
      · simp only [okD, okDs, Bool.and_true, Bool.and_eq_true] at od
        cases hx with
        | cons q0 hx => cases hx with
          | cons q1 hx =>
            simp only [List.length_cons, List.length_nil]
            walk_at "go"
            refine ⟨_, v0, .inr (SqT.of ha), aI_0 _ _, ?_⟩
            refine q0.isi (.inl rfl) ?_
            cases d0 with
            | str w =>
              cases q0
              simp only [isD]
              walk_at "go"
              refine ⟨_, _, .inr (SqT.of ha), aI_0 _ _, ?_⟩
              walk_at "go"
              rw [otherK]
              have e : isStepD (.tuple [.str w, d1]) = ((decide (w = S cL) || decide (w = S cR)) && isAdD d1) := rfl
              rw [e] at k
              generalize (decide (w = S cL) || decide (w = S cR)) = bb at k ⊢
              cases bb with
              | false =>
                walk_at "go"
                simpa using k H (Ex.refl H)
              | true =>
                walk_at "go"
                refine ⟨_, v1, .inr (SqT.of ha), aI_1 _ _ _, ?_⟩
                exact ⟨v1, _, rfl, q1.av od.2, fun H1 e1 => by simpa using k H1 e1⟩
            | _ =>
              simp only [isD]
              walk_at "go"
              exact k H (Ex.refl H)
    · have e : isStepD (.tuple ds) = false := by
        rw [hl] at h2
        match ds, h2 with
        | [], _ => rfl
        | [_], _ => simp [isStepD]
        | _ :: _ :: _ :: _, _ => simp [isStepD]
        | [a, b], h => exact absurd rfl h
      rw [if_pos (by omega)]
      walk_at "go"
      rw [e] at k
      exact k H (Ex.refl H)
  · have ht' : isD d "tuple" = false := by simpa using ht
    rw [ht']
    walk_at "go"
    have := k H (Ex.refl H)
    rw [no ht'] at this
    exact this
end Pf

namespace Pf
open PySem PySem.Spec PyProof.Rows L2 M
local macro_rules | `(tactic| walk_at "go") => `(tactic| try simp only [↓q_par, ↓q_par3, tSeq, tIfS, tIf, tNot, mTest, tCB, tCons, tNil, mVar, M.gt, mC, Bool.not_true, Bool.not_false, Bool.false_eq_true, if_false, if_true, tNext, tAsg, gName, gSub, List.set_cons_zero, List.set_cons_succ, mFor, mIter, mRevS, S_cps, S_len, S_app, tOp, tSl, mPart, mUn, tNoPart, tRet, tRetN, tTup, tLst, tAnd, tOr, mAndV, mOrV, mNotV, tCall, tCallSD, tDrop, mPar, mPar3, mLstM, mStrM, mBits, mRng1, mRng2, mgTup, mgSeq, mgCons, mgNil, q_add1, q_add2, q_add3, q_add4, q_iadd1, q_iadd2, q_iadd3, q_sorted, q_sub, q_mul1, q_mul2, q_mul3, q_mod, q_div, q_pow, q_eq1, q_eq2, q_eq3, q_eq4, q_eq5, q_eq6, q_eq7, q_eq8, q_eq9, q_eq10, q_ne1, q_ne2, q_ne3, q_ne9, q_ne10, q_lt, q_le, q_gt, q_ge, q_inc1, q_ix1, q_ix2, q_sl1, q_sl2, q_set, q_len1, q_len2, q_int1, q_int2, q_max, q_min, q_abs, q_sum, q_list, q_isi1, q_is1, q_not1, q_isN1, q_isN2, q_isN3, q_isN4, q_join, q_count, q_split, q_app, q_pop, q_clear, q_isiE, q_repr, q_nin1, q_intab, q_ninta, q_ixtab, wipe, List.map_cons, List.map_nil, List.length_cons, List.length_nil, List.length_append, List.length_map, List.nil_append, List.cons_append, List.append_nil, cut_m3, cut_t3, cut_m1, cut_t1, cut_t2, S_eq, decide_eq_true_eq, Bool.not_eq_true', decide_eq_false_iff_not, ne_eq])
/-- an argument that should be a script -/
def AskS (K : PySem.W.Frag) (aS : Addr) (E : XK) (H : Hp) (v : V) (k : List Stp → Prop) : Prop := ∃ d, Dq K H [] v d ∧ okD d = true ∧ (∀ ds, d = .list ds → ds.length ≤ 100000) ∧ ((isScrD d = false ∧ Fail E H aS v) ∨ ∃ ss, d = .list (ss.map Stp.d) ∧ adS ss ∧ k ss)
theorem AskS.good {K : PySem.W.Frag} {aS : Addr} {E : XK} {H : Hp} {v : V} {k : List Stp → Prop} {ss : List Stp} {m : List Addr} (h : Dq K H m v (.list (ss.map Stp.d))) (a : adS ss) (l : ∀ s ∈ ss, s.2.length ≤ 1000000) (hl : ss.length ≤ 100000) (kk : k ss) : AskS K aS E H v k :=
  ⟨_, h.z, by simpa only [okD] using steps_ok a l, fun ds e => by cases e; simpa using hl, .inr ⟨ss, rfl, a, kk⟩⟩
theorem AskS.bad {K : PySem.W.Frag} {aS : Addr} {E : XK} {H : Hp} {v : V} {k : List Stp → Prop} {m : List Addr} {d : PyData} (h : Dq K H m v d) (o : okD d = true) (l : ∀ ds, d = .list ds → ds.length ≤ 100000) (b : isScrD d = false) (f : Fail E H aS v) : AskS K aS E H v k := ⟨_, h.z, o, l, .inl ⟨b, f⟩⟩
def sp_check_script (K : PySem.W.Frag) (aS : Addr) : Sp := fun vs H Q E => ∃ v, vs = [v] ∧ AskS K aS E H v fun _ => ∀ H', Ex H H' → Q .non H'
theorem pu_check_script (K : PySem.W.Frag) (aS : Addr) (vs : List V) (H : Hp) (Q : VK) (E : XK) (h : sp_check_script K aS vs H Q E) : rd_check_script K (sp_is_step K) aS E { nx := fun _ H' => Q .non H', rt := Q } (L2.start N_check_script vs) H := by
  obtain ⟨v, rfl, d, dq, od, ld, hc⟩ := h
  show rd_check_script K _ _ _ _ [some _, none] H
  unfold rd_check_script
  walk_at "go"
  refine dq.isi (.inr (.inl rfl)) ?_
  have ra : ∀ {H1 : Hp}, Ex H H1 → isScrD d = false → mRaise aS "value" (tCons (mVar 0) tNil) E { nx := fun _ H' => Q .non H', rt := Q } [some v, none] H1 := fun {H1} e1 hb => by
    have f := (hc.resolve_right fun ⟨ss, h1, h2, _⟩ => by rw [h1, isScr_d h2] at hb; cases hb).2
    unfold mRaise mMk
    walk_at "go"
    exact fun p hp => f _ p (e1.push hp) (e1.free hp) upd_same
  by_cases hi : isD d "list" = true
  · have : ∃ ds, d = .list ds := by cases d <;> first | exact ⟨_, rfl⟩ | cases hi
    obtain ⟨ds, rfl⟩ := this
    rw [hi]
    have hdl := ld ds rfl
    obtain ⟨a, xs, rfl, ha, -, hx⟩ := dq.listI
    walk_at "go"
    unfold mLc
    walk_at "go"
    refine ⟨_, .inl ⟨SqL.of ha, fun D hD => ?_⟩⟩
    have eD := Ex.new (o := .lst []) hD
    refine (?lp : ∀ (ys : List V) (es : List PyData) (acc : List V) (H2 : Hp), Ex H H2 → H2 D = some (.lst acc) → DqA K H2 [D] ys es → okDs es = true → acc.length + ys.length ≤ 100000 → (ds.all isStepD = (decide (acc.length = 0) && es.all isStepD)) → cV _ _ _ _ _ _ D _ ys H2) xs ds [] _ eD upd_same ((hx.more (m' := [D]) fun b hb => .inr (by rw [List.mem_singleton.mp hb]; exact hD)).ex eD) (by simpa only [okD] using od) (by have := hx.len; simp; omega) (by simp)
    intro ys
    induction ys with
    | nil =>
      intro es acc H2 e2 h2 hq ho hl he
      cases hq
      simp only [List.all_nil, Bool.and_true] at he
      simp only [cV]
      refine ⟨e2.L (SqL.of ha), ?_⟩
      walk_at "go"
      refine ⟨by rw [szl]; omega, fun q hq => ?_⟩
      have e3 := e2.push (o := .lst []) hq
      by_cases hz : acc = []
      · subst hz
        have hg : isScrD (.list ds) = true := by simpa [isScrD] using he
        refine .inr ?_
        walk_at "go"
        refine eq_strs (a := []) (b := []) (SqL.of (by rw [upd_ne (ne_of_none h2 hq)]; exact h2)) (SqL.of upd_same) (fun z hz => by cases hz) (fun z hz => by cases hz) ?_
        simp only [decide_true, if_true, Bool.not_true]
        walk_at "go"
        rcases hc with ⟨z, _⟩ | ⟨ss, _, _, k⟩
        · rw [hg] at z; cases z
        · exact k _ e3
      · have hg : isScrD (.list ds) = false := by
          show ds.all isStepD = false
          rw [he]
          simpa using hz
        refine .inl ⟨_, _, acc, [], rfl, rfl, SqL.of (by rw [upd_ne (ne_of_none h2 hq)]; exact h2), SqL.of upd_same, by simpa using hz, ?_⟩
        walk_at "go"
        exact ra e3 hg
    | cons y ys ih =>
      intro es acc H2 e2 h2 hq ho hl he
      cases hq with
      | @cons _ _ d1 es h1 h3 =>
        simp only [okDs, Bool.and_eq_true] at ho
        simp only [List.length_cons] at hl
        simp only [cV]
        refine ⟨e2.L (SqL.of ha), ?_⟩
        walk_at "go"
        refine ⟨trivial, y, d1, rfl, h1.z, ho.1, fun H3 e3 => ?_⟩
        cases hb : isStepD d1 with
        | true =>
          walk_at "go"
          exact ih es acc H3 (e2.trans e3) (e3 _ _ h2) (h3.ex e3) ho.2 (by omega) (by rw [he]; simp [hb])
        | false =>
          walk_at "go"
          have e4 := (e2.trans e3).mut (o := .lst (acc ++ [y])) hD
          refine ⟨acc, e3 _ _ h2, by rw [szl]; omega, ?_⟩
          exact ih es (acc ++ [y]) _ e4 upd_same ((h3.ex e3).fm (Fm.mut List.mem_cons_self)) ho.2 (by simp; omega) (by rw [he]; simp [hb])
  · have hi' : isD d "list" = false := by simpa using hi
    rw [hi']
    walk_at "go"
    exact ra (Ex.refl H) (by cases d <;> first | rfl | exact absurd rfl hi)
end Pf

namespace Pf
open PySem PySem.Spec PyProof.Rows L2 M
local macro_rules | `(tactic| walk_at "go") => `(tactic| try simp only [↓q_par, ↓q_par3, tSeq, tIfS, tIf, tNot, mTest, tCB, tCons, tNil, mVar, M.gt, mC, Bool.not_true, Bool.not_false, Bool.false_eq_true, if_false, if_true, tNext, tAsg, gName, gSub, List.set_cons_zero, List.set_cons_succ, mFor, mIter, mRevS, S_cps, S_len, S_app, tOp, tSl, mPart, mUn, tNoPart, tRet, tRetN, tTup, tLst, tAnd, tOr, mAndV, mOrV, mNotV, tCall, tCallSD, tDrop, mPar, mPar3, mLstM, mStrM, mBits, mRng1, mRng2, mgTup, mgSeq, mgCons, mgNil, q_add1, q_add2, q_add3, q_add4, q_iadd1, q_iadd2, q_iadd3, q_sorted, q_sub, q_mul1, q_mul2, q_mul3, q_mod, q_div, q_pow, q_eq1, q_eq2, q_eq3, q_eq4, q_eq5, q_eq6, q_eq7, q_eq8, q_eq9, q_eq10, q_ne1, q_ne2, q_ne3, q_ne9, q_ne10, q_lt, q_le, q_gt, q_ge, q_inc1, q_ix1, q_ix2, q_sl1, q_sl2, q_set, q_len1, q_len2, q_int1, q_int2, q_max, q_min, q_abs, q_sum, q_list, q_isi1, q_is1, q_not1, q_isN1, q_isN2, q_isN3, q_isN4, q_join, q_count, q_split, q_app, q_pop, q_clear, q_isiE, q_repr, q_nin1, q_intab, q_ninta, q_ixtab, wipe, List.map_cons, List.map_nil, List.length_cons, List.length_nil, List.length_append, List.length_map, List.nil_append, List.cons_append, List.append_nil, cut_m3, cut_t3, cut_m1, cut_t1, cut_t2, S_eq, decide_eq_true_eq, Bool.not_eq_true', decide_eq_false_iff_not, ne_eq])
theorem _root_.M.DqA.rev {K : PySem.W.Frag} {H : Hp} {m : List Addr} {a : List V} {x : List PyData} (h : DqA K H m a x) : DqA K H m a.reverse x.reverse := by
  induction h with
  | nil => exact .nil
  | cons h _ ih =>
    rw [List.reverse_cons, List.reverse_cons]
    exact ih.app (.cons h .nil)
theorem _root_.M.DqA.stp {K : PySem.W.Frag} {H : Hp} {m : List Addr} {vs : List V} {s : Stp} {ss : List Stp} (h : DqA K H m vs ((s :: ss).map Stp.d)) : ∃ p us, vs = .ref p :: us ∧ H p = some (.tup [.str (S s.w), .str (S s.2)]) ∧ p ∉ m ∧ DqA K H m us (ss.map Stp.d) := by
  cases h with
  | cons h1 h2 =>
    obtain ⟨a, xs, rfl, ha, hn, hx⟩ := h1.tupI
    cases hx with
    | cons g1 hx => cases hx with
      | cons g2 hx =>
        cases hx
        cases g1
        cases g2
        exact ⟨a, _, rfl, ha, hn, h2⟩
theorem _root_.M.Dq.step {K : PySem.W.Frag} {H : Hp} {m : List Addr} {p : Addr} {s : Stp} (h : H p = some (.tup [.str (S s.w), .str (S s.2)])) (n : p ∉ m) : Dq K H m (.ref p) s.d := .T h n (.cons (.str _) (.cons (.str _) .nil))
theorem other_at (s : Stp) : atK rows_OTHER_WORD (S s.w) = some s.fl.w := by
  obtain ⟨b, z⟩ := s
  cases b
  · simp [atK, Stp.w, Stp.fl, S_eq]
  · simp [atK, Stp.w, Stp.fl, S_eq]
theorem okDs_steps {ss : List Stp} (h : okDs (ss.map Stp.d) = true) : ∀ s ∈ ss, s.2.length ≤ 1000000 := fun s hs => by
  have := okDs_mem.mp h s.d (List.mem_map.mpr ⟨s, hs, rfl⟩)
  have e : (okD (.str (S s.w)) && (okD (.str (S s.2)) && true)) = true := this
  rw [Bool.and_true, Bool.and_eq_true] at e
  exact (okD_str.mp e.2).1
end Pf

namespace Pf
open PySem PySem.Spec PyProof.Rows L2 M
local macro_rules | `(tactic| walk_at "go") => `(tactic| try simp only [↓q_par, ↓q_par3, tSeq, tIfS, tIf, tNot, mTest, tCB, tCons, tNil, mVar, M.gt, mC, Bool.not_true, Bool.not_false, Bool.false_eq_true, if_false, if_true, tNext, tAsg, gName, gSub, List.set_cons_zero, List.set_cons_succ, mFor, mIter, mRevS, S_cps, S_len, S_app, tOp, tSl, mPart, mUn, tNoPart, tRet, tRetN, tTup, tLst, tAnd, tOr, mAndV, mOrV, mNotV, tCall, tCallSD, tDrop, mPar, mPar3, mLstM, mStrM, mBits, mRng1, mRng2, mgTup, mgSeq, mgCons, mgNil, q_add1, q_add2, q_add3, q_add4, q_iadd1, q_iadd2, q_iadd3, q_sorted, q_sub, q_mul1, q_mul2, q_mul3, q_mod, q_div, q_pow, q_eq1, q_eq2, q_eq3, q_eq4, q_eq5, q_eq6, q_eq7, q_eq8, q_eq9, q_eq10, q_ne1, q_ne2, q_ne3, q_ne9, q_ne10, q_lt, q_le, q_gt, q_ge, q_inc1, q_ix1, q_ix2, q_sl1, q_sl2, q_set, q_len1, q_len2, q_int1, q_int2, q_max, q_min, q_abs, q_sum, q_list, q_isi1, q_is1, q_not1, q_isN1, q_isN2, q_isN3, q_isN4, q_join, q_count, q_split, q_app, q_pop, q_clear, q_isiE, q_repr, q_nin1, q_intab, q_ninta, q_ixtab, wipe, List.map_cons, List.map_nil, List.length_cons, List.length_nil, List.length_append, List.length_map, List.nil_append, List.cons_append, List.append_nil, cut_m3, cut_t3, cut_m1, cut_t1, cut_t2, S_eq, decide_eq_true_eq, Bool.not_eq_true', decide_eq_false_iff_not, ne_eq])
local macro_rules | `(tactic| walk_at "hh") => `(tactic| first | assumption | exact upd_same | exact Ex.new (by assumption) _ _ (by walk_at "hh") | exact Ex.at (by assumption) (by assumption) | solve_by_elim [Ex.at])
local macro_rules | `(tactic| walk_at "ee") => `(tactic| first | assumption | exact Ex.refl _ | exact Ex.push (by walk_at "ee") (by assumption) | exact Ex.trans (by assumption) (by assumption) | solve_by_elim [Ex.trans])
local macro_rules | `(tactic| walk_at "sz") => `(tactic| first | (rw [szl]; omega) | (simp only [szl, tx_len, sg_len, List.length_map, List.length_append, List.length_cons, List.length_nil, List.length_singleton, List.length_take, List.length_drop, List.length_reverse, S_len]; omega))
/-- a tree, or None -/
def ov : Option Tr → V
  | none => .non
  | some t => .str (S t.s)
/-- a rotation at the root: to the right or not -/
def rot : Bool → Tr → Option Tr
  | true, .nd (.nd a b) c => some (.nd a (.nd b c))
  | false, .nd a (.nd b c) => some (.nd (.nd a b) c)
  | _, _ => none
theorem rot_n {b : Bool} {t u : Tr} (h : rot b t = some u) : u.n = t.n := by
  unfold rot at h
  split at h
  · cases h; simp only [Tr.n]; omega
  · cases h; simp only [Tr.n]; omega
  · cases h
/-- one step -/
def _root_.M.Tr.turn (t : Tr) (s : Stp) : Option Tr := (t.att s.2).bind fun u => (rot s.1 u).map fun v => t.put s.2 v
theorem put_nn : ∀ (r : List Nat) (t u o : Tr), t.att r = some u → (t.put r o).n + u.n = t.n + o.n
  | [], t, u, o, h => by rw [Tr.att_nil] at h; cases h; rw [Tr.put_nil]; omega
  | c :: r, .lf, u, o, h => by cases h
  | c :: r, .nd a b, u, o, h => by
    simp only [Tr.att] at h
    simp only [Tr.put]
    split at h
    · rename_i z
      have := put_nn r b u o h
      rw [if_pos z]; simp only [Tr.n]; omega
    · rename_i z
      have := put_nn r a u o h
      rw [if_neg z]; simp only [Tr.n]; omega
theorem turn_n {t u : Tr} {s : Stp} (h : t.turn s = some u) : u.n = t.n := by
  unfold Tr.turn at h
  obtain ⟨v, h1, h2⟩ := Option.bind_eq_some_iff.mp h
  obtain ⟨w, h3, rfl⟩ := Option.map_eq_some_iff.mp h2
  have := put_nn s.2 t v w h1
  have := rot_n h3
  omega
section
variable (K : PySem.W.Frag)
def sp_parts_of : Sp := fun vs H Q _ => ∃ l r : Tr, vs = [.str (S (Tr.nd l r).s)] ∧ l.n + r.n ≤ 100000 ∧ ∀ p, H p = none → Q (.ref p) (upd H p (.tup [.str (S l.s), .str (S r.s)]))
theorem pu_parts_of (vs : List V) (H : Hp) (Q : VK) (E : XK) (h : sp_parts_of vs H Q E) : rd_parts_of K sp_end_of { nx := fun _ H' => Q .non H', rt := Q } (L2.start N_parts_of vs) H := by
  obtain ⟨l, r, rfl, hn, k⟩ := h
  show rd_parts_of K _ _ [some _, none] H
  unfold rd_parts_of
  have e : (Tr.nd l r).s = 40 :: (l.s ++ (r.s ++ [41])) := rfl
  have hl := l.s_len
  have hr := r.s_len
  walk_at "go"
  refine ⟨_, 1, l, r.s ++ [41], rfl, rfl, by rw [e]; simp; omega, ?_⟩
  walk_at "go"
  have c1 : cutL (Tr.nd l r).s (some 1) (some ((1 + l.s.length : Nat) : Int)) = l.s := by
    rw [show (some (1 : Int)) = some ((1 : Nat) : Int) from rfl, cut_mid, e]
    simp
  have c2 : cutL (Tr.nd l r).s (some ((1 + l.s.length : Nat) : Int)) (some (-1)) = r.s := by
    rw [show (some (-1 : Int)) = some (-((1 : Nat) : Int)) from rfl, cut_midN _ _ _ (by decide), e]
    simp only [List.length_cons, List.length_append, List.length_nil]
    rw [show 1 + l.s.length = l.s.length + 1 by omega, List.drop_succ_cons, List.drop_left, show l.s.length + (r.s.length + (0 + 1)) + 1 - 1 - (l.s.length + 1) = r.s.length by omega, List.take_left]
  rw [c1, c2]
  refine ⟨by rw [szl, e]; simp; omega, by rw [szl, e]; simp; omega, by walk_at "sz", k⟩
def sp_turned_piece : Sp := fun vs H Q _ => ∃ (o : Option Tr) (b : Bool), vs = [ov o, .str (S (Stp.w (b, [])))] ∧ (∀ t, o = some t → t.n ≤ 100000) ∧ ∀ H', Ex H H' → Q (ov (o.bind (rot b))) H'
theorem s_ne_dot {l r : Tr} : ¬ (Tr.nd l r).s = [46] := by
  intro z
  have := congrArg List.length z
  rw [Tr.s_len] at this
  simp [Tr.n] at this
theorem pu_turned_piece (vs : List V) (H : Hp) (Q : VK) (E : XK) (h : sp_turned_piece vs H Q E) : rd_turned_piece K sp_parts_of { nx := fun _ H' => Q .non H', rt := Q } (L2.start N_turned_piece vs) H := by
  obtain ⟨o, b, rfl, hn, k⟩ := h
  show rd_turned_piece K _ _ [some _, some _, none, none, none, none] H
  unfold rd_turned_piece
  cases o with
  | none =>
    simp only [ov]
    walk_at "go"
    exact k H (Ex.refl H)
  | some t =>
    have ht := hn t rfl
    simp only [ov]
    walk_at "go"
    cases t with
    | lf =>
      rw [if_pos (by rfl)]
      have : rot b .lf = none := by cases b <;> rfl
      simpa [this, ov] using k H (Ex.refl H)
    | nd l r =>
      simp only [Tr.n] at ht
      rw [if_neg s_ne_dot]
      refine ⟨l, r, rfl, by omega, fun p hp => ?_⟩
      walk_at "go"
      refine ⟨_, SqT.of upd_same, rfl, ?_⟩
      have e1 := Ex.new (o := .tup [.str (S l.s), .str (S r.s)]) hp
      walk_at "go"
      have sl := l.s_len
      have sr := r.s_len
      cases b with
      | true =>
        simp only [Stp.w, if_true]
        walk_at "go"
        cases l with
        | lf =>
          rw [if_pos (by rfl)]
          exact k _ e1
        | nd a c =>
          simp only [Tr.n] at ht
          rw [if_neg s_ne_dot]
          refine ⟨a, c, rfl, by omega, fun q hq => ?_⟩
          walk_at "go"
          refine ⟨_, SqT.of upd_same, rfl, ?_⟩
          walk_at "go"
          have sa := a.s_len
          have sc := c.s_len
          refine ⟨by rw [szl]; omega, by rw [szl]; omega, by rw [szl]; omega, by rw [szl]; omega, by rw [szl]; omega, ?_⟩
          have := k _ (e1.push (o := .tup [.str (S a.s), .str (S c.s)]) hq)
          revert this
          generalize upd (upd H p _) q _ = HH
          intro this
          simp only [rot, Option.bind_some, ov, Tr.s] at this
          simpa using this
      | false =>
        simp only [Stp.w, Bool.false_eq_true, if_false]
        walk_at "go"
        rw [if_neg (by decide)]
        cases r with
        | lf =>
          rw [if_pos (by rfl)]
          have e : rot false (.nd l .lf) = none := by cases l <;> rfl
          have := k _ e1
          simpa [e, ov] using this
        | nd a c =>
          simp only [Tr.n] at ht
          rw [if_neg s_ne_dot]
          refine ⟨a, c, rfl, by omega, fun q hq => ?_⟩
          walk_at "go"
          refine ⟨_, SqT.of upd_same, rfl, ?_⟩
          walk_at "go"
          have sa := a.s_len
          have sc := c.s_len
          refine ⟨by rw [szl]; omega, by rw [szl]; omega, by rw [szl]; omega, by rw [szl]; omega, by rw [szl]; omega, ?_⟩
          have := k _ (e1.push (o := .tup [.str (S a.s), .str (S c.s)]) hq)
          revert this
          generalize upd (upd H p _) q _ = HH
          intro this
          simp only [rot, Option.bind_some, ov, Tr.s] at this
          simpa using this
def sp_turned_once : Sp := fun vs H Q _ => ∃ (t : Tr) (s : Stp) (p : Addr), vs = [.str (S t.s), .ref p] ∧ t.n ≤ 50000 ∧ H p = some (.tup [.str (S s.w), .str (S s.2)]) ∧ s.2.length ≤ 1000000 ∧ ∀ H', Ex H H' → Q (ov (t.turn s)) H'
theorem pu_turned_once (vs : List V) (H : Hp) (Q : VK) (E : XK) (h : sp_turned_once vs H Q E) : rd_turned_once K sp_turned_piece sp_part_at sp_put_at { nx := fun _ H' => Q .non H', rt := Q } (L2.start N_turned_once vs) H := by
  obtain ⟨t, s, p, rfl, hn, hp, hz, k⟩ := h
  show rd_turned_once K _ _ _ _ [some _, some _, none, none, none] H
  unfold rd_turned_once
  walk_at "go"
  refine ⟨_, .inl (SqT.of hp), rfl, ?_⟩
  walk_at "go"
  have fin : ∀ (o : Option Tr) (H1 : Hp), t.att s.2 = o → Ex H H1 → sp_turned_piece [ov o, .str (S s.w)] H1 (fun x H' => if isN x = true then Q .non H' else sp_put_at [.str (S t.s), .str (S s.2), x] H' Q E0) E0 := by
    intro o H1 ho e1
    refine ⟨o, s.1, rfl, fun u hu => ?_, fun H2 e2 => ?_⟩
    · subst hu
      have := Tr.att_n _ _ _ ho
      omega
    · have e12 := e1.trans e2
      have et : t.turn s = (o.bind (rot s.1)).map fun v => t.put s.2 v := by
        unfold Tr.turn
        rw [ho]
        cases o <;> rfl
      cases hb : o.bind (rot s.1) with
      | none =>
        rw [hb] at et
        simp only [ov, q_isN1, if_true]
        have := k H2 e12
        rw [et] at this
        exact this
      | some v =>
        rw [hb] at et
        obtain ⟨u, hu, hr⟩ := Option.bind_eq_some_iff.mp hb
        subst hu
        have h1 := Tr.att_n _ _ _ ho
        have h2 := rot_n hr
        simp only [ov, q_isN3, Bool.false_eq_true, if_false]
        refine ⟨t, u, v, s.2, rfl, by omega, ho, fun H3 e3 => ?_⟩
        have := k H3 (e12.trans e3)
        rw [et] at this
        exact this
  refine ⟨t, s.2, rfl, by omega, hz, fun hno H1 e1 => ?_, fun u hu H1 e1 => ?_⟩
  · have := fin none H1 hno e1
    simpa [ov] using this
  · have := fin (some u) H1 hu e1
    simpa [ov] using this
end
end Pf

namespace Pf
open PySem PySem.Spec PyProof.Rows L2 M
local macro_rules | `(tactic| walk_at "go") => `(tactic| try simp only [↓q_par, ↓q_par3, tSeq, tIfS, tIf, tNot, mTest, tCB, tCons, tNil, mVar, M.gt, mC, Bool.not_true, Bool.not_false, Bool.false_eq_true, if_false, if_true, tNext, tAsg, gName, gSub, List.set_cons_zero, List.set_cons_succ, mFor, mIter, mRevS, S_cps, S_len, S_app, tOp, tSl, mPart, mUn, tNoPart, tRet, tRetN, tTup, tLst, tAnd, tOr, mAndV, mOrV, mNotV, tCall, tCallSD, tDrop, mPar, mPar3, mLstM, mStrM, mBits, mRng1, mRng2, mgTup, mgSeq, mgCons, mgNil, q_add1, q_add2, q_add3, q_add4, q_iadd1, q_iadd2, q_iadd3, q_sorted, q_sub, q_mul1, q_mul2, q_mul3, q_mod, q_div, q_pow, q_eq1, q_eq2, q_eq3, q_eq4, q_eq5, q_eq6, q_eq7, q_eq8, q_eq9, q_eq10, q_ne1, q_ne2, q_ne3, q_ne9, q_ne10, q_lt, q_le, q_gt, q_ge, q_inc1, q_ix1, q_ix2, q_sl1, q_sl2, q_set, q_len1, q_len2, q_int1, q_int2, q_max, q_min, q_abs, q_sum, q_list, q_isi1, q_is1, q_not1, q_isN1, q_isN2, q_isN3, q_isN4, q_join, q_count, q_split, q_app, q_pop, q_clear, q_isiE, q_repr, q_nin1, q_intab, q_ninta, q_ixtab, wipe, List.map_cons, List.map_nil, List.length_cons, List.length_nil, List.length_append, List.length_map, List.nil_append, List.cons_append, List.append_nil, cut_m3, cut_t3, cut_m1, cut_t1, cut_t2, S_eq, decide_eq_true_eq, Bool.not_eq_true', decide_eq_false_iff_not, ne_eq])
/-- leaf k replaced -/
def sub : Tr → Nat → Tr → Tr
  | .lf, _, p => p
  | .nd a b, k, p => if k < a.n + 1 then .nd (sub a k p) b else .nd a (sub b (k - (a.n + 1)) p)
theorem sub_n : ∀ (t : Tr) (k : Nat) (p : Tr), (sub t k p).n = t.n + p.n
  | .lf, k, p => by simp [sub, Tr.n]
  | .nd a b, k, p => by
    simp only [sub]
    split
    · simp only [Tr.n, sub_n a]; omega
    · simp only [Tr.n, sub_n b]; omega
theorem sub_s : ∀ (t : Tr) (k : Nat), k ≤ t.n → ∃ pre post : List Nat, t.s = pre ++ 46 :: post ∧ pre.count 46 = k ∧ ∀ p, (sub t k p).s = pre ++ (p.s ++ post)
  | .lf, k, h => ⟨[], [], rfl, by simp only [Tr.n] at h; simp; omega, fun p => by simp [sub]⟩
  | .nd a b, k, h => by
    simp only [Tr.n] at h
    by_cases hk : k < a.n + 1
    · obtain ⟨x, y, h1, h2, h3⟩ := sub_s a k (by omega)
      refine ⟨40 :: x, y ++ (b.s ++ [41]), by simp [Tr.s, h1], by simp [h2], fun p => ?_⟩
      simp only [sub, if_pos hk, Tr.s, h3]
      simp
    · obtain ⟨x, y, h1, h2, h3⟩ := sub_s b (k - (a.n + 1)) (by omega)
      refine ⟨40 :: (a.s ++ x), y ++ [41], by simp [Tr.s, h1], ?_, fun p => ?_⟩
      · rw [List.count_cons, List.count_append, Tr.cnt_lf, h2]
        simp; omega
      · simp only [sub, if_neg hk, Tr.s, h3]
        simp
/-- a rotation keeps its leaves -/
theorem rot_sub {b : Bool} {t u : Tr} (h : rot b t = some u) (k : Nat) (p : Tr) : rot b (sub t k p) = some (sub u k p) := by
  unfold rot at h
  split at h
  · rename_i x y z
    cases h
    by_cases h1 : k < x.n + 1
    · have h2 : k < (Tr.nd x y).n + 1 := by simp only [Tr.n]; omega
      simp only [sub, if_pos h1, if_pos h2, rot]
    · by_cases h2 : k < (Tr.nd x y).n + 1
      · have h3 : k - (x.n + 1) < y.n + 1 := by simp only [Tr.n] at h2; omega
        simp only [sub, if_neg h1, if_pos h2, if_pos h3, rot]
      · have h3 : ¬ k - (x.n + 1) < y.n + 1 := by simp only [Tr.n] at h2; omega
        have h4 : k - ((Tr.nd x y).n + 1) = k - (x.n + 1) - (y.n + 1) := by simp only [Tr.n]; omega
        simp only [sub, if_neg h1, if_neg h2, if_neg h3, rot, h4]
  · rename_i x y z
    cases h
    by_cases h1 : k < x.n + 1
    · have h2 : k < (Tr.nd x y).n + 1 := by simp only [Tr.n]; omega
      simp only [sub, if_pos h1, if_pos h2, rot]
    · by_cases h2 : k < (Tr.nd x y).n + 1
      · have h3 : k - (x.n + 1) < y.n + 1 := by simp only [Tr.n] at h2; omega
        simp only [sub, if_neg h1, if_pos h2, if_pos h3, rot]
      · have h3 : ¬ k - (x.n + 1) < y.n + 1 := by simp only [Tr.n] at h2; omega
        have h4 : k - ((Tr.nd x y).n + 1) = k - (x.n + 1) - (y.n + 1) := by simp only [Tr.n]; omega
        simp only [sub, if_neg h1, if_neg h2, if_neg h3, rot, h4]
  · cases h
theorem turn_nil {t : Tr} {b : Bool} : t.turn (b, []) = rot b t := by
  unfold Tr.turn
  simp only [Tr.att_nil, Option.bind_some, Tr.put_nil]
  cases rot b t <;> rfl
theorem turn_lf {b : Bool} {c : Nat} {z : List Nat} : Tr.lf.turn (b, c :: z) = none := rfl
theorem turn_cons {l r : Tr} {b : Bool} {c : Nat} {z : List Nat} : (Tr.nd l r).turn (b, c :: z) = if c = 114 then (r.turn (b, z)).map (Tr.nd l) else (l.turn (b, z)).map (Tr.nd · r) := by
  unfold Tr.turn
  simp only [Tr.att, Tr.put]
  split
  · cases r.att z with
    | none => rfl
    | some u =>
      simp only [Option.bind_some]
      cases rot b u <;> rfl
  · cases l.att z with
    | none => rfl
    | some u =>
      simp only [Option.bind_some]
      cases rot b u <;> rfl
theorem turn_sub {b : Bool} (p : Tr) : ∀ (z : List Nat) (t u : Tr) (k : Nat), t.turn (b, z) = some u → (sub t k p).turn (b, z) = some (sub u k p)
  | [], t, u, k, h => by rw [turn_nil] at h ⊢; exact rot_sub h k p
  | c :: z, .lf, u, k, h => by rw [turn_lf] at h; cases h
  | c :: z, .nd l r, u, k, h => by
    rw [turn_cons] at h
    split at h
    · rename_i hc
      obtain ⟨r', h1, rfl⟩ := Option.map_eq_some_iff.mp h
      simp only [sub]
      split
      · rw [turn_cons, if_pos hc, h1]; rfl
      · rw [turn_cons, if_pos hc, turn_sub p z r r' _ h1]; rfl
    · rename_i hc
      obtain ⟨l', h1, rfl⟩ := Option.map_eq_some_iff.mp h
      have hn := turn_n h1
      simp only [sub, hn]
      split
      · rw [turn_cons, if_neg hc, turn_sub p z l l' _ h1]; rfl
      · rw [turn_cons, if_neg hc, h1]; rfl
/-- a script done -/
def runO : Tr → List Stp → Option Tr
  | t, [] => some t
  | t, s :: ss => (t.turn s).bind fun u => runO u ss
theorem runO_sub (p : Tr) (k : Nat) : ∀ (ss : List Stp) (t u : Tr), runO t ss = some u → runO (sub t k p) ss = some (sub u k p)
  | [], t, u, h => by cases h; rfl
  | s :: ss, t, u, h => by
    simp only [runO] at h ⊢
    obtain ⟨v, h1, h2⟩ := Option.bind_eq_some_iff.mp h
    rw [show s = (s.1, s.2) from rfl, turn_sub p s.2 t v k h1]
    exact runO_sub p k ss v u h2
theorem runO_app : ∀ (a b : List Stp) (t : Tr), runO t (a ++ b) = (runO t a).bind fun u => runO u b
  | [], b, t => rfl
  | s :: a, b, t => by
    simp only [List.cons_append, runO]
    cases t.turn s with
    | none => rfl
    | some u => exact runO_app a b u
theorem runO_n : ∀ {ss : List Stp} {t u : Tr}, runO t ss = some u → u.n = t.n
  | [], t, u, h => by cases h; rfl
  | s :: ss, t, u, h => by
    obtain ⟨v, h1, h2⟩ := Option.bind_eq_some_iff.mp h
    rw [runO_n h2, turn_n h1]
/-- the leaf on a road: letters used, its number; none: a node stands at the road's end -/
def lfOn : Tr → List Nat → Option (Nat × Nat)
  | .lf, _ => some (0, 0)
  | .nd _ _, [] => none
  | .nd a b, c :: z => if c = 114 then (lfOn b z).map fun x => (x.1 + 1, x.2 + (a.n + 1)) else (lfOn a z).map fun x => (x.1 + 1, x.2)
/-- the least tree with a node at an address -/
def road : List Nat → Tr
  | [] => .nd .lf .lf
  | c :: z => if c = 114 then .nd .lf (road z) else .nd (road z) .lf
theorem road_n : ∀ z : List Nat, (road z).n = z.length + 1
  | [] => rfl
  | c :: z => by
    simp only [road]
    split <;> simp only [Tr.n, road_n z, List.length_cons] <;> omega
theorem road_at : ∀ z : List Nat, (road z).att z = some (.nd .lf .lf)
  | [] => rfl
  | c :: z => by
    simp only [road]
    split
    · rename_i h
      simp only [Tr.att, if_pos h, road_at z]
    · rename_i h
      simp only [Tr.att, if_neg h, road_at z]
theorem lfOn_none : ∀ (z : List Nat) (t : Tr), lfOn t z = none → ∃ a b, t.att z = some (.nd a b)
  | z, .lf, h => by cases z <;> cases h
  | [], .nd a b, h => ⟨a, b, rfl⟩
  | c :: z, .nd a b, h => by
    simp only [lfOn] at h
    simp only [Tr.att]
    split at h
    · rename_i hc
      rw [if_pos hc]
      exact lfOn_none z b (Option.map_eq_none_iff.mp h)
    · rename_i hc
      rw [if_neg hc]
      exact lfOn_none z a (Option.map_eq_none_iff.mp h)
theorem lfOn_some : ∀ (z : List Nat) (t : Tr) (u k : Nat), lfOn t z = some (u, k) → k ≤ t.n ∧ u ≤ z.length ∧ ∃ a b, (sub t k (road (z.drop u))).att z = some (.nd a b)
  | z, .lf, u, k, h => by
    have : (0, 0) = (u, k) := by cases z <;> exact Option.some.inj h
    cases this
    exact ⟨by simp, by simp, .lf, .lf, road_at z⟩
  | [], .nd a b, u, k, h => by cases h
  | c :: z, .nd a b, u, k, h => by
    simp only [lfOn] at h
    split at h
    · rename_i hc
      obtain ⟨⟨u', k'⟩, h1, h2⟩ := Option.map_eq_some_iff.mp h
      cases h2
      obtain ⟨g1, g2, g3⟩ := lfOn_some z b u' k' h1
      refine ⟨by simp only [Tr.n]; omega, by simp only [List.length_cons]; omega, ?_⟩
      have n1 : ¬ k' + (a.n + 1) < a.n + 1 := by omega
      have n2 : k' + (a.n + 1) - (a.n + 1) = k' := by omega
      simp only [sub, if_neg n1, n2, Tr.att, if_pos hc, List.drop_succ_cons]
      exact g3
    · rename_i hc
      obtain ⟨⟨u', k'⟩, h1, h2⟩ := Option.map_eq_some_iff.mp h
      cases h2
      obtain ⟨g1, g2, g3⟩ := lfOn_some z a u' k' h1
      refine ⟨by simp only [Tr.n]; omega, by simp only [List.length_cons]; omega, ?_⟩
      have n1 : k' < a.n + 1 := by omega
      simp only [sub, if_pos n1, Tr.att, if_neg hc, List.drop_succ_cons]
      exact g3
/-- where a node must stand for a step -/
def side : Bool → Nat
  | true => 108
  | false => 114
theorem turn_ok {b : Bool} : ∀ (z : List Nat) (t : Tr), (∃ x y, t.att (z ++ [side b]) = some (.nd x y)) → ∃ u, t.turn (b, z) = some u
  | [], t, ⟨x, y, h⟩ => by
    rw [turn_nil]
    cases t with
    | lf => cases h
    | nd l r =>
      cases b with
      | true =>
        simp only [List.nil_append, side, Tr.att] at h
        rw [if_neg (by decide)] at h
        cases h; exact ⟨_, rfl⟩
      | false =>
        simp only [List.nil_append, side, Tr.att] at h
        rw [if_pos trivial] at h
        cases h; exact ⟨_, rfl⟩
  | c :: z, .lf, ⟨x, y, h⟩ => by cases h
  | c :: z, .nd l r, ⟨x, y, h⟩ => by
    simp only [List.cons_append, Tr.att] at h
    rw [turn_cons]
    split at h
    · rename_i hc
      obtain ⟨u, hu⟩ := turn_ok z r ⟨x, y, h⟩
      rw [if_pos hc, hu]; exact ⟨_, rfl⟩
    · rename_i hc
      obtain ⟨u, hu⟩ := turn_ok z l ⟨x, y, h⟩
      rw [if_neg hc, hu]; exact ⟨_, rfl⟩
/-- the pair, one step further -/
def lpS (x : Tr × Tr) (s : Stp) : Tr × Tr :=
  let y := match lfOn x.2 (s.2 ++ [side s.1]) with
    | none => x
    | some (u, k) => (sub x.1 k (road ((s.2 ++ [side s.1]).drop u)), sub x.2 k (road ((s.2 ++ [side s.1]).drop u)))
  (y.1, (y.2.turn s).getD .lf)
def lpair (ss : List Stp) : Tr × Tr := ss.foldl lpS (.lf, .lf)
theorem lpS_ok {x : Tr × Tr} {done : List Stp} (h : runO x.1 done = some x.2) (s : Stp) :
    ∃ y : Tr × Tr, (match lfOn x.2 (s.2 ++ [side s.1]) with
    | none => x
    | some (u, k) => (sub x.1 k (road ((s.2 ++ [side s.1]).drop u)), sub x.2 k (road ((s.2 ++ [side s.1]).drop u)))) = y ∧ runO y.1 done = some y.2 ∧ ∃ v, y.2.turn s = some v ∧ lpS x s = (y.1, v) := by
  refine ⟨_, rfl, ?_⟩
  unfold lpS
  cases hl : lfOn x.2 (s.2 ++ [side s.1]) with
  | none =>
    obtain ⟨v, hv⟩ := turn_ok (b := s.1) s.2 x.2 (lfOn_none _ _ hl)
    have hv' : x.2.turn s = some v := hv
    exact ⟨h, v, hv', by simp only [hv', Option.getD_some]⟩
  | some w =>
    obtain ⟨u, k⟩ := w
    obtain ⟨_, _, h3⟩ := lfOn_some _ _ _ _ hl
    obtain ⟨v, hv⟩ := turn_ok (b := s.1) s.2 _ h3
    have hv' : (sub x.2 k (road ((s.2 ++ [side s.1]).drop u))).turn s = some v := hv
    exact ⟨runO_sub _ _ _ _ _ h, v, hv', by simp only [hv', Option.getD_some]⟩
theorem lpS_run {x : Tr × Tr} {done : List Stp} (h : runO x.1 done = some x.2) (s : Stp) : runO (lpS x s).1 (done ++ [s]) = some (lpS x s).2 := by
  obtain ⟨y, _, h2, v, h3, h4⟩ := lpS_ok h s
  rw [h4, runO_app, h2]
  simp only [Option.bind_some, runO, h3]
theorem lp_run : ∀ (ss done : List Stp) (x : Tr × Tr), runO x.1 done = some x.2 → runO (ss.foldl lpS x).1 (done ++ ss) = some (ss.foldl lpS x).2
  | [], done, x, h => by simpa using h
  | s :: ss, done, x, h => by
    have := lp_run ss (done ++ [s]) (lpS x s) (lpS_run h s)
    simpa using this
/-- a script can be done on its least tree, and gives the other of the pair -/
theorem lpair_run (ss : List Stp) : runO (lpair ss).1 ss = some (lpair ss).2 := by
  exact lp_run ss [] (.lf, .lf) rfl
theorem lpS_n {x : Tr × Tr} {done : List Stp} (h : runO x.1 done = some x.2) (s : Stp) : (lpS x s).1.n ≤ x.1.n + (s.2.length + 2) := by
  unfold lpS
  cases hl : lfOn x.2 (s.2 ++ [side s.1]) with
  | none => simp only []; omega
  | some w =>
    obtain ⟨u, k⟩ := w
    simp only [sub_n, road_n, List.length_drop, List.length_append, List.length_cons, List.length_nil]
    omega
theorem lp_n : ∀ (ss done : List Stp) (x : Tr × Tr) (m : Nat), runO x.1 done = some x.2 → (∀ s ∈ ss, s.2.length ≤ m) → (ss.foldl lpS x).1.n ≤ x.1.n + ss.length * (m + 2)
  | [], done, x, m, h, hm => by simp
  | s :: ss, done, x, m, h, hm => by
    have h1 := lp_n ss (done ++ [s]) (lpS x s) m (lpS_run h s) fun y hy => hm y (List.mem_cons_of_mem _ hy)
    have h2 := lpS_n h s
    have h3 := hm s List.mem_cons_self
    simp only [List.foldl_cons, List.length_cons, Nat.add_mul, Nat.one_mul]
    omega
end Pf

namespace Pf
open PySem PySem.Spec PyProof.Rows L2 M
local macro_rules | `(tactic| walk_at "go") => `(tactic| try simp only [↓q_par, ↓q_par3, tSeq, tIfS, tIf, tNot, mTest, tCB, tCons, tNil, mVar, M.gt, mC, Bool.not_true, Bool.not_false, Bool.false_eq_true, if_false, if_true, tNext, tAsg, gName, gSub, List.set_cons_zero, List.set_cons_succ, mFor, mIter, mRevS, S_cps, S_len, S_app, tOp, tSl, mPart, mUn, tNoPart, tRet, tRetN, tTup, tLst, tAnd, tOr, mAndV, mOrV, mNotV, tCall, tCallSD, tDrop, mPar, mPar3, mLstM, mStrM, mBits, mRng1, mRng2, mgTup, mgSeq, mgCons, mgNil, q_add1, q_add2, q_add3, q_add4, q_iadd1, q_iadd2, q_iadd3, q_sorted, q_sub, q_mul1, q_mul2, q_mul3, q_mod, q_div, q_pow, q_eq1, q_eq2, q_eq3, q_eq4, q_eq5, q_eq6, q_eq7, q_eq8, q_eq9, q_eq10, q_ne1, q_ne2, q_ne3, q_ne9, q_ne10, q_lt, q_le, q_gt, q_ge, q_inc1, q_ix1, q_ix2, q_sl1, q_sl2, q_set, q_len1, q_len2, q_int1, q_int2, q_max, q_min, q_abs, q_sum, q_list, q_isi1, q_is1, q_not1, q_isN1, q_isN2, q_isN3, q_isN4, q_join, q_count, q_split, q_app, q_pop, q_clear, q_isiE, q_repr, q_nin1, q_intab, q_ninta, q_ixtab, wipe, List.map_cons, List.map_nil, List.length_cons, List.length_nil, List.length_append, List.length_map, List.nil_append, List.cons_append, List.append_nil, cut_m3, cut_t3, cut_m1, cut_t1, cut_t2, S_eq, decide_eq_true_eq, Bool.not_eq_true', decide_eq_false_iff_not, ne_eq])
local macro_rules | `(tactic| walk_at "hh") => `(tactic| first | assumption | exact upd_same | exact Ex.new (by assumption) _ _ (by walk_at "hh") | exact Ex.at (by assumption) (by assumption) | solve_by_elim [Ex.at])
local macro_rules | `(tactic| walk_at "ee") => `(tactic| first | assumption | exact Ex.refl _ | exact Ex.push (by walk_at "ee") (by assumption) | exact Ex.trans (by assumption) (by assumption) | solve_by_elim [Ex.trans])
local macro_rules | `(tactic| walk_at "sz") => `(tactic| first | (rw [szl]; omega) | (simp only [szl, tx_len, sg_len, List.length_map, List.length_append, List.length_cons, List.length_nil, List.length_singleton, List.length_take, List.length_drop, List.length_reverse, S_len]; omega))
section
variable (K : PySem.W.Frag)
def sp_road_tree : Sp := fun vs H Q _ => ∃ z : List Nat, vs = [.str (S z)] ∧ z.length ≤ 100000 ∧ (∀ c ∈ z, c = 108 ∨ c = 114) ∧ Q (.str (S (road z).s)) H
theorem pu_road_tree (vs : List V) (H : Hp) (Q : VK) (E : XK) (h : sp_road_tree vs H Q E) : rd_road_tree K { nx := fun _ H' => Q .non H', rt := Q } (L2.start N_road_tree vs) H := by
  obtain ⟨z, rfl, hz, had, k⟩ := h
  show rd_road_tree K _ [some _, none, none] H
  unfold rd_road_tree
  walk_at "go"
  refine ⟨by rw [szl]; omega, ?_⟩
  refine (?lp : ∀ (r w : List Nat) (x2 : Option V), r.reverse ++ w = z → fV _ _ _ _ (List.map (fun c => V.str (S [c])) r) [some (V.str (S z)), some (.str (S (road w).s)), x2] H) z.reverse [] none (by simp)
  intro r
  induction r with
  | nil =>
    intro w x2 hw
    simp only [List.reverse_nil, List.nil_append] at hw
    subst hw
    simp only [List.map_nil, fV]
    refine ⟨trivial, ?_⟩
    walk_at "go"
    exact k
  | cons c r ih =>
    intro w x2 hw
    have hs := (road w).s_len
    have hn := road_n w
    have hl : r.length + 1 + w.length = z.length := by rw [← hw]; simp; omega
    have hc := had c (by rw [← hw]; simp)
    have ih' := ih (c :: w)
    simp only [List.map_cons, fV]
    refine ⟨trivial, ?_⟩
    walk_at "go"
    rcases hc with rfl | rfl
    · have e : (road (108 :: w)).s = 40 :: ((road w).s ++ [46, 41]) := by simp [road, Tr.s]
      rw [e] at ih'
      walk_at "go"
      have := ih' (some (.str (S [108]))) (by rw [← hw]; simp)
      exact ⟨by rw [szl]; omega, by rw [szl]; omega, by simpa using this⟩
    · have e : (road (114 :: w)).s = 40 :: 46 :: ((road w).s ++ [41]) := by simp [road, Tr.s]
      rw [e] at ih'
      walk_at "go"
      have := ih' (some (.str (S [114]))) (by rw [← hw]; simp)
      exact ⟨by rw [szl]; omega, by rw [szl]; omega, by simpa using this⟩
def lfV (H : Hp) (Q : VK) : Option (Nat × Nat) → Prop
  | none => ∀ H', Ex H H' → Q .non H'
  | some (u, k) => ∀ H' p, Ex H H' → H' p = some (.tup [.int u, .int k]) → Q (.ref p) H'
def sp_leaf_on : Sp := fun vs H Q _ => ∃ (t : Tr) (z : List Nat), vs = [.str (S t.s), .str (S z)] ∧ t.n ≤ 100000 ∧ z.length ≤ 100000 ∧ lfV H Q (lfOn t z)
theorem pu_leaf_on (vs : List V) (H : Hp) (Q : VK) (E : XK) (h : sp_leaf_on vs H Q E) : rd_leaf_on K sp_end_of { nx := fun _ H' => Q .non H', rt := Q } (L2.start N_leaf_on vs) H := by
  obtain ⟨t, z, rfl, hn, hz, k⟩ := h
  show rd_leaf_on K _ _ [some _, some _, none, none, none] H
  unfold rd_leaf_on mEnumS
  walk_at "go"
  have hs := t.s_len
  refine (?lp : ∀ (r : List Nat) (i : Nat) (u : Tr) (pre post : List Nat) (x3 x4 : Option V) (H2 : Hp), Ex H H2 → t.s = pre ++ (u.s ++ post) → i + r.length = z.length → lfOn t z = (lfOn u r).map (fun x => (x.1 + i, x.2 + pre.count 46)) → fP _ _ _ _ (numd i (r.map fun c => V.str (S [c]))) [some (V.str (S t.s)), some (V.str (S z)), some (.int (pre.length : Nat)), x3, x4] H2) z 0 t [] [] none none H (Ex.refl H) (by simp) (by simp) (by simp)
  intro r
  induction r with
  | nil =>
    intro i u pre post x3 x4 H2 e2 h1 hi h2
    simp only [List.map_nil, numd, fP]
    refine ⟨trivial, ?_⟩
    have hu := u.s_len
    have hl : pre.length + (u.s.length + post.length) = t.s.length := by rw [h1]; simp
    walk_at "go"
    cases u with
    | lf =>
      refine ⟨by rw [szl]; omega, 46, by rw [aI_nat, h1]; simp [Tr.s], ?_⟩
      walk_at "go"
      have k' : lfV H Q (some (z.length, pre.count 46)) := by
        rw [h2] at k
        simpa [lfOn, ← hi] using k
      refine ⟨by rw [szl]; omega, by rw [szl]; omega, by walk_at "sz", fun p hp => ?_⟩
      rw [cut_to, show t.s.take pre.length = pre by rw [h1]; simp, count_S (by decide)]
      exact k' _ p (e2.push hp) upd_same
    | nd a b =>
      refine ⟨by rw [szl]; omega, 40, by rw [aI_nat, h1]; simp [Tr.s], ?_⟩
      walk_at "go"
      rw [if_neg (by decide)]
      have k' : lfV H Q none := by
        rw [h2] at k
        simpa [lfOn] using k
      exact k' H2 e2
  | cons c r ih =>
    intro i u pre post x3 x4 H2 e2 h1 hi h2
    simp only [List.map_cons, numd, fP]
    refine ⟨trivial, fun T hT => ?_⟩
    have eT := Ex.new (o := .tup [.int (i : Int), .str (S [c])]) hT
    refine ⟨_, SqT.of upd_same, rfl, ?_⟩
    have hu := u.s_len
    have hl : pre.length + (u.s.length + post.length) = t.s.length := by rw [h1]; simp
    simp only [List.length_cons] at hi
    walk_at "go"
    cases u with
    | lf =>
      refine ⟨by rw [szl]; omega, 46, by rw [aI_nat, h1]; simp [Tr.s], ?_⟩
      rw [if_pos rfl]
      have k' : lfV H Q (some (i, pre.count 46)) := by
        rw [h2] at k
        simpa [lfOn] using k
      refine ⟨by rw [szl]; omega, by walk_at "sz", fun p hp => ?_⟩
      rw [cut_to, show t.s.take pre.length = pre by rw [h1]; simp, count_S (by decide)]
      exact k' _ p ((e2.trans eT).push hp) upd_same
    | nd a b =>
      refine ⟨by rw [szl]; omega, 40, by rw [aI_nat, h1]; simp [Tr.s], ?_⟩
      rw [if_neg (by decide)]
      unfold mAug
      walk_at "go"
      by_cases cc : c = 114
      · subst cc
        walk_at "go"
        have h1' : t.s = (pre ++ 40 :: a.s) ++ (b.s ++ (41 :: post)) := by rw [h1]; simp [Tr.s]
        refine ⟨t.s, pre.length + 1, a, b.s ++ (41 :: post), rfl, by rw [h1]; simp [Tr.s, ← List.drop_drop], by omega, ?_⟩
        have := ih (i + 1) b (pre ++ 40 :: a.s) (41 :: post) (some (.int i)) (some (.str (S [114]))) _ (e2.trans eT) h1' (by omega) (by
          rw [h2]
          simp only [lfOn, if_pos, Option.map_map]
          congr 1
          funext x
          simp [Tr.cnt_lf]
          omega)
        walk_at "go"
        have e : ((pre.length + 1 + a.s.length : Nat) : Int) = (((pre ++ 40 :: a.s).length : Nat) : Int) := by simp; omega
        rw [e]
        exact this
      · rw [if_neg (by simpa using cc)]
        have h1' : t.s = (pre ++ [40]) ++ (a.s ++ (b.s ++ 41 :: post)) := by rw [h1]; simp [Tr.s]
        have := ih (i + 1) a (pre ++ [40]) (b.s ++ 41 :: post) (some (.int i)) (some (.str (S [c]))) _ (e2.trans eT) h1' (by omega) (by
          rw [h2]
          simp only [lfOn, if_neg cc, Option.map_map]
          congr 1
          funext x
          simp
          omega)
        simpa using this
end
end Pf

namespace Pf
open PySem PySem.Spec PyProof.Rows L2 M
local macro_rules | `(tactic| walk_at "go") => `(tactic| try simp only [↓q_par, ↓q_par3, tSeq, tIfS, tIf, tNot, mTest, tCB, tCons, tNil, mVar, M.gt, mC, Bool.not_true, Bool.not_false, Bool.false_eq_true, if_false, if_true, tNext, tAsg, gName, gSub, List.set_cons_zero, List.set_cons_succ, mFor, mIter, mRevS, S_cps, S_len, S_app, tOp, tSl, mPart, mUn, tNoPart, tRet, tRetN, tTup, tLst, tAnd, tOr, mAndV, mOrV, mNotV, tCall, tCallSD, tDrop, mPar, mPar3, mLstM, mStrM, mBits, mRng1, mRng2, mgTup, mgSeq, mgCons, mgNil, q_add1, q_add2, q_add3, q_add4, q_iadd1, q_iadd2, q_iadd3, q_sorted, q_sub, q_mul1, q_mul2, q_mul3, q_mod, q_div, q_pow, q_eq1, q_eq2, q_eq3, q_eq4, q_eq5, q_eq6, q_eq7, q_eq8, q_eq9, q_eq10, q_ne1, q_ne2, q_ne3, q_ne9, q_ne10, q_lt, q_le, q_gt, q_ge, q_inc1, q_ix1, q_ix2, q_sl1, q_sl2, q_set, q_len1, q_len2, q_int1, q_int2, q_max, q_min, q_abs, q_sum, q_list, q_isi1, q_is1, q_not1, q_isN1, q_isN2, q_isN3, q_isN4, q_join, q_count, q_split, q_app, q_pop, q_clear, q_isiE, q_repr, q_nin1, q_intab, q_ninta, q_ixtab, wipe, List.map_cons, List.map_nil, List.length_cons, List.length_nil, List.length_append, List.length_map, List.nil_append, List.cons_append, List.append_nil, cut_m3, cut_t3, cut_m1, cut_t1, cut_t2, S_eq, decide_eq_true_eq, Bool.not_eq_true', decide_eq_false_iff_not, ne_eq])
/-- texts joined by dots -/
def jd : List (List Nat) → List Nat
  | [] => []
  | [x] => x
  | x :: y :: r => x ++ 46 :: jd (y :: r)
theorem join_jd : ∀ l : List (List Nat), Txt.join (S [46]) (l.map S) = S (jd l) := by
  intro l
  show PySem.Builtin.Str.glued (S [46]) (l.map S) = _
  rw [StrLaws.glued_eq_join]
  induction l with
  | nil => rfl
  | cons z l ih =>
    cases l with
    | nil => rfl
    | cons y r =>
      show S z ++ S [46] ++ Str.join (S [46]) ((y :: r).map S) = _
      rw [ih, S_app, S_app]
      show _ = S (z ++ 46 :: jd (y :: r))
      simp
theorem jd_spl : ∀ (z acc : List Nat), jd (TL.spl [46] 0 acc z) = acc ++ z
  | [], acc => by rw [TL.spl_nil]; simp [jd]
  | d :: r, acc => by
    rw [spl_one]
    by_cases e : d = 46
    · rw [if_pos e]
      have h1 := jd_spl r []
      have h2 := spl_count 46 r []
      generalize TL.spl [46] 0 [] r = P at *
      cases P with
      | nil => simp at h2
      | cons y P => simp only [jd, h1, e]; simp
    · rw [if_neg e, jd_spl r (acc ++ [d])]; simp
theorem spl_mid : ∀ (pre post acc : List Nat), TL.spl [46] 0 acc (pre ++ 46 :: post) = TL.spl [46] 0 acc pre ++ TL.spl [46] 0 [] post
  | [], post, acc => by rw [List.nil_append, spl_one, if_pos rfl, TL.spl_nil]; rfl
  | d :: r, post, acc => by
    rw [List.cons_append, spl_one, spl_one]
    by_cases e : d = 46
    · rw [if_pos e, if_pos e, spl_mid r post []]; rfl
    · rw [if_neg e, if_neg e, spl_mid r post (acc ++ [d])]
theorem spl_sum : ∀ (z acc : List Nat), ((TL.spl [46] 0 acc z).map List.length).sum ≤ acc.length + z.length
  | [], acc => by rw [TL.spl_nil]; simp
  | d :: r, acc => by
    rw [spl_one]
    by_cases e : d = 46
    · have := spl_sum r []
      rw [if_pos e]
      simp only [List.map_cons, List.sum_cons, List.length_cons, List.length_nil] at *; omega
    · have := spl_sum r (acc ++ [d])
      rw [if_neg e]
      simp only [List.length_append, List.length_cons, List.length_nil] at *; omega
theorem len_S (l : List (List Nat)) : ((l.map S).map (·.length)).sum = (l.map List.length).sum := by
  rw [List.map_map]
  rfl
section
variable (K : PySem.W.Frag)
def sp_sprouted : Sp := fun vs H Q _ => ∃ (t p : Tr) (k : Nat), vs = [.str (S t.s), .int k, .str (S p.s)] ∧ k ≤ t.n ∧ t.n ≤ 100000 ∧ p.n ≤ 100000 ∧ ∀ H', Ex H H' → Q (.str (S (sub t k p).s)) H'
theorem pu_sprouted (vs : List V) (H : Hp) (Q : VK) (E : XK) (h : sp_sprouted vs H Q E) : rd_sprouted K { nx := fun _ H' => Q .non H', rt := Q } (L2.start N_sprouted vs) H := by
  obtain ⟨t, p, k, rfl, hk, hn, hp, q⟩ := h
  show rd_sprouted K _ [some _, some _, some _, none] H
  unfold rd_sprouted
  walk_at "go"
  obtain ⟨pre, post, e1, e2, e3⟩ := sub_s t k hk
  have hs := t.s_len
  have hps := p.s_len
  have hl : pre.length + (post.length + 1) = t.s.length := by rw [e1]; simp
  refine ⟨rfl, by rw [szl]; omega, fun r hr => ?_⟩
  rw [splitS (by decide), e1, spl_mid]
  have l1 : (TL.spl [46] 0 [] pre).length = k + 1 := by rw [spl_count, e2]
  have l2 := spl_count 46 post []
  have c2 := List.count_le_length (a := 46) (l := post)
  have s1 := spl_sum pre []
  have s2 := spl_sum post []
  have j1 := jd_spl pre []
  have j2 := jd_spl post []
  have kl := List.count_le_length (a := 46) (l := pre)
  rw [e2] at kl
  generalize TL.spl [46] 0 [] pre = A at *
  generalize TL.spl [46] 0 [] post = B at *
  have hH : upd H r (.lst (((A ++ B).map S).map V.str)) r = some (.lst (((A ++ B).map S).map V.str)) := upd_same
  have er := Ex.new (o := .lst (((A ++ B).map S).map V.str)) hr
  revert hH er
  generalize upd H r _ = H1
  intro hH er
  walk_at "go"
  have ik : ((k : Int) + 1) = ((k + 1 : Nat) : Int) := by omega
  have cL : cutL (((A ++ B).map S).map V.str) none (some ((k : Int) + 1)) = (A.map S).map V.str := by
    rw [ik, cut_to, List.map_append, List.map_append, List.take_left' (by simp [l1])]
  have cD : cutL (((A ++ B).map S).map V.str) (some ((k : Int) + 1)) none = (B.map S).map V.str := by
    rw [ik, cut_from, List.map_append, List.map_append, List.drop_left' (by simp [l1])]
  simp only [List.length_nil, Nat.zero_add] at s1 s2
  simp only [List.nil_append] at j1 j2
  refine ⟨_, SqL.of hH, fun a1 n1 => ?_⟩
  rw [cL]
  have i1 := (Ex.new (o := .lst ((A.map S).map V.str)) n1) _ _ hH
  have e1' := er.push (o := .lst ((A.map S).map V.str)) n1
  refine ⟨A.map S, .inl (SqL.of upd_same), by rw [len_S, List.length_map]; omega, ?_⟩
  rw [join_jd, j1]
  refine ⟨by rw [S_len, szl]; omega, _, SqL.of i1, fun a2 n2 => ?_⟩
  rw [cD]
  refine ⟨B.map S, .inl (SqL.of upd_same), by rw [len_S, List.length_map]; omega, ?_⟩
  rw [join_jd, j2]
  refine ⟨by simp only [S_app, S_len, szl, List.length_append]; omega, ?_⟩
  rw [S_app, S_app, show pre ++ p.s ++ post = (sub t k p).s by rw [e3]; simp]
  exact q _ (e1'.push n2)
end
end Pf

namespace Pf
open PySem PySem.Spec PyProof.Rows L2 M
local macro_rules | `(tactic| walk_at "go") => `(tactic| try simp only [↓q_par, ↓q_par3, tSeq, tIfS, tIf, tNot, mTest, tCB, tCons, tNil, mVar, M.gt, mC, Bool.not_true, Bool.not_false, Bool.false_eq_true, if_false, if_true, tNext, tAsg, gName, gSub, List.set_cons_zero, List.set_cons_succ, mFor, mIter, mRevS, S_cps, S_len, S_app, tOp, tSl, mPart, mUn, tNoPart, tRet, tRetN, tTup, tLst, tAnd, tOr, mAndV, mOrV, mNotV, tCall, tCallSD, tDrop, mPar, mPar3, mLstM, mStrM, mBits, mRng1, mRng2, mgTup, mgSeq, mgCons, mgNil, q_add1, q_add2, q_add3, q_add4, q_iadd1, q_iadd2, q_iadd3, q_sorted, q_sub, q_mul1, q_mul2, q_mul3, q_mod, q_div, q_pow, q_eq1, q_eq2, q_eq3, q_eq4, q_eq5, q_eq6, q_eq7, q_eq8, q_eq9, q_eq10, q_ne1, q_ne2, q_ne3, q_ne9, q_ne10, q_lt, q_le, q_gt, q_ge, q_inc1, q_ix1, q_ix2, q_sl1, q_sl2, q_set, q_len1, q_len2, q_int1, q_int2, q_max, q_min, q_abs, q_sum, q_list, q_isi1, q_is1, q_not1, q_isN1, q_isN2, q_isN3, q_isN4, q_join, q_count, q_split, q_app, q_pop, q_clear, q_isiE, q_repr, q_nin1, q_intab, q_ninta, q_ixtab, wipe, List.map_cons, List.map_nil, List.length_cons, List.length_nil, List.length_append, List.length_map, List.nil_append, List.cons_append, List.append_nil, cut_m3, cut_t3, cut_m1, cut_t1, cut_t2, S_eq, decide_eq_true_eq, Bool.not_eq_true', decide_eq_false_iff_not, ne_eq])
local macro_rules | `(tactic| walk_at "hh") => `(tactic| first | assumption | exact upd_same | exact Ex.new (by assumption) _ _ (by walk_at "hh") | exact Ex.at (by assumption) (by assumption) | solve_by_elim [Ex.at])
local macro_rules | `(tactic| walk_at "ee") => `(tactic| first | assumption | exact Ex.refl _ | exact Ex.push (by walk_at "ee") (by assumption) | exact Ex.trans (by assumption) (by assumption) | solve_by_elim [Ex.trans])
local macro_rules | `(tactic| walk_at "sz") => `(tactic| first | (rw [szl]; omega) | (simp only [szl, tx_len, sg_len, List.length_map, List.length_append, List.length_cons, List.length_nil, List.length_singleton, List.length_take, List.length_drop, List.length_reverse, S_len]; omega))
theorem side_at (s : Stp) : atK rows_SIDES (S s.w) = some [side s.1] := by
  obtain ⟨b, z⟩ := s
  cases b <;> simp [atK, Stp.w, S_eq, side]
section
variable (K : PySem.W.Frag) (aD : Addr)
def sp_least_pair : Sp := fun vs H Q _ => ∃ (v : V) (ss : List Stp) (m : Nat), vs = [v] ∧ Dq K H [] v (.list (ss.map Stp.d)) ∧ adS ss ∧ (∀ s ∈ ss, s.2.length ≤ m) ∧ ss.length * (m + 2) ≤ 40000 ∧
  ∀ H' p, Ex H H' → H p = none → H' p = some (.tup [.str (S (lpair ss).1.s), .str (S (lpair ss).2.s)]) → Q (.ref p) H'
theorem pu_least_pair (vs : List V) (H : Hp) (Q : VK) (E : XK) (h : sp_least_pair K vs H Q E) : rd_least_pair K sp_leaf_on sp_road_tree sp_sprouted sp_turned_once aD { nx := fun _ H' => Q .non H', rt := Q } (L2.start N_least_pair vs) H := by
  obtain ⟨v, ss, m, rfl, dq, ad, hm, hl, k⟩ := h
  show rd_least_pair K _ _ _ _ _ _ [some _, none, none, none, none, none, none] H
  unfold rd_least_pair
  walk_at "go"
  obtain ⟨a, xs, rfl, ha, -, hx⟩ := dq.listI
  refine ⟨by walk_at "sz", fun T hT => ⟨_, SqT.of upd_same, rfl, ?_⟩⟩
  have eT := Ex.new (o := .tup [.str (S [46]), .str (S [46])]) hT
  walk_at "go"
  refine ⟨_, .inl ⟨SqL.of (eT _ _ ha), ?_⟩⟩
  refine (?lp : ∀ (ts done : List Stp) (us : List V) (x : Tr × Tr) (x3 x4 x5 x6 : Option V) (H2 : Hp), Ex H H2 → DqA K H2 [] us (ts.map Stp.d) → adS ts → (∀ s ∈ ts, s.2.length ≤ m) → runO x.1 done = some x.2 → x.1.n + ts.length * (m + 2) ≤ 40000 → ts.foldl lpS x = lpair ss → fV _ _ _ _ us [some (.ref a), some (.str (S x.1.s)), some (.str (S x.2.s)), x3, x4, x5, x6] H2) ss [] xs (.lf, .lf) none none none none _ eT (hx.ex eT) ad hm rfl (by simpa [Tr.n] using hl) rfl
  intro ts
  induction ts with
  | nil =>
    intro done us x x3 x4 x5 x6 H2 e2 hu ad hm hr hn hf
    cases hu
    simp only [fV]
    refine ⟨e2.L (SqL.of ha), ?_⟩
    walk_at "go"
    simp only [List.foldl_nil] at hf
    refine ⟨by walk_at "sz", fun p hp => ?_⟩
    exact k _ p (e2.push hp) (e2.free hp) (by rw [upd_same, hf])
  | cons s ts ih =>
    intro done us x x3 x4 x5 x6 H2 e2 hu ad hm hr hn hf
    obtain ⟨p, us, rfl, hp, -, hu⟩ := hu.stp
    have hms := hm s List.mem_cons_self
    simp only [List.length_cons, Nat.add_mul, Nat.one_mul] at hn
    have hn2 := runO_n hr
    obtain ⟨y, hy, hry, w, hw, hls⟩ := lpS_ok hr s
    have nx1 := lpS_n hr s
    rw [hls] at nx1
    have ih' := ih (done ++ [s]) us (lpS x s)
    rw [hls] at ih'
    simp only [List.foldl_cons, hls] at hf
    have hry2 := lpS_run hr s
    rw [hls] at hry2
    simp only [fV]
    refine ⟨e2.L (SqL.of ha), ?_⟩
    walk_at "go"
    refine ⟨_, _, .inr (SqT.of hp), aI_1 _ _ _, _, _, .inr (SqT.of hp), aI_0 _ _, rfl, _, side_at s, by first | (rw [szl]; omega) | (rw [szl, S_len]; simp; omega) | (rw [szl]; simp [S_len]; omega), ?_⟩
    rw [S_app]
    refine ⟨x.2, s.2 ++ [side s.1], rfl, by omega, by simp; omega, ?_⟩
    cases hlf : lfOn x.2 (s.2 ++ [side s.1]) with
    | none =>
      rw [hlf] at hy
      dsimp only at hy
      subst hy
      intro H3 e3
      walk_at "go"
      refine ⟨x.2, s, p, rfl, by omega, e3 _ _ hp, by omega, fun H4 e4 => ?_⟩
      rw [hw]
      walk_at "go"
      exact ih' _ _ _ _ H4 (e2.trans (e3.trans e4)) (hu.ex (e3.trans e4)) (fun y hy => ad y (List.mem_cons_of_mem _ hy)) (fun y hy => hm y (List.mem_cons_of_mem _ hy)) hry2 (by dsimp only at *; omega) hf
    | some q =>
      obtain ⟨u, kk⟩ := q
      rw [hlf] at hy
      dsimp only at hy
      subst hy
      intro H3 q e3 hq
      dsimp only at hry hw hls nx1 ih' hf hry2
      obtain ⟨hk1, hu1, -⟩ := lfOn_some _ _ _ _ hlf
      have rn := road_n (List.drop u (s.2 ++ [side s.1]))
      have dl : (List.drop u (s.2 ++ [side s.1])).length ≤ m + 1 := by
        rw [List.length_drop, List.length_append]; simp only [List.length_cons, List.length_nil]; omega
      have sn := sub_n x.2 kk (road (List.drop u (s.2 ++ [side s.1])))
      have had : ∀ c ∈ List.drop u (s.2 ++ [side s.1]), c = 108 ∨ c = 114 := fun c hc => by
        have h1 := List.mem_of_mem_drop hc
        rcases List.mem_append.mp h1 with h1 | h1
        · exact of_decide_eq_true (ad s List.mem_cons_self) c h1
        · rw [List.mem_singleton.mp h1]
          cases s.1 <;> simp [side]
      walk_at "go"
      refine ⟨_, _, .inr (SqT.of hq), aI_0 _ _, ?_⟩
      dsimp only
      refine ⟨by rw [szl]; omega, ?_⟩
      rw [cut_from]
      refine ⟨_, rfl, by omega, had, _, _, .inr (SqT.of hq), aI_1 _ _ _, x.1, _, kk, rfl, by omega, by omega, by omega, fun H4 e4 => ⟨_, _, .inr (SqT.of (e4 _ _ hq)), aI_1 _ _ _, x.2, _, kk, rfl, by omega, by omega, by omega, fun H5 e5 => ⟨_, s, p, rfl, by omega, e5 _ _ (e4 _ _ (e3 _ _ hp)), by omega, fun H6 e6 => ?_⟩⟩⟩
      rw [hw]
      have e26 := e3.trans (e4.trans (e5.trans e6))
      exact ih' _ _ _ _ H6 (e2.trans e26) (hu.ex e26) (fun y hy => ad y (List.mem_cons_of_mem _ hy)) (fun y hy => hm y (List.mem_cons_of_mem _ hy)) hry2 (by omega) hf
def sp_pair_of (aS : Addr) : Sp := fun vs H Q E => ∃ (v : V) (ss : List Stp) (m : Nat), vs = [v] ∧ Dq K H [] v (.list (ss.map Stp.d)) ∧ adS ss ∧ (∀ s ∈ ss, s.2.length ≤ m) ∧ ss.length * (m + 2) ≤ 40000 ∧
  ∀ H' p, Ex H H' → H p = none → H' p = some (.tup [.str (S (lpair ss).1.s), .str (S (lpair ss).2.s)]) → Q (.ref p) H'
theorem pu_pair_of (aS : Addr) (vs : List V) (H : Hp) (Q : VK) (E : XK) (h : sp_pair_of K aS vs H Q E) : rd_pair_of K (sp_check_script K aS) (sp_least_pair K) { nx := fun _ H' => Q .non H', rt := Q } (L2.start N_pair_of vs) H := by
  obtain ⟨v, ss, m, rfl, dq, ad, hm, hl, k⟩ := h
  show rd_pair_of K _ _ _ [some _] H
  unfold rd_pair_of
  walk_at "go"
  have l1 : ss.length ≤ 40000 := Nat.le_trans (Nat.le_mul_of_pos_right _ (by omega)) hl
  have l2 : ∀ s ∈ ss, s.2.length ≤ 1000000 := fun s hs => by
    have h1 := hm s hs
    have h2 : 1 * (m + 2) ≤ ss.length * (m + 2) := Nat.mul_le_mul_right _ (List.length_pos_of_mem hs)
    omega
  exact ⟨v, rfl, AskS.good dq ad l2 (by omega) fun H1 e1 => ⟨v, ss, m, rfl, dq.ex e1, ad, hm, hl, fun H2 p e2 np hp => k H2 p (e1.trans e2) (e1.free np) hp⟩⟩
end
end Pf

namespace Pf
open PySem PySem.Spec PyProof.Rows L2 M
local macro_rules | `(tactic| walk_at "go") => `(tactic| try simp only [↓q_par, ↓q_par3, tSeq, tIfS, tIf, tNot, mTest, tCB, tCons, tNil, mVar, M.gt, mC, Bool.not_true, Bool.not_false, Bool.false_eq_true, if_false, if_true, tNext, tAsg, gName, gSub, List.set_cons_zero, List.set_cons_succ, mFor, mIter, mRevS, S_cps, S_len, S_app, tOp, tSl, mPart, mUn, tNoPart, tRet, tRetN, tTup, tLst, tAnd, tOr, mAndV, mOrV, mNotV, tCall, tCallSD, tDrop, mPar, mPar3, mLstM, mStrM, mBits, mRng1, mRng2, mgTup, mgSeq, mgCons, mgNil, q_add1, q_add2, q_add3, q_add4, q_iadd1, q_iadd2, q_iadd3, q_sorted, q_sub, q_mul1, q_mul2, q_mul3, q_mod, q_div, q_pow, q_eq1, q_eq2, q_eq3, q_eq4, q_eq5, q_eq6, q_eq7, q_eq8, q_eq9, q_eq10, q_ne1, q_ne2, q_ne3, q_ne9, q_ne10, q_lt, q_le, q_gt, q_ge, q_inc1, q_ix1, q_ix2, q_sl1, q_sl2, q_set, q_len1, q_len2, q_int1, q_int2, q_max, q_min, q_abs, q_sum, q_list, q_isi1, q_is1, q_not1, q_isN1, q_isN2, q_isN3, q_isN4, q_join, q_count, q_split, q_app, q_pop, q_clear, q_isiE, q_repr, q_nin1, q_intab, q_ninta, q_ixtab, wipe, List.map_cons, List.map_nil, List.length_cons, List.length_nil, List.length_append, List.length_map, List.nil_append, List.cons_append, List.append_nil, cut_m3, cut_t3, cut_m1, cut_t1, cut_t2, S_eq, decide_eq_true_eq, Bool.not_eq_true', decide_eq_false_iff_not, ne_eq])
/-- every leaf replaced: the i-th by f i -/
def fillF : Tr → (Nat → Tr) → Tr
  | .lf, f => f 0
  | .nd a b, f => .nd (fillF a f) (fillF b fun i => f (i + (a.n + 1)))
theorem rot_fill {b : Bool} {t u : Tr} (h : rot b t = some u) (f : Nat → Tr) : rot b (fillF t f) = some (fillF u f) := by
  unfold rot at h
  split at h
  · rename_i x y z
    cases h
    have e : (fun i => f (i + ((Tr.nd x y).n + 1))) = fun i => f (i + (y.n + 1) + (x.n + 1)) := by
      funext i
      congr 1
      simp only [Tr.n]; omega
    simp only [fillF, rot, e]
  · rename_i x y z
    cases h
    have e : (fun i => f (i + ((Tr.nd x y).n + 1))) = fun i => f (i + (y.n + 1) + (x.n + 1)) := by
      funext i
      congr 1
      simp only [Tr.n]; omega
    simp only [fillF, rot, e]
  · cases h
theorem turn_fill {b : Bool} : ∀ (z : List Nat) (t u : Tr) (f : Nat → Tr), t.turn (b, z) = some u → (fillF t f).turn (b, z) = some (fillF u f)
  | [], t, u, f, h => by rw [turn_nil] at h ⊢; exact rot_fill h f
  | c :: z, .lf, u, f, h => by rw [turn_lf] at h; cases h
  | c :: z, .nd l r, u, f, h => by
    rw [turn_cons] at h
    simp only [fillF]
    rw [turn_cons]
    split at h
    · rename_i hc
      obtain ⟨r', h1, rfl⟩ := Option.map_eq_some_iff.mp h
      rw [if_pos hc, turn_fill z r r' _ h1]; rfl
    · rename_i hc
      obtain ⟨l', h1, rfl⟩ := Option.map_eq_some_iff.mp h
      rw [if_neg hc, turn_fill z l l' f h1]
      simp only [Option.map_some, fillF, turn_n h1]
theorem runO_fill (f : Nat → Tr) : ∀ (ss : List Stp) (t u : Tr), runO t ss = some u → runO (fillF t f) ss = some (fillF u f)
  | [], t, u, h => by cases h; rfl
  | s :: ss, t, u, h => by
    simp only [runO] at h ⊢
    obtain ⟨v, h1, h2⟩ := Option.bind_eq_some_iff.mp h
    rw [show s = (s.1, s.2) from rfl, turn_fill s.2 t v f h1]
    exact runO_fill f ss v u h2
/-- a script is done on every tree that its least tree grows into -/
theorem lpair_fill (ss : List Stp) (f : Nat → Tr) : runO (fillF (lpair ss).1 f) ss = some (fillF (lpair ss).2 f) := runO_fill f ss _ _ (lpair_run ss)
/-- f, with the leaf k replaced by a tree of n nodes whose leaves g gives -/
def ins (f : Nat → Tr) (k n : Nat) (g : Nat → Tr) : Nat → Tr := fun i => if i < k then f i else if i < k + (n + 1) then g (i - k) else f (i - n)
theorem fill_congr : ∀ (t : Tr) (f g : Nat → Tr), (∀ i, i ≤ t.n → f i = g i) → fillF t f = fillF t g
  | .lf, f, g, h => h 0 (Nat.zero_le _)
  | .nd a b, f, g, h => by
    simp only [Tr.n] at h
    simp only [fillF]
    rw [fill_congr a f g fun i hi => h i (by omega), fill_congr b _ _ fun i hi => h (i + (a.n + 1)) (by omega)]
theorem fill_sub (R : Tr) (g : Nat → Tr) : ∀ (t : Tr) (k : Nat) (f : Nat → Tr), k ≤ t.n → f k = fillF R g → fillF t f = fillF (sub t k R) (ins f k R.n g)
  | .lf, k, f, hk, h => by
    have : k = 0 := by simpa [Tr.n] using hk
    subst this
    simp only [fillF, sub, h]
    refine fill_congr R _ _ fun i hi => ?_
    simp only [ins]
    rw [if_neg (by omega), if_pos (by omega)]; simp
  | .nd a b, k, f, hk, h => by
    simp only [Tr.n] at hk
    by_cases c : k < a.n + 1
    · simp only [fillF, sub, if_pos c]
      rw [fill_sub R g a k f (by omega) h]
      congr 1
      refine fill_congr b _ _ fun i hi => ?_
      simp only [ins, sub_n]
      rw [if_neg (by omega), if_neg (by omega)]
      congr 1; omega
    · simp only [fillF, sub, if_neg c]
      rw [fill_sub R g b (k - (a.n + 1)) (fun i => f (i + (a.n + 1))) (by omega) (by
        show f (k - (a.n + 1) + (a.n + 1)) = _
        rw [← h]; congr 1; omega)]
      congr 1
      · refine fill_congr a _ _ fun i hi => ?_
        simp only [ins]
        rw [if_pos (by omega)]
      · congr 1
        funext i
        simp only [ins]
        by_cases c1 : i < k - (a.n + 1)
        · rw [if_pos c1, if_pos (by omega)]
        · rw [if_neg c1]
          have n1 : ¬ i + (a.n + 1) < k := by omega
          by_cases c2 : i < k - (a.n + 1) + (R.n + 1)
          · have n2 : i + (a.n + 1) < k + (R.n + 1) := by omega
            rw [if_pos c2, if_neg n1, if_pos n2]; congr 1; omega
          · have n2 : ¬ i + (a.n + 1) < k + (R.n + 1) := by omega
            rw [if_neg c2, if_neg n1, if_neg n2]; congr 1; omega
theorem att_fill : ∀ (z : List Nat) (t : Tr) (u k : Nat) (f : Nat → Tr), lfOn t z = some (u, k) → (fillF t f).att z = (f k).att (z.drop u)
  | z, .lf, u, k, f, h => by
    have : (0, 0) = (u, k) := by cases z <;> exact Option.some.inj h
    cases this; rfl
  | [], .nd a b, u, k, f, h => by cases h
  | c :: z, .nd a b, u, k, f, h => by
    simp only [lfOn] at h
    simp only [fillF, Tr.att]
    split at h
    · rename_i hc
      obtain ⟨⟨u', k'⟩, h1, h2⟩ := Option.map_eq_some_iff.mp h
      cases h2
      rw [if_pos hc, att_fill z b u' k' _ h1]; rfl
    · rename_i hc
      obtain ⟨⟨u', k'⟩, h1, h2⟩ := Option.map_eq_some_iff.mp h
      cases h2
      rw [if_neg hc, att_fill z a u' k' _ h1]; rfl
theorem road_fill : ∀ (z : List Nat) (p a b : Tr), p.att z = some (.nd a b) → ∃ g, p = fillF (road z) g
  | [], p, a, b, h => by
    rw [Tr.att_nil] at h; cases h
    exact ⟨fun i => if i = 0 then a else b, rfl⟩
  | c :: z, .lf, a, b, h => by cases h
  | c :: z, .nd l r, a, b, h => by
    simp only [Tr.att] at h
    simp only [road]
    split at h
    · rename_i hc
      obtain ⟨g, hg⟩ := road_fill z r a b h
      rw [if_pos hc]
      refine ⟨fun i => if i = 0 then l else g (i - 1), ?_⟩
      simp only [fillF, Tr.n]
      rw [hg]
      simp
    · rename_i hc
      obtain ⟨g, hg⟩ := road_fill z l a b h
      rw [if_neg hc]
      refine ⟨fun i => if i ≤ (road z).n then g i else r, ?_⟩
      simp only [fillF]
      rw [if_neg (by omega), hg]
      congr 1
      exact fill_congr _ _ _ fun i hi => by rw [if_pos hi]
theorem turn_att {b : Bool} : ∀ (z : List Nat) (t v : Tr), t.turn (b, z) = some v → ∃ x y, t.att (z ++ [side b]) = some (.nd x y)
  | [], t, v, h => by
    rw [turn_nil] at h
    unfold rot at h
    split at h
    · exact ⟨_, _, rfl⟩
    · exact ⟨_, _, rfl⟩
    · cases h
  | c :: z, .lf, v, h => by rw [turn_lf] at h; cases h
  | c :: z, .nd l r, v, h => by
    rw [turn_cons] at h
    simp only [List.cons_append, Tr.att]
    split at h
    · rename_i hc
      obtain ⟨w, h1, _⟩ := Option.map_eq_some_iff.mp h
      rw [if_pos hc]; exact turn_att z r w h1
    · rename_i hc
      obtain ⟨w, h1, _⟩ := Option.map_eq_some_iff.mp h
      rw [if_neg hc]; exact turn_att z l w h1
theorem lp_only : ∀ (ss done : List Stp) (x : Tr × Tr) (f : Nat → Tr) (v : Tr), runO x.1 done = some x.2 → runO (fillF x.2 f) ss = some v → ∃ g, fillF x.1 f = fillF (ss.foldl lpS x).1 g ∧ v = fillF (ss.foldl lpS x).2 g
  | [], done, x, f, v, h, hv => ⟨f, rfl, (Option.some.inj hv).symm⟩
  | s :: ss, done, x, f, v, h, hv => by
    obtain ⟨y, hy, hry, w, hw, hls⟩ := lpS_ok h s
    have h2 := lpS_run h s
    simp only [runO] at hv
    obtain ⟨v1, hv1, hv2⟩ := Option.bind_eq_some_iff.mp hv
    have key : ∃ f', fillF x.1 f = fillF y.1 f' ∧ fillF x.2 f = fillF y.2 f' := by
      cases hl : lfOn x.2 (s.2 ++ [side s.1]) with
      | none =>
        rw [hl] at hy
        exact ⟨f, by rw [← hy], by rw [← hy]⟩
      | some q =>
        obtain ⟨u, k⟩ := q
        rw [hl] at hy
        dsimp only at hy
        obtain ⟨a, b, hab⟩ := turn_att (b := s.1) s.2 _ _ hv1
        rw [att_fill _ _ u k f hl] at hab
        obtain ⟨g, hg⟩ := road_fill _ _ _ _ hab
        obtain ⟨hk, -, -⟩ := lfOn_some _ _ _ _ hl
        have hk' : k ≤ x.1.n := by have := runO_n h; omega
        subst hy
        exact ⟨_, fill_sub _ g _ k f hk' hg, fill_sub _ g _ k f hk hg⟩
    obtain ⟨f', k1, k2⟩ := key
    have hw' := turn_fill (b := s.1) s.2 y.2 w f' hw
    rw [k2] at hv1
    have e : v1 = fillF w f' := Option.some.inj (hv1.symm.trans hw')
    subst e
    rw [hls] at h2
    obtain ⟨g, g1, g2⟩ := lp_only ss (done ++ [s]) (lpS x s) f' v (by rw [hls]; exact h2) (by rw [hls]; exact hv2)
    refine ⟨g, ?_, g2⟩
    rw [k1]
    rw [hls] at g1
    simpa [hls] using g1
/-- a tree on which a script is done has grown from its least tree -/
theorem lpair_only {ss : List Stp} {t v : Tr} (h : runO t ss = some v) : ∃ g, t = fillF (lpair ss).1 g ∧ v = fillF (lpair ss).2 g :=
  lp_only ss [] (.lf, .lf) (fun _ => t) v rfl h
theorem le_fill : ∀ (t : Tr) (f : Nat → Tr), Tr.le t (fillF t f) = true
  | .lf, f => rfl
  | .nd a b, f => by simp only [fillF, Tr.le, le_fill a, le_fill b, Bool.and_self]
theorem le_has : ∀ (t x : Tr), Tr.le t x = true → ∃ f, x = fillF t f
  | .lf, x, _ => ⟨fun _ => x, rfl⟩
  | .nd a b, .lf, h => by simp [Tr.le] at h
  | .nd a b, .nd c d, h => by
    simp only [Tr.le, Bool.and_eq_true] at h
    obtain ⟨f, hf⟩ := le_has a c h.1
    obtain ⟨g, hg⟩ := le_has b d h.2
    refine ⟨fun i => if i ≤ a.n then f i else g (i - (a.n + 1)), ?_⟩
    simp only [fillF]
    congr 1
    · rw [hf]; exact fill_congr a _ _ fun i hi => by rw [if_pos hi]
    · rw [hg]; exact fill_congr b _ _ fun i hi => by rw [if_neg (by omega)]; congr 1; omega
theorem hang_fill : ∀ (t : Tr) (f : Nat → Tr), Tr.hang t (fillF t f) = (List.range (t.n + 1)).map f
  | .lf, f => rfl
  | .nd a b, f => by
    simp only [fillF, Tr.hang, hang_fill a, hang_fill b, Tr.n]
    have e : List.range ((a.n + 1) + (b.n + 1)) = List.range (a.n + 1) ++ (List.range (b.n + 1)).map (fun x => a.n + 1 + x) := List.range_add ..
    rw [show a.n + b.n + 1 + 1 = (a.n + 1) + (b.n + 1) by omega, e, List.map_append, List.map_map]
    congr 1
    apply List.map_congr_left
    intro i _
    show f (i + (a.n + 1)) = f (a.n + 1 + i)
    congr 1; omega
/-- on a tree that the least one grows into, the script gives the other of the pair with the same trees hung on -/
theorem lpair_hang {ss : List Stp} {x : Tr} (h : Tr.le (lpair ss).1 x = true) (r : List Tr) : ∃ v, runO x ss = some v ∧ Tr.grow (lpair ss).2 (Tr.hang (lpair ss).1 x ++ r) = (v, r) := by
  obtain ⟨f, rfl⟩ := le_has _ _ h
  refine ⟨_, lpair_fill ss f, ?_⟩
  rw [hang_fill, ← runO_n (lpair_run ss), ← hang_fill]
  exact Tr.grow_hang _ _ r (le_fill _ _)
theorem lpair_no {ss : List Stp} {x : Tr} (h : Tr.le (lpair ss).1 x = false) : runO x ss = none := by
  cases hr : runO x ss with
  | none => rfl
  | some v =>
    obtain ⟨g, rfl, _⟩ := lpair_only hr
    rw [le_fill] at h; cases h
end Pf

namespace Pf
open PySem PySem.Spec PyProof.Rows L2 M
local macro_rules | `(tactic| walk_at "go") => `(tactic| try simp only [↓q_par, ↓q_par3, tSeq, tIfS, tIf, tNot, mTest, tCB, tCons, tNil, mVar, M.gt, mC, Bool.not_true, Bool.not_false, Bool.false_eq_true, if_false, if_true, tNext, tAsg, gName, gSub, List.set_cons_zero, List.set_cons_succ, mFor, mIter, mRevS, S_cps, S_len, S_app, tOp, tSl, mPart, mUn, tNoPart, tRet, tRetN, tTup, tLst, tAnd, tOr, mAndV, mOrV, mNotV, tCall, tCallSD, tDrop, mPar, mPar3, mLstM, mStrM, mBits, mRng1, mRng2, mgTup, mgSeq, mgCons, mgNil, q_add1, q_add2, q_add3, q_add4, q_iadd1, q_iadd2, q_iadd3, q_sorted, q_sub, q_mul1, q_mul2, q_mul3, q_mod, q_div, q_pow, q_eq1, q_eq2, q_eq3, q_eq4, q_eq5, q_eq6, q_eq7, q_eq8, q_eq9, q_eq10, q_ne1, q_ne2, q_ne3, q_ne9, q_ne10, q_lt, q_le, q_gt, q_ge, q_inc1, q_ix1, q_ix2, q_sl1, q_sl2, q_set, q_len1, q_len2, q_int1, q_int2, q_max, q_min, q_abs, q_sum, q_list, q_isi1, q_is1, q_not1, q_isN1, q_isN2, q_isN3, q_isN4, q_join, q_count, q_split, q_app, q_pop, q_clear, q_isiE, q_repr, q_nin1, q_intab, q_ninta, q_ixtab, wipe, List.map_cons, List.map_nil, List.length_cons, List.length_nil, List.length_append, List.length_map, List.nil_append, List.cons_append, List.append_nil, cut_m3, cut_t3, cut_m1, cut_t1, cut_t2, S_eq, decide_eq_true_eq, Bool.not_eq_true', decide_eq_false_iff_not, ne_eq])
theorem cut_at {z r m : List Nat} {i : Nat} (h : z.drop i = m ++ r) : cutL z (some (i : Int)) (some ((i + m.length : Nat) : Int)) = m := by
  rw [cut_mid, h, Nat.add_sub_cancel_left]; simp
theorem drop_app {z r m : List Nat} {i : Nat} (h : z.drop i = m ++ r) : z.drop (i + m.length) = r := by
  rw [← List.drop_drop, h]; simp
theorem drop_lt {z r m : List Nat} {i : Nat} (h : z.drop i = m ++ r) (hm : m ≠ []) : i + m.length ≤ z.length := by
  have := congrArg List.length h
  rw [List.length_drop, List.length_append] at this
  have : 0 < m.length := List.length_pos_iff.mpr hm
  omega
theorem s_ne (t : Tr) : t.s ≠ [] := by cases t <;> simp [Tr.s]
theorem lp_joined (K : PySem.W.Frag) (D : Ends) (H : Hp) (z y : List Nat) (hz : z.length ≤ 1000000) (hy : y.length ≤ 1000000) : ∀ (t u : Tr) (r1 r2 F : List Nat) (i j : Nat) (v5 : Option V), z.drop i = t.s ++ r1 → y.drop j = u.s ++ r2 → F.length ≤ i + j →
    (∀ v5', ∃ n, whW (mTest (tOp mLt (mVar 3) (tCB (mLen K) (tCons (mVar 0) tNil)))) (rd_joined_trees_b1 K sp_end_of) D n [some (.str (S z)), some (.str (S y)), some (.str (S (F ++ (Tr.join t u).s))), some (.int ((i + t.s.length : Nat) : Int)), some (.int ((j + u.s.length : Nat) : Int)), v5'] H) →
    ∃ n, whW (mTest (tOp mLt (mVar 3) (tCB (mLen K) (tCons (mVar 0) tNil)))) (rd_joined_trees_b1 K sp_end_of) D n [some (.str (S z)), some (.str (S y)), some (.str (S F)), some (.int i), some (.int j), v5] H := by
  intro t
  induction t with
  | lf =>
    intro u r1 r2 F i j v5 h1 h2 hF k
    obtain ⟨hg, _⟩ := drop_get h1
    have l1 := drop_lt h1 (s_ne _)
    have l2 := drop_lt h2 (s_ne _)
    obtain ⟨n, k⟩ := k (some (.int ((j + u.s.length : Nat) : Int)))
    refine ⟨n + 1, ?_⟩
    simp only [whW]
    walk_at "go"
    simp only [Tr.s, List.length_singleton] at l1
    refine ⟨by rw [szl]; omega, ?_⟩
    rw [if_pos (by omega)]
    refine ⟨by rw [szl]; omega, 46, by rw [aI_nat]; exact hg, ?_⟩
    walk_at "go"
    refine ⟨y, j, u, r2, rfl, h2, hy, ?_⟩
    walk_at "go"
    refine ⟨by rw [szl]; omega, ?_⟩
    rw [cut_at h2]
    refine ⟨by rw [szl]; omega, ?_⟩
    exact k
  | nd a b iha ihb =>
    intro u r1 r2 F i j v5 h1 h2 hF k
    have l1 := drop_lt h1 (s_ne _)
    have l2 := drop_lt h2 (s_ne _)
    cases u with
    | lf =>
      have h1' := h1
      simp only [Tr.s, List.cons_append, List.append_assoc] at h1'
      obtain ⟨hg, _⟩ := drop_get h1'
      obtain ⟨hg2, _⟩ := drop_get h2
      obtain ⟨n, k⟩ := k (some (.int ((i + (Tr.nd a b).s.length : Nat) : Int)))
      have ls := (Tr.nd a b).s_len
      refine ⟨n + 1, ?_⟩
      simp only [whW]
      walk_at "go"
      refine ⟨by rw [szl]; omega, ?_⟩
      rw [if_pos (by omega)]
      refine ⟨by rw [szl]; omega, 40, by rw [aI_nat]; exact hg, ?_⟩
      walk_at "go"
      rw [if_neg (by decide)]
      refine ⟨by rw [szl]; omega, 46, by rw [aI_nat]; exact hg2, ?_⟩
      walk_at "go"
      refine ⟨z, i, .nd a b, r1, rfl, h1, hz, ?_⟩
      walk_at "go"
      refine ⟨by rw [szl]; omega, ?_⟩
      rw [cut_at h1]
      refine ⟨by rw [szl]; omega, ?_⟩
      exact k
    | nd c d =>
      have h1' := h1
      have h2' := h2
      simp only [Tr.s, List.cons_append, List.append_assoc] at h1' h2'
      obtain ⟨hg, ha⟩ := drop_get h1'
      obtain ⟨hg2, hc⟩ := drop_get h2'
      have hb := drop_app ha
      have hd := drop_app hc
      have he1 := drop_app hb
      have he2 := drop_app hd
      obtain ⟨hg3, _⟩ := drop_get he1
      obtain ⟨hg4, _⟩ := drop_get he2
      have x1 : (Tr.nd a b).s.length = a.s.length + b.s.length + 2 := by simp [Tr.s]; omega
      have x2 : (Tr.nd c d).s.length = c.s.length + d.s.length + 2 := by simp [Tr.s]; omega
      have y1 := (Tr.join a c).s_len
      have y2 := (Tr.join b d).s_len
      have y3 := Tr.join_n_le a c
      have y4 := Tr.join_n_le b d
      have y5 := a.s_len
      have y6 := b.s_len
      have y7 := c.s_len
      have y8 := d.s_len
      suffices hs : ∃ n, whW (mTest (tOp mLt (mVar 3) (tCB (mLen K) (tCons (mVar 0) tNil)))) (rd_joined_trees_b1 K sp_end_of) D n [some (.str (S z)), some (.str (S y)), some (.str (S (F ++ [40]))), some (.int ((i + 1 : Nat) : Int)), some (.int ((j + 1 : Nat) : Int)), v5] H by
        obtain ⟨n, k⟩ := hs
        refine ⟨n + 1, ?_⟩
        simp only [whW]
        walk_at "go"
        refine ⟨by rw [szl]; omega, ?_⟩
        rw [if_pos (by omega)]
        refine ⟨by rw [szl]; omega, 40, by rw [aI_nat]; exact hg, ?_⟩
        walk_at "go"
        rw [if_neg (by decide)]
        refine ⟨by rw [szl]; omega, 40, by rw [aI_nat]; exact hg2, ?_⟩
        walk_at "go"
        rw [if_neg (by decide)]
        refine ⟨by rw [szl]; omega, 40, by rw [aI_nat]; exact hg, ?_⟩
        walk_at "go"
        exact ⟨by rw [szl]; omega, k⟩
      refine iha c _ _ (F ++ [40]) (i + 1) (j + 1) v5 ha hc (by rw [List.length_append, List.length_singleton]; omega) fun v6 => ?_
      refine ihb d _ _ _ (i + 1 + a.s.length) (j + 1 + c.s.length) v6 hb hd (by simp only [List.length_append, List.length_singleton]; omega) fun v7 => ?_
      obtain ⟨n, k⟩ := k v7
      refine ⟨n + 1, ?_⟩
      simp only [whW]
      walk_at "go"
      refine ⟨by rw [szl]; omega, ?_⟩
      rw [if_pos (by omega)]
      refine ⟨by rw [szl]; omega, 41, by rw [aI_nat]; exact hg3, ?_⟩
      walk_at "go"
      rw [if_neg (by decide)]
      refine ⟨by rw [szl]; omega, 41, by rw [aI_nat]; exact hg4, ?_⟩
      walk_at "go"
      rw [if_neg (by decide)]
      refine ⟨by rw [szl]; omega, 41, by rw [aI_nat]; exact hg3, ?_⟩
      walk_at "go"
      refine ⟨by rw [szl]; try simp only [List.length_append, List.length_singleton]
                 omega, ?_⟩
      have e1 : F ++ [40] ++ (Tr.join a c).s ++ (Tr.join b d).s ++ [41] = F ++ (Tr.join (.nd a b) (.nd c d)).s := by simp [Tr.join, Tr.s]
      have e2 : ((i + 1 + a.s.length + b.s.length : Nat) : Int) + 1 = ((i + (Tr.nd a b).s.length : Nat) : Int) := by omega
      have e3 : ((j + 1 + c.s.length + d.s.length : Nat) : Int) + 1 = ((j + (Tr.nd c d).s.length : Nat) : Int) := by omega
      rw [e1, e2, e3]
      exact k
def sp_joined_trees : Sp := fun vs H Q _ => ∃ t u : Tr, vs = [.str (S t.s), .str (S u.s)] ∧ t.n ≤ 100000 ∧ u.n ≤ 100000 ∧ Q (.str (S (Tr.join t u).s)) H
theorem pu_joined_trees (K : PySem.W.Frag) (vs : List V) (H : Hp) (Q : VK) (E : XK) (h : sp_joined_trees vs H Q E) : rd_joined_trees K sp_end_of { nx := fun _ H' => Q .non H', rt := Q } (L2.start N_joined_trees vs) H := by
  obtain ⟨t, u, rfl, ht, hu, k⟩ := h
  show rd_joined_trees K _ _ [some _, some _, none, none, none, none] H
  unfold rd_joined_trees
  walk_at "go"
  have l1 := t.s_len
  have l2 := u.s_len
  unfold mWhile
  refine lp_joined K _ H t.s u.s (by omega) (by omega) t u [] [] [] 0 0 none (by simp) (by simp) (by simp) fun v => ⟨1, ?_⟩
  simp only [whW]
  walk_at "go"
  refine ⟨by rw [szl]; omega, ?_⟩
  rw [if_neg (by omega)]
  exact k
theorem tv_tree (K : PySem.W.Frag) (H : Hp) (t : Tr) (h : t.n ≤ 100000) : TV K H (.str (S t.s)) true := .inl ⟨t.s, rfl, by rw [t.s_len]; omega, (isTr_s t).symm⟩
/-- what is asked of two trees: the first that is none is refused -/
def Two (K : PySem.W.Frag) (aI : Addr) (E : XK) (H : Hp) (v w : V) (k : Tr → Tr → Prop) : Prop :=
  (TV K H v false ∧ Fail E H aI v) ∨ ∃ t : Tr, v = .str (S t.s) ∧ t.n ≤ 100000 ∧ ((TV K H w false ∧ Fail E H aI w) ∨ ∃ u : Tr, w = .str (S u.s) ∧ u.n ≤ 100000 ∧ k t u)
theorem two_checks {K : PySem.W.Frag} {aI : Addr} {E : XK} {H : Hp} {v w : V} {k : Tr → Tr → Prop} {P : Hp → Prop} (h : Two K aI E H v w k) (hk : ∀ t u H', v = .str (S t.s) → w = .str (S u.s) → t.n ≤ 100000 → u.n ≤ 100000 → k t u → Ex H H' → P H') :
    sp_check_tree K aI [v] H (fun _ H1 => sp_check_tree K aI [w] H1 (fun _ H2 => P H2) E) E := by
  rcases h with ⟨tv, f⟩ | ⟨t, rfl, ht, ⟨tv, f⟩ | ⟨u, rfl, hu, kk⟩⟩
  · exact ⟨v, false, rfl, tv, fun z => (by cases z), fun _ => f⟩
  · exact ⟨_, true, rfl, tv_tree K H t ht, fun _ H1 e1 => ⟨w, false, rfl, tv.ex e1, fun z => (by cases z), fun _ => f.ex e1⟩, fun z => (by cases z)⟩
  · exact ⟨_, true, rfl, tv_tree K H t ht, fun _ H1 e1 => ⟨_, true, rfl, tv_tree K H1 u hu, fun _ H2 e2 => hk t u H2 rfl rfl ht hu kk (e1.trans e2), fun z => (by cases z)⟩, fun z => (by cases z)⟩
end Pf

namespace Pf
open PySem PySem.Spec PyProof.Rows L2 M
local macro_rules | `(tactic| walk_at "go") => `(tactic| try simp only [↓q_par, ↓q_par3, tSeq, tIfS, tIf, tNot, mTest, tCB, tCons, tNil, mVar, M.gt, mC, Bool.not_true, Bool.not_false, Bool.false_eq_true, if_false, if_true, tNext, tAsg, gName, gSub, List.set_cons_zero, List.set_cons_succ, mFor, mIter, mRevS, S_cps, S_len, S_app, tOp, tSl, mPart, mUn, tNoPart, tRet, tRetN, tTup, tLst, tAnd, tOr, mAndV, mOrV, mNotV, tCall, tCallSD, tDrop, mPar, mPar3, mLstM, mStrM, mBits, mRng1, mRng2, mgTup, mgSeq, mgCons, mgNil, q_add1, q_add2, q_add3, q_add4, q_iadd1, q_iadd2, q_iadd3, q_sorted, q_sub, q_mul1, q_mul2, q_mul3, q_mod, q_div, q_pow, q_eq1, q_eq2, q_eq3, q_eq4, q_eq5, q_eq6, q_eq7, q_eq8, q_eq9, q_eq10, q_ne1, q_ne2, q_ne3, q_ne9, q_ne10, q_lt, q_le, q_gt, q_ge, q_inc1, q_ix1, q_ix2, q_sl1, q_sl2, q_set, q_len1, q_len2, q_int1, q_int2, q_max, q_min, q_abs, q_sum, q_list, q_isi1, q_is1, q_not1, q_isN1, q_isN2, q_isN3, q_isN4, q_join, q_count, q_split, q_app, q_pop, q_clear, q_isiE, q_repr, q_nin1, q_intab, q_ninta, q_ixtab, wipe, List.map_cons, List.map_nil, List.length_cons, List.length_nil, List.length_append, List.length_map, List.nil_append, List.cons_append, List.append_nil, cut_m3, cut_t3, cut_m1, cut_t1, cut_t2, S_eq, decide_eq_true_eq, Bool.not_eq_true', decide_eq_false_iff_not, ne_eq])
def trs (l : List Tr) : List V := l.map fun t => V.str (S t.s)
theorem trs_app (a b : List Tr) : trs (a ++ b) = trs a ++ trs b := by unfold trs; rw [List.map_append]
theorem trs_len (a : List Tr) : (trs a).length = a.length := by unfold trs; rw [List.length_map]
theorem lp_hung (K : PySem.W.Frag) (D : Ends) (H0 : Hp) (z : List Nat) (hz : z.length ≤ 1000000) (x : Option V) : ∀ (u t : Tr) (r1 : List Nat) (rest : List V) (L : List Tr) (p : Addr) (i : Nat) (v4 v5 : Option V) (H : Hp), z.drop i = t.s ++ r1 → Ex H0 H → H p = some (.lst (trs L)) → H0 p = none → L.length + u.n + 10 ≤ 1000000 → (Tr.le u t = false → ∀ H', Ex H0 H' → D.rt .non H') →
    (Tr.le u t = true → ∀ p' w4 w5 H', Ex H0 H' → H0 p' = none → H' p' = some (.lst (trs (L ++ Tr.hang u t))) → fV (fun _ => True) (gName 4) (rd_hung_on_b1 K sp_end_of) D rest [some (.str (S z)), x, some (.ref p'), some (.int ((i + t.s.length : Nat) : Int)), w4, w5] H') →
    fV (fun _ => True) (gName 4) (rd_hung_on_b1 K sp_end_of) D (u.s.map (fun c => V.str (S [c])) ++ rest) [some (.str (S z)), x, some (.ref p), some (.int i), v4, v5] H := by
  intro u
  induction u with
  | lf =>
    intro t r1 rest L p i v4 v5 H h1 e hp np hl kN k
    have l1 := drop_lt h1 (s_ne _)
    simp only [Tr.s, List.map_cons, List.map_nil, List.cons_append, List.nil_append, fV]
    refine ⟨trivial, ?_⟩
    walk_at "go"
    refine ⟨z, i, t, r1, rfl, h1, hz, ?_⟩
    walk_at "go"
    refine ⟨by rw [szl]; omega, ?_⟩
    rw [cut_at h1]
    refine ⟨by rw [szl]; omega, fun q hq => ?_⟩
    have d1 : p ≠ q := ne_of_none hp hq
    walk_at "go"
    refine ⟨_, _, by rw [upd_ne d1]; exact hp, upd_same, by rw [szl, trs_len, List.length_singleton]; omega, fun q2 hq2 => ?_⟩
    walk_at "go"
    refine k rfl q2 _ _ _ ((e.push hq).push hq2) ((e.push hq).free hq2) ?_
    rw [upd_same, trs_app]; rfl
  | nd a b iha ihb =>
    intro t r1 rest L p i v4 v5 H h1 e hp np hl kN k
    have l1 := drop_lt h1 (s_ne _)
    simp only [Tr.n] at hl
    simp only [Tr.s, List.map_cons, List.map_append, List.map_nil, List.cons_append, List.append_assoc, List.nil_append, fV]
    refine ⟨trivial, ?_⟩
    cases t with
    | lf =>
      obtain ⟨hg, _⟩ := drop_get h1
      walk_at "go"
      rw [if_neg (by decide)]
      refine ⟨by rw [szl]; omega, 46, by rw [aI_nat]; exact hg, ?_⟩
      walk_at "go"
      rw [if_neg (by decide)]
      walk_at "go"
      exact kN rfl H e
    | nd c d =>
      have h1' := h1
      simp only [Tr.s, List.cons_append, List.append_assoc] at h1'
      obtain ⟨hg, hc⟩ := drop_get h1'
      have hd := drop_app hc
      have he := drop_app hd
      obtain ⟨hg2, _⟩ := drop_get he
      walk_at "go"
      rw [if_neg (by decide)]
      refine ⟨by rw [szl]; omega, 40, by rw [aI_nat]; exact hg, ?_⟩
      walk_at "go"
      have ii : ((i : Int) + 1) = ((i + 1 : Nat) : Int) := by omega
      rw [ii]
      refine iha c _ _ L p (i + 1) _ _ H hc e hp np (by omega) (fun z => kN (by simp only [Tr.le, z, Bool.false_and])) fun la p1 w4 w5 H1 e1 np1 hp1 => ?_
      have lla := Tr.hang_len a c la
      refine ihb d _ _ _ p1 (i + 1 + c.s.length) _ _ H1 hd e1 hp1 np1 (by rw [List.length_append, lla]; omega) (fun z => kN (by simp only [Tr.le, z, Bool.and_false])) fun lb p2 w4 w5 H2 e2 np2 hp2 => ?_
      simp only [fV]
      refine ⟨trivial, ?_⟩
      have x1 : (Tr.nd c d).s.length = c.s.length + d.s.length + 2 := by simp [Tr.s]; omega
      walk_at "go"
      rw [if_neg (by decide)]
      refine ⟨by rw [szl]; omega, 41, by rw [aI_nat]; exact hg2, ?_⟩
      walk_at "go"
      have jj : ((i + 1 + c.s.length + d.s.length : Nat) : Int) + 1 = ((i + (Tr.nd c d).s.length : Nat) : Int) := by omega
      rw [jj]
      exact k (by simp only [Tr.le, la, lb, Bool.and_self]) p2 _ _ H2 e2 np2 (by simpa only [Tr.hang, List.append_assoc] using hp2)
def sp_hung_on : Sp := fun vs H Q _ => ∃ t u : Tr, vs = [.str (S t.s), .str (S u.s)] ∧ t.n ≤ 100000 ∧ u.n ≤ 100000 ∧ (Tr.le u t = false → ∀ H', Ex H H' → Q .non H') ∧ (Tr.le u t = true → ∀ H' p, Ex H H' → H p = none → H' p = some (.lst (trs (Tr.hang u t))) → Q (.ref p) H')
theorem pu_hung_on (K : PySem.W.Frag) (vs : List V) (H : Hp) (Q : VK) (E : XK) (h : sp_hung_on vs H Q E) : rd_hung_on K sp_end_of { nx := fun _ H' => Q .non H', rt := Q } (L2.start N_hung_on vs) H := by
  obtain ⟨t, u, rfl, ht, hu, k0, k1⟩ := h
  show rd_hung_on K _ _ [some _, some _, none, none, none, none] H
  unfold rd_hung_on
  walk_at "go"
  have l1 := t.s_len
  refine ⟨by rw [szl]; omega, fun p hp => ?_⟩
  walk_at "go"
  rw [show u.s.map (fun c => V.str (S [c])) = u.s.map (fun c => V.str (S [c])) ++ [] by simp]
  refine lp_hung K _ H t.s (by omega) _ u t [] [] [] p 0 _ _ _ (by simp) (Ex.new hp) upd_same hp (by simp; omega) (fun z H' e => k0 z H' e) fun hl p' w4 w5 H1 e1 np1 hp1 => ?_
  simp only [fV]
  walk_at "go"
  exact ⟨trivial, k1 hl H1 p' e1 np1 (by simpa only [List.nil_append] using hp1)⟩
end Pf

namespace Pf
open PySem PySem.Spec PyProof.Rows L2 M
local macro_rules | `(tactic| walk_at "go") => `(tactic| try simp only [↓q_par, ↓q_par3, tSeq, tIfS, tIf, tNot, mTest, tCB, tCons, tNil, mVar, M.gt, mC, Bool.not_true, Bool.not_false, Bool.false_eq_true, if_false, if_true, tNext, tAsg, gName, gSub, List.set_cons_zero, List.set_cons_succ, mFor, mIter, mRevS, S_cps, S_len, S_app, tOp, tSl, mPart, mUn, tNoPart, tRet, tRetN, tTup, tLst, tAnd, tOr, mAndV, mOrV, mNotV, tCall, tCallSD, tDrop, mPar, mPar3, mLstM, mStrM, mBits, mRng1, mRng2, mgTup, mgSeq, mgCons, mgNil, q_add1, q_add2, q_add3, q_add4, q_iadd1, q_iadd2, q_iadd3, q_sorted, q_sub, q_mul1, q_mul2, q_mul3, q_mod, q_div, q_pow, q_eq1, q_eq2, q_eq3, q_eq4, q_eq5, q_eq6, q_eq7, q_eq8, q_eq9, q_eq10, q_ne1, q_ne2, q_ne3, q_ne9, q_ne10, q_lt, q_le, q_gt, q_ge, q_inc1, q_ix1, q_ix2, q_sl1, q_sl2, q_set, q_len1, q_len2, q_int1, q_int2, q_max, q_min, q_abs, q_sum, q_list, q_isi1, q_is1, q_not1, q_isN1, q_isN2, q_isN3, q_isN4, q_join, q_count, q_split, q_app, q_pop, q_clear, q_isiE, q_repr, q_nin1, q_intab, q_ninta, q_ixtab, wipe, List.map_cons, List.map_nil, List.length_cons, List.length_nil, List.length_append, List.length_map, List.nil_append, List.cons_append, List.append_nil, cut_m3, cut_t3, cut_m1, cut_t1, cut_t2, S_eq, decide_eq_true_eq, Bool.not_eq_true', decide_eq_false_iff_not, ne_eq])
theorem fill_zip : ∀ (P hs : List (List Nat)) (p : List Nat), P.length = hs.length → fillP (p :: P) hs = p ++ (List.zipWith (fun h q => h ++ q) hs P).flatten
  | [], [], p, _ => by simp [fillP]
  | [], h :: hs, p, hl => by simp at hl
  | q :: P, [], p, hl => by simp at hl
  | q :: P, h :: hs, p, hl => by
    show p ++ h ++ fillP (q :: P) hs = _
    rw [fill_zip P hs q (by simpa using hl)]
    simp
theorem spl_le (c : Nat) : ∀ (z acc p : List Nat), p ∈ TL.spl [c] 0 acc z → p.length ≤ acc.length + z.length
  | [], acc, p, h => by
    rw [TL.spl_nil] at h
    rw [List.mem_singleton.mp h]; simp
  | d :: r, acc, p, h => by
    rw [spl_one] at h
    by_cases e : d = c
    · rw [if_pos e] at h
      rcases List.mem_cons.mp h with rfl | h
      · simp
      · have := spl_le c r [] p h
        simp only [List.length_nil, List.length_cons] at *; omega
    · rw [if_neg e] at h
      have := spl_le c r _ p h
      simp only [List.length_append, List.length_cons, List.length_nil] at *; omega
theorem sum_flat (l : List (List Nat)) : ((l.map S).map (·.length)).sum = l.flatten.length := by
  induction l with
  | nil => rfl
  | cons a l ih => simp only [List.map_cons, List.sum_cons, ih, S_len, List.flatten_cons, List.length_append]
theorem le_sum : ∀ {l : List Nat} {a : Nat}, a ∈ l → a ≤ l.sum
  | b :: l, a, h => by
    rw [List.sum_cons]
    rcases List.mem_cons.mp h with rfl | h
    · omega
    · have := le_sum h; omega
theorem tx_S (l : List (List Nat)) : tx l = (l.map S).map V.str := by unfold tx; rw [List.map_map]; rfl
theorem tx_at {l : List (List Nat)} {i : Nat} {z : List Nat} (h : l[i]? = some z) : (tx l)[i]? = some (V.str (S z)) := by unfold tx; rw [List.getElem?_map, h]; rfl
def sp_grown_by (K : PySem.W.Frag) : Sp := fun vs H Q _ => ∃ (t : Tr) (hs : List Tr) (b : Addr), vs = [.str (S t.s), .ref b] ∧ SqL K H b (trs hs) ∧ hs.length = t.n + 1 ∧ t.n ≤ 100000 ∧ (hs.map Tr.n).sum ≤ 100000 ∧ ∀ H', Ex H H' → Q (.str (S (Tr.grow t hs).1.s)) H'
theorem pu_grown_by (K : PySem.W.Frag) (vs : List V) (H : Hp) (Q : VK) (E : XK) (h : sp_grown_by K vs H Q E) : rd_grown_by K { nx := fun _ H' => Q .non H', rt := Q } (L2.start N_grown_by vs) H := by
  obtain ⟨t, hs, b, rfl, hb, hl, hn, hsum, k⟩ := h
  show rd_grown_by K _ [some _, some _, none, none, none] H
  unfold rd_grown_by mLc mEnum
  walk_at "go"
  have l1 := t.s_len
  have gs := (Tr.grow t hs).1.s_len
  have gn : (Tr.grow t hs).1.n ≤ t.n + (hs.map Tr.n).sum := by have := Tr.grow_n t hs; omega
  have hfill := Tr.fill_all t hs hl
  have hpl := spl_count 46 t.s []
  rw [Tr.cnt_lf] at hpl
  rw [splitS (by decide)]
  have hple := spl_le 46 t.s []
  generalize hP : TL.spl [46] 0 [] t.s = P at *
  obtain ⟨p0, P, rfl⟩ : ∃ p P', P = p :: P' := by
    cases P with
    | nil => simp at hpl
    | cons p P' => exact ⟨p, P', rfl⟩
  rw [fill_zip _ _ _ (by rw [List.length_map]; simp only [List.length_cons] at hpl; omega)] at hfill
  refine ⟨by simp, by rw [szl]; omega, fun p hp => ?_⟩
  rw [← tx_S]
  walk_at "go"
  have e1 := Ex.new (o := .lst (tx (p0 :: P))) hp
  refine ⟨_, _, .inl (SqL.of upd_same), aI_0 _ _, _, e1.L hb, fun D hD => ?_⟩
  have d1 : p ≠ D := fun z => by rw [← z, upd_same] at hD; cases hD
  refine (?lp : ∀ (s : List Tr) (acc : List (List Nat)) (H2 : Hp), Ex H H2 → H2 p = some (.lst (tx (p0 :: P))) → H2 D = some (.lst (tx acc)) → acc.length + s.length = hs.length → (∀ x ∈ s, x ∈ hs) → acc ++ List.zipWith (fun h q => h ++ q) (s.map Tr.s) (P.drop acc.length) = List.zipWith (fun h q => h ++ q) (hs.map Tr.s) P →
      cP _ _ _ _ _ _ D _ (numd acc.length (trs s)) H2) hs [] _ (e1.push hD) (by rw [upd_ne d1]; exact upd_same) upd_same (by simp) (fun x h => h) (by simp)
  intro s
  induction s with
  | nil =>
    intro acc H2 e2 h1 h2 ha hm hz
    simp only [trs, List.map_nil, numd, cP]
    refine ⟨?_, ?_⟩
    · exact e2.L hb
    rw [List.map_nil, List.zipWith_nil_left, List.append_nil] at hz
    walk_at "go"
    have hfl : (p0 ++ acc.flatten).length = 3 * (Tr.grow t hs).1.n + 1 := by rw [hz, hfill, gs]
    rw [List.length_append] at hfl
    refine ⟨acc.map S, .inl (SqL.of (by rw [← tx_S]; exact h2)), ?_, ?_⟩
    · rw [sum_flat]; simp only [Nat.mul_zero, Nat.add_zero]; omega
    rw [join_S]
    walk_at "go"
    refine ⟨by rw [szl]; omega, ?_⟩
    rw [hz, hfill]
    exact k _ e2
  | cons x s ih =>
    intro acc H2 e2 h1 h2 ha hm hz
    simp only [trs, List.map_cons, numd, cP]
    refine ⟨e2.L hb, fun T hT => ?_⟩
    walk_at "go"
    refine ⟨_, SqT.of upd_same, rfl, ?_⟩
    walk_at "go"
    have dT : p ≠ T := ne_of_none h1 hT
    have dT2 : D ≠ T := ne_of_none h2 hT
    simp only [List.length_cons] at ha hpl
    obtain ⟨q, hq⟩ : ∃ q, P[acc.length]? = some q := ⟨P[acc.length]'(by omega), List.getElem?_eq_getElem (by omega)⟩
    refine ⟨trivial, ?_⟩
    unfold tYes
    walk_at "go"
    have jj : ((acc.length : Int) + 1) = ((acc.length + 1 : Nat) : Int) := by omega
    rw [jj]
    have hqm : q ∈ p0 :: P := List.mem_cons_of_mem _ (List.mem_of_getElem? hq)
    have hql := hple q hqm
    have hxs := x.s_len
    have hxn : x.n ≤ (hs.map Tr.n).sum := le_sum (List.mem_map_of_mem (hm x List.mem_cons_self))
    simp only [List.length_nil] at hql
    refine ⟨_, _, .inl (SqL.of (by rw [upd_ne dT]; exact h1)), by rw [aI_nat]; exact tx_at (l := p0 :: P) (by simpa using hq), ?_⟩
    walk_at "go"
    refine ⟨by rw [szl]; omega, _, by rw [upd_ne dT2]; exact h2, by rw [szl, tx_len]; omega, ?_⟩
    have hz' : acc ++ [x.s ++ q] ++ List.zipWith (fun h q => h ++ q) (s.map Tr.s) (P.drop (acc ++ [x.s ++ q]).length) = List.zipWith (fun h q => h ++ q) (hs.map Tr.s) P := by
      rw [← hz]
      have hd : P.drop acc.length = q :: P.drop (acc.length + 1) := by
        rw [List.drop_eq_getElem_cons (by omega)]
        congr 1
        exact Option.some.inj ((List.getElem?_eq_getElem (by omega)).symm.trans hq)
      rw [hd, List.length_append, List.length_singleton]
      simp
    have := ih (acc ++ [x.s ++ q]) (upd (upd H2 T (.tup [.int acc.length, .str (S x.s)])) D (.lst (tx acc ++ [.str (S (x.s ++ q))]))) ((e2.push hT).mut (e1.free hD)) (by rw [upd_ne d1, upd_ne dT]; exact h1) (by rw [upd_same, tx_app]; rfl) (by rw [List.length_append, List.length_singleton]; omega) (fun y hy => hm y (List.mem_cons_of_mem _ hy)) hz'
    rw [List.length_append, List.length_singleton] at this
    exact this
end Pf

namespace Pf
open PySem PySem.Spec PyProof.Rows L2 M
local macro_rules | `(tactic| walk_at "go") => `(tactic| try simp only [↓q_par, ↓q_par3, tSeq, tIfS, tIf, tNot, mTest, tCB, tCons, tNil, mVar, M.gt, mC, Bool.not_true, Bool.not_false, Bool.false_eq_true, if_false, if_true, tNext, tAsg, gName, gSub, List.set_cons_zero, List.set_cons_succ, mFor, mIter, mRevS, S_cps, S_len, S_app, tOp, tSl, mPart, mUn, tNoPart, tRet, tRetN, tTup, tLst, tAnd, tOr, mAndV, mOrV, mNotV, tCall, tCallSD, tDrop, mPar, mPar3, mLstM, mStrM, mBits, mRng1, mRng2, mgTup, mgSeq, mgCons, mgNil, q_add1, q_add2, q_add3, q_add4, q_iadd1, q_iadd2, q_iadd3, q_sorted, q_sub, q_mul1, q_mul2, q_mul3, q_mod, q_div, q_pow, q_eq1, q_eq2, q_eq3, q_eq4, q_eq5, q_eq6, q_eq7, q_eq8, q_eq9, q_eq10, q_ne1, q_ne2, q_ne3, q_ne9, q_ne10, q_lt, q_le, q_gt, q_ge, q_inc1, q_ix1, q_ix2, q_sl1, q_sl2, q_set, q_len1, q_len2, q_int1, q_int2, q_max, q_min, q_abs, q_sum, q_list, q_isi1, q_is1, q_not1, q_isN1, q_isN2, q_isN3, q_isN4, q_join, q_count, q_split, q_app, q_pop, q_clear, q_isiE, q_repr, q_nin1, q_intab, q_ninta, q_ixtab, wipe, List.map_cons, List.map_nil, List.length_cons, List.length_nil, List.length_append, List.length_map, List.nil_append, List.cons_append, List.append_nil, cut_m3, cut_t3, cut_m1, cut_t1, cut_t2, S_eq, decide_eq_true_eq, Bool.not_eq_true', decide_eq_false_iff_not, ne_eq])
/-- why what should be a list of trees is refused -/
inductive BadL (K : PySem.W.Frag) (H : Hp) (t : Tr) : V → Prop
  | noL {w : V} : (∀ (H' : Hp) (Q : VK), Ex H H' → Q (.bl false) H' → mIsi K [w, .ty "list"] H' Q) → BadL K H t w
  | len {p : Addr} {xs : List V} : SqL K H p xs → xs.length ≠ t.n + 1 → BadL K H t (.ref p)
  | bad {p : Addr} {ps : List (V × Bool)} : SqL K H p (ps.map (·.1)) → ps.length = t.n + 1 → (∀ x ∈ ps, TV K H x.1 x.2) → (∃ x ∈ ps, x.2 = false) → BadL K H t (.ref p)
def sp_grown (K : PySem.W.Frag) (aI aL : Addr) : Sp := fun vs H Q E => ∃ v w, vs = [v, w] ∧ ((TV K H v false ∧ Fail E H aI v) ∨ ∃ t : Tr, v = .str (S t.s) ∧ t.n ≤ 100000 ∧ ((BadL K H t w ∧ Fail E H aL w) ∨
  ∃ (hs : List Tr) (b : Addr), w = .ref b ∧ SqL K H b (trs hs) ∧ hs.length = t.n + 1 ∧ (hs.map Tr.n).sum ≤ 100000 ∧ ∀ H', Ex H H' → Q (.str (S (Tr.grow t hs).1.s)) H'))
theorem pu_grown (K : PySem.W.Frag) (aI aL : Addr) (vs : List V) (H : Hp) (Q : VK) (E : XK) (h : sp_grown K aI aL vs H Q E) : rd_grown K (sp_check_tree K aI) (sp_is_tree K) (sp_grown_by K) aL E { nx := fun _ H' => Q .non H', rt := Q } (L2.start N_grown vs) H := by
  obtain ⟨v, w, rfl, ⟨tv, f⟩ | ⟨t, rfl, hn, ⟨bad, f⟩ | ⟨hs, b, rfl, hb, hl, hsum, k⟩⟩⟩ := h
  · show rd_grown K _ _ _ _ _ _ [some _, some _, none] H
    unfold rd_grown
    walk_at "go"
    exact ⟨v, false, rfl, tv, fun z => (by cases z), fun _ => f⟩
  · show rd_grown K _ _ _ _ _ _ [some _, some _, none] H
    unfold rd_grown mLc
    walk_at "go"
    have l1 := t.s_len
    refine ⟨_, true, rfl, tv_tree K H t hn, fun _ H1 e1 => ?_, fun z => (by cases z)⟩
    walk_at "go"
    cases bad with
    | noL h =>
      refine h H1 _ e1 ?_
      walk_at "go"
      unfold mRaise mMk
      walk_at "go"
      exact fun d hd => f _ d (e1.push hd) (e1.free hd) upd_same
    | len hp hl =>
      have hb1 := e1.L hp
      refine ⟨_, _, tyX_list hb1, ki_list.2.2.2.1, ?_⟩
      walk_at "go"
      refine ⟨_, .inl hb1, ?_⟩
      rw [count_S (by decide), Tr.cnt_lf]
      walk_at "go"
      rw [if_pos (by omega)]
      unfold mRaise mMk
      walk_at "go"
      exact fun d hd => f _ d (e1.push hd) (e1.free hd) upd_same
    | @bad p ps hp hl hx hf =>
      have hb1 := e1.L hp
      refine ⟨_, _, tyX_list hb1, ki_list.2.2.2.1, ?_⟩
      walk_at "go"
      refine ⟨_, .inl hb1, ?_⟩
      rw [count_S (by decide), Tr.cnt_lf, List.length_map]
      walk_at "go"
      rw [if_neg (by rw [hl]; simp)]
      refine ⟨_, .inl ⟨hb1, fun D hD => ?_⟩⟩
      refine (?lp : ∀ (s : List (V × Bool)) (acc : List V) (H2 : Hp), Ex H1 H2 → H2 D = some (.lst acc) → acc.length + s.length ≤ 100001 → (∀ x ∈ s, TV K H x.1 x.2) → (acc ≠ [] ∨ ∃ x ∈ s, x.2 = false) → cV _ _ _ _ _ _ D _ (s.map (·.1)) H2) ps [] _ (Ex.new hD) upd_same (by simp; omega) hx (.inr hf)
      intro s
      induction s with
      | nil =>
        intro acc H2 e2 h2 hl2 hx2 hf2
        have hne : acc ≠ [] := hf2.resolve_right (by rintro ⟨x, hx, _⟩; cases hx)
        simp only [List.map_nil, cV]
        refine ⟨e2.L hb1, ?_⟩
        walk_at "go"
        refine ⟨by rw [szl]; omega, fun q hq => ?_⟩
        refine .inl ⟨_, _, acc, [], rfl, rfl, SqL.of (by rw [upd_ne (ne_of_none h2 hq)]; exact h2), SqL.of upd_same, fun z => hne (List.eq_nil_of_length_eq_zero z), ?_⟩
        walk_at "go"
        unfold mRaise mMk
        walk_at "go"
        have e3 := (e1.trans e2).push (o := .lst []) hq
        exact fun d hd => f _ d (e3.push hd) (e3.free hd) upd_same
      | cons x s ih =>
        intro acc H2 e2 h2 hl2 hx2 hf2
        simp only [List.length_cons] at hl2
        obtain ⟨x, c⟩ := x
        have tvx := hx2 _ List.mem_cons_self
        simp only [List.map_cons, cV]
        refine ⟨e2.L hb1, ?_⟩
        walk_at "go"
        refine ⟨trivial, x, c, rfl, tvx.ex (e1.trans e2), fun H3 e3 => ?_⟩
        walk_at "go"
        cases c with
        | true =>
          walk_at "go"
          refine ih acc H3 (e2.trans e3) (e3 _ _ h2) (by omega) (fun y hy => hx2 y (List.mem_cons_of_mem _ hy)) ?_
          rcases hf2 with h | ⟨y, hy, hc⟩
          · exact .inl h
          · rcases List.mem_cons.mp hy with rfl | hy
            · cases hc
            · exact .inr ⟨y, hy, hc⟩
        | false =>
          walk_at "go"
          refine ⟨_, e3 _ _ h2, by rw [szl]; omega, ?_⟩
          exact ih (acc ++ [x]) _ ((e2.trans e3).mut hD) upd_same (by rw [List.length_append, List.length_singleton]; omega) (fun y hy => hx2 y (List.mem_cons_of_mem _ hy)) (.inl (by simp))
  · show rd_grown K _ _ _ _ _ _ [some _, some _, none] H
    unfold rd_grown mLc
    walk_at "go"
    refine ⟨_, true, rfl, tv_tree K H t hn, fun _ H1 e1 => ?_, fun z => (by cases z)⟩
    have hb1 := e1.L hb
    walk_at "go"
    refine ⟨_, _, tyX_list hb1, ki_list.2.2.2.1, ?_⟩
    walk_at "go"
    refine ⟨_, .inl hb1, ?_⟩
    rw [count_S (by decide), Tr.cnt_lf, trs_len]
    walk_at "go"
    rw [if_neg (by rw [hl]; simp)]
    refine ⟨_, .inl ⟨hb1, fun D hD => ?_⟩⟩
    refine (?lq : ∀ (s : List Tr) (H2 : Hp), Ex H1 H2 → H2 D = some (.lst []) → (∀ x ∈ s, x ∈ hs) → cV _ _ _ _ _ _ D _ (trs s) H2) hs _ (Ex.new hD) upd_same (fun x h => h)
    intro s
    induction s with
    | nil =>
      intro H2 e2 h2 hm
      simp only [trs, List.map_nil, cV]
      refine ⟨e2.L hb1, ?_⟩
      walk_at "go"
      refine ⟨by rw [szl]; omega, fun q hq => .inr ?_⟩
      walk_at "go"
      refine eq_strs (a := []) (b := []) (SqL.of (by rw [upd_ne (ne_of_none h2 hq)]; exact h2)) (SqL.of upd_same) (fun z hz => by cases hz) (fun z hz => by cases hz) ?_
      rw [show (decide (([] : List (List Nat)) = [])) = true by decide]
      walk_at "go"
      have e3 := e2.push (o := .lst []) hq
      exact ⟨t, hs, b, rfl, e3.L hb1, hl, hn, hsum, fun H3 e4 => k H3 (e1.trans (e3.trans e4))⟩
    | cons x s ih =>
      intro H2 e2 h2 hm
      simp only [trs, List.map_cons, cV]
      refine ⟨e2.L hb1, ?_⟩
      walk_at "go"
      have hxn : x.n ≤ (hs.map Tr.n).sum := le_sum (List.mem_map_of_mem (hm x List.mem_cons_self))
      refine ⟨trivial, _, true, rfl, tv_tree K H2 x (by omega), fun H3 e3 => ?_⟩
      walk_at "go"
      exact ih H3 (e2.trans e3) (e3 _ _ h2) (fun y hy => hm y (List.mem_cons_of_mem _ hy))
end Pf

namespace Pf
open PySem PySem.Spec PyProof.Rows L2 M
local macro_rules | `(tactic| walk_at "go") => `(tactic| try simp only [↓q_par, ↓q_par3, tSeq, tIfS, tIf, tNot, mTest, tCB, tCons, tNil, mVar, M.gt, mC, Bool.not_true, Bool.not_false, Bool.false_eq_true, if_false, if_true, tNext, tAsg, gName, gSub, List.set_cons_zero, List.set_cons_succ, mFor, mIter, mRevS, S_cps, S_len, S_app, tOp, tSl, mPart, mUn, tNoPart, tRet, tRetN, tTup, tLst, tAnd, tOr, mAndV, mOrV, mNotV, tCall, tCallSD, tDrop, mPar, mPar3, mLstM, mStrM, mBits, mRng1, mRng2, mgTup, mgSeq, mgCons, mgNil, q_add1, q_add2, q_add3, q_add4, q_iadd1, q_iadd2, q_iadd3, q_sorted, q_sub, q_mul1, q_mul2, q_mul3, q_mod, q_div, q_pow, q_eq1, q_eq2, q_eq3, q_eq4, q_eq5, q_eq6, q_eq7, q_eq8, q_eq9, q_eq10, q_ne1, q_ne2, q_ne3, q_ne9, q_ne10, q_lt, q_le, q_gt, q_ge, q_inc1, q_ix1, q_ix2, q_sl1, q_sl2, q_set, q_len1, q_len2, q_int1, q_int2, q_max, q_min, q_abs, q_sum, q_list, q_isi1, q_is1, q_not1, q_isN1, q_isN2, q_isN3, q_isN4, q_join, q_count, q_split, q_app, q_pop, q_clear, q_isiE, q_repr, q_nin1, q_intab, q_ninta, q_ixtab, wipe, List.map_cons, List.map_nil, List.length_cons, List.length_nil, List.length_append, List.length_map, List.nil_append, List.cons_append, List.append_nil, cut_m3, cut_t3, cut_m1, cut_t1, cut_t2, S_eq, decide_eq_true_eq, Bool.not_eq_true', decide_eq_false_iff_not, ne_eq])
theorem le_put_no {t a b : Tr} {z : List Nat} (h : t.att z = some (.nd a b)) : Tr.le t (t.put z .lf) = false := by
  cases hl : Tr.le t (t.put z .lf) with
  | false => rfl
  | true =>
    have h1 := Tr.le_n _ _ hl
    have h2 := put_nn z t (.nd a b) .lf h
    simp only [Tr.n] at h2
    omega
/-- without one of its nodes the least tree does not do -/
theorem lpair_least {ss : List Stp} {a b : Tr} {z : List Nat} (h : (lpair ss).1.att z = some (.nd a b)) : runO ((lpair ss).1.put z .lf) ss = none := lpair_no (le_put_no h)
end Pf

namespace Pf
open PySem PySem.Spec PyProof.Rows L2 M
local macro_rules | `(tactic| walk_at "go") => `(tactic| try simp only [↓q_par, ↓q_par3, tSeq, tIfS, tIf, tNot, mTest, tCB, tCons, tNil, mVar, M.gt, mC, Bool.not_true, Bool.not_false, Bool.false_eq_true, if_false, if_true, tNext, tAsg, gName, gSub, List.set_cons_zero, List.set_cons_succ, mFor, mIter, mRevS, S_cps, S_len, S_app, tOp, tSl, mPart, mUn, tNoPart, tRet, tRetN, tTup, tLst, tAnd, tOr, mAndV, mOrV, mNotV, tCall, tCallSD, tDrop, mPar, mPar3, mLstM, mStrM, mBits, mRng1, mRng2, mgTup, mgSeq, mgCons, mgNil, q_add1, q_add2, q_add3, q_add4, q_iadd1, q_iadd2, q_iadd3, q_sorted, q_sub, q_mul1, q_mul2, q_mul3, q_mod, q_div, q_pow, q_eq1, q_eq2, q_eq3, q_eq4, q_eq5, q_eq6, q_eq7, q_eq8, q_eq9, q_eq10, q_ne1, q_ne2, q_ne3, q_ne9, q_ne10, q_lt, q_le, q_gt, q_ge, q_inc1, q_ix1, q_ix2, q_sl1, q_sl2, q_set, q_len1, q_len2, q_int1, q_int2, q_max, q_min, q_abs, q_sum, q_list, q_isi1, q_is1, q_not1, q_isN1, q_isN2, q_isN3, q_isN4, q_join, q_count, q_split, q_app, q_pop, q_clear, q_isiE, q_repr, q_nin1, q_intab, q_ninta, q_ixtab, wipe, List.map_cons, List.map_nil, List.length_cons, List.length_nil, List.length_append, List.length_map, List.nil_append, List.cons_append, List.append_nil, cut_m3, cut_t3, cut_m1, cut_t1, cut_t2, S_eq, decide_eq_true_eq, Bool.not_eq_true', decide_eq_false_iff_not, ne_eq])
/-- the depth of leaf k -/
def dpt : Tr → Nat → Nat
  | .lf, _ => 0
  | .nd a b, k => 1 + (if k < a.n + 1 then dpt a k else dpt b (k - (a.n + 1)))
theorem ht_dpt : ∀ t : Tr, ∃ k, k ≤ t.n ∧ dpt t k = t.ht
  | .lf => ⟨0, Nat.zero_le _, rfl⟩
  | .nd a b => by
    obtain ⟨i, h1, h2⟩ := ht_dpt a
    obtain ⟨j, h3, h4⟩ := ht_dpt b
    by_cases h : b.ht ≤ a.ht
    · refine ⟨i, by simp only [Tr.n]; omega, ?_⟩
      simp only [dpt, Tr.ht]
      rw [if_pos (by omega)]; omega
    · refine ⟨j + (a.n + 1), by simp only [Tr.n]; omega, ?_⟩
      simp only [dpt, Tr.ht]
      rw [if_neg (by omega), Nat.add_sub_cancel]; omega
theorem dpt_rot {b : Bool} {t u : Tr} (h : rot b t = some u) (k : Nat) : dpt t k ≤ dpt u k + 1 ∧ dpt u k ≤ dpt t k + 1 := by
  unfold rot at h
  split at h
  · rename_i x y z
    cases h
    simp only [dpt, Tr.n]
    rw [show k - (x.n + y.n + 1 + 1) = k - (x.n + 1) - (y.n + 1) by omega]
    by_cases c1 : k < x.n + 1
    · simp only [if_pos (show k < x.n + y.n + 1 + 1 by omega), if_pos c1]; omega
    · by_cases c2 : k < x.n + y.n + 1 + 1
      · simp only [if_pos c2, if_neg c1, if_pos (show k - (x.n + 1) < y.n + 1 by omega)]; omega
      · simp only [if_neg c2, if_neg c1, if_neg (show ¬ k - (x.n + 1) < y.n + 1 by omega)]; omega
  · rename_i x y z
    cases h
    simp only [dpt, Tr.n]
    rw [show k - (x.n + y.n + 1 + 1) = k - (x.n + 1) - (y.n + 1) by omega]
    by_cases c1 : k < x.n + 1
    · simp only [if_pos (show k < x.n + y.n + 1 + 1 by omega), if_pos c1]; omega
    · by_cases c2 : k < x.n + y.n + 1 + 1
      · simp only [if_pos c2, if_neg c1, if_pos (show k - (x.n + 1) < y.n + 1 by omega)]; omega
      · simp only [if_neg c2, if_neg c1, if_neg (show ¬ k - (x.n + 1) < y.n + 1 by omega)]; omega
  · cases h
theorem dpt_turn {b : Bool} : ∀ (z : List Nat) (t u : Tr), t.turn (b, z) = some u → ∀ k, dpt t k ≤ dpt u k + 1 ∧ dpt u k ≤ dpt t k + 1
  | [], t, u, h, k => by rw [turn_nil] at h; exact dpt_rot h k
  | c :: z, .lf, u, h, k => by rw [turn_lf] at h; cases h
  | c :: z, .nd l r, u, h, k => by
    rw [turn_cons] at h
    split at h
    · obtain ⟨v, h1, rfl⟩ := Option.map_eq_some_iff.mp h
      have := dpt_turn z r v h1 (k - (l.n + 1))
      simp only [dpt]
      split <;> omega
    · obtain ⟨v, h1, rfl⟩ := Option.map_eq_some_iff.mp h
      have := dpt_turn z l v h1 k
      have hn := turn_n h1
      simp only [dpt, hn]
      split <;> omega
theorem dpt_sub : ∀ (t : Tr) (k : Nat) (p : Tr) (i : Nat), k ≤ t.n → i ≤ t.n + p.n → dpt (sub t k p) i = if i < k then dpt t i else if i < k + (p.n + 1) then dpt t k + dpt p (i - k) else dpt t (i - p.n)
  | .lf, k, p, i, hk, hi => by
    simp only [Tr.n] at hk hi
    obtain rfl : k = 0 := by omega
    rw [if_neg (by omega), if_pos (by omega)]
    simp [sub, dpt]
  | .nd a b, k, p, i, hk, hi => by
    simp only [Tr.n] at hk hi
    simp only [sub]
    by_cases c : k < a.n + 1
    · rw [if_pos c]
      simp only [dpt, sub_n]
      by_cases d : i < a.n + p.n + 1
      · rw [if_pos d, dpt_sub a k p i (by omega) (by omega), if_pos c]
        by_cases e : i < k
        · rw [if_pos e, if_pos e, if_pos (by omega)]
        · rw [if_neg e, if_neg e]
          by_cases f : i < k + (p.n + 1)
          · rw [if_pos f, if_pos f]; omega
          · rw [if_neg f, if_neg f, if_pos (by omega)]
      · rw [if_neg d, if_neg (by omega), if_neg (by omega), if_neg (by omega)]
        rw [show i - (a.n + p.n + 1) = i - p.n - (a.n + 1) by omega]
    · rw [if_neg c]
      simp only [dpt]
      by_cases d : i < a.n + 1
      · rw [if_pos d, if_pos (by omega), if_pos d]
      · rw [if_neg d, dpt_sub b (k - (a.n + 1)) p (i - (a.n + 1)) (by omega) (by omega), if_neg c]
        by_cases e : i < k
        · rw [if_pos (by omega), if_pos e, if_neg d]
        · rw [if_neg (by omega), if_neg e]
          by_cases f : i < k + (p.n + 1)
          · rw [if_pos (by omega), if_pos f, show i - (a.n + 1) - (k - (a.n + 1)) = i - k by omega]; omega
          · rw [if_neg (by omega), if_neg f, if_neg (by omega), show i - (a.n + 1) - p.n = i - p.n - (a.n + 1) by omega]
theorem lf_dpt : ∀ (z : List Nat) (t : Tr) (u k : Nat), lfOn t z = some (u, k) → dpt t k = u
  | z, .lf, u, k, h => by
    have : (0, 0) = (u, k) := by cases z <;> exact Option.some.inj h
    cases this; rfl
  | [], .nd a b, u, k, h => by cases h
  | c :: z, .nd a b, u, k, h => by
    simp only [lfOn] at h
    split at h
    · obtain ⟨⟨x, y⟩, h1, h2⟩ := Option.map_eq_some_iff.mp h
      cases h2
      simp only [dpt]
      rw [if_neg (by omega), Nat.add_sub_cancel, lf_dpt z b x y h1]; omega
    · obtain ⟨⟨x, y⟩, h1, h2⟩ := Option.map_eq_some_iff.mp h
      cases h2
      have := (lfOn_some _ _ _ _ h1).1
      simp only [dpt]
      rw [if_pos (by omega), lf_dpt z a x y h1]; omega
theorem road_dpt : ∀ (z : List Nat) (k : Nat), dpt (road z) k ≤ z.length + 1
  | [], k => by simp only [road, dpt, List.length_nil]; split <;> omega
  | c :: z, k => by
    simp only [road, List.length_cons]
    split
    · have := road_dpt z (k - (Tr.lf.n + 1))
      simp only [dpt]
      split <;> omega
    · have := road_dpt z k
      simp only [dpt]
      split <;> omega
def Hgt (m j : Nat) (x : Tr × Tr) : Prop := ∀ i, i ≤ x.1.n → dpt x.1 i ≤ dpt x.2 i + j ∧ dpt x.1 i ≤ m + 2 + j ∧ dpt x.2 i ≤ m + 2 + j
theorem lpS_hgt {m j : Nat} {x : Tr × Tr} {done : List Stp} (h : runO x.1 done = some x.2) {s : Stp} (hs : s.2.length ≤ m) (hx : Hgt m j x) : Hgt m (j + 1) (lpS x s) := by
  obtain ⟨y, hy, hry, v, h3, h4⟩ := lpS_ok h s
  rw [h4]
  have hn := runO_n h
  have H1 : Hgt m j y := by
    cases hl : lfOn x.2 (s.2 ++ [side s.1]) with
    | none => rw [hl] at hy; rw [← hy]; exact hx
    | some w =>
      obtain ⟨u, k⟩ := w
      rw [hl] at hy
      dsimp only at hy
      obtain ⟨l1, l2, -⟩ := lfOn_some _ _ _ _ hl
      have l3 := lf_dpt _ _ _ _ hl
      rw [← hy]
      intro i hi
      dsimp only at hi ⊢
      rw [sub_n] at hi
      rw [dpt_sub x.1 k _ i (by omega) hi, dpt_sub x.2 k _ i l1 (by omega)]
      have e1 := road_dpt ((s.2 ++ [side s.1]).drop u) (i - k)
      rw [List.length_drop] at e1
      simp only [List.length_append, List.length_cons, List.length_nil] at l2 e1
      by_cases a : i < k
      · rw [if_pos a, if_pos a]; exact hx i (by omega)
      · rw [if_neg a, if_neg a]
        by_cases b : i < k + ((road ((s.2 ++ [side s.1]).drop u)).n + 1)
        · rw [if_pos b, if_pos b]
          have := hx k (by omega)
          omega
        · rw [if_neg b, if_neg b]; exact hx _ (by omega)
  intro i hi
  have g1 := dpt_turn s.2 y.2 v h3 i
  have g2 := H1 i hi
  dsimp only at g1 g2 ⊢
  omega
theorem lp_hgt {m : Nat} : ∀ (ss done : List Stp) (x : Tr × Tr) (j : Nat), runO x.1 done = some x.2 → (∀ s ∈ ss, s.2.length ≤ m) → Hgt m j x → Hgt m (j + ss.length) (ss.foldl lpS x)
  | [], done, x, j, h, hs, hx => hx
  | s :: ss, done, x, j, h, hs, hx => by
    have h1 := lpS_hgt h (hs s List.mem_cons_self) hx
    have h2 := lp_hgt ss (done ++ [s]) (lpS x s) (j + 1) (lpS_run h s) (fun y hy => hs y (List.mem_cons_of_mem _ hy)) h1
    rw [List.length_cons, show j + (ss.length + 1) = j + 1 + ss.length by omega]
    exact h2
/-- the heights of a least pair -/
theorem lpair_ht {m : Nat} {ss : List Stp} (h : ∀ s ∈ ss, s.2.length ≤ m) : (lpair ss).1.ht ≤ m + 2 + ss.length ∧ (lpair ss).2.ht ≤ m + 2 + ss.length := by
  have h1 : Hgt m (0 + ss.length) (lpair ss) := lp_hgt ss [] (.lf, .lf) 0 rfl h (fun i _ => by simp [dpt])
  have hn := runO_n (lpair_run ss)
  obtain ⟨i, a1, a2⟩ := ht_dpt (lpair ss).1
  obtain ⟨j, b1, b2⟩ := ht_dpt (lpair ss).2
  have c1 := h1 i a1
  have c2 := h1 j (by omega)
  omega
theorem lpair_n {m : Nat} {ss : List Stp} (h : ∀ s ∈ ss, s.2.length ≤ m) : (lpair ss).1.n ≤ ss.length * (m + 2) ∧ (lpair ss).2.n ≤ ss.length * (m + 2) := by
  have h1 := lp_n ss [] (.lf, .lf) m rfl h
  have hn := runO_n (lpair_run ss)
  have h2 : (lpair ss).1.n ≤ ss.length * (m + 2) := by simpa [lpair, Tr.n] using h1
  exact ⟨h2, by omega⟩
theorem dat_ht : ∀ t : Tr, t.dat.depth ≤ t.ht + 1
  | .lf => by simp only [Tr.dat, PyData.depth, PyData.depthAll, Tr.ht]; omega
  | .nd l r => by
    have h1 := dat_ht l
    have h2 := dat_ht r
    simp only [Tr.dat, PyData.depth, PyData.depthAll, Tr.ht]; omega
theorem ht_n : ∀ t : Tr, t.ht ≤ t.n
  | .lf => Nat.le_refl _
  | .nd l r => by
    have h1 := ht_n l
    have h2 := ht_n r
    simp only [Tr.ht, Tr.n]; omega
theorem dat_eqd : ∀ t u : Tr, PyData.eqv t.dat u.dat = decide (t = u)
  | .lf, .lf => by simp [Tr.dat, PyData.eqv, PyData.eqvAll]
  | .lf, .nd a b => by simp [Tr.dat, PyData.eqv, PyData.eqvAll]
  | .nd a b, .lf => by simp [Tr.dat, PyData.eqv, PyData.eqvAll]
  | .nd a b, .nd c d => by
    have h1 := dat_eqd a c
    have h2 := dat_eqd b d
    simp [Tr.dat, PyData.eqv, PyData.eqvAll, h1, h2, Bool.decide_and]
theorem eq_nests {K : PySem.W.Frag} {neg : Bool} {H : Hp} {Q : VK} {v w : V} {t u : Tr} (h1 : Nst K H v t) (h2 : Nst K H w u) (hd : min t.ht u.ht ≤ 63) (k : Q (.bl (if neg then !decide (t = u) else decide (t = u))) H) : rEqW K neg v w H Q := by
  have a := dat_ht t
  have b := dat_ht u
  exact ⟨t.dat, u.dat, h1.dp, h2.dp, t.lay, u.lay, by omega, by rw [dat_eqd]; exact k⟩
end Pf

namespace Pf
open PySem PySem.Spec PyProof.Rows L2 M
local macro_rules | `(tactic| walk_at "go") => `(tactic| try simp only [↓q_par, ↓q_par3, tSeq, tIfS, tIf, tNot, mTest, tCB, tCons, tNil, mVar, M.gt, mC, Bool.not_true, Bool.not_false, Bool.false_eq_true, if_false, if_true, tNext, tAsg, gName, gSub, List.set_cons_zero, List.set_cons_succ, mFor, mIter, mRevS, S_cps, S_len, S_app, tOp, tSl, mPart, mUn, tNoPart, tRet, tRetN, tTup, tLst, tAnd, tOr, mAndV, mOrV, mNotV, tCall, tCallSD, tDrop, mPar, mPar3, mLstM, mStrM, mBits, mRng1, mRng2, mgTup, mgSeq, mgCons, mgNil, q_add1, q_add2, q_add3, q_add4, q_iadd1, q_iadd2, q_iadd3, q_sorted, q_sub, q_mul1, q_mul2, q_mul3, q_mod, q_div, q_pow, q_eq1, q_eq2, q_eq3, q_eq4, q_eq5, q_eq6, q_eq7, q_eq8, q_eq9, q_eq10, q_ne1, q_ne2, q_ne3, q_ne9, q_ne10, q_lt, q_le, q_gt, q_ge, q_inc1, q_ix1, q_ix2, q_sl1, q_sl2, q_set, q_len1, q_len2, q_int1, q_int2, q_max, q_min, q_abs, q_sum, q_list, q_isi1, q_is1, q_not1, q_isN1, q_isN2, q_isN3, q_isN4, q_join, q_count, q_split, q_app, q_pop, q_clear, q_isiE, q_repr, q_nin1, q_intab, q_ninta, q_ixtab, wipe, List.map_cons, List.map_nil, List.length_cons, List.length_nil, List.length_append, List.length_map, List.nil_append, List.cons_append, List.append_nil, cut_m3, cut_t3, cut_m1, cut_t1, cut_t2, S_eq, decide_eq_true_eq, Bool.not_eq_true', decide_eq_false_iff_not, ne_eq])
/-! moves, in plain Lean -/
theorem hang_sum : ∀ t u : Tr, Tr.le t u = true → ((Tr.hang t u).map Tr.n).sum + t.n = u.n
  | .lf, u, h => by simp [Tr.hang, Tr.n]
  | .nd a b, .lf, h => by simp [Tr.le] at h
  | .nd a b, .nd c d, h => by
    simp only [Tr.le, Bool.and_eq_true] at h
    have h1 := hang_sum a c h.1
    have h2 := hang_sum b d h.2
    simp only [Tr.hang, Tr.n, List.map_append, List.sum_append]
    omega
theorem fill_n : ∀ (t : Tr) (f g : Nat → Tr), (∀ i, i ≤ t.n → (f i).n = (g i).n) → (fillF t f).n = (fillF t g).n
  | .lf, f, g, h => h 0 (Nat.zero_le _)
  | .nd a b, f, g, h => by
    simp only [Tr.n] at h
    simp only [fillF, Tr.n]
    rw [fill_n a f g fun i hi => h i (by omega), fill_n b _ _ fun i hi => h (i + (a.n + 1)) (by omega)]
/-- the leaves ahead of those of the i-th tree -/
def off (g : Nat → Tr) : Nat → Nat
  | 0 => 0
  | i + 1 => off g i + ((g i).n + 1)
theorem off_add (g : Nat → Tr) (m : Nat) : ∀ i, off g (m + i) = off g m + off (fun j => g (j + m)) i
  | 0 => rfl
  | i + 1 => by
    show off g (m + i) + ((g (m + i)).n + 1) = off g m + (off (fun j => g (j + m)) i + ((g (i + m)).n + 1))
    rw [off_add g m i, Nat.add_comm i m]; omega
theorem fill_off : ∀ (t : Tr) (g : Nat → Tr), (fillF t g).n + 1 = off g (t.n + 1)
  | .lf, g => by simp [fillF, off, Tr.n]
  | .nd a b, g => by
    have h1 := fill_off a g
    have h2 := fill_off b fun i => g (i + (a.n + 1))
    have h3 := off_add g (a.n + 1) (b.n + 1)
    simp only [fillF, Tr.n]
    rw [show a.n + b.n + 1 + 1 = a.n + 1 + (b.n + 1) by omega, h3]
    omega
def compF (g k : Nat → Tr) (i : Nat) : Tr := fillF (g i) fun l => k (l + off g i)
theorem fill_fill : ∀ (t : Tr) (g k : Nat → Tr), fillF (fillF t g) k = fillF t (compF g k)
  | .lf, g, k => by simp [fillF, compF, off]
  | .nd a b, g, k => by
    simp only [fillF]
    rw [fill_fill a g k, fill_fill b _ _]
    congr 1
    apply fill_congr
    intro i _
    have h1 := fill_off a g
    have h2 := off_add g (a.n + 1) i
    have e : off g (i + (a.n + 1)) = off (fun j => g (j + (a.n + 1))) i + ((fillF a g).n + 1) := by rw [Nat.add_comm i, h2]; omega
    show fillF (g (i + (a.n + 1))) (fun l => k (l + off (fun j => g (j + (a.n + 1))) i + ((fillF a g).n + 1))) = fillF (g (i + (a.n + 1))) fun l => k (l + off g (i + (a.n + 1)))
    rw [e]
    simp only [Nat.add_assoc]
theorem fill_inj : ∀ (t : Tr) (f g : Nat → Tr), fillF t f = fillF t g → ∀ i, i ≤ t.n → f i = g i
  | .lf, f, g, h, i, hi => by
    obtain rfl : i = 0 := by simpa [Tr.n] using hi
    exact h
  | .nd a b, f, g, h, i, hi => by
    simp only [fillF, Tr.nd.injEq] at h
    simp only [Tr.n] at hi
    by_cases c : i ≤ a.n
    · exact fill_inj a f g h.1 i c
    · have := fill_inj b _ _ h.2 (i - (a.n + 1)) (by omega)
      simp only [show i - (a.n + 1) + (a.n + 1) = i by omega] at this
      exact this
theorem fill_lf : ∀ t : Tr, fillF t (fun _ => .lf) = t
  | .lf => rfl
  | .nd a b => by simp only [fillF]; rw [fill_lf a, fill_lf b]
/-- what the move (a, b) makes of a tree -/
def applyM (m : Tr × Tr) (x : Tr) : Option Tr := if Tr.le m.1 x = true then some (Tr.grow m.2 (Tr.hang m.1 x)).1 else none
theorem grow_fill {a b : Tr} (h : a.n = b.n) (f : Nat → Tr) : (Tr.grow b (Tr.hang a (fillF a f))).1 = fillF b f := by
  rw [hang_fill, h, ← hang_fill]
  have := Tr.grow_hang b (fillF b f) [] (le_fill _ _)
  rw [List.append_nil] at this
  rw [this]
theorem applyM_fill {m : Tr × Tr} (h : m.1.n = m.2.n) (f : Nat → Tr) : applyM m (fillF m.1 f) = some (fillF m.2 f) := by
  unfold applyM
  rw [if_pos (le_fill _ _), grow_fill h]
theorem applyM_some {m : Tr × Tr} (h : m.1.n = m.2.n) {x y : Tr} (e : applyM m x = some y) : ∃ f, x = fillF m.1 f ∧ y = fillF m.2 f := by
  have hx : Tr.le m.1 x = true := by
    unfold applyM at e
    split at e
    · assumption
    · cases e
  obtain ⟨f, rfl⟩ := le_has _ _ hx
  rw [applyM_fill h] at e
  cases e
  exact ⟨f, rfl, rfl⟩
theorem applyM_n {m : Tr × Tr} (h : m.1.n = m.2.n) {x y : Tr} (e : applyM m x = some y) : y.n = x.n := by
  obtain ⟨f, rfl, rfl⟩ := applyM_some h e
  have h1 := fill_off m.1 f
  have h2 := fill_off m.2 f
  rw [h] at h1; omega
/-- one move behind another -/
def mulM (p q : Tr × Tr) : Tr × Tr := ((Tr.grow p.1 (Tr.hang p.2 (Tr.join p.2 q.1))).1, (Tr.grow q.2 (Tr.hang q.1 (Tr.join p.2 q.1))).1)
theorem mulM_eq {p q : Tr × Tr} (hp : p.1.n = p.2.n) (hq : q.1.n = q.2.n) : ∃ g h, Tr.join p.2 q.1 = fillF p.2 g ∧ Tr.join p.2 q.1 = fillF q.1 h ∧ mulM p q = (fillF p.1 g, fillF q.2 h) := by
  obtain ⟨g, hg⟩ := le_has _ _ (Tr.le_join p.2 q.1)
  obtain ⟨h, hh⟩ := le_has _ _ (by rw [Tr.join_comm]; exact Tr.le_join q.1 p.2 : Tr.le q.1 (Tr.join p.2 q.1) = true)
  refine ⟨g, h, hg, hh, ?_⟩
  unfold mulM
  rw [Prod.mk.injEq]
  constructor
  · conv => lhs; rw [hg]
    exact grow_fill hp.symm g
  · conv => lhs; rw [hh]
    exact grow_fill hq h
theorem mulM_n {p q : Tr × Tr} (hp : p.1.n = p.2.n) (hq : q.1.n = q.2.n) : (mulM p q).1.n = (Tr.join p.2 q.1).n ∧ (mulM p q).2.n = (Tr.join p.2 q.1).n := by
  obtain ⟨g, h, h1, h2, h3⟩ := mulM_eq hp hq
  rw [h3]
  have a1 := fill_off p.1 g
  have a2 := fill_off p.2 g
  have b1 := fill_off q.1 h
  have b2 := fill_off q.2 h
  rw [← h1] at a2
  rw [← h2] at b1
  rw [hp] at a1
  rw [hq] at b1
  exact ⟨by dsimp only; omega, by dsimp only; omega⟩
theorem join_le {b c z : Tr} (h1 : Tr.le b z = true) (h2 : Tr.le c z = true) : Tr.le (Tr.join b c) z = true := by
  rw [Tr.le_join_iff] at h1 h2 ⊢
  rw [← Tr.join_assoc, h1, h2]
/-- on every tree the product does what the two do one behind the other -/
theorem applyM_mul {p q : Tr × Tr} (hp : p.1.n = p.2.n) (hq : q.1.n = q.2.n) (x : Tr) : applyM (mulM p q) x = (applyM p x).bind (applyM q) := by
  obtain ⟨g, h, h1, h2, h3⟩ := mulM_eq hp hq
  have hm : (mulM p q).1.n = (mulM p q).2.n := by have := mulM_n hp hq; omega
  have go : ∀ y, applyM (mulM p q) x = some y → (applyM p x).bind (applyM q) = some y := fun y e => by
    obtain ⟨k, rfl, rfl⟩ := applyM_some hm e
    rw [h3]
    dsimp only
    rw [fill_fill, applyM_fill hp, Option.bind_some, ← fill_fill p.2, ← h1, h2, fill_fill, applyM_fill hq, fill_fill]
  cases e : applyM (mulM p q) x with
  | some y => exact (go y e).symm
  | none =>
    cases e1 : applyM p x with
    | none => rfl
    | some z =>
      rw [Option.bind_some]
      cases e2 : applyM q z with
      | none => rfl
      | some y =>
        exfalso
        obtain ⟨f, rfl, rfl⟩ := applyM_some hp e1
        obtain ⟨f2, z2, rfl⟩ := applyM_some hq e2
        have hl : Tr.le (Tr.join p.2 q.1) (fillF p.2 f) = true := join_le (le_fill _ _) (by rw [z2]; exact le_fill _ _)
        obtain ⟨k, hk⟩ := le_has _ _ hl
        rw [h1, fill_fill] at hk
        have hi := fill_inj _ _ _ hk
        have : fillF p.1 f = fillF (mulM p q).1 k := by
          rw [h3]
          dsimp only
          rw [fill_fill]
          exact fill_congr _ _ _ fun i hi' => hi i (by omega)
        rw [this, applyM_fill hm] at e
        cases e
theorem applyM_self {m : Tr × Tr} (h : m.1.n = m.2.n) : applyM m m.1 = some m.2 := by
  have := applyM_fill h fun _ => .lf
  rwa [fill_lf, fill_lf] at this
theorem applyM_least {m : Tr × Tr} {a b : Tr} {z : List Nat} (h : m.1.att z = some (.nd a b)) : applyM m (m.1.put z .lf) = none := by
  unfold applyM
  rw [le_put_no h]
  rfl
end Pf

namespace Pf
open PySem PySem.Spec PyProof.Rows L2 M
local macro_rules | `(tactic| walk_at "go") => `(tactic| try simp only [↓q_par, ↓q_par3, tSeq, tIfS, tIf, tNot, mTest, tCB, tCons, tNil, mVar, M.gt, mC, Bool.not_true, Bool.not_false, Bool.false_eq_true, if_false, if_true, tNext, tAsg, gName, gSub, List.set_cons_zero, List.set_cons_succ, mFor, mIter, mRevS, S_cps, S_len, S_app, tOp, tSl, mPart, mUn, tNoPart, tRet, tRetN, tTup, tLst, tAnd, tOr, mAndV, mOrV, mNotV, tCall, tCallSD, tDrop, mPar, mPar3, mLstM, mStrM, mBits, mRng1, mRng2, mgTup, mgSeq, mgCons, mgNil, q_add1, q_add2, q_add3, q_add4, q_iadd1, q_iadd2, q_iadd3, q_sorted, q_sub, q_mul1, q_mul2, q_mul3, q_mod, q_div, q_pow, q_eq1, q_eq2, q_eq3, q_eq4, q_eq5, q_eq6, q_eq7, q_eq8, q_eq9, q_eq10, q_ne1, q_ne2, q_ne3, q_ne9, q_ne10, q_lt, q_le, q_gt, q_ge, q_inc1, q_ix1, q_ix2, q_sl1, q_sl2, q_set, q_len1, q_len2, q_int1, q_int2, q_max, q_min, q_abs, q_sum, q_list, q_isi1, q_is1, q_not1, q_isN1, q_isN2, q_isN3, q_isN4, q_join, q_count, q_split, q_app, q_pop, q_clear, q_isiE, q_repr, q_nin1, q_intab, q_ninta, q_ixtab, wipe, List.map_cons, List.map_nil, List.length_cons, List.length_nil, List.length_append, List.length_map, List.nil_append, List.cons_append, List.append_nil, cut_m3, cut_t3, cut_m1, cut_t1, cut_t2, S_eq, decide_eq_true_eq, Bool.not_eq_true', decide_eq_false_iff_not, ne_eq])
local macro_rules | `(tactic| walk_at "hh") => `(tactic| first | assumption | exact upd_same | exact Ex.new (by assumption) _ _ (by walk_at "hh") | exact Ex.at (by assumption) (by assumption) | solve_by_elim [Ex.at])
local macro_rules | `(tactic| walk_at "ee") => `(tactic| first | assumption | exact Ex.refl _ | exact Ex.push (by walk_at "ee") (by assumption) | exact Ex.trans (by assumption) (by assumption) | solve_by_elim [Ex.trans])
local macro_rules | `(tactic| walk_at "sz") => `(tactic| first | (rw [szl]; omega) | (simp only [szl, tx_len, sg_len, List.length_map, List.length_append, List.length_cons, List.length_nil, List.length_singleton, List.length_take, List.length_drop, List.length_reverse, S_len]; omega))
local macro_rules | `(tactic| walk_at "mv") => `(tactic| try simp only [tMake, tMakeV, tMeth, tProp, tFldC, sFldC, tInst, mInvO, mOwn2, mOwnNe, mReprO, ClX.tCMeth, tJoin, tJs, tFmt, List.append_nil])
/-- v is the move (a, b) -/
def Mv (C : Addr) (H : Hp) (v : V) (m : Tr × Tr) : Prop := ∃ x dx p, v = .ref x ∧ H x = some (.ins C dx [("trees", .ref p)]) ∧ H p = some (.tup [.str (S m.1.s), .str (S m.2.s)])
theorem Mv.ex {C : Addr} {H H' : Hp} {v : V} {m : Tr × Tr} (e : Ex H H') (h : Mv C H v m) : Mv C H' v m := by
  obtain ⟨x, dx, p, e1, e2, e3⟩ := h
  exact ⟨x, dx, p, e1, e _ _ e2, e _ _ e3⟩
theorem Mv.fm {C : Addr} {H H' : Hp} {v : V} {m : Tr × Tr} {l : List Addr} (hl : ∀ p ∈ l, H p = none ∨ ∃ xs, H p = some (.lst xs)) (f : Fm l H H') (h : Mv C H v m) : Mv C H' v m := by
  obtain ⟨x, dx, p, e1, e2, e3⟩ := h
  refine ⟨x, dx, p, e1, f x _ (fun z => ?_) e2, f p _ (fun z => ?_) e3⟩
  · rcases hl x z with h | ⟨xs, h⟩ <;> rw [h] at e2 <;> cases e2
  · rcases hl p z with h | ⟨xs, h⟩ <;> rw [h] at e3 <;> cases e3
theorem ty_ins {K : PySem.W.Frag} {C : Addr} (cl : Cls K C) (ob : ObjC K C) (ha : PySem.W.findIn K (.ref C) "__class__" = some (some (.builtin "object.__class__"))) {H : Hp} {a dx : Addr} {fs : List (Str × V)} (e : H a = some (.ins C dx fs)) : TyX K H (.ref a) (.ref C) :=
  .base (.ins e cl ha ex_get.1 ex_get.2 ob.ob)
section
variable (K : PySem.W.Frag) (aI aM aN C : Addr)
def sp_Move___init__ : Sp := fun vs H Q _ => ∃ (x dx : Addr) (m : Tr × Tr), vs = [.ref x, .str (S m.1.s), .str (S m.2.s)] ∧ H x = some (.ins C dx []) ∧ m.1.n = m.2.n ∧ m.1.n ≤ 100000 ∧ ∀ H' p, Fm [x] H H' → H' x = some (.ins C dx [("trees", .ref p)]) → H' p = some (.tup [.str (S m.1.s), .str (S m.2.s)]) → Q .non H'
theorem pu_Move___init__ (vs : List V) (H : Hp) (Q : VK) (E : XK) (h : sp_Move___init__ C vs H Q E) : rd_Move___init__ K (sp_check_tree K aI) aM C E { nx := fun _ H' => Q .non H', rt := Q } (L2.start N_Move___init__ vs) H := by
  obtain ⟨x, dx, m, rfl, hx, hn, hl, k⟩ := h
  show rd_Move___init__ K _ _ _ _ _ [some _, some _, some _] H
  unfold rd_Move___init__
  walk_at "go"
  refine ⟨_, true, rfl, tv_tree K H m.1 hl, fun _ H1 e1 => ?_, fun z => by cases z⟩
  walk_at "go"
  refine ⟨_, true, rfl, tv_tree K H1 m.2 (by omega), fun _ H2 e2 => ?_, fun z => by cases z⟩
  walk_at "go"
  rw [count_S (by decide), count_S (by decide), Tr.cnt_op, Tr.cnt_op, hn]
  walk_at "go"
  try simp only [decide_true, Bool.not_true, Bool.false_eq_true, if_false, not_true_eq_false]
  walk_at "mv"
  walk_at "go"
  have hx2 := (e1.trans e2) _ _ hx
  refine ⟨by walk_at "sz", fun p hp => ⟨x, dx, [], rfl, (Ex.new hp) _ _ hx2, by decide, ?_⟩⟩
  have px : p ≠ x := fun z => by rw [z, hx2] at hp; cases hp
  exact k _ p ((Fm.ex (e1.trans e2)).trans ((Fm.new hp).trans (Fm.mut (by simp)))) upd_same (by rw [upd_ne px]; exact upd_same)
/-- a move is made -/
theorem mv_make {H1 : Hp} {Q : VK} {E : XK} (m : Tr × Tr) (hn : m.1.n = m.2.n) (hl : m.1.n ≤ 100000) (k : ∀ H2 x, Ex H1 H2 → H1 x = none → Mv C H2 (.ref x) m → Q (.ref x) H2) :
    ∀ x dx, H1 x = none → H1 dx = none → dx ≠ x → sp_Move___init__ C [.ref x, .str (S m.1.s), .str (S m.2.s)] (upd (upd H1 dx (.own x)) x (.ins C dx [])) (fun v H2 => v = .non ∧ Q (.ref x) H2) E := by
  intro x dx hx hd ne
  refine ⟨x, dx, m, rfl, upd_same, hn, hl, fun H' p f h1 h2 => ⟨rfl, ?_⟩⟩
  refine k H' x (fun y o hy => ?_) hx ⟨x, dx, p, rfl, h1, h2⟩
  have yx : y ≠ x := fun z => by rw [z, hx] at hy; cases hy
  have yd : y ≠ dx := fun z => by rw [z, hd] at hy; cases hy
  exact f y o (by simpa using yx) (by rw [upd_ne yx, upd_ne yd]; exact hy)
def sp_Move_before : Sp := fun vs H Q _ => ∃ v m, vs = [v] ∧ Mv C H v m ∧ Q (.str (S m.1.s)) H
theorem pu_Move_before (vs : List V) (H : Hp) (Q : VK) (E : XK) (h : sp_Move_before C vs H Q E) : rd_Move_before K C { nx := fun _ H' => Q .non H', rt := Q } (L2.start N_Move_before vs) H := by
  obtain ⟨v, m, rfl, ⟨x, dx, p, rfl, h1, h2⟩, k⟩ := h
  show rd_Move_before K _ _ [some _] H
  unfold rd_Move_before
  walk_at "mv"
  walk_at "go"
  refine ⟨x, dx, _, _, rfl, h1, rfl, ?_⟩
  walk_at "go"
  exact ⟨_, _, .inr (SqT.of h2), aI_0 _ _, k⟩
def sp_Move_after : Sp := fun vs H Q _ => ∃ v m, vs = [v] ∧ Mv C H v m ∧ Q (.str (S m.2.s)) H
theorem pu_Move_after (vs : List V) (H : Hp) (Q : VK) (E : XK) (h : sp_Move_after C vs H Q E) : rd_Move_after K C { nx := fun _ H' => Q .non H', rt := Q } (L2.start N_Move_after vs) H := by
  obtain ⟨v, m, rfl, ⟨x, dx, p, rfl, h1, h2⟩, k⟩ := h
  show rd_Move_after K _ _ [some _] H
  unfold rd_Move_after
  walk_at "mv"
  walk_at "go"
  refine ⟨x, dx, _, _, rfl, h1, rfl, ?_⟩
  walk_at "go"
  exact ⟨_, _, .inr (SqT.of h2), aI_1 _ _ _, k⟩
def sp_Move_of (aS : Addr) : Sp := fun vs H Q E => ∃ (v : V) (ss : List Stp) (m : Nat), vs = [.ref C, v] ∧ Dq K H [] v (.list (ss.map Stp.d)) ∧ adS ss ∧ (∀ s ∈ ss, s.2.length ≤ m) ∧ ss.length * (m + 2) ≤ 40000 ∧
  ∀ H' x, Ex H H' → H x = none → Mv C H' (.ref x) (lpair ss) → Q (.ref x) H'
theorem pu_Move_of (aS : Addr) (vs : List V) (H : Hp) (Q : VK) (E : XK) (h : sp_Move_of K C aS vs H Q E) : rd_Move_of K (sp_pair_of K aS) C (sp_Move___init__ C) { nx := fun _ H' => Q .non H', rt := Q } (L2.start N_Move_of vs) H := by
  obtain ⟨v, ss, m, rfl, dq, ad, hm, hl, k⟩ := h
  show rd_Move_of K _ _ _ _ [some _, some _, none, none] H
  unfold rd_Move_of
  walk_at "go"
  refine ⟨v, ss, m, rfl, dq, ad, hm, hl, fun H1 p e1 np hp => ?_⟩
  refine ⟨_, SqT.of hp, rfl, ?_⟩
  walk_at "mv"
  walk_at "go"
  have n1 := (lpair_n hm).1
  refine ⟨by trivial, mv_make C (lpair ss) (runO_n (lpair_run ss)).symm (by omega) fun H2 x e2 nx h2 => k H2 x (e1.trans e2) (e1.free nx) h2⟩
/-- what isinstance asks of the class -/
def TyI (K : PySem.W.Frag) (C : Addr) : Prop := (∀ (H : Hp) (a dx : Addr) (fs : List (Str × V)), H a = some (.ins C dx fs) → TyX K H (.ref a) (.ref C)) ∧ PySem.W.kitOne K (.ref C) (.ref C) = some true
theorem tyI {K : PySem.W.Frag} {C : Addr} (cl : Cls K C) (ob : ObjC K C) (ha : PySem.W.findIn K (.ref C) "__class__" = some (some (.builtin "object.__class__"))) (kz : PySem.W.kitOne K (.ref C) (.ref C) = some true) : TyI K C := ⟨fun _ _ _ _ e => ty_ins cl ob ha e, kz⟩
theorem eq_two {K : PySem.W.Frag} {H : Hp} {Q : VK} {p q : Addr} {a b c d : Tr} (h1 : H p = some (.tup [.str (S a.s), .str (S b.s)])) (h2 : H q = some (.tup [.str (S c.s), .str (S d.s)])) (k : Q (.bl (decide ((a, b) = (c, d)))) H) : rEqW K false (.ref p) (.ref q) H Q := by
  have oa := a.s_okc
  have ob := b.s_okc
  have oc := c.s_okc
  have od := d.s_okc
  refine ⟨.tuple (dStrs [a.s, b.s]), .tuple (dStrs [c.s, d.s]), .tup (SqT.of h1) (dp_strs [a.s, b.s]), .tup (SqT.of h2) (dp_strs [c.s, d.s]), ?_, ?_, ?_, ?_⟩
  · simpa only [PyData.canLay0] using lay_strs [a.s, b.s] (by simp [oa, ob])
  · simpa only [PyData.canLay0] using lay_strs [c.s, d.s] (by simp [oc, od])
  · simp only [PyData.depth, dep_strs]; decide
  · simp only [PyData.eqv, eqv_strs]
    have e : decide ([a.s, b.s] = [c.s, d.s]) = decide ((a, b) = (c, d)) := by
      apply decide_eq_decide.mpr
      simp [Tr.s_inj]
    rw [if_neg Bool.false_ne_true, e]
    exact k
def sp_Move___eq__ : Sp := fun vs H Q _ => ∃ v w m n, vs = [v, w] ∧ Mv C H v m ∧ Mv C H w n ∧ Q (.bl (decide (m = n))) H
theorem pu_Move___eq__ (ty : TyI K C) (vs : List V) (H : Hp) (Q : VK) (E : XK) (h : sp_Move___eq__ C vs H Q E) : rd_Move___eq__ K C { nx := fun _ H' => Q .non H', rt := Q } (L2.start N_Move___eq__ vs) H := by
  obtain ⟨v, w, m, n, rfl, ⟨x, dx, p, rfl, h1, h2⟩, ⟨y, dy, q, rfl, g1, g2⟩, k⟩ := h
  show rd_Move___eq__ K _ _ [some _, some _] H
  unfold rd_Move___eq__
  walk_at "go"
  refine ⟨_, _, ty.1 _ _ _ _ g1, ty.2, ?_⟩
  walk_at "mv"
  walk_at "go"
  refine ⟨x, dx, _, _, rfl, h1, rfl, y, dy, _, _, rfl, g1, rfl, ?_⟩
  walk_at "go"
  exact eq_two h2 g2 k
/-- how a move is shown -/
def mvT (m : Tr × Tr) : List Nat := [77, 111, 118, 101, 40, 39] ++ (m.1.s ++ ([39, 44, 32, 39] ++ (m.2.s ++ [39, 41])))
theorem S_nil : Str.empty = S [] := rfl
def sp_Move___repr__ : Sp := fun vs H Q _ => ∃ v m, vs = [v] ∧ Mv C H v m ∧ m.1.n ≤ 100000 ∧ m.2.n ≤ 100000 ∧ Q (.str (S (mvT m))) H
theorem pu_Move___repr__ (vs : List V) (H : Hp) (Q : VK) (E : XK) (h : sp_Move___repr__ C vs H Q E) : rd_Move___repr__ K C { nx := fun _ H' => Q .non H', rt := Q } (L2.start N_Move___repr__ vs) H := by
  obtain ⟨v, m, rfl, ⟨x, dx, p, rfl, h1, h2⟩, l1, l2, k⟩ := h
  have s1 := m.1.s_len
  have s2 := m.2.s_len
  show rd_Move___repr__ K _ _ [some _] H
  unfold rd_Move___repr__ tJoin
  walk_at "go"
  simp only [tJs, tFmt, tFldC]
  walk_at "go"
  rw [S_nil]
  have z : ∀ w : List Nat, w.length ≤ 900000 → (S w).length ≤ sizeLine := fun w h => by rw [szl, S_len]; omega
  have fin : (77 :: 111 :: 118 :: 101 :: 40 :: 39 :: (m.1.s ++ [39, 44, 32, 39]) ++ (m.2.s ++ [39, 41])) = mvT m := by
    simp [mvT]
  refine ⟨_, rfl, by rw [S_app]; exact z _ (by simp), x, dx, _, _, rfl, h1, rfl, ?_⟩
  walk_at "go"
  refine ⟨_, _, .inr (SqT.of h2), aI_0 _ _, .inl ⟨_, rfl, z _ (by omega), _, rfl, ?_, ?_⟩⟩
  · simp only [S_app]; exact z _ (by simp; omega)
  refine ⟨_, rfl, ?_, x, dx, _, _, rfl, h1, rfl, ?_⟩
  · simp only [S_app]; exact z _ (by simp; omega)
  walk_at "go"
  refine ⟨_, _, .inr (SqT.of h2), aI_1 _ _ _, .inl ⟨_, rfl, z _ (by omega), _, rfl, ?_, ?_⟩⟩
  · simp only [S_app]; exact z _ (by simp; omega)
  refine ⟨_, rfl, ?_, ?_⟩
  · simp only [S_app]; exact z _ (by simp; omega)
  have e : (S ([] : List Nat) ++ S [77, 111, 118, 101, 40, 39] ++ S m.1.s ++ S [39, 44, 32, 39] ++ S m.2.s ++ S [39, 41]) = S (mvT m) := by
    simp only [S_app, mvT, List.nil_append, List.append_assoc]
  first | exact k | (rw [← e] at k; exact k) | (simp only [S_app, List.nil_append, List.append_assoc, List.cons_append]; simpa [mvT] using k)
def sp_Move___invert__ : Sp := fun vs H Q _ => ∃ v m, vs = [v] ∧ Mv C H v m ∧ m.1.n = m.2.n ∧ m.1.n ≤ 100000 ∧ ∀ H' x, Ex H H' → H x = none → Mv C H' (.ref x) (m.2, m.1) → Q (.ref x) H'
theorem pu_Move___invert__ (vs : List V) (H : Hp) (Q : VK) (E : XK) (h : sp_Move___invert__ C vs H Q E) : rd_Move___invert__ K C (sp_Move___init__ C) { nx := fun _ H' => Q .non H', rt := Q } (L2.start N_Move___invert__ vs) H := by
  obtain ⟨v, m, rfl, ⟨x, dx, p, rfl, h1, h2⟩, hn, hl, k⟩ := h
  show rd_Move___invert__ K _ _ _ [some _] H
  unfold rd_Move___invert__
  walk_at "mv"
  walk_at "go"
  refine ⟨x, dx, _, _, rfl, h1, rfl, ?_⟩
  walk_at "go"
  refine ⟨_, _, .inr (SqT.of h2), aI_1 _ _ _, x, dx, _, _, rfl, h1, rfl, ?_⟩
  walk_at "go"
  refine ⟨_, _, .inr (SqT.of h2), aI_0 _ _, ?_⟩
  exact mv_make C (m.2, m.1) hn.symm (by dsimp only; omega) k
def sp_Move___mul__ : Sp := fun vs H Q _ => ∃ v w m n, vs = [v, w] ∧ Mv C H v m ∧ Mv C H w n ∧ m.1.n = m.2.n ∧ n.1.n = n.2.n ∧ m.1.n ≤ 40000 ∧ n.1.n ≤ 40000 ∧ ∀ H' x, Ex H H' → H x = none → Mv C H' (.ref x) (mulM m n) → Q (.ref x) H'
theorem pu_Move___mul__ (ty : TyI K C) (vs : List V) (H : Hp) (Q : VK) (E : XK) (h : sp_Move___mul__ C vs H Q E) : rd_Move___mul__ K sp_joined_trees (sp_grown_by K) sp_hung_on C (sp_Move___init__ C) { nx := fun _ H' => Q .non H', rt := Q } (L2.start N_Move___mul__ vs) H := by
  obtain ⟨v, w, m, n, rfl, ⟨x, dx, p, rfl, h1, h2⟩, ⟨y, dy, q, rfl, g1, g2⟩, hm, hn, lm, ln, k⟩ := h
  have jn := Tr.join_n_le m.2 n.1
  have le1 := Tr.le_join m.2 n.1
  have le2 : Tr.le n.1 (Tr.join m.2 n.1) = true := by rw [Tr.join_comm]; exact Tr.le_join _ _
  have mn := mulM_n hm hn
  have s1 := hang_sum _ _ le1
  have s2 := hang_sum _ _ le2
  show rd_Move___mul__ K _ _ _ _ _ _ [some _, some _, none, none] H
  unfold rd_Move___mul__
  walk_at "go"
  refine ⟨_, _, ty.1 _ _ _ _ g1, ty.2, ?_⟩
  walk_at "mv"
  walk_at "go"
  refine ⟨x, dx, _, _, rfl, h1, rfl, ?_⟩
  walk_at "go"
  refine ⟨_, _, .inr (SqT.of h2), aI_1 _ _ _, y, dy, _, _, rfl, g1, rfl, ?_⟩
  walk_at "go"
  refine ⟨_, _, .inr (SqT.of g2), aI_0 _ _, ?_⟩
  refine ⟨m.2, n.1, rfl, by omega, by omega, ?_⟩
  refine ⟨x, dx, _, _, rfl, h1, rfl, ?_⟩
  walk_at "go"
  refine ⟨_, _, .inr (SqT.of h2), aI_0 _ _, x, dx, _, _, rfl, h1, rfl, ?_⟩
  walk_at "go"
  refine ⟨_, _, .inr (SqT.of h2), aI_1 _ _ _, ?_⟩
  refine ⟨Tr.join m.2 n.1, m.2, rfl, by omega, by omega, fun hl => (by rw [le1] at hl; cases hl), fun _ H1 a e1 na ha => ?_⟩
  refine ⟨m.1, _, a, rfl, SqL.of ha, by rw [Tr.hang_len _ _ le1, hm], by omega, by omega, fun H2 e2 => ?_⟩
  walk_at "go"
  have e12 := e1.trans e2
  refine ⟨y, dy, _, _, rfl, e12 _ _ g1, rfl, ?_⟩
  walk_at "go"
  refine ⟨_, _, .inr (SqT.of (e12 _ _ g2)), aI_1 _ _ _, y, dy, _, _, rfl, e12 _ _ g1, rfl, ?_⟩
  walk_at "go"
  refine ⟨_, _, .inr (SqT.of (e12 _ _ g2)), aI_0 _ _, ?_⟩
  refine ⟨Tr.join m.2 n.1, n.1, rfl, by omega, by omega, fun hl => (by rw [le2] at hl; cases hl), fun _ H3 b e3 nb hb => ?_⟩
  refine ⟨n.2, _, b, rfl, SqL.of hb, by rw [Tr.hang_len _ _ le2, hn], by omega, by omega, fun H4 e4 => ?_⟩
  have e14 := e12.trans (e3.trans e4)
  exact mv_make C (mulM m n) (by omega) (by omega) fun H5 z e5 nz hz => k H5 z (e14.trans e5) (e14.free nz) hz
end
end Pf

namespace Pf
open PySem PySem.Spec PyProof.Rows L2 M
local macro_rules | `(tactic| walk_at "go") => `(tactic| try simp only [↓q_par, ↓q_par3, tSeq, tIfS, tIf, tNot, mTest, tCB, tCons, tNil, mVar, M.gt, mC, Bool.not_true, Bool.not_false, Bool.false_eq_true, if_false, if_true, tNext, tAsg, gName, gSub, List.set_cons_zero, List.set_cons_succ, mFor, mIter, mRevS, S_cps, S_len, S_app, tOp, tSl, mPart, mUn, tNoPart, tRet, tRetN, tTup, tLst, tAnd, tOr, mAndV, mOrV, mNotV, tCall, tCallSD, tDrop, mPar, mPar3, mLstM, mStrM, mBits, mRng1, mRng2, mgTup, mgSeq, mgCons, mgNil, q_add1, q_add2, q_add3, q_add4, q_iadd1, q_iadd2, q_iadd3, q_sorted, q_sub, q_mul1, q_mul2, q_mul3, q_mod, q_div, q_pow, q_eq1, q_eq2, q_eq3, q_eq4, q_eq5, q_eq6, q_eq7, q_eq8, q_eq9, q_eq10, q_ne1, q_ne2, q_ne3, q_ne9, q_ne10, q_lt, q_le, q_gt, q_ge, q_inc1, q_ix1, q_ix2, q_sl1, q_sl2, q_set, q_len1, q_len2, q_int1, q_int2, q_max, q_min, q_abs, q_sum, q_list, q_isi1, q_is1, q_not1, q_isN1, q_isN2, q_isN3, q_isN4, q_join, q_count, q_split, q_app, q_pop, q_clear, q_isiE, q_repr, q_nin1, q_intab, q_ninta, q_ixtab, wipe, List.map_cons, List.map_nil, List.length_cons, List.length_nil, List.length_append, List.length_map, List.nil_append, List.cons_append, List.append_nil, cut_m3, cut_t3, cut_m1, cut_t1, cut_t2, S_eq, decide_eq_true_eq, Bool.not_eq_true', decide_eq_false_iff_not, ne_eq])
local macro_rules | `(tactic| walk_at "mv") => `(tactic| try simp only [tMake, tMakeV, tMeth, tProp, tFldC, sFldC, tInst, mInvO, mOwn2, mOwnNe, mReprO, ClX.tCMeth, List.append_nil])
section
variable (K : PySem.W.Frag) (aI aN C : Addr)
/-! Move's can and call, with what they refuse -/
def sp_Move_can : Sp := fun vs H Q E => ∃ v w m, vs = [v, w] ∧ Mv C H v m ∧ m.1.n ≤ 100000 ∧ ((TV K H w false ∧ Fail E H aI w) ∨ ∃ t : Tr, w = .str (S t.s) ∧ t.n ≤ 100000 ∧ ∀ H', Ex H H' → Q (.bl (Tr.le m.1 t)) H')
theorem pu_Move_can (vs : List V) (H : Hp) (Q : VK) (E : XK) (h : sp_Move_can K aI C vs H Q E) : rd_Move_can K (sp_check_tree K aI) sp_hung_on C E { nx := fun _ H' => Q .non H', rt := Q } (L2.start N_Move_can vs) H := by
  obtain ⟨v, w, m, rfl, ⟨x, dx, p, rfl, h1, h2⟩, hm, ⟨tv, f⟩ | ⟨t, rfl, ht, k⟩⟩ := h
  · show rd_Move_can K _ _ _ _ _ [some _, some _] H
    unfold rd_Move_can
    walk_at "go"
    exact ⟨w, false, rfl, tv, fun z => (by cases z), fun _ => f⟩
  show rd_Move_can K _ _ _ _ _ [some _, some _] H
  unfold rd_Move_can
  walk_at "go"
  refine ⟨_, true, rfl, tv_tree K H t ht, fun _ H1 e1 => ?_, fun z => by cases z⟩
  walk_at "mv"
  walk_at "go"
  refine ⟨x, dx, _, _, rfl, e1 _ _ h1, rfl, ?_⟩
  walk_at "go"
  refine ⟨_, _, .inr (SqT.of (e1 _ _ h2)), aI_0 _ _, ?_⟩
  refine ⟨t, m.1, rfl, ht, hm, fun hl H2 e2 => ?_, fun hl H2 q e2 nq hq => ?_⟩
  · walk_at "go"
    have := k H2 (e1.trans e2)
    rwa [hl] at this
  · walk_at "go"
    have := k H2 (e1.trans e2)
    rwa [hl] at this
def sp_Move___call__ : Sp := fun vs H Q E => ∃ v w m, vs = [v, w] ∧ Mv C H v m ∧ m.1.n = m.2.n ∧ m.1.n ≤ 100000 ∧ ((TV K H w false ∧ Fail E H aI w) ∨ ∃ t : Tr, w = .str (S t.s) ∧ t.n ≤ 100000 ∧ ((applyM m t = none ∧ Fail E H aN w) ∨ ∃ y, applyM m t = some y ∧ ∀ H', Ex H H' → Q (.str (S y.s)) H'))
theorem pu_Move___call__ (vs : List V) (H : Hp) (Q : VK) (E : XK) (h : sp_Move___call__ K aI aN C vs H Q E) : rd_Move___call__ K (sp_is_tree K) sp_hung_on (sp_check_tree K aI) (sp_grown_by K) aN C E { nx := fun _ H' => Q .non H', rt := Q } (L2.start N_Move___call__ vs) H := by
  obtain ⟨v, w, m, rfl, ⟨x, dx, p, rfl, h1, h2⟩, hn, hm, hc⟩ := h
  rcases hc with ⟨tv, f⟩ | ⟨t, rfl, ht, ⟨ha, f⟩ | ⟨y, hy, k⟩⟩
  · show rd_Move___call__ K _ _ _ _ _ _ _ _ [some _, some _, none] H
    unfold rd_Move___call__
    walk_at "go"
    refine ⟨_, false, rfl, tv, fun H1 e1 => ?_⟩
    walk_at "go"
    exact ⟨w, false, rfl, tv.ex e1, fun z => (by cases z), fun _ => f.ex e1⟩
  · have hle : Tr.le m.1 t = false := by
      cases hl : Tr.le m.1 t with
      | false => rfl
      | true => unfold applyM at ha; rw [if_pos hl] at ha; cases ha
    show rd_Move___call__ K _ _ _ _ _ _ _ _ [some _, some _, none] H
    unfold rd_Move___call__
    walk_at "go"
    refine ⟨_, true, rfl, tv_tree K H t ht, fun H1 e1 => ?_⟩
    walk_at "mv"
    walk_at "go"
    refine ⟨x, dx, _, _, rfl, e1 _ _ h1, rfl, ?_⟩
    walk_at "go"
    refine ⟨_, _, .inr (SqT.of (e1 _ _ h2)), aI_0 _ _, ?_⟩
    refine ⟨t, m.1, rfl, ht, hm, fun _ H2 e2 => ?_, fun hl => (by rw [hle] at hl; cases hl)⟩
    walk_at "go"
    refine ⟨_, true, rfl, tv_tree K H2 t ht, fun _ H3 e3 => ?_, fun z => by cases z⟩
    walk_at "go"
    unfold mRaise mMk
    walk_at "go"
    have e13 := e1.trans (e2.trans e3)
    exact fun d hd => f _ d (e13.push hd) (e13.free hd) upd_same
  · have hle : Tr.le m.1 t = true := by
      unfold applyM at hy
      split at hy
      · assumption
      · cases hy
    unfold applyM at hy
    rw [if_pos hle] at hy
    cases hy
    show rd_Move___call__ K _ _ _ _ _ _ _ _ [some _, some _, none] H
    unfold rd_Move___call__
    walk_at "go"
    refine ⟨_, true, rfl, tv_tree K H t ht, fun H1 e1 => ?_⟩
    walk_at "mv"
    walk_at "go"
    refine ⟨x, dx, _, _, rfl, e1 _ _ h1, rfl, ?_⟩
    walk_at "go"
    refine ⟨_, _, .inr (SqT.of (e1 _ _ h2)), aI_0 _ _, ?_⟩
    refine ⟨t, m.1, rfl, ht, hm, fun hl => (by rw [hle] at hl; cases hl), fun _ H2 q e2 nq hq => ?_⟩
    walk_at "go"
    have e12 := e1.trans e2
    refine ⟨x, dx, _, _, rfl, e12 _ _ h1, rfl, ?_⟩
    walk_at "go"
    have hs := hang_sum m.1 t hle
    refine ⟨_, _, .inr (SqT.of (e12 _ _ h2)), aI_1 _ _ _, ?_⟩
    refine ⟨m.2, Tr.hang m.1 t, q, rfl, SqL.of hq, by rw [Tr.hang_len _ _ hle, hn], by omega, by omega, fun H3 e3 => ?_⟩
    exact k H3 (e12.trans e3)
end
end Pf

namespace Pf
open PySem PySem.Spec PyProof.Rows L2 M
local macro_rules | `(tactic| walk_at "go") => `(tactic| try simp only [↓q_par, ↓q_par3, tSeq, tIfS, tIf, tNot, mTest, tCB, tCons, tNil, mVar, M.gt, mC, Bool.not_true, Bool.not_false, Bool.false_eq_true, if_false, if_true, tNext, tAsg, gName, gSub, List.set_cons_zero, List.set_cons_succ, mFor, mIter, mRevS, S_cps, S_len, S_app, tOp, tSl, mPart, mUn, tNoPart, tRet, tRetN, tTup, tLst, tAnd, tOr, mAndV, mOrV, mNotV, tCall, tCallSD, tDrop, mPar, mPar3, mLstM, mStrM, mBits, mRng1, mRng2, mgTup, mgSeq, mgCons, mgNil, q_add1, q_add2, q_add3, q_add4, q_iadd1, q_iadd2, q_iadd3, q_sorted, q_sub, q_mul1, q_mul2, q_mul3, q_mod, q_div, q_pow, q_eq1, q_eq2, q_eq3, q_eq4, q_eq5, q_eq6, q_eq7, q_eq8, q_eq9, q_eq10, q_ne1, q_ne2, q_ne3, q_ne9, q_ne10, q_lt, q_le, q_gt, q_ge, q_inc1, q_ix1, q_ix2, q_sl1, q_sl2, q_set, q_len1, q_len2, q_int1, q_int2, q_max, q_min, q_abs, q_sum, q_list, q_isi1, q_is1, q_not1, q_isN1, q_isN2, q_isN3, q_isN4, q_join, q_count, q_split, q_app, q_pop, q_clear, q_isiE, q_repr, q_nin1, q_intab, q_ninta, q_ixtab, wipe, List.map_cons, List.map_nil, List.length_cons, List.length_nil, List.length_append, List.length_map, List.nil_append, List.cons_append, List.append_nil, cut_m3, cut_t3, cut_m1, cut_t1, cut_t2, S_eq, decide_eq_true_eq, Bool.not_eq_true', decide_eq_false_iff_not, ne_eq])
local macro_rules | `(tactic| walk_at "mv") => `(tactic| try simp only [tMake, tMakeV, tMeth, tProp, tFldC, sFldC, tInst, mInvO, mOwn2, mOwnNe, mReprO, ClX.tCMeth, tJoin, tJs, tFmt, List.append_nil])
section
variable (C : Addr)
/-! moves in a walk: operators, properties, methods -/
theorem own_mul {H : Hp} {v w : V} {m n : Tr × Tr} {Q : VK} {E : XK} (hv : Mv C H v m) (hw : Mv C H w n) (hm : m.1.n = m.2.n) (hn : n.1.n = n.2.n) (lm : m.1.n ≤ 40000) (ln : n.1.n ≤ 40000)
    (k : ∀ H' x, Ex H H' → H x = none → Mv C H' (.ref x) (mulM m n) → Q (.ref x) H') : mOwn2 C (sp_Move___mul__ C) E v w H Q := by
  have hv' := hv
  have hw' := hw
  obtain ⟨x, dx, p, rfl, h1, h2⟩ := hv'
  obtain ⟨y, dy, q, rfl, g1, g2⟩ := hw'
  exact ⟨x, y, dx, dy, _, _, rfl, rfl, h1, g1, _, _, _, _, rfl, hv, hw, hm, hn, lm, ln, k⟩
theorem own_ne {H : Hp} {v w : V} {m n : Tr × Tr} {Q : VK} {E : XK} (hv : Mv C H v m) (hw : Mv C H w n) (k : Q (.bl (!decide (m = n))) H) : mOwnNe C (sp_Move___eq__ C) E v w H Q := by
  have hv' := hv
  have hw' := hw
  obtain ⟨x, dx, p, rfl, h1, h2⟩ := hv'
  obtain ⟨y, dy, q, rfl, g1, g2⟩ := hw'
  exact ⟨x, y, dx, dy, _, _, rfl, rfl, h1, g1, _, _, _, _, rfl, hv, hw, _, rfl, k⟩
theorem own_eq {H : Hp} {v w : V} {m n : Tr × Tr} {Q : VK} {E : XK} (hv : Mv C H v m) (hw : Mv C H w n) (k : Q (.bl (decide (m = n))) H) : mOwn2 C (sp_Move___eq__ C) E v w H Q := by
  have hv' := hv
  have hw' := hw
  obtain ⟨x, dx, p, rfl, h1, h2⟩ := hv'
  obtain ⟨y, dy, q, rfl, g1, g2⟩ := hw'
  exact ⟨x, y, dx, dy, _, _, rfl, rfl, h1, g1, _, _, _, _, rfl, hv, hw, k⟩
theorem own_inv {H : Hp} {v : V} {m : Tr × Tr} {Q : VK} {E : XK} (hv : Mv C H v m) (hm : m.1.n = m.2.n) (lm : m.1.n ≤ 100000) (k : ∀ H' x, Ex H H' → H x = none → Mv C H' (.ref x) (m.2, m.1) → Q (.ref x) H') :
    ∃ a dx fs, v = .ref a ∧ H a = some (.ins C dx fs) ∧ sp_Move___invert__ C [v] H Q E := by
  have hv' := hv
  obtain ⟨x, dx, p, rfl, h1, h2⟩ := hv'
  exact ⟨x, dx, _, rfl, h1, _, _, rfl, hv, hm, lm, k⟩
theorem p_before {H : Hp} {v : V} {m : Tr × Tr} {Q : VK} (hv : Mv C H v m) (k : Q (.str (S m.1.s)) H) : ∃ a dx fs, v = .ref a ∧ H a = some (.ins C dx fs) ∧ sp_Move_before C [.ref a] H Q E0 := by
  have hv' := hv
  obtain ⟨x, dx, p, rfl, h1, h2⟩ := hv'
  exact ⟨x, dx, _, rfl, h1, _, _, rfl, hv, k⟩
theorem p_after {H : Hp} {v : V} {m : Tr × Tr} {Q : VK} (hv : Mv C H v m) (k : Q (.str (S m.2.s)) H) : ∃ a dx fs, v = .ref a ∧ H a = some (.ins C dx fs) ∧ sp_Move_after C [.ref a] H Q E0 := by
  have hv' := hv
  obtain ⟨x, dx, p, rfl, h1, h2⟩ := hv'
  exact ⟨x, dx, _, rfl, h1, _, _, rfl, hv, k⟩
/-- a move is made amid a walk -/
theorem mv_mk {H1 : Hp} {P : Addr → Hp → Prop} {E : XK} (m : Tr × Tr) (hn : m.1.n = m.2.n) (hl : m.1.n ≤ 100000) (k : ∀ H2 x, Ex H1 H2 → H1 x = none → Mv C H2 (.ref x) m → P x H2) :
    ∀ x dx, H1 x = none → H1 dx = none → ¬ dx = x → sp_Move___init__ C [.ref x, .str (S m.1.s), .str (S m.2.s)] (upd (upd H1 dx (.own x)) x (.ins C dx [])) (fun v H2 => v = .non ∧ P x H2) E := by
  intro x dx hx hd ne
  refine ⟨x, dx, m, rfl, upd_same, hn, hl, fun H' p f h1 h2 => ⟨rfl, ?_⟩⟩
  refine k H' x (fun y o hy => ?_) hx ⟨x, dx, p, rfl, h1, h2⟩
  have yx : y ≠ x := fun z => by rw [z, hx] at hy; cases hy
  have yd : y ≠ dx := fun z => by rw [z, hd] at hy; cases hy
  exact f y o (by simpa using yx) (by rw [upd_ne yx, upd_ne yd]; exact hy)
theorem own_cmp {sp : Sp} {H : Hp} {v w : V} {m n : Tr × Tr} {Q : VK} {E : XK} (hv : Mv C H v m) (hw : Mv C H w n) (k : sp [v, w] H Q E) : mOwn2 C sp E v w H Q := by
  have hv' := hv
  have hw' := hw
  obtain ⟨x, dx, p, rfl, h1, h2⟩ := hv'
  obtain ⟨y, dy, q, rfl, g1, g2⟩ := hw'
  exact ⟨x, y, dx, dy, _, _, rfl, rfl, h1, g1, k⟩
theorem own_repr {K : PySem.W.Frag} {H : Hp} {v : V} {m : Tr × Tr} {Q : VK} {E : XK} (hv : Mv C H v m) (l1 : m.1.n ≤ 100000) (l2 : m.2.n ≤ 100000) (k : Q (.str (S (mvT m))) H) : mReprO K C (sp_Move___repr__ C) E [v] H Q := by
  have hv' := hv
  obtain ⟨x, dx, p, rfl, h1, h2⟩ := hv'
  exact .inr ⟨x, dx, _, rfl, h1, _, m, rfl, hv, l1, l2, _, rfl, k⟩
end
end Pf

namespace Pf
open PySem PySem.Spec PyProof.Rows L2 M
local macro_rules | `(tactic| walk_at "go") => `(tactic| try simp only [↓q_par, ↓q_par3, tSeq, tIfS, tIf, tNot, mTest, tCB, tCons, tNil, mVar, M.gt, mC, Bool.not_true, Bool.not_false, Bool.false_eq_true, if_false, if_true, tNext, tAsg, gName, gSub, List.set_cons_zero, List.set_cons_succ, mFor, mIter, mRevS, S_cps, S_len, S_app, tOp, tSl, mPart, mUn, tNoPart, tRet, tRetN, tTup, tLst, tAnd, tOr, mAndV, mOrV, mNotV, tCall, tCallSD, tDrop, mPar, mPar3, mLstM, mStrM, mBits, mRng1, mRng2, mgTup, mgSeq, mgCons, mgNil, q_add1, q_add2, q_add3, q_add4, q_iadd1, q_iadd2, q_iadd3, q_sorted, q_sub, q_mul1, q_mul2, q_mul3, q_mod, q_div, q_pow, q_eq1, q_eq2, q_eq3, q_eq4, q_eq5, q_eq6, q_eq7, q_eq8, q_eq9, q_eq10, q_ne1, q_ne2, q_ne3, q_ne9, q_ne10, q_lt, q_le, q_gt, q_ge, q_inc1, q_ix1, q_ix2, q_sl1, q_sl2, q_set, q_len1, q_len2, q_int1, q_int2, q_max, q_min, q_abs, q_sum, q_list, q_isi1, q_is1, q_not1, q_isN1, q_isN2, q_isN3, q_isN4, q_join, q_count, q_split, q_app, q_pop, q_clear, q_isiE, q_repr, q_nin1, q_intab, q_ninta, q_ixtab, wipe, List.map_cons, List.map_nil, List.length_cons, List.length_nil, List.length_append, List.length_map, List.nil_append, List.cons_append, List.append_nil, cut_m3, cut_t3, cut_m1, cut_t1, cut_t2, S_eq, decide_eq_true_eq, Bool.not_eq_true', decide_eq_false_iff_not, ne_eq])
/-! moves compared, in plain Lean -/
theorem fill_ht {c : Nat} : ∀ (t : Tr) (f : Nat → Tr), (∀ i, i ≤ t.n → (f i).ht ≤ c) → (fillF t f).ht ≤ t.ht + c
  | .lf, f, h => by have := h 0 (Nat.zero_le _); simp only [fillF, Tr.ht]; omega
  | .nd a b, f, h => by
    simp only [Tr.n] at h
    have h1 := fill_ht a f fun i hi => h i (by omega)
    have h2 := fill_ht b (fun i => f (i + (a.n + 1))) fun i hi => h (i + (a.n + 1)) (by omega)
    simp only [fillF, Tr.ht]; omega
theorem fill_ncap {c : Nat} : ∀ (t : Tr) (f : Nat → Tr), (∀ i, i ≤ t.n → (f i).n ≤ c) → (fillF t f).n ≤ t.n + c * (t.n + 1)
  | .lf, f, h => by have := h 0 (Nat.zero_le _); simp only [fillF, Tr.n]; omega
  | .nd a b, f, h => by
    simp only [Tr.n] at h
    have h1 := fill_ncap a f fun i hi => h i (by omega)
    have h2 := fill_ncap b (fun i => f (i + (a.n + 1))) fun i hi => h (i + (a.n + 1)) (by omega)
    have e : c * (a.n + b.n + 1 + 1) = c * (a.n + 1) + c * (b.n + 1) := by rw [← Nat.mul_add]; congr 1; omega
    simp only [fillF, Tr.n]; omega
theorem hang_ht : ∀ (t u h : Tr), h ∈ Tr.hang t u → h.ht ≤ u.ht
  | .lf, u, h, e => by simp only [Tr.hang, List.mem_singleton] at e; rw [e]; exact Nat.le_refl _
  | .nd a b, .lf, h, e => by simp [Tr.hang] at e
  | .nd a b, .nd c d, h, e => by
    simp only [Tr.hang, List.mem_append] at e
    simp only [Tr.ht]
    rcases e with e | e
    · have := hang_ht a c h e; omega
    · have := hang_ht b d h e; omega
/-- m does the same as q wherever it can be done -/
def le2 (m q : Tr × Tr) : Bool := decide (applyM q m.1 = some m.2)
theorem le2_two {m q : Tr × Tr} (hq : q.1.n = q.2.n) : le2 m q = true ↔ ∃ f, m.1 = fillF q.1 f ∧ m.2 = fillF q.2 f := by
  unfold le2
  rw [decide_eq_true_eq]
  constructor
  · intro h; exact applyM_some hq h
  · rintro ⟨f, h1, h2⟩; rw [h1, h2]; exact applyM_fill hq f
theorem le2_app {m q : Tr × Tr} (hm : m.1.n = m.2.n) (hq : q.1.n = q.2.n) (h : le2 m q = true) {x y : Tr} (e : applyM m x = some y) : applyM q x = some y := by
  obtain ⟨f, h1, h2⟩ := (le2_two hq).mp h
  obtain ⟨k, rfl, rfl⟩ := applyM_some hm e
  rw [h1, h2, fill_fill, fill_fill]
  exact applyM_fill hq _
theorem le2_of {m q : Tr × Tr} (hm : m.1.n = m.2.n) (h : ∀ x y, applyM m x = some y → applyM q x = some y) : le2 m q = true := by
  unfold le2
  rw [decide_eq_true_eq]
  exact h _ _ (applyM_self hm)
theorem le2_mul {m m' q q' : Tr × Tr} (hm : m.1.n = m.2.n) (hm' : m'.1.n = m'.2.n) (hq : q.1.n = q.2.n) (hq' : q'.1.n = q'.2.n) (h1 : le2 m m' = true) (h2 : le2 q q' = true) : le2 (mulM m q) (mulM m' q') = true :=
  le2_of (by have := mulM_n hm hq; omega) fun x y e => by
    rw [applyM_mul hm hq] at e
    obtain ⟨z, e1, e2⟩ := Option.bind_eq_some_iff.mp e
    rw [applyM_mul hm' hq', le2_app hm hm' h1 e1, Option.bind_some]
    exact le2_app hq hq' h2 e2
theorem le2_self {m : Tr × Tr} (h : m.1.n = m.2.n) : le2 m m = true := by unfold le2; rw [decide_eq_true_eq]; exact applyM_self h
theorem le2_inv {m q : Tr × Tr} (hq : q.1.n = q.2.n) (h : le2 m q = true) : le2 (m.2, m.1) (q.2, q.1) = true := by
  obtain ⟨f, h1, h2⟩ := (le2_two hq).mp h
  exact (le2_two (q := (q.2, q.1)) hq.symm).mpr ⟨f, h2, h1⟩
theorem le2_fill {m : Tr × Tr} (h : m.1.n = m.2.n) (f : Nat → Tr) : le2 (fillF m.1 f, fillF m.2 f) m = true := (le2_two h).mpr ⟨f, rfl, rfl⟩
theorem le2_still {m : Tr × Tr} (h : m.1.n = m.2.n) : le2 (mulM m (m.2, m.1)) (.lf, .lf) = true := by
  obtain ⟨g, k, h1, h2, h3⟩ := mulM_eq (p := m) (q := (m.2, m.1)) h h.symm
  refine (le2_two rfl).mpr ⟨fun _ => fillF m.1 g, by rw [h3]; rfl, ?_⟩
  rw [h3]
  show fillF m.1 k = fillF m.1 g
  have := fill_inj _ _ _ (h1.symm.trans h2)
  exact fill_congr _ _ _ fun i hi => (this i (by omega)).symm
theorem mul_still {m : Tr × Tr} (h : m.1.n = m.2.n) : mulM m (m.2, m.1) = (m.1, m.1) := by
  obtain ⟨g, k, h1, h2, h3⟩ := mulM_eq (p := m) (q := (m.2, m.1)) h h.symm
  dsimp only at h1 h2 h3
  rw [Tr.join_self] at h1 h2
  have a := fill_inj m.2 g (fun _ => .lf) (by rw [fill_lf]; exact h1.symm)
  have b := fill_inj m.2 k (fun _ => .lf) (by rw [fill_lf]; exact h2.symm)
  rw [h3, fill_congr m.1 g (fun _ => .lf) fun i hi => a i (by omega), fill_congr m.1 k (fun _ => .lf) fun i hi => b i (by omega), fill_lf]
theorem pre_anti {t u : Tr} (h1 : Tr.le t u = true) (h2 : Tr.le u t = true) : t = u := by
  rw [Tr.le_join_iff] at h1 h2
  rw [← h2, Tr.join_comm, h1]
theorem app_le {m : Tr × Tr} {x y : Tr} (e : applyM m x = some y) : Tr.le m.1 x = true := by
  unfold applyM at e
  split at e
  · assumption
  · cases e
theorem le2_anti {m q : Tr × Tr} (hm : m.1.n = m.2.n) (h1 : le2 m q = true) (h2 : le2 q m = true) : m = q := by
  unfold le2 at h1 h2
  rw [decide_eq_true_eq] at h1 h2
  have e : m.1 = q.1 := pre_anti (app_le h2) (app_le h1)
  have a := applyM_self hm
  rw [e, h2] at a
  exact Prod.ext e (Option.some.inj a).symm
theorem le2_same {m q : Tr × Tr} (hm : m.1.n = m.2.n) (hq : q.1.n = q.2.n) : (le2 m q && le2 q m) = decide (m = q) := by
  by_cases c : m = q
  · subst c; simp [le2_self hm]
  · rw [decide_eq_false c]
    cases a : le2 m q with
    | false => rfl
    | true =>
      cases b : le2 q m with
      | false => rfl
      | true => exact absurd (le2_anti hm a b) c
/-- how it is worked out -/
theorem le2_hang {m q : Tr × Tr} (hq : q.1.n = q.2.n) : le2 m q = (Tr.le q.1 m.1 && (Tr.le q.2 m.2 && decide (Tr.hang q.2 m.2 = Tr.hang q.1 m.1))) := by
  cases c : le2 m q with
  | true =>
    obtain ⟨f, h1, h2⟩ := (le2_two hq).mp c
    rw [h1, h2, le_fill, le_fill, hang_fill, hang_fill, hq]
    simp
  | false =>
    symm
    cases c1 : Tr.le q.1 m.1 with
    | false => rfl
    | true =>
      cases c2 : Tr.le q.2 m.2 with
      | false => rfl
      | true =>
        rw [Bool.true_and, Bool.true_and]
        apply decide_eq_false
        intro e
        obtain ⟨f, h1⟩ := le_has _ _ c1
        obtain ⟨g, h2⟩ := le_has _ _ c2
        rw [h1, h2, hang_fill, hang_fill, hq] at e
        have e2 : ∀ i, i ≤ q.2.n → g i = f i := fun i hi => by
          have := congrArg (fun l => l[i]?) e
          simpa [show i < q.2.n + 1 by omega] using this
        have : le2 m q = true := (le2_two hq).mpr ⟨f, h1, by rw [h2]; exact fill_congr _ _ _ e2⟩
        rw [c] at this; cases this
/-! two moves shown -/
theorem s_no (t : Tr) : (39 : Nat) ∉ t.s := by
  induction t with
  | lf => decide
  | nd a b ha hb => simp only [Tr.s, List.mem_append, List.mem_cons, List.not_mem_nil]; simp [ha, hb]
theorem mvT_inj {m q : Tr × Tr} : mvT m = mvT q ↔ m = q := by
  constructor
  · intro h
    unfold mvT at h
    have h := List.append_cancel_left h
    obtain ⟨h1, h2⟩ := Tr.s_pre _ _ _ _ h
    have h2 := List.append_cancel_left h2
    obtain ⟨h3, _⟩ := Tr.s_pre _ _ _ _ h2
    exact Prod.ext h1 h3
  · rintro rfl; rfl
end Pf

namespace Pf
open PySem PySem.Spec PyProof.Rows L2 M
local macro_rules | `(tactic| walk_at "go") => `(tactic| try simp only [↓q_par, ↓q_par3, tSeq, tIfS, tIf, tNot, mTest, tCB, tCons, tNil, mVar, M.gt, mC, Bool.not_true, Bool.not_false, Bool.false_eq_true, if_false, if_true, tNext, tAsg, gName, gSub, List.set_cons_zero, List.set_cons_succ, mFor, mIter, mRevS, S_cps, S_len, S_app, tOp, tSl, mPart, mUn, tNoPart, tRet, tRetN, tTup, tLst, tAnd, tOr, mAndV, mOrV, mNotV, tCall, tCallSD, tDrop, mPar, mPar3, mLstM, mStrM, mBits, mRng1, mRng2, mgTup, mgSeq, mgCons, mgNil, q_add1, q_add2, q_add3, q_add4, q_iadd1, q_iadd2, q_iadd3, q_sorted, q_sub, q_mul1, q_mul2, q_mul3, q_mod, q_div, q_pow, q_eq1, q_eq2, q_eq3, q_eq4, q_eq5, q_eq6, q_eq7, q_eq8, q_eq9, q_eq10, q_ne1, q_ne2, q_ne3, q_ne9, q_ne10, q_lt, q_le, q_gt, q_ge, q_inc1, q_ix1, q_ix2, q_sl1, q_sl2, q_set, q_len1, q_len2, q_int1, q_int2, q_max, q_min, q_abs, q_sum, q_list, q_isi1, q_is1, q_not1, q_isN1, q_isN2, q_isN3, q_isN4, q_join, q_count, q_split, q_app, q_pop, q_clear, q_isiE, q_repr, q_nin1, q_intab, q_ninta, q_ixtab, wipe, List.map_cons, List.map_nil, List.length_cons, List.length_nil, List.length_append, List.length_map, List.nil_append, List.cons_append, List.append_nil, cut_m3, cut_t3, cut_m1, cut_t1, cut_t2, S_eq, decide_eq_true_eq, Bool.not_eq_true', decide_eq_false_iff_not, ne_eq])
local macro_rules | `(tactic| walk_at "gx") => `(tactic| try simp only [↓q_par, ↓q_par3, ↓tSeq, ↓tIfS, ↓tIf, ↓tNot, ↓mTest, ↓tCB, ↓tCons, ↓tNil, ↓mVar, M.gt, ↓mC, Bool.not_true, Bool.not_false, Bool.false_eq_true, if_false, if_true, ↓tNext, ↓tAsg, ↓gName, ↓gSub, List.set_cons_zero, List.set_cons_succ, ↓mFor, ↓mIter, ↓mRevS, S_cps, S_len, S_app, ↓tOp, ↓tSl, ↓mPart, ↓mUn, ↓tNoPart, ↓tRet, ↓tRetN, ↓tTup, ↓tLst, ↓tAnd, ↓tOr, ↓mAndV, ↓mOrV, ↓mNotV, ↓tCall, ↓tCallSD, ↓tDrop, ↓mPar, ↓mPar3, ↓mLstM, ↓mStrM, ↓mBits, ↓mRng1, ↓mRng2, ↓mgTup, ↓mgSeq, ↓mgCons, ↓mgNil, q_add1, q_add2, q_add3, q_add4, q_iadd1, q_iadd2, q_iadd3, q_sorted, q_sub, q_mul1, q_mul2, q_mul3, q_mod, q_div, q_pow, q_eq1, q_eq2, q_eq3, q_eq4, q_eq5, q_eq6, q_eq7, q_eq8, q_eq9, q_eq10, q_ne1, q_ne2, q_ne3, q_ne9, q_ne10, q_lt, q_le, q_gt, q_ge, q_inc1, q_ix1, q_ix2, q_sl1, q_sl2, q_set, q_len1, q_len2, q_int1, q_int2, q_max, q_min, q_abs, q_sum, q_list, q_isi1, q_is1, q_not1, q_isN1, q_isN2, q_isN3, q_isN4, q_join, q_count, q_split, q_app, q_pop, q_clear, q_isiE, q_repr, q_nin1, q_intab, q_ninta, q_ixtab, wipe, List.map_cons, List.map_nil, List.length_cons, List.length_nil, List.length_append, List.length_map, List.nil_append, List.cons_append, List.append_nil, cut_m3, cut_t3, cut_m1, cut_t1, cut_t2, S_eq, decide_eq_true_eq, Bool.not_eq_true', decide_eq_false_iff_not, ne_eq])
local macro_rules | `(tactic| walk_at "mv") => `(tactic| try simp only [tMake, tMakeV, tMeth, tProp, tFldC, sFldC, tInst, mInvO, ClX.tCMeth, tJoin, tJs, tFmt, List.append_nil])
local macro_rules | `(tactic| walk_at "mg") => `(tactic| (walk_at "gx"; walk_at "mv"; walk_at "gx"))
local macro_rules | `(tactic| walk_at "mo") => `(tactic| first | assumption | (apply Mo.ex (Ex.new (by assumption)); walk_at "mo") | (apply Mo.ex; assumption; walk_at "mo"))
local macro_rules | `(tactic| walk_at "mx") => `(tactic| first | exact Ex.refl _ | assumption | (refine Ex.push ?_ (by assumption); walk_at "mx") | (refine Ex.trans ?_ (by assumption); walk_at "mx"))
/-! check_move and widest, with refusals -/
abbrev NoC (K : PySem.W.Frag) (C : Addr) (T : String) : Prop := PySem.W.kitOne K (.type T) (.ref C) = some false
/-- built-in values are no instances of C -/
structure NoK (K : PySem.W.Frag) (C : Addr) : Prop where
  non : NoC K C "NoneType"
  int : NoC K C "int"
  bl : NoC K C "bool"
  str : NoC K C "str"
  lst : NoC K C "list"
  tup : NoC K C "tuple"
  dct : NoC K C "dict"
def NoI (K : PySem.W.Frag) (H : Hp) (v : V) : Prop := (∃ z, v = .str z) ∨ Oth K H v
theorem NoI.ex {K : PySem.W.Frag} {H H' : Hp} {v : V} (e : Ex H H') (h : NoI K H v) : NoI K H' v := h.imp id (Oth.ex e)
theorem NoI.isi {K : PySem.W.Frag} {C : Addr} {H : Hp} {v : V} {Q : VK} (nk : NoK K C) (h : NoI K H v) (q : Q (.bl false) H) : mIsi K [v, .ref C] H Q := by
  rcases h with ⟨z, rfl⟩ | h
  · exact ⟨_, _, .base (.str z), nk.str, q⟩
  · cases h with
    | non => exact ⟨_, _, .base .non, nk.non, q⟩
    | int i => exact ⟨_, _, .base (.int i), nk.int, q⟩
    | bl b => exact ⟨_, _, .base (.bl b), nk.bl, q⟩
    | lst h => exact ⟨_, _, tyX_list h, nk.lst, q⟩
    | tup h => exact ⟨_, _, tyX_tup h, nk.tup, q⟩
    | dct h => exact ⟨_, _, .base (.dK h), nk.dct, q⟩
section
variable (K : PySem.W.Frag) (aM C : Addr)
def sp_check_move : Sp := fun vs H Q E => ∃ v, vs = [v] ∧ ((∃ m, Mv C H v m ∧ Q .non H) ∨ (NoI K H v ∧ Fail E H aM v))
theorem pu_check_move (ty : TyI K C) (nk : NoK K C) (vs : List V) (H : Hp) (Q : VK) (E : XK) (h : sp_check_move K aM C vs H Q E) : rd_check_move K aM C E { nx := fun _ H' => Q .non H', rt := Q } (L2.start N_check_move vs) H := by
  obtain ⟨v, rfl, ⟨m, ⟨x, dx, p, rfl, h1, h2⟩, k⟩ | ⟨no, f⟩⟩ := h
  · show rd_check_move K _ _ _ _ [some _] H
    unfold rd_check_move
    walk_at "go"
    refine ⟨_, _, ty.1 _ _ _ _ h1, ty.2, ?_⟩
    walk_at "go"
    exact k
  · show rd_check_move K _ _ _ _ [some _] H
    unfold rd_check_move
    walk_at "go"
    refine no.isi nk ?_
    walk_at "go"
    unfold mRaise mMk
    walk_at "go"
    exact fun d hd => f _ d (Ex.new hd) hd upd_same
end
end Pf

namespace Pf
open PySem PySem.Spec PyProof.Rows L2 M
local macro_rules | `(tactic| walk_at "go") => `(tactic| try simp only [↓q_par, ↓q_par3, tSeq, tIfS, tIf, tNot, mTest, tCB, tCons, tNil, mVar, M.gt, mC, Bool.not_true, Bool.not_false, Bool.false_eq_true, if_false, if_true, tNext, tAsg, gName, gSub, List.set_cons_zero, List.set_cons_succ, mFor, mIter, mRevS, S_cps, S_len, S_app, tOp, tSl, mPart, mUn, tNoPart, tRet, tRetN, tTup, tLst, tAnd, tOr, mAndV, mOrV, mNotV, tCall, tCallSD, tDrop, mPar, mPar3, mLstM, mStrM, mBits, mRng1, mRng2, mgTup, mgSeq, mgCons, mgNil, q_add1, q_add2, q_add3, q_add4, q_iadd1, q_iadd2, q_iadd3, q_sorted, q_sub, q_mul1, q_mul2, q_mul3, q_mod, q_div, q_pow, q_eq1, q_eq2, q_eq3, q_eq4, q_eq5, q_eq6, q_eq7, q_eq8, q_eq9, q_eq10, q_ne1, q_ne2, q_ne3, q_ne9, q_ne10, q_lt, q_le, q_gt, q_ge, q_inc1, q_ix1, q_ix2, q_sl1, q_sl2, q_set, q_len1, q_len2, q_int1, q_int2, q_max, q_min, q_abs, q_sum, q_list, q_isi1, q_is1, q_not1, q_isN1, q_isN2, q_isN3, q_isN4, q_join, q_count, q_split, q_app, q_pop, q_clear, q_isiE, q_repr, q_nin1, q_intab, q_ninta, q_ixtab, wipe, List.map_cons, List.map_nil, List.length_cons, List.length_nil, List.length_append, List.length_map, List.nil_append, List.cons_append, List.append_nil, cut_m3, cut_t3, cut_m1, cut_t1, cut_t2, S_eq, decide_eq_true_eq, Bool.not_eq_true', decide_eq_false_iff_not, ne_eq])
local macro_rules | `(tactic| walk_at "hh") => `(tactic| first | assumption | exact upd_same | exact Ex.new (by assumption) _ _ (by walk_at "hh") | exact Ex.at (by assumption) (by assumption) | solve_by_elim [Ex.at])
local macro_rules | `(tactic| walk_at "ee") => `(tactic| first | assumption | exact Ex.refl _ | exact Ex.push (by walk_at "ee") (by assumption) | exact Ex.trans (by assumption) (by assumption) | solve_by_elim [Ex.trans])
local macro_rules | `(tactic| walk_at "sz") => `(tactic| first | (rw [szl]; omega) | (simp only [szl, tx_len, sg_len, List.length_map, List.length_append, List.length_cons, List.length_nil, List.length_singleton, List.length_take, List.length_drop, List.length_reverse, S_len]; omega))
def sp_read_tree (K : PySem.W.Frag) : Sp := fun vs H Q _ => ∃ v b, vs = [v] ∧ TV K H v b ∧ (b = false → ∀ H', Ex H H' → Q .non H') ∧ (∀ t : Tr, v = .str (S t.s) → ∀ H' w, Ex H H' → Nst K H' w t → Q w H')
theorem rev_last {ps : List Addr} {p : Addr} : ((p :: ps).reverse.map V.ref) = ps.reverse.map V.ref ++ [V.ref p] := by simp
theorem pu_read_tree (K : PySem.W.Frag) (vs : List V) (H : Hp) (Q : VK) (E : XK) (h : sp_read_tree K vs H Q E) : rd_read_tree K { nx := fun _ H' => Q .non H', rt := Q } (L2.start N_read_tree vs) H := by
  obtain ⟨v, b, rfl, ⟨z, rfl, hz, rfl⟩ | ⟨ho, rfl⟩, k1, k2⟩ := h
  · show rd_read_tree K _ [some _, none, none, none] H
    unfold rd_read_tree
    walk_at "go"
    refine ⟨by walk_at "sz", fun p hp => ?_⟩
    walk_at "go"
    refine ⟨by walk_at "sz", fun o ho => ?_⟩
    walk_at "go"
    have e1 := Ex.new (o := .lst []) hp
    have po : p ≠ o := by exact (ne_new (by walk_at "hh") ho).symm
    have hp2 : upd (upd H p (.lst [])) o (.lst [.ref p]) p = some (.lst []) := by walk_at "hh"
    have r0 : Rt K H (upd (upd H p (.lst [])) o (.lst [.ref p])) o [p] [[]] := ⟨e1.push ho, by rw [upd_same]; rfl, e1.free ho, by simp, by simpa using po.symm, fun q hq => by rw [List.mem_singleton.mp hq]; exact hp, .cons hp2 .nil .nil⟩
    have bad : ∀ Hx, Ex H Hx → (∀ t : Tr, z ≠ t.s) → Q .non Hx := fun Hx ex nt => k1 (by
      rw [Bool.eq_false_iff]
      intro y
      obtain ⟨t, rfl⟩ := (isTr_iff z).mp y
      exact nt t rfl) Hx ex
    refine (?lp : ∀ (r : List Nat) (ps : List Addr) (st : List (List Tr)) (x2 x3 : Option V) (Hx : Hp), Rt K H Hx o ps st → st ≠ [] → rtRun [[]] z = rtRun st r → r.length + st.length + (st.map List.length).sum ≤ 2000000 → fV _ _ _ _ (r.map fun c => V.str (S [c])) [some (.str (S z)), some (.ref o), x2, x3] Hx) z [p] [[]] none none _ r0 (by simp) rfl (by simp; omega)
    intro r
    induction r with
    | nil =>
      intro ps st x2 x3 Hx rt hne hrun hl
      simp only [List.map_nil, fV]
      refine ⟨trivial, ?_⟩
      walk_at "go"
      have hlen := rt.sa.len
      refine ⟨_, .inl (SqL.of rt.ho), ?_⟩
      rw [List.length_map, List.length_reverse, hlen]
      by_cases c1 : st.length = 1
      · obtain ⟨l, rfl⟩ := List.length_eq_one_iff.mp c1
        obtain ⟨q, rfl⟩ := List.length_eq_one_iff.mp hlen
        obtain ⟨ws, h1, h2⟩ := rt.top
        rw [if_pos (by simp)]
        refine ⟨_, _, .inl (SqL.of rt.ho), aI_0 _ _, ?_⟩
        refine ⟨_, .inl (SqL.of h1), ?_⟩
        rw [h2.len]
        by_cases c2 : l.length = 1
        · obtain ⟨t, rfl⟩ := List.length_eq_one_iff.mp c2
          simp only [q_eq1, decide_eq_true_eq]
          rw [if_pos (by simp)]
          refine ⟨_, _, .inl (SqL.of rt.ho), aI_0 _ _, ?_⟩
          cases h2 with
          | @cons w _ _ _ hw hn =>
            cases hn
            refine ⟨_, _, .inl (SqL.of h1), aI_0 _ _, ?_⟩
            have ez : z = t.s := rt_back (by rw [hrun]; rfl)
            exact k2 t (by rw [ez]) Hx w rt.ex hw
        · simp only [q_eq1, decide_eq_true_eq]
          rw [if_neg (by omega)]
          refine bad Hx rt.ex fun t e => ?_
          rw [e, rt_yes] at hrun
          simp only [rtRun, Option.some.injEq, List.cons.injEq, and_true] at hrun
          rw [← hrun] at c2
          exact c2 rfl
      · rw [if_neg (by omega)]
        refine bad Hx rt.ex fun t e => ?_
        rw [e, rt_yes] at hrun
        simp only [rtRun, Option.some.injEq] at hrun
        rw [← hrun] at c1
        exact c1 rfl
    | cons c r ih =>
      intro ps st x2 x3 Hx rt hne hrun hl
      obtain ⟨l, st, rfl⟩ := List.exists_cons_of_ne_nil hne
      have hlen := rt.sa.len
      obtain ⟨q, ps, rfl⟩ := List.exists_cons_of_ne_nil (l := ps) (fun e => by rw [e] at hlen; simp at hlen)
      obtain ⟨ws, h1, h2⟩ := rt.top
      have hw := h2.len
      simp only [List.length_cons, List.map_cons, List.sum_cons] at hl hlen
      have hrun' : rtRun [[]] z = (rtStep (l :: st) c).bind fun s => rtRun s r := hrun
      rw [rtStep_cons] at hrun'
      have rl := rev_last (ps := ps) (p := q)
      simp only [List.map_cons, fV]
      refine ⟨trivial, ?_⟩
      walk_at "go"
      by_cases c40 : [c] = [40]
      · rw [if_pos c40]
        simp only [List.cons.injEq, and_true] at c40
        rw [if_pos c40] at hrun'
        refine ⟨⟨_, rt.ho⟩, by walk_at "sz", fun n hn => ?_⟩
        refine ⟨_, Ex.new hn _ _ rt.ho, by rw [szl, List.length_map, List.length_reverse, List.length_cons]; omega, ?_⟩
        exact ih _ _ _ _ _ (rt.open_ hn) (by simp) hrun' (by simp only [List.length_cons, List.map_cons, List.sum_cons, List.length_nil]; omega)
      · rw [if_neg c40]
        simp only [List.cons.injEq, and_true] at c40
        rw [if_neg c40] at hrun'
        walk_at "go"
        by_cases c46 : [c] = [46]
        · rw [if_pos c46]
          simp only [List.cons.injEq, and_true] at c46
          rw [if_pos c46] at hrun'
          refine ⟨_, _, .inl (SqL.of rt.ho), by rw [rl]; exact aI_m1 _ _, ?_⟩
          dsimp only
          refine ⟨⟨_, h1⟩, by walk_at "sz", fun n hn => ?_⟩
          have rt2 := rt.new (x := .tup []) hn
          have h1' := Ex.new (o := .tup []) hn _ _ h1
          refine ⟨_, h1', by rw [szl]; omega, ?_⟩
          exact ih _ _ _ _ _ (rt2.put h1' (.lf (SqT.of upd_same))) (by simp) hrun' (by simp only [List.length_cons, List.map_cons, List.sum_cons, List.length_append, List.length_nil]; omega)
        · rw [if_neg c46]
          simp only [List.cons.injEq, and_true] at c46
          rw [if_neg c46] at hrun'
          walk_at "go"
          by_cases c41 : [c] = [41]
          · rw [if_pos c41]
            simp only [List.cons.injEq, and_true] at c41
            rw [if_pos c41] at hrun'
            refine ⟨_, .inl (SqL.of rt.ho), ?_⟩
            rw [List.length_map, List.length_reverse, List.length_cons]
            cases st with
            | nil =>
              have : ps = [] := List.length_eq_zero_iff.mp (by simpa using hlen)
              subst this
              rw [if_neg (by simp)]
              refine bad Hx rt.ex fun t e => ?_
              rw [e, rt_yes] at hrun'
              cases l with
              | nil => cases hrun'
              | cons x l => cases l with
                | nil => cases hrun'
                | cons y l => cases l <;> cases hrun'
            | cons up st =>
              rw [if_pos (by simp only [List.length_cons] at hlen; omega)]
              refine ⟨_, _, .inl (SqL.of rt.ho), by rw [rl]; exact aI_m1 _ _, ?_⟩
              refine ⟨_, .inl (SqL.of h1), ?_⟩
              rw [hw]
              by_cases c2 : l.length = 2
              · obtain ⟨a, b, rfl⟩ : ∃ a b, l = [a, b] := by
                  rcases l with _ | ⟨a, _ | ⟨b, _ | ⟨d, l⟩⟩⟩ <;> simp at c2
                  exact ⟨a, b, rfl⟩
                simp only [q_eq1, decide_eq_true_eq]
                rw [if_pos (by simp)]
                obtain ⟨up', ps, rfl⟩ := List.exists_cons_of_ne_nil (l := ps) (fun e => by rw [e] at hlen; simp at hlen)
                cases h2 with
                | @cons va _ _ _ na h2 =>
                  cases h2 with
                  | @cons vb _ _ _ nb h2 =>
                    cases h2
                    refine ⟨⟨_, rt.ho⟩, _, rt.ho, .ref q, by rw [rl]; simp, ?_⟩
                    have rp := rt.pop
                    obtain ⟨us, g1, g2⟩ := rp.top
                    rw [show ((q :: up' :: ps).reverse.map V.ref).dropLast = (up' :: ps).reverse.map V.ref by rw [rl]; simp]
                    walk_at "go"
                    have oq : q ≠ o := fun e => rt.no (by rw [← e]; exact List.mem_cons_self)
                    have h1q : upd Hx o (.lst ((up' :: ps).reverse.map V.ref)) q = some (.lst [va, vb]) := (upd_ne oq).trans h1
                    have e9 : Nl Hx (upd Hx o (.lst ((up' :: ps).reverse.map V.ref))) := Nl.mut rt.ho
                    refine ⟨_, _, .inl (SqL.of rp.ho), by rw [rev_last]; exact aI_m1 _ _, ?_⟩
                    dsimp only
                    refine ⟨⟨_, g1⟩, _, _, .inl (SqL.of h1q), aI_0 _ _, _, _, .inl (SqL.of h1q), aI_1 _ _ _, by walk_at "sz", fun n hn => ?_⟩
                    have rp2 := rp.new (x := .tup [va, vb]) hn
                    have g1' := Ex.new (o := .tup [va, vb]) hn _ _ g1
                    refine ⟨_, g1', by rw [szl, g2.len]; simp only [List.length_cons, List.map_cons, List.sum_cons] at hl; omega, ?_⟩
                    have en := Nl.new (o := .tup [va, vb]) hn
                    exact ih _ _ _ _ _ (rp2.put g1' (.nd (SqT.of upd_same) ((na.nl e9).nl en) ((nb.nl e9).nl en))) (by simp) hrun' (by simp only [List.length_cons, List.map_cons, List.sum_cons, List.length_append, List.length_singleton, List.length_nil] at hl ⊢; omega)
              · simp only [q_eq1, decide_eq_true_eq]
                rw [if_neg (by omega)]
                refine bad Hx rt.ex fun t e => ?_
                rw [e, rt_yes] at hrun'
                cases l with
                | nil => cases hrun'
                | cons x l => cases l with
                  | nil => cases hrun'
                  | cons y l => cases l with
                    | nil => exact c2 rfl
                    | cons w l => cases hrun'
          · rw [if_neg c41]
            simp only [List.cons.injEq, and_true] at c41
            rw [if_neg c41] at hrun'
            refine bad Hx rt.ex fun t e => ?_
            rw [e, rt_yes] at hrun'
            cases hrun'
  · show rd_read_tree K _ [some _, none, none, none] H
    unfold rd_read_tree
    walk_at "go"
    refine ho.isi ?_
    walk_at "go"
    exact k1 rfl H (Ex.refl H)
def sp_nested (K : PySem.W.Frag) (aI : Addr) : Sp := fun vs H Q E => ∃ v, vs = [v] ∧ ((TV K H v false ∧ Fail E H aI v) ∨ ∃ t : Tr, v = .str (S t.s) ∧ t.n ≤ 100000 ∧ ∀ H' w, Ex H H' → Nst K H' w t → Q w H')
theorem pu_nested (K : PySem.W.Frag) (aI : Addr) (vs : List V) (H : Hp) (Q : VK) (E : XK) (h : sp_nested K aI vs H Q E) : rd_nested K (sp_read_tree K) aI E { nx := fun _ H' => Q .non H', rt := Q } (L2.start N_nested vs) H := by
  obtain ⟨v, rfl, ⟨tv, f⟩ | ⟨t, rfl, hn, k⟩⟩ := h
  · show rd_nested K _ _ _ _ [some _, none] H
    unfold rd_nested
    walk_at "go"
    refine ⟨v, false, rfl, tv, fun _ H1 e1 => ?_, fun t e => ?_⟩
    · walk_at "go"
      unfold mRaise mMk
      walk_at "go"
      exact fun d hd => f _ d (e1.push hd) (e1.free hd) upd_same
    · subst e
      rcases tv with ⟨z, e, _, hz⟩ | ⟨ho, _⟩
      · have := S_inj.mp (V.str.inj e)
        rw [← this, isTr_s] at hz
        cases hz
      · cases ho
  · show rd_nested K _ _ _ _ [some _, none] H
    unfold rd_nested
    walk_at "go"
    have hs := t.s_len
    refine ⟨_, true, rfl, .inl ⟨_, rfl, by omega, (isTr_s t).symm⟩, fun e => (by cases e), fun u e H1 w e1 hw => ?_⟩
    have := Tr.s_inj.mp (S_inj.mp (V.str.inj e))
    subst this
    obtain ⟨a, rfl⟩ := hw.ref
    walk_at "go"
    exact k H1 _ e1 hw
end Pf

namespace Pf
open PySem PySem.Spec PyProof.Rows L2 M
local macro_rules | `(tactic| walk_at "go") => `(tactic| try simp only [↓q_par, ↓q_par3, tSeq, tIfS, tIf, tNot, mTest, tCB, tCons, tNil, mVar, M.gt, mC, Bool.not_true, Bool.not_false, Bool.false_eq_true, if_false, if_true, tNext, tAsg, gName, gSub, List.set_cons_zero, List.set_cons_succ, mFor, mIter, mRevS, S_cps, S_len, S_app, tOp, tSl, mPart, mUn, tNoPart, tRet, tRetN, tTup, tLst, tAnd, tOr, mAndV, mOrV, mNotV, tCall, tCallSD, tDrop, mPar, mPar3, mLstM, mStrM, mBits, mRng1, mRng2, mgTup, mgSeq, mgCons, mgNil, q_add1, q_add2, q_add3, q_add4, q_iadd1, q_iadd2, q_iadd3, q_sorted, q_sub, q_mul1, q_mul2, q_mul3, q_mod, q_div, q_pow, q_eq1, q_eq2, q_eq3, q_eq4, q_eq5, q_eq6, q_eq7, q_eq8, q_eq9, q_eq10, q_ne1, q_ne2, q_ne3, q_ne9, q_ne10, q_lt, q_le, q_gt, q_ge, q_inc1, q_ix1, q_ix2, q_sl1, q_sl2, q_set, q_len1, q_len2, q_int1, q_int2, q_max, q_min, q_abs, q_sum, q_list, q_isi1, q_is1, q_not1, q_isN1, q_isN2, q_isN3, q_isN4, q_join, q_count, q_split, q_app, q_pop, q_clear, q_isiE, q_repr, q_nin1, q_intab, q_ninta, q_ixtab, wipe, List.map_cons, List.map_nil, List.length_cons, List.length_nil, List.length_append, List.length_map, List.nil_append, List.cons_append, List.append_nil, cut_m3, cut_t3, cut_m1, cut_t1, cut_t2, S_eq, decide_eq_true_eq, Bool.not_eq_true', decide_eq_false_iff_not, ne_eq])
local macro_rules | `(tactic| walk_at "hh") => `(tactic| first | assumption | exact upd_same | exact Ex.new (by assumption) _ _ (by walk_at "hh") | exact Ex.at (by assumption) (by assumption) | solve_by_elim [Ex.at])
local macro_rules | `(tactic| walk_at "ee") => `(tactic| first | assumption | exact Ex.refl _ | exact Ex.push (by walk_at "ee") (by assumption) | exact Ex.trans (by assumption) (by assumption) | solve_by_elim [Ex.trans])
local macro_rules | `(tactic| walk_at "sz") => `(tactic| first | (rw [szl]; omega) | (simp only [szl, tx_len, sg_len, List.length_map, List.length_append, List.length_cons, List.length_nil, List.length_singleton, List.length_take, List.length_drop, List.length_reverse, S_len]; omega))
/-- what is asked of a tree: refused, or the tree -/
def Ask (K : PySem.W.Frag) (aI : Addr) (E : XK) (H : Hp) (v : V) (k : Tr → Prop) : Prop := (TV K H v false ∧ Fail E H aI v) ∨ ∃ t : Tr, v = .str (S t.s) ∧ t.n ≤ 100000 ∧ k t
def sp_addresses_of_leaves : Sp := fun vs H Q E => ∃ t : Tr, vs = [.str (S t.s)] ∧ t.n ≤ 100000 ∧ ∀ H' p, Ex H H' → H p = none → H' p = some (.lst (tx (t.lvs []))) → Q (.ref p) H'
theorem pu_addresses_of_leaves (K : PySem.W.Frag) (vs : List V) (H : Hp) (Q : VK) (E : XK) (h : sp_addresses_of_leaves vs H Q E) : rd_addresses_of_leaves K (sp_walked K) { nx := fun _ H' => Q .non H', rt := Q } (L2.start N_addresses_of_leaves vs) H := by
  obtain ⟨t, rfl, hn, k⟩ := h
  show rd_addresses_of_leaves K _ _ [some _] H
  unfold rd_addresses_of_leaves
  walk_at "go"
  refine ⟨t, rfl, hn, fun H2 a b p e2 na nb ha hb hp => ?_⟩
  walk_at "go"
  exact ⟨_, _, .inr (SqT.of hp), aI_0 _ _, k H2 a e2 na ha⟩
theorem lvs_len_ub : ∀ (t : Tr) (r z : List Nat), z ∈ t.lvs r → z.length ≤ r.length + t.ht
  | .lf, r, z, h => by rw [List.mem_singleton.mp h]; exact Nat.le_refl _
  | .nd a b, r, z, h => by
    simp only [Tr.ht]
    rcases List.mem_append.mp h with h | h
    · have := lvs_len_ub a _ z h
      rw [List.length_append, List.length_singleton] at this
      omega
    · have := lvs_len_ub b _ z h
      rw [List.length_append, List.length_singleton] at this
      omega
theorem lvs_len_at : ∀ (t : Tr) (r : List Nat), ∃ z ∈ t.lvs r, z.length = r.length + t.ht
  | .lf, r => ⟨r, List.mem_singleton.mpr rfl, rfl⟩
  | .nd a b, r => by
    simp only [Tr.ht]
    by_cases c : b.ht ≤ a.ht
    · obtain ⟨z, h1, h2⟩ := lvs_len_at a (r ++ [108])
      rw [List.length_append, List.length_singleton] at h2
      exact ⟨z, List.mem_append_left _ h1, by omega⟩
    · obtain ⟨z, h1, h2⟩ := lvs_len_at b (r ++ [114])
      rw [List.length_append, List.length_singleton] at h2
      exact ⟨z, List.mem_append_right _ h1, by omega⟩
def sp_height (K : PySem.W.Frag) (aI : Addr) : Sp := fun vs H Q E => ∃ v, vs = [v] ∧ Ask K aI E H v fun t => ∀ H', Ex H H' → Q (.int (t.ht : Int)) H'
theorem pu_height (K : PySem.W.Frag) (aI : Addr) (vs : List V) (H : Hp) (Q : VK) (E : XK) (h : sp_height K aI vs H Q E) : rd_height K (sp_check_tree K aI) sp_addresses_of_leaves E { nx := fun _ H' => Q .non H', rt := Q } (L2.start N_height vs) H := by
  obtain ⟨v, rfl, ⟨tv, f⟩ | ⟨t, rfl, hn, k⟩⟩ := h
  · show rd_height K _ _ _ _ [some _, none] H
    unfold rd_height
    walk_at "go"
    exact ⟨v, false, rfl, tv, fun z => (by cases z), fun _ => f⟩
  · show rd_height K _ _ _ _ [some _, none] H
    unfold rd_height mLc
    walk_at "go"
    refine ⟨_, true, rfl, tv_tree K H t hn, fun _ H1 e => ?_, fun z => (by cases z)⟩
    walk_at "go"
    refine ⟨t, rfl, hn, fun H2 p e2 np hp => ?_⟩
    walk_at "go"
    refine ⟨_, .inl ⟨SqL.of hp, fun D hD => ?_⟩⟩
    have hth := t.ht_le
    refine (?lp : ∀ (r acc : List (List Nat)) (Hx : Hp), Ex H2 Hx → Hx D = some (.lst ((acc.map fun z => (z.length : Int)).map V.int)) → acc ++ r = t.lvs [] → cV _ _ _ _ _ _ D _ (tx r) Hx) (t.lvs []) [] _ (Ex.new hD) upd_same rfl
    intro r
    induction r with
    | nil =>
      intro acc Hx ex hx hacc
      rw [List.append_nil] at hacc
      subst hacc
      simp only [tx, List.map_nil, cV]
      refine ⟨SqL.of (ex _ _ hp), ?_⟩
      refine ⟨_, SqL.of hx, by rw [List.length_map, Tr.lvs_len]; omega, fun m hm hub => ?_⟩
      have em : m = (t.ht : Int) := by
        obtain ⟨z, h1, h2⟩ := List.mem_map.mp hm
        have := lvs_len_ub t [] z h1
        obtain ⟨y, g1, g2⟩ := lvs_len_at t []
        have := hub (y.length : Int) (List.mem_map.mpr ⟨y, g1, rfl⟩)
        simp only [List.length_nil] at *
        omega
      rw [em]
      exact k Hx (e.trans (e2.trans ex))
    | cons z r ih =>
      intro acc Hx ex hx hacc
      have hz : z ∈ t.lvs [] := by rw [← hacc]; simp
      have hzl := lvs_len_ub t [] z hz
      simp only [List.length_nil] at hzl
      have hal := congrArg List.length hacc
      simp only [List.length_append, List.length_cons, Tr.lvs_len] at hal
      simp only [tx, List.map_cons, cV]
      refine ⟨SqL.of (ex _ _ hp), ?_⟩
      simp only [tYes]
      walk_at "go"
      refine ⟨trivial, by walk_at "sz", _, hx, by rw [szl, List.length_map, List.length_map]; omega, ?_⟩
      refine ih (acc ++ [z]) _ (ex.mut hD) (by rw [upd_same]; simp) (by rw [← hacc]; simp)
end Pf

namespace Pf
open PySem PySem.Spec PyProof.Rows L2 M
local macro_rules | `(tactic| walk_at "go") => `(tactic| try simp only [↓q_par, ↓q_par3, tSeq, tIfS, tIf, tNot, mTest, tCB, tCons, tNil, mVar, M.gt, mC, Bool.not_true, Bool.not_false, Bool.false_eq_true, if_false, if_true, tNext, tAsg, gName, gSub, List.set_cons_zero, List.set_cons_succ, mFor, mIter, mRevS, S_cps, S_len, S_app, tOp, tSl, mPart, mUn, tNoPart, tRet, tRetN, tTup, tLst, tAnd, tOr, mAndV, mOrV, mNotV, tCall, tCallSD, tDrop, mPar, mPar3, mLstM, mStrM, mBits, mRng1, mRng2, mgTup, mgSeq, mgCons, mgNil, q_add1, q_add2, q_add3, q_add4, q_iadd1, q_iadd2, q_iadd3, q_sorted, q_sub, q_mul1, q_mul2, q_mul3, q_mod, q_div, q_pow, q_eq1, q_eq2, q_eq3, q_eq4, q_eq5, q_eq6, q_eq7, q_eq8, q_eq9, q_eq10, q_ne1, q_ne2, q_ne3, q_ne9, q_ne10, q_lt, q_le, q_gt, q_ge, q_inc1, q_ix1, q_ix2, q_sl1, q_sl2, q_set, q_len1, q_len2, q_int1, q_int2, q_max, q_min, q_abs, q_sum, q_list, q_isi1, q_is1, q_not1, q_isN1, q_isN2, q_isN3, q_isN4, q_join, q_count, q_split, q_app, q_pop, q_clear, q_isiE, q_repr, q_nin1, q_intab, q_ninta, q_ixtab, wipe, List.map_cons, List.map_nil, List.length_cons, List.length_nil, List.length_append, List.length_map, List.nil_append, List.cons_append, List.append_nil, cut_m3, cut_t3, cut_m1, cut_t1, cut_t2, S_eq, decide_eq_true_eq, Bool.not_eq_true', decide_eq_false_iff_not, ne_eq])
/-! the depths of leaves and heights, in plain Lean -/
def dps : Tr → Int → List Int
  | .lf, d => [d]
  | .nd a b, d => dps a (d + 1) ++ dps b (d + 1)
theorem dps_len : ∀ (t : Tr) (d : Int), (dps t d).length = t.n + 1
  | .lf, d => rfl
  | .nd a b, d => by simp only [dps, List.length_append, dps_len a, dps_len b, Tr.n]; omega
theorem dps_bd : ∀ (t : Tr) (d x : Int), x ∈ dps t d → d ≤ x ∧ x ≤ d + t.n
  | .lf, d, x, h => by
    have : x = d := by simpa [dps] using h
    simp only [Tr.n]; omega
  | .nd a b, d, x, h => by
    simp only [dps, List.mem_append] at h
    simp only [Tr.n]
    rcases h with h | h
    · have := dps_bd a _ x h; omega
    · have := dps_bd b _ x h; omega
/-- the greatest sum of a depth and a height -/
def hi : Int → List Int → List Int → Int
  | m, [], _ => m
  | m, _ :: _, [] => m
  | m, d :: ds, r :: rs => hi (if m < d + r then d + r else m) ds rs
theorem hi_app : ∀ (d1 r1 d2 r2 : List Int) (m : Int), d1.length = r1.length → hi m (d1 ++ d2) (r1 ++ r2) = hi (hi m d1 r1) d2 r2
  | [], [], d2, r2, m, _ => by simp [hi]
  | d :: d1, r :: r1, d2, r2, m, h => by
    simp only [List.cons_append, hi]
    exact hi_app d1 r1 d2 r2 _ (by simpa using h)
  | [], _ :: _, _, _, _, h => by simp at h
  | _ :: _, [], _, _, _, h => by simp at h
abbrev hts (hs : List Tr) : List Int := hs.map fun x => (x.ht : Int)
theorem hi_grow : ∀ (t : Tr) (hs : List Tr) (m d : Int), t.n + 1 ≤ hs.length → hi m (dps t d) (hts (hs.take (t.n + 1))) = max m (d + ((Tr.grow t hs).1.ht : Int)) ∧ (Tr.grow t hs).2 = hs.drop (t.n + 1)
  | .lf, [], m, d, h => by simp [Tr.n] at h
  | .lf, h :: r, m, d, _ => by
    simp only [Tr.n, Tr.grow, dps, hts, List.take_succ_cons, List.take_zero, List.map_cons, List.map_nil, hi, List.drop_succ_cons, List.drop_zero, and_true]
    split <;> omega
  | .nd a b, l, m, d, h => by
    simp only [Tr.n] at h ⊢
    obtain ⟨a1, a2⟩ := hi_grow a l m (d + 1) (by omega)
    obtain ⟨b1, b2⟩ := hi_grow b (l.drop (a.n + 1)) (max m (d + 1 + ((Tr.grow a l).1.ht : Int))) (d + 1) (by rw [List.length_drop]; omega)
    simp only [Tr.grow, a2, b2, dps, Tr.ht]
    refine ⟨?_, by rw [List.drop_drop]; congr 1; omega⟩
    rw [show a.n + b.n + 1 + 1 = (a.n + 1) + (b.n + 1) by omega, List.take_add, hts, List.map_append, hi_app _ _ _ _ _ (by rw [dps_len, List.length_map, List.length_take]; omega)]
    unfold hts at a1 b1
    rw [a1, b1]
    omega
theorem hi_ht (t : Tr) (hs : List Tr) (h : hs.length = t.n + 1) : hi 0 (dps t 0) (hts hs) = ((Tr.grow t hs).1.ht : Int) := by
  have := (hi_grow t hs 0 0 (by omega)).1
  rw [← h, List.take_length] at this
  rw [this]; omega
theorem hi_ge : ∀ (ds rs : List Int) (m : Int), m ≤ hi m ds rs
  | [], _, m => Int.le_refl _
  | _ :: _, [], m => Int.le_refl _
  | d :: ds, r :: rs, m => by
    have := hi_ge ds rs (if m < d + r then d + r else m)
    simp only [hi]
    split at this <;> rename_i c
    · rw [if_pos c]; omega
    · rw [if_neg c]; omega
theorem hi_ub : ∀ (ds rs : List Int) (m : Int) (i : Nat) (d r : Int), ds[i]? = some d → rs[i]? = some r → d + r ≤ hi m ds rs
  | [], _, m, i, d, r, h, _ => by simp at h
  | _ :: _, [], m, i, d, r, _, h => by simp at h
  | d :: ds, r :: rs, m, 0, x, y, h1, h2 => by
    simp only [List.getElem?_cons_zero, Option.some.injEq] at h1 h2
    subst h1 h2
    have := hi_ge ds rs (if m < d + r then d + r else m)
    simp only [hi]
    split at this <;> rename_i c
    · rw [if_pos c]; omega
    · rw [if_neg c]; omega
  | d :: ds, r :: rs, m, i + 1, x, y, h1, h2 => by
    simp only [List.getElem?_cons_succ] at h1 h2
    exact hi_ub ds rs _ i x y h1 h2
theorem hi_at : ∀ (ds rs : List Int) (m : Int), hi m ds rs = m ∨ ∃ (i : Nat) (d r : Int), ds[i]? = some d ∧ rs[i]? = some r ∧ hi m ds rs = d + r
  | [], _, m => .inl rfl
  | _ :: _, [], m => .inl rfl
  | d :: ds, r :: rs, m => by
    simp only [hi]
    rcases hi_at ds rs (if m < d + r then d + r else m) with h | ⟨i, x, y, h1, h2, h3⟩
    · by_cases c : m < d + r
      · rw [if_pos c] at h ⊢
        exact .inr ⟨0, d, r, rfl, rfl, h⟩
      · rw [if_neg c] at h ⊢
        exact .inl h
    · exact .inr ⟨i + 1, x, y, h1, h2, h3⟩
theorem hi_mono (c : Int) : ∀ (S F R : List Int) (m k : Int), S.length = F.length → (∀ (i : Nat) (s f : Int), S[i]? = some s → F[i]? = some f → s ≤ f + c) → m ≤ k + c → hi m S R ≤ hi k F R + c
  | [], F, R, m, k, hl, _, h => by
    obtain rfl := List.length_eq_zero_iff.mp hl.symm
    simpa [hi] using h
  | s :: S, [], R, m, k, hl, _, _ => by simp at hl
  | s :: S, f :: F, [], m, k, hl, _, h => by simpa [hi] using h
  | s :: S, f :: F, r :: R, m, k, hl, hd, h => by
    have h0 := hd 0 s f rfl rfl
    simp only [hi]
    refine hi_mono c S F R _ _ (by simpa using hl) (fun i x y h1 h2 => hd (i + 1) x y h1 h2) ?_
    split <;> split <;> omega
theorem hi_le (c : Int) (S F R : List Int) (hl : S.length = F.length) (hr : R.length = F.length) (h0 : F ≠ []) (hd : ∀ (i : Nat) (s f : Int), S[i]? = some s → F[i]? = some f → s ≤ f + c) (p1 : ∀ s ∈ S, 0 ≤ s) (p2 : ∀ f ∈ F, 0 ≤ f) (p3 : ∀ r ∈ R, 0 ≤ r) : hi 0 S R ≤ hi 0 F R + c := by
  cases F with
  | nil => exact absurd rfl h0
  | cons f F =>
    cases S with
    | nil => simp at hl
    | cons s S =>
      cases R with
      | nil => simp at hr
      | cons r R =>
        have a := p1 s List.mem_cons_self
        have b := p2 f List.mem_cons_self
        have d := p3 r List.mem_cons_self
        have h1 := hd 0 s f rfl rfl
        simp only [hi]
        refine hi_mono c S F R _ _ (by simpa using hl) (fun i x y h1 h2 => hd (i + 1) x y h1 h2) ?_
        split <;> split <;> omega
/-- one comb, higher than all depths -/
def one (n k : Nat) : List Int := (List.range n).map fun i => if i = k then 60 else 0
theorem hi_one (D : List Int) (n k : Nat) (d : Int) (hn : D.length = n) (hb : ∀ x ∈ D, 0 ≤ x ∧ x ≤ 60) (hk : D[k]? = some d) : hi 0 D (one n k) = d + 60 := by
  have kl : k < n := by rw [← hn]; exact (List.getElem?_eq_some_iff.mp hk).1
  have at_ : ∀ i, i < n → (one n k)[i]? = some (if i = k then 60 else 0) := fun i h => by
    unfold one
    rw [List.getElem?_map, List.getElem?_range h]; rfl
  have h1 := hi_ub D (one n k) 0 k d 60 hk (by rw [at_ k kl, if_pos rfl])
  have h2 := hb d (List.mem_of_getElem? hk)
  rcases hi_at D (one n k) 0 with h | ⟨i, x, y, g1, g2, h⟩
  · omega
  · have il : i < n := by rw [← hn]; exact (List.getElem?_eq_some_iff.mp g1).1
    rw [at_ i il] at g2
    have g3 := hb x (List.mem_of_getElem? g1)
    by_cases c : i = k
    · subst c
      rw [hk] at g1
      simp only [if_pos, Option.some.injEq] at g1 g2
      omega
    · rw [if_neg c, Option.some.injEq] at g2
      omega
abbrev dif (m : Tr × Tr) : List Int := List.zipWith (fun a b => b - a) (dps m.1 0) (dps m.2 0)
theorem dif_swap (m : Tr × Tr) : dif (m.2, m.1) = (dif m).map fun x => -x := by
  unfold dif
  rw [List.map_zipWith, List.zipWith_comm]
  congr 1
  funext a b
  omega
theorem dif_len (m : Tr × Tr) (h : m.1.n = m.2.n) : (dif m).length = m.1.n + 1 := by
  unfold dif
  rw [List.length_zipWith, dps_len, dps_len, h, Nat.min_self]
theorem dif_at {m : Tr × Tr} {i : Nat} {f s : Int} (h1 : (dps m.1 0)[i]? = some f) (h2 : (dps m.2 0)[i]? = some s) : (dif m)[i]? = some (s - f) := by
  unfold dif
  rw [List.getElem?_zipWith, h1, h2]
/-- the least and the greatest -/
structure Ends2 (l : List Int) (a b : Int) : Prop where
  ma : a ∈ l
  mb : b ∈ l
  la : ∀ x ∈ l, a ≤ x
  lb : ∀ x ∈ l, x ≤ b
theorem Ends2.neg {l : List Int} {a b : Int} (h : Ends2 l a b) : Ends2 (l.map fun x => -x) (-b) (-a) := by
  refine ⟨List.mem_map.mpr ⟨b, h.mb, rfl⟩, List.mem_map.mpr ⟨a, h.ma, rfl⟩, fun x hx => ?_, fun x hx => ?_⟩
  · obtain ⟨y, hy, rfl⟩ := List.mem_map.mp hx
    have := h.lb y hy; omega
  · obtain ⟨y, hy, rfl⟩ := List.mem_map.mp hx
    have := h.la y hy; omega
theorem Ends2.one {l : List Int} {a b c d : Int} (h : Ends2 l a b) (k : Ends2 l c d) : a = c ∧ b = d := by
  have h1 := h.la c k.ma
  have h2 := k.la a h.ma
  have h3 := h.lb d k.mb
  have h4 := k.lb b h.mb
  omega
theorem Ends2.in {m : Tr × Tr} {a b : Int} (h : Ends2 (dif m) a b) (hm : m.1.n = m.2.n) (R : List Int) (hr : R.length = m.1.n + 1) (hp : ∀ r ∈ R, 0 ≤ r) : a ≤ hi 0 (dps m.2 0) R - hi 0 (dps m.1 0) R ∧ hi 0 (dps m.2 0) R - hi 0 (dps m.1 0) R ≤ b := by
  have p1 : ∀ s ∈ dps m.1 0, 0 ≤ s := fun s z => (dps_bd _ _ _ z).1
  have p2 : ∀ s ∈ dps m.2 0, 0 ≤ s := fun s z => (dps_bd _ _ _ z).1
  have l1 := dps_len m.1 0
  have l2 := dps_len m.2 0
  have n1 : dps m.1 0 ≠ [] := fun z => by rw [z] at l1; simp at l1
  have n2 : dps m.2 0 ≠ [] := fun z => by rw [z] at l2; simp at l2
  have h1 := hi_le b (dps m.2 0) (dps m.1 0) R (by omega) (by omega) n1 (fun i s f hs hf => by
    have := h.lb _ (List.mem_of_getElem? (dif_at hf hs)); omega) p2 p1 hp
  have h2 := hi_le (-a) (dps m.1 0) (dps m.2 0) R (by omega) (by omega) n2 (fun i s f hs hf => by
    have := h.la _ (List.mem_of_getElem? (dif_at hs hf)); omega) p1 p2 hp
  omega
theorem dif_one (m : Tr × Tr) (hm : m.1.n = m.2.n) (h6 : m.1.n ≤ 60) (c : Int) (hc : c ∈ dif m) : hi 0 (dps m.2 0) (one (m.1.n + 1) (List.idxOf c (dif m))) - hi 0 (dps m.1 0) (one (m.1.n + 1) (List.idxOf c (dif m))) = c := by
  have kl : List.idxOf c (dif m) < m.1.n + 1 := by rw [← dif_len m hm]; exact List.idxOf_lt_length_iff.mpr hc
  have l1 := dps_len m.1 0
  have l2 := dps_len m.2 0
  have g1 : (dps m.1 0)[List.idxOf c (dif m)]? = some ((dps m.1 0)[List.idxOf c (dif m)]'(by omega)) := List.getElem?_eq_getElem _
  have g2 : (dps m.2 0)[List.idxOf c (dif m)]? = some ((dps m.2 0)[List.idxOf c (dif m)]'(by omega)) := List.getElem?_eq_getElem _
  have g3 := dif_at g1 g2
  have g4 : (dif m)[List.idxOf c (dif m)]? = some c := by
    rw [List.getElem?_eq_getElem (List.idxOf_lt_length_iff.mpr hc), List.getElem_idxOf]
  rw [g4, Option.some.injEq] at g3
  rw [hi_one _ _ _ _ l1 (fun x hx => by have := dps_bd _ _ _ hx; omega) g1, hi_one _ _ _ _ (l2.trans (by rw [hm])) (fun x hx => by have := dps_bd _ _ _ hx; omega) g2]
  omega
end Pf

namespace Pf
open PySem PySem.Spec PyProof.Rows L2 M
local macro_rules | `(tactic| walk_at "go") => `(tactic| try simp only [↓q_par, ↓q_par3, tSeq, tIfS, tIf, tNot, mTest, tCB, tCons, tNil, mVar, M.gt, mC, Bool.not_true, Bool.not_false, Bool.false_eq_true, if_false, if_true, tNext, tAsg, gName, gSub, List.set_cons_zero, List.set_cons_succ, mFor, mIter, mRevS, S_cps, S_len, S_app, tOp, tSl, mPart, mUn, tNoPart, tRet, tRetN, tTup, tLst, tAnd, tOr, mAndV, mOrV, mNotV, tCall, tCallSD, tDrop, mPar, mPar3, mLstM, mStrM, mBits, mRng1, mRng2, mgTup, mgSeq, mgCons, mgNil, q_add1, q_add2, q_add3, q_add4, q_iadd1, q_iadd2, q_iadd3, q_sorted, q_sub, q_mul1, q_mul2, q_mul3, q_mod, q_div, q_pow, q_eq1, q_eq2, q_eq3, q_eq4, q_eq5, q_eq6, q_eq7, q_eq8, q_eq9, q_eq10, q_ne1, q_ne2, q_ne3, q_ne9, q_ne10, q_lt, q_le, q_gt, q_ge, q_inc1, q_ix1, q_ix2, q_sl1, q_sl2, q_set, q_len1, q_len2, q_int1, q_int2, q_max, q_min, q_abs, q_sum, q_list, q_isi1, q_is1, q_not1, q_isN1, q_isN2, q_isN3, q_isN4, q_join, q_count, q_split, q_app, q_pop, q_clear, q_isiE, q_repr, q_nin1, q_intab, q_ninta, q_ixtab, wipe, List.map_cons, List.map_nil, List.length_cons, List.length_nil, List.length_append, List.length_map, List.nil_append, List.cons_append, List.append_nil, cut_m3, cut_t3, cut_m1, cut_t1, cut_t2, S_eq, decide_eq_true_eq, Bool.not_eq_true', decide_eq_false_iff_not, ne_eq])
local macro_rules | `(tactic| walk_at "hh") => `(tactic| first | assumption | exact upd_same | exact Ex.new (by assumption) _ _ (by walk_at "hh") | exact Ex.at (by assumption) (by assumption) | solve_by_elim [Ex.at])
local macro_rules | `(tactic| walk_at "ee") => `(tactic| first | assumption | exact Ex.refl _ | exact Ex.push (by walk_at "ee") (by assumption) | exact Ex.trans (by assumption) (by assumption) | solve_by_elim [Ex.trans])
local macro_rules | `(tactic| walk_at "sz") => `(tactic| first | (rw [szl]; omega) | (simp only [szl, tx_len, sg_len, List.length_map, List.length_append, List.length_cons, List.length_nil, List.length_singleton, List.length_take, List.length_drop, List.length_reverse, S_len]; omega))
local macro_rules | `(tactic| walk_at "gx") => `(tactic| try simp only [↓q_par, ↓q_par3, ↓tSeq, ↓tIfS, ↓tIf, ↓tNot, ↓mTest, ↓tCB, ↓tCons, ↓tNil, ↓mVar, M.gt, ↓mC, Bool.not_true, Bool.not_false, Bool.false_eq_true, if_false, if_true, ↓tNext, ↓tAsg, ↓gName, ↓gSub, List.set_cons_zero, List.set_cons_succ, ↓mFor, ↓mIter, ↓mRevS, S_cps, S_len, S_app, ↓tOp, ↓tSl, ↓mPart, ↓mUn, ↓tNoPart, ↓tRet, ↓tRetN, ↓tTup, ↓tLst, ↓tAnd, ↓tOr, ↓mAndV, ↓mOrV, ↓mNotV, ↓tCall, ↓tCallSD, ↓tDrop, ↓mPar, ↓mPar3, ↓mLstM, ↓mStrM, ↓mBits, ↓mRng1, ↓mRng2, ↓mgTup, ↓mgSeq, ↓mgCons, ↓mgNil, q_add1, q_add2, q_add3, q_add4, q_iadd1, q_iadd2, q_iadd3, q_sorted, q_sub, q_mul1, q_mul2, q_mul3, q_mod, q_div, q_pow, q_eq1, q_eq2, q_eq3, q_eq4, q_eq5, q_eq6, q_eq7, q_eq8, q_eq9, q_eq10, q_ne1, q_ne2, q_ne3, q_ne9, q_ne10, q_lt, q_le, q_gt, q_ge, q_inc1, q_ix1, q_ix2, q_sl1, q_sl2, q_set, q_len1, q_len2, q_int1, q_int2, q_max, q_min, q_abs, q_sum, q_list, q_isi1, q_is1, q_not1, q_isN1, q_isN2, q_isN3, q_isN4, q_join, q_count, q_split, q_app, q_pop, q_clear, q_isiE, q_repr, q_nin1, q_intab, q_ninta, q_ixtab, wipe, List.map_cons, List.map_nil, List.length_cons, List.length_nil, List.length_append, List.length_map, List.nil_append, List.cons_append, List.append_nil, cut_m3, cut_t3, cut_m1, cut_t1, cut_t2, S_eq, decide_eq_true_eq, Bool.not_eq_true', decide_eq_false_iff_not, ne_eq])
local macro_rules | `(tactic| walk_at "mv") => `(tactic| try simp only [tMake, tMakeV, tMeth, tProp, tFldC, sFldC, tInst, mInvO, ClX.tCMeth, tJoin, tJs, tFmt, List.append_nil])
local macro_rules | `(tactic| walk_at "mg") => `(tactic| (walk_at "gx"; walk_at "mv"; walk_at "gx"))
local macro_rules | `(tactic| walk_at "mo") => `(tactic| first | assumption | (apply Mo.ex (Ex.new (by assumption)); walk_at "mo") | (apply Mo.ex; assumption; walk_at "mo"))
local macro_rules | `(tactic| walk_at "mx") => `(tactic| first | exact Ex.refl _ | assumption | (refine Ex.push ?_ (by assumption); walk_at "mx") | (refine Ex.trans ?_ (by assumption); walk_at "mx"))
/-! depths, depth_pairs, change -/
section
variable (K : PySem.W.Frag) (aI aM C : Addr) (N : Nat)
def sp_depths : Sp := fun vs H Q _ => ∃ (v : V) (t : Tr) (d : Int), vs = [v, .int d] ∧ Nst K H v t ∧ t.ht < N ∧ t.n ≤ 100000 ∧ ∀ H' p, Ex H H' → H p = none → H' p = some (.lst ((dps t d).map V.int)) → Q (.ref p) H'
theorem pu_depths (vs : List V) (H : Hp) (Q : VK) (E : XK) (h : sp_depths K (N + 1) vs H Q E) : rd_depths K (sp_depths K N) { nx := fun _ H' => Q .non H', rt := Q } (L2.start N_depths vs) H := by
  obtain ⟨v, t, d, rfl, ht, hN, hl, k⟩ := h
  obtain ⟨a, rfl⟩ := ht.ref
  show rd_depths K _ _ [some _, some _] H
  unfold rd_depths
  walk_at "go"
  refine ⟨by walk_at "sz", fun p hp => ?_⟩
  refine eq_nil (ht.ex (Ex.new hp)) (SqT.of upd_same) ?_
  have e1 := Ex.new (o := .tup []) hp
  cases ht with
  | lf h1 =>
    walk_at "go"
    refine ⟨by walk_at "sz", fun q hq => ?_⟩
    exact k _ q (e1.push hq) (e1.free hq) upd_same
  | @nd _ l r t u h1 h2 h3 =>
    simp only [Tr.ht] at hN
    simp only [Tr.n] at hl
    walk_at "go"
    rw [if_neg (by simp)]
    refine ⟨_, _, .inr (e1.T h1), aI_0 _ _, ?_⟩
    refine ⟨l, t, d + 1, rfl, h2.ex e1, by omega, by omega, fun H1 p1 e2 n1 r1 => ?_⟩
    walk_at "go"
    have e3 := e1.trans e2
    refine ⟨_, _, .inr (e3.T h1), aI_1 _ _ _, ?_⟩
    refine ⟨r, u, d + 1, rfl, h3.ex e3, by omega, by omega, fun H2 p2 e4 n2 r2 => ?_⟩
    walk_at "go"
    refine ⟨_, _, e4 _ _ r1, r2, by rw [szl, List.length_map, List.length_map, dps_len, dps_len]; omega, fun p3 hp3 => ?_⟩
    refine k _ p3 ((e3.trans e4).push hp3) ((e3.trans e4).free hp3) ?_
    rw [upd_same, dps, List.map_append]
def sp__law_depths : Sp := fun vs H Q _ => ∃ (v : V) (t : Tr) (d : Int), vs = [v, .int d] ∧ Nst K H v t ∧ t.ht < N ∧ t.n ≤ 100000 ∧ ∀ H' p, Ex H H' → H p = none → H' p = some (.lst ((dps t d).map V.int)) → Q (.ref p) H'
theorem pu__law_depths (vs : List V) (H : Hp) (Q : VK) (E : XK) (h : sp__law_depths K (N + 1) vs H Q E) : rd__law_depths K (sp__law_depths K N) { nx := fun _ H' => Q .non H', rt := Q } (L2.start N__law_depths vs) H := by
  obtain ⟨v, t, d, rfl, ht, hN, hl, k⟩ := h
  obtain ⟨a, rfl⟩ := ht.ref
  show rd__law_depths K _ _ [some _, some _] H
  unfold rd__law_depths
  walk_at "go"
  refine ⟨by walk_at "sz", fun p hp => ?_⟩
  refine eq_nil (ht.ex (Ex.new hp)) (SqT.of upd_same) ?_
  have e1 := Ex.new (o := .tup []) hp
  cases ht with
  | lf h1 =>
    walk_at "go"
    refine ⟨by walk_at "sz", fun q hq => ?_⟩
    exact k _ q (e1.push hq) (e1.free hq) upd_same
  | @nd _ l r t u h1 h2 h3 =>
    simp only [Tr.ht] at hN
    simp only [Tr.n] at hl
    walk_at "go"
    rw [if_neg (by simp)]
    refine ⟨_, _, .inr (e1.T h1), aI_0 _ _, ?_⟩
    refine ⟨l, t, d + 1, rfl, h2.ex e1, by omega, by omega, fun H1 p1 e2 n1 r1 => ?_⟩
    walk_at "go"
    have e3 := e1.trans e2
    refine ⟨_, _, .inr (e3.T h1), aI_1 _ _ _, ?_⟩
    refine ⟨r, u, d + 1, rfl, h3.ex e3, by omega, by omega, fun H2 p2 e4 n2 r2 => ?_⟩
    walk_at "go"
    refine ⟨_, _, e4 _ _ r1, r2, by rw [szl, List.length_map, List.length_map, dps_len, dps_len]; omega, fun p3 hp3 => ?_⟩
    refine k _ p3 ((e3.trans e4).push hp3) ((e3.trans e4).free hp3) ?_
    rw [upd_same, dps, List.map_append]
theorem ht_n' : ∀ t : Tr, t.ht ≤ t.n
  | .lf => Nat.le_refl _
  | .nd a b => by
    have h1 := ht_n' a
    have h2 := ht_n' b
    simp only [Tr.ht, Tr.n]; omega
abbrev dz (m : Tr × Tr) : List (V × V) := ((dps m.1 0).map V.int).zip ((dps m.2 0).map V.int)
def sp_depth_pairs : Sp := fun vs H Q _ => ∃ v m, vs = [v] ∧ Mv C H v m ∧ m.1.n = m.2.n ∧ m.1.n ≤ 1000 ∧ m.1.n < N ∧ ∀ H' p ts, Ex H H' → H p = none → H' p = some (.lst ts) → PzL H' ts (dz m) → Q (.ref p) H'
theorem pu_depth_pairs (vs : List V) (H : Hp) (Q : VK) (E : XK) (h : sp_depth_pairs C N vs H Q E) : rd_depth_pairs K (sp_depths K N) (sp_nested K aI) C (sp_Move_after C) (sp_Move_before C) E { nx := fun _ H' => Q .non H', rt := Q } (L2.start N_depth_pairs vs) H := by
  obtain ⟨v, m, rfl, hv, hm, m1, mN, k⟩ := h
  show rd_depth_pairs K _ _ _ _ _ _ _ [some _] H
  unfold rd_depth_pairs
  have g1 := ht_n' m.1
  have g2 := ht_n' m.2
  walk_at "mg"
  unfold mZipL
  walk_at "mg"
  refine p_before C hv ?_
  refine ⟨_, rfl, .inr ⟨m.1, rfl, by omega, fun H2 w e2 hw => ?_⟩⟩
  walk_at "mg"
  refine ⟨w, m.1, 0, rfl, hw, by omega, by omega, fun H3 p e3 np hp => ?_⟩
  walk_at "mg"
  refine p_after C ((hv.ex e2).ex e3) ?_
  refine ⟨_, rfl, .inr ⟨m.2, rfl, by omega, fun H4 y e4 hy => ?_⟩⟩
  walk_at "mg"
  refine ⟨y, m.2, 0, rfl, hy, by omega, by omega, fun H5 q e5 nq hq => ?_⟩
  have e15 := e2.trans (e3.trans (e4.trans e5))
  refine ⟨p, q, _, _, rfl, SqL.of (e5 _ _ (e4 _ _ hp)), SqL.of hq, ?_, fun H6 r ts e6 nr hr hz => ?_⟩
  · rw [List.length_map, List.length_map, dps_len, dps_len, hm]
  · exact k H6 r ts (e15.trans e6) (e15.free nr) hr hz
theorem lc_dif (G : Hp → Prop) (x0 x1 x2 : Option V) (D : Addr) (Q : Hp → Prop) (H1 : Hp) (hG : ∀ Hx, Ex H1 Hx → G Hx) (hD : H1 D = none) (dm : List Int) (hd : dm.length ≤ 100000) (k : ∀ Hx, Ex H1 Hx → Hx D = some (.lst (dm.map V.int)) → Q Hx) :
    ∀ (us : List V) (F S acc : List Int) (Hx : Hp), PzL H1 us ((F.map V.int).zip (S.map V.int)) → F.length = S.length → Ex H1 Hx → Hx D = some (.lst (acc.map V.int)) → acc ++ List.zipWith (fun a b => b - a) F S = dm →
    cV G (mgTup K 2 (mgCons (gName 3) (mgCons (gName 4) mgNil))) tYes (tCB (mInt) (tCons (tOp mSub (mVar 4) (mVar 3)) tNil)) [3, 4] [x0, x1, x2, none, none] D Q us Hx
  | [], F, S, acc, Hx, hz, hl, e, h, hs => by
    cases F with
    | cons f F =>
      cases S with
      | nil => simp at hl
      | cons s S => cases hz
    | nil =>
      simp only [List.zipWith_nil_left, List.append_nil] at hs
      subst hs
      exact ⟨hG Hx e, k Hx e h⟩
  | u :: us, F, S, acc, Hx, hz, hl, e, h, hs => by
    cases F with
    | nil => cases hz
    | cons f F =>
      cases S with
      | nil => simp at hl
      | cons s S =>
        cases hz with
        | cons ht hz =>
          have ih := lc_dif G x0 x1 x2 D Q H1 hG hD dm hd k us F S (acc ++ [s - f])
          have al := congrArg List.length hs
          simp only [List.length_append, List.zipWith_cons_cons, List.length_cons] at al
          simp only [cV]
          refine ⟨hG Hx e, ?_⟩
          refine ⟨_, SqT.of (e _ _ ht), rfl, ?_⟩
          simp only [tYes]
          walk_at "go"
          refine ⟨trivial, _, h, by rw [szl, List.length_map]; omega, ?_⟩
          refine ih _ hz (by simpa using hl) (e.mut hD) (by rw [upd_same]; simp) (by rw [← hs]; simp)
def sp_change : Sp := fun vs H Q E => ∃ v, vs = [v] ∧ ((∃ m, Mv C H v m ∧ m.1.n = m.2.n ∧ m.1.n ≤ 1000 ∧ m.1.n < N ∧ ∀ a b, Ends2 (dif m) a b → ∀ H' p, Ex H H' → H p = none → H' p = some (.tup [.int a, .int b]) → Q (.ref p) H') ∨ (NoI K H v ∧ Fail E H aM v))
theorem pu_change (vs : List V) (H : Hp) (Q : VK) (E : XK) (h : sp_change K aM C N vs H Q E) : rd_change K (sp_check_move K aM C) (sp_depth_pairs C N) E { nx := fun _ H' => Q .non H', rt := Q } (L2.start N_change vs) H := by
  obtain ⟨v, rfl, ⟨m, hv, hm, m1, mN, k⟩ | ⟨no, f⟩⟩ := h
  · show rd_change K _ _ _ _ [some _, none, none, none, none] H
    unfold rd_change mLc
    have dl := dif_len m hm
    have l1 := dps_len m.1 0
    have l2 := dps_len m.2 0
    walk_at "go"
    refine ⟨v, rfl, .inl ⟨m, hv, ?_⟩⟩
    walk_at "go"
    refine ⟨v, m, rfl, hv, hm, m1, mN, fun H1 p ts e1 np hp hz => ?_⟩
    walk_at "go"
    refine ⟨_, .inl ⟨SqL.of hp, fun D hD => ?_⟩⟩
    refine lc_dif K _ _ _ _ D _ H1 (fun Hx e => SqL.of (e _ _ hp)) hD (dif m) (by omega) (fun H2 e2 h2 => ?_) ts _ _ [] _ hz (by omega) (Ex.new hD) upd_same rfl
    refine ⟨_, SqL.of h2, by omega, fun a ha hla => ?_⟩
    walk_at "go"
    refine ⟨_, .inl ⟨SqL.of (e2 _ _ hp), fun D2 hD2 => ?_⟩⟩
    refine lc_dif K _ _ _ _ D2 _ H2 (fun Hx e => SqL.of (e _ _ (e2 _ _ hp))) hD2 (dif m) (by omega) (fun H3 e3 h3 => ?_) ts _ _ [] _ (hz.ex e2) (by omega) (Ex.new hD2) upd_same rfl
    refine ⟨_, SqL.of h3, by omega, fun b hb hlb => ?_⟩
    walk_at "go"
    refine ⟨by walk_at "sz", fun q hq => ?_⟩
    have e13 := e1.trans (e2.trans e3)
    exact k a b ⟨ha, hb, hla, hlb⟩ _ q (e13.push hq) (e13.free hq) upd_same
  · show rd_change K _ _ _ _ [some _, none, none, none, none] H
    unfold rd_change
    walk_at "go"
    exact ⟨v, rfl, .inr ⟨no, f⟩⟩
end
end Pf

namespace Pf
open PySem PySem.Spec PyProof.Rows L2 M
local macro_rules | `(tactic| walk_at "go") => `(tactic| try simp only [↓q_par, ↓q_par3, tSeq, tIfS, tIf, tNot, mTest, tCB, tCons, tNil, mVar, M.gt, mC, Bool.not_true, Bool.not_false, Bool.false_eq_true, if_false, if_true, tNext, tAsg, gName, gSub, List.set_cons_zero, List.set_cons_succ, mFor, mIter, mRevS, S_cps, S_len, S_app, tOp, tSl, mPart, mUn, tNoPart, tRet, tRetN, tTup, tLst, tAnd, tOr, mAndV, mOrV, mNotV, tCall, tCallSD, tDrop, mPar, mPar3, mLstM, mStrM, mBits, mRng1, mRng2, mgTup, mgSeq, mgCons, mgNil, q_add1, q_add2, q_add3, q_add4, q_iadd1, q_iadd2, q_iadd3, q_sorted, q_sub, q_mul1, q_mul2, q_mul3, q_mod, q_div, q_pow, q_eq1, q_eq2, q_eq3, q_eq4, q_eq5, q_eq6, q_eq7, q_eq8, q_eq9, q_eq10, q_ne1, q_ne2, q_ne3, q_ne9, q_ne10, q_lt, q_le, q_gt, q_ge, q_inc1, q_ix1, q_ix2, q_sl1, q_sl2, q_set, q_len1, q_len2, q_int1, q_int2, q_max, q_min, q_abs, q_sum, q_list, q_isi1, q_is1, q_not1, q_isN1, q_isN2, q_isN3, q_isN4, q_join, q_count, q_split, q_app, q_pop, q_clear, q_isiE, q_repr, q_nin1, q_intab, q_ninta, q_ixtab, wipe, List.map_cons, List.map_nil, List.length_cons, List.length_nil, List.length_append, List.length_map, List.nil_append, List.cons_append, List.append_nil, cut_m3, cut_t3, cut_m1, cut_t1, cut_t2, S_eq, decide_eq_true_eq, Bool.not_eq_true', decide_eq_false_iff_not, ne_eq])
local macro_rules | `(tactic| walk_at "hh") => `(tactic| first | assumption | exact upd_same | exact Ex.new (by assumption) _ _ (by walk_at "hh") | exact Ex.at (by assumption) (by assumption) | solve_by_elim [Ex.at])
local macro_rules | `(tactic| walk_at "ee") => `(tactic| first | assumption | exact Ex.refl _ | exact Ex.push (by walk_at "ee") (by assumption) | exact Ex.trans (by assumption) (by assumption) | solve_by_elim [Ex.trans])
local macro_rules | `(tactic| walk_at "sz") => `(tactic| first | (rw [szl]; omega) | (simp only [szl, tx_len, sg_len, List.length_map, List.length_append, List.length_cons, List.length_nil, List.length_singleton, List.length_take, List.length_drop, List.length_reverse, S_len]; omega))
local macro_rules | `(tactic| walk_at "gx") => `(tactic| try simp only [↓q_par, ↓q_par3, ↓tSeq, ↓tIfS, ↓tIf, ↓tNot, ↓mTest, ↓tCB, ↓tCons, ↓tNil, ↓mVar, M.gt, ↓mC, Bool.not_true, Bool.not_false, Bool.false_eq_true, if_false, if_true, ↓tNext, ↓tAsg, ↓gName, ↓gSub, List.set_cons_zero, List.set_cons_succ, ↓mFor, ↓mIter, ↓mRevS, S_cps, S_len, S_app, ↓tOp, ↓tSl, ↓mPart, ↓mUn, ↓tNoPart, ↓tRet, ↓tRetN, ↓tTup, ↓tLst, ↓tAnd, ↓tOr, ↓mAndV, ↓mOrV, ↓mNotV, ↓tCall, ↓tCallSD, ↓tDrop, ↓mPar, ↓mPar3, ↓mLstM, ↓mStrM, ↓mBits, ↓mRng1, ↓mRng2, ↓mgTup, ↓mgSeq, ↓mgCons, ↓mgNil, q_add1, q_add2, q_add3, q_add4, q_iadd1, q_iadd2, q_iadd3, q_sorted, q_sub, q_mul1, q_mul2, q_mul3, q_mod, q_div, q_pow, q_eq1, q_eq2, q_eq3, q_eq4, q_eq5, q_eq6, q_eq7, q_eq8, q_eq9, q_eq10, q_ne1, q_ne2, q_ne3, q_ne9, q_ne10, q_lt, q_le, q_gt, q_ge, q_inc1, q_ix1, q_ix2, q_sl1, q_sl2, q_set, q_len1, q_len2, q_int1, q_int2, q_max, q_min, q_abs, q_sum, q_list, q_isi1, q_is1, q_not1, q_isN1, q_isN2, q_isN3, q_isN4, q_join, q_count, q_split, q_app, q_pop, q_clear, q_isiE, q_repr, q_nin1, q_intab, q_ninta, q_ixtab, wipe, List.map_cons, List.map_nil, List.length_cons, List.length_nil, List.length_append, List.length_map, List.nil_append, List.cons_append, List.append_nil, cut_m3, cut_t3, cut_m1, cut_t1, cut_t2, S_eq, decide_eq_true_eq, Bool.not_eq_true', decide_eq_false_iff_not, ne_eq])
local macro_rules | `(tactic| walk_at "mv") => `(tactic| try simp only [tMake, tMakeV, tMeth, tProp, tFldC, sFldC, tInst, mInvO, ClX.tCMeth, tJoin, tJs, tFmt, List.append_nil])
local macro_rules | `(tactic| walk_at "mg") => `(tactic| (walk_at "gx"; walk_at "mv"; walk_at "gx"))
local macro_rules | `(tactic| walk_at "mo") => `(tactic| first | assumption | (apply Mo.ex (Ex.new (by assumption)); walk_at "mo") | (apply Mo.ex; assumption; walk_at "mo"))
local macro_rules | `(tactic| walk_at "mx") => `(tactic| first | exact Ex.refl _ | assumption | (refine Ex.push ?_ (by assumption); walk_at "mx") | (refine Ex.trans ?_ (by assumption); walk_at "mx"))
/-! combs, the greatest sum, and what is done with a row -/
section
variable (K : PySem.W.Frag) (aI aL aM aN C : Addr) (N : Nat)
def sp__law_comb : Sp := fun vs H Q _ => ∃ (g : Addr) (c k : Nat), vs = [.ref g, .int k] ∧ k ≤ 1000 ∧ c + 10 * k < 2 ^ 90 ∧ Pu H g c ∧ ∀ H' (t : Tr), Fm [g] H H' → Pu H' g (c + 10 * k) → t.ht = k → t.n = k → Q (.str (S t.s)) H'
theorem pu__law_comb (vs : List V) (H : Hp) (Q : VK) (E : XK) (h : sp__law_comb vs H Q E) : rd__law_comb K sp__law_draw { nx := fun _ H' => Q .non H', rt := Q } (L2.start N__law_comb vs) H := by
  obtain ⟨g, c, m, rfl, hm, hc, pu, k⟩ := h
  show rd__law_comb K _ _ [some _, some _, none, none] H
  unfold rd__law_comb
  walk_at "go"
  refine ⟨⟨by omega, by omega⟩, ?_⟩
  rw [show upto 0 ((m : Int)).toNat = (List.range m).map fun (i : Nat) => V.int (0 + (i : Int)) by simp [upto]]
  refine (?lp : ∀ (s : List Nat) (t : Tr) (v : Option V) (H1 : Hp), Fm [g] H H1 → Pu H1 g (c + 10 * t.n) → t.ht = t.n → t.n + s.length = m → fV _ _ _ _ (s.map fun (i : Nat) => V.int (0 + (i : Int))) [some (.ref g), some (.int m), some (.str (S t.s)), v] H1) (List.range m) .lf none _ (Fm.refl _ _) pu rfl (by simp [Tr.n])
  intro s
  induction s with
  | nil =>
    intro t v H1 f1 p1 ht hl
    simp only [List.map_nil, fV]
    walk_at "go"
    simp only [List.length_nil, Nat.add_zero] at hl
    exact ⟨trivial, k H1 t f1 (by rw [← hl]; exact p1) (by omega) hl⟩
  | cons i s ih =>
    intro t v H1 f1 p1 ht hl
    simp only [List.length_cons] at hl
    simp only [List.map_cons, fV]
    refine ⟨trivial, ?_⟩
    walk_at "go"
    refine ⟨g, c + 10 * t.n, 2, rfl, by decide, by decide, by omega, p1, fun H2 r f2 p2 r0 r1 => ?_⟩
    have l1 := t.s_len
    walk_at "go"
    by_cases c0 : r = 0
    · rw [if_pos c0]
      refine ⟨by walk_at "sz", by walk_at "sz", ?_⟩
      have := ih (.nd t .lf) (some (.int (0 + (i : Int)))) H2 (f1.trans f2) (by simp only [Tr.n]; exact p2.mono (by omega)) (by simp only [Tr.ht, Tr.n]; omega) (by simp only [Tr.n]; omega)
      simpa only [Tr.s, List.append_assoc, List.cons_append, List.nil_append] using this
    · rw [if_neg c0]
      refine ⟨by walk_at "sz", by walk_at "sz", ?_⟩
      have := ih (.nd .lf t) (some (.int (0 + (i : Int)))) H2 (f1.trans f2) (by simp only [Tr.n]; exact p2.mono (by omega)) (by simp only [Tr.ht, Tr.n]; omega) (by simp only [Tr.n]; omega)
      simpa only [Tr.s, List.append_assoc, List.cons_append, List.nil_append] using this
def sp__law_high : Sp := fun vs H Q _ => ∃ (a b : Addr) (ds rs : List Int), vs = [.ref a, .ref b] ∧ SqL K H a (ds.map V.int) ∧ SqL K H b (rs.map V.int) ∧ ∀ H', Ex H H' → Q (.int (hi 0 ds rs)) H'
theorem pu__law_high (vs : List V) (H : Hp) (Q : VK) (E : XK) (h : sp__law_high K vs H Q E) : rd__law_high K { nx := fun _ H' => Q .non H', rt := Q } (L2.start N__law_high vs) H := by
  obtain ⟨a, b, ds, rs, rfl, ha, hb, k⟩ := h
  show rd__law_high K _ [some _, some _, none, none, none] H
  unfold rd__law_high mZip
  walk_at "go"
  refine ⟨_, _, ha, hb, ?_⟩
  walk_at "go"
  refine (?lp : ∀ (F R : List Int) (m : Int) (x3 x4 : Option V) (H1 : Hp), Ex H H1 → hi m F R = hi 0 ds rs → fP _ _ _ _ ((F.map V.int).zip (R.map V.int)) [some (.ref a), some (.ref b), some (.int m), x3, x4] H1) ds rs 0 none none H (Ex.refl H) rfl
  intro F
  induction F with
  | nil =>
    intro R m x3 x4 H1 e1 he
    simp only [List.map_nil, List.zip_nil_left, fP]
    refine ⟨⟨e1.L ha, e1.L hb⟩, ?_⟩
    walk_at "go"
    rw [show m = hi 0 ds rs by rw [← he]; rfl]
    exact k H1 e1
  | cons f F ih =>
    intro R m x3 x4 H1 e1 he
    cases R with
    | nil =>
      simp only [List.map_nil, List.zip_nil_right, fP]
      refine ⟨⟨e1.L ha, e1.L hb⟩, ?_⟩
      walk_at "go"
      rw [show m = hi 0 ds rs by rw [← he]; rfl]
      exact k H1 e1
    | cons r R =>
      simp only [List.map_cons, List.zip_cons_cons, fP]
      refine ⟨⟨e1.L ha, e1.L hb⟩, fun T hT => ?_⟩
      have e2 := e1.push (o := .tup [.int f, .int r]) hT
      refine ⟨_, SqT.of upd_same, rfl, ?_⟩
      simp only [hi] at he
      walk_at "go"
      by_cases c : m < f + r
      · rw [if_pos c] at he
        rw [if_pos (by omega)]
        exact ih R _ _ _ _ e2 he
      · rw [if_neg c] at he
        rw [if_neg (by omega)]
        exact ih R _ _ _ _ e2 he
theorem grow_getD {a : Tr} {hs : List Tr} (h : hs.length = a.n + 1) : (Tr.grow a hs).1 = fillF a fun i => hs.getD i .lf := by
  have e : hs = Tr.hang a (fillF a fun i => hs.getD i .lf) := by
    rw [hang_fill]
    apply List.ext_getElem
    · simp [h]
    · intro i h1 h2
      simp [List.getD_eq_getElem?_getD, List.getElem?_eq_getElem h1]
  have := Tr.grow_hang a (fillF a fun i => hs.getD i .lf) [] (le_fill _ _)
  rw [List.append_nil, ← e] at this
  rw [this]
abbrev rI (row : List Nat) : List Int := row.map fun (k : Nat) => (k : Int)
theorem rI_V (row : List Nat) : (rI row).map V.int = row.map fun (k : Nat) => V.int (k : Int) := by unfold rI; rw [List.map_map]; rfl
def sp__law_done : Sp := fun vs H Q _ => ∃ (g : Addr) (c : Nat) (v w : V) (t u : Tr) (b : Addr) (row : List Nat), vs = [.ref g, v, w, .ref b] ∧ Nst K H v t ∧ Nst K H w u ∧ t.n = u.n ∧ t.n ≤ 60 ∧ H b = some (.lst ((rI row).map V.int)) ∧ b ≠ g ∧ row.length = t.n + 1 ∧ (∀ x ∈ row, x ≤ 60) ∧ c + 600 * (t.n + 1) < 2 ^ 90 ∧ Pu H g c ∧
  ∀ H', Fm [g] H H' → Pu H' g (c + 600 * (t.n + 1)) → Q (.int (hi 0 (dps u 0) (rI row) - hi 0 (dps t 0) (rI row))) H'
theorem pu__law_done (hN : 62 ≤ N) (vs : List V) (H : Hp) (Q : VK) (E : XK) (h : sp__law_done K vs H Q E) : rd__law_done K (sp__law_text K N) (sp_grown K aI aL) sp__law_comb (sp__law_depths K N) (sp__law_high K) (sp_height K aI) C (sp_Move___init__ C) (sp_Move_before C) (sp_Move___call__ K aI aN C) { nx := fun _ H' => Q .non H', rt := Q } (L2.start N__law_done vs) H := by
  obtain ⟨g, c, v, w, t, u, b, row, rfl, hv, hw, hn, h6, hb, bg, hl, hx, hc, pu, k⟩ := h
  have lg : ∀ {Hx : Hp} {c : Nat}, Pu Hx g c → ∀ p ∈ [g], Hx p = none ∨ ∃ xs, Hx p = some (.lst xs) := fun p x hx => by
    rw [List.mem_singleton.mp hx]
    obtain ⟨xs, h⟩ := p.lst
    exact .inr ⟨xs, h⟩
  have t1 := ht_n' t
  have t2 := ht_n' u
  show rd__law_done K _ _ _ _ _ _ _ _ _ _ _ [some _, some _, some _, some _, none, none, none, none, none, none] H
  unfold rd__law_done mLc
  walk_at "mg"
  refine ⟨v, t, rfl, hv, by omega, by omega, fun H1 e1 => ?_⟩
  refine ⟨w, u, rfl, hw.ex e1, by omega, by omega, fun H2 e2 => ?_⟩
  refine mv_mk C (t, u) hn (by dsimp only; omega) fun H3 x e3 nx hx3 => ?_
  have e13 := e1.trans (e2.trans e3)
  walk_at "mg"
  refine p_before C hx3 ?_
  walk_at "mg"
  have hb3 := e13 _ _ hb
  rw [rI_V] at hb3
  have pu3 := pu.fm e13
  refine ⟨_, .inl ⟨SqL.of hb3, fun D hD => ?_⟩⟩
  have Dg : D ≠ g := pu3.ne hD
  refine (?lp : ∀ (rs : List Nat) (hs : List Tr) (H4 : Hp), Fm [g] H3 H4 → Pu H4 g (c + 600 * hs.length) → H4 D = some (.lst (trs hs)) → (hs.map Tr.ht) ++ rs = row → (∀ y ∈ hs, y.n = y.ht) → cV _ _ _ _ _ _ D _ (rs.map fun (k : Nat) => V.int (k : Int)) H4) row [] _ (Fm.new hD) ((pu3.fm (Ex.new hD)).mono (by simp)) upd_same rfl (fun y h => by cases h)
  intro rs
  induction rs with
  | nil =>
    intro hs H4 f4 p4 hD4 hrow hns
    rw [List.append_nil] at hrow
    have hsl : hs.length = t.n + 1 := by rw [← hl, ← hrow, List.length_map]
    have hsn : (hs.map Tr.n).sum ≤ 60 * hs.length := by
      have hle : ∀ y ∈ hs, y.n ≤ 60 := fun y hy => by rw [hns y hy]; exact hx _ (by rw [← hrow]; exact List.mem_map.mpr ⟨y, hy, rfl⟩)
      clear hsl hrow hns hD4 p4 f4
      induction hs with
      | nil => simp
      | cons y hs ih2 =>
        have a1 := hle y List.mem_cons_self
        have a2 := ih2 fun z hz => hle z (List.mem_cons_of_mem _ hz)
        simp only [List.map_cons, List.sum_cons, List.length_cons]; omega
    have hht : hts hs = rI row := by rw [← hrow]; unfold hts rI; rw [List.map_map]; rfl
    simp only [List.map_nil, cV]
    refine ⟨SqL.of (f4 _ _ (by simpa using bg) hb3), ?_⟩
    refine ⟨_, _, rfl, .inr ⟨t, rfl, by omega, .inr ⟨hs, D, rfl, SqL.of hD4, hsl, by omega, fun H5 e5 => ?_⟩⟩⟩
    have gn1 := Tr.grow_n t hs
    have gn2 := Tr.grow_n u hs
    have f05 : Fm [g] H H5 := (Fm.ex e13).trans (f4.trans (Fm.ex e5))
    have p5 := p4.fm e5
    have hv5 := hv.fm (lg pu) f05
    have hw5 := hw.fm (lg pu) f05
    have hb5 : H5 b = some (.lst ((rI row).map V.int)) := f05 _ _ (by simpa using bg) hb
    have hx5 := hx3.fm (lg pu3) (f4.trans (Fm.ex e5))
    walk_at "mg"
    refine ⟨v, t, 0, rfl, hv5, by omega, by omega, fun H6 p e6 np hp => ?_⟩
    refine ⟨w, u, 0, rfl, hw5.ex e6, by omega, by omega, fun H7 q e7 nq hq => ?_⟩
    walk_at "mg"
    have hb7 := e7 _ _ (e6 _ _ hb5)
    refine ⟨q, b, _, _, rfl, SqL.of hq, SqL.of hb7, fun H8 e8 => ?_⟩
    refine ⟨p, b, _, _, rfl, SqL.of (e8 _ _ (e7 _ _ hp)), SqL.of (e8 _ _ hb7), fun H9 e9 => ?_⟩
    walk_at "mg"
    have e59 := e6.trans (e7.trans (e8.trans e9))
    have hx9 := hx5.ex e59
    obtain ⟨x', dx, pp, xe, g1, g2⟩ := id hx9
    cases xe
    refine ⟨x, rfl, ⟨dx, _, g1⟩, ?_⟩
    have ap : applyM (t, u) (Tr.grow t hs).1 = some (Tr.grow u hs).1 := by
      rw [grow_getD hsl, grow_getD (a := u) (by omega), applyM_fill (m := (t, u)) hn]
    refine ⟨_, _, (t, u), rfl, hx9, hn, by dsimp only; omega, .inr ⟨_, rfl, by omega, .inr ⟨_, ap, fun Ha ea => ?_⟩⟩⟩
    refine ⟨_, rfl, .inr ⟨_, rfl, by omega, fun Hb eb => ?_⟩⟩
    walk_at "mg"
    refine ⟨_, rfl, .inr ⟨_, rfl, by omega, fun Hc ec => ?_⟩⟩
    walk_at "mg"
    have r1 := hi_ht t hs hsl
    have r2 := hi_ht u hs (by omega)
    rw [hht] at r1 r2
    rw [← r1, ← r2, if_pos rfl]
    have f0c := f05.trans (Fm.ex (m := [g]) (e59.trans (ea.trans (eb.trans ec))))
    refine k Hc f0c ?_
    rw [← hsl]
    exact p5.fm (e59.trans (ea.trans (eb.trans ec)))
  | cons r rs ih =>
    intro hs H4 f4 p4 hD4 hrow hns
    have hln := congrArg List.length hrow
    simp only [List.length_append, List.length_map, List.length_cons] at hln
    simp only [List.map_cons, cV]
    refine ⟨SqL.of (f4 _ _ (by simpa using bg) hb3), ?_⟩
    simp only [tYes]
    walk_at "mg"
    have hr := hx r (by rw [← hrow]; simp)
    refine ⟨trivial, g, c + 600 * hs.length, r, rfl, by omega, by omega, p4, fun H5 y f5 p5 hy1 hy2 => ?_⟩
    have hD5 : H5 D = some (.lst (trs hs)) := f5 _ _ (by simpa using Dg) hD4
    refine ⟨_, hD5, by rw [szl, trs_len]; omega, ?_⟩
    refine ih (hs ++ [y]) _ (fun a o na ha => ?_) ?_ (by rw [upd_same, trs_app]; rfl) (by rw [← hrow, List.map_append]; simp [hy1]) (fun z hz => (List.mem_append.mp hz).elim (hns z) fun e => by rw [List.mem_singleton.mp e, hy1, hy2])
    · have : a ≠ D := fun z => by rw [z, hD] at ha; cases ha
      rw [upd_ne this]
      exact f5 a o na (f4 a o na ha)
    · obtain ⟨aa, bb, cc, z1, z2⟩ := p5
      have : Pu (upd H5 D (.lst (trs hs ++ [.str (S y.s)]))) g (c + 600 * hs.length + 10 * r) := ⟨aa, bb, cc, by rw [upd_ne (Ne.symm Dg)]; exact z1, z2⟩
      exact this.mono (by rw [List.length_append, List.length_singleton]; omega)
end
end Pf

namespace Pf
open PySem PySem.Spec PyProof.Rows L2 M
local macro_rules | `(tactic| walk_at "go") => `(tactic| try simp only [↓q_par, ↓q_par3, tSeq, tIfS, tIf, tNot, mTest, tCB, tCons, tNil, mVar, M.gt, mC, Bool.not_true, Bool.not_false, Bool.false_eq_true, if_false, if_true, tNext, tAsg, gName, gSub, List.set_cons_zero, List.set_cons_succ, mFor, mIter, mRevS, S_cps, S_len, S_app, tOp, tSl, mPart, mUn, tNoPart, tRet, tRetN, tTup, tLst, tAnd, tOr, mAndV, mOrV, mNotV, tCall, tCallSD, tDrop, mPar, mPar3, mLstM, mStrM, mBits, mRng1, mRng2, mgTup, mgSeq, mgCons, mgNil, q_add1, q_add2, q_add3, q_add4, q_iadd1, q_iadd2, q_iadd3, q_sorted, q_sub, q_mul1, q_mul2, q_mul3, q_mod, q_div, q_pow, q_eq1, q_eq2, q_eq3, q_eq4, q_eq5, q_eq6, q_eq7, q_eq8, q_eq9, q_eq10, q_ne1, q_ne2, q_ne3, q_ne9, q_ne10, q_lt, q_le, q_gt, q_ge, q_inc1, q_ix1, q_ix2, q_sl1, q_sl2, q_set, q_len1, q_len2, q_int1, q_int2, q_max, q_min, q_abs, q_sum, q_list, q_isi1, q_is1, q_not1, q_isN1, q_isN2, q_isN3, q_isN4, q_join, q_count, q_split, q_app, q_pop, q_clear, q_isiE, q_repr, q_nin1, q_intab, q_ninta, q_ixtab, wipe, List.map_cons, List.map_nil, List.length_cons, List.length_nil, List.length_append, List.length_map, List.nil_append, List.cons_append, List.append_nil, cut_m3, cut_t3, cut_m1, cut_t1, cut_t2, S_eq, decide_eq_true_eq, Bool.not_eq_true', decide_eq_false_iff_not, ne_eq])
local macro_rules | `(tactic| walk_at "hh") => `(tactic| first | assumption | exact upd_same | exact Ex.new (by assumption) _ _ (by walk_at "hh") | exact Ex.at (by assumption) (by assumption) | solve_by_elim [Ex.at])
local macro_rules | `(tactic| walk_at "ee") => `(tactic| first | assumption | exact Ex.refl _ | exact Ex.push (by walk_at "ee") (by assumption) | exact Ex.trans (by assumption) (by assumption) | solve_by_elim [Ex.trans])
local macro_rules | `(tactic| walk_at "sz") => `(tactic| first | (rw [szl]; omega) | (simp only [szl, tx_len, sg_len, List.length_map, List.length_append, List.length_cons, List.length_nil, List.length_singleton, List.length_take, List.length_drop, List.length_reverse, S_len]; omega))
local macro_rules | `(tactic| walk_at "gx") => `(tactic| try simp only [↓q_par, ↓q_par3, ↓tSeq, ↓tIfS, ↓tIf, ↓tNot, ↓mTest, ↓tCB, ↓tCons, ↓tNil, ↓mVar, M.gt, ↓mC, Bool.not_true, Bool.not_false, Bool.false_eq_true, if_false, if_true, ↓tNext, ↓tAsg, ↓gName, ↓gSub, List.set_cons_zero, List.set_cons_succ, ↓mFor, ↓mIter, ↓mRevS, S_cps, S_len, S_app, ↓tOp, ↓tSl, ↓mPart, ↓mUn, ↓tNoPart, ↓tRet, ↓tRetN, ↓tTup, ↓tLst, ↓tAnd, ↓tOr, ↓mAndV, ↓mOrV, ↓mNotV, ↓tCall, ↓tCallSD, ↓tDrop, ↓mPar, ↓mPar3, ↓mLstM, ↓mStrM, ↓mBits, ↓mRng1, ↓mRng2, ↓mgTup, ↓mgSeq, ↓mgCons, ↓mgNil, q_add1, q_add2, q_add3, q_add4, q_iadd1, q_iadd2, q_iadd3, q_sorted, q_sub, q_mul1, q_mul2, q_mul3, q_mod, q_div, q_pow, q_eq1, q_eq2, q_eq3, q_eq4, q_eq5, q_eq6, q_eq7, q_eq8, q_eq9, q_eq10, q_ne1, q_ne2, q_ne3, q_ne9, q_ne10, q_lt, q_le, q_gt, q_ge, q_inc1, q_ix1, q_ix2, q_sl1, q_sl2, q_set, q_len1, q_len2, q_int1, q_int2, q_max, q_min, q_abs, q_sum, q_list, q_isi1, q_is1, q_not1, q_isN1, q_isN2, q_isN3, q_isN4, q_join, q_count, q_split, q_app, q_pop, q_clear, q_isiE, q_repr, q_nin1, q_intab, q_ninta, q_ixtab, wipe, List.map_cons, List.map_nil, List.length_cons, List.length_nil, List.length_append, List.length_map, List.nil_append, List.cons_append, List.append_nil, cut_m3, cut_t3, cut_m1, cut_t1, cut_t2, S_eq, decide_eq_true_eq, Bool.not_eq_true', decide_eq_false_iff_not, ne_eq])
local macro_rules | `(tactic| walk_at "mv") => `(tactic| try simp only [tMake, tMakeV, tMeth, tProp, tFldC, sFldC, tInst, mInvO, ClX.tCMeth, tJoin, tJs, tFmt, List.append_nil])
local macro_rules | `(tactic| walk_at "mg") => `(tactic| (walk_at "gx"; walk_at "mv"; walk_at "gx"))
local macro_rules | `(tactic| walk_at "mo") => `(tactic| first | assumption | (apply Mo.ex (Ex.new (by assumption)); walk_at "mo") | (apply Mo.ex; assumption; walk_at "mo"))
local macro_rules | `(tactic| walk_at "mx") => `(tactic| first | exact Ex.refl _ | assumption | (refine Ex.push ?_ (by assumption); walk_at "mx") | (refine Ex.trans ?_ (by assumption); walk_at "mx"))
/-! _law_right -/
theorem eq_ii {K : PySem.W.Frag} {neg : Bool} {H : Hp} {Q : VK} {p q : Addr} {a b : Int} (h1 : H p = some (.tup [.int a, .int b])) (h2 : H q = some (.tup [.int a, .int b])) (k : Q (.bl (!neg)) H) : rEqW K neg (.ref p) (.ref q) H Q :=
  have q1 : Dq K H [] (.ref p) (.tuple [.int a, .int b]) := .T h1 (by simp) (.cons (.int _) (.cons (.int _) .nil))
  have q2 : Dq K H [] (.ref q) (.tuple [.int a, .int b]) := .T h2 (by simp) (.cons (.int _) (.cons (.int _) .nil))
  ⟨_, _, q1.dp rfl, q2.dp rfl, rfl, rfl, by simp only [PyData.depth, PyData.depthAll]; decide, by
    have e : PyData.eqv (.tuple [.int a, .int b]) (.tuple [.int a, .int b]) = true := by simp [PyData.eqv, PyData.eqvAll]
    rw [e]; cases neg <;> exact k⟩
theorem lc_rng (te : TE) (τ : Sl) (D : Addr) (Q : Hp → Prop) (H1 : Hp) (hD : H1 D = none) (L : Nat) (hL : L ≤ 100000) (f : Nat → Int) (hτ : ∀ x : V, wipe (τ.set 13 (some x)) [13] = τ) (ht : ∀ (i : Nat) (Hx : Hp) (P : VK), i < L → Ex H1 Hx → P (.int (f i)) Hx → te (τ.set 13 (some (.int (i : Int)))) Hx P)
    (k : ∀ Hx, Ex H1 Hx → Hx D = some (.lst (((List.range L).map f).map V.int)) → Q Hx) : ∀ (s : List Nat) (acc : List Int) (Hx : Hp), acc ++ s.map f = (List.range L).map f → (∀ i ∈ s, i < L) → Ex H1 Hx → Hx D = some (.lst (acc.map V.int)) → cV (fun _ => True) (gName 13) tYes te [13] τ D Q (s.map fun (i : Nat) => V.int (0 + (i : Int))) Hx
  | [], acc, Hx, hs, hi, e, h => by
    rw [List.map_nil, List.append_nil] at hs
    subst hs
    exact ⟨trivial, k Hx e h⟩
  | i :: s, acc, Hx, hs, hi, e, h => by
    have al := congrArg List.length hs
    simp only [List.length_append, List.length_map, List.length_cons, List.length_range] at al
    simp only [List.map_cons, cV, gName, tYes, if_true]
    rw [Int.zero_add]
    refine ⟨trivial, hτ _, ht i Hx _ (hi i List.mem_cons_self) e ⟨_, h, by rw [szl, List.length_map]; omega, ?_⟩⟩
    exact lc_rng te τ D Q H1 hD L hL f hτ ht k s (acc ++ [f i]) _ (by rw [← hs]; simp) (fun j hj => hi j (List.mem_cons_of_mem _ hj)) (e.mut hD) (by rw [upd_same]; simp)
theorem lc_cp (G : Hp → Prop) (τ : Sl) (D : Addr) (Q : Hp → Prop) (H1 : Hp) (hG : ∀ Hx, Ex H1 Hx → G Hx) (hD : H1 D = none) (l : List Int) (hl : l.length ≤ 100000) (hτ : ∀ x : V, wipe (τ.set 1 (some x)) [1] = τ ∧ M.gt (τ.set 1 (some x)) 1 = some x)
    (k : ∀ Hx, Ex H1 Hx → Hx D = some (.lst (l.map V.int)) → Q Hx) : ∀ (s acc : List Int) (Hx : Hp), acc ++ s = l → Ex H1 Hx → Hx D = some (.lst (acc.map V.int)) → cV G (gName 1) tYes (tCB (mInt) (tCons (mVar 1) tNil)) [1] τ D Q (s.map V.int) Hx
  | [], acc, Hx, hs, e, h => by
    rw [List.append_nil] at hs
    subst hs
    exact ⟨hG Hx e, k Hx e h⟩
  | x :: s, acc, Hx, hs, e, h => by
    have al := congrArg List.length hs
    simp only [List.length_append, List.length_cons] at al
    simp only [List.map_cons, cV, gName, tYes, if_true, tCB, tCons, tNil, mVar, (hτ _).2, q_int1]
    refine ⟨hG Hx e, (hτ _).1, ⟨_, h, by rw [szl, List.length_map]; omega, ?_⟩⟩
    exact lc_cp G τ D Q H1 hG hD l hl hτ k s (acc ++ [x]) _ (by rw [← hs]; simp) (e.mut hD) (by rw [upd_same]; simp)
def oneN (n k : Nat) : List Nat := (List.range n).map fun i => if i = k then 60 else 0
theorem oneN_I (n k : Nat) : rI (oneN n k) = one n k := by
  unfold rI oneN one
  rw [List.map_map]
  apply List.map_congr_left
  intro i _
  simp only [Function.comp]
  split <;> rfl
section
variable (K : PySem.W.Frag) (aI aL aM aN C : Addr) (N : Nat)



theorem lr_0 (D : Ends) (g pa rb : Addr) (dm : List Int) (L : Nat) (hd : dm.length = L) (L0 : 0 < L) (L1 : L ≤ 61) (H0 : Hp) (ha : H0 pa = some (.lst (dm.map V.int))) (pg : pa ≠ g) (hb : H0 rb = none) (rg : rb ≠ g) (wd : Nat) (w0 : 0 < wd) (w1 : wd ≤ 31) (x1 x2 x3 x4 x6 x7 x11 x12 x13 : Option V) :
    ∀ (s row : List Nat) (x10 : Option V) (c : Nat) (H : Hp), row.length = L → (∀ x ∈ row, x ≤ 60) → Fm [g] H0 H → Pu H g c → c + 20 * s.length ≤ 2 ^ 80 → H rb = some (.lst ((rI row).map V.int)) →
    (∀ (row' : List Nat) (w10 : Option V) (H' : Hp), row'.length = L → (∀ x ∈ row', x ≤ 60) → Fm [g] H0 H' → Pu H' g (c + 20 * s.length) → H' rb = some (.lst ((rI row').map V.int)) → D.nx [some (.ref g), x1, x2, x3, x4, some (.ref pa), x6, x7, some (.int (wd : Int)), some (.ref rb), w10, x11, x12, x13] H') →
    fV (fun _ => True) (gName 10) (rd__law_right_b1 K (sp__law_depths K N) (sp_change K aM C N) (sp__law_text K N) sp__law_draw (sp__law_done K) C (sp_Move___init__ C)) D (s.map fun (i : Nat) => V.int (0 + (i : Int))) [some (.ref g), x1, x2, x3, x4, some (.ref pa), x6, x7, some (.int (wd : Int)), some (.ref rb), x10, x11, x12, x13] H
  | [], row, x10, c, H, hl, hx, f, pu, hc, hr, k => ⟨trivial, k row x10 H hl hx f pu hr⟩
  | i :: s, row, x10, c, H, hl, hx, f, pu, hc, hr, k => by
    have ih := lr_0 D g pa rb dm L hd L0 L1 H0 ha pg hb rg wd w0 w1 x1 x2 x3 x4 x6 x7 x11 x12 x13 s
    simp only [List.length_cons] at hc k
    simp only [List.map_cons, fV]
    refine ⟨trivial, ?_⟩
    walk_at "gx"
    refine ⟨g, c, (wd : Int), rfl, by omega, by omega, by omega, pu, fun H1 r f1 p1 r0 r1 => ?_⟩
    have ha1 : H1 pa = some (.lst (dm.map V.int)) := f1 _ _ (by simpa using pg) (f _ _ (by simpa using pg) ha)
    walk_at "gx"
    refine ⟨_, .inl (SqL.of ha1), ?_⟩
    rw [List.length_map, hd]
    refine ⟨g, c + 10, (L : Int), rfl, by omega, by omega, by omega, p1, fun H2 j f2 p2 j0 j1 => ?_⟩
    walk_at "gx"
    have hr2 : H2 rb = some (.lst ((rI row).map V.int)) := f2 _ _ (by simpa using rg) (f1 _ _ (by simpa using rg) hr)
    obtain ⟨j, rfl⟩ := Int.eq_ofNat_of_zero_le j0
    obtain ⟨r, rfl⟩ := Int.eq_ofNat_of_zero_le r0
    refine ⟨_, j, hr2, iN_nat (by rw [List.length_map, List.length_map]; omega), ?_⟩
    refine ih (row.set j r) _ (c + 20) _ (by rw [List.length_set]; exact hl) (fun x hx' => ?_) ?_ ?_ (by omega) ?_ fun row' w10 H' h1 h2 h3 h4 h5 => k row' w10 H' h1 h2 h3 (h4.mono (by omega)) h5
    · rcases List.mem_or_eq_of_mem_set hx' with h | h
      · exact hx x h
      · omega
    · exact fun a o na ha => by
        have : a ≠ rb := fun z => by rw [z, hb] at ha; cases ha
        rw [upd_ne this]
        exact f2 a o na (f1 a o na (f a o na ha))
    · obtain ⟨aa, bb, cc, z1, z2⟩ := p2
      exact ⟨aa, bb, cc, by rw [upd_ne (Ne.symm rg)]; exact z1, z2⟩
    · rw [upd_same]
      unfold rI
      rw [List.map_set, List.map_set]
theorem lr_1 (D : Ends) (g pa l : Addr) (v w : V) (t u : Tr) (hn : t.n = u.n) (h6 : t.n ≤ 60) (xs : List V) (a b : Int) (hab : Ends2 (dif (t, u)) a b) (H0 : Hp) (hv : Nst K H0 v t) (hw : Nst K H0 w u) (ha : H0 pa = some (.lst ((dif (t, u)).map V.int))) (pg : pa ≠ g) (hl : H0 l = some (.lst xs)) (lg : l ≠ g) (c0 : Nat) (pu0 : Pu H0 g c0) (x3 x4 x12 x13 : Option V) :
    ∀ (ws : List Nat) (x8 x9 x10 x11 : Option V) (c : Nat) (H : Hp), (∀ x ∈ ws, 0 < x ∧ x ≤ 31) → Fm [g] H0 H → Pu H g c → c + 40000 * ws.length ≤ 2 ^ 80 →
    (∀ (w8 w9 w10 w11 : Option V) (H' : Hp), Fm [g] H0 H' → Pu H' g (c + 40000 * ws.length) → D.nx [some (.ref g), some v, some w, x3, x4, some (.ref pa), some (.int a), some (.int b), w8, w9, w10, w11, x12, x13] H') →
    fV (fun H => SqL K H l xs) (gName 8) (rd__law_right_b2 K (sp__law_depths K N) (sp_change K aM C N) (sp__law_text K N) sp__law_draw (sp__law_done K) C (sp_Move___init__ C)) D (ws.map fun (i : Nat) => V.int (i : Int)) [some (.ref g), some v, some w, x3, x4, some (.ref pa), some (.int a), some (.int b), x8, x9, x10, x11, x12, x13] H
  | [], x8, x9, x10, x11, c, H, hx, f, pu, hc, k => ⟨SqL.of (f _ _ (by simpa using lg) hl), k _ _ _ _ H f pu⟩
  | wd :: ws, x8, x9, x10, x11, c, H, hx, f, pu, hc, k => by
    have ih := lr_1 D g pa l v w t u hn h6 xs a b hab H0 hv hw ha pg hl lg c0 pu0 x3 x4 x12 x13 ws
    obtain ⟨w0, w1⟩ := hx wd List.mem_cons_self
    simp only [List.length_cons] at hc k
    have lg' : ∀ {Hx : Hp} {c : Nat}, Pu Hx g c → ∀ p ∈ [g], Hx p = none ∨ ∃ xs, Hx p = some (.lst xs) := fun p x hx => by
      rw [List.mem_singleton.mp hx]
      obtain ⟨xs, h⟩ := p.lst
      exact .inr ⟨xs, h⟩
    have dl := dif_len (t, u) hn
    simp only at dl
    simp only [List.map_cons, fV]
    refine ⟨SqL.of (f _ _ (by simpa using lg) hl), ?_⟩
    generalize hW : fV _ _ _ _ (ws.map _) = WW at ih ⊢
    walk_at "gx"
    refine ⟨by walk_at "sz", fun p hp => ?_⟩
    have ha1 : upd H p (.lst [.int 0]) pa = some (.lst ((dif (t, u)).map V.int)) := (Ex.new hp) _ _ (f _ _ (by simpa using pg) ha)
    refine ⟨_, .inl (SqL.of ha1), ?_⟩
    refine ⟨_, upd_same, by omega, by rw [List.length_map]; omega, by rw [szl, List.length_map, dl]; simp; omega, fun rb hrb => ?_⟩
    walk_at "gx"
    refine ⟨⟨by decide, by decide⟩, ?_⟩
    have e1 : Ex H (upd (upd H p (.lst [.int 0])) rb (.lst (List.replicate (((dif (t, u)).length : Int)).toNat [V.int 0]).flatten)) := (Ex.new hp).push hrb
    have hz : (List.replicate (((dif (t, u)).length : Int)).toNat [V.int 0]).flatten = (rI (List.replicate (t.n + 1) 0)).map V.int := by
      rw [dl]; simp
    rw [hz] at e1 ⊢
    have pu1 := pu.fm e1
    have rg : rb ≠ g := (pu.fm (Ex.new (o := .lst [.int 0]) hp)).ne hrb
    have nrb : H rb = none := (Ex.new (o := .lst [.int 0]) hp).free hrb
    have fH : Fm [g] H0 (upd (upd H p (.lst [.int 0])) rb (.lst ((rI (List.replicate (t.n + 1) 0)).map V.int))) := f.trans (Fm.ex e1)
    have n0 : H0 rb = none := by
      cases h : H0 rb with
      | none => rfl
      | some o => exact absurd (f _ _ (by simpa using rg) h) (by rw [nrb]; exact fun z => by cases z)
    rw [show upto 0 ((5 : Int)).toNat = (List.range 5).map fun (i : Nat) => V.int (0 + (i : Int)) by simp [upto]]
    refine lr_0 K aM C N _ g pa rb (dif (t, u)) (t.n + 1) dl (by omega) (by omega) H0 ha pg n0 rg wd w0 w1 _ _ _ _ _ _ _ _ _ (List.range 5) (List.replicate (t.n + 1) 0) _ c _ (by simp) (fun x hx => by rw [(List.mem_replicate.mp hx).2]; omega) fH pu1 (by simp; omega) upd_same fun row w10 H2 hrl hrx f2 p2 hr2 => ?_
    rw [List.length_range] at p2
    walk_at "gx"
    refine ⟨g, c + 100, v, w, t, u, rb, row, rfl, hv.fm (lg' pu0) f2, hw.fm (lg' pu0) f2, hn, h6, hr2, rg, hrl, hrx, by omega, p2, fun H3 f3 p3 => ?_⟩
    obtain ⟨b1, b2⟩ := hab.in hn (rI row) (by rw [List.length_map]; exact hrl) (fun r hr => by obtain ⟨y, _, rfl⟩ := List.mem_map.mp hr; omega)
    simp only at b1 b2
    walk_at "gx"
    unfold mChain
    walk_at "gx"
    rw [decide_eq_true b1]
    simp only
    rw [if_neg (fun z => z b2)]
    exact ih _ _ _ _ (c + 40000) H3 (fun y hy => hx y (List.mem_cons_of_mem _ hy)) (f2.trans f3) (p3.mono (by omega)) (by omega) fun w8 w9 w10 w11 H4 f4 p4 => k w8 w9 w10 w11 H4 f4 (p4.mono (by omega))
theorem lr_2 (D : Ends) (g pa l : Addr) (v w : V) (t u : Tr) (hn : t.n = u.n) (h6 : t.n ≤ 60) (xs : List V) (H0 : Hp) (hv : Nst K H0 v t) (hw : Nst K H0 w u) (ha : H0 pa = some (.lst ((dif (t, u)).map V.int))) (pg : pa ≠ g) (hl : H0 l = some (.lst xs)) (lg : l ≠ g) (c0 : Nat) (pu0 : Pu H0 g c0) (x3 x4 x6 x7 x8 x10 x11 : Option V) :
    ∀ (ds : List Int) (x9 x12 : Option V) (c : Nat) (H : Hp), (∀ x ∈ ds, x ∈ dif (t, u)) → Fm [g] H0 H → Pu H g c → c + 40000 * ds.length ≤ 2 ^ 80 →
    (∀ (w9 w12 : Option V) (H' : Hp), Fm [g] H0 H' → Pu H' g (c + 40000 * ds.length) → D.nx [some (.ref g), some v, some w, x3, x4, some (.ref pa), x6, x7, x8, w9, x10, x11, w12, none] H') →
    fV (fun H => SqL K H l xs) (gName 12) (rd__law_right_b3 K (sp__law_depths K N) (sp_change K aM C N) (sp__law_text K N) sp__law_draw (sp__law_done K) C (sp_Move___init__ C)) D (ds.map V.int) [some (.ref g), some v, some w, x3, x4, some (.ref pa), x6, x7, x8, x9, x10, x11, x12, none] H
  | [], x9, x12, c, H, hx, f, pu, hc, k => ⟨SqL.of (f _ _ (by simpa using lg) hl), k _ _ H f pu⟩
  | d :: ds, x9, x12, c, H, hx, f, pu, hc, k => by
    have ih := lr_2 D g pa l v w t u hn h6 xs H0 hv hw ha pg hl lg c0 pu0 x3 x4 x6 x7 x8 x10 x11 ds
    simp only [List.length_cons] at hc k
    have lg' : ∀ {Hx : Hp} {c : Nat}, Pu Hx g c → ∀ p ∈ [g], Hx p = none ∨ ∃ xs, Hx p = some (.lst xs) := fun p x hx => by
      rw [List.mem_singleton.mp hx]
      obtain ⟨xs, h⟩ := p.lst
      exact .inr ⟨xs, h⟩
    have dl := dif_len (t, u) hn
    simp only at dl
    have dm := hx d List.mem_cons_self
    simp only [List.map_cons, fV]
    refine ⟨SqL.of (f _ _ (by simpa using lg) hl), ?_⟩
    generalize hW : fV _ _ _ _ (ds.map _) = WW at ih ⊢
    have ha1 : H pa = some (.lst ((dif (t, u)).map V.int)) := f _ _ (by simpa using pg) ha
    walk_at "gx"
    unfold mLc
    walk_at "gx"
    refine ⟨_, .inl (SqL.of ha1), ?_⟩
    rw [List.length_map, dl]
    refine ⟨⟨by omega, by omega⟩, fun rb hrb => ?_⟩
    rw [show upto 0 (((t.n + 1 : Nat) : Int)).toNat = (List.range (t.n + 1)).map fun (i : Nat) => V.int (0 + (i : Int)) by simp [upto]]
    refine lc_rng _ _ rb _ H hrb (t.n + 1) (by omega) (fun i => if i = List.idxOf d (dif (t, u)) then 60 else 0) (fun x => rfl) (fun i Hx P il e q => ?_) (fun H1 e1 h1 => ?_) (List.range (t.n + 1)) [] _ rfl (fun i hi => List.mem_range.mp hi) (Ex.new hrb) upd_same
    · walk_at "gx"
      refine ⟨⟨_, e _ _ ha1⟩, _, e _ _ ha1, _, rfl, dm, ?_⟩
      walk_at "gx"
      by_cases c1 : i = List.idxOf d (dif (t, u))
      · rw [if_pos c1] at q
        rw [if_pos (show (i : Int) = ((List.idxOf d (dif (t, u)) : Nat) : Int) by omega)]
        exact ⟨MulOk.of 6 1 (by decide) (by decide), q⟩
      · rw [if_neg c1] at q
        rw [if_neg (show ¬ (i : Int) = ((List.idxOf d (dif (t, u)) : Nat) : Int) by omega)]
        exact ⟨MulOk.of 6 1 (by decide) (by decide), q⟩
    · have hone : ((List.range (t.n + 1)).map fun i => if i = List.idxOf d (dif (t, u)) then (60 : Int) else 0) = rI (oneN (t.n + 1) (List.idxOf d (dif (t, u)))) := (oneN_I _ _).symm
      rw [hone] at h1
      have pu1 := pu.fm e1
      have f1 := f.trans (Fm.ex (m := [g]) e1)
      have rg : rb ≠ g := pu.ne hrb
      walk_at "gx"
      refine ⟨g, c, v, w, t, u, rb, oneN (t.n + 1) (List.idxOf d (dif (t, u))), rfl, hv.fm (lg' pu0) f1, hw.fm (lg' pu0) f1, hn, h6, h1, rg, by unfold oneN; simp, fun x hx => ?_, by omega, pu1, fun H3 f3 p3 => ?_⟩
      · unfold oneN at hx
        obtain ⟨i, _, rfl⟩ := List.mem_map.mp hx
        split <;> omega
      · rw [oneN_I, show hi 0 (dps u 0) (one (t.n + 1) (List.idxOf d (dif (t, u)))) - hi 0 (dps t 0) (one (t.n + 1) (List.idxOf d (dif (t, u)))) = d from dif_one (t, u) hn h6 d dm]
        walk_at "gx"
        rw [if_neg (by simp)]
        exact ih _ _ (c + 40000) H3 (fun y hy => hx y (List.mem_cons_of_mem _ hy)) (f1.trans f3) (p3.mono (by omega)) (by omega) fun w9 w12 H4 f4 p4 => k w9 w12 H4 f4 (p4.mono (by omega))
def sp__law_right : Sp := fun vs H Q _ => ∃ (g : Addr) (c : Nat) (v w : V) (t u : Tr), vs = [.ref g, v, w] ∧ Nst K H v t ∧ Nst K H w u ∧ t.n = u.n ∧ t.n ≤ 60 ∧ c + 200000 ≤ 2 ^ 80 ∧ Pu H g c ∧ ∀ H', Fm [g] H H' → Pu H' g (c + 200000) → Q (.bl true) H'
theorem pu__law_right (hN : 62 ≤ N) (vs : List V) (H : Hp) (Q : VK) (E : XK) (h : sp__law_right K vs H Q E) : rd__law_right K (sp__law_depths K N) (sp_change K aM C N) (sp__law_text K N) sp__law_draw (sp__law_done K) C (sp_Move___init__ C) { nx := fun _ H' => Q .non H', rt := Q } (L2.start N__law_right vs) H := by
  obtain ⟨g, c, v, w, t, u, rfl, hv, hw, hn, h6, hc, pu, k⟩ := h
  have t1 := ht_n' t
  have t2 := ht_n' u
  have dl := dif_len (t, u) hn
  have l1 := dps_len t 0
  have l2 := dps_len u 0
  simp only at dl
  show rd__law_right K _ _ _ _ _ _ _ _ [some _, some _, some _, none, none, none, none, none, none, none, none, none, none, none] H
  unfold rd__law_right mLc
  walk_at "mg"
  refine ⟨v, t, 0, rfl, hv, by omega, by omega, fun H1 p e1 np hp => ?_⟩
  refine ⟨w, u, 0, rfl, hw.ex e1, by omega, by omega, fun H2 q e2 nq hq => ?_⟩
  walk_at "mg"
  refine ⟨by walk_at "sz", fun T hT => ?_⟩
  refine ⟨_, SqT.of upd_same, rfl, ?_⟩
  have e2' := e2.push (o := .tup [.ref p, .ref q]) hT
  have e12 := e1.trans e2'
  have hp2 := e2' _ _ hp
  have hq2 := (Ex.new (o := .tup [.ref p, .ref q]) hT) _ _ hq
  walk_at "mg"
  refine ⟨_, .inl (SqL.of hp2), ?_⟩
  rw [List.length_map, l1]
  refine ⟨⟨by omega, by omega⟩, fun pa hpa => ?_⟩
  rw [show upto 0 (((t.n + 1 : Nat) : Int)).toNat = (List.range (t.n + 1)).map fun (i : Nat) => V.int (0 + (i : Int)) by simp [upto]]
  refine lc_rng _ _ pa _ _ hpa (t.n + 1) (by omega) (fun i => (dps u 0).getD i 0 - (dps t 0).getD i 0) (fun x => rfl) (fun i Hx P il e q' => ?_) (fun H3 e3 h3 => ?_) (List.range (t.n + 1)) [] _ rfl (fun i hi => List.mem_range.mp hi) (Ex.new hpa) upd_same
  · have a1 : atI ((dps t 0).map V.int) (i : Int) = some (.int ((dps t 0).getD i 0)) := by
      rw [aI_nat, List.getElem?_map, List.getD_eq_getElem?_getD, List.getElem?_eq_getElem (by omega)]; rfl
    have a2 : atI ((dps u 0).map V.int) (i : Int) = some (.int ((dps u 0).getD i 0)) := by
      rw [aI_nat, List.getElem?_map, List.getD_eq_getElem?_getD, List.getElem?_eq_getElem (by omega)]; rfl
    walk_at "gx"
    refine ⟨_, _, .inl (SqL.of (e _ _ hq2)), a2, _, _, .inl (SqL.of (e _ _ hp2)), a1, ?_⟩
    walk_at "gx"
    exact q'
  have hdif : ((List.range (t.n + 1)).map fun i => (dps u 0).getD i 0 - (dps t 0).getD i 0) = dif (t, u) := by
    apply List.ext_getElem
    · simp [dl]
    · intro i g1 g2
      simp only [List.length_map, List.length_range] at g1
      unfold dif
      simp only [List.getElem_map, List.getElem_range, List.getElem_zipWith, List.getD_eq_getElem?_getD]
      rw [List.getElem?_eq_getElem (by omega), List.getElem?_eq_getElem (by omega)]
      rfl
  rw [hdif] at h3
  have e13 := e12.trans e3
  have npa : H pa = none := e12.free hpa
  have pg : pa ≠ g := (pu.fm e12).ne hpa
  walk_at "mg"
  refine ⟨v, t, rfl, hv.ex e13, by omega, by omega, fun H4 e4 => ?_⟩
  have e14 := e13.trans e4
  refine ⟨w, u, rfl, hw.ex e14, by omega, by omega, fun H5 e5 => ?_⟩
  refine mv_mk C (t, u) hn (by dsimp only; omega) fun H6 x e6 nx hx => ?_
  walk_at "mg"
  refine ⟨_, rfl, .inl ⟨(t, u), hx, hn, by dsimp only; omega, by dsimp only; omega, fun a b hab H7 r e7 nr hr => ?_⟩⟩
  refine ⟨_, SqT.of hr, rfl, ?_⟩
  walk_at "mg"
  have e37 := e4.trans (e5.trans (e6.trans e7))
  have ha7 := e37 _ _ h3
  have e17 := e13.trans e37
  refine ⟨by walk_at "sz", fun p1 hp1 => ?_⟩
  have ha8 := (Ex.new (o := .tup [.int a, .int b]) hp1) _ _ ha7
  refine ⟨_, .inl ⟨SqL.of ha8, fun D1 hD1 => ?_⟩⟩
  refine lc_cp _ _ D1 _ _ (fun Hx e => SqL.of (e _ _ ha8)) hD1 (dif (t, u)) (by omega) (fun x => ⟨rfl, rfl⟩) (fun H8 e8 h8 => ?_) (dif (t, u)) [] _ rfl (Ex.new hD1) upd_same
  refine ⟨_, SqL.of h8, by omega, fun a' ha' hla' => ?_⟩
  have ha9 := e8 _ _ ha8
  refine ⟨_, .inl ⟨SqL.of ha9, fun D2 hD2 => ?_⟩⟩
  refine lc_cp _ _ D2 _ _ (fun Hx e => SqL.of (e _ _ ha9)) hD2 (dif (t, u)) (by omega) (fun x => ⟨rfl, rfl⟩) (fun H9 e9 h9 => ?_) (dif (t, u)) [] _ rfl (Ex.new hD2) upd_same
  refine ⟨_, SqL.of h9, by omega, fun b' hb' hlb' => ?_⟩
  obtain ⟨rfl, rfl⟩ := hab.one ⟨ha', hb', hla', hlb'⟩
  walk_at "mg"
  refine ⟨by walk_at "sz", fun p2 hp2' => ?_⟩
  have h1a := (Ex.new (o := .tup [.int a, .int b]) hp2') _ _ (e9 _ _ (e8 _ _ (upd_same (H := H7) (a := p1) (o := .tup [.int a, .int b]))))
  refine eq_ii h1a upd_same ?_
  walk_at "mg"
  have e79 : Ex H7 (upd H9 p2 (.tup [.int a, .int b])) := (((Ex.new hp1).trans e8).trans e9).push hp2'
  generalize hH10 : upd H9 p2 (.tup [.int a, .int b]) = H10 at e79 ⊢
  have e1A := e17.trans e79
  have haA := e79 _ _ ha7
  refine ⟨w, u, rfl, hw.ex e1A, by omega, by omega, fun H11 e11 => ?_⟩
  refine ⟨v, t, rfl, (hv.ex e1A).ex e11, by omega, by omega, fun H12 e12' => ?_⟩
  refine mv_mk C (u, t) hn.symm (by dsimp only; omega) fun H13 x2 e13' nx2 hx2 => ?_
  walk_at "mg"
  refine ⟨_, rfl, .inl ⟨(u, t), hx2, hn.symm, by dsimp only; omega, by dsimp only; omega, fun c1 d1 hcd H14 r2 e14' nr2 hr2 => ?_⟩⟩
  obtain ⟨rfl, rfl⟩ := hcd.one (by rw [show dif (u, t) = (dif (t, u)).map fun x => -x from dif_swap (t, u)]; exact hab.neg)
  walk_at "mg"
  refine ⟨by walk_at "sz", fun p3 hp3 => ?_⟩
  rw [show (0 - b : Int) = -b by omega, show (0 - a : Int) = -a by omega]
  refine eq_ii ((Ex.new hp3) _ _ hr2) upd_same ?_
  walk_at "mg"
  have eAB : Ex H10 (upd H14 p3 (.tup [.int (-b), .int (-a)])) := ((e11.trans e12').trans (e13'.trans e14')).push hp3
  generalize hH15 : upd H14 p3 (.tup [.int (-b), .int (-a)]) = H15 at eAB ⊢
  have e0 := e1A.trans eAB
  have ha15 := eAB _ _ haA
  have pu15 := pu.fm e0
  refine ⟨by walk_at "sz", fun l3 hl3 => ?_⟩
  refine ⟨_, .inl ⟨SqL.of upd_same, ?_⟩⟩
  have e16 := e0.push (o := .lst [.int 1, .int 4, .int 31]) hl3
  have pu16 := pu.fm e16
  have ha16 := (Ex.new (o := .lst [.int 1, .int 4, .int 31]) hl3) _ _ ha15
  refine lr_1 K aM C N _ g pa l3 v w t u hn h6 _ a b hab _ (hv.ex e16) (hw.ex e16) ha16 pg upd_same (pu15.ne hl3) c pu16 _ _ _ _ [1, 4, 31] _ _ _ _ c _ (by decide) (Fm.refl _ _) pu16 (by simp; omega) fun w8 w9 w10 w11 H17 f17 p17 => ?_
  walk_at "mg"
  refine ⟨by walk_at "sz", fun l4 hl4 => ?_⟩
  refine ⟨_, .inl ⟨SqL.of upd_same, ?_⟩⟩
  have f18 : Fm [g] H (upd H17 l4 (.lst [.int a, .int b])) := (Fm.ex e16).trans (f17.trans (Fm.new hl4))
  have pu18 := p17.fm (Ex.new (o := .lst [.int a, .int b]) hl4)
  have ha18 := (Ex.new (o := .lst [.int a, .int b]) hl4) _ _ (f17 _ _ (by simpa using pg) ha16)
  have lgp : ∀ p ∈ [g], H p = none ∨ ∃ xs, H p = some (.lst xs) := fun p hx => by
    rw [List.mem_singleton.mp hx]
    obtain ⟨xs, h⟩ := pu.lst
    exact .inr ⟨xs, h⟩
  refine lr_2 K aM C N _ g pa l4 v w t u hn h6 _ _ (hv.fm lgp f18) (hw.fm lgp f18) ha18 pg upd_same (p17.ne hl4) _ pu18 _ _ _ _ _ _ _ [a, b] _ _ _ _ (fun x hx => by
    simp only [List.mem_cons, List.not_mem_nil, or_false] at hx
    rcases hx with rfl | rfl
    · exact hab.ma
    · exact hab.mb) (Fm.refl _ _) pu18 (by simp; omega) fun w9 w12 H19 f19 p19 => ?_
  walk_at "mg"
  exact k H19 (f18.trans f19) (p19.mono (by simp))
end
end Pf

namespace Pf
open PySem PySem.Spec PyProof.Rows L2 M
local macro_rules | `(tactic| walk_at "go") => `(tactic| try simp only [↓q_par, ↓q_par3, tSeq, tIfS, tIf, tNot, mTest, tCB, tCons, tNil, mVar, M.gt, mC, Bool.not_true, Bool.not_false, Bool.false_eq_true, if_false, if_true, tNext, tAsg, gName, gSub, List.set_cons_zero, List.set_cons_succ, mFor, mIter, mRevS, S_cps, S_len, S_app, tOp, tSl, mPart, mUn, tNoPart, tRet, tRetN, tTup, tLst, tAnd, tOr, mAndV, mOrV, mNotV, tCall, tCallSD, tDrop, mPar, mPar3, mLstM, mStrM, mBits, mRng1, mRng2, mgTup, mgSeq, mgCons, mgNil, q_add1, q_add2, q_add3, q_add4, q_iadd1, q_iadd2, q_iadd3, q_sorted, q_sub, q_mul1, q_mul2, q_mul3, q_mod, q_div, q_pow, q_eq1, q_eq2, q_eq3, q_eq4, q_eq5, q_eq6, q_eq7, q_eq8, q_eq9, q_eq10, q_ne1, q_ne2, q_ne3, q_ne9, q_ne10, q_lt, q_le, q_gt, q_ge, q_inc1, q_ix1, q_ix2, q_sl1, q_sl2, q_set, q_len1, q_len2, q_int1, q_int2, q_max, q_min, q_abs, q_sum, q_list, q_isi1, q_is1, q_not1, q_isN1, q_isN2, q_isN3, q_isN4, q_join, q_count, q_split, q_app, q_pop, q_clear, q_isiE, q_repr, q_nin1, q_intab, q_ninta, q_ixtab, wipe, List.map_cons, List.map_nil, List.length_cons, List.length_nil, List.length_append, List.length_map, List.nil_append, List.cons_append, List.append_nil, cut_m3, cut_t3, cut_m1, cut_t1, cut_t2, S_eq, decide_eq_true_eq, Bool.not_eq_true', decide_eq_false_iff_not, ne_eq])
local macro_rules | `(tactic| walk_at "hh") => `(tactic| first | assumption | exact upd_same | exact Ex.new (by assumption) _ _ (by walk_at "hh") | exact Ex.at (by assumption) (by assumption) | solve_by_elim [Ex.at])
local macro_rules | `(tactic| walk_at "ee") => `(tactic| first | assumption | exact Ex.refl _ | exact Ex.push (by walk_at "ee") (by assumption) | exact Ex.trans (by assumption) (by assumption) | solve_by_elim [Ex.trans])
local macro_rules | `(tactic| walk_at "sz") => `(tactic| first | (rw [szl]; omega) | (simp only [szl, tx_len, sg_len, List.length_map, List.length_append, List.length_cons, List.length_nil, List.length_singleton, List.length_take, List.length_drop, List.length_reverse, S_len]; omega))
local macro_rules | `(tactic| walk_at "gx") => `(tactic| try simp only [↓q_par, ↓q_par3, ↓tSeq, ↓tIfS, ↓tIf, ↓tNot, ↓mTest, ↓tCB, ↓tCons, ↓tNil, ↓mVar, M.gt, ↓mC, Bool.not_true, Bool.not_false, Bool.false_eq_true, if_false, if_true, ↓tNext, ↓tAsg, ↓gName, ↓gSub, List.set_cons_zero, List.set_cons_succ, ↓mFor, ↓mIter, ↓mRevS, S_cps, S_len, S_app, ↓tOp, ↓tSl, ↓mPart, ↓mUn, ↓tNoPart, ↓tRet, ↓tRetN, ↓tTup, ↓tLst, ↓tAnd, ↓tOr, ↓mAndV, ↓mOrV, ↓mNotV, ↓tCall, ↓tCallSD, ↓tDrop, ↓mPar, ↓mPar3, ↓mLstM, ↓mStrM, ↓mBits, ↓mRng1, ↓mRng2, ↓mgTup, ↓mgSeq, ↓mgCons, ↓mgNil, q_add1, q_add2, q_add3, q_add4, q_iadd1, q_iadd2, q_iadd3, q_sorted, q_sub, q_mul1, q_mul2, q_mul3, q_mod, q_div, q_pow, q_eq1, q_eq2, q_eq3, q_eq4, q_eq5, q_eq6, q_eq7, q_eq8, q_eq9, q_eq10, q_ne1, q_ne2, q_ne3, q_ne9, q_ne10, q_lt, q_le, q_gt, q_ge, q_inc1, q_ix1, q_ix2, q_sl1, q_sl2, q_set, q_len1, q_len2, q_int1, q_int2, q_max, q_min, q_abs, q_sum, q_list, q_isi1, q_is1, q_not1, q_isN1, q_isN2, q_isN3, q_isN4, q_join, q_count, q_split, q_app, q_pop, q_clear, q_isiE, q_repr, q_nin1, q_intab, q_ninta, q_ixtab, wipe, List.map_cons, List.map_nil, List.length_cons, List.length_nil, List.length_append, List.length_map, List.nil_append, List.cons_append, List.append_nil, cut_m3, cut_t3, cut_m1, cut_t1, cut_t2, S_eq, decide_eq_true_eq, Bool.not_eq_true', decide_eq_false_iff_not, ne_eq])
local macro_rules | `(tactic| walk_at "mv") => `(tactic| try simp only [tMake, tMakeV, tMeth, tProp, tFldC, sFldC, tInst, mInvO, ClX.tCMeth, tJoin, tJs, tFmt, List.append_nil])
local macro_rules | `(tactic| walk_at "mg") => `(tactic| (walk_at "gx"; walk_at "mv"; walk_at "gx"))
local macro_rules | `(tactic| walk_at "mo") => `(tactic| first | assumption | (apply Mo.ex (Ex.new (by assumption)); walk_at "mo") | (apply Mo.ex; assumption; walk_at "mo"))
local macro_rules | `(tactic| walk_at "mx") => `(tactic| first | exact Ex.refl _ | assumption | (refine Ex.push ?_ (by assumption); walk_at "mx") | (refine Ex.trans ?_ (by assumption); walk_at "mx"))
/-! the law -/
section
variable (K : PySem.W.Frag) (aT aM C : Addr) (N : Nat)
def sp_law : Sp := fun vs H Q _ => ∃ (a : Addr) (ns : List Int), vs = [.ref a] ∧ SqL K H a (ns.map V.int) ∧ ∀ H', Q (.bl true) H'



theorem lw_1 (hN : 62 ≤ N) (D : Ends) (g l : Addr) (xs : List V) (H0 : Hp) (hl : H0 l = some (.lst xs)) (lg : l ≠ g) (x0 x1 x5 x6 x7 : Option V) :
    ∀ (ws : List Nat) (x3 x4 : Option V) (c : Nat) (H : Hp), (∀ x ∈ ws, 0 < x ∧ x ≤ 61) → Fm [g] H0 H → Pu H g c → c + 300000 * ws.length ≤ 1000000000 →
    (∀ (w3 w4 : Option V) (H' : Hp), Fm [g] H0 H' → D.nx [x0, x1, some (.ref g), w3, w4, x5, x6, x7] H') →
    fV (fun H => SqL K H l xs) (gName 3) (rd_law_b1 K (sp__law_purse K) sp__law_draw (sp__law_right K) (sp__law_nest K N) (sp_change K aM C N) aT aM) D (ws.map fun (i : Nat) => V.int (i : Int)) [x0, x1, some (.ref g), x3, x4, x5, x6, x7] H
  | [], x3, x4, c, H, hx, f, pu, hc, k => ⟨SqL.of (f _ _ (by simpa using lg) hl), k _ _ H f⟩
  | m :: ws, x3, x4, c, H, hx, f, pu, hc, k => by
    have ih := lw_1 hN D g l xs H0 hl lg x0 x1 x5 x6 x7 ws
    obtain ⟨m0, m1⟩ := hx m List.mem_cons_self
    simp only [List.length_cons] at hc
    simp only [List.map_cons, fV]
    refine ⟨SqL.of (f _ _ (by simpa using lg) hl), ?_⟩
    walk_at "gx"
    refine ⟨g, c, (m : Int), rfl, by omega, by omega, by omega, pu, fun H1 r f1 p1 r0 r1 => ?_⟩
    obtain ⟨r, rfl⟩ := Int.eq_ofNat_of_zero_le r0
    walk_at "gx"
    refine ⟨g, c + 10, r, rfl, by omega, by omega, by omega, p1, fun H2 v t ht f2 p2 hv => ?_⟩
    refine ⟨g, c + 10 + 20 * r, r, rfl, by omega, by omega, by omega, p2, fun H3 w u hu f3 p3 hw => ?_⟩
    have hr : r ≤ 60 := by clear hc; omega
    have hb : c + 10 + 20 * r + 20 * r + 200000 ≤ c + 300000 := by clear hc; omega
    have hc1 : c + 300000 ≤ 1000000000 := Nat.le_trans (Nat.add_le_add_left (Nat.le_mul_of_pos_right 300000 (Nat.succ_pos ws.length)) c) hc
    have hc2 : (1000000000 : Nat) ≤ 2 ^ 80 := by decide
   
    refine ⟨g, c + 10 + 20 * r + 20 * r, v, w, t, u, rfl, hv.fm (fun p hx => ?_) f3, hw, by omega, by omega, Nat.le_trans hb (Nat.le_trans hc1 hc2), p3, fun H4 f4 p4 => ?_⟩
    · rw [List.mem_singleton.mp hx]
      obtain ⟨xs, h⟩ := p2.lst
      exact .inr ⟨xs, h⟩
    · walk_at "gx"
      exact ih _ _ (c + 300000) H4 (fun y hy => hx y (List.mem_cons_of_mem _ hy)) ((f.trans f1).trans ((f2.trans f3).trans f4)) (p4.mono hb) (by omega) k
theorem lw_2 (hN : 62 ≤ N) (D : Ends) (a : Addr) (ns : List Int) (H : Hp) (hL : SqL K H a (ns.map V.int)) (x5 x6 x7 : Option V) : ∀ (s : List Nat) (x1 x2 x3 x4 : Option V) (H1 : Hp), (∀ i ∈ s, i ≤ 1000) → Ex H H1 →
    (∀ (w1 w2 w3 w4 : Option V) (H2 : Hp), Ex H H2 → D.nx [some (.ref a), w1, w2, w3, w4, x5, x6, x7] H2) →
    fV (fun _ => True) (gName 1) (rd_law_b2 K (sp__law_purse K) sp__law_draw (sp__law_right K) (sp__law_nest K N) (sp_change K aM C N) aT aM) D (s.map fun (i : Nat) => V.int (0 + (i : Int))) [some (.ref a), x1, x2, x3, x4, x5, x6, x7] H1
  | [], x1, x2, x3, x4, H1, hs, e1, k => ⟨trivial, k _ _ _ _ H1 e1⟩
  | i :: s, x1, x2, x3, x4, H1, hs, e1, k => by
    have ih := lw_2 hN D a ns H hL x5 x6 x7 s
    simp only [List.map_cons, fV]
    refine ⟨trivial, ?_⟩
    rw [Int.zero_add]
    generalize hW : fV _ _ _ _ (s.map _) = WW at ih ⊢
    walk_at "gx"
    refine ⟨a, ns, i, rfl, e1.L hL, hs i List.mem_cons_self, fun H2 g e2 ng pu => ?_⟩
    have gn : H g = none := e1.free ng
    walk_at "gx"
    refine ⟨by walk_at "sz", fun p hp => ?_⟩
    refine ⟨g, _, 2, rfl, by decide, by decide, by decide, pu.fm (Ex.new hp), fun H3 r f3 p3 r0 r1 => ?_⟩
    have pg : p ≠ g := pu.ne hp
    have hp3 : H3 p = some (.lst [.int 13, .int 61]) := f3 _ _ (by simpa using pg) upd_same
    obtain ⟨m, hm, m0, m1⟩ : ∃ m : Nat, atI [V.int 13, .int 61] r = some (.int (m : Int)) ∧ 0 < m ∧ m ≤ 61 := by
      have : r = 0 ∨ r = 1 := by omega
      rcases this with rfl | rfl
      · exact ⟨13, rfl, by decide, by decide⟩
      · exact ⟨61, rfl, by decide, by decide⟩
    refine ⟨_, _, .inl (SqL.of hp3), hm, by walk_at "sz", fun l hl => ?_⟩
    refine ⟨_, .inl ⟨SqL.of upd_same, ?_⟩⟩
    have p4 := p3.fm (Ex.new (o := .lst [.int 13, .int (m : Int)]) hl)
    have f0 : Fm [g] H2 (upd H3 l (.lst [.int 13, .int (m : Int)])) := (Fm.new hp).trans (f3.trans (Fm.new hl))
    refine lw_1 K aT aM C N hN _ g l _ _ upd_same (p3.ne hl) _ _ _ _ _ [13, m] _ _ _ _ (fun x hx => by
      simp only [List.mem_cons, List.not_mem_nil, or_false] at hx
      rcases hx with rfl | rfl <;> omega) (Fm.refl _ _) p4 (by simp) fun w3 w4 H5 f5 => ?_
    exact ih _ _ _ _ H5 (fun j hj => hs j (List.mem_cons_of_mem _ hj)) (Fm.exg (e1.trans e2) gn (f0.trans f5)) k
def Odd (H : Hp) (v : V) : Prop := NoI K H v ∧ ∃ d, Gd 10000000 d ∧ Dq K H [] v d
theorem Odd.ex {K : PySem.W.Frag} {H H' : Hp} {v : V} (e : Ex H H') (h : Odd K H v) : Odd K H' v := by
  obtain ⟨a, d, b, c⟩ := h
  exact ⟨a.ex e, d, b, c.ex e⟩
theorem lw_3 (x1 : PySem.W.exmOne K (.ref aM) (.ref aT) = some true) (x2 : ExcK K "value" aM) (z1 : PySem.W.kitOne K (.ref aM) (.ref aM) = some true) (D : Ends) (b : Addr) (xs : List V) (v0 v1 v2 v3 v4 : Option V) :
    ∀ (s : List V) (v5 v6 : Option V) (H : Hp), SqL K H b xs → (∀ w ∈ s, Odd K H w) → (∀ (w5 w6 : Option V) H', D.nx [v0, v1, v2, v3, v4, w5, w6, none] H') →
    fV (fun H => SqL K H b xs) (gName 5) (rd_law_b3 K (sp__law_purse K) sp__law_draw (sp__law_right K) (sp__law_nest K N) (sp_change K aM C N) aT aM) D s [v0, v1, v2, v3, v4, v5, v6, none] H
  | [], v5, v6, H, hb, hs, k => ⟨hb, k _ _ H⟩
  | w :: s, v5, v6, H, hb, hs, k => by
    have ih := lw_3 x1 x2 z1 D b xs v0 v1 v2 v3 v4 s
    obtain ⟨bad, d, gd, dq⟩ := hs w List.mem_cons_self
    simp only [fV]
    refine ⟨hb, ?_⟩
    walk_at "gx"
    unfold mTry
    walk_at "gx"
    refine ⟨w, rfl, .inr ⟨bad, fin_go x1 fun a dd H' e ha hd na nd => ?_⟩⟩
    walk_at "gx"
    refine ⟨aM, dd, "value", _, true, x2, ha, hd, z1, ?_⟩
    walk_at "gx"
    unfold mFld
    walk_at "gx"
    refine ⟨aM, dd, w, x2, ha, hd, ?_⟩
    walk_at "gx"
    refine gd.reprs (dq.ex e) ?_
    refine gd.reprs (dq.ex e) ?_
    walk_at "gx"
    rw [if_neg (by simp)]
    exact ih _ _ H' (e.L hb) (fun y hy => (hs y (List.mem_cons_of_mem _ hy)).ex e) k
theorem pu_law (hN : 62 ≤ N) (x1 : PySem.W.exmOne K (.ref aM) (.ref aT) = some true) (x2 : ExcK K "value" aM) (z1 : PySem.W.kitOne K (.ref aM) (.ref aM) = some true) (vs : List V) (H : Hp) (Q : VK) (E : XK) (h : sp_law K vs H Q E) :
    rd_law K (sp__law_purse K) sp__law_draw (sp__law_right K) (sp__law_nest K N) (sp_change K aM C N) aT aM { nx := fun _ H' => Q .non H', rt := Q } (L2.start N_law vs) H := by
  obtain ⟨a, ns, rfl, hL, k⟩ := h
  show rd_law K _ _ _ _ _ _ _ _ [some _, none, none, none, none, none, none, none] H
  unfold rd_law
  walk_at "gx"
  refine ⟨⟨by decide, by decide⟩, ?_⟩
  rw [show upto 0 ((3 : Int)).toNat = (List.range 3).map fun (i : Nat) => V.int (0 + (i : Int)) by simp [upto]]
  refine lw_2 K aT aM C N hN _ a ns H hL _ _ _ (List.range 3) _ _ _ _ H (fun i hi => by have := List.mem_range.mp hi; omega) (Ex.refl H) fun w1 w2 w3 w4 H1 e1 => ?_
  walk_at "gx"
  refine ⟨by walk_at "sz", fun p1 h1 => ?_⟩
  walk_at "gx"
  refine ⟨by walk_at "sz", fun p2 h2 => ?_⟩
  walk_at "gx"
  refine ⟨by walk_at "sz", fun p3 h3 => ?_⟩
  walk_at "gx"
  refine ⟨_, .inl ⟨SqL.of upd_same, ?_⟩⟩
  refine lw_3 K aT aM C N x1 x2 z1 _ p3 _ _ _ _ _ _ _ _ _ _ (SqL.of upd_same) (fun w hw => ?_) fun w5 w6 H2 => ?_
  · simp only [List.mem_cons, List.not_mem_nil, or_false] at hw
    rcases hw with rfl | rfl | rfl | rfl | rfl | rfl
    · exact ⟨.inr .non, _, ⟨by decide, by simp only [PyData.depth]; omega, by decide⟩, .non⟩
    · exact ⟨.inr (.int _), _, ⟨by decide, by simp only [PyData.depth]; omega, by decide +kernel⟩, .int _⟩
    · exact ⟨.inl ⟨_, rfl⟩, _, ⟨okD_str.mpr ⟨by decide, by show ∀ c ∈ _, c < 1114112; decide⟩, by simp only [PyData.depth]; omega, by decide⟩, .str _⟩
    · exact ⟨.inr (.tup (SqT.of (by walk_at "hh"))), .tuple [.str (S [40, 40, 46, 46, 41, 46, 41]), .str (S [40, 46, 40, 46, 46, 41, 41])], ⟨by decide +kernel, by simp only [PyData.depth, PyData.depthAll]; omega, by decide +kernel⟩, .T (xs := [.str (S [40, 40, 46, 46, 41, 46, 41]), .str (S [40, 46, 40, 46, 46, 41, 41])]) (by walk_at "hh") (by simp) (.cons (.str _) (.cons (.str _) .nil))⟩
    · exact ⟨.inr (.lst (SqL.of (by walk_at "hh"))), .list [], ⟨by decide, by simp only [PyData.depth, PyData.depthAll]; omega, by decide⟩, .L (xs := []) (by walk_at "hh") (by simp) .nil⟩
    · exact ⟨.inr (.bl _), _, ⟨by decide, by simp only [PyData.depth]; omega, by decide⟩, .bl _⟩
  · walk_at "gx"
    exact k H2
end
end Pf

namespace Pf
open PySem PySem.Spec PyProof.Rows L2 M
theorem facts {w : World} {K : PySem.W.Frag} {h : Heap} {mg : Str → Option Value} {fa : Addr} (X : K.In h) (G : h.Ns mainGlobals mg) (hfa : mg ("law" : Str) = some (.ref fa)) (cT : SaysXT faL fnL tabL w K) :
    ∃ fd : FuncData, (∀ (s : Shared) (v : Value), BindsTo s fd ⟨[v], []⟩ [("_law_script", v)]) ∧ ∀ base : Heap, K.In base → base.Ns mainGlobals mg → FnG Pg w K mg base CX0 200 fa fd ["_law_script"] (sp_law K) := by
  have c := cT.d
  have g_TurnError : mg "TurnError" = some (.ref (He.ga K "TurnError")) := He.glo_ok X G (c.fact 0 (f := fun K => (He.Fa.glo "TurnError").ok K))
  have g_InvalidTree : mg "InvalidTree" = some (.ref (He.ga K "InvalidTree")) := He.glo_ok X G (c.fact 1 (f := fun K => (He.Fa.glo "InvalidTree").ok K))
  have g_InvalidList : mg "InvalidList" = some (.ref (He.ga K "InvalidList")) := He.glo_ok X G (c.fact 2 (f := fun K => (He.Fa.glo "InvalidList").ok K))
  have g_InvalidScript : mg "InvalidScript" = some (.ref (He.ga K "InvalidScript")) := He.glo_ok X G (c.fact 3 (f := fun K => (He.Fa.glo "InvalidScript").ok K))
  have g_InvalidMove : mg "InvalidMove" = some (.ref (He.ga K "InvalidMove")) := He.glo_ok X G (c.fact 4 (f := fun K => (He.Fa.glo "InvalidMove").ok K))
  have g_CannotMove : mg "CannotMove" = some (.ref (He.ga K "CannotMove")) := He.glo_ok X G (c.fact 5 (f := fun K => (He.Fa.glo "CannotMove").ok K))
  have g_is_tree : mg "is_tree" = some (.ref (He.ga K "is_tree")) := He.glo_ok X G (c.fact 6 (f := fun K => (He.Fa.glo "is_tree").ok K))
  have g_check_tree : mg "check_tree" = some (.ref (He.ga K "check_tree")) := He.glo_ok X G (c.fact 7 (f := fun K => (He.Fa.glo "check_tree").ok K))
  have g_height : mg "height" = some (.ref (He.ga K "height")) := He.glo_ok X G (c.fact 8 (f := fun K => (He.Fa.glo "height").ok K))
  have g_end_of : mg "end_of" = some (.ref (He.ga K "end_of")) := He.glo_ok X G (c.fact 9 (f := fun K => (He.Fa.glo "end_of").ok K))
  have g_walked : mg "walked" = some (.ref (He.ga K "walked")) := He.glo_ok X G (c.fact 10 (f := fun K => (He.Fa.glo "walked").ok K))
  have g_addresses_of_leaves : mg "addresses_of_leaves" = some (.ref (He.ga K "addresses_of_leaves")) := He.glo_ok X G (c.fact 11 (f := fun K => (He.Fa.glo "addresses_of_leaves").ok K))
  have g_grown_by : mg "grown_by" = some (.ref (He.ga K "grown_by")) := He.glo_ok X G (c.fact 12 (f := fun K => (He.Fa.glo "grown_by").ok K))
  have g_grown : mg "grown" = some (.ref (He.ga K "grown")) := He.glo_ok X G (c.fact 13 (f := fun K => (He.Fa.glo "grown").ok K))
  have g_hung_on : mg "hung_on" = some (.ref (He.ga K "hung_on")) := He.glo_ok X G (c.fact 14 (f := fun K => (He.Fa.glo "hung_on").ok K))
  have g_Move : mg "Move" = some (.ref (He.ga K "Move")) := He.glo_ok X G (c.fact 15 (f := fun K => (He.Fa.glo "Move").ok K))
  have g_check_move : mg "check_move" = some (.ref (He.ga K "check_move")) := He.glo_ok X G (c.fact 16 (f := fun K => (He.Fa.glo "check_move").ok K))
  have g_read_tree : mg "read_tree" = some (.ref (He.ga K "read_tree")) := He.glo_ok X G (c.fact 17 (f := fun K => (He.Fa.glo "read_tree").ok K))
  have g_nested : mg "nested" = some (.ref (He.ga K "nested")) := He.glo_ok X G (c.fact 18 (f := fun K => (He.Fa.glo "nested").ok K))
  have g_depths : mg "depths" = some (.ref (He.ga K "depths")) := He.glo_ok X G (c.fact 19 (f := fun K => (He.Fa.glo "depths").ok K))
  have g_depth_pairs : mg "depth_pairs" = some (.ref (He.ga K "depth_pairs")) := He.glo_ok X G (c.fact 20 (f := fun K => (He.Fa.glo "depth_pairs").ok K))
  have g_change : mg "change" = some (.ref (He.ga K "change")) := He.glo_ok X G (c.fact 21 (f := fun K => (He.Fa.glo "change").ok K))
  have g__law_mixed : mg "_law_mixed" = some (.ref (He.ga K "_law_mixed")) := He.glo_ok X G (c.fact 22 (f := fun K => (He.Fa.glo "_law_mixed").ok K))
  have g__law_purse : mg "_law_purse" = some (.ref (He.ga K "_law_purse")) := He.glo_ok X G (c.fact 23 (f := fun K => (He.Fa.glo "_law_purse").ok K))
  have g__law_draw : mg "_law_draw" = some (.ref (He.ga K "_law_draw")) := He.glo_ok X G (c.fact 24 (f := fun K => (He.Fa.glo "_law_draw").ok K))
  have g__law_nest : mg "_law_nest" = some (.ref (He.ga K "_law_nest")) := He.glo_ok X G (c.fact 25 (f := fun K => (He.Fa.glo "_law_nest").ok K))
  have g__law_text : mg "_law_text" = some (.ref (He.ga K "_law_text")) := He.glo_ok X G (c.fact 26 (f := fun K => (He.Fa.glo "_law_text").ok K))
  have g__law_depths : mg "_law_depths" = some (.ref (He.ga K "_law_depths")) := He.glo_ok X G (c.fact 27 (f := fun K => (He.Fa.glo "_law_depths").ok K))
  have g__law_comb : mg "_law_comb" = some (.ref (He.ga K "_law_comb")) := He.glo_ok X G (c.fact 28 (f := fun K => (He.Fa.glo "_law_comb").ok K))
  have g__law_high : mg "_law_high" = some (.ref (He.ga K "_law_high")) := He.glo_ok X G (c.fact 29 (f := fun K => (He.Fa.glo "_law_high").ok K))
  have g__law_done : mg "_law_done" = some (.ref (He.ga K "_law_done")) := He.glo_ok X G (c.fact 30 (f := fun K => (He.Fa.glo "_law_done").ok K))
  have g__law_right : mg "_law_right" = some (.ref (He.ga K "_law_right")) := He.glo_ok X G (c.fact 31 (f := fun K => (He.Fa.glo "_law_right").ok K))
  have g_law : mg "law" = some (.ref (He.ga K "law")) := He.glo_ok X G (c.fact 32 (f := fun K => (He.Fa.glo "law").ok K))
  have g_OTHER_WORD : mg "OTHER_WORD" = some (.ref (He.ga K "OTHER_WORD")) := He.glo_ok X G (c.fact 33 (f := fun K => (He.Fa.glo "OTHER_WORD").ok K))
  have g_SIDES : mg "SIDES" = some (.ref (He.ga K "SIDES")) := He.glo_ok X G (c.fact 35 (f := fun K => (He.Fa.glo "SIDES").ok K))
  have T : Tx K mg := ⟨He.free_ok X G (c.fact 37 (f := fun K => (He.Fa.free "isinstance").ok K)), He.free_ok X G (c.fact 38 (f := fun K => (He.Fa.free "str").ok K)), He.free_ok X G (c.fact 39 (f := fun K => (He.Fa.free "max").ok K)), He.free_ok X G (c.fact 40 (f := fun K => (He.Fa.free "len").ok K)), He.free_ok X G (c.fact 41 (f := fun K => (He.Fa.free "enumerate").ok K)), He.free_ok X G (c.fact 42 (f := fun K => (He.Fa.free "list").ok K)), He.free_ok X G (c.fact 43 (f := fun K => (He.Fa.free "tuple").ok K)), He.free_ok X G (c.fact 44 (f := fun K => (He.Fa.free "zip").ok K)), He.free_ok X G (c.fact 45 (f := fun K => (He.Fa.free "min").ok K)), He.free_ok X G (c.fact 46 (f := fun K => (He.Fa.free "int").ok K)), He.free_ok X G (c.fact 47 (f := fun K => (He.Fa.free "sum").ok K)), He.free_ok X G (c.fact 48 (f := fun K => (He.Fa.free "range").ok K)), He.free_ok X G (c.fact 49 (f := fun K => (He.Fa.free "repr").ok K)), (c.fact 50 (f := fun K => smB K))⟩
  have D_OTHER_WORD : mg "OTHER_WORD" = some (.ref (He.ga K "OTHER_WORD")) ∧ TabAt K w (He.ga K "OTHER_WORD") rows_OTHER_WORD := ⟨g_OTHER_WORD, cT.tab 0 (t := ("OTHER_WORD", rows_OTHER_WORD)) rfl (c.fact 34 (f := fun K => He.valsB K (He.ga K "OTHER_WORD") (tabDv rows_OTHER_WORD)))⟩
  have D_SIDES : mg "SIDES" = some (.ref (He.ga K "SIDES")) ∧ TabAt K w (He.ga K "SIDES") rows_SIDES := ⟨g_SIDES, cT.tab 1 (t := ("SIDES", rows_SIDES)) rfl (c.fact 36 (f := fun K => He.valsB K (He.ga K "SIDES") (tabDv rows_SIDES)))⟩
  have kz : PySem.W.kitOne K (.ref (He.ga K "Move")) (.ref (He.ga K "Move")) = some true := of_decide_eq_true (c.fact 61 (f := fun K => decide (PySem.W.kitOne K (.ref (He.ga K "Move")) (.ref (He.ga K "Move")) = some true)))
  have cc : PySem.W.findIn K (.ref (He.ga K "Move")) "__class__" = some (some (.builtin "object.__class__")) := He.eqO_ok (c.fact 62 (f := fun K => He.eqO (PySem.W.findIn K (.ref (He.ga K "Move")) "__class__") (some (some (.builtin "object.__class__")))))
  have ob : objB "Move" K = true :=  (c.fact 63 (f := fun K => objB "Move" K))
  have x1 : PySem.W.exmOne K (.ref (He.ga K "InvalidMove")) (.ref (He.ga K "TurnError")) = some true := He.exm_ok (c.fact 64 (f := fun K => (He.Fa.exm "InvalidMove" "TurnError" true).ok K))
  have z1 : PySem.W.kitOne K (.ref (He.ga K "InvalidMove")) (.ref (He.ga K "InvalidMove")) = some true := of_decide_eq_true (c.fact 65 (f := fun K => decide (PySem.W.kitOne K (.ref (He.ga K "InvalidMove")) (.ref (He.ga K "InvalidMove")) = some true)))
  have k1 : PySem.W.kitOne K (.type "NoneType") (.ref (He.ga K "Move")) = some false := of_decide_eq_true (c.fact 66 (f := fun K => decide (PySem.W.kitOne K (.type "NoneType") (.ref (He.ga K "Move")) = some false)))
  have k2 : PySem.W.kitOne K (.type "int") (.ref (He.ga K "Move")) = some false := of_decide_eq_true (c.fact 67 (f := fun K => decide (PySem.W.kitOne K (.type "int") (.ref (He.ga K "Move")) = some false)))
  have k3 : PySem.W.kitOne K (.type "bool") (.ref (He.ga K "Move")) = some false := of_decide_eq_true (c.fact 68 (f := fun K => decide (PySem.W.kitOne K (.type "bool") (.ref (He.ga K "Move")) = some false)))
  have k4 : PySem.W.kitOne K (.type "str") (.ref (He.ga K "Move")) = some false := of_decide_eq_true (c.fact 69 (f := fun K => decide (PySem.W.kitOne K (.type "str") (.ref (He.ga K "Move")) = some false)))
  have k5 : PySem.W.kitOne K (.type "list") (.ref (He.ga K "Move")) = some false := of_decide_eq_true (c.fact 70 (f := fun K => decide (PySem.W.kitOne K (.type "list") (.ref (He.ga K "Move")) = some false)))
  have k6 : PySem.W.kitOne K (.type "tuple") (.ref (He.ga K "Move")) = some false := of_decide_eq_true (c.fact 71 (f := fun K => decide (PySem.W.kitOne K (.type "tuple") (.ref (He.ga K "Move")) = some false)))
  have k7 : PySem.W.kitOne K (.type "dict") (.ref (He.ga K "Move")) = some false := of_decide_eq_true (c.fact 72 (f := fun K => decide (PySem.W.kitOne K (.type "dict") (.ref (He.ga K "Move")) = some false)))
  obtain ⟨X_InvalidTree, E_InvalidTree⟩ : ExcAt Pg w K mg "InvalidTree" "value" (He.ga K "InvalidTree") ∧ ExcK K "value" (He.ga K "InvalidTree") := ex_of (q := [⟨10, 8, 10, 13⟩, ⟨10, 8, 10, 15⟩, ⟨10, 8, 10, 24⟩, ⟨10, 25, 10, 30⟩, ⟨10, 8, 10, 31⟩, ⟨10, 8, 10, 31⟩, ⟨11, 8, 11, 12⟩, ⟨11, 8, 11, 18⟩, ⟨11, 21, 11, 26⟩, ⟨11, 8, 11, 26⟩]) X G (c.fact 51 (f := fun K => exB Pg "InvalidTree" "value" K)) (c.def0 0 (d := dx_InvalidTree___init__)) rfl rfl rfl rfl rfl rfl rfl (by decide) (by decide) rfl rfl rfl rfl rfl rfl rfl (by decide) (by decide +kernel) (fun env h => by cases env; cases h; rfl) (fun env h => by cases env; cases h; exact ⟨_, rfl⟩) (fun env h => by cases env; cases h; rfl) (fun _ _ _ _ _ _ _ _ _ _ => ⟨_, rfl, rfl⟩) (fun _ _ _ _ _ _ _ _ _ => ⟨_, rfl, rfl⟩) (fun _ _ _ _ _ _ _ _ _ _ => ⟨_, rfl, rfl⟩)
  obtain ⟨X_InvalidList, E_InvalidList⟩ : ExcAt Pg w K mg "InvalidList" "value" (He.ga K "InvalidList") ∧ ExcK K "value" (He.ga K "InvalidList") := ex_of (q := [⟨15, 8, 15, 13⟩, ⟨15, 8, 15, 15⟩, ⟨15, 8, 15, 24⟩, ⟨15, 25, 15, 30⟩, ⟨15, 8, 15, 31⟩, ⟨15, 8, 15, 31⟩, ⟨16, 8, 16, 12⟩, ⟨16, 8, 16, 18⟩, ⟨16, 21, 16, 26⟩, ⟨16, 8, 16, 26⟩]) X G (c.fact 52 (f := fun K => exB Pg "InvalidList" "value" K)) (c.def0 1 (d := dx_InvalidList___init__)) rfl rfl rfl rfl rfl rfl rfl (by decide) (by decide) rfl rfl rfl rfl rfl rfl rfl (by decide) (by decide +kernel) (fun env h => by cases env; cases h; rfl) (fun env h => by cases env; cases h; exact ⟨_, rfl⟩) (fun env h => by cases env; cases h; rfl) (fun _ _ _ _ _ _ _ _ _ _ => ⟨_, rfl, rfl⟩) (fun _ _ _ _ _ _ _ _ _ => ⟨_, rfl, rfl⟩) (fun _ _ _ _ _ _ _ _ _ _ => ⟨_, rfl, rfl⟩)
  obtain ⟨X_InvalidMove, E_InvalidMove⟩ : ExcAt Pg w K mg "InvalidMove" "value" (He.ga K "InvalidMove") ∧ ExcK K "value" (He.ga K "InvalidMove") := ex_of (q := [⟨25, 8, 25, 13⟩, ⟨25, 8, 25, 15⟩, ⟨25, 8, 25, 24⟩, ⟨25, 25, 25, 30⟩, ⟨25, 8, 25, 31⟩, ⟨25, 8, 25, 31⟩, ⟨26, 8, 26, 12⟩, ⟨26, 8, 26, 18⟩, ⟨26, 21, 26, 26⟩, ⟨26, 8, 26, 26⟩]) X G (c.fact 53 (f := fun K => exB Pg "InvalidMove" "value" K)) (c.def0 2 (d := dx_InvalidMove___init__)) rfl rfl rfl rfl rfl rfl rfl (by decide) (by decide) rfl rfl rfl rfl rfl rfl rfl (by decide) (by decide +kernel) (fun env h => by cases env; cases h; rfl) (fun env h => by cases env; cases h; exact ⟨_, rfl⟩) (fun env h => by cases env; cases h; rfl) (fun _ _ _ _ _ _ _ _ _ _ => ⟨_, rfl, rfl⟩) (fun _ _ _ _ _ _ _ _ _ => ⟨_, rfl, rfl⟩) (fun _ _ _ _ _ _ _ _ _ _ => ⟨_, rfl, rfl⟩)
  obtain ⟨X_CannotMove, E_CannotMove⟩ : ExcAt Pg w K mg "CannotMove" "value" (He.ga K "CannotMove") ∧ ExcK K "value" (He.ga K "CannotMove") := ex_of (q := [⟨30, 8, 30, 13⟩, ⟨30, 8, 30, 15⟩, ⟨30, 8, 30, 24⟩, ⟨30, 25, 30, 30⟩, ⟨30, 8, 30, 31⟩, ⟨30, 8, 30, 31⟩, ⟨31, 8, 31, 12⟩, ⟨31, 8, 31, 18⟩, ⟨31, 21, 31, 26⟩, ⟨31, 8, 31, 26⟩]) X G (c.fact 54 (f := fun K => exB Pg "CannotMove" "value" K)) (c.def0 3 (d := dx_CannotMove___init__)) rfl rfl rfl rfl rfl rfl rfl (by decide) (by decide) rfl rfl rfl rfl rfl rfl rfl (by decide) (by decide +kernel) (fun env h => by cases env; cases h; rfl) (fun env h => by cases env; cases h; exact ⟨_, rfl⟩) (fun env h => by cases env; cases h; rfl) (fun _ _ _ _ _ _ _ _ _ _ => ⟨_, rfl, rfl⟩) (fun _ _ _ _ _ _ _ _ _ => ⟨_, rfl, rfl⟩) (fun _ _ _ _ _ _ _ _ _ _ => ⟨_, rfl, rfl⟩)
  have c_Move := He.cls_ok (x := "Move") (c.fact 55 (f := fun K => (He.Fa.cls "Move").ok K))
  have n_Move_trees := He.noat_ok (x := "Move") (f := "trees") (c.fact 56 (f := fun K => (He.Fa.noat "Move" "trees").ok K))
  have MK_Move := He.mkr_ok (x := "Move") (c.fact 57 (f := fun K => (He.Fa.mkr "Move").ok K))
  have PR_Move_before := prop_ok (c.fact 58 (f := fun K => propB "Move" "before" K))
  have CO_Move___call__ := callO_ok (c.fact 59 (f := fun K => callB "Move" K))
  have PR_Move_after := prop_ok (c.fact 60 (f := fun K => propB "Move" "after" K))
  obtain ⟨fd_is_tree, F_is_tree⟩ := c.def_ 4 (d := dx_is_tree)
  obtain ⟨fd_check_tree, F_check_tree⟩ := c.def_ 5 (d := dx_check_tree)
  obtain ⟨fd_height, F_height⟩ := c.def_ 6 (d := dx_height)
  obtain ⟨fd_end_of, F_end_of⟩ := c.def_ 7 (d := dx_end_of)
  obtain ⟨fd_walked, F_walked⟩ := c.def_ 8 (d := dx_walked)
  obtain ⟨fd_addresses_of_leaves, F_addresses_of_leaves⟩ := c.def_ 9 (d := dx_addresses_of_leaves)
  obtain ⟨fd_grown_by, F_grown_by⟩ := c.def_ 10 (d := dx_grown_by)
  obtain ⟨fd_grown, F_grown⟩ := c.def_ 11 (d := dx_grown)
  obtain ⟨fd_hung_on, F_hung_on⟩ := c.def_ 12 (d := dx_hung_on)
  obtain ⟨fd_Move___init__, F_Move___init__⟩ := c.def_ 13 (d := dx_Move___init__)
  obtain ⟨fd_Move_before, F_Move_before⟩ := c.def_ 14 (d := dx_Move_before)
  obtain ⟨fd_Move_after, F_Move_after⟩ := c.def_ 15 (d := dx_Move_after)
  obtain ⟨fd_Move___call__, F_Move___call__⟩ := c.def_ 16 (d := dx_Move___call__)
  obtain ⟨fd_check_move, F_check_move⟩ := c.def_ 17 (d := dx_check_move)
  obtain ⟨fd_read_tree, F_read_tree⟩ := c.def_ 18 (d := dx_read_tree)
  obtain ⟨fd_nested, F_nested⟩ := c.def_ 19 (d := dx_nested)
  obtain ⟨fd_depths, F_depths⟩ := c.def_ 20 (d := dx_depths)
  obtain ⟨fd_depth_pairs, F_depth_pairs⟩ := c.def_ 21 (d := dx_depth_pairs)
  obtain ⟨fd_change, F_change⟩ := c.def_ 22 (d := dx_change)
  obtain ⟨fd__law_mixed, F__law_mixed⟩ := c.def_ 23 (d := dx__law_mixed)
  obtain ⟨fd__law_purse, F__law_purse⟩ := c.def_ 24 (d := dx__law_purse)
  obtain ⟨fd__law_draw, F__law_draw⟩ := c.def_ 25 (d := dx__law_draw)
  obtain ⟨fd__law_nest, F__law_nest⟩ := c.def_ 26 (d := dx__law_nest)
  obtain ⟨fd__law_text, F__law_text⟩ := c.def_ 27 (d := dx__law_text)
  obtain ⟨fd__law_depths, F__law_depths⟩ := c.def_ 28 (d := dx__law_depths)
  obtain ⟨fd__law_comb, F__law_comb⟩ := c.def_ 29 (d := dx__law_comb)
  obtain ⟨fd__law_high, F__law_high⟩ := c.def_ 30 (d := dx__law_high)
  obtain ⟨fd__law_done, F__law_done⟩ := c.def_ 31 (d := dx__law_done)
  obtain ⟨fd__law_right, F__law_right⟩ := c.def_ 32 (d := dx__law_right)
  obtain ⟨fd_law, F_law⟩ := c.def_ 33 (d := dx_law)
  cases hfa.symm.trans g_law
  refine ⟨fd_law, fun s v => FunD.bindsA (ps := ["_law_script"]) F_law (fun _ _ _ _ _ _ us hl => match us, hl with | [_], _ => rfl) s [v] rfl, fun base _ _ => ?_⟩
  have C__law_purse : CalG Pg w K mg base CX0 "_law_purse" 1 ["_law_script", "_law_at"] [] (sp__law_purse K) := ⟨_, fd__law_purse, [], ok__law_purse (k := 0) F__law_purse T   (fun vs H Q E h => by first | (obtain ⟨rfl, _⟩ := h; rfl) | (obtain ⟨_, rfl, _⟩ := h; rfl) | (obtain ⟨_, _, rfl, _⟩ := h; rfl) | (obtain ⟨_, _, _, rfl, _⟩ := h; rfl) | (obtain ⟨_, _, _, _, rfl, _⟩ := h; rfl) | (obtain ⟨_, _, _, _, _, rfl, _⟩ := h; rfl) | (obtain ⟨_, _, _, _, _, _, rfl, _⟩ := h; rfl) | (obtain ⟨_, _, _, _, _, _, _, rfl, _⟩ := h; rfl) | (obtain ⟨_, _, _, _, _, _, _, _, rfl, _⟩ := h; rfl) | (obtain ⟨_, _, _, _, _, _, _, _, _, rfl, _⟩ := h; rfl) | (obtain ⟨_, _, _, _, _, _, _, _, _, _, rfl, _⟩ := h; rfl) | (obtain ⟨_, _, _, _, _, _, _, _, _, _, _, rfl, _⟩ := h; rfl) | (obtain ⟨_, _, _, _, _, _, _, _, _, _, _, _, rfl, _⟩ := h; rfl) | (obtain ⟨_, _, _, _, _, _, _, _, _, _, _, _, _, rfl, _⟩ := h; rfl) | (obtain ⟨_, _, _, _, _, _, _, _, _, _, _, _, _, _, rfl, _⟩ := h; rfl) | (exact h.1)) (pu__law_purse K), g__law_purse, F__law_purse.kp, F__law_purse.bindsN (ps := ["_law_script", "_law_at"]) fun _ _ _ _ _ _ us hl => match us, hl with | [_, _], _ => rfl, .nil⟩
  have C__law_mixed : CalG Pg w K mg base CX0 "_law_mixed" 1 ["_law_cell", "_law_k"] [] (sp__law_mixed) := ⟨_, fd__law_mixed, [], ok__law_mixed (k := 0) F__law_mixed T   (fun vs H Q E h => by first | (obtain ⟨rfl, _⟩ := h; rfl) | (obtain ⟨_, rfl, _⟩ := h; rfl) | (obtain ⟨_, _, rfl, _⟩ := h; rfl) | (obtain ⟨_, _, _, rfl, _⟩ := h; rfl) | (obtain ⟨_, _, _, _, rfl, _⟩ := h; rfl) | (obtain ⟨_, _, _, _, _, rfl, _⟩ := h; rfl) | (obtain ⟨_, _, _, _, _, _, rfl, _⟩ := h; rfl) | (obtain ⟨_, _, _, _, _, _, _, rfl, _⟩ := h; rfl) | (obtain ⟨_, _, _, _, _, _, _, _, rfl, _⟩ := h; rfl) | (obtain ⟨_, _, _, _, _, _, _, _, _, rfl, _⟩ := h; rfl) | (obtain ⟨_, _, _, _, _, _, _, _, _, _, rfl, _⟩ := h; rfl) | (obtain ⟨_, _, _, _, _, _, _, _, _, _, _, rfl, _⟩ := h; rfl) | (obtain ⟨_, _, _, _, _, _, _, _, _, _, _, _, rfl, _⟩ := h; rfl) | (obtain ⟨_, _, _, _, _, _, _, _, _, _, _, _, _, rfl, _⟩ := h; rfl) | (obtain ⟨_, _, _, _, _, _, _, _, _, _, _, _, _, _, rfl, _⟩ := h; rfl) | (exact h.1)) (pu__law_mixed K), g__law_mixed, F__law_mixed.kp, F__law_mixed.bindsN (ps := ["_law_cell", "_law_k"]) fun _ _ _ _ _ _ us hl => match us, hl with | [_, _], _ => rfl, .nil⟩
  have C__law_draw : CalG Pg w K mg base CX0 "_law_draw" 2 ["_law_purse_here", "_law_out_of"] [] (sp__law_draw) := ⟨_, fd__law_draw, [], ok__law_draw (k := 1) F__law_draw T C__law_mixed (by omega) (fun vs H Q E h => by first | (obtain ⟨rfl, _⟩ := h; rfl) | (obtain ⟨_, rfl, _⟩ := h; rfl) | (obtain ⟨_, _, rfl, _⟩ := h; rfl) | (obtain ⟨_, _, _, rfl, _⟩ := h; rfl) | (obtain ⟨_, _, _, _, rfl, _⟩ := h; rfl) | (obtain ⟨_, _, _, _, _, rfl, _⟩ := h; rfl) | (obtain ⟨_, _, _, _, _, _, rfl, _⟩ := h; rfl) | (obtain ⟨_, _, _, _, _, _, _, rfl, _⟩ := h; rfl) | (obtain ⟨_, _, _, _, _, _, _, _, rfl, _⟩ := h; rfl) | (obtain ⟨_, _, _, _, _, _, _, _, _, rfl, _⟩ := h; rfl) | (obtain ⟨_, _, _, _, _, _, _, _, _, _, rfl, _⟩ := h; rfl) | (obtain ⟨_, _, _, _, _, _, _, _, _, _, _, rfl, _⟩ := h; rfl) | (obtain ⟨_, _, _, _, _, _, _, _, _, _, _, _, rfl, _⟩ := h; rfl) | (obtain ⟨_, _, _, _, _, _, _, _, _, _, _, _, _, rfl, _⟩ := h; rfl) | (obtain ⟨_, _, _, _, _, _, _, _, _, _, _, _, _, _, rfl, _⟩ := h; rfl) | (exact h.1)) (pu__law_draw K), g__law_draw, F__law_draw.kp, F__law_draw.bindsN (ps := ["_law_purse_here", "_law_out_of"]) fun _ _ _ _ _ _ us hl => match us, hl with | [_, _], _ => rfl, .nil⟩
  have R__law_nest : ∀ n : Nat, FnG Pg w K mg base CX0 (2 + n) (He.ga K "_law_nest") fd__law_nest ["_law_purse_here", "_law_count"] (sp__law_nest K n) := by
    intro n
    induction n with
    | zero => exact FnG.zero (fun vs H Q E h => by obtain ⟨_, _, _, _, z, _⟩ := h; exact absurd z (Nat.not_lt_zero _))
    | succ n ih =>
      have I__law_nest : CalG Pg w K mg base CX0 "_law_nest" (2 + n) ["_law_purse_here", "_law_count"] [] (sp__law_nest K n) := ⟨_, fd__law_nest, [], ih, g__law_nest, F__law_nest.kp, F__law_nest.bindsN (ps := ["_law_purse_here", "_law_count"]) fun _ _ _ _ _ _ us hl => match us, hl with | [_, _], _ => rfl, .nil⟩
      exact ok__law_nest (k := 2 + n) F__law_nest T C__law_draw I__law_nest (by omega) (by omega) (fun vs H Q E h => by first | (obtain ⟨rfl, _⟩ := h; rfl) | (obtain ⟨_, rfl, _⟩ := h; rfl) | (obtain ⟨_, _, rfl, _⟩ := h; rfl) | (obtain ⟨_, _, _, rfl, _⟩ := h; rfl) | (obtain ⟨_, _, _, _, rfl, _⟩ := h; rfl) | (obtain ⟨_, _, _, _, _, rfl, _⟩ := h; rfl) | (obtain ⟨_, _, _, _, _, _, rfl, _⟩ := h; rfl) | (obtain ⟨_, _, _, _, _, _, _, rfl, _⟩ := h; rfl) | (obtain ⟨_, _, _, _, _, _, _, _, rfl, _⟩ := h; rfl) | (obtain ⟨_, _, _, _, _, _, _, _, _, rfl, _⟩ := h; rfl) | (obtain ⟨_, _, _, _, _, _, _, _, _, _, rfl, _⟩ := h; rfl) | (obtain ⟨_, _, _, _, _, _, _, _, _, _, _, rfl, _⟩ := h; rfl) | (obtain ⟨_, _, _, _, _, _, _, _, _, _, _, _, rfl, _⟩ := h; rfl) | (obtain ⟨_, _, _, _, _, _, _, _, _, _, _, _, _, rfl, _⟩ := h; rfl) | (obtain ⟨_, _, _, _, _, _, _, _, _, _, _, _, _, _, rfl, _⟩ := h; rfl) | (exact h.1)) (pu__law_nest K n)
  have C__law_nest : CalG Pg w K mg base CX0 "_law_nest" 64 ["_law_purse_here", "_law_count"] [] (sp__law_nest K 62) := ⟨_, fd__law_nest, [], R__law_nest 62, g__law_nest, F__law_nest.kp, F__law_nest.bindsN (ps := ["_law_purse_here", "_law_count"]) fun _ _ _ _ _ _ us hl => match us, hl with | [_, _], _ => rfl, .nil⟩
  have R__law_depths : ∀ n : Nat, FnG Pg w K mg base CX0 (0 + n) (He.ga K "_law_depths") fd__law_depths ["_law_nest_here", "_law_depth"] (sp__law_depths K n) := by
    intro n
    induction n with
    | zero => exact FnG.zero (fun vs H Q E h => by obtain ⟨_, _, _, _, _, z, _⟩ := h; exact absurd z (Nat.not_lt_zero _))
    | succ n ih =>
      have I__law_depths : CalG Pg w K mg base CX0 "_law_depths" (0 + n) ["_law_nest_here", "_law_depth"] [] (sp__law_depths K n) := ⟨_, fd__law_depths, [], ih, g__law_depths, F__law_depths.kp, F__law_depths.bindsN (ps := ["_law_nest_here", "_law_depth"]) fun _ _ _ _ _ _ us hl => match us, hl with | [_, _], _ => rfl, .nil⟩
      exact ok__law_depths (k := 0 + n) F__law_depths T I__law_depths (by omega) (fun vs H Q E h => by first | (obtain ⟨rfl, _⟩ := h; rfl) | (obtain ⟨_, rfl, _⟩ := h; rfl) | (obtain ⟨_, _, rfl, _⟩ := h; rfl) | (obtain ⟨_, _, _, rfl, _⟩ := h; rfl) | (obtain ⟨_, _, _, _, rfl, _⟩ := h; rfl) | (obtain ⟨_, _, _, _, _, rfl, _⟩ := h; rfl) | (obtain ⟨_, _, _, _, _, _, rfl, _⟩ := h; rfl) | (obtain ⟨_, _, _, _, _, _, _, rfl, _⟩ := h; rfl) | (obtain ⟨_, _, _, _, _, _, _, _, rfl, _⟩ := h; rfl) | (obtain ⟨_, _, _, _, _, _, _, _, _, rfl, _⟩ := h; rfl) | (obtain ⟨_, _, _, _, _, _, _, _, _, _, rfl, _⟩ := h; rfl) | (obtain ⟨_, _, _, _, _, _, _, _, _, _, _, rfl, _⟩ := h; rfl) | (obtain ⟨_, _, _, _, _, _, _, _, _, _, _, _, rfl, _⟩ := h; rfl) | (obtain ⟨_, _, _, _, _, _, _, _, _, _, _, _, _, rfl, _⟩ := h; rfl) | (obtain ⟨_, _, _, _, _, _, _, _, _, _, _, _, _, _, rfl, _⟩ := h; rfl) | (exact h.1)) (pu__law_depths K n)
  have C__law_depths : CalG Pg w K mg base CX0 "_law_depths" 62 ["_law_nest_here", "_law_depth"] [] (sp__law_depths K 62) := ⟨_, fd__law_depths, [], R__law_depths 62, g__law_depths, F__law_depths.kp, F__law_depths.bindsN (ps := ["_law_nest_here", "_law_depth"]) fun _ _ _ _ _ _ us hl => match us, hl with | [_, _], _ => rfl, .nil⟩
  have R__law_text : ∀ n : Nat, FnG Pg w K mg base CX0 (0 + n) (He.ga K "_law_text") fd__law_text ["_law_nest_here"] (sp__law_text K n) := by
    intro n
    induction n with
    | zero => exact FnG.zero (fun vs H Q E h => by obtain ⟨_, _, _, _, z, _⟩ := h; exact absurd z (Nat.not_lt_zero _))
    | succ n ih =>
      have I__law_text : CalG Pg w K mg base CX0 "_law_text" (0 + n) ["_law_nest_here"] [] (sp__law_text K n) := ⟨_, fd__law_text, [], ih, g__law_text, F__law_text.kp, F__law_text.bindsN (ps := ["_law_nest_here"]) fun _ _ _ _ _ _ us hl => match us, hl with | [_], _ => rfl, .nil⟩
      exact ok__law_text (k := 0 + n) F__law_text T I__law_text (by omega) (fun vs H Q E h => by first | (obtain ⟨rfl, _⟩ := h; rfl) | (obtain ⟨_, rfl, _⟩ := h; rfl) | (obtain ⟨_, _, rfl, _⟩ := h; rfl) | (obtain ⟨_, _, _, rfl, _⟩ := h; rfl) | (obtain ⟨_, _, _, _, rfl, _⟩ := h; rfl) | (obtain ⟨_, _, _, _, _, rfl, _⟩ := h; rfl) | (obtain ⟨_, _, _, _, _, _, rfl, _⟩ := h; rfl) | (obtain ⟨_, _, _, _, _, _, _, rfl, _⟩ := h; rfl) | (obtain ⟨_, _, _, _, _, _, _, _, rfl, _⟩ := h; rfl) | (obtain ⟨_, _, _, _, _, _, _, _, _, rfl, _⟩ := h; rfl) | (obtain ⟨_, _, _, _, _, _, _, _, _, _, rfl, _⟩ := h; rfl) | (obtain ⟨_, _, _, _, _, _, _, _, _, _, _, rfl, _⟩ := h; rfl) | (obtain ⟨_, _, _, _, _, _, _, _, _, _, _, _, rfl, _⟩ := h; rfl) | (obtain ⟨_, _, _, _, _, _, _, _, _, _, _, _, _, rfl, _⟩ := h; rfl) | (obtain ⟨_, _, _, _, _, _, _, _, _, _, _, _, _, _, rfl, _⟩ := h; rfl) | (exact h.1)) (pu__law_text K n)
  have C__law_text : CalG Pg w K mg base CX0 "_law_text" 62 ["_law_nest_here"] [] (sp__law_text K 62) := ⟨_, fd__law_text, [], R__law_text 62, g__law_text, F__law_text.kp, F__law_text.bindsN (ps := ["_law_nest_here"]) fun _ _ _ _ _ _ us hl => match us, hl with | [_], _ => rfl, .nil⟩
  have C_check_move : CalG Pg w K mg base (L2.CX Pg w) "check_move" 1 ["value"] [] (sp_check_move K (He.ga K "InvalidMove") (He.ga K "Move")) := ⟨_, fd_check_move, [], ok_check_move (k := 0) F_check_move T X_InvalidMove g_Move  (fun vs H Q E h => by first | (obtain ⟨rfl, _⟩ := h; rfl) | (obtain ⟨_, rfl, _⟩ := h; rfl) | (obtain ⟨_, _, rfl, _⟩ := h; rfl) | (obtain ⟨_, _, _, rfl, _⟩ := h; rfl) | (obtain ⟨_, _, _, _, rfl, _⟩ := h; rfl) | (obtain ⟨_, _, _, _, _, rfl, _⟩ := h; rfl) | (obtain ⟨_, _, _, _, _, _, rfl, _⟩ := h; rfl) | (obtain ⟨_, _, _, _, _, _, _, rfl, _⟩ := h; rfl) | (obtain ⟨_, _, _, _, _, _, _, _, rfl, _⟩ := h; rfl) | (obtain ⟨_, _, _, _, _, _, _, _, _, rfl, _⟩ := h; rfl) | (obtain ⟨_, _, _, _, _, _, _, _, _, _, rfl, _⟩ := h; rfl) | (obtain ⟨_, _, _, _, _, _, _, _, _, _, _, rfl, _⟩ := h; rfl) | (obtain ⟨_, _, _, _, _, _, _, _, _, _, _, _, rfl, _⟩ := h; rfl) | (obtain ⟨_, _, _, _, _, _, _, _, _, _, _, _, _, rfl, _⟩ := h; rfl) | (obtain ⟨_, _, _, _, _, _, _, _, _, _, _, _, _, _, rfl, _⟩ := h; rfl) | (exact h.1)) (pu_check_move K (He.ga K "InvalidMove") (He.ga K "Move") (tyI c_Move (obj_ok ob) cc kz) ⟨k1, k2, k3, k4, k5, k6, k7⟩), g_check_move, F_check_move.kp, F_check_move.bindsN (ps := ["value"]) fun _ _ _ _ _ _ us hl => match us, hl with | [_], _ => rfl, .nil⟩
  have C_read_tree : CalG Pg w K mg base CX0 "read_tree" 1 ["value"] [] (sp_read_tree K) := ⟨_, fd_read_tree, [], ok_read_tree (k := 0) F_read_tree T   (fun vs H Q E h => by first | (obtain ⟨rfl, _⟩ := h; rfl) | (obtain ⟨_, rfl, _⟩ := h; rfl) | (obtain ⟨_, _, rfl, _⟩ := h; rfl) | (obtain ⟨_, _, _, rfl, _⟩ := h; rfl) | (obtain ⟨_, _, _, _, rfl, _⟩ := h; rfl) | (obtain ⟨_, _, _, _, _, rfl, _⟩ := h; rfl) | (obtain ⟨_, _, _, _, _, _, rfl, _⟩ := h; rfl) | (obtain ⟨_, _, _, _, _, _, _, rfl, _⟩ := h; rfl) | (obtain ⟨_, _, _, _, _, _, _, _, rfl, _⟩ := h; rfl) | (obtain ⟨_, _, _, _, _, _, _, _, _, rfl, _⟩ := h; rfl) | (obtain ⟨_, _, _, _, _, _, _, _, _, _, rfl, _⟩ := h; rfl) | (obtain ⟨_, _, _, _, _, _, _, _, _, _, _, rfl, _⟩ := h; rfl) | (obtain ⟨_, _, _, _, _, _, _, _, _, _, _, _, rfl, _⟩ := h; rfl) | (obtain ⟨_, _, _, _, _, _, _, _, _, _, _, _, _, rfl, _⟩ := h; rfl) | (obtain ⟨_, _, _, _, _, _, _, _, _, _, _, _, _, _, rfl, _⟩ := h; rfl) | (exact h.1)) (pu_read_tree K), g_read_tree, F_read_tree.kp, F_read_tree.bindsN (ps := ["value"]) fun _ _ _ _ _ _ us hl => match us, hl with | [_], _ => rfl, .nil⟩
  have C_nested : CalG Pg w K mg base (L2.CX Pg w) "nested" 2 ["tree"] [] (sp_nested K (He.ga K "InvalidTree")) := ⟨_, fd_nested, [], ok_nested (k := 1) F_nested T C_read_tree X_InvalidTree (by omega) (fun vs H Q E h => by first | (obtain ⟨rfl, _⟩ := h; rfl) | (obtain ⟨_, rfl, _⟩ := h; rfl) | (obtain ⟨_, _, rfl, _⟩ := h; rfl) | (obtain ⟨_, _, _, rfl, _⟩ := h; rfl) | (obtain ⟨_, _, _, _, rfl, _⟩ := h; rfl) | (obtain ⟨_, _, _, _, _, rfl, _⟩ := h; rfl) | (obtain ⟨_, _, _, _, _, _, rfl, _⟩ := h; rfl) | (obtain ⟨_, _, _, _, _, _, _, rfl, _⟩ := h; rfl) | (obtain ⟨_, _, _, _, _, _, _, _, rfl, _⟩ := h; rfl) | (obtain ⟨_, _, _, _, _, _, _, _, _, rfl, _⟩ := h; rfl) | (obtain ⟨_, _, _, _, _, _, _, _, _, _, rfl, _⟩ := h; rfl) | (obtain ⟨_, _, _, _, _, _, _, _, _, _, _, rfl, _⟩ := h; rfl) | (obtain ⟨_, _, _, _, _, _, _, _, _, _, _, _, rfl, _⟩ := h; rfl) | (obtain ⟨_, _, _, _, _, _, _, _, _, _, _, _, _, rfl, _⟩ := h; rfl) | (obtain ⟨_, _, _, _, _, _, _, _, _, _, _, _, _, _, rfl, _⟩ := h; rfl) | (exact h.1)) (pu_nested K (He.ga K "InvalidTree")), g_nested, F_nested.kp, F_nested.bindsN (ps := ["tree"]) fun _ _ _ _ _ _ us hl => match us, hl with | [_], _ => rfl, .nil⟩
  have R_depths : ∀ n : Nat, FnG Pg w K mg base CX0 (0 + n) (He.ga K "depths") fd_depths ["nest", "depth"] (sp_depths K n) := by
    intro n
    induction n with
    | zero => exact FnG.zero (fun vs H Q E h => by obtain ⟨_, _, _, _, _, z, _⟩ := h; exact absurd z (Nat.not_lt_zero _))
    | succ n ih =>
      have I_depths : CalG Pg w K mg base CX0 "depths" (0 + n) ["nest", "depth"] [] (sp_depths K n) := by
        obtain ⟨ds, rds, hb⟩ := ((show FunD K _ _ _ _ _ [.int 0] [] _ _ from F_depths).binds1 (ps := ["nest", "depth"]) 2 1 (by simp) (by rfl) fun _ _ _ _ _ _ _ us its hu hi => match us, hu, its, hi with | [_, _], _, [_], _ => ⟨_, rfl, rfl⟩)
        exact ⟨_, fd_depths, ds, ih, g_depths, F_depths.kp, hb, rds⟩
      exact ok_depths (k := 0 + n) F_depths T I_depths (by omega) (fun vs H Q E h => by first | (obtain ⟨rfl, _⟩ := h; rfl) | (obtain ⟨_, rfl, _⟩ := h; rfl) | (obtain ⟨_, _, rfl, _⟩ := h; rfl) | (obtain ⟨_, _, _, rfl, _⟩ := h; rfl) | (obtain ⟨_, _, _, _, rfl, _⟩ := h; rfl) | (obtain ⟨_, _, _, _, _, rfl, _⟩ := h; rfl) | (obtain ⟨_, _, _, _, _, _, rfl, _⟩ := h; rfl) | (obtain ⟨_, _, _, _, _, _, _, rfl, _⟩ := h; rfl) | (obtain ⟨_, _, _, _, _, _, _, _, rfl, _⟩ := h; rfl) | (obtain ⟨_, _, _, _, _, _, _, _, _, rfl, _⟩ := h; rfl) | (obtain ⟨_, _, _, _, _, _, _, _, _, _, rfl, _⟩ := h; rfl) | (obtain ⟨_, _, _, _, _, _, _, _, _, _, _, rfl, _⟩ := h; rfl) | (obtain ⟨_, _, _, _, _, _, _, _, _, _, _, _, rfl, _⟩ := h; rfl) | (obtain ⟨_, _, _, _, _, _, _, _, _, _, _, _, _, rfl, _⟩ := h; rfl) | (obtain ⟨_, _, _, _, _, _, _, _, _, _, _, _, _, _, rfl, _⟩ := h; rfl) | (exact h.1)) (pu_depths K n)
  have C_depths : CalG Pg w K mg base CX0 "depths" 62 ["nest", "depth"] [] (sp_depths K 62) := by
    obtain ⟨ds, rds, hb⟩ := ((show FunD K _ _ _ _ _ [.int 0] [] _ _ from F_depths).binds1 (ps := ["nest", "depth"]) 2 1 (by simp) (by rfl) fun _ _ _ _ _ _ _ us its hu hi => match us, hu, its, hi with | [_, _], _, [_], _ => ⟨_, rfl, rfl⟩)
    exact ⟨_, fd_depths, ds, R_depths 62, g_depths, F_depths.kp, hb, rds⟩
  have C_depths__1 : CalG Pg w K mg base CX0 "depths" 62 ["nest", "depth"] [.int 0] (sp_depths K 62) := by
    obtain ⟨ds, rds, hb⟩ := ((show FunD K _ _ _ _ _ [.int 0] [] _ _ from F_depths).binds1 (ps := ["nest", "depth"]) 1 0 (by simp) (by rfl) fun _ _ _ _ _ _ _ us its hu hi => match us, hu, its, hi with | [_], _, [_], _ => ⟨_, rfl, rfl⟩)
    exact ⟨_, fd_depths, ds, R_depths 62, g_depths, F_depths.kp, hb, rds⟩
  have R_Move_after : CalR Pg w K mg base CX0 1 _ (sp_Move_after (He.ga K "Move")) := calR_of (ok_Move_after (k := 0) F_Move_after T c_Move n_Move_trees  (fun vs H Q E h => by first | (obtain ⟨rfl, _⟩ := h; rfl) | (obtain ⟨_, rfl, _⟩ := h; rfl) | (obtain ⟨_, _, rfl, _⟩ := h; rfl) | (obtain ⟨_, _, _, rfl, _⟩ := h; rfl) | (obtain ⟨_, _, _, _, rfl, _⟩ := h; rfl) | (obtain ⟨_, _, _, _, _, rfl, _⟩ := h; rfl) | (obtain ⟨_, _, _, _, _, _, rfl, _⟩ := h; rfl) | (obtain ⟨_, _, _, _, _, _, _, rfl, _⟩ := h; rfl) | (obtain ⟨_, _, _, _, _, _, _, _, rfl, _⟩ := h; rfl) | (obtain ⟨_, _, _, _, _, _, _, _, _, rfl, _⟩ := h; rfl) | (obtain ⟨_, _, _, _, _, _, _, _, _, _, rfl, _⟩ := h; rfl) | (obtain ⟨_, _, _, _, _, _, _, _, _, _, _, rfl, _⟩ := h; rfl) | (obtain ⟨_, _, _, _, _, _, _, _, _, _, _, _, rfl, _⟩ := h; rfl) | (obtain ⟨_, _, _, _, _, _, _, _, _, _, _, _, _, rfl, _⟩ := h; rfl) | (obtain ⟨_, _, _, _, _, _, _, _, _, _, _, _, _, _, rfl, _⟩ := h; rfl) | (exact h.1)) (pu_Move_after K (He.ga K "Move"))) (F_Move_after.bindsN (ps := ["self"]) fun _ _ _ _ _ _ us hl => match us, hl with | [_], _ => rfl)
  have R_Move_before : CalR Pg w K mg base CX0 1 _ (sp_Move_before (He.ga K "Move")) := calR_of (ok_Move_before (k := 0) F_Move_before T c_Move n_Move_trees  (fun vs H Q E h => by first | (obtain ⟨rfl, _⟩ := h; rfl) | (obtain ⟨_, rfl, _⟩ := h; rfl) | (obtain ⟨_, _, rfl, _⟩ := h; rfl) | (obtain ⟨_, _, _, rfl, _⟩ := h; rfl) | (obtain ⟨_, _, _, _, rfl, _⟩ := h; rfl) | (obtain ⟨_, _, _, _, _, rfl, _⟩ := h; rfl) | (obtain ⟨_, _, _, _, _, _, rfl, _⟩ := h; rfl) | (obtain ⟨_, _, _, _, _, _, _, rfl, _⟩ := h; rfl) | (obtain ⟨_, _, _, _, _, _, _, _, rfl, _⟩ := h; rfl) | (obtain ⟨_, _, _, _, _, _, _, _, _, rfl, _⟩ := h; rfl) | (obtain ⟨_, _, _, _, _, _, _, _, _, _, rfl, _⟩ := h; rfl) | (obtain ⟨_, _, _, _, _, _, _, _, _, _, _, rfl, _⟩ := h; rfl) | (obtain ⟨_, _, _, _, _, _, _, _, _, _, _, _, rfl, _⟩ := h; rfl) | (obtain ⟨_, _, _, _, _, _, _, _, _, _, _, _, _, rfl, _⟩ := h; rfl) | (obtain ⟨_, _, _, _, _, _, _, _, _, _, _, _, _, _, rfl, _⟩ := h; rfl) | (exact h.1)) (pu_Move_before K (He.ga K "Move"))) (F_Move_before.bindsN (ps := ["self"]) fun _ _ _ _ _ _ us hl => match us, hl with | [_], _ => rfl)
  have C_depth_pairs : CalG Pg w K mg base (L2.CX Pg w) "depth_pairs" 63 ["move"] [] (sp_depth_pairs (He.ga K "Move") 62) := ⟨_, fd_depth_pairs, [], ok_depth_pairs (k := 62) F_depth_pairs T C_nested C_depths__1 c_Move R_Move_after R_Move_before PR_Move_after PR_Move_before (by omega) (by omega) (by omega) (by omega) (fun vs H Q E h => by first | (obtain ⟨rfl, _⟩ := h; rfl) | (obtain ⟨_, rfl, _⟩ := h; rfl) | (obtain ⟨_, _, rfl, _⟩ := h; rfl) | (obtain ⟨_, _, _, rfl, _⟩ := h; rfl) | (obtain ⟨_, _, _, _, rfl, _⟩ := h; rfl) | (obtain ⟨_, _, _, _, _, rfl, _⟩ := h; rfl) | (obtain ⟨_, _, _, _, _, _, rfl, _⟩ := h; rfl) | (obtain ⟨_, _, _, _, _, _, _, rfl, _⟩ := h; rfl) | (obtain ⟨_, _, _, _, _, _, _, _, rfl, _⟩ := h; rfl) | (obtain ⟨_, _, _, _, _, _, _, _, _, rfl, _⟩ := h; rfl) | (obtain ⟨_, _, _, _, _, _, _, _, _, _, rfl, _⟩ := h; rfl) | (obtain ⟨_, _, _, _, _, _, _, _, _, _, _, rfl, _⟩ := h; rfl) | (obtain ⟨_, _, _, _, _, _, _, _, _, _, _, _, rfl, _⟩ := h; rfl) | (obtain ⟨_, _, _, _, _, _, _, _, _, _, _, _, _, rfl, _⟩ := h; rfl) | (obtain ⟨_, _, _, _, _, _, _, _, _, _, _, _, _, _, rfl, _⟩ := h; rfl) | (exact h.1)) (pu_depth_pairs K (He.ga K "InvalidTree") (He.ga K "Move") 62), g_depth_pairs, F_depth_pairs.kp, F_depth_pairs.bindsN (ps := ["move"]) fun _ _ _ _ _ _ us hl => match us, hl with | [_], _ => rfl, .nil⟩
  have C_change : CalG Pg w K mg base (L2.CX Pg w) "change" 64 ["move"] [] (sp_change K (He.ga K "InvalidMove") (He.ga K "Move") 62) := ⟨_, fd_change, [], ok_change (k := 63) F_change T C_check_move C_depth_pairs (by omega) (by omega) (fun vs H Q E h => by first | (obtain ⟨rfl, _⟩ := h; rfl) | (obtain ⟨_, rfl, _⟩ := h; rfl) | (obtain ⟨_, _, rfl, _⟩ := h; rfl) | (obtain ⟨_, _, _, rfl, _⟩ := h; rfl) | (obtain ⟨_, _, _, _, rfl, _⟩ := h; rfl) | (obtain ⟨_, _, _, _, _, rfl, _⟩ := h; rfl) | (obtain ⟨_, _, _, _, _, _, rfl, _⟩ := h; rfl) | (obtain ⟨_, _, _, _, _, _, _, rfl, _⟩ := h; rfl) | (obtain ⟨_, _, _, _, _, _, _, _, rfl, _⟩ := h; rfl) | (obtain ⟨_, _, _, _, _, _, _, _, _, rfl, _⟩ := h; rfl) | (obtain ⟨_, _, _, _, _, _, _, _, _, _, rfl, _⟩ := h; rfl) | (obtain ⟨_, _, _, _, _, _, _, _, _, _, _, rfl, _⟩ := h; rfl) | (obtain ⟨_, _, _, _, _, _, _, _, _, _, _, _, rfl, _⟩ := h; rfl) | (obtain ⟨_, _, _, _, _, _, _, _, _, _, _, _, _, rfl, _⟩ := h; rfl) | (obtain ⟨_, _, _, _, _, _, _, _, _, _, _, _, _, _, rfl, _⟩ := h; rfl) | (exact h.1)) (pu_change K (He.ga K "InvalidMove") (He.ga K "Move") 62), g_change, F_change.kp, F_change.bindsN (ps := ["move"]) fun _ _ _ _ _ _ us hl => match us, hl with | [_], _ => rfl, .nil⟩
  have C__law_comb : CalG Pg w K mg base CX0 "_law_comb" 3 ["_law_purse_here", "_law_high_here"] [] (sp__law_comb) := ⟨_, fd__law_comb, [], ok__law_comb (k := 2) F__law_comb T C__law_draw (by omega) (fun vs H Q E h => by first | (obtain ⟨rfl, _⟩ := h; rfl) | (obtain ⟨_, rfl, _⟩ := h; rfl) | (obtain ⟨_, _, rfl, _⟩ := h; rfl) | (obtain ⟨_, _, _, rfl, _⟩ := h; rfl) | (obtain ⟨_, _, _, _, rfl, _⟩ := h; rfl) | (obtain ⟨_, _, _, _, _, rfl, _⟩ := h; rfl) | (obtain ⟨_, _, _, _, _, _, rfl, _⟩ := h; rfl) | (obtain ⟨_, _, _, _, _, _, _, rfl, _⟩ := h; rfl) | (obtain ⟨_, _, _, _, _, _, _, _, rfl, _⟩ := h; rfl) | (obtain ⟨_, _, _, _, _, _, _, _, _, rfl, _⟩ := h; rfl) | (obtain ⟨_, _, _, _, _, _, _, _, _, _, rfl, _⟩ := h; rfl) | (obtain ⟨_, _, _, _, _, _, _, _, _, _, _, rfl, _⟩ := h; rfl) | (obtain ⟨_, _, _, _, _, _, _, _, _, _, _, _, rfl, _⟩ := h; rfl) | (obtain ⟨_, _, _, _, _, _, _, _, _, _, _, _, _, rfl, _⟩ := h; rfl) | (obtain ⟨_, _, _, _, _, _, _, _, _, _, _, _, _, _, rfl, _⟩ := h; rfl) | (exact h.1)) (pu__law_comb K), g__law_comb, F__law_comb.kp, F__law_comb.bindsN (ps := ["_law_purse_here", "_law_high_here"]) fun _ _ _ _ _ _ us hl => match us, hl with | [_, _], _ => rfl, .nil⟩
  have C_is_tree : CalG Pg w K mg base CX0 "is_tree" 1 ["value"] [] (sp_is_tree K) := ⟨_, fd_is_tree, [], ok_is_tree (k := 0) F_is_tree T   (fun vs H Q E h => by first | (obtain ⟨rfl, _⟩ := h; rfl) | (obtain ⟨_, rfl, _⟩ := h; rfl) | (obtain ⟨_, _, rfl, _⟩ := h; rfl) | (obtain ⟨_, _, _, rfl, _⟩ := h; rfl) | (obtain ⟨_, _, _, _, rfl, _⟩ := h; rfl) | (obtain ⟨_, _, _, _, _, rfl, _⟩ := h; rfl) | (obtain ⟨_, _, _, _, _, _, rfl, _⟩ := h; rfl) | (obtain ⟨_, _, _, _, _, _, _, rfl, _⟩ := h; rfl) | (obtain ⟨_, _, _, _, _, _, _, _, rfl, _⟩ := h; rfl) | (obtain ⟨_, _, _, _, _, _, _, _, _, rfl, _⟩ := h; rfl) | (obtain ⟨_, _, _, _, _, _, _, _, _, _, rfl, _⟩ := h; rfl) | (obtain ⟨_, _, _, _, _, _, _, _, _, _, _, rfl, _⟩ := h; rfl) | (obtain ⟨_, _, _, _, _, _, _, _, _, _, _, _, rfl, _⟩ := h; rfl) | (obtain ⟨_, _, _, _, _, _, _, _, _, _, _, _, _, rfl, _⟩ := h; rfl) | (obtain ⟨_, _, _, _, _, _, _, _, _, _, _, _, _, _, rfl, _⟩ := h; rfl) | (exact h.1)) (pu_is_tree K), g_is_tree, F_is_tree.kp, F_is_tree.bindsN (ps := ["value"]) fun _ _ _ _ _ _ us hl => match us, hl with | [_], _ => rfl, .nil⟩
  have C_check_tree : CalG Pg w K mg base (L2.CX Pg w) "check_tree" 2 ["value"] [] (sp_check_tree K (He.ga K "InvalidTree")) := ⟨_, fd_check_tree, [], ok_check_tree (k := 1) F_check_tree T C_is_tree X_InvalidTree (by omega) (fun vs H Q E h => by first | (obtain ⟨rfl, _⟩ := h; rfl) | (obtain ⟨_, rfl, _⟩ := h; rfl) | (obtain ⟨_, _, rfl, _⟩ := h; rfl) | (obtain ⟨_, _, _, rfl, _⟩ := h; rfl) | (obtain ⟨_, _, _, _, rfl, _⟩ := h; rfl) | (obtain ⟨_, _, _, _, _, rfl, _⟩ := h; rfl) | (obtain ⟨_, _, _, _, _, _, rfl, _⟩ := h; rfl) | (obtain ⟨_, _, _, _, _, _, _, rfl, _⟩ := h; rfl) | (obtain ⟨_, _, _, _, _, _, _, _, rfl, _⟩ := h; rfl) | (obtain ⟨_, _, _, _, _, _, _, _, _, rfl, _⟩ := h; rfl) | (obtain ⟨_, _, _, _, _, _, _, _, _, _, rfl, _⟩ := h; rfl) | (obtain ⟨_, _, _, _, _, _, _, _, _, _, _, rfl, _⟩ := h; rfl) | (obtain ⟨_, _, _, _, _, _, _, _, _, _, _, _, rfl, _⟩ := h; rfl) | (obtain ⟨_, _, _, _, _, _, _, _, _, _, _, _, _, rfl, _⟩ := h; rfl) | (obtain ⟨_, _, _, _, _, _, _, _, _, _, _, _, _, _, rfl, _⟩ := h; rfl) | (exact h.1)) (pu_check_tree K (He.ga K "InvalidTree")), g_check_tree, F_check_tree.kp, F_check_tree.bindsN (ps := ["value"]) fun _ _ _ _ _ _ us hl => match us, hl with | [_], _ => rfl, .nil⟩
  have C_grown_by : CalG Pg w K mg base CX0 "grown_by" 1 ["tree", "trees"] [] (sp_grown_by K) := ⟨_, fd_grown_by, [], ok_grown_by (k := 0) F_grown_by T   (fun vs H Q E h => by first | (obtain ⟨rfl, _⟩ := h; rfl) | (obtain ⟨_, rfl, _⟩ := h; rfl) | (obtain ⟨_, _, rfl, _⟩ := h; rfl) | (obtain ⟨_, _, _, rfl, _⟩ := h; rfl) | (obtain ⟨_, _, _, _, rfl, _⟩ := h; rfl) | (obtain ⟨_, _, _, _, _, rfl, _⟩ := h; rfl) | (obtain ⟨_, _, _, _, _, _, rfl, _⟩ := h; rfl) | (obtain ⟨_, _, _, _, _, _, _, rfl, _⟩ := h; rfl) | (obtain ⟨_, _, _, _, _, _, _, _, rfl, _⟩ := h; rfl) | (obtain ⟨_, _, _, _, _, _, _, _, _, rfl, _⟩ := h; rfl) | (obtain ⟨_, _, _, _, _, _, _, _, _, _, rfl, _⟩ := h; rfl) | (obtain ⟨_, _, _, _, _, _, _, _, _, _, _, rfl, _⟩ := h; rfl) | (obtain ⟨_, _, _, _, _, _, _, _, _, _, _, _, rfl, _⟩ := h; rfl) | (obtain ⟨_, _, _, _, _, _, _, _, _, _, _, _, _, rfl, _⟩ := h; rfl) | (obtain ⟨_, _, _, _, _, _, _, _, _, _, _, _, _, _, rfl, _⟩ := h; rfl) | (exact h.1)) (pu_grown_by K), g_grown_by, F_grown_by.kp, F_grown_by.bindsN (ps := ["tree", "trees"]) fun _ _ _ _ _ _ us hl => match us, hl with | [_, _], _ => rfl, .nil⟩
  have C_grown : CalG Pg w K mg base (L2.CX Pg w) "grown" 3 ["tree", "hung"] [] (sp_grown K (He.ga K "InvalidTree") (He.ga K "InvalidList")) := ⟨_, fd_grown, [], ok_grown (k := 2) F_grown T C_check_tree C_is_tree C_grown_by X_InvalidList (by omega) (by omega) (by omega) (fun vs H Q E h => by first | (obtain ⟨rfl, _⟩ := h; rfl) | (obtain ⟨_, rfl, _⟩ := h; rfl) | (obtain ⟨_, _, rfl, _⟩ := h; rfl) | (obtain ⟨_, _, _, rfl, _⟩ := h; rfl) | (obtain ⟨_, _, _, _, rfl, _⟩ := h; rfl) | (obtain ⟨_, _, _, _, _, rfl, _⟩ := h; rfl) | (obtain ⟨_, _, _, _, _, _, rfl, _⟩ := h; rfl) | (obtain ⟨_, _, _, _, _, _, _, rfl, _⟩ := h; rfl) | (obtain ⟨_, _, _, _, _, _, _, _, rfl, _⟩ := h; rfl) | (obtain ⟨_, _, _, _, _, _, _, _, _, rfl, _⟩ := h; rfl) | (obtain ⟨_, _, _, _, _, _, _, _, _, _, rfl, _⟩ := h; rfl) | (obtain ⟨_, _, _, _, _, _, _, _, _, _, _, rfl, _⟩ := h; rfl) | (obtain ⟨_, _, _, _, _, _, _, _, _, _, _, _, rfl, _⟩ := h; rfl) | (obtain ⟨_, _, _, _, _, _, _, _, _, _, _, _, _, rfl, _⟩ := h; rfl) | (obtain ⟨_, _, _, _, _, _, _, _, _, _, _, _, _, _, rfl, _⟩ := h; rfl) | (exact h.1)) (pu_grown K (He.ga K "InvalidTree") (He.ga K "InvalidList")), g_grown, F_grown.kp, F_grown.bindsN (ps := ["tree", "hung"]) fun _ _ _ _ _ _ us hl => match us, hl with | [_, _], _ => rfl, .nil⟩
  have C__law_high : CalG Pg w K mg base CX0 "_law_high" 1 ["_law_deeps", "_law_row"] [] (sp__law_high K) := ⟨_, fd__law_high, [], ok__law_high (k := 0) F__law_high T   (fun vs H Q E h => by first | (obtain ⟨rfl, _⟩ := h; rfl) | (obtain ⟨_, rfl, _⟩ := h; rfl) | (obtain ⟨_, _, rfl, _⟩ := h; rfl) | (obtain ⟨_, _, _, rfl, _⟩ := h; rfl) | (obtain ⟨_, _, _, _, rfl, _⟩ := h; rfl) | (obtain ⟨_, _, _, _, _, rfl, _⟩ := h; rfl) | (obtain ⟨_, _, _, _, _, _, rfl, _⟩ := h; rfl) | (obtain ⟨_, _, _, _, _, _, _, rfl, _⟩ := h; rfl) | (obtain ⟨_, _, _, _, _, _, _, _, rfl, _⟩ := h; rfl) | (obtain ⟨_, _, _, _, _, _, _, _, _, rfl, _⟩ := h; rfl) | (obtain ⟨_, _, _, _, _, _, _, _, _, _, rfl, _⟩ := h; rfl) | (obtain ⟨_, _, _, _, _, _, _, _, _, _, _, rfl, _⟩ := h; rfl) | (obtain ⟨_, _, _, _, _, _, _, _, _, _, _, _, rfl, _⟩ := h; rfl) | (obtain ⟨_, _, _, _, _, _, _, _, _, _, _, _, _, rfl, _⟩ := h; rfl) | (obtain ⟨_, _, _, _, _, _, _, _, _, _, _, _, _, _, rfl, _⟩ := h; rfl) | (exact h.1)) (pu__law_high K), g__law_high, F__law_high.kp, F__law_high.bindsN (ps := ["_law_deeps", "_law_row"]) fun _ _ _ _ _ _ us hl => match us, hl with | [_, _], _ => rfl, .nil⟩
  have C_walked : CalG Pg w K mg base CX0 "walked" 1 ["tree"] [] (sp_walked K) := ⟨_, fd_walked, [], ok_walked (k := 0) F_walked T   (fun vs H Q E h => by first | (obtain ⟨rfl, _⟩ := h; rfl) | (obtain ⟨_, rfl, _⟩ := h; rfl) | (obtain ⟨_, _, rfl, _⟩ := h; rfl) | (obtain ⟨_, _, _, rfl, _⟩ := h; rfl) | (obtain ⟨_, _, _, _, rfl, _⟩ := h; rfl) | (obtain ⟨_, _, _, _, _, rfl, _⟩ := h; rfl) | (obtain ⟨_, _, _, _, _, _, rfl, _⟩ := h; rfl) | (obtain ⟨_, _, _, _, _, _, _, rfl, _⟩ := h; rfl) | (obtain ⟨_, _, _, _, _, _, _, _, rfl, _⟩ := h; rfl) | (obtain ⟨_, _, _, _, _, _, _, _, _, rfl, _⟩ := h; rfl) | (obtain ⟨_, _, _, _, _, _, _, _, _, _, rfl, _⟩ := h; rfl) | (obtain ⟨_, _, _, _, _, _, _, _, _, _, _, rfl, _⟩ := h; rfl) | (obtain ⟨_, _, _, _, _, _, _, _, _, _, _, _, rfl, _⟩ := h; rfl) | (obtain ⟨_, _, _, _, _, _, _, _, _, _, _, _, _, rfl, _⟩ := h; rfl) | (obtain ⟨_, _, _, _, _, _, _, _, _, _, _, _, _, _, rfl, _⟩ := h; rfl) | (exact h.1)) (pu_walked K), g_walked, F_walked.kp, F_walked.bindsN (ps := ["tree"]) fun _ _ _ _ _ _ us hl => match us, hl with | [_], _ => rfl, .nil⟩
  have C_addresses_of_leaves : CalG Pg w K mg base CX0 "addresses_of_leaves" 2 ["tree"] [] (sp_addresses_of_leaves) := ⟨_, fd_addresses_of_leaves, [], ok_addresses_of_leaves (k := 1) F_addresses_of_leaves T C_walked (by omega) (fun vs H Q E h => by first | (obtain ⟨rfl, _⟩ := h; rfl) | (obtain ⟨_, rfl, _⟩ := h; rfl) | (obtain ⟨_, _, rfl, _⟩ := h; rfl) | (obtain ⟨_, _, _, rfl, _⟩ := h; rfl) | (obtain ⟨_, _, _, _, rfl, _⟩ := h; rfl) | (obtain ⟨_, _, _, _, _, rfl, _⟩ := h; rfl) | (obtain ⟨_, _, _, _, _, _, rfl, _⟩ := h; rfl) | (obtain ⟨_, _, _, _, _, _, _, rfl, _⟩ := h; rfl) | (obtain ⟨_, _, _, _, _, _, _, _, rfl, _⟩ := h; rfl) | (obtain ⟨_, _, _, _, _, _, _, _, _, rfl, _⟩ := h; rfl) | (obtain ⟨_, _, _, _, _, _, _, _, _, _, rfl, _⟩ := h; rfl) | (obtain ⟨_, _, _, _, _, _, _, _, _, _, _, rfl, _⟩ := h; rfl) | (obtain ⟨_, _, _, _, _, _, _, _, _, _, _, _, rfl, _⟩ := h; rfl) | (obtain ⟨_, _, _, _, _, _, _, _, _, _, _, _, _, rfl, _⟩ := h; rfl) | (obtain ⟨_, _, _, _, _, _, _, _, _, _, _, _, _, _, rfl, _⟩ := h; rfl) | (exact h.1)) (pu_addresses_of_leaves K), g_addresses_of_leaves, F_addresses_of_leaves.kp, F_addresses_of_leaves.bindsN (ps := ["tree"]) fun _ _ _ _ _ _ us hl => match us, hl with | [_], _ => rfl, .nil⟩
  have C_height : CalG Pg w K mg base (L2.CX Pg w) "height" 3 ["tree"] [] (sp_height K (He.ga K "InvalidTree")) := ⟨_, fd_height, [], ok_height (k := 2) F_height T C_check_tree C_addresses_of_leaves (by omega) (by omega) (fun vs H Q E h => by first | (obtain ⟨rfl, _⟩ := h; rfl) | (obtain ⟨_, rfl, _⟩ := h; rfl) | (obtain ⟨_, _, rfl, _⟩ := h; rfl) | (obtain ⟨_, _, _, rfl, _⟩ := h; rfl) | (obtain ⟨_, _, _, _, rfl, _⟩ := h; rfl) | (obtain ⟨_, _, _, _, _, rfl, _⟩ := h; rfl) | (obtain ⟨_, _, _, _, _, _, rfl, _⟩ := h; rfl) | (obtain ⟨_, _, _, _, _, _, _, rfl, _⟩ := h; rfl) | (obtain ⟨_, _, _, _, _, _, _, _, rfl, _⟩ := h; rfl) | (obtain ⟨_, _, _, _, _, _, _, _, _, rfl, _⟩ := h; rfl) | (obtain ⟨_, _, _, _, _, _, _, _, _, _, rfl, _⟩ := h; rfl) | (obtain ⟨_, _, _, _, _, _, _, _, _, _, _, rfl, _⟩ := h; rfl) | (obtain ⟨_, _, _, _, _, _, _, _, _, _, _, _, rfl, _⟩ := h; rfl) | (obtain ⟨_, _, _, _, _, _, _, _, _, _, _, _, _, rfl, _⟩ := h; rfl) | (obtain ⟨_, _, _, _, _, _, _, _, _, _, _, _, _, _, rfl, _⟩ := h; rfl) | (exact h.1)) (pu_height K (He.ga K "InvalidTree")), g_height, F_height.kp, F_height.bindsN (ps := ["tree"]) fun _ _ _ _ _ _ us hl => match us, hl with | [_], _ => rfl, .nil⟩
  have R_Move___init__ : CalR Pg w K mg base (L2.CX Pg w) 3 _ (sp_Move___init__ (He.ga K "Move")) := calR_of (ok_Move___init__ (k := 2) F_Move___init__ T C_check_tree X_InvalidMove c_Move n_Move_trees (by omega) (fun vs H Q E h => by first | (obtain ⟨rfl, _⟩ := h; rfl) | (obtain ⟨_, rfl, _⟩ := h; rfl) | (obtain ⟨_, _, rfl, _⟩ := h; rfl) | (obtain ⟨_, _, _, rfl, _⟩ := h; rfl) | (obtain ⟨_, _, _, _, rfl, _⟩ := h; rfl) | (obtain ⟨_, _, _, _, _, rfl, _⟩ := h; rfl) | (obtain ⟨_, _, _, _, _, _, rfl, _⟩ := h; rfl) | (obtain ⟨_, _, _, _, _, _, _, rfl, _⟩ := h; rfl) | (obtain ⟨_, _, _, _, _, _, _, _, rfl, _⟩ := h; rfl) | (obtain ⟨_, _, _, _, _, _, _, _, _, rfl, _⟩ := h; rfl) | (obtain ⟨_, _, _, _, _, _, _, _, _, _, rfl, _⟩ := h; rfl) | (obtain ⟨_, _, _, _, _, _, _, _, _, _, _, rfl, _⟩ := h; rfl) | (obtain ⟨_, _, _, _, _, _, _, _, _, _, _, _, rfl, _⟩ := h; rfl) | (obtain ⟨_, _, _, _, _, _, _, _, _, _, _, _, _, rfl, _⟩ := h; rfl) | (obtain ⟨_, _, _, _, _, _, _, _, _, _, _, _, _, _, rfl, _⟩ := h; rfl) | (exact h.1)) (pu_Move___init__ K (He.ga K "InvalidTree") (He.ga K "InvalidMove") (He.ga K "Move"))) (F_Move___init__.bindsN (ps := ["self", "before", "after"]) fun _ _ _ _ _ _ us hl => match us, hl with | [_, _, _], _ => rfl)
  have C_end_of : CalG Pg w K mg base CX0 "end_of" 1 ["tree", "start"] [] (sp_end_of) := ⟨_, fd_end_of, [], ok_end_of (k := 0) F_end_of T   (fun vs H Q E h => by first | (obtain ⟨rfl, _⟩ := h; rfl) | (obtain ⟨_, rfl, _⟩ := h; rfl) | (obtain ⟨_, _, rfl, _⟩ := h; rfl) | (obtain ⟨_, _, _, rfl, _⟩ := h; rfl) | (obtain ⟨_, _, _, _, rfl, _⟩ := h; rfl) | (obtain ⟨_, _, _, _, _, rfl, _⟩ := h; rfl) | (obtain ⟨_, _, _, _, _, _, rfl, _⟩ := h; rfl) | (obtain ⟨_, _, _, _, _, _, _, rfl, _⟩ := h; rfl) | (obtain ⟨_, _, _, _, _, _, _, _, rfl, _⟩ := h; rfl) | (obtain ⟨_, _, _, _, _, _, _, _, _, rfl, _⟩ := h; rfl) | (obtain ⟨_, _, _, _, _, _, _, _, _, _, rfl, _⟩ := h; rfl) | (obtain ⟨_, _, _, _, _, _, _, _, _, _, _, rfl, _⟩ := h; rfl) | (obtain ⟨_, _, _, _, _, _, _, _, _, _, _, _, rfl, _⟩ := h; rfl) | (obtain ⟨_, _, _, _, _, _, _, _, _, _, _, _, _, rfl, _⟩ := h; rfl) | (obtain ⟨_, _, _, _, _, _, _, _, _, _, _, _, _, _, rfl, _⟩ := h; rfl) | (exact h.1)) (pu_end_of K), g_end_of, F_end_of.kp, F_end_of.bindsN (ps := ["tree", "start"]) fun _ _ _ _ _ _ us hl => match us, hl with | [_, _], _ => rfl, .nil⟩
  have C_hung_on : CalG Pg w K mg base CX0 "hung_on" 2 ["tree", "top"] [] (sp_hung_on) := ⟨_, fd_hung_on, [], ok_hung_on (k := 1) F_hung_on T C_end_of (by omega) (fun vs H Q E h => by first | (obtain ⟨rfl, _⟩ := h; rfl) | (obtain ⟨_, rfl, _⟩ := h; rfl) | (obtain ⟨_, _, rfl, _⟩ := h; rfl) | (obtain ⟨_, _, _, rfl, _⟩ := h; rfl) | (obtain ⟨_, _, _, _, rfl, _⟩ := h; rfl) | (obtain ⟨_, _, _, _, _, rfl, _⟩ := h; rfl) | (obtain ⟨_, _, _, _, _, _, rfl, _⟩ := h; rfl) | (obtain ⟨_, _, _, _, _, _, _, rfl, _⟩ := h; rfl) | (obtain ⟨_, _, _, _, _, _, _, _, rfl, _⟩ := h; rfl) | (obtain ⟨_, _, _, _, _, _, _, _, _, rfl, _⟩ := h; rfl) | (obtain ⟨_, _, _, _, _, _, _, _, _, _, rfl, _⟩ := h; rfl) | (obtain ⟨_, _, _, _, _, _, _, _, _, _, _, rfl, _⟩ := h; rfl) | (obtain ⟨_, _, _, _, _, _, _, _, _, _, _, _, rfl, _⟩ := h; rfl) | (obtain ⟨_, _, _, _, _, _, _, _, _, _, _, _, _, rfl, _⟩ := h; rfl) | (obtain ⟨_, _, _, _, _, _, _, _, _, _, _, _, _, _, rfl, _⟩ := h; rfl) | (exact h.1)) (pu_hung_on K), g_hung_on, F_hung_on.kp, F_hung_on.bindsN (ps := ["tree", "top"]) fun _ _ _ _ _ _ us hl => match us, hl with | [_, _], _ => rfl, .nil⟩
  have R_Move___call__ : CalR Pg w K mg base (L2.CX Pg w) 3 _ (sp_Move___call__ K (He.ga K "InvalidTree") (He.ga K "CannotMove") (He.ga K "Move")) := calR_of (ok_Move___call__ (k := 2) F_Move___call__ T C_is_tree C_hung_on C_check_tree C_grown_by X_CannotMove c_Move n_Move_trees (by omega) (by omega) (by omega) (by omega) (fun vs H Q E h => by first | (obtain ⟨rfl, _⟩ := h; rfl) | (obtain ⟨_, rfl, _⟩ := h; rfl) | (obtain ⟨_, _, rfl, _⟩ := h; rfl) | (obtain ⟨_, _, _, rfl, _⟩ := h; rfl) | (obtain ⟨_, _, _, _, rfl, _⟩ := h; rfl) | (obtain ⟨_, _, _, _, _, rfl, _⟩ := h; rfl) | (obtain ⟨_, _, _, _, _, _, rfl, _⟩ := h; rfl) | (obtain ⟨_, _, _, _, _, _, _, rfl, _⟩ := h; rfl) | (obtain ⟨_, _, _, _, _, _, _, _, rfl, _⟩ := h; rfl) | (obtain ⟨_, _, _, _, _, _, _, _, _, rfl, _⟩ := h; rfl) | (obtain ⟨_, _, _, _, _, _, _, _, _, _, rfl, _⟩ := h; rfl) | (obtain ⟨_, _, _, _, _, _, _, _, _, _, _, rfl, _⟩ := h; rfl) | (obtain ⟨_, _, _, _, _, _, _, _, _, _, _, _, rfl, _⟩ := h; rfl) | (obtain ⟨_, _, _, _, _, _, _, _, _, _, _, _, _, rfl, _⟩ := h; rfl) | (obtain ⟨_, _, _, _, _, _, _, _, _, _, _, _, _, _, rfl, _⟩ := h; rfl) | (exact h.1)) (pu_Move___call__ K (He.ga K "InvalidTree") (He.ga K "CannotMove") (He.ga K "Move"))) (F_Move___call__.bindsN (ps := ["self", "tree"]) fun _ _ _ _ _ _ us hl => match us, hl with | [_, _], _ => rfl)
  have C__law_done : CalG Pg w K mg base CX0 "_law_done" 63 ["_law_purse_here", "_law_one", "_law_other", "_law_row"] [] (sp__law_done K) := ⟨_, fd__law_done, [], ok__law_done (k := 62) F__law_done T C__law_text C__law_comb C_grown C__law_depths C__law_high C_height g_Move c_Move R_Move___init__ R_Move_before R_Move___call__ MK_Move PR_Move_before CO_Move___call__ (by omega) (by omega) (by omega) (by omega) (by omega) (by omega) (by omega) (by omega) (by omega) (fun vs H Q E h => by first | (obtain ⟨rfl, _⟩ := h; rfl) | (obtain ⟨_, rfl, _⟩ := h; rfl) | (obtain ⟨_, _, rfl, _⟩ := h; rfl) | (obtain ⟨_, _, _, rfl, _⟩ := h; rfl) | (obtain ⟨_, _, _, _, rfl, _⟩ := h; rfl) | (obtain ⟨_, _, _, _, _, rfl, _⟩ := h; rfl) | (obtain ⟨_, _, _, _, _, _, rfl, _⟩ := h; rfl) | (obtain ⟨_, _, _, _, _, _, _, rfl, _⟩ := h; rfl) | (obtain ⟨_, _, _, _, _, _, _, _, rfl, _⟩ := h; rfl) | (obtain ⟨_, _, _, _, _, _, _, _, _, rfl, _⟩ := h; rfl) | (obtain ⟨_, _, _, _, _, _, _, _, _, _, rfl, _⟩ := h; rfl) | (obtain ⟨_, _, _, _, _, _, _, _, _, _, _, rfl, _⟩ := h; rfl) | (obtain ⟨_, _, _, _, _, _, _, _, _, _, _, _, rfl, _⟩ := h; rfl) | (obtain ⟨_, _, _, _, _, _, _, _, _, _, _, _, _, rfl, _⟩ := h; rfl) | (obtain ⟨_, _, _, _, _, _, _, _, _, _, _, _, _, _, rfl, _⟩ := h; rfl) | (exact h.1)) (pu__law_done K (He.ga K "InvalidTree") (He.ga K "InvalidList") (He.ga K "CannotMove") (He.ga K "Move") 62 (by decide)), g__law_done, F__law_done.kp, F__law_done.bindsN (ps := ["_law_purse_here", "_law_one", "_law_other", "_law_row"]) fun _ _ _ _ _ _ us hl => match us, hl with | [_, _, _, _], _ => rfl, .nil⟩
  have C__law_right : CalG Pg w K mg base CX0 "_law_right" 65 ["_law_purse_here", "_law_one", "_law_other"] [] (sp__law_right K) := ⟨_, fd__law_right, [], ok__law_right (k := 64) F__law_right T C__law_depths C__law_text C_change C__law_draw C__law_done g_Move c_Move R_Move___init__ MK_Move (by omega) (by omega) (by omega) (by omega) (by omega) (by omega) (fun vs H Q E h => by first | (obtain ⟨rfl, _⟩ := h; rfl) | (obtain ⟨_, rfl, _⟩ := h; rfl) | (obtain ⟨_, _, rfl, _⟩ := h; rfl) | (obtain ⟨_, _, _, rfl, _⟩ := h; rfl) | (obtain ⟨_, _, _, _, rfl, _⟩ := h; rfl) | (obtain ⟨_, _, _, _, _, rfl, _⟩ := h; rfl) | (obtain ⟨_, _, _, _, _, _, rfl, _⟩ := h; rfl) | (obtain ⟨_, _, _, _, _, _, _, rfl, _⟩ := h; rfl) | (obtain ⟨_, _, _, _, _, _, _, _, rfl, _⟩ := h; rfl) | (obtain ⟨_, _, _, _, _, _, _, _, _, rfl, _⟩ := h; rfl) | (obtain ⟨_, _, _, _, _, _, _, _, _, _, rfl, _⟩ := h; rfl) | (obtain ⟨_, _, _, _, _, _, _, _, _, _, _, rfl, _⟩ := h; rfl) | (obtain ⟨_, _, _, _, _, _, _, _, _, _, _, _, rfl, _⟩ := h; rfl) | (obtain ⟨_, _, _, _, _, _, _, _, _, _, _, _, _, rfl, _⟩ := h; rfl) | (obtain ⟨_, _, _, _, _, _, _, _, _, _, _, _, _, _, rfl, _⟩ := h; rfl) | (exact h.1)) (pu__law_right K (He.ga K "InvalidMove") (He.ga K "Move") 62 (by decide)), g__law_right, F__law_right.kp, F__law_right.bindsN (ps := ["_law_purse_here", "_law_one", "_law_other"]) fun _ _ _ _ _ _ us hl => match us, hl with | [_, _, _], _ => rfl, .nil⟩
  exact (ok_law (k := 65) F_law T C__law_purse C__law_draw C__law_nest C__law_right C_change g_TurnError X_InvalidMove (by omega) (by omega) (by omega) (by omega) (by omega) (fun vs H Q E h => by first | (obtain ⟨rfl, _⟩ := h; rfl) | (obtain ⟨_, rfl, _⟩ := h; rfl) | (obtain ⟨_, _, rfl, _⟩ := h; rfl) | (obtain ⟨_, _, _, rfl, _⟩ := h; rfl) | (obtain ⟨_, _, _, _, rfl, _⟩ := h; rfl) | (obtain ⟨_, _, _, _, _, rfl, _⟩ := h; rfl) | (obtain ⟨_, _, _, _, _, _, rfl, _⟩ := h; rfl) | (obtain ⟨_, _, _, _, _, _, _, rfl, _⟩ := h; rfl) | (obtain ⟨_, _, _, _, _, _, _, _, rfl, _⟩ := h; rfl) | (obtain ⟨_, _, _, _, _, _, _, _, _, rfl, _⟩ := h; rfl) | (obtain ⟨_, _, _, _, _, _, _, _, _, _, rfl, _⟩ := h; rfl) | (obtain ⟨_, _, _, _, _, _, _, _, _, _, _, rfl, _⟩ := h; rfl) | (obtain ⟨_, _, _, _, _, _, _, _, _, _, _, _, rfl, _⟩ := h; rfl) | (obtain ⟨_, _, _, _, _, _, _, _, _, _, _, _, _, rfl, _⟩ := h; rfl) | (obtain ⟨_, _, _, _, _, _, _, _, _, _, _, _, _, _, rfl, _⟩ := h; rfl) | (exact h.1)) (pu_law K (He.ga K "TurnError") (He.ga K "InvalidMove") (He.ga K "Move") 62 (by decide) x1 E_InvalidMove z1)).mono (by omega)
end Pf
open PySem PySem.W PySem.Calls PyProof.Rows
set_option maxHeartbeats 0 in
theorem PySem.Challenge.cw_treeturns_k52_changes_of_height_holds : PySem.Challenge.rw_treeturns_k52_changes_of_height.Holds := by
  w_on; o_law
  refine HandSHeadRun.head_any (r := OpenLaw.row PySem.Challenge.rw_treeturns_k52_changes_of_height) (q := view (OpenLaw.row PySem.Challenge.rw_treeturns_k52_changes_of_height).prog [59]) (H := Pf.hk) (ob := Pf.ob) (M := 6000) (loose := Pf.loose) (d := HandSHeadRun.topDef (OpenLaw.row PySem.Challenge.rw_treeturns_k52_changes_of_height).prog 59) (kwd := []) Pf.ob_eq
    (by kernel_rfl) (fun s => by kernel_rfl) Pf.run (by kernel_rfl) (by kernel_rfl) (by kernel_rfl) (by rfl) (by first | assumption | decide +kernel) (by decide +kernel) ⟨rfl, rfl, rfl, rfl, rfl, by decide +kernel⟩ ?hw ?hc
  case hw => w_witness2
  case hc =>
    refine M.walk_ofG (l := PySem.Challenge.rw_treeturns_k52_changes_of_height) (n := 63) (k := 200) (x := "_law_script") (CX := L2.CX0) rfl (by decide) (by kernel_rfl) ⟨rfl, by decide, by decide, rfl⟩ ?F (fun _ _ _ _ z => z)
    intro w mg fa h Y G hmg0
    obtain ⟨K, KX, c⟩ := Y
    have hmg : mg ("law" : PySem.Str) = some (.ref fa) := by
      have e : (HandSHeadRun.topDef (OpenLaw.row PySem.Challenge.rw_treeturns_k52_changes_of_height).prog 59).name = ("law" : PySem.Str) := by kernel_rfl
      rw [← e]
      exact hmg0
    obtain ⟨fd, hb, hF⟩ := Pf.facts (w := w) KX G hmg c
    exact ⟨K, fd, Pf.sp_law K, KX, hb, fun H a ns hl _ hS => ⟨a, ns, rfl, hS, fun _ => rfl⟩, hF⟩
