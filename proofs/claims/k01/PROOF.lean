import PyProof.Rows.All
import Wide.All
import OpenK.AllK
import Wide.FinOn
import KE.KStateDown
import HandS.ForMost
import HandS.ForExc
import HandS.Style
import HandS.Wide
import HandS.WideBits
import HandS.CallSlots
import HandS.Defaults
import HandS.Walk
import KE.KExcSuper
import KE.KExcIs
import HandS.ExcInit
import HandS.ExcSuper
import HandS.ExcField
import HandS.ExcIs
import HandS.ExcOwn
import HandS.Ends
import PyProof.ReprRoads
import HandS.Head0
import HandS.Head1
import HandS.Head2
import HandS.HeadEnd
import HandS.HeadHook1
import HandS.HeadHook2
import HandS.HeadHook3
import PyProof.Rows.StrMul
import HandS.IsInst
import HandS.RaiseMore
import HandS.NoneIn
import PyProof.Rows.SortShellAny
import PyProof.Rows.StrRev
import HandS.More
import HandS.TupAny
import PyProof.Draws
import PyProof.EnumMake
import HandS.Call
import HandS.Property
import HandS.ClsMeth
import HandS.Star
import HandS.OwnEq
import HandS.FStr
import KE.KOpsOwn
import OpenK.KMeth
import OpenK.KOps
import PyProof.InstEq
import PyProof.InstNe
import HandS.Dict
import PyProof.ZipIter
import KE.GoesEnumKw
import KE.KItemsList
import HandS.SortKw
import KE.KIndexOf
import PyProof.FactsAll.dict
import HandS.ExcValue
import HandS.Codes
import PyProof.ReprLen
import PyProof.StrLawsRepr
import PySem.Challenge.RW_treeturns_k01_errors
set_option Elab.async false
set_option linter.all false
set_option maxRecDepth 100000
set_option maxHeartbeats 4000000
set_option exponentiation.threshold 4000
/-! M0: readings that reckon themselves (by cases on the values at hand), over the hand layer's judgements. -/
namespace M
open PySem PySem.Spec PyProof.Rows L2

/-! ### weakening -/
section
variable {X : Cx}
theorem pe_imp {e : Expr} {t t' : TE} (h : PE X e t) (w : ∀ σ H Q, t' σ H Q → t σ H Q) : PE X e t' := ⟨fun pins s σ H Q I q => h.run pins s σ H Q I (w σ H Q q)⟩
theorem pt_imp {e : Expr} {t t' : TT} (h : PT X e t) (w : ∀ σ H Q, t' σ H Q → t σ H Q) : PT X e t' := ⟨fun pins s σ H Q I q => h.run pins s σ H Q I (w σ H Q q)⟩
theorem ps_imp {e : Stmt} {t t' : TS} (h : PS X e t) (w : ∀ D σ H, t' D σ H → t D σ H) : PS X e t' := ⟨fun pins s σ H D I q => h.run pins s σ H D I (w D σ H q)⟩
theorem pg_imp {e : Expr} {t t' : TG} (h : PG X e t) (w : ∀ v σ H Q, t' v σ H Q → t v σ H Q) : PG X e t' := ⟨fun pins s σ H v u Q I r q => h.run pins s σ H v u Q I r (w v σ H Q q)⟩
theorem pgs_imp {e : List Expr} {t t' : TGs} (h : PGs X e t) (w : ∀ v σ H Q, t' v σ H Q → t v σ H Q) : PGs X e t' := ⟨fun pins s σ H v u Q I r q => h.run pins s σ H v u Q I r (w v σ H Q q)⟩
theorem opR_imp {f : Value → Value → Sem Value} {r r' : R2} (h : OpR X f r) (w : ∀ x y H Q, r' x y H Q → r x y H Q) : OpR X f r' := fun pins s σ H x y v u Q I rx ry q => h pins s σ H x y v u Q I rx ry (w x y H Q q)
theorem ixR_imp {r r' : R2} (h : IxR X r) (w : ∀ x y H Q, r' x y H Q → r x y H Q) : IxR X r' := fun value slice pins s σ H x y v u Q I rx ry q => h value slice pins s σ H x y v u Q I rx ry (w x y H Q q)
theorem slR_imp {r r' : V → Option Int → Option Int → Hp → VK → Prop} (h : SlR X r) (w : ∀ x l u H Q, r' x l u H Q → r x l u H Q) : SlR X r' := fun pins s σ H x v vl vu lo hi sl Q I rx hs pl pu q => h pins s σ H x v vl vu lo hi sl Q I rx hs pl pu (w _ _ _ _ _ q)
theorem callR_imp {f : Value} {r r' : List V → Hp → VK → Prop} (h : CallR X f r) (w : ∀ x H Q, r' x H Q → r x H Q) : CallR X f r' := fun pins s σ H xs us Q I r q => h pins s σ H xs us Q I r (w _ _ _ q)
end

/-! ### texts as lists of codes -/
def S (l : List Nat) : Str := ⟨l.toArray⟩
theorem S_cps (l : List Nat) : (S l).cps.toList = l := by simp [S]
theorem S_len (l : List Nat) : (S l).length = l.length := by simp [S, Str.length]
theorem S_app (a b : List Nat) : S a ++ S b = S (a ++ b) := by
  show (⟨a.toArray ++ b.toArray⟩ : Str) = ⟨(a ++ b).toArray⟩
  rw [← List.append_toArray]
theorem S_inj {a b : List Nat} : S a = S b ↔ a = b := by
  constructor
  · intro h
    have := congrArg (fun s : Str => s.cps.toList) h
    simpa [S] using this
  · rintro rfl; rfl
theorem S_of (z : Str) : S z.cps.toList = z := by
  cases z; simp [S]
theorem S_one (c : Nat) : (⟨#[c]⟩ : Str) = S [c] := rfl
theorem str_S (a b : List Nat) : (V.str (S a) = V.str (S b)) ↔ a = b := by
  rw [V.str.injEq, S_inj]

/-! ### slots -/
abbrev Sl := List (Option V)
def gt : Sl → Nat → Option V
  | [], _ => none
  | x :: _, 0 => x
  | _ :: r, n + 1 => gt r n
theorem gt_some : ∀ {σ : Sl} {i : Nat} {v : V}, gt σ i = some v → σ[i]? = some (some v)
  | [], _, _, h => by cases h
  | x :: _, 0, v, h => by
    have h' : x = some v := h
    rw [h']; rfl
  | _ :: r, n + 1, v, h => by
    have := gt_some (σ := r) (i := n) (v := v) h
    simpa using this
def mVar (i : Nat) : TE := fun σ H Q => match gt σ i with | some v => Q v H | none => False
def mC (v : V) : TE := fun _ H Q => Q v H
section
variable {X : Cx} {a b : Expr} {ta tb : TE} {pos : Pos}
theorem mv (i : Nat) {x : Str} {pos : Pos} (hN : X.N[i]? = some x := by rfl) (hv : Vis X.env.scope x := by first | exact Or.inl rfl | exact Or.inr (Or.inl rfl) | exact Or.inr (Or.inr rfl)) (hd : (x == ("__debug__" : Str)) = false := by decide)
    (hcd : (x == ("__classdict__" : Str)) = false := by decide) : PE X (.Name x pos) (mVar i) := pe_imp (pe_var hN hv hd hcd) fun σ H Q q => by
  unfold mVar at q
  cases e : gt σ i with
  | none => rw [e] at q; exact q.elim
  | some v => rw [e] at q; exact ⟨v, gt_some e, q⟩
theorem me_int {i j pos} : PE X (.Constant (.int i) j pos) (mC (.int i)) := pe_int
theorem me_bl {i j pos} : PE X (.Constant (.bool i) j pos) (mC (.bl i)) := pe_bl
theorem me_non {j pos} : PE X (.Constant .none j pos) (mC .non) := pe_non
theorem me_str (l : List Nat) {x j pos} (h : x = S l) : PE X (.Constant (.str x) j pos) (mC (.str (S l))) := by subst h; exact pe_str
theorem me_gint {x : Str} {i : Int} {t : Tok} {pos : Pos} (hg : Gl X x) (hm : X.mg x = some (.int i t)) (hd : (x == ("__debug__" : Str)) = false := by decide) : PE X (.Name x pos) (mC (.int i)) := pe_glob hg hm ⟨t, rfl⟩ hd
theorem me_gstr (l : List Nat) {x z : Str} {t : Tok} {pos : Pos} (hg : Gl X x) (hm : X.mg x = some (.str z t)) (h : z = S l) (hd : (x == ("__debug__" : Str)) = false := by decide) : PE X (.Name x pos) (mC (.str (S l))) := by
  subst h; exact pe_glob hg hm ⟨t, rfl⟩ hd

/-! ### operators -/
/-- a number below this many bits in all -/
def MulOk (i j : Int) : Prop := i.natAbs.log2 + j.natAbs.log2 < 1000000
theorem MulOk.of {i j : Int} (a b : Nat) (ha : i.natAbs < 2 ^ a) (hb : j.natAbs < 2 ^ b) (h0 : 0 < a := by decide) (h1 : 0 < b := by decide) (h : a + b ≤ 1000000 := by decide) : MulOk i j := wide_mul ha hb h0 h1 h
def DivOk (j : Int) : Prop := 0 < j ∧ j.natAbs.log2 < 9000
theorem DivOk.of {j : Int} (b : Nat) (h : 0 < j) (hb : j.natAbs < 2 ^ b) (h0 : 0 < b := by decide) (h9 : b ≤ 9000 := by decide) : DivOk j := wide_div (i := 0) h hb h0 h9
def mAdd : R2 := fun x y H Q => match x, y with
  | .int i, .int j => Q (.int (i + j)) H
  | .str a, .str b => a.length + b.length ≤ sizeLine ∧ Q (.str (a ++ b)) H
  | .ref a, .ref b => (∃ xs zs, H a = some (.lst xs) ∧ H b = some (.lst zs) ∧ xs.length + zs.length ≤ sizeLine ∧ ∀ p, H p = none → Q (.ref p) (upd H p (.lst (xs ++ zs))))
  | .int i, .bl k => Q (.int (i + b2i k)) H
  | _, _ => False
theorem op_addM : OpR X (binaryOp .Add) mAdd := by
  intro pins s σ H x y v u Q I rx ry q
  unfold mAdd at q
  split at q
  · exact op_add pins s σ H _ _ v u Q I rx ry ⟨_, _, rfl, rfl, q⟩
  · exact op_add_str pins s σ H _ _ v u Q I rx ry ⟨_, _, rfl, rfl, q⟩
  · obtain ⟨xs, zs, h1, h2, h3, h4⟩ := q
    exact op_cat pins s σ H _ _ v u Q I rx ry ⟨_, _, xs, zs, rfl, rfl, h1, h2, h3, h4⟩
  · exact op_add_ib pins s σ H _ _ v u Q I rx ry ⟨_, _, rfl, rfl, q⟩
  · exact q.elim
def mSub : R2 := fun x y H Q => match x, y with
  | .int i, .int j => Q (.int (i - j)) H
  | _, _ => False
theorem op_subM : OpR X (binaryOp .Sub) mSub := opR_imp op_sub fun x y H Q q => by
  unfold mSub at q
  split at q
  · exact ⟨_, _, rfl, rfl, q⟩
  · exact q.elim
def mMul : R2 := fun x y H Q => match x, y with
  | .int i, .int j => MulOk i j ∧ Q (.int (i * j)) H
  | .ref l, .int k => ∃ xs, H l = some (.lst xs) ∧ -(2 ^ 63) ≤ k ∧ k < 2 ^ 63 ∧ xs.length * k.toNat ≤ sizeLine ∧ ∀ p, H p = none → Q (.ref p) (upd H p (.lst (List.replicate k.toNat xs).flatten))
  | .str a, .int k => (a.length * 4096 ≤ 16777216 ∧ 0 ≤ k ∧ k ≤ 4096) ∧ Q (.str (Txt.mul a k)) H
  | _, _ => False
theorem op_mulM : OpR X (binaryOp .Mult) mMul := by
  intro pins s σ H x y v u Q I rx ry q
  unfold mMul at q
  split at q
  · exact op_mulW pins s σ H _ _ v u Q I rx ry ⟨_, _, rfl, rfl, q⟩
  · obtain ⟨xs, h1, h2, h3, h4, h5⟩ := q
    exact op_rep pins s σ H _ _ v u Q I rx ry ⟨_, _, xs, rfl, rfl, h1, h2, h3, h4, h5⟩
  · rename_i a k
    obtain ⟨⟨h1, h2, h3⟩, q⟩ := q
    obtain ⟨t, rfl⟩ := rx
    obtain ⟨t', rfl⟩ := ry
    exact SB.mul (PyProof.Rows.mulOk_of a.length 4096 (Nat.le_refl _) h3 (by omega) (by decide) h1) fun t2 k2 => ⟨.str _, H, I.tok _, ⟨_, rfl⟩, q⟩
  · exact q.elim
def mMod : R2 := fun x y H Q => match x, y with
  | .int i, .int j => 0 < j ∧ Q (.int (i % j)) H
  | _, _ => False
theorem op_modM : OpR X (binaryOp .Mod) mMod := opR_imp op_mod fun x y H Q q => by
  unfold mMod at q
  split at q
  · exact ⟨_, _, rfl, rfl, q⟩
  · exact q.elim
def mDiv : R2 := fun x y H Q => match x, y with
  | .int i, .int j => DivOk j ∧ Q (.int (i / j)) H
  | _, _ => False
theorem op_divM : OpR X (binaryOp .FloorDiv) mDiv := opR_imp op_fdivW fun x y H Q q => by
  unfold mDiv at q
  split at q
  · exact ⟨_, _, rfl, rfl, q⟩
  · exact q.elim
def mPow : R2 := fun x y H Q => match x, y with
  | .int i, .int j => (0 ≤ j ∧ (Builtin.Int.intBits i : Int) * j ≤ 2 ^ 27) ∧ Q (.int (i ^ j.toNat)) H
  | _, _ => False
theorem op_powM : OpR X (binaryOp .Pow) mPow := by
  intro pins s σ H x y v u Q I rx ry q
  unfold mPow at q
  split at q
  · obtain ⟨t, rfl⟩ := rx
    obtain ⟨t', rfl⟩ := ry
    exact pow_int q.1.1 q.1.2 ⟨.int _, H, I.tok _, ⟨_, rfl⟩, q.2⟩
  · exact q.elim

/-! ### comparisons -/
def mEqB (x y : V) : Option Bool := match x, y with
  | .int i, .int j => some (decide (i = j))
  | .str a, .str b => some (decide (a = b))
  | .bl a, .bl b => some (decide (a = b))
  | .non, .non => some true
  | .non, .int _ => some false
  | .non, .str _ => some false
  | .non, .bl _ => some false
  | .int _, .non => some false
  | .str _, .non => some false
  | .bl _, .non => some false
  | .int _, .str _ => some false
  | .str _, .int _ => some false
  | .bl _, .str _ => some false
  | .str _, .bl _ => some false
  | _, _ => none
theorem mEqB_ok {x y : V} {b : Bool} (h : mEqB x y = some b) : scal x y = true ∧ decide (x = y) = b := by
  unfold mEqB at h
  split at h <;> (try cases h) <;> refine ⟨rfl, ?_⟩ <;> simp
/-- == of data, one of both not deep -/
def rEqW (K : PySem.W.Frag) (neg : Bool) : R2 := fun x y H Q => ∃ d e, Dp K H x d ∧ Dp K H y e ∧ d.canLay0 = true ∧ e.canLay0 = true ∧ min d.depth e.depth ≤ 64 ∧ Q (.bl (if neg then !PyData.eqv d e else PyData.eqv d e)) H
theorem op_eqW (hu : X.A.units + 64 < cLine) : OpR X (compareOp .Eq) (rEqW X.K false) := by
  intro pins s σ H x y v u Q I rx ry h
  obtain ⟨d, e, hd, he, sd, se, hm, q⟩ := h
  obtain ⟨as, r1⟩ := Dp.reads I d x v hd rx
  obtain ⟨bs, r2⟩ := Dp.reads I e y u he ry
  exact SeqAt.compareEq_reads r1 r2 sd se (by omega) ⟨.bl _, H, I, rfl, q⟩
theorem op_neW (hu : X.A.units + 64 < cLine) : OpR X (compareOp .NotEq) (rEqW X.K true) := by
  intro pins s σ H x y v u Q I rx ry h
  obtain ⟨d, e, hd, he, sd, se, hm, q⟩ := h
  obtain ⟨as, r1⟩ := Dp.reads I d x v hd rx
  obtain ⟨bs, r2⟩ := Dp.reads I e y u he ry
  exact SeqAt.compareNe_reads r1 r2 sd se (by omega) ⟨.bl _, H, I, rfl, q⟩
def mEq (K : PySem.W.Frag) : R2 := fun x y H Q => match mEqB x y with
  | some b => Q (.bl b) H
  | none => rEqW K false x y H Q
def mNe (K : PySem.W.Frag) : R2 := fun x y H Q => match mEqB x y with
  | some b => Q (.bl (!b)) H
  | none => rEqW K true x y H Q
theorem op_eqM (hu : X.A.units + 64 < cLine) : OpR X (compareOp .Eq) (mEq X.K) := by
  intro pins s σ H x y v u Q I rx ry q
  unfold mEq at q
  split at q
  · rename_i b e
    obtain ⟨h1, h2⟩ := mEqB_ok e
    refine op_eq pins s σ H _ _ v u Q I rx ry ⟨h1, ?_⟩
    rw [h2]; exact q
  · exact op_eqW hu pins s σ H _ _ v u Q I rx ry q
theorem op_neM (hu : X.A.units + 64 < cLine) : OpR X (compareOp .NotEq) (mNe X.K) := by
  intro pins s σ H x y v u Q I rx ry q
  unfold mNe at q
  split at q
  · rename_i b e
    obtain ⟨h1, h2⟩ := mEqB_ok e
    refine op_ne pins s σ H _ _ v u Q I rx ry ⟨h1, ?_⟩
    rw [h2]; exact q
  · exact op_neW hu pins s σ H _ _ v u Q I rx ry q
def mCmp (p : Int → Int → Bool) : R2 := fun x y H Q => match x, y with
  | .int i, .int j => Q (.bl (p i j)) H
  | _, _ => False
theorem cmp_imp {p : Int → Int → Bool} {f : Value → Value → Sem Value} (h : OpR X f (rI0 fun i j => .bl (p i j))) : OpR X f (mCmp p) := opR_imp h fun x y H Q q => by
  unfold mCmp at q
  split at q
  · exact ⟨_, _, rfl, rfl, q⟩
  · exact q.elim
def mLt : R2 := mCmp fun i j => decide (i < j)
def mLe : R2 := mCmp fun i j => decide (i ≤ j)
def mGt : R2 := mCmp fun i j => decide (j < i)
def mGe : R2 := mCmp fun i j => decide (j ≤ i)
theorem op_ltM : OpR X (compareOp .Lt) mLt := cmp_imp op_lt
theorem op_leM : OpR X (compareOp .LtE) mLe := cmp_imp op_le
theorem op_gtM : OpR X (compareOp .Gt) mGt := cmp_imp op_gt
theorem op_geM : OpR X (compareOp .GtE) mGe := cmp_imp op_ge
/-- is None, is not None -/
def isN : V → Bool
  | .non => true
  | _ => false
theorem isN_eq (x : V) : decide (x = .non) = isN x := by cases x <;> simp [isN]
def mIsN : R2 := fun x y H Q => match y with
  | .non => Q (.bl (isN x)) H
  | _ => False
def mNotN : R2 := fun x y H Q => match y with
  | .non => Q (.bl (!isN x)) H
  | _ => False
theorem op_isNM : OpR X (compareOp .Is) mIsN := opR_imp op_isN fun x y H Q q => by
  unfold mIsN at q
  split at q
  · exact ⟨rfl, by rw [isN_eq]; exact q⟩
  · exact q.elim
theorem op_notNM : OpR X (compareOp .IsNot) mNotN := opR_imp op_notN fun x y H Q q => by
  unfold mNotN at q
  split at q
  · exact ⟨rfl, by rw [isN_eq]; exact q⟩
  · exact q.elim
/-- x in a list or tuple of flat things -/
def mInS (K : PySem.W.Frag) : R2 := fun x y H Q => rIn K false x y H Q
def mNinS (K : PySem.W.Frag) : R2 := fun x y H Q => rIn K true x y H Q
theorem op_inSM : OpR X (compareOp .In) (mInS X.K) := op_in_seq
theorem op_ninSM : OpR X (compareOp .NotIn) (mNinS X.K) := op_notIn_seq
/-- one sign in a text -/
def mInC : R2 := fun x y H Q => match x, y with
  | .str c, .str z => ∃ k, c = S [k] ∧ Q (.bl (decide (k ∈ z.cps.toList))) H
  | _, _ => False
theorem op_inCM : OpR X (compareOp .In) mInC := opR_imp op_in_sign fun x y H Q q => by
  unfold mInC at q
  split at q
  · obtain ⟨k, rfl, q⟩ := q
    exact ⟨k, _, rfl, rfl, q⟩
  · exact q.elim
def mNinC : R2 := fun x y H Q => match x, y with
  | .str c, .str z => ∃ k, c = S [k] ∧ Q (.bl (!decide (k ∈ z.cps.toList))) H
  | _, _ => False
theorem op_ninCM : OpR X (compareOp .NotIn) mNinC := opR_imp op_notIn_sign fun x y H Q q => by
  unfold mNinC at q
  split at q
  · obtain ⟨k, rfl, q⟩ := q
    exact ⟨k, _, rfl, rfl, q⟩
  · exact q.elim

/-! ### tests -/
def mTest (t : TE) : TT := fun σ H Q => t σ H fun x H' => match x with
  | .bl k => Q k H'
  | _ => False
def bX (Q : Bool → Hp → Prop) : VK := fun x H' => ∃ k, x = .bl k ∧ Q k H'
theorem bX_of {Q : Bool → Hp → Prop} {x : V} {H : Hp} (q : match x with | .bl k => Q k H | _ => False) : ∃ k, x = .bl k ∧ Q k H := by
  cases x with
  | bl k => exact ⟨k, rfl, q⟩
  | _ => exact q.elim
end
end M

namespace M
open PySem PySem.Spec PyProof.Rows L2

/-! ### a reading's closure: what it wants may be weaker than what is given -/
def cl (t : TE) : TE := fun σ H Q => ∃ Q' : VK, t σ H Q' ∧ ∀ v H', Q' v H' → Q v H'
def clT (t : TT) : TT := fun σ H Q => ∃ Q' : Bool → Hp → Prop, t σ H Q' ∧ ∀ v H', Q' v H' → Q v H'
def clA (t : TA) : TA := fun σ H Q => ∃ Q' : List V → Hp → Prop, t σ H Q' ∧ ∀ v H', Q' v H' → Q v H'
section
variable {X : Cx} {a b c : Expr} {ta tb tc : TE} {pos : Pos} {t u : TT}
theorem pe_cl (h : PE X a ta) : PE X a (cl ta) := ⟨fun pins s σ H Q I ⟨Q', q, w⟩ => thn (h.run pins s σ H Q' I q) fun _ _ ⟨v, H', I', r, z⟩ => ⟨v, H', I', r, w v H' z⟩⟩
theorem pt_cl (h : PT X a t) : PT X a (clT t) := ⟨fun pins s σ H Q I ⟨Q', q, w⟩ => thn (h.run pins s σ H Q' I q) fun _ _ ⟨H', I', z⟩ => ⟨H', I', w _ H' z⟩⟩
theorem pa_cl {es : List Expr} {t : TA} (h : PA X es t) : PA X es (clA t) := ⟨fun pos pins s σ H Q I ⟨Q', q, w⟩ => thn (h.run pos pins s σ H Q' I q) fun _ _ ⟨v, H', I', r, z⟩ => ⟨v, H', I', r, w v H' z⟩⟩
def clR (r : R2) : R2 := fun x y H Q => ∃ Q' : VK, r x y H Q' ∧ ∀ v H', Q' v H' → Q v H'
theorem opR_cl {f : Value → Value → Sem Value} {r : R2} (h : OpR X f r) : OpR X f (clR r) := fun pins s σ H x y v u Q I rx ry ⟨Q', q, w⟩ => thn (h pins s σ H x y v u Q' I rx ry q) fun _ _ ⟨v, H', I', r, z⟩ => ⟨v, H', I', r, w v H' z⟩

/-! ### tests -/
theorem mt_val (h : PE X a ta) (he : ∀ whole, isTrue a X.env whole = (do let v ← whole; standAt a.pos; holding [v] (truthy v)) := by intro _; rfl) : PT X a (mTest ta) :=
  pt_imp (pt_val (pe_cl h) he) fun σ H Q q => ⟨_, q, fun v H' z => bX_of z⟩
theorem mt_cmp {op : CmpOp} {r : R2} (ho : OpR X (compareOp op) r) (ha : PE X a ta) (hb : PE X b tb) (hm : behindInMarks op b = false) : PT X (.Compare a [op] [b] pos) (mTest (tOp r ta tb)) :=
  pt_imp (pt_cmpR (opR_cl ho) (pe_cl ha) (pe_cl hb) hm) fun σ H Q q => ⟨_, q, fun x H1 q1 => ⟨_, q1, fun y H2 q2 => ⟨_, q2, fun z H3 q3 => bX_of q3⟩⟩⟩
def mChain (r r' : R2) (ta tb tc : TE) : TE := fun σ H Q => ta σ H fun x H1 => tb σ H1 fun y H2 => r x y H2 fun z H3 => match z with
  | .bl true => tc σ H3 fun w H4 => r' y w H4 Q
  | .bl false => Q (.bl false) H3
  | _ => False
/-! and, or, not as values -/
def mAndV (ta tb : TE) : TE := fun σ H Q => ta σ H fun x H1 => match x with
  | .bl c => if c = true then tb σ H1 Q else Q (.bl false) H1
  | _ => False
def mOrV (ta tb : TE) : TE := fun σ H Q => ta σ H fun x H1 => match x with
  | .bl c => if c = true then Q (.bl true) H1 else tb σ H1 Q
  | _ => False
def mNotV (ta : TE) : TE := fun σ H Q => ta σ H fun x H1 => match x with
  | .bl c => Q (.bl (!c)) H1
  | _ => False
variable {rest : List Expr}
theorem me_and (ha : PE X a ta) (hb : PE X (.BoolOp .And (b :: rest) pos) tb) : PE X (.BoolOp .And (a :: b :: rest) pos) (mAndV ta tb) :=
  pe_imp (pe_and (pe_cl ha) hb) fun σ H Q q => ⟨_, q, fun x H1 z => by
    cases x with
    | bl c => exact ⟨c, rfl, z⟩
    | _ => exact z.elim⟩
theorem me_or (ha : PE X a ta) (hb : PE X (.BoolOp .Or (b :: rest) pos) tb) : PE X (.BoolOp .Or (a :: b :: rest) pos) (mOrV ta tb) :=
  pe_imp (pe_or (pe_cl ha) hb) fun σ H Q q => ⟨_, q, fun x H1 z => by
    cases x with
    | bl c => exact ⟨c, rfl, z⟩
    | _ => exact z.elim⟩
theorem me_not (ha : PE X a ta) : PE X (.UnaryOp .Not a pos) (mNotV ta) :=
  pe_imp (pe_not (pe_cl ha)) fun σ H Q q => ⟨_, q, fun x H1 z => by
    cases x with
    | bl c => exact ⟨c, rfl, z⟩
    | _ => exact z.elim⟩
def mUn (f : Int → Int) (ta : TE) : TE := fun σ H Q => ta σ H fun x H1 => match x with
  | .int i => Q (.int (f i)) H1
  | _ => False
theorem me_neg (ha : PE X a ta) : PE X (.UnaryOp .USub a pos) (mUn (fun i => -i) ta) :=
  pe_imp (pe_un un_neg (pe_cl ha)) fun σ H Q q => ⟨_, q, fun x H1 z => by
    cases x with
    | int i => exact ⟨i, rfl, z⟩
    | _ => exact z.elim⟩

/-! ### subscripts -/
def mIx (K : PySem.W.Frag) : R2 := fun x y H Q => match x, y with
  | .str z, .int i => z.length ≤ sizeLine ∧ ∃ c, atI z.cps.toList i = some c ∧ Q (.str (S [c])) H
  | .ref p, .int i => ∃ xs v, (SqL K H p xs ∨ SqT K H p xs) ∧ atI xs i = some v ∧ Q v H
  | _, _ => False
theorem ix_M : IxR X (mIx X.K) := ixR_imp ix_seq fun x y H Q q => by
  unfold mIx at q
  split at q
  · obtain ⟨h, c, e, q⟩ := q
    exact .inr (.inr ⟨_, _, c, rfl, rfl, h, e, q⟩)
  · obtain ⟨xs, v, h | h, e, q⟩ := q
    · exact .inl ⟨_, xs, _, v, rfl, rfl, h, e, q⟩
    · exact .inr (.inl ⟨_, xs, _, v, rfl, rfl, h, e, q⟩)
  · exact q.elim
theorem me_ix (ha : PE X a ta) (hb : PE X b tb) (hs : PlainIx b) : PE X (.Subscript a b pos) (tOp (mIx X.K) ta tb) := pe_ix ix_M ha hb hs
def mPart (t : TE) : TO := fun σ H Q => t σ H fun x H1 => match x with
  | .int i => Q (some i) H1
  | _ => False
theorem mo_some (h : PE X a ta) : PO X (some a) (mPart ta) := by
  have z := po_some (pe_cl h)
  exact ⟨fun pins s σ H Q I q => z.run pins s σ H Q I ⟨_, q, fun x H1 y => by
    cases x with
    | int i => exact ⟨i, rfl, y⟩
    | _ => exact y.elim⟩⟩
/-- l[lo:hi] -/
def cutL {α : Type} (l : List α) (lo hi : Option Int) : List α := (l.drop (HT.sIx l.length 0 lo)).take (HT.sIx l.length l.length hi - HT.sIx l.length 0 lo)
def mSl (K : PySem.W.Frag) : V → Option Int → Option Int → Hp → VK → Prop := fun x lo hi H Q => match x with
  | .str z => z.length ≤ sizeLine ∧ Q (.str (S (cutL z.cps.toList lo hi))) H
  | .ref a => (∃ xs, SqL K H a xs ∧ ∀ p, H p = none → Q (.ref p) (upd H p (.lst (cutL xs lo hi))))
  | _ => False
theorem sl_M : SlR X (mSl X.K) := slR_imp (sl_str.or sl_list) fun x lo hi H Q q => by
  unfold mSl at q
  split at q
  · exact .inl ⟨_, rfl, q.1, q.2⟩
  · obtain ⟨xs, h, q⟩ := q
    exact .inr ⟨_, xs, rfl, h, q⟩
  · exact q.elim
theorem me_slice {lo hi : Option Expr} {tl th : TO} {p2 : Pos} (ha : PE X a ta) (hl : PO X lo tl) (hh : PO X hi th) : PE X (.Subscript a (.Slice lo hi none p2) pos) (tSl (mSl X.K) ta tl th) := pe_slice sl_M ha hl hh
end

/-! ### statements -/
section
variable {X : Cx} {pos : Pos}
/-- (a, b, ..) = a tuple -/
def mgTup (K : PySem.W.Frag) (n : Nat) (t : TGs) : TG := fun v σ H Q => match v with
  | .ref a => ∃ xs, SqT K H a xs ∧ xs.length = n ∧ t xs σ H Q
  | _ => False
theorem mg_tup {es : List Expr} {k : Nat} {t : TGs} {n : Nat} (hc : X.calm = true) (h : PGs X es t)
    (hn : (assignEach es X.env).length = n := by rfl) (hst : (assignEach es X.env).findIdx? (·.1) = none := by rfl) : PG X (.Tuple es k pos) (mgTup X.K n t) :=
  pg_imp (pg_tup hc h hn hst) fun v σ H Q q => by
    unfold mgTup at q
    split at q
    · obtain ⟨xs, h, q⟩ := q
      exact ⟨_, xs, rfl, h, q⟩
    · exact q.elim
def mgNil : TGs := fun vs σ H Q => match vs with
  | [] => Q σ H
  | _ => False
def mgCons (t : TG) (u : TGs) : TGs := fun vs σ H Q => match vs with
  | v :: r => t v σ H fun σ' H' => u r σ' H' Q
  | [] => False
theorem mgs_nil : PGs X [] mgNil := pgs_imp pgs_nil fun vs σ H Q q => by
  cases vs with
  | nil => exact ⟨rfl, q⟩
  | cons _ _ => exact q.elim
theorem mgs_cons {e : Expr} {es : List Expr} {t : TG} {u : TGs} (h1 : PG X e t) (h2 : PGs X es u)
    (hs : (assignEach (e :: es) X.env).map (·.2) = assign e X.env :: (assignEach es X.env).map (·.2) := by rfl) : PGs X (e :: es) (mgCons t u) := pgs_imp (pgs_cons h1 h2 hs) fun vs σ H Q q => by
  cases vs with
  | nil => exact q.elim
  | cons v r => exact ⟨v, r, rfl, q⟩
/-- o[i] = v, a list -/
def mSetL : V → V → V → Hp → (Hp → Prop) → Prop := fun o i v H Q => match o, i with
  | .ref p, .int k => ∃ xs j, H p = some (.lst xs) ∧ ixN xs.length k = some j ∧ Q (upd H p (.lst (xs.set j v)))
  | _, _ => False
theorem set_listM : PSet X mSetL := fun pins s σ H o i v ov iv u Q I ro ri rv q => by
  unfold mSetL at q
  split at q
  · obtain ⟨xs, j, h1, h2, q⟩ := q
    exact set_list pins s σ H _ _ v ov iv u Q I ro ri rv ⟨_, xs, _, j, rfl, rfl, h1, h2, q⟩
  · exact q.elim
/-- a, b = x, y -/
def mPar (i j : Nat) (ta : TA) : TS := fun D σ H => ta σ H fun vs H1 => match vs with
  | [v, w] => D.nx ((σ.set i (some v)).set j (some w)) H1
  | _ => False
theorem ms_par {i j : Nat} {x y : Str} {a b : Expr} {ta : TA} {px py pt : Pos} {kt k2 pt2} (hc : X.calm = true) (hN : X.N.Nodup) (hi : X.N[i]? = some x) (hj : X.N[j]? = some y) (hij : i ≠ j)
    (hx : X.env.scope.names.lookup x = some .local) (hy : X.env.scope.names.lookup y = some .local) (ha : PA X [a, b] ta)
    (hw : swappedStores [.Tuple [.Name x px, .Name y py] kt pt] (.Tuple [a, b] k2 pt2) X.env = pure (some [x, y]))
    (hs : swapsWithSole [.Tuple [.Name x px, .Name y py] kt pt] (.Tuple [a, b] k2 pt2) pos.line X.env = pure false := by rfl) :
    PS X (.Assign [.Tuple [.Name x px, .Name y py] kt pt] (.Tuple [a, b] k2 pt2) pos) (mPar i j ta) :=
  ps_imp (ps_par hc hN hi hj hij hx hy (pa_cl ha) hw hs) fun D σ H q => ⟨_, q, fun vs H1 z => by
    split at z
    · exact ⟨_, _, rfl, z⟩
    · exact z.elim⟩
/-- name op= e -/
def mAug (i : Nat) (te : TE) (r : R2) : TS := fun D σ H => match gt σ i with
  | some x => te σ H fun y H1 => r x y H1 fun z H2 => D.nx (σ.set i (some z)) H2
  | none => False
theorem ms_aug {i : Nat} {x : Str} {e : Expr} {te : TE} {op : Operator} {r : R2} {pos' : Pos} (hN : X.N.Nodup) (hi : X.N[i]? = some x) (hx : Loc X.env.scope x) (he : PE X e te) (ho : OpR X (inplaceOp op) r) (hf : X.fn x = true ∨ X.env.scope.names.lookup x = some .local := by first | exact .inl rfl | exact .inr rfl | assumption) :
    PS X (.AugAssign (.Name x pos') op e pos) (mAug i te r) :=
  ps_imp (ps_aug hN hi hx he (ti := r) (fun pins s σ H x y v u Q I r1 r2 h => ho pins s σ H x y v u Q I r1 r2 h) hf) fun D σ H q => by
    unfold mAug at q
    split at q
    · rename_i x e
      exact ⟨x, gt_some e, q⟩
    · exact q.elim
def iAdd : R2 := fun x y H Q => match x, y with
  | .int i, .int j => Q (.int (i + j)) H
  | .str a, .str b => a.length + b.length ≤ sizeLine ∧ Q (.str (a ++ b)) H
  | .ref l, .ref b => ∃ xs zs, H l = some (.lst xs) ∧ H b = some (.lst zs) ∧ xs.length + zs.length ≤ sizeLine ∧ Q (.ref l) (upd H l (.lst (xs ++ zs)))
  | _, _ => False
theorem iop_addM : OpR X (inplaceOp .Add) iAdd := by
  intro pins s σ H x y v u Q I rx ry q
  unfold iAdd at q
  split at q
  · exact iop_add pins s σ H _ _ v u Q I rx ry ⟨_, _, rfl, rfl, q⟩
  · exact iop_add_str pins s σ H _ _ v u Q I rx ry ⟨_, _, rfl, rfl, q⟩
  · obtain ⟨xs, zs, h1, h2, h3, q⟩ := q
    exact iop_ext pins s σ H _ _ v u Q I rx ry ⟨_, _, xs, zs, rfl, rfl, h1, h2, h3, q⟩
  · exact q.elim
theorem iop_subM : OpR X (inplaceOp .Sub) mSub := opR_imp iop_sub fun x y H Q q => by
  unfold mSub at q
  split at q
  · exact ⟨_, _, rfl, rfl, q⟩
  · exact q.elim
end

/-! ### what is walked -/
inductive Src where
  | v (G : Hp → Prop) (L : List V)
  | p (G : Hp → Prop) (L : List (V × V))
def Feeds (J : It) : Src → Prop
  | .v G L => Walk J L.length G (YAt L)
  | .p G L => Walk J L.length G (YPair (fun i => L[i]?.map (·.1)) (fun i => L[i]?.map (·.2)))
abbrev MI := Sl → Hp → (Src → Hp → Prop) → Prop
def toTI (wi : MI) : TI := fun σ H R => ∃ P : Src → Hp → Prop, wi σ H P ∧ ∀ s H1 J, P s H1 → Feeds J s → R J H1
section
variable {X : Cx} {tg : Expr} {l e2 : Expr} {tl t2 : TE}
def mIter (K : PySem.W.Frag) (tl : TE) : MI := fun σ H P => tl σ H fun x H1 => match x with
  | .ref a => ∃ xs, (SqL K H1 a xs ∧ P (.v (fun H => SqL K H a xs) xs) H1) ∨ (SqT K H1 a xs ∧ P (.v (fun H => SqT K H a xs) xs) H1)
  | .str z => P (.v (fun _ => True) (z.cps.toList.map fun c => .str (S [c]))) H1
  | _ => False
/-- the walk of a value, by its rule -/
def ItR (X : Cx) (tg : Expr) (r : V → Hp → (It → Hp → Prop) → Prop) : Prop :=
  ∀ (pins : List (Addr × Obj)) (s : Shared) (σ : L2.St) (H : Hp) (x : V) (v : Value) (R : It → Hp → Prop), Inv X pins σ H s → RelV x v → r x H R → wpAny (model X.prog X.w) X.A (pyIter v) (PIE X pins σ tg R) X.xe s
theorem pi_of {r : V → Hp → (It → Hp → Prop) → Prop} (he : PE X l tl) (hr : ItR X tg r) : PI X tg l (fun σ H R => tl σ H fun x H1 => r x H1 R) :=
  ⟨fun pins s σ H R I h => thn (he.run pins s σ H _ I h) fun v s1 ⟨x, H1, I1, r1, q1⟩ => hr pins s1 σ H1 x v R I1 r1 q1⟩
theorem itr_list : ItR X tg (fun x H R => ∃ a, x = .ref a ∧ (∃ xs, SqL X.K H a xs) ∧ R (Itl X.K a) H) := by
  intro pins s1 σ H1 x v R I1 r1 q1
  obtain ⟨a, e, ⟨xs, hq⟩, q⟩ := q1
  subst e
  cases r1
  obtain ⟨its, rv, p, hz⟩ := I1.list hq
  refine wpAny_pyIter_list p.isList ?_
  refine ⟨s1.heap.objs.size, [s1.heap.objs.size], _, _, H1, rfl, I1.kept (t' := s1.toks) fun b o e => Heap.get?_push_of_some _ e, turn_list a _, ⟨_, Heap.get?_push_size _ rfl, rfl, rfl⟩, fun b hb => ?_, q⟩
  have e : b = s1.heap.objs.size := by simpa using hb
  subst e
  exact I1.fpOk (Nat.le_refl _) (I1.hok.fresh (Nat.le_refl _))
theorem itr_tup : ItR X tg (fun x H R => ∃ a, x = .ref a ∧ (∃ xs, SqT X.K H a xs) ∧ R (Itt X.K a) H) := by
  intro pins s1 σ H1 x v R I1 r1 q1
  obtain ⟨a, e, ⟨xs, hq⟩, q⟩ := q1
  subst e
  cases r1
  obtain ⟨its, rv, p, hz⟩ := I1.tuple hq
  refine wpAny_pyIter_tuple (show s1.heap.IsTuple a its.toArray from p) ?_
  refine ⟨s1.heap.objs.size, [s1.heap.objs.size], _, _, H1, rfl, I1.kept (t' := s1.toks) fun b o e => Heap.get?_push_of_some _ e, turn_tuple a _, ⟨_, Heap.get?_push_size _ rfl, rfl, rfl⟩, fun b hb => ?_, q⟩
  have e : b = s1.heap.objs.size := by simpa using hb
  subst e
  exact I1.fpOk (Nat.le_refl _) (I1.hok.fresh (Nat.le_refl _))
theorem itr_str : ItR X tg (fun x H R => ∃ z, x = .str z ∧ R (Its z) H) := by
  intro pins s1 σ H1 y v R I1 r1 q1
  obtain ⟨x, ex, q⟩ := q1
  subst ex
  obtain ⟨t, rfl⟩ := r1
  cases ha : x.cps.all (· < 128)
  · exact wpAny_pyIter_wide ha (pi_one (tk := s1.toks) I1 _ (turn_str _ x t "str_iterator" (.inr rfl)) ⟨_, Heap.get?_push_size _ rfl, rfl, rfl⟩ q)
  · exact wpAny_pyIter_ascii ha (pi_one (tk := s1.toks) I1 _ (turn_str _ x t "str_ascii_iterator" (.inl rfl)) ⟨_, Heap.get?_push_size _ rfl, rfl, rfl⟩ q)
theorem feeds_list {K : PySem.W.Frag} {a : Addr} {xs : List V} : Feeds (Itl K a) (.v (fun H => SqL K H a xs) xs) := walk_list
theorem feeds_tup {K : PySem.W.Frag} {a : Addr} {xs : List V} : Feeds (Itt K a) (.v (fun H => SqT K H a xs) xs) := walk_tup
theorem feeds_str {z : Str} : Feeds (Its z) (.v (fun _ => True) (z.cps.toList.map fun c => .str (S [c]))) := by
  have e : z.cps.size = (z.cps.toList.map fun c => V.str (S [c])).length := by simp
  have w := walk_str (z := z)
  rw [e] at w
  refine Walk.mono w (fun _ h => h) fun i H x H' _ _ ⟨h1, c, h2, h3⟩ => ⟨h1, ?_⟩
  rw [List.getElem?_map, Array.getElem?_toList, h2, h3]; rfl
theorem pi_iterM (he : PE X l tl) : PI X tg l (toTI (mIter X.K tl)) := by
  refine ⟨fun pins s σ H R I ⟨P, q, w⟩ => thn (he.run pins s σ H _ I q) fun v s1 ⟨x, H1, I1, r1, q1⟩ => ?_⟩
  cases x with
  | ref a =>
    obtain ⟨xs, h | h⟩ := q1
    · exact itr_list pins s1 σ H1 _ v R I1 r1 ⟨a, rfl, ⟨xs, h.1⟩, w _ _ _ h.2 feeds_list⟩
    · exact itr_tup pins s1 σ H1 _ v R I1 r1 ⟨a, rfl, ⟨xs, h.1⟩, w _ _ _ h.2 feeds_tup⟩
  | str z => exact itr_str pins s1 σ H1 _ v R I1 r1 ⟨z, rfl, w _ _ _ q1 feeds_str⟩
  | _ => exact q1.elim
theorem pi_imp {t t' : TI} (h : PI X tg l t) (w : ∀ σ H R, t' σ H R → t σ H R) : PI X tg l t' := ⟨fun pins s σ H R I q => h.run pins s σ H R I (w σ H R q)⟩
/-- range(n), range(a, b) -/
def upto (lo : Int) (n : Nat) : List V := (List.range n).map fun (i : Nat) => V.int (lo + (i : Int))
theorem upto_zero (lo : Int) : upto lo 0 = [] := rfl
theorem upto_succ (lo : Int) (n : Nat) : upto lo (n + 1) = .int lo :: upto (lo + 1) n := by
  unfold upto
  rw [List.range_succ_eq_map]
  simp only [List.map_cons, List.map_map]
  congr 1
  · simp
  · apply List.map_congr_left
    intro i _
    show V.int _ = V.int _
    congr 1
    simp
    omega
theorem feeds_range {lo : Int} {n : Nat} : Feeds (Itr lo n) (.v (fun _ => True) (upto lo n)) := by
  have e : n = (upto lo n).length := by simp [upto]
  have w := walk_range (lo := lo) (n := n)
  show Walk _ (upto lo n).length _ _
  rw [← e]
  refine Walk.mono w (fun _ h => h) fun i H x H' hi _ ⟨h1, h2⟩ => ⟨h1, ?_⟩
  unfold upto
  rw [List.getElem?_map, List.getElem?_range hi, h2]; rfl
def mRng1 (ta : TE) : MI := fun σ H P => ta σ H fun x H1 => match x with
  | .int j => (-(2 ^ 62) ≤ j ∧ j < 2 ^ 62) ∧ P (.v (fun _ => True) (upto 0 j.toNat)) H1
  | _ => False
def mRng2 (ta tb : TE) : MI := fun σ H P => ta σ H fun x H1 => tb σ H1 fun y H2 => match x, y with
  | .int i, .int j => (-(2 ^ 62) ≤ i ∧ i < 2 ^ 62 ∧ -(2 ^ 62) ≤ j ∧ j < 2 ^ 62) ∧ P (.v (fun _ => True) (upto i (j - i).toNat)) H2
  | _, _ => False
theorem pi_rng1M {a : Expr} {ta : TE} {p pos : Pos} (hg : Gl X "range") (hm : X.mg "range" = none) (ha : PE X a ta) (hs : starEach [a] X.env = [(false, eval a X.env)] := by rfl) : PI X tg (.Call (.Name "range" p) [a] [] pos) (toTI (mRng1 ta)) :=
  pi_imp (pi_range1 hg hm (pa_cons (pe_cl ha) pa_nil hs) hs) fun σ H R ⟨P, q, w⟩ => ⟨_, q, fun x H1 z => by
    cases x with
    | int j => exact ⟨j, rfl, z.1.1, z.1.2, w _ _ _ z.2 feeds_range⟩
    | _ => exact z.elim⟩
theorem pi_rng2M {a b : Expr} {ta tb : TE} {p pos : Pos} (hg : Gl X "range") (hm : X.mg "range" = none) (ha : PE X a ta) (hb : PE X b tb) (hs : starEach [a, b] X.env = [(false, eval a X.env), (false, eval b X.env)] := by rfl) (hs2 : starEach [b] X.env = [(false, eval b X.env)] := by rfl) :
    PI X tg (.Call (.Name "range" p) [a, b] [] pos) (toTI (mRng2 ta tb)) :=
  pi_imp (pi_range2 hg hm (pa_cons (pe_cl ha) (pa_cons (pe_cl hb) pa_nil hs2) (by rw [hs, hs2])) hs hs2) fun σ H R ⟨P, q, w⟩ => ⟨_, q, fun x H1 z => ⟨_, z, fun y H2 z2 => by
    split at z2
    · exact ⟨_, _, rfl, z2.1, w _ _ _ z2.2 feeds_range⟩
    · exact z2.elim⟩⟩
/-- enumerate(list) -/
def numd : Nat → List V → List (V × V)
  | _, [] => []
  | i, x :: r => (.int (i : Int), x) :: numd (i + 1) r
theorem numd_get : ∀ {k : Nat} {xs : List V} {i : Nat}, (numd k xs)[i]? = xs[i]?.map fun x => (V.int ((k + i : Nat) : Int), x)
  | _, [], _ => by simp [numd]
  | k, x :: r, 0 => by simp [numd]
  | k, x :: r, i + 1 => by
    have := numd_get (k := k + 1) (xs := r) (i := i)
    simp only [numd, List.getElem?_cons_succ, this]
    congr 1
    funext z
    congr 3
    omega
theorem numd_len : ∀ {k : Nat} {xs : List V}, (numd k xs).length = xs.length
  | _, [] => rfl
  | k, x :: r => by simp [numd, numd_len]
theorem feeds_enum {K : PySem.W.Frag} {a : Addr} {xs : List V} : Feeds (Ite K a) (.p (fun H => SqL K H a xs) (numd 0 xs)) := by
  show Walk _ (numd 0 xs).length _ _
  rw [numd_len]
  refine Walk.mono walk_enum (fun _ h => h) fun i H x H' _ _ ⟨T, y, z, h1, h2, h3, h4, h5⟩ => ⟨T, y, z, h1, h2, h3, ?_, ?_⟩
  · show (numd 0 xs)[i]?.map (·.1) = _
    have h5' : xs[i]? = some z := h5
    rw [numd_get, h5', ← h4]; simp
  · show (numd 0 xs)[i]?.map (·.2) = _
    have h5' : xs[i]? = some z := h5
    rw [numd_get, h5']; simp
def mEnum (K : PySem.W.Frag) (ta : TE) : MI := fun σ H P => ta σ H fun x H1 => match x with
  | .ref a => ∃ xs, SqL K H1 a xs ∧ P (.p (fun H => SqL K H a xs) (numd 0 xs)) H1
  | _ => False
theorem pi_enumM {e : Expr} {ta : TE} {p pos tpos : Pos} {elts : List Expr} {kk : Nat} (hg : Gl X "enumerate") (hm : X.mg "enumerate" = none) (ha : PE X e ta) (hs : starEach [e] X.env = [(false, eval e X.env)] := by rfl) :
    PI X (.Tuple elts kk tpos) (.Call (.Name "enumerate" p) [e] [] pos) (toTI (mEnum X.K ta)) :=
  pi_imp (pi_enum hg hm (pa_cons (pe_cl ha) pa_nil hs) hs) fun σ H R ⟨P, q, w⟩ => ⟨_, q, fun x H1 z => by
    cases x with
    | ref a => obtain ⟨xs, h, z⟩ := z; exact ⟨a, xs, rfl, h, w _ _ _ z feeds_enum⟩
    | _ => exact z.elim⟩
/-- zip(list, list) -/
theorem feeds_zip {K : PySem.W.Frag} {a b : Addr} {xs ys : List V} : Feeds (Itz K a b) (.p (fun H => SqL K H a xs ∧ SqL K H b ys) (xs.zip ys)) := by
  show Walk _ (xs.zip ys).length _ _
  rw [List.length_zip]
  refine Walk.mono (walk_zip rfl) (fun _ h => h) fun i H x H' _ _ ⟨T, y, z, h1, h2, h3, h4, h5⟩ => ⟨T, y, z, h1, h2, h3, ?_, ?_⟩
  · show (xs.zip ys)[i]?.map (·.1) = _
    have h4' : xs[i]? = some y := h4
    have h5' : ys[i]? = some z := h5
    rw [show (xs.zip ys)[i]? = some (y, z) from List.getElem?_zip_eq_some.mpr ⟨h4', h5'⟩]; rfl
  · show (xs.zip ys)[i]?.map (·.2) = _
    have h4' : xs[i]? = some y := h4
    have h5' : ys[i]? = some z := h5
    rw [show (xs.zip ys)[i]? = some (y, z) from List.getElem?_zip_eq_some.mpr ⟨h4', h5'⟩]; rfl
def mZip (K : PySem.W.Frag) (ta tb : TE) : MI := fun σ H P => ta σ H fun x H1 => tb σ H1 fun y H2 => match x, y with
  | .ref a, .ref b => ∃ xs ys, SqL K H2 a xs ∧ SqL K H2 b ys ∧ P (.p (fun H => SqL K H a xs ∧ SqL K H b ys) (xs.zip ys)) H2
  | _, _ => False
theorem pi_zipM {e e2 : Expr} {ta tb : TE} {p pos tpos : Pos} {elts : List Expr} {kk : Nat} (hg : Gl X "zip") (hm : X.mg "zip" = none) (ha : PE X e ta) (hb : PE X e2 tb)
    (hs : starEach [e, e2] X.env = (false, eval e X.env) :: starEach [e2] X.env := by rfl) (hs2 : starEach [e2] X.env = [(false, eval e2 X.env)] := by rfl) (hpl : (backTo pos (starEach [e2] X.env)).any (·.1) = false := by rfl) :
    PI X (.Tuple elts kk tpos) (.Call (.Name "zip" p) [e, e2] [] pos) (toTI (mZip X.K ta tb)) :=
  pi_imp (pi_zip hg hm (pa_cons (pe_cl ha) (pa_cons (pe_cl hb) pa_nil hs2) hs) hs hpl) fun σ H R ⟨P, q, w⟩ => ⟨_, q, fun x H1 z => ⟨_, z, fun y H2 z2 => by
    split at z2
    · obtain ⟨xs, ys, h1, h2, z2⟩ := z2
      exact ⟨_, _, xs, ys, rfl, h1, h2, w _ _ _ z2 feeds_zip⟩
    · exact z2.elim⟩⟩
end

/-! ### for -/
def fV (G : Hp → Prop) (g : TG) (tb : TS) (D : Ends) : List V → Sl → Hp → Prop
  | [], σ, H => G H ∧ D.nx σ H
  | x :: r, σ, H => G H ∧ g x σ H fun σ2 H2 => tb { D with nx := fV G g tb D r, ct := fV G g tb D r, bk := D.nx } σ2 H2
def fP (G : Hp → Prop) (g : TG) (tb : TS) (D : Ends) : List (V × V) → Sl → Hp → Prop
  | [], σ, H => G H ∧ D.nx σ H
  | x :: r, σ, H => G H ∧ ∀ T, H T = none → g (.ref T) σ (upd H T (.tup [x.1, x.2])) fun σ2 H2 => tb { D with nx := fP G g tb D r, ct := fP G g tb D r, bk := D.nx } σ2 H2
def mFor (wi : MI) (g : TG) (tb : TS) : TS := fun D σ H => wi σ H fun s H1 => match s with
  | .v G L => fV G g tb D L σ H1
  | .p G L => fP G g tb D L σ H1
theorem fV_G {G : Hp → Prop} {g : TG} {tb : TS} {D : Ends} {L : List V} {σ : Sl} {H : Hp} (h : fV G g tb D L σ H) : G H := by
  cases L <;> exact h.1
theorem fP_G {G : Hp → Prop} {g : TG} {tb : TS} {D : Ends} {L : List (V × V)} {σ : Sl} {H : Hp} (h : fP G g tb D L σ H) : G H := by
  cases L <;> exact h.1
theorem drop_at {α : Type} {L : List α} {i : Nat} {x : α} (h : L[i]? = some x) : L.drop i = x :: L.drop (i + 1) := by
  obtain ⟨hi, e⟩ := List.getElem?_eq_some_iff.mp h
  rw [← e]; exact List.drop_eq_getElem_cons hi
theorem ms_for {X : Cx} {tg iter : Expr} {body : List Stmt} {wi : MI} {g : TG} {tb : TS} {pos : Pos} (hp : PassesOwn (model X.prog X.w) X.A X.env X.xe) (hc : X.calm = true) (hi : PI X tg iter (toTI wi)) (hg : PG X tg g) (hb : PSs X body tb)
    (hs : ∀ x, foldedSetIterable iter X.env x = pure x := by intro _; rfl) : PS X (.For tg iter body [] pos) (mFor wi g tb) :=
  ps_imp (ps_for hp hc hi hg hb hs) fun D σ H q => ⟨_, q, fun s H1 J z f => by
    cases s with
    | v G L =>
      refine for_it f (fun i σ H => fV G g tb D (L.drop i) σ H) z (fun i σ H _ p => fV_G p) (fun i x σ H H' hi p y => ?_) (fun σ H p => ?_)
      · obtain ⟨e, hx⟩ := y
        subst e
        rw [drop_at hx] at p
        exact p.2
      · rw [List.drop_length] at p
        exact p.2
    | p G L =>
      refine for_it f (fun i σ H => fP G g tb D (L.drop i) σ H) z (fun i σ H _ p => fP_G p) (fun i x σ H H' hi p y => ?_) (fun σ H p => ?_)
      · obtain ⟨T, a, b, e1, e2, e3, e4, e5⟩ := y
        subst e1 e3
        have hx : L[i]? = some L[i] := List.getElem?_eq_getElem hi
        rw [drop_at hx] at p
        have q := p.2 T e2
        have e4' : L[i]?.map (·.1) = some a := e4
        have e5' : L[i]?.map (·.2) = some b := e5
        rw [hx] at e4' e5'
        cases e4'
        cases e5'
        exact q
      · rw [List.drop_length] at p
        exact p.2⟩
/-! ### comprehensions -/
def cV (G : Hp → Prop) (g : TG) (tt : TT) (te : TE) (vs : List Nat) (τ : Sl) (D : Addr) (Q : Hp → Prop) : List V → Hp → Prop
  | [], H => G H ∧ Q H
  | x :: r, H => G H ∧ g x τ H fun σ2 H2 => wipe σ2 vs = τ ∧ tt σ2 H2 fun b H3 => if b = true then te σ2 H3 fun y H4 => ∃ acc, H4 D = some (.lst acc) ∧ acc.length < sizeLine ∧ cV G g tt te vs τ D Q r (upd H4 D (.lst (acc ++ [y]))) else cV G g tt te vs τ D Q r H3
def cP (G : Hp → Prop) (g : TG) (tt : TT) (te : TE) (vs : List Nat) (τ : Sl) (D : Addr) (Q : Hp → Prop) : List (V × V) → Hp → Prop
  | [], H => G H ∧ Q H
  | x :: r, H => G H ∧ ∀ T, H T = none → g (.ref T) τ (upd H T (.tup [x.1, x.2])) fun σ2 H2 => wipe σ2 vs = τ ∧ tt σ2 H2 fun b H3 => if b = true then te σ2 H3 fun y H4 => ∃ acc, H4 D = some (.lst acc) ∧ acc.length < sizeLine ∧ cP G g tt te vs τ D Q r (upd H4 D (.lst (acc ++ [y]))) else cP G g tt te vs τ D Q r H3
def mLc (wi : MI) (g : TG) (tt : TT) (te : TE) (vs : List Nat) : TE := fun σ H Q => wi σ H fun s H1 => ∀ D, H1 D = none → match s with
  | .v G L => cV G g tt te vs (wipe σ vs) D (Q (.ref D)) L (upd H1 D (.lst []))
  | .p G L => cP G g tt te vs (wipe σ vs) D (Q (.ref D)) L (upd H1 D (.lst []))
theorem cV_G {G : Hp → Prop} {g : TG} {tt : TT} {te : TE} {vs : List Nat} {τ : Sl} {D : Addr} {Q : Hp → Prop} {L : List V} {H : Hp} (h : cV G g tt te vs τ D Q L H) : G H := by
  cases L <;> exact h.1
theorem cP_G {G : Hp → Prop} {g : TG} {tt : TT} {te : TE} {vs : List Nat} {τ : Sl} {D : Addr} {Q : Hp → Prop} {L : List (V × V)} {H : Hp} (h : cP G g tt te vs τ D Q L H) : G H := by
  cases L <;> exact h.1
theorem lc_toM {wi : MI} {g : TG} {tt : TT} {te : TE} {vs : List Nat} {σ : Sl} {H : Hp} {Q : VK} (q : mLc wi g tt te vs σ H Q) : tLc (toTI wi) g tt te vs σ H Q :=
  ⟨_, q, fun s H1 J z f D hD => by
    have z := z D hD
    cases s with
    | v G L =>
      refine lc_it f (fun i H => cV G g tt te vs (wipe σ vs) D (Q (.ref D)) (L.drop i) H) z (fun i H _ p => cV_G p) (fun i x H H' hi p y => ?_) (fun H p => ?_)
      · obtain ⟨e, hx⟩ := y
        subst e
        rw [drop_at hx] at p
        exact p.2
      · rw [List.drop_length] at p
        exact p.2
    | p G L =>
      refine lc_it f (fun i H => cP G g tt te vs (wipe σ vs) D (Q (.ref D)) (L.drop i) H) z (fun i H _ p => cP_G p) (fun i x H H' hi p y => ?_) (fun H p => ?_)
      · obtain ⟨T, a, b, e1, e2, e3, e4, e5⟩ := y
        subst e1 e3
        have hx : L[i]? = some L[i] := List.getElem?_eq_getElem hi
        rw [drop_at hx] at p
        have q := p.2 T e2
        have e4' : L[i]?.map (·.1) = some a := e4
        have e5' : L[i]?.map (·.2) = some b := e5
        rw [hx] at e4' e5'
        cases e4'
        cases e5'
        exact q
      · rw [List.drop_length] at p
        exact p.2⟩
section
variable {X : Cx}
theorem me_lc {elt tg iter : Expr} {ifs : List Expr} {scope : Scope} {own : List (Str × Nat)} {pos : Pos} {wi : MI} {g : TG} {tt : TT} {te : TE} (hc : X.calm = true) (hN : X.N.Nodup) (hi : PI X tg iter (toTI wi)) (ok : BlkOk X.N X.env.scope scope own)
    (hg : ∀ (s : Shared) (H : Hp) (C : Addr) (cl : List (Str × Addr)) (fp : List Addr), PG (X.blk s H scope (compEnvC scope cl C X.env) fp) tg g) (ht : ∀ (s : Shared) (H : Hp) (C : Addr) (cl : List (Str × Addr)) (fp : List Addr), PTs (X.blk s H scope (compEnvC scope cl C X.env) fp) ifs tt)
    (he : ∀ (s : Shared) (H : Hp) (C : Addr) (cl : List (Str × Addr)) (fp : List Addr), PE (X.blk s H scope (compEnvC scope cl C X.env) fp) elt te) (hs : ∀ x, foldedSetIterable iter X.env x = pure x := by intro _; rfl) :
    PE X (.ListComp elt [⟨tg, iter, ifs, 0⟩] scope pos) (mLc wi g tt te (own.map (·.2))) := pe_imp (pe_lc hc hN hi ok hg ht he hs) fun σ H Q q => lc_toM q
theorem ms_setLc {i : Nat} {y : Str} {py : Pos} {elt tg iter : Expr} {ifs : List Expr} {scope : Scope} {own : List (Str × Nat)} {pos spos : Pos} {wi : MI} {g : TG} {tt : TT} {te : TE} (hc : X.calm = true) (hN : X.N.Nodup) (hy : X.N[i]? = some y) (hyl : X.env.scope.names.lookup y = some .local)
    (hsw : swapsWith (.ListComp elt [⟨tg, iter, ifs, 0⟩] scope pos) (some (.Name y py)) spos.line X.env = pure true) (hi : PI X tg iter (toTI wi)) (ok : BlkOk X.N X.env.scope scope own)
    (hg : ∀ (s : Shared) (H : Hp) (C : Addr) (cl : List (Str × Addr)) (fp : List Addr), PG (X.blk s H scope (compEnvC scope cl C X.env) fp) tg g) (ht : ∀ (s : Shared) (H : Hp) (C : Addr) (cl : List (Str × Addr)) (fp : List Addr), PTs (X.blk s H scope (compEnvC scope cl C X.env) fp) ifs tt)
    (he : ∀ (s : Shared) (H : Hp) (C : Addr) (cl : List (Str × Addr)) (fp : List Addr), PE (X.blk s H scope (compEnvC scope cl C X.env) fp) elt te) (hs : ∀ x, foldedSetIterable iter X.env x = pure x := by intro _; rfl) :
    PS X (.Assign [.Name y py] (.ListComp elt [⟨tg, iter, ifs, 0⟩] scope pos) spos) (tAsg (mLc wi g tt te (own.map (·.2))) (gName i)) := ps_imp (ps_setLc hc hN hy hyl hsw hi ok hg ht he hs) fun D σ H q => lc_toM (Q := fun x H1 => gName i x σ H1 D.nx) q
end
/-! ### while -/
def whW (c : TT) (tb : TS) (D : Ends) : Nat → Sl → Hp → Prop
  | 0, _, _ => False
  | n + 1, σ, H => c σ H fun b H1 => if b = true then tb { D with nx := whW c tb D n, ct := whW c tb D n, bk := D.nx } σ H1 else D.nx σ H1
def mWhile (c : TT) (tb : TS) : TS := fun D σ H => ∃ n, whW c tb D n σ H
theorem ms_while {X : Cx} {c : Expr} {body : List Stmt} {tc : TT} {tb : TS} {pos : Pos} (hp : PassesOwn (model X.prog X.w) X.A X.env X.xe) (hc : PT X c tc) (hb : PSs X body tb) : PS X (.While c body [] pos) (mWhile tc tb) :=
  ps_imp (ps_while hp (pt_cl hc) hb) fun D σ H ⟨n, q⟩ => ⟨fun m σ H => whW tc tb D m σ H, ⟨n, q⟩, fun m σ H w => by
    cases m with
    | zero => exact w.elim
    | succ k =>
      refine ⟨_, w, fun b H1 z => ?_⟩
      cases b with
      | true => exact ⟨_, fun σ' H' y => ⟨k, Nat.lt_succ_self _, y⟩, z⟩
      | false => exact z⟩
end M

namespace M
open PySem PySem.Spec PyProof.Rows L2

/-! ### built-in functions -/
section
variable {X : Cx}
def mLen (K : PySem.W.Frag) : List V → Hp → VK → Prop := fun xs H Q => match xs with
  | [.str z] => z.length ≤ sizeLine ∧ Q (.int z.length) H
  | [.ref p] => ∃ ys, (SqL K H p ys ∨ SqT K H p ys) ∧ Q (.int ys.length) H
  | _ => False
theorem call_lenM : CallR X (.builtin "len") (mLen X.K) := callR_imp (call_len_seq.or call_len_str) fun xs H Q q => by
  unfold mLen at q
  split at q
  · exact .inr ⟨_, rfl, q⟩
  · obtain ⟨ys, h, q⟩ := q
    exact .inl ⟨_, ys, rfl, h, q⟩
  · exact q.elim
def mInt : List V → Hp → VK → Prop := fun xs H Q => match xs with
  | [.int i] => Q (.int i) H
  | [.bl k] => Q (.int (if k then 1 else 0)) H
  | _ => False
theorem call_intM : CallR X (.type "int") mInt := callR_imp call_int1 fun xs H Q q => by
  unfold mInt at q
  split at q
  · exact .inl ⟨_, rfl, q⟩
  · exact .inr ⟨_, rfl, q⟩
  · exact q.elim
def mStr : List V → Hp → VK → Prop := fun xs H Q => match xs with
  | [.str i] => Q (.str i) H
  | _ => False
theorem call_strM : CallR X (.type "str") mStr := callR_imp SkE.call_str_str fun xs H Q q => by
  unfold mStr at q
  split at q
  · exact ⟨_, rfl, q⟩
  · exact q.elim
def mMax : List V → Hp → VK → Prop := fun xs H Q => match xs with
  | [.int i, .int j] => Q (.int (max i j)) H
  | _ => False
theorem call_maxM (hc : X.calm = true) : CallR X (.builtin "max") mMax := callR_imp (call_max2 hc) fun xs H Q q => by
  unfold mMax at q
  split at q
  · rename_i i j
    refine ⟨i, j, rfl, ?_⟩
    have e : max i j = if j > i then j else i := by split <;> omega
    rw [← e]; exact q
  · exact q.elim
def mMin : List V → Hp → VK → Prop := fun xs H Q => match xs with
  | [.int i, .int j] => Q (.int (min i j)) H
  | _ => False
theorem call_minM (hc : X.calm = true) : CallR X (.builtin "min") mMin := callR_imp (call_min2 hc) fun xs H Q q => by
  unfold mMin at q
  split at q
  · rename_i i j
    refine ⟨i, j, rfl, ?_⟩
    have e : min i j = if j < i then j else i := by split <;> omega
    rw [← e]; exact q
  · exact q.elim
def mAbs : List V → Hp → VK → Prop := fun xs H Q => match xs with
  | [.int i] => Q (.int (i.natAbs : Int)) H
  | _ => False
theorem call_absM : CallR X (.builtin "abs") mAbs := callR_imp call_abs fun xs H Q q => by
  unfold mAbs at q
  split at q
  · rename_i i
    refine ⟨i, rfl, ?_⟩
    have e : (i.natAbs : Int) = if i < 0 then -i else i := by split <;> omega
    rw [← e]; exact q
  · exact q.elim
def mSum (K : PySem.W.Frag) : List V → Hp → VK → Prop := fun xs H Q => match xs with
  | [.ref a] => ∃ ns : List Int, SqL K H a (ns.map V.int) ∧ Q (.int ns.sum) H
  | _ => False
theorem call_sumM (hc : X.calm = true) : CallR X (.builtin "sum") (mSum X.K) := callR_imp (cr_sum hc) fun xs H Q q => by
  unfold mSum at q
  split at q
  · obtain ⟨ns, h, q⟩ := q
    exact ⟨_, ns, rfl, h, q⟩
  · exact q.elim
def mMaxL (K : PySem.W.Frag) : List V → Hp → VK → Prop := fun xs H Q => match xs with
  | [.ref a] => ∃ ns : List Int, SqL K H a (ns.map V.int) ∧ 0 < ns.length ∧ ∀ m, m ∈ ns → (∀ y, y ∈ ns → y ≤ m) → Q (.int m) H
  | _ => False
theorem call_maxLM (hc : X.calm = true) : CallR X (.builtin "max") (mMaxL X.K) := callR_imp (cr_max hc) fun xs H Q q => by
  unfold mMaxL at q
  split at q
  · obtain ⟨ns, h, q⟩ := q
    exact ⟨_, ns, rfl, h, q⟩
  · exact q.elim
def mMinL (K : PySem.W.Frag) : List V → Hp → VK → Prop := fun xs H Q => match xs with
  | [.ref a] => ∃ ns : List Int, SqL K H a (ns.map V.int) ∧ 0 < ns.length ∧ ∀ m, m ∈ ns → (∀ y, y ∈ ns → m ≤ y) → Q (.int m) H
  | _ => False
theorem call_minLM (hc : X.calm = true) : CallR X (.builtin "min") (mMinL X.K) := callR_imp (cr_min hc) fun xs H Q q => by
  unfold mMinL at q
  split at q
  · obtain ⟨ns, h, q⟩ := q
    exact ⟨_, ns, rfl, h, q⟩
  · exact q.elim
def mList (K : PySem.W.Frag) : List V → Hp → VK → Prop := fun xs H Q => match xs with
  | [.ref p] => ∃ ys, (SqL K H p ys ∨ SqT K H p ys) ∧ ∀ l, H l = none → Q (.ref l) (upd H l (.lst ys))
  | _ => False
theorem call_listM : CallR X (.type "list") (mList X.K) := callR_imp call_list_of fun xs H Q q => by
  unfold mList at q
  split at q
  · obtain ⟨ys, h, q⟩ := q
    exact ⟨_, ys, rfl, h, q⟩
  · exact q.elim
/-! isinstance(x, T) -/
def tyN : V → Option String
  | .str _ => some "str"
  | .int _ => some "int"
  | .bl _ => some "bool"
  | .non => some "NoneType"
  | _ => none
def mIsi (K : PySem.W.Frag) : List V → Hp → VK → Prop := fun xs H Q => match xs with
  | [x, .ty T] => match tyN x with
    | some n => (match kitB n T with
      | some b => Q (.bl b) H
      | none => False)
    | none => ∃ t b, TyX K H x t ∧ PySem.W.kitOne K t (.type T) = some b ∧ Q (.bl b) H
  | [x, .ref C] => ∃ t b, TyX K H x t ∧ PySem.W.kitOne K t (.ref C) = some b ∧ Q (.bl b) H
  | _ => False
theorem tyN_ok {K : PySem.W.Frag} {H : Hp} {x : V} {n : String} (h : tyN x = some n) : TyX K H x (.type n) := by
  cases x with
  | str z => cases h; exact .base (.str z)
  | int z => cases h; exact .base (.int z)
  | bl z => cases h; exact .base (.bl z)
  | non => cases h; exact .base .non
  | _ => cases h
theorem call_isiM : CallR X (.builtin "isinstance") (mIsi X.K) := callR_imp call_isi fun xs H Q q => by
  unfold mIsi at q
  split at q
  · rename_i x T
    cases e : tyN x with
    | some n =>
      rw [e] at q
      cases e2 : kitB n T with
      | none => simp only [e2] at q
      | some b => simp only [e2] at q; exact ⟨x, .ty T, _, _, b, rfl, .ty T, tyN_ok e, kit_ty e2, q⟩
    | none =>
      rw [e] at q
      obtain ⟨t, b, h1, h2, q⟩ := q
      exact ⟨x, .ty T, t, _, b, rfl, .ty T, h1, h2, q⟩
  · obtain ⟨t, b, h1, h2, q⟩ := q
    exact ⟨_, _, t, _, b, rfl, .own _, h1, h2, q⟩
  · exact q.elim
theorem kb1 : kitB "str" "str" = some true := by decide +kernel
theorem kb2 : kitB "str" "int" = some false := by decide +kernel
theorem kb3 : kitB "str" "bool" = some false := by decide +kernel
theorem kb4 : kitB "str" "list" = some false := by decide +kernel
theorem kb5 : kitB "str" "tuple" = some false := by decide +kernel
theorem kb6 : kitB "int" "str" = some false := by decide +kernel
theorem kb7 : kitB "int" "int" = some true := by decide +kernel
theorem kb8 : kitB "int" "bool" = some false := by decide +kernel
theorem kb9 : kitB "int" "list" = some false := by decide +kernel
theorem kb10 : kitB "int" "tuple" = some false := by decide +kernel
theorem kb11 : kitB "bool" "str" = some false := by decide +kernel
theorem kb12 : kitB "bool" "int" = some true := by decide +kernel
theorem kb13 : kitB "bool" "bool" = some true := by decide +kernel
theorem kb14 : kitB "bool" "list" = some false := by decide +kernel
theorem kb15 : kitB "bool" "tuple" = some false := by decide +kernel
theorem kb16 : kitB "NoneType" "str" = some false := by decide +kernel
theorem kb17 : kitB "NoneType" "int" = some false := by decide +kernel
theorem kb18 : kitB "NoneType" "bool" = some false := by decide +kernel
theorem kb19 : kitB "NoneType" "list" = some false := by decide +kernel
theorem kb20 : kitB "NoneType" "tuple" = some false := by decide +kernel
theorem tyX_list {K : PySem.W.Frag} {H : Hp} {a : Addr} {xs : List V} (h : SqL K H a xs) : TyX K H (.ref a) (.type "list") := by
  rcases h with h | ⟨o, its, n, h, c, _⟩
  · rcases h with h | ⟨o, h⟩
    · exact .base (.lst h)
    · exact .base (.frz h)
  · exact .kList h c
theorem tyX_tup {K : PySem.W.Frag} {H : Hp} {a : Addr} {xs : List V} (h : SqT K H a xs) : TyX K H (.ref a) (.type "tuple") := by
  rcases h with h | ⟨o, its, n, h, c, _⟩
  · rcases h with h | ⟨o, h⟩
    · exact .base (.tup h)
    · exact .fTuple h
  · exact .kTuple h c
theorem ki_list {K : PySem.W.Frag} : PySem.W.kitOne K (.type "list") (.type "str") = some false ∧ PySem.W.kitOne K (.type "list") (.type "int") = some false ∧ PySem.W.kitOne K (.type "list") (.type "bool") = some false ∧ PySem.W.kitOne K (.type "list") (.type "list") = some true ∧ PySem.W.kitOne K (.type "list") (.type "tuple") = some false :=
  ⟨kit_ty (by decide +kernel), kit_ty (by decide +kernel), kit_ty (by decide +kernel), kit_ty (by decide +kernel), kit_ty (by decide +kernel)⟩
theorem ki_tup {K : PySem.W.Frag} : PySem.W.kitOne K (.type "tuple") (.type "str") = some false ∧ PySem.W.kitOne K (.type "tuple") (.type "int") = some false ∧ PySem.W.kitOne K (.type "tuple") (.type "bool") = some false ∧ PySem.W.kitOne K (.type "tuple") (.type "list") = some false ∧ PySem.W.kitOne K (.type "tuple") (.type "tuple") = some true :=
  ⟨kit_ty (by decide +kernel), kit_ty (by decide +kernel), kit_ty (by decide +kernel), kit_ty (by decide +kernel), kit_ty (by decide +kernel)⟩
theorem ki_dict {K : PySem.W.Frag} : PySem.W.kitOne K (.type "dict") (.type "str") = some false ∧ PySem.W.kitOne K (.type "dict") (.type "int") = some false ∧ PySem.W.kitOne K (.type "dict") (.type "bool") = some false ∧ PySem.W.kitOne K (.type "dict") (.type "list") = some false ∧ PySem.W.kitOne K (.type "dict") (.type "tuple") = some false :=
  ⟨kit_ty (by decide +kernel), kit_ty (by decide +kernel), kit_ty (by decide +kernel), kit_ty (by decide +kernel), kit_ty (by decide +kernel)⟩
/-- a built-in class as a value -/
theorem me_ty {x : Str} (T : String) {pos : Pos} (hg : Gl X x) (hm : X.mg x = none) (hv : bootBuiltins x = some (.type T)) (hn : x ≠ "__name__" := by decide) (hd : (x == ("__debug__" : Str)) = false := by decide) : PE X (.Name x pos) (mC (.ty T)) := pe_bltn hg hm hv rfl hn hd
end

/-! ### methods of texts and lists -/
section
variable {X : Cx} {o e : Expr} {to te : TE} {apos pos : Pos}
def mBits (to : TE) : TE := fun σ H Q => to σ H fun x H1 => match x with
  | .int i => Q (.int (Builtin.Int.intBits i : Nat)) H1
  | _ => False
theorem me_bits (ho : PE X o to) (hbase : attributeBase o "bit_length" X.env (eval o X.env) = eval o X.env := by rfl) (hline : (apos.endLine == pos.line) = true := by rfl) : PE X (.Call (.Attribute o "bit_length" apos) [] [] pos) (mBits to) :=
  pe_imp (pe_bits (pe_cl ho) hbase hline) fun σ H Q q => ⟨_, q, fun x H1 z => by
    cases x with
    | int i => exact ⟨i, rfl, z⟩
    | _ => exact z.elim⟩
def mStrM (r : Str → V → Hp → VK → Prop) (to te : TE) : TE := fun σ H Q => to σ H fun x H1 => match x with
  | .str a => te σ H1 fun y H2 => r a y H2 Q
  | _ => False
theorem me_m1 {id : String} {name : Str} {r : Str → V → Hp → VK → Prop} (slot : Slot "str" name id) (ty : typeOf (.builtin id) = pure (.type "method_descriptor")) (rule : MtR X id (fun x xs H Q => ∃ a y, x = .str a ∧ xs = [y] ∧ r a y H Q)) (ho : PE X o to) (he : PE X e te)
    (hs : starEach [e] X.env = [(false, eval e X.env)] := by rfl) (hbase : attributeBase o name X.env (eval o X.env) = eval o X.env := by rfl) (hline : (apos.endLine == pos.line) = true := by rfl) :
    PE X (.Call (.Attribute o name apos) [e] [] pos) (mStrM r to te) :=
  pe_imp (pe_m1 slot ty rule (pe_cl ho) (pe_cl he) hs hbase hline) fun σ H Q q => ⟨_, q, fun x H1 z => by
    cases x with
    | str a => exact ⟨⟨a, rfl⟩, _, z, fun y H2 w => ⟨a, y, rfl, rfl, w⟩⟩
    | _ => exact z.elim⟩
def mJoin (K : PySem.W.Frag) : Str → V → Hp → VK → Prop := fun a y H Q => match y with
  | .ref p => ∃ ys : List Str, (SqL K H p (ys.map V.str) ∨ SqT K H p (ys.map V.str)) ∧ (ys.map (·.length)).sum + ys.length * a.length ≤ 16777216 ∧ Q (.str (Txt.join a ys)) H
  | _ => False
theorem mt_joinM : MtR X "str.join" (fun x xs H Q => ∃ a y, x = .str a ∧ xs = [y] ∧ mJoin X.K a y H Q) := fun pins s σ H x xs v us Q I rx rs ⟨a, y, e1, e2, q⟩ => by
  unfold mJoin at q
  split at q
  · obtain ⟨ys, h1, h2, q⟩ := q
    exact mt_join pins s σ H x xs v us Q I rx rs ⟨a, _, ys, e1, e2, h1, h2, q⟩
  · exact q.elim
def mCount : Str → V → Hp → VK → Prop := fun a y H Q => match y with
  | .str b => Q (.int (Txt.count a b)) H
  | _ => False
theorem mt_countM : MtR X "str.count" (fun x xs H Q => ∃ a y, x = .str a ∧ xs = [y] ∧ mCount a y H Q) := fun pins s σ H x xs v us Q I rx rs ⟨a, y, e1, e2, q⟩ => by
  unfold mCount at q
  split at q
  · exact mt_count pins s σ H x xs v us Q I rx rs ⟨a, _, e1, e2, q⟩
  · exact q.elim
def mSplit : Str → V → Hp → VK → Prop := fun a y H Q => match y with
  | .str b => (b.length == 0) = false ∧ a.length + 2 ≤ sizeLine ∧ ∀ p, H p = none → Q (.ref p) (upd H p (.lst ((Txt.split a b).map V.str)))
  | _ => False
theorem mt_splitM : MtR X "str.split" (fun x xs H Q => ∃ a y, x = .str a ∧ xs = [y] ∧ mSplit a y H Q) := fun pins s σ H x xs v us Q I rx rs ⟨a, y, e1, e2, q⟩ => by
  unfold mSplit at q
  split at q
  · exact mt_split pins s σ H x xs v us Q I rx rs ⟨a, _, e1, e2, q.1, q.2.1, q.2.2⟩
  · exact q.elim
theorem me_join (ho : PE X o to) (he : PE X e te) (hs : starEach [e] X.env = [(false, eval e X.env)] := by rfl) (hbase : attributeBase o "join" X.env (eval o X.env) = eval o X.env := by rfl) (hline : (apos.endLine == pos.line) = true := by rfl) :
    PE X (.Call (.Attribute o "join" apos) [e] [] pos) (mStrM (mJoin X.K) to te) := me_m1 PySem.F.slot_str_join PySem.F.type_str_join mt_joinM ho he hs hbase hline
theorem me_count (ho : PE X o to) (he : PE X e te) (hs : starEach [e] X.env = [(false, eval e X.env)] := by rfl) (hbase : attributeBase o "count" X.env (eval o X.env) = eval o X.env := by rfl) (hline : (apos.endLine == pos.line) = true := by rfl) :
    PE X (.Call (.Attribute o "count" apos) [e] [] pos) (mStrM mCount to te) := me_m1 PySem.F.slot_str_count PySem.F.type_str_count mt_countM ho he hs hbase hline
theorem me_split (ho : PE X o to) (he : PE X e te) (hs : starEach [e] X.env = [(false, eval e X.env)] := by rfl) (hbase : attributeBase o "split" X.env (eval o X.env) = eval o X.env := by rfl) (hline : (apos.endLine == pos.line) = true := by rfl) :
    PE X (.Call (.Attribute o "split" apos) [e] [] pos) (mStrM mSplit to te) := me_m1 PySem.F.slot_str_split PySem.F.type_str_split mt_splitM ho he hs hbase hline
/-- a list's method: the receiver a list that stands in H -/
def mLstM (r : Addr → List V → List V → Hp → VK → Prop) (to : TE) (t : TA) : TE := fun σ H Q => to σ H fun x H1 => match x with
  | .ref l => (∃ ys, H1 l = some (.lst ys)) ∧ t σ H1 fun vs H2 => ∃ xs, H2 l = some (.lst xs) ∧ r l xs vs H2 Q
  | _ => False
def mApp : Addr → List V → List V → Hp → VK → Prop := fun l xs vs H Q => match vs with
  | [y] => xs.length < sizeLine ∧ Q .non (upd H l (.lst (xs ++ [y])))
  | _ => False
def mPop : Addr → List V → List V → Hp → VK → Prop := fun l xs vs H Q => match vs with
  | [] => ∃ y, xs.getLast? = some y ∧ Q y (upd H l (.lst xs.dropLast))
  | _ => False
def mClear : Addr → List V → List V → Hp → VK → Prop := fun l xs vs H Q => match vs with
  | [] => Q .non (upd H l (.lst []))
  | _ => False
theorem me_append (ho : PE X o to) (he : PE X e te) (hbase : attributeBase o "append" X.env (eval o X.env) = eval o X.env := by rfl)
    (hfew : ((backTo pos (starEach [e] X.env)).all (fun x => !x.1) && (backToKw pos (keywordEach [] X.env)).all (fun x => x.1.isSome) && decide (([e] : List Expr).length + ([] : List Keyword).length + (if ([] : List Keyword).isEmpty then 0 else 1) < 30)) = true := by rfl)
    (hline : (apos.endLine == pos.line) = true := by rfl) (hs : starEach [e] X.env = (false, eval e X.env) :: starEach [] X.env := by rfl) (hplain : (backTo pos (starEach [] X.env)).any (·.1) = false := by rfl) :
    PE X (.Call (.Attribute o "append" apos) [e] [] pos) (mLstM mApp to (tCons te tNil)) :=
  pe_imp (pe_bm PySem.F.plainAttrs_list PySem.F.slot_list_append PySem.F.type_list_append mt_append (pe_cl ho) (pa_cons (pe_cl he) pa_nil hs) hbase hfew hline hs hplain) fun σ H Q q => ⟨_, q, fun x H1 z => by
    cases x with
    | ref l =>
      obtain ⟨⟨ys, h⟩, z⟩ := z
      exact ⟨.inl ⟨rfl, _, SqL.of h⟩, _, z, fun y H2 w => by
        obtain ⟨xs, h2, w⟩ := w
        exact ⟨l, xs, y, rfl, rfl, h2, w.1, w.2⟩⟩
    | _ => exact z.elim⟩
theorem last_at {α : Type} (xs : List α) : xs[xs.length - 1]? = xs.getLast? := by
  rw [List.getLast?_eq_getElem?]
theorem me_pop (ho : PE X o to) (hbase : attributeBase o "pop" X.env (eval o X.env) = eval o X.env := by rfl) (hline : (apos.endLine == pos.line) = true := by rfl) : PE X (.Call (.Attribute o "pop" apos) [] [] pos) (mLstM mPop to tNil) :=
  pe_imp (pe_bm0 PySem.F.plainAttrs_list PySem.F.slot_list_pop PySem.F.type_list_pop mt_pop (pe_cl ho) hbase hline) fun σ H Q q => ⟨_, q, fun x H1 z => by
    cases x with
    | ref l =>
      obtain ⟨⟨ys, h⟩, xs, h2, y, h3, z⟩ := z
      exact ⟨.inl ⟨rfl, _, SqL.of h⟩, l, xs, y, rfl, rfl, h2, by rw [last_at]; exact h3, z⟩
    | _ => exact z.elim⟩
theorem me_clear (ho : PE X o to) (hbase : attributeBase o "clear" X.env (eval o X.env) = eval o X.env := by rfl) (hline : (apos.endLine == pos.line) = true := by rfl) : PE X (.Call (.Attribute o "clear" apos) [] [] pos) (mLstM mClear to tNil) :=
  pe_imp (pe_bm0 PySem.F.plainAttrs_list PySem.F.slot_list_clear PySem.F.type_list_clear mt_clear (pe_cl ho) hbase hline) fun σ H Q q => ⟨_, q, fun x H1 z => by
    cases x with
    | ref l =>
      obtain ⟨⟨ys, h⟩, xs, h2, z⟩ := z
      exact ⟨.inl ⟨rfl, _, SqL.of h⟩, l, xs, rfl, rfl, h2, z⟩
    | _ => exact z.elim⟩
def mRev (K : PySem.W.Frag) (te : TE) : TE := fun σ H Q => te σ H fun x H1 => match x with
  | .ref a => ∃ xs, SqL K H1 a xs ∧ ∀ p, H1 p = none → Q (.ref p) (upd H1 p (.lst xs.reverse))
  | _ => False
theorem me_revL {k : Nat} {p1 p2 p3 pos : Pos} (he : PE X e te) : PE X (.Subscript e (.Slice none none (some (.UnaryOp .USub (.Constant (.int 1) k p1) p2)) p3) pos) (mRev X.K te) :=
  pe_imp (pe_revL (pe_cl he)) fun σ H Q q => ⟨_, q, fun x H1 z => by
    cases x with
    | ref a => obtain ⟨xs, h, z⟩ := z; exact ⟨a, xs, rfl, h, z⟩
    | _ => exact z.elim⟩
end

/-! ### heaps -/
/-- what stands at the addresses other than those of m stays -/
def Fm (m : List Addr) (H H' : Hp) : Prop := ∀ a o, a ∉ m → H a = some o → H' a = some o
abbrev Ex (H H' : Hp) : Prop := ∀ a o, H a = some o → H' a = some o
theorem Ex.refl (H : Hp) : Ex H H := fun _ _ h => h
theorem Ex.trans {H H1 H2 : Hp} (a : Ex H H1) (b : Ex H1 H2) : Ex H H2 := fun x o h => b x o (a x o h)
theorem Ex.new {H : Hp} {p : Addr} {o : HO} (h : H p = none) : Ex H (upd H p o) := fun a u e => by
  rw [upd_ne (ne_of_none e h)]; exact e
theorem Ex.push {H H' : Hp} {p : Addr} {o : HO} (e : Ex H H') (h : H' p = none) : Ex H (upd H' p o) := e.trans (Ex.new h)
/-- an object that H does not know may change -/
theorem Ex.mut {H H' : Hp} {p : Addr} {o : HO} (e : Ex H H') (h : H p = none) : Ex H (upd H' p o) := fun a u ha => by
  rw [upd_ne (ne_of_none ha h)]; exact e a u ha
theorem Ex.free {H H' : Hp} {p : Addr} (e : Ex H H') (h : H' p = none) : H p = none := by
  cases h1 : H p with
  | none => rfl
  | some o => rw [e p o h1] at h; cases h
theorem ex_rd {H H' : Hp} {a : Addr} {u : HO} (e : Ex H H') (h : Rd H a u) : Rd H' a u := by
  rcases h with h | ⟨o, h⟩
  · exact .inl (e a _ h)
  · exact .inr ⟨o, e a _ h⟩
theorem Ex.L {K : PySem.W.Frag} {H H' : Hp} {a : Addr} {xs : List V} (e : Ex H H') (h : SqL K H a xs) : SqL K H' a xs := by
  rcases h with h | h
  · exact .inl (ex_rd e h)
  · exact .inr h
theorem Ex.T {K : PySem.W.Frag} {H H' : Hp} {a : Addr} {xs : List V} (e : Ex H H') (h : SqT K H a xs) : SqT K H' a xs := by
  rcases h with h | h
  · exact .inl (ex_rd e h)
  · exact .inr h
theorem sz_of {n : Nat} (h : n ≤ 10000000) : n ≤ sizeLine := Nat.le_trans h (by decide)
theorem sz_lt {n : Nat} (h : n < 10000000) : n < sizeLine := Nat.lt_of_lt_of_le h (by decide)
end M

namespace M
open PySem PySem.Spec PyProof.Rows L2

/-! ### more of tests and assignments -/
section
variable {X : Cx} {a b c : Expr} {ta tb tc : TE} {pos : Pos}
/-- is None, is True, is False -/
def mIs : R2 := fun x y H Q => match y with
  | .non => Q (.bl (isN x)) H
  | .bl k => (match x with
    | .bl j => Q (.bl (decide (j = k))) H
    | _ => False)
  | _ => False
def mNot : R2 := fun x y H Q => match y with
  | .non => Q (.bl (!isN x)) H
  | .bl k => (match x with
    | .bl j => Q (.bl (!decide (j = k))) H
    | _ => False)
  | _ => False
theorem op_isM : OpR X (compareOp .Is) mIs := opR_imp (op_isN.or op_isBl) fun x y H Q q => by
  unfold mIs at q
  split at q
  · exact .inl ⟨rfl, by rw [isN_eq]; exact q⟩
  · split at q
    · exact .inr ⟨_, _, rfl, rfl, q⟩
    · exact q.elim
  · exact q.elim
theorem op_notM : OpR X (compareOp .IsNot) mNot := opR_imp (op_notN.or op_notBl) fun x y H Q q => by
  unfold mNot at q
  split at q
  · exact .inl ⟨rfl, by rw [isN_eq]; exact q⟩
  · split at q
    · exact .inr ⟨_, _, rfl, rfl, q⟩
    · exact q.elim
  · exact q.elim
/-- a < b <= c -/
theorem chain_cl {r r' : R2} {σ : Sl} {H : Hp} {Q : VK} (q : mChain r r' ta tb tc σ H Q) : tChain (clR r) r' (cl ta) (cl tb) tc σ H Q :=
  ⟨_, q, fun x H1 q1 => ⟨_, q1, fun y H2 q2 => ⟨_, q2, fun z H3 q3 => by
    cases z with
    | bl k => cases k <;> exact ⟨_, rfl, q3⟩
    | _ => exact q3.elim⟩⟩⟩
theorem me_chain {op op' : CmpOp} {r r' : R2} (ho : OpR X (compareOp op) r) (ho' : OpR X (compareOp op') r') (ha : PE X a ta) (hb : PE X b tb) (hc : PE X c tc)
    (hm : lastMarks [op, op'] [b, c] = false := by with_unfolding_all rfl) : PE X (.Compare a [op, op'] [b, c] pos) (mChain r r' ta tb tc) :=
  pe_imp (pe_chain (opR_cl ho) ho' (pe_cl ha) (pe_cl hb) hc hm) fun σ H Q q => chain_cl q
def mTestC (r r' : R2) (ta tb tc : TE) : TT := fun σ H Q => mChain r r' ta tb tc σ H fun x H' => match x with
  | .bl k => Q k H'
  | _ => False
theorem mt_chain {op op' : CmpOp} {r r' : R2} (ho : OpR X (compareOp op) r) (ho' : OpR X (compareOp op') r') (ha : PE X a ta) (hb : PE X b tb) (hc : PE X c tc)
    (hm : lastMarks [op, op'] [b, c] = false := by with_unfolding_all rfl) : PT X (.Compare a [op, op'] [b, c] pos) (mTest (mChain r r' ta tb tc)) :=
  pt_imp (pt_chain (opR_cl ho) (opR_cl ho') (pe_cl ha) (pe_cl hb) (pe_cl hc) hm) fun σ H Q q => ⟨_, q, fun x H1 q1 => ⟨_, q1, fun y H2 q2 => ⟨_, q2, fun z H3 q3 => by
    cases z with
    | bl k =>
      cases k with
      | true => exact ⟨true, rfl, _, q3, fun w H4 q4 => ⟨_, q4, fun v H5 q5 => bX_of q5⟩⟩
      | false => exact ⟨false, rfl, false, rfl, q3⟩
    | _ => exact q3.elim⟩⟩⟩
/-- a, b, c = x, y, z -/
def mPar3 (i j l : Nat) (ta : TA) : TS := fun D σ H => ta σ H fun vs H1 => match vs with
  | [u, v, w] => D.nx (((σ.set i (some u)).set j (some v)).set l (some w)) H1
  | _ => False
theorem ms_par3 {i j l : Nat} {x y z : Str} {a b c : Expr} {ta : TA} {px py pz pt pos : Pos} {kt k2 pt2} (hc : X.calm = true) (hN : X.N.Nodup) (hi : X.N[i]? = some x) (hj : X.N[j]? = some y) (hl : X.N[l]? = some z) (hij : i ≠ j) (hil : i ≠ l) (hjl : j ≠ l)
    (hx : X.env.scope.names.lookup x = some .local) (hy : X.env.scope.names.lookup y = some .local) (hz : X.env.scope.names.lookup z = some .local) (ha : PA X [a, b, c] ta)
    (hw : swappedStores [.Tuple [.Name x px, .Name y py, .Name z pz] kt pt] (.Tuple [a, b, c] k2 pt2) X.env = pure (some [x, y, z]))
    (hs : swapsWithSole [.Tuple [.Name x px, .Name y py, .Name z pz] kt pt] (.Tuple [a, b, c] k2 pt2) pos.line X.env = pure false := by rfl) :
    PS X (.Assign [.Tuple [.Name x px, .Name y py, .Name z pz] kt pt] (.Tuple [a, b, c] k2 pt2) pos) (mPar3 i j l ta) :=
  ps_imp (ps_par3 hc hN hi hj hl hij hil hjl hx hy hz (pa_cl ha) hw hs) fun D σ H q => ⟨_, q, fun vs H1 z => by
    split at z
    · exact ⟨_, _, _, rfl, z⟩
    · exact z.elim⟩
end

/-! ### a def that may be called: where it stands, its promise -/
structure Cal (P : Program) (w : World) (K : PySem.W.Frag) (mg : Str → Option Value) (base : Heap) (CX : CXT) (x : Str) (k : Nat) (ps : List Str) (dvs : List V) (sp : Sp) : Prop where
  ex : ∃ f fd ds, FnOk P w K mg base CX k f fd ps sp ∧ mg x = some (.ref f) ∧ PySem.W.keepIn K (.ref f) = true ∧ Binds K fd ps ds ∧ Vals dvs ds
section
variable {X : Cx} {CX : CXT} {k : Nat} {ps : List Str} {sp : Sp} {dvs : List V} {E : XK} {x : Str} {p pos : Pos} {e : Expr} {es : List Expr} {t : TA}
theorem me_call (C : Cal X.prog X.w X.K X.mg X.base CX x k ps dvs sp) (hr : Room k X.A) (hg : Gl X x) (hx : Passes CX X E) (ha : PA X (e :: es) t) (hdb : (x == ("__debug__" : Str)) = false := by decide)
    (he : starEach (e :: es) X.env = (false, eval e X.env) :: starEach es X.env := by rfl) (hpl : (backTo pos (starEach es X.env)).any (·.1) = false := by rfl) : PE X (.Call (.Name x p) (e :: es) [] pos) (tCall sp dvs E t) := by
  obtain ⟨f, fd, ds, F, hm, hk, hb, hd⟩ := C.ex
  exact pe_call F hr hg hm hk hb hd hx ha hdb he hpl
theorem me_call0 (C : Cal X.prog X.w X.K X.mg X.base CX x k ps dvs sp) (hr : Room k X.A) (hg : Gl X x) (hx : Passes CX X E) (hdb : (x == ("__debug__" : Str)) = false := by decide) : PE X (.Call (.Name x p) [] [] pos) (tCall sp dvs E tNil) := by
  obtain ⟨f, fd, ds, F, hm, hk, hb, hd⟩ := C.ex
  first
    | exact pe_call0 F hr hg hm hk hb hd hx hdb
    | exact pe_call0 F hr hg hm hk hb hd hx
end
section
variable {P : Program} {w : World} {K : PySem.W.Frag} {mg : Str → Option Value} {base : Heap} {CX : CXT} {x : Str} {k j : Nat} {ps : List Str} {dvs : List V} {sp sp' : Sp}
theorem Cal.mono (C : Cal P w K mg base CX x k ps dvs sp) (h : k ≤ j) : Cal P w K mg base CX x j ps dvs sp := by
  obtain ⟨f, fd, ds, F, r⟩ := C.ex
  exact ⟨f, fd, ds, F.mono h, r⟩
theorem Cal.imp (C : Cal P w K mg base CX x k ps dvs sp) (h : ∀ vs H Q E, sp' vs H Q E → sp vs H Q E) : Cal P w K mg base CX x k ps dvs sp' := by
  obtain ⟨f, fd, ds, F, r⟩ := C.ex
  exact ⟨f, fd, ds, F.imp h, r⟩
/-- nothing can be asked with no call left -/
theorem FnOk.zero {f : Addr} {fd : FuncData} {sp : Sp} (no : ∀ vs H Q E, ¬ sp vs H Q E) : FnOk P w K mg base CX 0 f fd ps sp :=
  ⟨fun vs H Q E h => absurd h (no vs H Q E), fun A outer s H args us vs Q E _ _ _ _ h => absurd h (no vs H Q E)⟩
end
end M

namespace M
open PySem PySem.Spec PyProof.Rows L2

/-! ### x in (a, b, ..), written -/
def flB : V → Bool
  | .str _ => true
  | .int _ => true
  | .bl _ => true
  | .non => true
  | _ => false
theorem flB_ok {v : V} (h : flB v = true) : flatV v = true := by cases v <;> first | rfl | cases h
def mInT (neg : Bool) (te : TE) (ta : TA) : TE := fun σ H Q => te σ H fun x H1 => ta σ H1 fun ys H2 => flB x = true ∧ ys.all flB = true ∧ ys.length ≤ sizeLine ∧ ∀ p, H2 p = none → Q (.bl (if neg then !inV x ys else inV x ys)) (upd H2 p (.tup ys))
def mInTT (neg : Bool) (te : TE) (ta : TA) : TT := fun σ H Q => te σ H fun x H1 => ta σ H1 fun ys H2 => flB x = true ∧ ys.all flB = true ∧ ys.length ≤ sizeLine ∧ ∀ p, H2 p = none → Q (if neg then !inV x ys else inV x ys) (upd H2 p (.tup ys))
section
variable {X : Cx} {a : Expr} {es : List Expr} {ta : TE} {t : TA} {pos ps : Pos} {kk : Nat}
theorem all_fl {ys : List V} (h : ys.all flB = true) : ys.all flatV = true := by
  rw [List.all_eq_true] at *
  exact fun v hv => flB_ok (h v hv)
theorem inT_at {K : PySem.W.Frag} {x : V} {ys : List V} {H2 : Hp} {p : Addr} {neg : Bool} {Q : VK} (h1 : flB x = true) (h2 : ys.all flB = true) (q : Q (.bl (if neg then !inV x ys else inV x ys)) (upd H2 p (.tup ys))) : rIn K neg x (.ref p) (upd H2 p (.tup ys)) Q :=
  ⟨p, ys, rfl, .inr (SqT.of upd_same), flB_ok h1, all_fl h2, q⟩
theorem me_inT (ha : PE X a ta) (hb : PA X es t) (hm : behindInMarks .In (.Tuple es kk ps) = false := by rfl) : PE X (.Compare a [.In] [.Tuple es kk ps] pos) (mInT false ta t) :=
  pe_imp (pe_cmpR op_in_seq (pe_cl ha) (pe_tup (pa_cl hb)) hm) fun σ H Q q => ⟨_, q, fun x H1 q1 => ⟨_, q1, fun ys H2 ⟨h1, h2, h3, q2⟩ => ⟨h3, fun p hp => inT_at h1 h2 (q2 p hp)⟩⟩⟩
theorem me_ninT (ha : PE X a ta) (hb : PA X es t) (hm : behindInMarks .NotIn (.Tuple es kk ps) = false := by rfl) : PE X (.Compare a [.NotIn] [.Tuple es kk ps] pos) (mInT true ta t) :=
  pe_imp (pe_cmpR op_notIn_seq (pe_cl ha) (pe_tup (pa_cl hb)) hm) fun σ H Q q => ⟨_, q, fun x H1 q1 => ⟨_, q1, fun ys H2 ⟨h1, h2, h3, q2⟩ => ⟨h3, fun p hp => inT_at h1 h2 (q2 p hp)⟩⟩⟩
theorem mt_inT (ha : PE X a ta) (hb : PA X es t) (hm : behindInMarks .In (.Tuple es kk ps) = false := by rfl) : PT X (.Compare a [.In] [.Tuple es kk ps] pos) (mInTT false ta t) :=
  pt_imp (pt_cmpR op_in_seq (pe_cl ha) (pe_tup (pa_cl hb)) hm) fun σ H Q q => ⟨_, q, fun x H1 q1 => ⟨_, q1, fun ys H2 ⟨h1, h2, h3, q2⟩ => ⟨h3, fun p hp => inT_at h1 h2 ⟨_, rfl, q2 p hp⟩⟩⟩⟩
theorem mt_ninT (ha : PE X a ta) (hb : PA X es t) (hm : behindInMarks .NotIn (.Tuple es kk ps) = false := by rfl) : PT X (.Compare a [.NotIn] [.Tuple es kk ps] pos) (mInTT true ta t) :=
  pt_imp (pt_cmpR op_notIn_seq (pe_cl ha) (pe_tup (pa_cl hb)) hm) fun σ H Q q => ⟨_, q, fun x H1 q1 => ⟨_, q1, fun ys H2 ⟨h1, h2, h3, q2⟩ => ⟨h3, fun p hp => inT_at h1 h2 ⟨_, rfl, q2 p hp⟩⟩⟩⟩
end
theorem inV_nil (x : V) : inV x [] = false := rfl
theorem inV_cons (x y : V) (r : List V) : inV x (y :: r) = (eqV y x || inV x r) := rfl
theorem eqV_SS (a b : List Nat) : eqV (.str (S a)) (.str (S b)) = decide (a = b) := by
  show decide (S a = S b) = _
  by_cases h : a = b
  · subst h; simp
  · have : ¬ S a = S b := fun z => h (S_inj.mp z)
    simp [h, this]
theorem eqV_II (a b : Int) : eqV (.int a) (.int b) = decide (a = b) := by
  show (_ : Bool) = _
  first | rfl | simp [eqV]
end M

/-! ### own errors: class C(TurnError) with __init__(self, fl=None): super().__init__(fl); self.fl = fl -/
namespace M
open PySem PySem.Spec PySem.W PySem.Calls PyProof.Rows PySem.HandSPX
def qp (q : List Pos) (i : Nat) : Pos := q.getD i ⟨0, 0, 0, 0⟩
def eiB (fl : Str) (q : List Pos) : List Stmt := [.Expr (.Call (.Attribute (.Call (.Name "super" (qp q 0)) [] [] (qp q 1)) "__init__" (qp q 2)) [.Name fl (qp q 3)] [] (qp q 4)) (qp q 5), .Assign [.Attribute (.Name "self" (qp q 6)) fl (qp q 7)] (.Name fl (qp q 8)) (qp q 9)]
section
variable {P : Program} {w : World} {A : Around} {E : Value → Shared → Prop} {h : Heap} {g : Array GenState} {d : Drawn} {t : Nat} {os : OsState}
variable {nm q : Str} {C N : Addr} {bs bm : List Value} {hdct : Bool} {sn : List Str} {sub : List Value} {ab : Bool} {col : Option Bool} {dd : Option Addr} {k0 k1 k2 k3 k5 : Option Value}
theorem call_mw {u e t0 : Addr} {rest : List Value} {Q : Value → Shared → Prop}
    (hC : h.get? C = some (excClassObj nm q C N bs bm hdct sn sub ab col dd k0 k1 k2 k3 k5 "ValueError.__new__")) (he : h.get? e = some (HandSPX.excO C t0)) (hu : h.get? u = some (kxs_mw "ValueError.__init__" e)) (hrest : rest.length ≤ sizeLine)
    (hq : ∀ h' t1, (∀ b o, b ≠ e → h.get? b = some o → h'.get? b = some o) → h'.get? e = some (HandSPX.excO C t1) → Q .none ⟨h', g, d, t, os⟩) :
    wpAny (model P w) A (call (.ref u) rest) Q E ⟨h, g, d, t, os⟩ := by
  refine wpAny_call (codeAny_of_tree ?_)
  show wpAny _ A.in1 (callAny (.ref u) ⟨rest, []⟩) _ _ _
  simp only [callAny]
  refine wpAny_bind (wpAny_load hu ?_)
  simp only [kxs_mw, show (Value.type "method-wrapper" == Value.type "method" || Value.type "method-wrapper" == Value.type "builtin_function_or_method" || Value.type "method-wrapper" == Value.type "method-wrapper") = true by decide, if_true]
  refine W.KFB.if_so (by decide) ?_
  refine wpAny_bind (check_bound_init F.excBase_ValueError.toExcCallFacts hC he rfl ?_)
  refine wpAny_bind (wpAny_pure (wpAny_pure ?_))
  refine ⟨plainId_quiet F.excBase_ValueError.init.plain _, codeAny_builtin F.excBase_ValueError.initEntry ?_⟩
  exact exc_init_tree (cls := .ref C) (t0 := t0) (dv := none) (c2 := .none) (c3 := .none) (b4 := .bool false) he hrest fun h' k e' _ => hq h' _ k e'
end
theorem cw_one {Mo : Model} {A : Around} {E : Value → Shared → Prop} {s : Shared} {i : String} {u x : Addr} {pos : Pos} {env : Env} {e : Expr} {Q : Value → Shared → Prop}
    (h : wpAny Mo A (spliced (backTo pos (starEach [e] env))) (fun vs s₁ => KxsAt i u x s₁.heap ∧ wpAny Mo A (call (.ref u) vs) Q E s₁) E s)
    (he : starEach [e] env = (false, eval e env) :: starEach [] env := by rfl) : wpAny Mo A (callWith pos (.ref u) [] (backTo pos (starEach [e] env)) []) Q E s := by
  rw [he] at h ⊢
  exact kxs_callWith (i := i) (x := x) rfl (evalArgs_plain h)
theorem ve_slot : bootBuiltins "super" = some (.type "super") := by decide +kernel
section
variable {P : Program} {w : World} {A : Around} {R : Result → Shared → Prop} {s : Shared} {K : Frag} {mg mb : Str → Option Value} {C fI cda cc : Addr} {fl qual : Str} {sc : Scope} {params : Arguments} {q : List Pos}
  {oc dV kV doc pm ct : Value} {od an : Option Addr} {osl : Array (Option Value)} {ar : Arg}
theorem ini_run {args : Args} {x t0 : Addr} {v : Value} (X : K.In s.heap) (hlim : s.heap.NoLimit) (G : s.heap.Ns mainGlobals mg) (B : s.heap.Ns builtinsNs mb) (gs : mg "super" = none) (bs : mb "super" = some (.type "super")) (T : L2.OexC K C) (nf : findIn K (.ref C) fl = some none)
    (ho : K.lookup fI = some ⟨oc, od, .func (ksFn "__init__" qual params (eiB fl q) sc dV kV doc pm an (.ref cda) ct cc), osl⟩) (hcd : codeIn K (.ref cda) qual = true)
    (hcode : ∃ (ccl : Value) (cdd : Option Addr) (vs : Array Value) (ccs : Array (Option Value)) (file : Str) (tf : Tok), K.lookup cda = some ⟨ccl, cdd, .fields vs, ccs⟩ ∧ vs[2]? = some (.str file tf) ∧ ((P.main.file : Str) == file) = true)
    (hcell : ∃ (cl : Value) (cld : Option Addr) (csl : Array (Option Value)), K.lookup cc = some ⟨cl, cld, .cell (some (.ref C)), csl⟩)
    (hp : (params.posonlyargs ++ params.args).head? = some ar) (har : ar.arg = "self") (hsf : fl ≠ "self") (hdf : (fl == ("__debug__" : Str)) = false)
    (k1 : sc.kind = .function) (k2 : sc.isGenerator = false) (k3 : sc.isCoroutine = false) (k4 : sc.names.lookup ("self" : Str) = some .local) (k5 : sc.names.lookup fl = some .local) (k6 : sc.names.lookup ("super" : Str) = some .globalImplicit)
    (k7 : sc.names.lookup ("__class__" : Str) = some .free) (k8 : ∀ x ∈ sc.names, x.2 ≠ .cell)
    (htop : (P.main.scope.names.lookup ("super" : Str)).isSome = false) (hop : nsIn K cStatics "thirdparty.any" = some none) (sup : ks_superIn K C C "__init__" = some (some (.builtin "ValueError.__init__")))
    (hmro : mroIn K C (.ref C) = some true) (hsub : subIn K (.ref C) (.type "ValueError") = some true)
    (hint : ∀ env : Env, env.scope = sc → interactive env = false)
    (hev : ∀ env : Env, env.scope = sc → ∃ pl : Sem Bool, eval (.Call (.Attribute (.Call (.Name "super" (qp q 0)) [] [] (qp q 1)) "__init__" (qp q 2)) [.Name fl (qp q 3)] [] (qp q 4)) env = (do
      let ov ← attributeBase (.Call (.Name "super" (qp q 0)) [] [] (qp q 1)) "__init__" env (eval (.Call (.Name "super" (qp q 0)) [] [] (qp q 1)) env)
      standAt (qp q 2).atName
      let (f, first) ← holding [ov] (getMethod ov "__init__" pl)
      callWith (qp q 4) f first (backTo (qp q 4) (starEach [.Name fl (qp q 3)] env)) []))
    (hsw : ∀ env : Env, env.scope = sc → swapsWith (.Name fl (qp q 8)) (some (.Attribute (.Name "self" (qp q 6)) fl (qp q 7))) (qp q 9).line env = pure false)
    (hx : s.heap.get? x = some (excO C t0)) (hnx : K.lookup x = none) (hroom : A.depth < recursionLimit) (bind : BindsTo s (ksFn "__init__" qual params (eiB fl q) sc dV kV doc pm an (.ref cda) ct cc) args [("self", .ref x), (fl, v)])
    (hq : ∀ h' tk dx t1, (∀ b o, b ≠ x → s.heap.get? b = some o → h'.get? b = some o) → h'.get? x = some { cls := .ref C, dict := some dx, data := .fields #[.ref t1, .none, .none, .none, .bool false, .none] } → s.heap.objs.size ≤ dx → dx ≠ x →
      h'.Ns1 dx (fun y => if y = fl then some v else none) → R (.ok (.ret .none)) { s with heap := h', toks := tk }) :
    codeAny (model P w) A (.call (.ref fI) args) R s := by
  obtain ⟨nm, q', N, bs', bm, sn, sub, ab, col, dd, z0, z1, z2, z3, z5, hC, hbm⟩ := T.cls
  have hcl : clsIn K C = some { name := nm, bases := bs', mro := .ref C :: bm, ns := N, qualname := q', hasDict := true, slotNames := sn, subclasses := sub, abstract := ab, collection := col, hasDel := false } := by unfold clsIn; rw [hC] <;> rfl
  obtain ⟨ccl, cdd, vs, ccs, file, tf, hcode, hvs, hfile⟩ := hcode
  obtain ⟨cl, cld, csl, hcell⟩ := hcell
  refine ks_codeAny_call_defAt (fd := ksFn "__init__" qual params (eiB fl q) sc dV kV doc pm an (.ref cda) ct cc) (body := eiB fl q) (binds := [("self", .ref x), (fl, v)]) hroom (X _ _ ho) rfl hlim (codeRec_of X hcd) rfl bind k8
    (fun y hy => ?_) (fun h₁ hns hk₁ => ?_) k3 k2 k1
  · rcases List.mem_cons.mp hy with rfl | hy
    · exact k4
    rcases List.mem_cons.mp hy with rfl | hy
    · exact k5
    cases hy
  have hxL : s.heap.objs.size ≠ x := Nat.ne_of_gt (Heap.lt_size hx)
  have X₁ : K.In h₁ := X.keeps hk₁
  have hx₁ := hk₁ _ _ hx
  have mself : (fun x_1 => ([("self", .ref x), (fl, v)] : List (Str × Value)).reverse.lookup x_1) "self" = some (.ref x) := by
    have : (("self" : Str) == fl) = false := by simpa using fun z => hsf z.symm
    simp [List.lookup, this]
  have mfl : (fun x_1 => ([("self", .ref x), (fl, v)] : List (Str × Value)).reverse.lookup x_1) fl = some v := by
    simp [List.lookup]
  generalize hm : (fun x_1 => ([("self", .ref x), (fl, v)] : List (Str × Value)).reverse.lookup x_1) = m at hns mself mfl
  obtain ⟨hp0, g, dr, tk, os⟩ := s
  have I₁ : W.InstAt h₁ x (excO C t0) C none := ⟨hx₁, rfl, rfl, trivial⟩
  obtain ⟨oD, hD1, hD2⟩ : ∃ oD, h₁.get? C = some oD ∧ oD.data = .cls { name := nm, bases := bs', mro := .ref C :: bm, ns := N, qualname := q', hasDict := true, slotNames := sn, subclasses := sub, abstract := ab, collection := col, hasDel := false } := ⟨_, X₁ _ _ hC, rfl⟩
  have nk : ∀ {b : Addr} {o : Obj}, K.lookup b = some o → b ≠ x := fun e z => by rw [z, hnx] at e; cases e
  obtain ⟨pl, hev⟩ := hev (callEnv (ksFn "__init__" qual params (eiB fl q) sc dV kV doc pm an (.ref cda) ct cc) hp0.objs.size fI) rfl
  refine ks_wpAt_execs_cons (ks_wpAt_Expr_any (hi := hint _ rfl) (ks_wpAt_MethodCall (he := hev) ?_))
  refine ks_wpAt_super_base (env := callEnv (ksFn "__init__" qual params (eiB fl q) sc dV kV doc pm an (.ref cda) ct cc) hp0.objs.size fI) k6 k7 (by decide) rfl (X₁ _ _ ho) rfl hp rfl (X₁ _ _ hcode) rfl hvs hfile htop ?_
  refine ks_loadName_global k1 k6 (loadGlobal_builtin (G.keeps hk₁) gs (B.keeps hk₁) bs ⟨rfl, ?_⟩)
  refine wpAny_loadName_free k1 k7 rfl ⟨_, X₁ _ _ hcell, rfl⟩ ?_
  rw [har]
  refine wpAny_loadName_local k1 k4 hns mself ?_
  refine ks_wpAny_isType_cls hD1 hD2 ⟨rfl, ?_⟩
  refine ks_wpAny_call_super hD1 hD2 I₁.at_ I₁.cls (fun c e => by cases e) (looks_mroIn X₁ hmro) (fun h2 e2 kk2 => ?_)
  have X2 : K.In h2 := X₁.keeps kk2
  have hI2 : W.Looks (model P w) h2 (isInstance (.ref x) (.type "ValueError")) true := (show W.InstAt h2 x (excO C t0) C none from ⟨kk2 _ _ hx₁, rfl, rfl, trivial⟩).type.andThen (looks_subIn X2 hsub)
  have hxC : x ≠ C := fun z => by
    rw [← z, hx₁] at hD1
    cases hD1
    cases hD2
  have supA : alongIn K "__init__" (((.ref C :: bm).dropWhile (· != .ref C)).drop 1) = some (some (.builtin "ValueError.__init__")) := by
    have z := sup
    unfold ks_superIn at z
    rw [hcl] at z
    exact z
  refine kxs_getMethod kxs_ValueError e2 (looks_opaque X2 hop) (l₀ := .ref C :: bm) (fun A Q E s k q => wpAny_bind ((looks_clsIn X2 hcl) A _ E s k (wpAny_pure q))) rfl X2 supA hI2 hxC (by decide) ?_
  have kk3 : ∀ b o, h2.get? b = some o → (h2.push (kxs_mw "ValueError.__init__" x)).get? b = some o := fun b o e => Heap.get?_push_of_some _ e
  have hu : (h2.push (kxs_mw "ValueError.__init__" x)).get? h2.objs.size = some (kxs_mw "ValueError.__init__" x) := Heap.get?_push_size _ rfl
  refine cw_one (i := "ValueError.__init__") (x := x) (spliced_more ?_ rfl) rfl
  refine wpAny_Name (wpAny_loadName_local k1 k5 ((hns.keeps kk2).keeps kk3) mfl ?_) hdf
  refine spliced_none ⟨hu, ?_⟩
  refine call_mw (hC := kk3 _ _ (kk2 _ _ (X₁ _ _ hC))) (he := kk3 _ _ (kk2 _ _ hx₁)) hu (by show 1 ≤ sizeLine; rw [sizeLine_eq]; omega) (fun h4 t1 kk4 hx4 => ?_)
  have nx : ∀ {b : Addr} {o : Obj}, h₁.get? b = some o → b ≠ x → h4.get? b = some o := fun {b o} e n => kk4 b o n (kk3 _ _ (kk2 _ _ e))
  have X4 : K.In h4 := fun a o e => nx (X₁ _ _ e) (nk e)
  have hns4 : h4.Ns hp0.objs.size m := hns.at fun o e => nx e hxL
  refine wpAt_of_wpAny (wpAny_execs_cons (plainObj_wpAny_Assign_Attribute (hs := hsw _ rfl) ?_))
  refine wpAny_Name (wpAny_loadName_local k1 k5 hns4 mfl ?_) hdf
  refine wpAny_Name (wpAny_loadName_local k1 k4 hns4 mself ?_) (by decide)
  refine set_plain X4 (ox := excO C t1) (od := none) ⟨hx4, rfl, rfl, trivial⟩ T.sa ?_
  refine exc_osa X4 hx4 hcl (show refsVE (.ref C :: bm) = true from hbm) rfl nf (fun h5 tk5 dx k₅ dn dne hx5 hn5 => ?_)
  show wpAny _ _ (execs _ _) _ _ _
  have z : hp0.objs.size < h₁.objs.size := hns.lt
  have z4 : hp0.objs.size < h4.objs.size := hns4.lt
  exact wpAny_execs_nil (hq h5 tk5 dx t1 (fun b o hb e => k₅ b o hb (nx (hk₁ b o e) hb)) hx5 (Nat.le_of_lt (Nat.lt_of_lt_of_le z4 dn)) dne hn5)
end
end M

/-! ### own errors: raised, made -/
namespace M
open PySem PySem.Spec PyProof.Rows L2 PySem.HandSPX
/-- the run of C's __init__ -/
def IniRun (P : Program) (w : World) (K : PySem.W.Frag) (mg : Str → Option Value) (fl : Str) (C fI : Addr) (fd : FuncData) : Prop :=
  ∀ {A : Around} {R : Result → Shared → Prop} {s : Shared} {args : Args} {x t0 : Addr} {v : Value}, K.In s.heap → s.heap.NoLimit → s.heap.Ns mainGlobals mg → (∃ mb, s.heap.Ns builtinsNs mb ∧ ∀ x : Str, x ≠ "__name__" → mb x = bootBuiltins x) →
    s.heap.get? x = some (excO C t0) → K.lookup x = none → A.depth < recursionLimit → BindsTo s fd args [("self", .ref x), (fl, v)] →
    (∀ h' tk dx t1, (∀ b o, b ≠ x → s.heap.get? b = some o → h'.get? b = some o) → h'.get? x = some { cls := .ref C, dict := some dx, data := .fields #[.ref t1, .none, .none, .none, .bool false, .none] } → s.heap.objs.size ≤ dx → dx ≠ x →
      h'.Ns1 dx (fun y => if y = fl then some v else none) → R (.ok (.ret .none)) { s with heap := h', toks := tk }) → codeAny (model P w) A (.call (.ref fI) args) R s
structure ExcAt (P : Program) (w : World) (K : PySem.W.Frag) (mg : Str → Option Value) (x fl : Str) (C : Addr) : Prop where
  gC : mg x = some (.ref C)
  T : OexC K C
  ga : PySem.W.findIn K (.ref C) "__getattribute__" = some (some (.builtin "BaseException.__getattribute__"))
  gg : PySem.W.findIn K (.ref C) "__getattr__" = some none
  nf : PySem.W.findIn K (.ref C) fl = some none
  hd : PySem.W.hasDictIn K C = true
  init : ∃ (fI : Addr) (fd : FuncData), PySem.W.findIn K (.ref C) "__init__" = some (some (.ref fI)) ∧ PySem.W.typeIn K (.ref fI) = some (.type "function") ∧ IniRun P w K mg fl C fI fd ∧
    (∀ (s : Shared) (u v : Value), K.In s.heap → BindsTo s fd ⟨[u, v], []⟩ [("self", u), (fl, v)]) ∧ (∀ (s : Shared) (u : Value), K.In s.heap → BindsTo s fd ⟨[u], []⟩ [("self", u), (fl, .none)]) ∧
    (∀ (s : Shared) (u v : Value), K.In s.heap → BindsTo s fd ⟨[u], [(fl, v)]⟩ [("self", u), (fl, v)])
theorem relO_one {fl : Str} {v : V} {v' : Value} (r : RelV v v') (f : Str) : RelO (List.lookup f [(fl, v)]) (if f = fl then some v' else none) := relO_put (fs := []) (mA := fun _ => none) r (fun _ => trivial) f
section
variable {X : Cx} {C : Addr} {x fl : Str}
/-- a made one, seen from the caller -/
theorem mk_seen {pins : List (Addr × Obj)} {σ : L2.St} {H1 : Hp} {Q : XK} {hp h' : Heap} {g : Array GenState} {dr : Drawn} {tk tk' : Nat} {os : OsState} {e d t1 : Addr} {v : V} {v' : Value} (T : OexC X.K C) (I1 : Inv X pins σ H1 ⟨hp, g, dr, tk, os⟩)
    (keep : ∀ b o, hp.get? b = some o → h'.get? b = some o) (new : hp.objs.size ≤ e) (hx : h'.get? e = some { cls := .ref C, dict := some d, data := .fields #[.ref t1, .none, .none, .none, .bool false, .none] }) (db : hp.objs.size ≤ d) (dne : d ≠ e)
    (ns : h'.Ns1 d (fun y => if y = fl then some v' else none)) (rv : RelV v v') (q : Q (.ref C) (some d) (upd H1 d (.xd [(fl, v)]))) : MkP X pins σ Q (.ref e) ⟨h', g, dr, tk', os⟩ := by
  obtain ⟨G', g1, g2⟩ := restrict h' fun b => decide (b ≠ e)
  have gk : ∀ b, b ≠ e → G'.get? b = h'.get? b := fun b hb => g1 b (decide_eq_true hb)
  have ge : G'.get? e = none := g2 e (by simp)
  have old : ∀ b o, hp.get? b = some o → G'.get? b = some o := fun b o q => (gk b (Nat.ne_of_lt (Nat.lt_of_lt_of_le (Heap.lt_size q) new))).trans (keep b o q)
  have ob : ObjOk X.prog X.w (upd H1 d (.xd [(fl, v)])) G' d (.xd [(fl, v)]) := ⟨_, ns.at (fun o q => (gk d dne).trans q), fun f => relO_one rv f⟩
  have J : Inv X pins σ (upd H1 d (.xd [(fl, v)])) ⟨G', g, dr, tk', os⟩ := I1.laid (t' := tk') old db ob
  refine ⟨e, _, _, ⟨G', g, dr, tk', os⟩, _, .ref C, some d, rfl, J, fun b o q => ?_, ge, hx, ⟨rfl, rfl⟩, rfl, rfl, ?_, rfl, I1.bare, raises_own T.exC T.tyC, q⟩
  · by_cases hb : b = e
    · have q' : G'.get? b = some o := q
      rw [hb, ge] at q'; cases q'
    · exact (gk b hb).symm.trans q
  · rw [upd_ne (Ne.symm dne)]
    exact I1.hok.fresh new
def mMk (C : Addr) (fl : Str) (ta : TA) : L2.St → Hp → XK → Prop := fun σ H Q => ta σ H fun vs H1 => match vs with
  | [v] => ∀ d, H1 d = none → Q (.ref C) (some d) (upd H1 d (.xd [(fl, v)]))
  | _ => False
theorem vals_one {v : V} {us : List Value} (r : Vals [v] us) : ∃ u, us = [u] ∧ RelV v u := by
  cases r with
  | cons h1 h2 =>
    cases h2
    exact ⟨_, rfl, h1⟩
/-- C(v): the call -/
theorem call_exc {pins : List (Addr × Obj)} {σ : L2.St} {H1 : Hp} {Q : XK} {s1 : Shared} {v : V} {u : Value} {k : Nat} {A : Around} (T : ExcAt X.prog X.w X.K X.mg x fl C) (hr : A.depth + 2 < recursionLimit) (I1 : Inv X pins σ H1 s1) (rv : RelV v u)
    (q : ∀ d, H1 d = none → Q (.ref C) (some d) (upd H1 d (.xd [(fl, v)]))) {E : Value → Shared → Prop} : wpAny (model X.prog X.w) A (call (.ref C) [u]) (MkP X pins σ Q) E s1 := by
  obtain ⟨nm, q', N, bs, bm, sn, sub, ab, col, dd, k0, k1, k2, k3, k5, hC, hbm⟩ := T.T.cls
  obtain ⟨fI, fd, iC, tI, run, b1, _, _⟩ := T.init
  have hlim := I1.nolimit
  have KX := I1.kIn
  have G : s1.heap.Ns mainGlobals X.mg := I1.mod.glob.keeps I1.bk
  obtain ⟨mb, hb1, hb2⟩ := I1.mod.blt
  have B : s1.heap.Ns builtinsNs mb := hb1.keeps I1.bk
  obtain ⟨hp, g, dr, tk, os⟩ := s1
  have kk : ∀ b o, hp.get? b = some o → ((hp.push (PySem.W.kdv_tup [u])).push (excO C hp.objs.size)).get? b = some o := fun b o e => Heap.get?_push_of_some _ (Heap.get?_push_of_some _ e)
  have hget : ((hp.push (PySem.W.kdv_tup [u])).push (excO C hp.objs.size)).get? (hp.objs.size + 1) = some (excO C hp.objs.size) := by heap_get
  have hnx : X.K.lookup (hp.objs.size + 1) = none := by
    cases e : X.K.lookup (hp.objs.size + 1) with
    | none => rfl
    | some o =>
      have z : hp.get? (hp.objs.size + 1) = some o := KX _ _ e
      exact absurd (Nat.lt_of_succ_lt (Heap.lt_size z)) (Nat.lt_irrefl _)
  have KX2 : X.K.In ((hp.push (PySem.W.kdv_tup [u])).push (excO C hp.objs.size)) := KX.keeps kk
  refine wpAny_call (call_own F.excBase_ValueError (fun X => refsVE_contains X bm hbm) (KX _ _ hC) (PySem.W.looks_findIn KX iC) (fun self => PySem.W.bind_fn KX self tI) (by show 1 ≤ sizeLine; rw [sizeLine_eq]; omega) ?_)
  refine run (s := ⟨(hp.push (PySem.W.kdv_tup [u])).push (excO C hp.objs.size), g, dr, tk, os⟩) KX2 (hlim.keeps kk) (G.keeps kk) ⟨mb, B.keeps kk, hb2⟩ hget hnx ?_ (b1 _ _ _ KX2) fun h' tk' dx t1 k' hx dn dne hns => ?_
  · show A.depth + 1 < recursionLimit
    omega
  · have old : ∀ b o, hp.get? b = some o → h'.get? b = some o := fun b o e => k' b o (Nat.ne_of_lt (Nat.lt_succ_of_lt (Heap.lt_size e))) (kk b o e)
    have z : hp.objs.size + 1 + 1 ≤ dx := by
      first
        | (simpa only [Heap.size_push] using dn)
        | exact dn
    have db : hp.objs.size ≤ dx := Nat.le_trans (Nat.le_trans (Nat.le_succ _) (Nat.le_succ _)) z
    exact ⟨rfl, mk_seen T.T I1 old (Nat.le_succ _) hx db dne hns rv (q dx (I1.hok.fresh db))⟩
theorem pmk_exc {es : List Expr} {e : Expr} {ta : TA} {p pos : Pos} {k : Nat} (T : ExcAt X.prog X.w X.K X.mg x fl C) (hr : Room k X.A) (hg : Gl X x) (ha : PA X (e :: es) ta) (hdb : (x == ("__debug__" : Str)) = false := by decide)
    (he : starEach (e :: es) X.env = (false, eval e X.env) :: starEach es X.env := by rfl) (hpl : (backTo pos (starEach es X.env)).any (·.1) = false := by rfl) : PMk X (.Call (.Name x p) (e :: es) [] pos) (mMk C fl ta) := by
  intro pins s σ H Q I h
  refine wpAny_Call_Name_kw (ld_glob I hg T.gC ?_ hdb)
  refine PySem.W.callWith_K (h₀ := X.base) I.ok.mod.kin T.T.kC (thn ((pa_cl ha).run pos pins s σ H (fun vs H1 => ∃ v, vs = [v] ∧ ∀ d, H1 d = none → Q (.ref C) (some d) (upd H1 d (.xd [(fl, v)]))) I ⟨_, h, fun vs H1 z => ?_⟩) fun us s1 ⟨vs, H1, I1, r1, v, ev, q1⟩ => ⟨I1.kIn, ?_⟩) he hpl
  · split at z
    · exact ⟨_, rfl, z⟩
    · exact z.elim
  · subst ev
    obtain ⟨u, rfl, ru⟩ := vals_one r1
    exact call_exc (k := k) T (by have := hr.dp; omega) I1 ru q1
/-- raise C(v) -/
def mRaise (C : Addr) (fl : Str) (ta : TA) (E : XK) : TS := fun _ σ H => mMk C fl ta σ H fun cls d H' => E cls d H'
theorem ms_raise {es : List Expr} {e : Expr} {ta : TA} {p pos pos2 : Pos} {k : Nat} {E : XK} (T : ExcAt X.prog X.w X.K X.mg x fl C) (hr : Room k X.A) (hc : X.calm = true) (tk : Takes X (fun cls d _ H => E cls d H)) (hg : Gl X x) (ha : PA X (e :: es) ta) (hdb : (x == ("__debug__" : Str)) = false := by decide)
    (he : starEach (e :: es) X.env = (false, eval e X.env) :: starEach es X.env := by rfl) (hpl : (backTo pos (starEach es X.env)).any (·.1) = false := by rfl) : PS X (.Raise (some (.Call (.Name x p) (e :: es) [] pos)) none pos2) (mRaise C fl ta E) :=
  ps_raise hc tk (pmk_exc T hr hg ha hdb he hpl)
end
end M

/-! ### a caught error, kept behind the try -/
namespace M
open PySem PySem.Spec PyProof.Rows L2 PySem.HandSPX
/-- at a: an exception of the class cls, its dict d -/
def exk (a : Addr) (cls : Value) (d : Option Addr) : HO := .ext fun h => ∃ (o : Obj) (vs : Array Value), h.get? a = some o ∧ o.cls = cls ∧ o.dict = d ∧ o.data = .fields vs
theorem exk_ok {P : Program} {w : World} {H : Hp} {h : Heap} {a : Addr} {cls : Value} {d : Option Addr} {o : Obj} {vs : Array Value} (e : h.get? a = some o) (hz : Zc cls d o) (hd : o.data = .fields vs) : ObjOk P w H h a (exk a cls d) :=
  ⟨⟨o, vs, e, hz.1, hz.2, hd⟩, ⟨_, e⟩, fun h1 h2 z k => by
    obtain ⟨o, vs, q, r⟩ := z
    exact ⟨o, vs, k _ q, r⟩⟩
theorem exk_at {P : Program} {w : World} {H : Hp} {h : Heap} {a : Addr} {cls : Value} {d : Option Addr} (hok : HOk P w H h) (he : H a = some (exk a cls d)) : ∃ (o : Obj) (vs : Array Value), h.get? a = some o ∧ o.cls = cls ∧ o.dict = d ∧ o.data = .fields vs := by
  have x : ObjOk P w H h a (.ext fun h => ∃ (o : Obj) (vs : Array Value), h.get? a = some o ∧ o.cls = cls ∧ o.dict = d ∧ o.data = .fields vs) := hok a _ he
  exact x.1
section
variable {X : Cx} {pins : List (Addr × Obj)} {σ : L2.St} {H : Hp} {s : Shared}
/-- an object of the heap that was not looked at is looked at from now on -/
theorem Inv_track {a : Addr} {o : Obj} {vs : Array Value} {cls : Value} {d : Option Addr} (I : L2.Inv X pins σ H s) (e : s.heap.get? a = some o) (hz : Zc cls d o) (hd : o.data = .fields vs) (na : H a = none) (n0 : X.s_0.heap.get? a = none) (nL : a ≠ X.env.locals)
    (nP : ∀ p ∈ X.pn ++ pins, p.1 ≠ a) : L2.Inv X pins σ (upd H a (exk a cls d)) s := by
  have n1 : ∀ b o, X.s_0.heap.get? b = some o → b ≠ a := fun b o q z => by rw [z, n0] at q; cases q
  refine ⟨I.ok, I.os, I.bare, ⟨I.base.keep, I.base.slot, fun b o q n hx => ?_, I.base.there, fun b xs q => ?_, fun b o u q => ?_, fun b ps q => ?_⟩, I.loc, I.cell, ?_, fun x c q => ?_, fun p hp => ?_, fun b ob q => ?_, I.len⟩
  · rw [upd_ne (n1 b o q)]; exact I.base.free b o q n hx
  · have z := I.base.tups b xs q
    rw [upd_ne (ne_of_none z na)]; exact z
  · have z := I.base.frzs b o u q
    rw [upd_ne (ne_of_none z na)]; exact z
  · obtain ⟨more, z⟩ := I.base.tbls b ps q
    exact ⟨more, by rw [upd_ne (ne_of_none z na)]; exact z⟩
  · rw [upd_ne (Ne.symm nL)]; exact I.free
  · have : c ≠ a := fun z => by
      obtain ⟨v, hv⟩ := I.cell x c q
      obtain ⟨oc, q1, q2⟩ := hv
      rw [z, e] at q1
      cases q1
      rw [hd] at q2
      cases q2
    rw [upd_ne this]; exact I.freeC x c q
  · obtain ⟨p1, p2, p3⟩ := I.pin p hp
    exact ⟨p1, by rw [upd_ne (nP p hp)]; exact p2, p3⟩
  · by_cases hb : b = a
    · subst hb
      rw [upd_same] at q
      cases q
      exact exk_ok e hz hd
    · rw [upd_ne hb] at q
      exact (I.hok b ob q).stay (fun c v hc z => z) (fun c hc => by rw [upd_ne (ne_of_none hc na)]; exact hc) (fun c xs hc => by rw [upd_ne (ne_of_none hc na)]; exact hc)
/-- what is wished of an exception of the body: it is caught, n = it -/
def wK (K : PySem.W.Frag) (c : Value) (i j : Nat) (D : Ends) : WX := fun cls d σ H => PySem.W.exmOne K cls c = some true ∧ ∀ a, H a = none → D.nx ((σ.set j (some (.ref a))).set i none) (upd H a (exk a cls d))
def mTry (K : PySem.W.Frag) (c : Value) (i j : Nat) (tb : WX → TS) : TS := fun D σ H => tb (wK K c i j D) D σ H
end
end M

namespace M
open PySem PySem.Spec PyProof.Rows L2 PySem.HandSPX
section
variable {X : Cx} {x n y : Str} {c : Value} {i j : Nat} {body : List Stmt} {np pos pos' p1 p2 p3 : Pos} {tb : WX → TS}
theorem ms_try (hs : X.stack = X.env :: X.outer) (hf : X.env.frame = some X.env.locals) (hex : X.ex = []) (hN : X.N.Nodup) (hi : X.N[i]? = some n) (hln : X.env.kindOf n = some .local) (hc : Names X x c)
    (hb : ∀ (W : WX) (pn : List (Addr × Obj)) (xe : Value → Shared → Prop), Takes (X.tr pn xe) W → PassesOwn (model X.prog X.w) X.A X.env xe → PSs (X.tr pn xe) body (tb W))
    (hsu : ∀ (a : Addr) (oe : Obj) (pn : List (Addr × Obj)), (∃ vs, oe.data = .fields vs) → PSs (X.suite a ((a, oe) :: pn)) [.Assign [.Name y p1] (.Name n p2) p3] (tAsg (mVar i) (gName j))) :
    PS X (.Try body [.ExceptHandler (some (.Name x np)) (some n) [.Assign [.Name y p1] (.Name n p2) p3] pos'] [] [] pos) (mTry X.K c i j tb) := by
  refine ⟨fun pins s σ H D I h => ?_⟩
  have ok := I.ok
  have hfr : X.A.frames = some (X.env :: X.outer) := by rw [ok.frames, hs]
  have hloc : Loc X.env.scope n := .inl hln
  refine wpAny_Try_except ?_
  refine wpAny_mono ((hb (wK X.K c i j D) (X.pn ++ pins) (fun e s₁ => wpAny (model X.prog X.w) X.A (noteFrame e X.env) (fun _ s₂ => wpAny (model X.prog X.w) X.A (setFlight e none) (fun _ s₃ =>
    wpAny (model X.prog X.w) X.A (handleBy e X.env [.ExceptHandler (some (.Name x np)) (some n) [.Assign [.Name y p1] (.Name n p2) p3] pos']) (SP X pins D) X.xe s₃) X.xe s₂) X.xe s₁) (fun u s' xx => ?_) PassesOwn.looking).run [] s σ H D (I.toTry _) h) (fun f s1 hsp => ?_) (fun e s1 he => he)
  · obtain ⟨a, B, sI, pins', σ', H', cls, d, rfl, J', nb, up, sky, na, os, ag, hb1, hyes⟩ := xx
    have J : L2.Inv X pins σ' H' sI := J'.ofTry ok
    have sky' : Sky B (X.env :: X.outer) a (Zc cls d) X.env.locals s'.heap := by rw [← hs]; exact sky
    show wpAny (model X.prog X.w) X.A (noteFrame (.ref a) X.env) _ _ _
    refine Sky.land Zc.steady hfr hf sky' fun h3 fl3 up3 => ?_
    have J3 : L2.Inv X pins σ' H' { s' with heap := h3 } := J.landed nb fl3.1 (up.trans up3) os ag
    obtain ⟨oe3, vs3, he3, hz3, hd3⟩ := fl3.there
    have notFr : ∀ {h : Heap} {o : Obj} {vs : Array Value}, h.FunFrames B (X.env :: X.outer) → h.get? a = some o → o.data = .fields vs → a ∉ frs (X.env :: X.outer) := fun {h o vs} ff e dd hm => by
      obtain ⟨_, o', e', hnf⟩ := ff.mem hm
      rw [e] at e'; cases e'
      exact hnf _ dd
    have nfr := notFr fl3.2.2.1 he3 hd3
    have nL : a ≠ X.env.locals := fun z => nfr (List.mem_filterMap.mpr ⟨X.env, List.mem_cons_self, by rw [hf, z]⟩)
    have nF : a ∉ X.fs := fun hm => by
      obtain ⟨e, he, q⟩ := List.mem_filterMap.mp hm
      exact nfr (List.mem_filterMap.mpr ⟨e, List.mem_cons_of_mem _ he, q⟩)
    have nI : sI.heap.get? a = none := by
      cases q : sI.heap.get? a with
      | none => rfl
      | some o =>
        have z := nb a o q (by rw [hs]; exact nfr)
        rw [fl3.2.1] at z
        cases z
    have n0 : X.s_0.heap.get? a = none := by
      cases q : X.s_0.heap.get? a with
      | none => rfl
      | some o =>
        obtain ⟨o', z⟩ := J.base.there a o q (by rw [hex]; simp)
        rw [nI] at z
        cases z
    have nP : ∀ p ∈ X.pn ++ pins, p.1 ≠ a := fun p hp z => by
      have q := (J.pin p hp).1
      rw [z, nI] at q
      cases q
    have S3 := J3.suite he3 hd3 na nL nF
    refine wpAny_handleBy_cons (codeAny_handlers_test ?_) (by intro q; cases q)
    have LT : PySem.W.Looks (model X.prog X.w) h3 (typeOf (.ref a)) cls := fun A Q E s k q => wpAny_typeOf_ref (k _ _ he3) (by rw [hz3.1]; exact q)
    have LM := PySem.W.exm_one (M := model X.prog X.w) (J3.kIn) LT hb1
    have test : ∀ {Q : Value → Shared → Prop} {E : Value → Shared → Prop}, Q c { s' with heap := h3 } → wpAny (model X.prog X.w) (X.A.mark (some (.ref a))) (eval (.Name x np) X.env) Q E { s' with heap := h3 } := fun {Q E} q => by
      obtain ⟨hg, hdbg, hm | ⟨hm, hv, hnn⟩⟩ := hc
      · exact ld_glob (X := X.suite a ((a, oe3) :: (X.pn ++ pins))) S3 hg hm q hdbg
      · exact ld_blt (X := X.suite a ((a, oe3) :: (X.pn ++ pins))) S3 hg hm hv q hnn hdbg
    refine test (LM.here ?_)
    refine codeAny_handlers_suite_as ?_
    refine HandSPX.lands_againZ fl3 fun h4 fl4 up4 => ?_
    have J4 : L2.Inv X pins σ' H' { s' with heap := h4 } := J.landed nb fl4.1 ((up.trans up3).trans up4) os ag
    obtain ⟨oe4, vs4, he4, hz4, hd4⟩ := fl4.there
    have S4 := J4.suite he4 hd4 na nL nF
    refine store_ok (X := X.suite a ((a, oe4) :: (X.pn ++ pins))) (v := .ref a) S4 hN hi hloc rfl (fun s5 S5 => ?_) (.inr hln)
    have il : i < σ'.length := by
      rw [J.len]
      exact (List.getElem?_eq_some_iff.mp hi).1
    have hgt : ∀ (l : Sl) (k : Nat) (v : V), k < l.length → M.gt (l.set k (some v)) k = some v := by
      intro l
      induction l with
      | nil => intro k v hk; exact absurd hk (by simp)
      | cons b r ih =>
        intro k v hk
        cases k with
        | zero => rfl
        | succ k => exact ih k v (by simpa using hk)
    have hread : (tAsg (mVar i) (gName j)) ({ nx := fun σ6 H6 => H6 = H' ∧ σ6 = (σ'.set i (some (.ref a))).set j (some (.ref a)), rt := fun _ _ => False, bk := fun _ _ => False, ct := fun _ _ => False } : Ends) (σ'.set i (some (.ref a))) H' := by
      show (match M.gt (σ'.set i (some (.ref a))) i with | some v => _ | none => False)
      rw [hgt _ _ _ il]
      exact ⟨rfl, rfl⟩
    refine wpAny_mono ((hsu a oe4 (X.pn ++ pins) ⟨_, hd4⟩).run [] s5 _ H' _ S5 hread) (fun f s6 hsp => ?_) (fun _ _ z => False.elim z)
    cases f with
    | next =>
      obtain ⟨σ6, H6, S6, rfl, rfl⟩ := hsp
      have he6 : s6.heap.get? a = some oe4 := (S6.pin (a, oe4) (List.mem_append_left _ List.mem_cons_self)).1
      have T6 := Inv_track (S6.unsuite ok) he6 hz4 hd4 na n0 nL nP
      refine gone_ok T6 hN hi hln fun s7 J7 => ⟨_, _, J7, ?_⟩
      by_cases hij : i = j
      · subst hij
        have z := hyes a na
        rw [List.set_set] at z
        rw [List.set_set, List.set_set]
        exact z
      · have z := hyes a na
        have e : ((σ'.set i (some (V.ref a))).set j (some (V.ref a))).set i none = (σ'.set j (some (V.ref a))).set i none := by
          rw [List.set_comm _ _ hij, List.set_set]
        rw [e]
        exact z
    | brk =>
      obtain ⟨σ6, H6, S6, q6⟩ := hsp
      exact q6.elim
    | cont =>
      obtain ⟨σ6, H6, S6, q6⟩ := hsp
      exact q6.elim
    | ret u =>
      obtain ⟨v6, σ6, H6, S6, r6, q6⟩ := hsp
      exact q6.elim
  · cases f with
    | next =>
      obtain ⟨σ', H', J', q⟩ := hsp
      exact wpAny_execs_nil ⟨σ', H', J'.ofTry ok, q⟩
    | brk =>
      obtain ⟨σ', H', J', q⟩ := hsp
      exact ⟨σ', H', J'.ofTry ok, q⟩
    | cont =>
      obtain ⟨σ', H', J', q⟩ := hsp
      exact ⟨σ', H', J'.ofTry ok, q⟩
    | ret u =>
      obtain ⟨v, σ', H', J', r, q⟩ := hsp
      exact ⟨v, σ', H', J'.ofTry ok, r, q⟩
end
end M

/-! ### defs that show values: no repr is under way above them -/
namespace M
open PySem PySem.Spec PyProof.Rows L2 PySem.HandSPX
structure RoomG (k : Nat) (A : Around) : Prop where
  hd : A.handled = none
  dp : A.depth + k + 20 < recursionLimit
  un : A.units + 8 * k + 300 < cLine
  gd : A.guards = some []
theorem RoomG.mono {j k : Nat} {A : Around} (r : RoomG k A) (h : j ≤ k) : RoomG j A := ⟨r.hd, by have := r.dp; omega, by have := r.un; omega, r.gd⟩
theorem RoomG.deeper {k : Nat} {A : Around} (r : RoomG (k + 1) A) (env : Env) : RoomG k (A.deeper env) := ⟨r.hd, by have := r.dp; show A.depth + 1 + k + 20 < _; omega, by have := r.un; show A.units + 3 + 8 * k + 300 < _; omega, r.gd⟩
theorem RoomG.room {j k : Nat} {A : Around} (r : RoomG k A) (h1 : 3 * j ≤ k + 15) (h2 : 16 * j ≤ 8 * k + 100) : Room j A := ⟨r.hd, by have := r.dp; omega, by have := r.un; omega⟩
theorem RoomG.r0 {k : Nat} {A : Around} (r : RoomG k A) : Room 0 A := r.room (by omega) (by omega)
theorem RoomG.units {k : Nat} {A : Around} (r : RoomG k A) : A.units + 64 < cLine := by have := r.un; omega
theorem RoomG.depth {k : Nat} {A : Around} (r : RoomG k A) : A.depth < recursionLimit := by have := r.dp; omega
structure FnG (P : Program) (w : World) (K : PySem.W.Frag) (mg : Str → Option Value) (base : Heap) (CX : CXT) (k : Nat) (f : Addr) (fd : FuncData) (ps : List Str) (sp : Sp) : Prop where
  len : ∀ vs H Q E, sp vs H Q E → vs.length = ps.length
  run : ∀ (A : Around) (outer : List Env) (s : Shared) (H : Hp) (args : Args) (us : List Value) (vs : List V) (Q : VK) (E : XK), RoomG k A → Env0 P w K mg base A outer s H → BindsTo s fd args (ps.zip us) → Vals vs us → sp vs H Q E →
    codeAny (model P w) A (.call (.ref f) args) (CR CX outer P w H s Q E) s
theorem FnG.of {P : Program} {w : World} {K : PySem.W.Frag} {mg : Str → Option Value} {base : Heap} {CX : CXT} {j k : Nat} {f : Addr} {fd : FuncData} {ps : List Str} {sp : Sp} (F : FnOk P w K mg base CX j f fd ps sp) (h1 : 3 * j ≤ k + 15) (h2 : 16 * j ≤ 8 * k + 100) : FnG P w K mg base CX k f fd ps sp :=
  ⟨F.len, fun A outer s H args us vs Q E hr => F.run A outer s H args us vs Q E (hr.room h1 h2)⟩
theorem FnG.zero {P : Program} {w : World} {K : PySem.W.Frag} {mg : Str → Option Value} {base : Heap} {CX : CXT} {k : Nat} {f : Addr} {fd : FuncData} {ps : List Str} {sp : Sp} (no : ∀ vs H Q E, ¬ sp vs H Q E) : FnG P w K mg base CX k f fd ps sp :=
  ⟨fun vs H Q E h => absurd h (no vs H Q E), fun A outer s H args us vs Q E _ _ _ _ h => absurd h (no vs H Q E)⟩
theorem FnG.mono {P : Program} {w : World} {K : PySem.W.Frag} {mg : Str → Option Value} {base : Heap} {CX : CXT} {j k : Nat} {f : Addr} {fd : FuncData} {ps : List Str} {sp : Sp} (F : FnG P w K mg base CX j f fd ps sp) (h : j ≤ k) : FnG P w K mg base CX k f fd ps sp :=
  ⟨F.len, fun A outer s H args us vs Q E hr => F.run A outer s H args us vs Q E (hr.mono h)⟩
section
variable {P : Program} {w : World} {K : PySem.W.Frag} {mg : Str → Option Value} {base : Heap} {x qual : Str} {params : Arguments} {body : List Stmt} {scope : Scope} {dvs : List V} {kws : List (Str × V)} {f : Addr} {fd : FuncData}
theorem okG {CX : CXT} {N ps : List Str} {k : Nat} {sp : Sp} (F : FunD K x qual params body scope dvs kws f fd) (S : FnScope N ps scope) (len : ∀ vs H Q E, sp vs H Q E → vs.length = ps.length)
    (hbody : ∀ (cdv : Value) (A : Around) (outer : List Env) (s : Shared) (H : Hp) (vs : List V) (Q : VK) (E : XK), RoomG k (A.deeper (envOfC qual scope s.heap.objs.size f cdv)) → sp vs H Q E →
      ∃ t, PSs (cxOf CX P w K mg base N qual scope f cdv A outer s H E) body t ∧ t { nx := fun _ H' => Q .non H', rt := Q } (start N vs) H) : FnG P w K mg base CX (k + 1) f fd ps sp := by
  obtain ⟨oc, od, dV, kV, doc, pm, an, cdv, ct, osl, rfl, lk, hcd, _, _⟩ := F.ex
  refine ⟨len, fun A outer s H args us vs Q E hr e0 hb r hsp => ?_⟩
  have up : ∀ b o, base.get? b = some o → s.heap.get? b = some o := fun b o e => (e0.bs b o e).1
  have KX : K.In s.heap := e0.mod.kin.keeps up
  have par : ∀ y ∈ ps.zip us, scope.names.lookup y.1 = some .local ∨ (scope.names.lookup y.1 = some .cell ∧ ((cellsFrom (s.heap.objs.size + 1) scope.names []).lookup y.1).isSome = true) := by
    rintro ⟨n, v⟩ hy
    exact (S.par n (List.of_mem_zip hy).1).imp id fun q => ⟨q, PySem.W.cellsFrom_some _ _ _ (.inl q)⟩
  refine codeAny_call_function hr.depth (KX _ _ lk) rfl S.co S.gen rfl (PySem.W.codeRec_of KX hcd) (hb _ _ _ _ (wpAny_newFunctionEnv_cells S.kind par fun env he s1 x => ?_))
  subst he
  obtain ⟨t, ht, hq⟩ := hbody cdv A outer s H vs Q E (hr.deeper _) hsp
  refine ⟨(e0.mod.nolimit.keeps up).keeps x.toInCall.keep, codeAny_func (wpAny_mono (ht.run [] s1 (start N vs) H _ (inv_start S hr.hd e0 (len _ _ _ _ hsp) r x) hq) (fun fl s' hs => ?_) fun e s' hs => hs)⟩
  cases fl with
  | ret u =>
    obtain ⟨v, σ', H', J, rv, q⟩ := hs
    exact ⟨v, H', J.os, J.bare, J.base, J.hok, rv, q⟩
  | next =>
    obtain ⟨σ', H', J, q⟩ := hs
    exact ⟨V.non, H', J.os, J.bare, J.base, J.hok, rfl, q⟩
  | brk => exact (hs.elim fun _ z => z.elim fun _ z => z.2).elim
  | cont => exact (hs.elim fun _ z => z.elim fun _ z => z.2).elim
end
structure CalG (P : Program) (w : World) (K : PySem.W.Frag) (mg : Str → Option Value) (base : Heap) (CX : CXT) (x : Str) (k : Nat) (ps : List Str) (dvs : List V) (sp : Sp) : Prop where
  ex : ∃ f fd ds, FnG P w K mg base CX k f fd ps sp ∧ mg x = some (.ref f) ∧ PySem.W.keepIn K (.ref f) = true ∧ Binds K fd ps ds ∧ Vals dvs ds
section
variable {X : Cx} {CX : CXT} {k : Nat} {ps : List Str} {sp : Sp} {dvs : List V} {E : XK} {x : Str} {p pos : Pos} {e : Expr} {es : List Expr} {t : TA}
theorem me_callG (C : CalG X.prog X.w X.K X.mg X.base CX x k ps dvs sp) (hr : RoomG k X.A) (hg : Gl X x) (hx : Passes CX X E) (ha : PA X (e :: es) t) (hdb : (x == ("__debug__" : Str)) = false := by decide)
    (he : starEach (e :: es) X.env = (false, eval e X.env) :: starEach es X.env := by rfl) (hpl : (backTo pos (starEach es X.env)).any (·.1) = false := by rfl) : PE X (.Call (.Name x p) (e :: es) [] pos) (tCall sp dvs E t) := by
  obtain ⟨f, fd, ds, F, hm, hk, hb, hd⟩ := C.ex
  refine ⟨fun pins s σ H Q I h => wpAny_Call_Name_kw (ld_glob I hg hm (PySem.W.callWith_K (h₀ := X.base) I.ok.mod.kin hk (thn (ha.run pos pins s σ H _ I h) fun us s1 ⟨vs, H1, I1, r, q⟩ => ⟨I1.kIn, ?_⟩) he hpl) hdb)⟩
  have r2 : Vals (vs ++ dvs) (us ++ ds) := r.append hd
  refine wpAny_call (codeAny_mono (F.run X.A X.stack s1 H1 ⟨us, []⟩ (us ++ ds) (vs ++ dvs) Q E hr I1.env0 (hb s1 us I1.kIn (r2.length.symm.trans (F.len _ _ _ _ q))) r2 q) fun r s' hq => ?_)
  rcases r with er | fl
  · exact hx pins σ H1 s1 er s' I1 hq
  · cases fl with
    | ret u => exact I1.after hq
    | next => exact False.elim hq
    | brk => exact False.elim hq
    | cont => exact False.elim hq
end
/-! ### repr -/
section
variable {X : Cx}
def fd1 : V → Option PyData
  | .int i => some (.int i)
  | .str z => some (.str z)
  | .bl b => some (.bool b)
  | .non => some .none
  | _ => none
def kd1 : Key → PyData
  | .inl i => .int i
  | .inr x => .str x
def fdKV : List (Key × V) → Option (List (PyData × PyData))
  | [] => some []
  | (k, v) :: r => match fd1 v, fdKV r with
    | some d, some q => some ((kd1 k, d) :: q)
    | _, _ => none
/-- what repr shows of a value -/
inductive Sh (K : PySem.W.Frag) (H : Hp) : V → PyData → Prop
  | dp {v : V} {d : PyData} : Dp K H v d → d.hasDict = false → Sh K H v d
  | dct {a : Addr} {kvs : List (Key × V)} {ds : List (PyData × PyData)} : H a = some (.dK kvs) → fdKV kvs = some ds → Sh K H (.ref a) (.dict ds)
def mRepr (K : PySem.W.Frag) : List V → Hp → VK → Prop := fun xs H Q => match xs with
  | [x] => ∃ d, Sh K H x d ∧ d.showable = true ∧ d.depth ≤ 64 ∧ d.shown.length ≤ sizeLine ∧ Q (.str d.shown) H
  | _ => False
theorem rd1 {h : Heap} {v : V} {u : Value} {d : PyData} (r : RelV v u) (e : fd1 v = some d) : Reads h u d [] := by
  cases v with
  | int i => obtain ⟨t, rfl⟩ := r; cases e; exact .int i t
  | str z => obtain ⟨t, rfl⟩ := r; cases e; exact .str z t
  | bl b => cases r; cases e; exact .bool b
  | non => cases r; cases e; exact .none
  | _ => cases e
theorem rdKV {P : Program} {w : World} {h : Heap} : ∀ {kvs : List (Key × V)} {vs : List (Key × Value)} {es : List DictEntry} {ds : List (PyData × PyData)}, KV kvs vs → Pairs (mixKind P w) es vs → fdKV kvs = some ds →
    ReadsAll h (es.map (·.key)) (ds.map (·.1)) [] ∧ ReadsAll h (es.map (·.val)) (ds.map (·.2)) []
  | _, _, _, _, .nil, .nil, e => by cases e; exact ⟨.nil, .nil⟩
  | (k, v) :: r, (k', u) :: r', en :: es, ds, .cons hk hr, .cons h1 h2 h3, e => by
    obtain ⟨e1, e2⟩ := hk
    unfold fdKV at e
    split at e
    · rename_i d q ed eq
      cases e
      obtain ⟨a1, a2⟩ := rdKV (h := h) hr h3 eq
      refine ⟨?_, ?_⟩
      · refine ReadsAll.cons (as := []) (bs := []) ?_ a1
        show Reads h en.key (kd1 k) []
        have e1' : k = k' := e1
        subst e1'
        rcases keyIs_shape (show keyIs _ en.key = true from h1) with ⟨i, t, z1, z2⟩ | ⟨x, t, z1, z2⟩
        · have z1' : k = .inl i := z1
          rw [z2, z1']; exact .int i t
        · have z1' : k = .inr x := z1
          rw [z2, z1']; exact .str x t
      · refine ReadsAll.cons (as := []) (bs := []) ?_ a2
        show Reads h en.val d []
        rw [h2]
        exact rd1 e2 ed
    · cases e
theorem call_reprM {k : Nat} (hr : RoomG k X.A) : CallR X (.builtin "repr") (mRepr X.K) := by
  intro pins s σ H xs us Q I r h
  unfold mRepr at h
  split at h
  · rename_i x
    obtain ⟨d, hs, h1, h2, h3, q⟩ := h
    obtain ⟨u, rfl, ru⟩ := vals_one r
    have hun := hr.un
    have fin : ∀ (a : Addr) (as : List Addr), Reads s.heap (.ref a) d as → (d.hasDict = true → sysModules ∉ as) → wpAny (model X.prog X.w) X.A (call (.builtin "repr") [.ref a]) (EP X pins σ Q) X.xe s := fun a as rd hsm =>
      repr_of_reads' rd h1 hsm hr.gd (by omega) (fun _ _ e => e) (fun h' u tk k => ⟨.str d.shown, H, I.kept (t' := tk) k, ⟨u, rfl⟩, q⟩) h3
    cases hs with
    | dp hd hn =>
      obtain ⟨as, rd⟩ := Dp.reads I d x u hd ru
      have hsm : d.hasDict = true → sysModules ∉ as := PyData.noDict_hsm hn
      cases rd with
      | none => exact PySem.P.repr_of_none ⟨.str "None", H, I.tok _, ⟨_, rfl⟩, by simpa only [PyData.shown] using q⟩
      | bool b => exact PySem.P.repr_of_bool ⟨.str (if b then "True" else "False"), H, I.tok _, ⟨_, rfl⟩, by simpa only [PyData.shown] using q⟩
      | int i t => exact PySem.P.repr_of_int (by simpa [PyData.showable] using h1) ⟨.str (toString i), H, I.tok _, ⟨_, rfl⟩, by simpa only [PyData.shown] using q⟩
      | str z t => exact PySem.P.repr_of_str ⟨.str (reprText z), H, I.tok _, ⟨_, rfl⟩, by simpa only [PyData.shown] using q⟩ (by simpa only [PyData.shown] using h3)
      | list e1 e2 e3 e4 => exact fin _ _ (.list e1 e2 e3 e4) hsm
      | tuple e1 e2 e3 e4 => exact fin _ _ (.tuple e1 e2 e3 e4) hsm
      | dict e1 e2 e3 e4 e5 => exact fin _ _ (.dict e1 e2 e3 e4 e5) hsm
    | @dct a kvs ds ha hf =>
      cases ru
      obtain ⟨_, hns, vs, hkv, o, es, ep, e1, e2, e3, e4, e5, e6⟩ := dk_of I.hok ha
      obtain ⟨r1, r2⟩ := rdKV (h := s.heap) hkv e5 hf
      refine fin a ([a] ++ [] ++ []) (.dict e1 e2.1 e3 r1 r2) fun _ hm => ?_
      have z : sysModules = a := by simpa using hm
      rw [z] at hns
      simp at hns
  · exact h.elim
end
/-! ### a kept error's field, its class -/
structure ExcK (K : PySem.W.Frag) (fl : Str) (C : Addr) : Prop where
  ga : PySem.W.findIn K (.ref C) "__getattribute__" = some (some (.builtin "BaseException.__getattribute__"))
  gg : PySem.W.findIn K (.ref C) "__getattr__" = some none
  nf : PySem.W.findIn K (.ref C) fl = some none
  hd : PySem.W.hasDictIn K C = true
  exC : PySem.W.subIn K (.ref C) (.type "BaseException") = some true
  ha : PySem.W.findIn K (.ref C) "__class__" = some (some (.builtin "object.__class__"))
  hn : PySem.W.specialIn K (.builtin "object.__class__") "__get__" = some (some (.builtin "getset_descriptor.__get__"))
  ht : PySem.W.takesIn K (.builtin "object.__class__") = some true
  hm : PySem.W.mroIn K C (.type "object") = some true
def mFld (K : PySem.W.Frag) (fl : Str) (te : TE) : TE := fun σ H Q => te σ H fun x H1 => match x with
  | .ref a => ∃ (C d : Addr) (v : V), ExcK K fl C ∧ H1 a = some (exk a (.ref C) (some d)) ∧ H1 d = some (.xd [(fl, v)]) ∧ Q v H1
  | _ => False
section
variable {X : Cx}
theorem inst_of {pins : List (Addr × Obj)} {σ : L2.St} {H : Hp} {s : Shared} {a C d : Addr} {fs : List (Str × V)} (I : L2.Inv X pins σ H s) (h1 : H a = some (exk a (.ref C) (some d))) (h2 : H d = some (.xd fs)) :
    ∃ (o od : Obj) (mA : Str → Option Value), PySem.W.InstAt s.heap a o C (some od) ∧ s.heap.Ns1 d mA ∧ (∀ f, RelO (fs.lookup f) (mA f)) ∧ s.heap.get? d = some od := by
  obtain ⟨o, vs, e1, e2, e3, e4⟩ := exk_at I.hok h1
  have hx : ObjOk X.prog X.w H s.heap d (.xd fs) := I.hok d _ h2
  obtain ⟨mA, hns, hr⟩ := hx
  obtain ⟨od, ho, hl⟩ := lookIn_ns hns
  exact ⟨o, od, mA, ⟨e1, e2, by unfold PySem.W.notCls; rw [e4] <;> rfl, by rw [e3]; exact ho⟩, hns, hr, ho⟩
theorem me_fld {e : Expr} {te : TE} {fl : Str} {pos : Pos} (he : PE X e te) (hb : attributeBase e fl X.env (eval e X.env) = eval e X.env := by rfl) : PE X (.Attribute e fl pos) (mFld X.K fl te) := by
  refine ⟨fun pins s σ H Q I h => attr_of hb (thn ((pe_cl he).run pins s σ H (fun x H1 => ∃ (a C d : Addr) (v : V), x = .ref a ∧ ExcK X.K fl C ∧ H1 a = some (exk a (.ref C) (some d)) ∧ H1 d = some (.xd [(fl, v)]) ∧ Q v H1) I ⟨_, h, fun x H1 z => ?_⟩) fun u s1 hh => ?_)⟩
  · cases x with
    | ref a => obtain ⟨C, d, v, z⟩ := z; exact ⟨a, C, d, v, rfl, z⟩
    | _ => exact z.elim
  · obtain ⟨_, H1, I1, rx, a, C, d, v, rfl, T, h1, h2, q⟩ := hh
    cases rx
    obtain ⟨o, od, mA, J, hns, hr, ho⟩ := inst_of I1 h1 h2
    obtain ⟨od', ho', hl⟩ := lookIn_ns hns
    rw [ho] at ho'
    cases ho'
    have l : List.lookup fl [(fl, v)] = some v := by simp [List.lookup]
    obtain ⟨u, hu, ru⟩ := RelO.some_of (v := v) (o := mA fl) (by rw [← l]; exact hr fl)
    exact HandSPX.exc_get I1.kIn J T.ga T.gg T.exC (PySem.W.findObj_own T.hd T.nf rfl (by rw [hl, hu])) (handed_of ru) ⟨v, H1, I1.tok _, ru, q⟩
/-- isinstance(x, C'), x None or a kept error -/
def mIsiE (K : PySem.W.Frag) : List V → Hp → VK → Prop := fun xs H Q => match xs with
  | [.ref a, .ref C'] => ∃ (C d : Addr) (fl : Str) (fs : List (Str × V)) (b : Bool), ExcK K fl C ∧ H a = some (exk a (.ref C) (some d)) ∧ H d = some (.xd fs) ∧ PySem.W.kitOne K (.ref C) (.ref C') = some b ∧ Q (.bl b) H
  | _ => mIsi K xs H Q
theorem call_isiE : CallR X (.builtin "isinstance") (mIsiE X.K) := by
  intro pins s σ H xs us Q I r h
  unfold mIsiE at h
  split at h
  · rename_i a C'
    obtain ⟨C, d, fl, fs, b, T, h1, h2, hk, q⟩ := h
    cases r with
    | cons rx rr => cases rr with
      | cons rt rr =>
        cases rr; cases rx; cases rt
        obtain ⟨o, od, mA, J, _⟩ := inst_of I h1 h2
        obtain ⟨cd, hcd, _⟩ := PySem.W.any_some T.hd
        exact PySem.W.kia_one (PySem.W.kitx_exc (by rw [hcd]; rfl) T.ga T.gg T.exC T.ha T.hn T.ht T.hm) I.kIn J hk (fun z => nomatch z) fun tk => ⟨.bl b, H, I.kept (t' := tk) fun _ _ z => z, rfl, q⟩
  · exact call_isiM pins s σ H xs us Q I r h
end
end M

/-! ### the law's end for such defs -/
namespace M
open PySem PySem.Spec PyProof.Rows L2
section
variable {P : Program} {w : World} {K : PySem.W.Frag} {mg mb : Str → Option Value} {CX : CXT} {k : Nat} {fa a : Addr} {fd : FuncData} {x : Str} {sp : Sp} {s₁ : Shared} {vs : List Value} {ns : List Int}
/-- all but what H tracks is the ground -/
theorem ground_of {H : Hp} (KX : K.In s₁.heap) (hns : s₁.heap.Ns mainGlobals mg) (hb : s₁.heap.Ns builtinsNs mb) (hbb : ∀ x : Str, x ≠ "__name__" → mb x = bootBuiltins x) (hlim : s₁.heap.NoLimit) (hg : s₁.gens = #[])
    (hok : HOk P w H s₁.heap) (noD : ∀ b o es ep, s₁.heap.get? b = some o → o.data = .dict es ep → H b = none) (noK : ∀ b o, K.lookup b = some o → H b = none) :
    K.In (hidT s₁.heap H) ∧ (hidT s₁.heap H).Ns mainGlobals mg ∧ Env0 P w K mg (hidT s₁.heap H) callerA [] s₁ H := by
  have names : ∀ {b : Addr} {m : Str → Option Value}, s₁.heap.Ns b m → (hidT s₁.heap H).Ns b m := by
    rintro b m ⟨o, es, ep, e, d, r⟩
    exact ⟨o, es, ep, hidT_get e (noD b o es ep e d), d, r⟩
  have kin : K.In (hidT s₁.heap H) := fun b o e => hidT_get (KX b o e) (noK b o e)
  obtain ⟨mc, l1, l2⟩ := hlim
  refine ⟨kin, names hns, rfl, ⟨kin, names hns, ⟨mb, names hb, hbb⟩, mc, names l1, l2⟩, fun b o e => of_hidT e, Nat.le_of_eq (hidT_size _ _), trivial, fun b z => ?_, hok, .of_eq hg⟩
  cases z
theorem law_runG {H : Hp} (F : FnG P w K mg (hidT s₁.heap H) CX k fa fd [x] sp) (hr : RoomG k callerA) (e0 : Env0 P w K mg (hidT s₁.heap H) callerA [] s₁ H) (hbind : ∀ (s : Shared) (u : Value), BindsTo s fd ⟨[u], []⟩ [(x, u)]) (hO : Only H)
    (hsp : sp [.ref a] H (fun v _ => v = .bl true) fun _ _ _ => False) (hCX : ∀ H e s', CX [] H s₁ (fun _ _ _ => False) e s' → False) :
    codeAny (model P w) callerA (.call (.ref fa) ⟨[.ref a], []⟩) (fun r s' => r = .ok (.ret (.bool true)) ∧ OldK s₁.heap s'.heap ∧ s'.os = s₁.os ∧ AllBare s'.gens) s₁ := by
  refine codeAny_mono (F.run callerA [] s₁ H ⟨[.ref a], []⟩ [.ref a] [.ref a] _ _ hr e0 (hbind s₁ (.ref a)) (.cons rfl .nil) hsp) fun r s' h => ?_
  rcases r with e | fl
  · exact (hCX H e s' h).elim
  rcases fl with _ | _ | _ | u
  all_goals first | exact False.elim h | skip
  obtain ⟨v, H', os, bare, un, hok', rv, q⟩ := h
  cases (show v = .bl true from q)
  cases (show u = Value.bool true from rv)
  refine ⟨rfl, OldK.of_keep fun b o e => ?_, os, bare⟩
  rcases hO b with z | ⟨ob, xs, z⟩
  · exact un.keep b o e z (fun y => by cases y) (fun y => by cases y)
  · have e1 := (e0.hok b _ z).1
    have e2 := (hok' b _ (un.frzs b ob _ z)).1
    rw [e] at e1
    cases e1
    exact e2
theorem law_callG (KX : K.In s₁.heap) (hns : s₁.heap.Ns mainGlobals mg) (hb : s₁.heap.Ns builtinsNs mb) (hbb : ∀ x : Str, x ≠ "__name__" → mb x = bootBuiltins x) (hlim : s₁.heap.NoLimit) (hg : s₁.gens = #[])
    (ha : s₁.heap.get? a = some { cls := .type "list", data := .seq vs.toArray }) (hi : IntsAre vs ns) (hl : ns.length ≤ sizeLine) (hr : RoomG k callerA)
    (F : ∀ base : Heap, K.In base → base.Ns mainGlobals mg → FnG P w K mg base CX k fa fd [x] sp) (hbind : ∀ (s : Shared) (u : Value), BindsTo s fd ⟨[u], []⟩ [(x, u)])
    (hsp : ∀ H : Hp, Only H → SqL K H a (ns.map V.int) → sp [.ref a] H (fun v _ => v = .bl true) fun _ _ _ => False)
    (hCX : ∀ H e s', CX [] H s₁ (fun _ _ _ => False) e s' → False) :
    codeAny (model P w) callerA (.call (.ref fa) ⟨[.ref a], []⟩) (fun r s' => r = .ok (.ret (.bool true)) ∧ OldK s₁.heap s'.heap ∧ s'.os = s₁.os ∧ AllBare s'.gens) s₁ := by
  have go : ∀ H : Hp, Only H → SqL K H a (ns.map V.int) → HOk P w H s₁.heap → (∀ b, b ≠ a → H b = none) → (∀ o, K.lookup a = some o → H a = none) →
      codeAny (model P w) callerA (.call (.ref fa) ⟨[.ref a], []⟩) (fun r s' => r = .ok (.ret (.bool true)) ∧ OldK s₁.heap s'.heap ∧ s'.os = s₁.os ∧ AllBare s'.gens) s₁ := by
    intro H hO hS hok oth own
    obtain ⟨kin, nm, e0⟩ := ground_of KX hns hb hbb hlim hg hok (fun b o es ep e d => oth b fun z => by rw [z, ha] at e; cases e; cases d) fun b o e => by
      by_cases z : b = a
      · subst z; exact own o e
      · exact oth b z
    exact law_runG (F _ kin nm) hr e0 hbind hO (hsp H hO hS) hCX
  have rv := vals_ints hi
  cases hk : K.lookup a with
  | some o =>
    have e := KX a o hk
    rw [ha] at e
    cases e
    exact go (fun _ => none) (fun _ => .inl rfl) (.inr ⟨_, vs.toArray, _, hk, rfl, rfl, rfl, by rw [List.size_toArray, hi.length]; exact hl, by simpa using rv⟩) (fun b u z => nomatch (show (none : Option HO) = some u from z)) (fun _ _ => rfl) fun _ _ => rfl
  | none =>
    refine go (upd (fun _ => none) a (.frz { cls := .type "list", data := .seq vs.toArray } (.lst (ns.map V.int)))) (fun b => ?_) (.inl (.inr ⟨_, upd_same⟩)) (fun b u z => ?_) (fun b h => upd_ne h) fun o z => by rw [hk] at z; cases z
    · by_cases h : b = a
      · subst h; exact .inr ⟨_, _, upd_same⟩
      · exact .inl (upd_ne h)
    · by_cases h : b = a
      · subst h
        rw [upd_same] at z
        cases z
        exact ⟨ha, by rw [List.length_map]; exact hl, vs, _, rv, ha⟩
      · rw [upd_ne h] at z
        cases z
end
theorem walk_ofG {l : PySem.W.OpenLaw} {n k : Nat} {q : Program} {loose : List Str} {XP : (Str → Option Value) → Heap → Prop} {YP : World → Heap → Prop} {d : DefRec} {CX : CXT} {x : Str}
    (hn : l.most = some n) (hn2 : n ≤ sizeLine) (hdf : d.params.defaults = []) (hr : RoomG k callerA)
    (F : ∀ (w : World) (mg : Str → Option Value) (fa : Addr) (h : Heap), YP w h → h.Ns mainGlobals mg → mg d.name = some (.ref fa) →
      ∃ (K : PySem.W.Frag) (fd : FuncData) (sp : Sp), K.In h ∧ (∀ (s : Shared) (u : Value), BindsTo s fd ⟨[u], []⟩ [(x, u)]) ∧
        (∀ (H : Hp) (a : Addr) (ns : List Int), ns.length ≤ n → Only H → SqL K H a (ns.map V.int) → sp [.ref a] H (fun v _ => v = .bl true) fun _ _ _ => False) ∧
        ∀ base : Heap, K.In base → base.Ns mainGlobals mg → FnG l.prog w K mg base CX k fa fd [x] sp)
    (hCX : ∀ (H : Hp) (s : Shared) (e : Value) (s' : Shared), CX [] H s (fun _ _ _ => False) e s' → False) :
    PySem.W.WalkO q loose XP YP l.row.toRowW d [] (fun f vs => PySem.call f vs) := by
  refine Att.attach_call hn hdf fun w s₀ s₁ mg mb fa o pm cd doc a vs ns G Y ho hd hcd hmg hobj hints hlen hg => ?_
  obtain ⟨K, fd, sp, KX, hb, hsp, hF⟩ := F w mg fa _ Y G.T.g hmg
  exact law_callG KX G.T.g G.T.b G.T.builtins G.T.nolimit hg hobj hints (Nat.le_trans hlen hn2) hr hF hb (fun H hO hS => hsp H a ns hlen hO hS) fun H e s' => hCX H s₁ e s'
end M

/-! ### the head's facts, own errors among them -/
namespace M
open PySem PySem.Spec PyProof.Rows L2
/-- a def, its closure's names told -/
structure DefX where
  at_ : Str × Option Str
  name : Str
  qual : Str
  params : Arguments
  body : List Stmt
  scope : Scope
  dfl : List He.Dv := []
  kwd : List (Str × He.Dv) := []
  clos : List Str := []
  via : Nat := 0
/-- a property's getter (1), a classmethod's def (2) -/
def viaA (K : PySem.W.Frag) : Nat → Addr → Addr
  | 0, a => a
  | 1, a => (match PySem.W.recIn K a "property" with
    | some (.ref g :: _) => g
    | _ => 0)
  | _, a => (match PySem.W.recIn K a "classmethod" with
    | some (.ref g :: _) => g
    | _ => 0)
def DefX.ad (K : PySem.W.Frag) (d : DefX) : Addr := viaA K d.via (He.fAd K d.at_)
abbrev FnX : Type := Option (Str × Str × Arguments × FuncBody × Scope × Addr × List Str × Addr)
def fnX (K : PySem.W.Frag) (p : Addr) : FnX := match K.lookup p with
  | some ⟨_, _, .func fd, _⟩ => some (fd.name, fd.qualname, fd.params, fd.body, fd.scope, fd.globals, fd.closure.map (·.1), fd.builtins)
  | _ => none
def DefX.val (d : DefX) : FnX := some (d.name, d.qual, d.params, .stmts d.body, d.scope, mainGlobals, d.clos, builtinsNs)
def DefX.dvs (K : PySem.W.Frag) (d : DefX) : List V := d.dfl.map (He.Dv.v K)
def DefX.kws (K : PySem.W.Frag) (d : DefX) : List (Str × V) := d.kwd.map fun q => (q.1, q.2.v K)
def DefX.ok (K : PySem.W.Frag) (d : DefX) : Bool := PySem.W.keepIn K (.ref (d.ad K)) && (match K.lookup (d.ad K) with
  | some ⟨_, _, .func fd, _⟩ => PySem.W.codeIn K fd.code d.qual && (He.dflB K fd.defaults (d.dvs K) && He.kwdB K fd.kwdefaults (d.kws K))
  | _ => false)
theorem DefX.look {K : PySem.W.Frag} {d : DefX} (e : fnX K (d.ad K) = d.val) (c : d.ok K = true) : PySem.W.keepIn K (.ref (d.ad K)) = true ∧ ∃ (oc : Value) (od : Option Addr) (cl : List (Str × Addr)) (dV kV doc pm : Value) (an : Option Addr) (cdv ct : Value) (osl : Array (Option Value)),
    K.lookup (d.ad K) = some ⟨oc, od, .func (PySem.W.fnX d.name d.qual d.params d.body d.scope cl dV kV doc pm an cdv ct), osl⟩ ∧ cl.map (·.1) = d.clos ∧ PySem.W.codeIn K cdv d.qual = true ∧ DflV K dV (d.dvs K) ∧ KwdV K kV (d.kws K) := by
  obtain ⟨kp, c2⟩ := He.ba c
  refine ⟨kp, ?_⟩
  unfold M.fnX at e
  cases q : K.lookup (d.ad K) with
  | none =>
    rw [q] at c2
    cases c2
  | some o =>
    obtain ⟨oc, od, dt, osl⟩ := o
    rw [q] at c2 e
    cases dt with
    | func fd =>
      obtain ⟨n1, n2, n3, n4, n5, n6, n7, n8, n9, n10, n11, n12, n13, n14, n15⟩ := fd
      have e2 : (some (n1, n2, n3, n4, n5, n6, n7.map (·.1), n15) : FnX) = some (d.name, d.qual, d.params, .stmts d.body, d.scope, mainGlobals, d.clos, builtinsNs) := e
      simp only [Option.some.injEq, Prod.mk.injEq] at e2
      obtain ⟨h1, h2, h3, h4, h5, h6, h7, h8⟩ := e2
      subst h1 h2 h3 h4 h5 h6 h8
      obtain ⟨k1, k2⟩ := He.ba (show (PySem.W.codeIn K n13 d.qual && (He.dflB K n8 (d.dvs K) && He.kwdB K n9 (d.kws K))) = true from c2)
      obtain ⟨k3, k4⟩ := He.ba k2
      exact ⟨oc, od, n7, n8, n9, n10, n11, n12, n13, n14, osl, rfl, h7, k1, He.dflB_ok k3, He.kwdB_ok k4⟩
    | _ => cases c2
theorem DefX.funD {K : PySem.W.Frag} {d : DefX} (e : fnX K (d.ad K) = d.val) (c : d.ok K = true) (h : d.clos = []) : ∃ fd, FunD K d.name d.qual d.params d.body d.scope (d.dvs K) (d.kws K) (d.ad K) fd := by
  obtain ⟨kp, oc, od, cl, dV, kV, doc, pm, an, cdv, ct, osl, lk, hc, h1, h2, h3⟩ := DefX.look e c
  rw [h] at hc
  obtain rfl : cl = [] := List.map_eq_nil_iff.mp hc
  exact ⟨_, ⟨oc, od, dV, kV, doc, pm, an, cdv, ct, osl, rfl, lk, h1, h2, h3⟩, kp⟩
abbrev FaX : Type := PySem.W.Frag → Bool
def asX (g : Addr → Option Obj) : Nat → List Addr
  | 0 => [mainGlobals, cStatics]
  | n + 1 => He.growD g (asX g n)
abbrev AlX : Type := Bool × List FnX
def obsX (fa : List FaX) (fn : List DefX) (K : PySem.W.Frag) : AlX := ((fa.all fun f => f K) && fn.all fun d => d.ok K, fn.map fun d => fnX K (d.ad K))
def valX (fn : List DefX) : AlX := (true, fn.map DefX.val)
def SaysX (fa : List FaX) (fn : List DefX) (K : PySem.W.Frag) : Prop := obsX fa fn K = valX fn
def obsXG (n : Nat) (fa : List FaX) (fn : List DefX) (g : Addr → Option Obj) : AlX := obsX fa fn (He.frG g (asX g n))
def hookX (n : Nat) (fa : List FaX) (fn : List DefX) : PySem.W.Hook where
  α := AlX
  obs := fun s => obsXG n fa fn s.heap.get?
  val := fun _ => valX fn
  says := fun _ h => ∃ K : PySem.W.Frag, K.In h ∧ SaysX fa fn K
  of := fun _ _ e => ⟨_, He.frG_in, e⟩
  keeps := fun _ _ _ ⟨K, hK, c⟩ k => ⟨K, PySem.W.Frag.In.keeps hK k, c⟩
theorem obsXG_eq {n : Nat} {fa : List FaX} {fn : List DefX} {g : Addr → Option Obj} {s : Shared} (h : ∀ a, g a = s.heap.get? a) : obsXG n fa fn g = (hookX n fa fn).obs s := by
  have e : g = s.heap.get? := funext h
  rw [e] <;> rfl
section
variable {fa : List FaX} {fn : List DefX} {K : PySem.W.Frag}
theorem SaysX.fact (c : SaysX fa fn K) (i : Nat) {f : FaX} (h : fa[i]? = some f := by rfl) : f K = true := by
  have c1 := (He.ba (show ((fa.all fun f => f K) && fn.all fun d => d.ok K) = true from congrArg (fun z : AlX => z.1) c)).1
  exact List.all_eq_true.mp c1 f (List.mem_of_getElem? h)
theorem SaysX.def0 (c : SaysX fa fn K) (i : Nat) {d : DefX} (h : fn[i]? = some d := by rfl) : fnX K (d.ad K) = d.val ∧ d.ok K = true := by
  have c2 := (He.ba (show ((fa.all fun f => f K) && fn.all fun d => d.ok K) = true from congrArg (fun z : AlX => z.1) c)).2
  have e : fn.map (fun d => fnX K (d.ad K)) = fn.map DefX.val := congrArg (fun z : AlX => z.2) c
  have e2 : (fn.map fun d => fnX K (d.ad K))[i]? = (fn.map DefX.val)[i]? := by rw [e]
  rw [List.getElem?_map, List.getElem?_map, h] at e2
  exact ⟨Option.some.inj e2, List.all_eq_true.mp c2 d (List.mem_of_getElem? h)⟩
theorem SaysX.def_ (c : SaysX fa fn K) (i : Nat) {d : DefX} (h : fn[i]? = some d := by rfl) (hc : d.clos = [] := by rfl) : ∃ fd, FunD K d.name d.qual d.params d.body d.scope (d.dvs K) (d.kws K) (d.ad K) fd :=
  DefX.funD (c.def0 i h).1 (c.def0 i h).2 hc
end
end M

namespace M
open PySem PySem.Spec PyProof.Rows L2 PySem.HandSPX
/-- the class at C is an own error class -/
def oexB (K : PySem.W.Frag) (C : Addr) : Bool := match K.lookup C with
  | some ⟨c, _, .cls cd, sl⟩ => decide (c = .type "type") && (cd.hasDict && (!cd.hasDel && (match cd.mro, sl.toList with
    | .ref C' :: bm, [_, _, _, _, some (.builtin n), _] => decide (C' = C) && (decide (n = "ValueError.__new__") && refsVE bm)
    | _, _ => false)))
  | _ => false
theorem oexB_ok {K : PySem.W.Frag} {C : Addr} (h : oexB K C = true) : ∃ nm q N bs bm sn sub ab col dd k0 k1 k2 k3 k5, K.lookup C = some (excClassObj nm q C N bs bm true sn sub ab col dd k0 k1 k2 k3 k5 "ValueError.__new__") ∧ refsVE bm = true := by
  unfold oexB at h
  split at h
  · rename_i c dd cd sl ho
    obtain ⟨h1, h⟩ := He.ba h
    obtain ⟨h2, h⟩ := He.ba h
    obtain ⟨h3, h⟩ := He.ba h
    split at h
    · rename_i C' bm k0 k1 k2 k3 n k5 hm hs
      obtain ⟨h4, h⟩ := He.ba h
      obtain ⟨h5, h6⟩ := He.ba h
      obtain ⟨nm, bs, mro, N, qn, hd, sn, sub, ab, col, del⟩ := cd
      obtain ⟨sl⟩ := sl
      have e3 : del = false := by simpa using h3
      have e2 : hd = true := h2
      have e1 := of_decide_eq_true h1
      have e4 := of_decide_eq_true h4
      have e5 := of_decide_eq_true h5
      dsimp only at hm hs
      subst e1 e2 e3 e4 e5 hm hs
      exact ⟨nm, qn, N, bs, bm, sn, sub, ab, col, dd, k0, k1, k2, k3, k5, ho, h6⟩
    · cases h
  · cases h
def cellB (P : Program) (K : PySem.W.Frag) (C : Addr) (f : Addr) : Bool := match K.lookup f with
  | some ⟨_, _, .func fd, _⟩ => (match fd.code with
    | .ref cda => (match K.lookup cda with
      | some ⟨_, _, .fields vs, _⟩ => (match (vs[2]? : Option Value) with
        | some (.str file _) => (P.main.file : Str) == file
        | _ => false)
      | _ => false)
    | _ => false) && (match fd.closure with
      | [(_, cc)] => (match K.lookup cc with
        | some ⟨_, _, .cell (some (.ref D)), _⟩ => decide (D = C)
        | _ => false)
      | _ => false)
  | _ => false
def exB (P : Program) (x fl : Str) (K : PySem.W.Frag) : Bool :=
  He.eqO (PySem.W.nsIn K mainGlobals x) (some (some (.ref (He.ga K x)))) && (oexB K (He.ga K x) && (He.eqO (PySem.W.findIn K (.ref (He.ga K x)) "__setattr__") (some (some (.builtin "object.__setattr__"))) &&
  (decide (PySem.W.subIn K (.ref (He.ga K x)) (.type "BaseException") = some true) && (decide (PySem.W.typeIn K (.ref (He.ga K x)) = some (.type "type")) && (PySem.W.keepIn K (.ref (He.ga K x)) &&
  (He.eqO (PySem.W.findIn K (.ref (He.ga K x)) "__getattribute__") (some (some (.builtin "BaseException.__getattribute__"))) && (He.eqO (PySem.W.findIn K (.ref (He.ga K x)) "__getattr__") (some none) && (He.eqO (PySem.W.findIn K (.ref (He.ga K x)) fl) (some none) &&
  (PySem.W.hasDictIn K (He.ga K x) && (He.eqO (PySem.W.findIn K (.ref (He.ga K x)) "__init__") (some (some (.ref (He.ma K (He.ga K x) "__init__")))) && (decide (PySem.W.typeIn K (.ref (He.ma K (He.ga K x) "__init__")) = some (.type "function")) &&
  (cellB P K (He.ga K x) (He.ma K (He.ga K x) "__init__") && (He.eqO (PySem.W.nsIn K cStatics "thirdparty.any") (some none) && (He.eqO (PySem.W.ks_superIn K (He.ga K x) (He.ga K x) "__init__") (some (some (.builtin "ValueError.__init__"))) &&
  (decide (PySem.W.mroIn K (He.ga K x) (.ref (He.ga K x)) = some true) && (decide (PySem.W.subIn K (.ref (He.ga K x)) (.type "ValueError") = some true) && (He.eqO (PySem.W.findIn K (.ref (He.ga K x)) "__class__") (some (some (.builtin "object.__class__"))) &&
  (He.eqO (PySem.W.nsIn K mainGlobals "super") (some none) && decide (PySem.W.mroIn K (He.ga K x) (.type "object") = some true)))))))))))))))))))
theorem ex_get {K : PySem.W.Frag} : PySem.W.specialIn K (.builtin "object.__class__") "__get__" = some (some (.builtin "getset_descriptor.__get__")) ∧ PySem.W.takesIn K (.builtin "object.__class__") = some true := by
  constructor
  · kernel_rfl
  · kernel_rfl
section
variable {P : Program} {w : World} {K : PySem.W.Frag} {h : Heap} {mg : Str → Option Value} {x fl : Str}
theorem cell_of {C f : Addr} {oc : Value} {od : Option Addr} {osl : Array (Option Value)} {fd : FuncData} (lk : K.lookup f = some ⟨oc, od, .func fd, osl⟩) (c : cellB P K C f = true) :
    (∃ (cda : Addr), fd.code = .ref cda ∧ ∃ (ccl : Value) (cdd : Option Addr) (vs : Array Value) (ccs : Array (Option Value)) (file : Str) (tf : Tok), K.lookup cda = some ⟨ccl, cdd, .fields vs, ccs⟩ ∧ vs[2]? = some (.str file tf) ∧ ((P.main.file : Str) == file) = true) ∧
    ∃ (n : Str) (cc : Addr), fd.closure = [(n, cc)] ∧ ∃ (cl : Value) (cld : Option Addr) (csl : Array (Option Value)), K.lookup cc = some ⟨cl, cld, .cell (some (.ref C)), csl⟩ := by
  unfold cellB at c
  rw [lk] at c
  obtain ⟨c1, c2⟩ := He.ba c
  constructor
  · split at c1
    · rename_i cda e1
      split at c1
      · rename_i ccl cdd vs ccs e2
        split at c1
        · rename_i file tf e3
          exact ⟨cda, e1, ccl, cdd, vs, ccs, file, tf, e2, e3, c1⟩
        · cases c1
      · cases c1
    · cases c1
  · split at c2
    · rename_i n cc e1
      split at c2
      · rename_i cl cld D csl e2
        have e := of_decide_eq_true c2
        subst e
        exact ⟨n, cc, e1, cl, cld, csl, e2⟩
      · cases c2
    · cases c2
theorem ex_of {q : List Pos} {d : DefX} {ar : Arg} (X : K.In h) (G : h.Ns mainGlobals mg) (c : exB P x fl K = true) (D : fnX K (d.ad K) = d.val ∧ d.ok K = true) (hat : d.at_ = (x, some ("__init__" : Str))) (hn : d.name = "__init__") (hcl : d.clos = [("__class__" : Str)]) (hdf : d.dfl = [.non])
    (hb : d.body = eiB fl q) (hp : (d.params.posonlyargs ++ d.params.args).head? = some ar) (har : ar.arg = "self") (hsf : fl ≠ "self") (hdb : (fl == ("__debug__" : Str)) = false)
    (k1 : d.scope.kind = .function) (k2 : d.scope.isGenerator = false) (k3 : d.scope.isCoroutine = false) (k4 : d.scope.names.lookup ("self" : Str) = some .local) (k5 : d.scope.names.lookup fl = some .local) (k6 : d.scope.names.lookup ("super" : Str) = some .globalImplicit)
    (k7 : d.scope.names.lookup ("__class__" : Str) = some .free) (k8 : ∀ x ∈ d.scope.names, x.2 ≠ .cell) (htop : (P.main.scope.names.lookup ("super" : Str)).isSome = false)
    (hint : ∀ env : Env, env.scope = d.scope → interactive env = false)
    (hev : ∀ env : Env, env.scope = d.scope → ∃ pl : Sem Bool, eval (.Call (.Attribute (.Call (.Name "super" (qp q 0)) [] [] (qp q 1)) "__init__" (qp q 2)) [.Name fl (qp q 3)] [] (qp q 4)) env = (do
      let ov ← attributeBase (.Call (.Name "super" (qp q 0)) [] [] (qp q 1)) "__init__" env (eval (.Call (.Name "super" (qp q 0)) [] [] (qp q 1)) env)
      standAt (qp q 2).atName
      let (f, first) ← holding [ov] (getMethod ov "__init__" pl)
      callWith (qp q 4) f first (backTo (qp q 4) (starEach [.Name fl (qp q 3)] env)) []))
    (hsw : ∀ env : Env, env.scope = d.scope → swapsWith (.Name fl (qp q 8)) (some (.Attribute (.Name "self" (qp q 6)) fl (qp q 7))) (qp q 9).line env = pure false)
    (hb2 : ∀ (T : Addr) (cl : List (Str × Addr)) (kV doc pm : Value) (an : Option Addr) (cdv ct u v : Value), ∃ k, bindArgs (PySem.W.fnX d.name d.qual d.params d.body d.scope cl (.ref T) kV doc pm an cdv ct) ⟨[u, v], []⟩ = seqItems? (.ref T) >>= k ∧ k (some #[.none]) = pure [(("self" : Str), u), (fl, v)])
    (hb1 : ∀ (T : Addr) (cl : List (Str × Addr)) (kV doc pm : Value) (an : Option Addr) (cdv ct u : Value), ∃ k, bindArgs (PySem.W.fnX d.name d.qual d.params d.body d.scope cl (.ref T) kV doc pm an cdv ct) ⟨[u], []⟩ = seqItems? (.ref T) >>= k ∧ k (some #[.none]) = pure [(("self" : Str), u), (fl, .none)])
    (hbk : ∀ (T : Addr) (cl : List (Str × Addr)) (kV doc pm : Value) (an : Option Addr) (cdv ct u v : Value), ∃ k, bindArgs (PySem.W.fnX d.name d.qual d.params d.body d.scope cl (.ref T) kV doc pm an cdv ct) ⟨[u], [(fl, v)]⟩ = seqItems? (.ref T) >>= k ∧ k (some #[.none]) = pure [(("self" : Str), u), (fl, v)]) (hv : d.via = 0 := by rfl) :
    ExcAt P w K mg x fl (He.ga K x) ∧ ExcK K fl (He.ga K x) := by
  unfold exB at c
  simp only [Bool.and_eq_true, decide_eq_true_eq] at c
  obtain ⟨c1, c2, c3, c4, c5, c6, c7, c8, c9, c10, c11, c12, c13, c14, c15, c16, c17, c18, c19, c20⟩ := c
  have T : OexC K (He.ga K x) := ⟨oexB_ok c2, He.eqO_ok c3, c4, c5, c6⟩
  have hsup := PySem.W.mg_none_of X G (He.eqO_ok c19)
  obtain ⟨_, oc, od, cl, dV, kV, doc, pm, an, cdv, ct, osl, lk, hc, hcode, hD, _⟩ := DefX.look D.1 D.2
  have hf : d.ad K = He.ma K (He.ga K x) "__init__" := by unfold DefX.ad; rw [hat, hv]; rfl
  rw [hf] at lk
  obtain ⟨⟨cda, e1, z1⟩, n, cc, e2, z2⟩ := cell_of lk c13
  obtain rfl : cdv = .ref cda := e1
  obtain rfl : cl = [(n, cc)] := e2
  rw [hcl] at hc
  obtain rfl : n = "__class__" := by simpa using hc
  have hdv : d.dvs K = [.non] := by unfold DefX.dvs; rw [hdf]; rfl
  rw [hdv] at hD
  rcases hD with ⟨z, _⟩ | ⟨_, Ta, oT, its, nT, rfl, lT, hT, rT⟩
  · cases z
  obtain ⟨u0, rfl, ru⟩ := vals_one rT
  obtain rfl : u0 = .none := ru
  have bnd : ∀ {args : Args} {r : List (Str × Value)}, (∃ k, bindArgs (PySem.W.fnX d.name d.qual d.params d.body d.scope [("__class__", cc)] (.ref Ta) kV doc pm an (.ref cda) ct) args = seqItems? (.ref Ta) >>= k ∧ k (some #[.none]) = pure r) → ∀ s : Shared, K.In s.heap →
      BindsTo s (PySem.W.fnX d.name d.qual d.params d.body d.scope [("__class__", cc)] (.ref Ta) kV doc pm an (.ref cda) ct) args r := by
    rintro args r ⟨k, e1, e2⟩ s KX
    refine BindsTo.of_looks fun M => ?_
    rw [e1]
    exact looks_items KX lT hT (.of_pure e2)
  refine ⟨⟨PySem.W.mg_of X G (He.eqO_ok c1), T, He.eqO_ok c7, He.eqO_ok c8, He.eqO_ok c9, c10, He.ma K (He.ga K x) "__init__", _, He.eqO_ok c11, c12, ?_, fun s u v KX => bnd (hb2 _ _ _ _ _ _ _ _ _ _) s KX, fun s u KX => bnd (hb1 _ _ _ _ _ _ _ _ _) s KX, fun s u v KX => bnd (hbk _ _ _ _ _ _ _ _ _ _) s KX⟩,
    ⟨He.eqO_ok c7, He.eqO_ok c8, He.eqO_ok c9, c10, c4, He.eqO_ok c18, ex_get.1, ex_get.2, c20⟩⟩
  intro A R s args x' t0 v KX lim Gs Bs hx hnx hroom hbind hq
  obtain ⟨mb, B1, B2⟩ := Bs
  rw [hn, hb] at lk hbind
  exact ini_run (mg := mg) (mb := mb) KX lim Gs B1 hsup ((B2 _ (by decide)).trans ve_slot) T (He.eqO_ok c9) lk hcode z1 z2 hp har hsf hdb k1 k2 k3 k4 k5 k6 k7 k8 htop (He.eqO_ok c14) (He.eqO_ok c15) c16 c17 hint hev hsw hx hnx hroom hbind hq
end
end M

namespace M
open PySem PySem.Spec PyProof.Rows L2
section
variable {X : Cx} {k : Nat} {ps : List Str} {sp : Sp} {dvs : List V} {W : WX} {x : Str} {p pos : Pos} {e : Expr} {es : List Expr} {t : TA}
theorem me_callS (C : CalG X.prog X.w X.K X.mg X.base (L2.CX X.prog X.w) x k ps dvs sp) (hr : RoomG k X.A) (hg : Gl X x) (tk : Takes X W) (ha : PA X (e :: es) t) (hdb : (x == ("__debug__" : Str)) = false := by decide)
    (he : starEach (e :: es) X.env = (false, eval e X.env) :: starEach es X.env := by rfl) (hpl : (backTo pos (starEach es X.env)).any (·.1) = false := by rfl) : PE X (.Call (.Name x p) (e :: es) [] pos) (tCallSD sp dvs (WE W) t) := by
  obtain ⟨f, fd, ds, F, hm, hk, hb, hd⟩ := C.ex
  refine ⟨fun pins s σ H Q I h => wpAny_Call_Name_kw (ld_glob I hg hm (PySem.W.callWith_K (h₀ := X.base) I.ok.mod.kin hk (thn (ha.run pos pins s σ H _ I h) fun us s1 ⟨vs, H1, I1, r, q⟩ => ⟨I1.kIn, ?_⟩) he hpl) hdb)⟩
  have r2 : Vals (vs ++ dvs) (us ++ ds) := r.append hd
  refine wpAny_call (codeAny_mono (F.run X.A X.stack s1 H1 ⟨us, []⟩ (us ++ ds) (vs ++ dvs) Q (WE W σ) hr I1.env0 (hb s1 us I1.kIn (r2.length.symm.trans (F.len _ _ _ _ q))) r2 q) fun r s' hq => ?_)
  rcases r with er | fl
  · exact passAt tk σ pins H1 s1 er s' I1 hq
  · cases fl with
    | ret u => exact I1.after hq
    | next => exact False.elim hq
    | brk => exact False.elim hq
    | cont => exact False.elim hq
theorem me_callG0 {CX : CXT} {E : XK} (C : CalG X.prog X.w X.K X.mg X.base CX x k ps dvs sp) (hr : RoomG k X.A) (hg : Gl X x) (hx : Passes CX X E) (hdb : (x == ("__debug__" : Str)) = false := by decide) : PE X (.Call (.Name x p) [] [] pos) (tCall sp dvs E tNil) := by
  obtain ⟨f, fd, ds, F, hm, hk, hb, hd⟩ := C.ex
  refine ⟨fun pins s σ H Q I h => wpAny_Call_Name_kw (ld_glob I hg hm (PySem.W.callWith_K0 I.kIn hk ?_) hdb)⟩
  refine wpAny_call (codeAny_mono (F.run X.A X.stack s H ⟨[], []⟩ ([] ++ ds) ([] ++ dvs) Q E hr I.env0 (hb s [] I.kIn (hd.length.symm.trans (F.len _ _ _ _ h))) hd h) fun r s' hq => ?_)
  rcases r with er | fl
  · exact hx pins σ H s er s' I hq
  · cases fl with
    | ret u => exact I.after hq
    | next => exact False.elim hq
    | brk => exact False.elim hq
    | cont => exact False.elim hq
theorem CalG.mono {P : Program} {w : World} {K : PySem.W.Frag} {mg : Str → Option Value} {base : Heap} {CX : CXT} {x : Str} {k j : Nat} {ps : List Str} {dvs : List V} {sp : Sp} (C : CalG P w K mg base CX x k ps dvs sp) (h : k ≤ j) : CalG P w K mg base CX x j ps dvs sp := by
  obtain ⟨f, fd, ds, F, r⟩ := C.ex
  exact ⟨f, fd, ds, F.mono h, r⟩
end
end M
namespace M
open PySem PySem.Spec PyProof.Rows L2
/-- no error is wished for: none comes -/
theorem passF {X : Cx} : Passes (L2.CX X.prog X.w) X E0 := fun _ _ _ _ _ _ _ c => by
  obtain ⟨_, _, _, _, _, _, _, _, _, _, _, _, z⟩ := c
  exact z.elim
end M

namespace M
open PySem PySem.Spec PyProof.Rows L2
/-- (a, b, ..) = a tuple or a list -/
def mgSeq (K : PySem.W.Frag) (n : Nat) (t : TGs) : TG := fun v σ H Q => match v with
  | .ref a => ∃ xs, (SqT K H a xs ∨ SqL K H a xs) ∧ xs.length = n ∧ t xs σ H Q
  | _ => False
theorem mg_seq {X : Cx} {es : List Expr} {k : Nat} {t : TGs} {n : Nat} {pos : Pos} (hc : X.calm = true) (h : PGs X es t)
    (hn : (assignEach es X.env).length = n := by rfl) (hst : (assignEach es X.env).findIdx? (·.1) = none := by rfl) : PG X (.Tuple es k pos) (mgSeq X.K n t) := by
  refine ⟨fun pins s σ H v u Q I r q => ?_⟩
  unfold mgSeq at q
  split at q
  · obtain ⟨xs, h1 | h1, h2, h3⟩ := q
    · exact (pg_tup hc h hn hst).run pins s σ H _ u Q I r ⟨_, xs, rfl, h1, h2, h3⟩
    · exact (pg_unl hc h hn hst).run pins s σ H _ u Q I r ⟨_, xs, rfl, h1, h2, h3⟩
  · exact q.elim
end M

/-! ### comprehensions with two clauses; sorted texts -/
namespace M
open PySem PySem.Spec PyProof.Rows L2
section
variable {X : Cx}
/-- sorted(l), l a list of texts of any length -/
def mSorted (K : PySem.W.Frag) : List V → Hp → VK → Prop := fun vs H Q => match vs with
  | [.ref a] => ∃ xs : List Str, SqL K H a (xs.map V.str) ∧ ∀ (ys : List Str) (p : Addr), ys.Perm xs → sortedS ys = true → H p = none → Q (.ref p) (upd H p (.lst (ys.map V.str)))
  | _ => False
theorem call_sortedM : CallR X (.builtin "sorted") (mSorted X.K) := by
  intro pins s σ H vs us Q I r h
  unfold mSorted at h
  split at h
  · rename_i a
    obtain ⟨xs, hs, q⟩ := h
    obtain ⟨its, rv, hl, hz⟩ := I.list hs
    rw [Vals.ref1 r]
    refine PyProof.Rows.sorted_strsAny hl.isList rv.strs (by rw [← rv.length]; exact hz) fun out ys h1 h2 h3 => ?_
    obtain ⟨ep, he'⟩ := PyProof.Rows.sortedAll_at s.heap its out
    have hlen : (ys.map V.str).length ≤ sizeLine := by
      rw [List.length_map, h2.length_eq]
      rw [List.length_map] at hz
      exact hz
    exact ⟨.ref _, upd H (s.heap.objs.size + 1) (.lst (ys.map V.str)), I.laid (t' := s.toks) (fun _ _ => PyProof.Rows.sortedAll_old) (Nat.le_succ _) ⟨hlen, out.toList, ep, vals_of_strs h1, he'⟩, rfl, q ys _ h2 h3 (I.hok.fresh (Nat.le_succ _))⟩
  · exact h.elim
end
/-- what a clause's source hands on -/
def inner (s : Src) (g1 : TG) (tt1 : TT) (te : TE) (vs1 : List Nat) (τ : Sl) (D : Addr) (N : Hp → Prop) (H : Hp) : Prop := match s with
  | .v G L => cV G g1 tt1 te vs1 τ D N L H
  | .p G L => cP G g1 tt1 te vs1 τ D N L H
def dV (G : Hp → Prop) (g : TG) (tt : TT) (wi1 : MI) (g1 : TG) (tt1 : TT) (te : TE) (vs vs1 : List Nat) (τ : Sl) (D : Addr) (Q : Hp → Prop) : List V → Hp → Prop
  | [], H => G H ∧ Q H
  | x :: r, H => G H ∧ g x τ H fun σ2 H2 => wipe σ2 vs = τ ∧ tt σ2 H2 fun b H3 => if b = true then wi1 σ2 H3 fun s H4 => inner s g1 tt1 te vs1 (wipe σ2 vs1) D (dV G g tt wi1 g1 tt1 te vs vs1 τ D Q r) H4 else dV G g tt wi1 g1 tt1 te vs vs1 τ D Q r H3
def dP (G : Hp → Prop) (g : TG) (tt : TT) (wi1 : MI) (g1 : TG) (tt1 : TT) (te : TE) (vs vs1 : List Nat) (τ : Sl) (D : Addr) (Q : Hp → Prop) : List (V × V) → Hp → Prop
  | [], H => G H ∧ Q H
  | x :: r, H => G H ∧ ∀ T, H T = none → g (.ref T) τ (upd H T (.tup [x.1, x.2])) fun σ2 H2 => wipe σ2 vs = τ ∧ tt σ2 H2 fun b H3 => if b = true then wi1 σ2 H3 fun s H4 => inner s g1 tt1 te vs1 (wipe σ2 vs1) D (dP G g tt wi1 g1 tt1 te vs vs1 τ D Q r) H4 else dP G g tt wi1 g1 tt1 te vs vs1 τ D Q r H3
def mLc2 (wi : MI) (g : TG) (tt : TT) (wi1 : MI) (g1 : TG) (tt1 : TT) (te : TE) (vs vs1 : List Nat) : TE := fun σ H Q => wi σ H fun s H1 => ∀ D, H1 D = none → match s with
  | .v G L => dV G g tt wi1 g1 tt1 te vs vs1 (wipe σ vs) D (Q (.ref D)) L (upd H1 D (.lst []))
  | .p G L => dP G g tt wi1 g1 tt1 te vs vs1 (wipe σ vs) D (Q (.ref D)) L (upd H1 D (.lst []))
/-- the second source's own loop, over what feeds -/
theorem inner_W {J : It} {s : Src} (f : Feeds J s) {g1 : TG} {tt1 : TT} {te : TE} {vs1 : List Nat} {σ2 : Sl} {D : Addr} {N : Hp → Prop} {H4 : Hp} (z : inner s g1 tt1 te vs1 (wipe σ2 vs1) D N H4) :
    ∃ W1 : Nat → Nat → Hp → Prop, (∃ m, W1 0 m H4) ∧ ∀ j k H, W1 j k H →
      (J.stop j H ∧ N H) ∨ (J.go j H ∧ ∃ Nx1 : Hp → Prop, (∀ H', Nx1 H' → ∃ k', k' < k ∧ W1 (j + 1) k' H') ∧ ∀ x H', J.yld j H x H' → g1 x (wipe σ2 vs1) H' fun σ3 H5 => wipe σ3 vs1 = wipe σ2 vs1 ∧ tt1 σ3 H5 fun b H6 =>
        if b = true then te σ3 H6 fun y H7 => ∃ acc, H7 D = some (.lst acc) ∧ acc.length < sizeLine ∧ Nx1 (upd H7 D (.lst (acc ++ [y]))) else Nx1 H6) := by
  cases s with
  | v G L =>
    have w : Walk J L.length G (YAt L) := f
    refine ⟨fun i m H => m = L.length - i ∧ i ≤ L.length ∧ cV G g1 tt1 te vs1 (wipe σ2 vs1) D N (L.drop i) H, ⟨_, rfl, Nat.zero_le _, z⟩, ?_⟩
    rintro i m H ⟨rfl, hi, p⟩
    by_cases hlt : i < L.length
    · refine .inr ⟨w.goes i H hlt (cV_G p), fun H' => cV G g1 tt1 te vs1 (wipe σ2 vs1) D N (L.drop (i + 1)) H', fun H' p' => ⟨L.length - (i + 1), by omega, rfl, hlt, p'⟩, fun x H' y => ?_⟩
      obtain ⟨e, hx⟩ := w.yields i H x H' hlt (cV_G p) y
      subst e
      rw [drop_at hx] at p
      exact p.2
    · have e : i = L.length := by omega
      subst e
      refine .inl ⟨w.stops H (cV_G p), ?_⟩
      rw [List.drop_length] at p
      exact p.2
  | p G L =>
    have w : Walk J L.length G (YPair (fun i => L[i]?.map (·.1)) (fun i => L[i]?.map (·.2))) := f
    refine ⟨fun i m H => m = L.length - i ∧ i ≤ L.length ∧ cP G g1 tt1 te vs1 (wipe σ2 vs1) D N (L.drop i) H, ⟨_, rfl, Nat.zero_le _, z⟩, ?_⟩
    rintro i m H ⟨rfl, hi, p⟩
    by_cases hlt : i < L.length
    · refine .inr ⟨w.goes i H hlt (cP_G p), fun H' => cP G g1 tt1 te vs1 (wipe σ2 vs1) D N (L.drop (i + 1)) H', fun H' p' => ⟨L.length - (i + 1), by omega, rfl, hlt, p'⟩, fun x H' y => ?_⟩
      obtain ⟨T, a, b, e1, e2, e3, e4, e5⟩ := w.yields i H x H' hlt (cP_G p) y
      subst e1 e3
      have hx : L[i]? = some L[i] := List.getElem?_eq_getElem hlt
      rw [drop_at hx] at p
      have q := p.2 T e2
      have e4' : L[i]?.map (·.1) = some a := e4
      have e5' : L[i]?.map (·.2) = some b := e5
      rw [hx] at e4' e5'
      cases e4'
      cases e5'
      exact q
    · have e : i = L.length := by omega
      subst e
      refine .inl ⟨w.stops H (cP_G p), ?_⟩
      rw [List.drop_length] at p
      exact p.2
theorem dV_G {G : Hp → Prop} {g : TG} {tt : TT} {wi1 : MI} {g1 : TG} {tt1 : TT} {te : TE} {vs vs1 : List Nat} {τ : Sl} {D : Addr} {Q : Hp → Prop} {L : List V} {H : Hp} (h : dV G g tt wi1 g1 tt1 te vs vs1 τ D Q L H) : G H := by
  cases L <;> exact h.1
theorem dP_G {G : Hp → Prop} {g : TG} {tt : TT} {wi1 : MI} {g1 : TG} {tt1 : TT} {te : TE} {vs vs1 : List Nat} {τ : Sl} {D : Addr} {Q : Hp → Prop} {L : List (V × V)} {H : Hp} (h : dP G g tt wi1 g1 tt1 te vs vs1 τ D Q L H) : G H := by
  cases L <;> exact h.1
def clG (g : TG) : TG := fun v σ H Q => ∃ Q' : Sl → Hp → Prop, g v σ H Q' ∧ ∀ σ' H', Q' σ' H' → Q σ' H'
theorem pg_cl {X : Cx} {e : Expr} {g : TG} (h : PG X e g) : PG X e (clG g) := ⟨fun pins s σ H v u Q I r ⟨Q', q, w⟩ => thn (h.run pins s σ H v u Q' I r q) fun _ _ ⟨σ', H', I', z⟩ => ⟨σ', H', I', w _ _ z⟩⟩
theorem pts_cl {X : Cx} {es : List Expr} {t : TT} (h : PTs X es t) : PTs X es (clT t) := ⟨fun pins s σ H Q I ⟨Q', q, w⟩ => thn (h.run pins s σ H Q' I q) fun _ _ ⟨H', I', z⟩ => ⟨H', I', w _ H' z⟩⟩
theorem lc2_toM {wi : MI} {g : TG} {tt : TT} {wi1 : MI} {g1 : TG} {tt1 : TT} {te : TE} {vs vs1 : List Nat} {σ : Sl} {H : Hp} {Q : VK} (q : mLc2 wi g tt wi1 g1 tt1 te vs vs1 σ H Q) : tLc2 (toTI wi) (clG g) (clT tt) (toTI wi1) g1 tt1 te vs vs1 σ H Q :=
  ⟨_, q, fun s H1 J z f D hD => by
    have z := z D hD
    have nxt : ∀ {N : Hp → Prop} {σ2 : Sl} {H3 : Hp} {b : Bool} (q : if b = true then wi1 σ2 H3 fun s H4 => inner s g1 tt1 te vs1 (wipe σ2 vs1) D N H4 else N H3),
        if b = true then toTI wi1 σ2 H3 fun J1 H4 => ∃ W1 : Nat → Nat → Hp → Prop, (∃ m, W1 0 m H4) ∧ ∀ j k H, W1 j k H →
          (J1.stop j H ∧ N H) ∨ (J1.go j H ∧ ∃ Nx1 : Hp → Prop, (∀ H', Nx1 H' → ∃ k', k' < k ∧ W1 (j + 1) k' H') ∧ ∀ x H', J1.yld j H x H' → g1 x (wipe σ2 vs1) H' fun σ3 H5 => wipe σ3 vs1 = wipe σ2 vs1 ∧ tt1 σ3 H5 fun b H6 =>
            if b = true then te σ3 H6 fun y H7 => ∃ acc, H7 D = some (.lst acc) ∧ acc.length < sizeLine ∧ Nx1 (upd H7 D (.lst (acc ++ [y]))) else Nx1 H6) else N H3 := fun {N σ2 H3 b} q => by
      cases b with
      | false => exact q
      | true => exact ⟨_, q, fun s1 H4 J1 z1 f1 => inner_W f1 z1⟩
    cases s with
    | v G L =>
      have w : Walk J L.length G (YAt L) := f
      refine ⟨fun i m H => m = L.length - i ∧ i ≤ L.length ∧ dV G g tt wi1 g1 tt1 te vs vs1 (wipe σ vs) D (Q (.ref D)) (L.drop i) H, ⟨_, rfl, Nat.zero_le _, z⟩, ?_⟩
      rintro i m H ⟨rfl, hi, p⟩
      by_cases hlt : i < L.length
      · refine .inr ⟨w.goes i H hlt (dV_G p), fun H' => dV G g tt wi1 g1 tt1 te vs vs1 (wipe σ vs) D (Q (.ref D)) (L.drop (i + 1)) H', fun H' p' => ⟨L.length - (i + 1), by omega, rfl, hlt, p'⟩, fun x H' y => ?_⟩
        obtain ⟨e, hx⟩ := w.yields i H x H' hlt (dV_G p) y
        subst e
        rw [drop_at hx] at p
        exact ⟨_, p.2, fun σ2 H2 h => ⟨h.1, _, h.2, fun b H3 h => nxt h⟩⟩
      · have e : i = L.length := by omega
        subst e
        refine .inl ⟨w.stops H (dV_G p), ?_⟩
        rw [List.drop_length] at p
        exact p.2
    | p G L =>
      have w : Walk J L.length G (YPair (fun i => L[i]?.map (·.1)) (fun i => L[i]?.map (·.2))) := f
      refine ⟨fun i m H => m = L.length - i ∧ i ≤ L.length ∧ dP G g tt wi1 g1 tt1 te vs vs1 (wipe σ vs) D (Q (.ref D)) (L.drop i) H, ⟨_, rfl, Nat.zero_le _, z⟩, ?_⟩
      rintro i m H ⟨rfl, hi, p⟩
      by_cases hlt : i < L.length
      · refine .inr ⟨w.goes i H hlt (dP_G p), fun H' => dP G g tt wi1 g1 tt1 te vs vs1 (wipe σ vs) D (Q (.ref D)) (L.drop (i + 1)) H', fun H' p' => ⟨L.length - (i + 1), by omega, rfl, hlt, p'⟩, fun x H' y => ?_⟩
        obtain ⟨T, a, b, e1, e2, e3, e4, e5⟩ := w.yields i H x H' hlt (dP_G p) y
        subst e1 e3
        have hx : L[i]? = some L[i] := List.getElem?_eq_getElem hlt
        rw [drop_at hx] at p
        have q := p.2 T e2
        have e4' : L[i]?.map (·.1) = some a := e4
        have e5' : L[i]?.map (·.2) = some b := e5
        rw [hx] at e4' e5'
        cases e4'
        cases e5'
        exact ⟨_, q, fun σ2 H2 h => ⟨h.1, _, h.2, fun b H3 h => nxt h⟩⟩
      · have e : i = L.length := by omega
        subst e
        refine .inl ⟨w.stops H (dP_G p), ?_⟩
        rw [List.drop_length] at p
        exact p.2⟩
section
variable {X : Cx}
theorem me_lc2 {elt tg iter tg1 iter1 : Expr} {ifs ifs1 : List Expr} {scope : Scope} {own : List (Str × Nat)} {vs1 : List Nat} {pos : Pos} {wi wi1 : MI} {g g1 : TG} {tt tt1 : TT} {te : TE} (hc : X.calm = true) (hN : X.N.Nodup) (hi : PI X tg iter (toTI wi)) (ok : BlkOk X.N X.env.scope scope own) (hv : ∀ i ∈ vs1, i ∈ own.map (·.2))
    (hg : ∀ (s : Shared) (H : Hp) (C : Addr) (cl : List (Str × Addr)) (fp : List Addr), PG (X.blk s H scope (compEnvC scope cl C X.env) fp) tg g) (ht : ∀ (s : Shared) (H : Hp) (C : Addr) (cl : List (Str × Addr)) (fp : List Addr), PTs (X.blk s H scope (compEnvC scope cl C X.env) fp) ifs tt)
    (hi1 : ∀ (s : Shared) (H : Hp) (C : Addr) (cl : List (Str × Addr)) (fp : List Addr), PI (X.blk s H scope (compEnvC scope cl C X.env) fp) tg1 iter1 (toTI wi1))
    (hg1 : ∀ (s : Shared) (H : Hp) (C : Addr) (cl : List (Str × Addr)) (fp : List Addr), PG (X.blk s H scope (compEnvC scope cl C X.env) fp) tg1 g1) (ht1 : ∀ (s : Shared) (H : Hp) (C : Addr) (cl : List (Str × Addr)) (fp : List Addr), PTs (X.blk s H scope (compEnvC scope cl C X.env) fp) ifs1 tt1)
    (he : ∀ (s : Shared) (H : Hp) (C : Addr) (cl : List (Str × Addr)) (fp : List Addr), PE (X.blk s H scope (compEnvC scope cl C X.env) fp) elt te) (hs : ∀ x, foldedSetIterable iter X.env x = pure x := by intro _; rfl) (hs1 : ∀ env x, foldedSetIterable iter1 env x = pure x := by intro _ _; rfl) :
    PE X (.ListComp elt [⟨tg, iter, ifs, 0⟩, ⟨tg1, iter1, ifs1, 0⟩] scope pos) (mLc2 wi g tt wi1 g1 tt1 te (own.map (·.2)) vs1) :=
  pe_imp (pe_lc2 hc hN hi ok hv (fun s H C cl fp => pg_cl (hg s H C cl fp)) (fun s H C cl fp => pts_cl (ht s H C cl fp)) hi1 hg1 ht1 he hs hs1) fun σ H Q q => lc2_toM q
end
end M

/-! ### [f, g, ..][i](a, ..): one of several defs is called -/
namespace M
open PySem PySem.Spec PyProof.Rows L2
/-- the def at an address, as a value and called -/
structure CalV (P : Program) (w : World) (K : PySem.W.Frag) (mg : Str → Option Value) (base : Heap) (CX : CXT) (x : Str) (k : Nat) (ps : List Str) (sp : Sp) (a : Addr) : Prop where
  g : mg x = some (.ref a)
  ex : ∃ fd, FnG P w K mg base CX k a fd ps sp ∧ PySem.W.keepIn K (.ref a) = true ∧ Binds K fd ps []
theorem CalV.mono {P : Program} {w : World} {K : PySem.W.Frag} {mg : Str → Option Value} {base : Heap} {CX : CXT} {x : Str} {k j : Nat} {ps : List Str} {sp : Sp} {a : Addr} (C : CalV P w K mg base CX x k ps sp a) (h : k ≤ j) : CalV P w K mg base CX x j ps sp a := by
  obtain ⟨fd, F, r⟩ := C.ex
  exact ⟨C.g, fd, F.mono h, r⟩
/-- what may be called -/
inductive May (P : Program) (w : World) (K : PySem.W.Frag) (mg : Str → Option Value) (base : Heap) (CX : CXT) (k : Nat) : List (V × Sp) → Prop
  | nil : May P w K mg base CX k []
  | cons {x : Str} {ps : List Str} {sp : Sp} {a : Addr} {r : List (V × Sp)} : CalV P w K mg base CX x k ps sp a → May P w K mg base CX k r → May P w K mg base CX k ((.ref a, sp) :: r)
theorem May.get {P : Program} {w : World} {K : PySem.W.Frag} {mg : Str → Option Value} {base : Heap} {CX : CXT} {k : Nat} {fs : List (V × Sp)} (m : May P w K mg base CX k fs) {p : V × Sp} (h : p ∈ fs) : ∃ x ps a, p.1 = .ref a ∧ CalV P w K mg base CX x k ps p.2 a := by
  induction m with
  | nil => cases h
  | cons c _ ih =>
    rcases List.mem_cons.mp h with rfl | h
    · exact ⟨_, _, _, rfl, c⟩
    · exact ih h
def tCallV (fs : List (V × Sp)) (W : WX) (te : TE) (t : TA) : TE := fun σ H Q => te σ H fun x H1 => ∃ p, p ∈ fs ∧ x = p.1 ∧ t σ H1 fun vs H2 => p.2 vs H2 Q (WE W σ)
section
variable {X : Cx} {k : Nat} {fs : List (V × Sp)} {W : WX} {pos spos : Pos} {v i e : Expr} {es : List Expr} {te : TE} {t : TA}
theorem me_callVS (C : May X.prog X.w X.K X.mg X.base (L2.CX X.prog X.w) k fs) (hr : RoomG k X.A) (hf : PE X (.Subscript v i spos) te) (tk : Takes X W) (ha : PA X (e :: es) t)
    (hc : eval (.Call (.Subscript v i spos) (e :: es) [] pos) X.env = (do callWith pos (← eval (.Subscript v i spos) X.env) [] (backTo pos (starEach (e :: es) X.env)) (backToKw pos (keywordEach [] X.env))) := by rfl)
    (he : starEach (e :: es) X.env = (false, eval e X.env) :: starEach es X.env := by rfl) (hpl : (backTo pos (starEach es X.env)).any (·.1) = false := by rfl) : PE X (.Call (.Subscript v i spos) (e :: es) [] pos) (tCallV fs W te t) := by
  refine ⟨fun pins s σ H Q I h => ?_⟩
  rw [hc]
  refine wpAny_bind (thn (hf.run pins s σ H _ I h) fun u s0 ⟨x, H0, I0, rx, p, hp, ex, h0⟩ => ?_)
  obtain ⟨y, ps, a, ea, C⟩ := C.get hp
  obtain ⟨fd, F, hk, hb⟩ := C.ex
  rw [ex, ea] at rx
  cases rx
  refine PySem.W.callWith_K (h₀ := X.base) I0.ok.mod.kin hk (thn (ha.run pos pins s0 σ H0 _ I0 h0) fun us s1 ⟨vs, H1, I1, r, q⟩ => ⟨I1.kIn, ?_⟩) he hpl
  have hl := F.len _ _ _ _ q
  refine wpAny_call (codeAny_mono (F.run X.A X.stack s1 H1 ⟨us, []⟩ us vs Q (WE W σ) hr I1.env0 (by simpa using hb s1 us I1.kIn (by simpa using r.length.symm.trans hl)) r q) fun r s' hq => ?_)
  rcases r with er | fl
  · exact passAt tk σ pins H1 s1 er s' I1 hq
  · cases fl with
    | ret u => exact I1.after hq
    | next => exact False.elim hq
    | brk => exact False.elim hq
    | cont => exact False.elim hq
end
end M

/-! ### a text turned about -/
namespace M
open PySem PySem.Spec PyProof.Rows L2
theorem rev_cps (z : List Nat) : ((Builtin.Str.strSliceIndices none none (-1) (S z).length).filterMap ((S z).cps[·]?)) = z.reverse := by
  rw [picked_rev, filterMap_get]
  · rw [List.map_map, S_len]
    apply List.ext_getElem
    · simp
    · intro i h1 h2
      simp only [List.length_map, List.length_range] at h1
      simp only [List.getElem_map, List.getElem_range, List.getElem_reverse, Function.comp_apply]
      unfold S
      simp [Array.getD, show z.length - 1 - i < z.length by omega]
  · intro i hi
    obtain ⟨k, hk, rfl⟩ := List.mem_map.mp hi
    have hk' := List.mem_range.mp hk
    show (S z).length - 1 - k < (S z).length
    omega
def mRevS (te : TE) : TE := fun σ H Q => te σ H fun x H1 => match x with
  | .str a => a.length ≤ sizeLine ∧ Q (.str (S a.cps.toList.reverse)) H1
  | _ => False
section
variable {X : Cx} {e : Expr} {te : TE}
theorem me_revS {k : Nat} {p1 p2 p3 pos : Pos} (he : PE X e te) : PE X (.Subscript e (.Slice none none (some (.UnaryOp .USub (.Constant (.int 1) k p1) p2)) p3) pos) (mRevS te) := by
  refine ⟨fun pins s σ H Q I h => ?_⟩
  have h' : cl te σ H (fun x H1 => ∃ z : List Nat, x = .str (S z) ∧ z.length ≤ sizeLine ∧ Q (.str (S z.reverse)) H1) := ⟨_, h, fun x H1 q => by
    cases x with
    | str a =>
      refine ⟨a.cps.toList, by rw [S_of], ?_, q.2⟩
      have := q.1
      rw [← S_of a, S_len] at this
      exact this
    | _ => exact q.elim⟩
  refine Subscript_ (thn ((pe_cl he).run pins s σ H _ I h') fun v s1 ⟨x, H1, I1, r1, z, ex, hz, q⟩ => ?_)
  subst ex
  obtain ⟨t, rfl⟩ := r1
  have hst : PO X (some (.UnaryOp .USub (.Constant (.int 1) k p1) p2)) (tPart (tUn (rU fun i => .int (-i)) (tC (.int 1)))) := po_some (pe_un un_neg pe_int)
  refine wpAny_Slice (thn (po_none.run pins s1 σ H1 (fun o H2 => o = none ∧ H2 = H1) I1 ⟨rfl, rfl⟩) fun vl s2 ⟨l, H2, I2, pl, el, e2⟩ => ?_)
  subst el e2
  refine thn (po_none.run pins s2 σ H2 (fun o H3 => o = none ∧ H3 = H2) I2 ⟨rfl, rfl⟩) fun vu s3 ⟨u, H3, I3, pu, eu, e3⟩ => ?_
  subst eu e3
  refine thn (hst.run pins s3 σ H3 (fun o H4 => o = some (-1) ∧ H4 = H3) I3 ⟨1, rfl, -1, rfl, rfl, rfl⟩) fun vs s4 ⟨o, H4, I4, ps, eo, e4⟩ => ?_
  subst eo e4
  have I5 : Inv X pins σ H4 { s4 with heap := s4.heap.push { cls := .type "slice", data := .fields #[vl, vu, vs] } } := I4.kept (t' := s4.toks) fun b ob q => Heap.get?_push_of_some _ q
  obtain ⟨l, rfl, hl⟩ := IsPart.raw pl
  obtain ⟨u, rfl, hu⟩ := IsPart.raw pu
  obtain ⟨w, rfl, hw⟩ := IsPart.raw ps
  obtain ⟨os, hos, hcs, hds⟩ := Heap.IsSliceOf.new s4.heap (partValue l) (partValue u) (partValue w)
  refine tail_any (ops := [.str (S z) t, .ref s4.heap.objs.size]) (typeIs_str _ _ _) (F.slot_str_getitem.lookup) ?_ (by with_unfolding_all rfl)
  refine wpAny_getItem_str_slice (l := l) (u := u) (st := w) ⟨os, hos, hcs, hds⟩ (by first | (rw [hw]; rfl) | (rw [← hw]; rfl)) ?_
  have hm : sliceMade (S z) t l u w = Made.str (S z.reverse) := by
    have a1 : l.map (·.1) = none := by first | exact hl | exact hl.symm
    have a2 : u.map (·.1) = none := by first | exact hu | exact hu.symm
    have a3 : w.map (·.1) = some (-1) := by first | exact hw | exact hw.symm
    unfold sliceMade slicePicked
    rw [a1, a2, a3]
    show (if ((-1 : Int) == 1 && _) = true then _ else Made.str ⟨((Builtin.Str.strSliceIndices none none (-1) (S z).length).filterMap ((S z).cps[·]?)).toArray⟩) = _
    rw [if_neg (by simp), rev_cps]
    rfl
  rw [hm]
  have hlen : (S z.reverse).length ≤ sizeLine := by rw [S_len, List.length_reverse]; exact hz
  exact ⟨hlen, .str _, H4, I5.tok _, ⟨_, rfl⟩, q⟩
end
end M

/-! ### tuple(x); a list's first item popped -/
namespace M
open PySem PySem.Spec PyProof.Rows L2
section
variable {X : Cx} {pos apos : Pos} {o e : Expr} {to te : TE}
def mTuple (K : PySem.W.Frag) : List V → Hp → VK → Prop := fun xs H Q => match xs with
  | [.ref p] => ∃ ys, (SqL K H p ys ∧ ∀ l, H l = none → Q (.ref l) (upd H l (.tup ys))) ∨ (SqT K H p ys ∧ Q (.ref p) H)
  | _ => False
theorem call_tupleM : CallR X (.type "tuple") (mTuple X.K) := callR_imp call_tuple_of fun xs H Q q => by
  unfold mTuple at q
  split at q
  · obtain ⟨ys, h⟩ := q
    exact ⟨_, ys, rfl, h⟩
  · exact q.elim
def mPop0 : Addr → List V → List V → Hp → VK → Prop := fun l xs vs H Q => match vs with
  | [.int i] => i = 0 ∧ ∃ y r, xs = y :: r ∧ Q y (upd H l (.lst r))
  | _ => False
theorem me_pop0 (ho : PE X o to) (he : PE X e te) (hbase : attributeBase o "pop" X.env (eval o X.env) = eval o X.env := by rfl)
    (hfew : ((backTo pos (starEach [e] X.env)).all (fun x => !x.1) && (backToKw pos (keywordEach [] X.env)).all (fun x => x.1.isSome) && decide (([e] : List Expr).length + ([] : List Keyword).length + (if ([] : List Keyword).isEmpty then 0 else 1) < 30)) = true := by rfl)
    (hline : (apos.endLine == pos.line) = true := by rfl) (hs : starEach [e] X.env = (false, eval e X.env) :: starEach [] X.env := by rfl) (hplain : (backTo pos (starEach [] X.env)).any (·.1) = false := by rfl) :
    PE X (.Call (.Attribute o "pop" apos) [e] [] pos) (mLstM mPop0 to (tCons te tNil)) :=
  pe_imp (pe_bm PySem.F.plainAttrs_list PySem.F.slot_list_pop PySem.F.type_list_pop mt_popAt (pe_cl ho) (pa_cons (pe_cl he) pa_nil hs) hbase hfew hline hs hplain) fun σ H Q q => ⟨_, q, fun x H1 z => by
    cases x with
    | ref l =>
      obtain ⟨⟨ys, h⟩, z⟩ := z
      exact ⟨.inl ⟨rfl, _, SqL.of h⟩, _, z, fun y H2 w => by
        obtain ⟨xs, h2, w⟩ := w
        cases y with
        | int i =>
          obtain ⟨rfl, y', r, rfl, w⟩ := w
          exact ⟨l, _, 0, 0, y', rfl, rfl, h2, by decide, by decide, by simp [seqIndex?], rfl, w⟩
        | _ => exact w.elim⟩
    | _ => exact z.elim⟩
/-- lists of other lengths differ, whatever they hold -/
def mNeE (K : PySem.W.Frag) : R2 := fun x y H Q => (∃ a b xs ys, x = .ref a ∧ y = .ref b ∧ SqL K H a xs ∧ SqL K H b ys ∧ xs.length ≠ ys.length ∧ Q (.bl true) H) ∨ mNe K x y H Q
theorem op_neE (hu : X.A.units + 64 < cLine) : OpR X (compareOp .NotEq) (mNeE X.K) := by
  intro pins s σ H x y v u Q I rx ry h
  rcases h with ⟨a, b, xs, ys, rfl, rfl, h1, h2, hl, q⟩ | h
  · cases rx
    cases ry
    obtain ⟨is1, rv1, ⟨o1, n1, ho1, hc1, _, hd1⟩, _⟩ := I.list h1
    obtain ⟨is2, rv2, ⟨o2, n2, ho2, hc2, _, hd2⟩, _⟩ := I.list h2
    have l1 := rv1.length
    have l2 := rv2.length
    exact SeqAt.RcNeAt.lists_lengths ⟨_, ho1, hc1, _, hd1⟩ ⟨_, ho2, hc2, _, hd2⟩ (by simp; omega) (by omega) _ _ _ _ ⟨.bl _, H, I, rfl, q⟩
  · exact op_neM hu pins s σ H _ _ v u Q I rx ry h
/-- + whose new list is none of the system's -/
def mAddF : R2 := fun x y H Q => match x, y with
  | .ref a, .ref b => (∃ xs zs, H a = some (.lst xs) ∧ H b = some (.lst zs) ∧ xs.length + zs.length ≤ sizeLine ∧ ∀ p, H p = none → p ≠ sysModules → Q (.ref p) (upd H p (.lst (xs ++ zs))))
  | _, _ => mAdd x y H Q
theorem op_addF : OpR X (binaryOp .Add) mAddF := by
  intro pins s σ H x y v u Q I rx ry q
  unfold mAddF at q
  split at q
  · obtain ⟨xs, zs, hH, hB, hz, q⟩ := q
    cases rx
    cases ry
    obtain ⟨z, its, n, r, hl, e⟩ := I.lstM hH
    obtain ⟨z2, its2, n2, r2, hl2, e2⟩ := I.lstM hB
    refine PySem.P.add_list e e2 ?_ (by rw [List.size_toArray, List.size_toArray]; omega)
    have ea : its.toArray ++ its2.toArray = (its ++ its2).toArray := by simp
    rw [ea]
    exact ⟨.ref _, _, I.lnew (t' := s.toks) (r.append r2) (by rw [List.length_append]; omega), rfl, q _ I.fresh (Nat.ne_of_gt I.big)⟩
  · exact op_addM pins s σ H _ _ v u Q I rx ry q
/-- what repr shows of a list that holds dicts, too -/
inductive ShA (K : PySem.W.Frag) (H : Hp) : List V → List PyData → Prop
  | nil : ShA K H [] []
  | one {v : V} {d : PyData} {vs : List V} {ds : List PyData} : fd1 v = some d → ShA K H vs ds → ShA K H (v :: vs) (d :: ds)
  | dct {a : Addr} {kvs : List (Key × V)} {es : List (PyData × PyData)} {vs : List V} {ds : List PyData} : H a = some (.dK kvs) → fdKV kvs = some es → ShA K H vs ds → ShA K H (.ref a :: vs) (.dict es :: ds)
inductive ShD (K : PySem.W.Frag) (H : Hp) : V → PyData → Prop
  | sh {v : V} {d : PyData} : Sh K H v d → ShD K H v d
  | lst {a : Addr} {xs : List V} {ds : List PyData} : H a = some (.lst xs) → a ≠ sysModules → ShA K H xs ds → ShD K H (.ref a) (.list ds)
def mReprD (K : PySem.W.Frag) : List V → Hp → VK → Prop := fun xs H Q => match xs with
  | [x] => ∃ d, ShD K H x d ∧ d.showable = true ∧ d.depth ≤ 64 ∧ d.shown.length ≤ sizeLine ∧ Q (.str d.shown) H
  | _ => False
theorem ShA.reads {pins : List (Addr × Obj)} {σ : L2.St} {H : Hp} {s : Shared} (I : L2.Inv X pins σ H s) : ∀ {vs : List V} {ds : List PyData} {us : List Value}, ShA X.K H vs ds → Vals vs us → ∃ as, ReadsAll s.heap us ds as ∧ sysModules ∉ as
  | _, _, _, .nil, .nil => ⟨[], .nil, by simp⟩
  | _, _, _, .one e r, .cons r1 rs => by
    obtain ⟨as, h1, h2⟩ := ShA.reads I r rs
    exact ⟨[] ++ as, .cons (rd1 r1 e) h1, by simpa using h2⟩
  | _, _, _, @ShA.dct _ _ a kvs es vs ds ha hf r, .cons r1 rs => by
    obtain ⟨as, h1, h2⟩ := ShA.reads I r rs
    cases r1
    obtain ⟨_, hns, ws, hkv, o, oes, ep, e1, e2, e3, e4, e5, e6⟩ := dk_of I.hok ha
    obtain ⟨q1, q2⟩ := rdKV (h := s.heap) hkv e5 hf
    refine ⟨([a] ++ [] ++ []) ++ as, .cons (.dict e1 e2.1 e3 q1 q2) h1, fun hm => ?_⟩
    simp only [List.append_nil, List.mem_append, List.mem_singleton] at hm
    rcases hm with z | z
    · rw [z] at hns; simp at hns
    · exact h2 z
theorem call_reprD {k : Nat} (hr : RoomG k X.A) : CallR X (.builtin "repr") (mReprD X.K) := by
  intro pins s σ H xs us Q I r h
  unfold mReprD at h
  split at h
  · rename_i x
    obtain ⟨d, hs, h1, h2, h3, q⟩ := h
    cases hs with
    | sh hs => exact call_reprM hr pins s σ H _ us Q I r ⟨d, hs, h1, h2, h3, q⟩
    | @lst a xs ds ha hn hx =>
      obtain ⟨u, rfl, ru⟩ := vals_one r
      cases ru
      have hun := hr.un
      obtain ⟨its, rv, ⟨o, n, ho, hc, _, hd⟩, _⟩ := I.list (SqL.of (K := X.K) ha)
      obtain ⟨as, r1, r2⟩ := ShA.reads I hx rv
      have rd : Reads s.heap (.ref a) (.list ds) (a :: as) := .list ho hc hd r1
      refine repr_of_reads' rd h1 (fun _ hm => ?_) hr.gd (by omega) (fun _ _ e => e) (fun h' u tk k => ⟨.str (PyData.list ds).shown, H, I.kept (t' := tk) k, ⟨u, rfl⟩, q⟩) h3
      rcases List.mem_cons.mp hm with z | z
      · exact hn z.symm
      · exact r2 z
  · exact h.elim
end
end M

/-! ### tables of the module: dicts from texts to texts -/
namespace M
open PySem PySem.Spec PyProof.Rows L2
abbrev Rows := List (List Nat × List Nat)
def hasK (t : Rows) (z : Str) : Bool := t.any fun r => decide (S r.1 = z)
def atK (t : Rows) (z : Str) : Option (List Nat) := (t.find? fun r => decide (S r.1 = z)).map (·.2)
/-- a table at d with these rows -/
def TabAt (K : PySem.W.Frag) (w : World) (d : Addr) (t : Rows) : Prop := ∃ es n, KDict K w d es n ∧ ∀ z : Str, match atK t z with
  | some v => ∃ u, PySem.W.nsIn K d z = some (some u) ∧ RelV (.str (S v)) u
  | none => PySem.W.nsIn K d z = some none
theorem hasK_atK (t : Rows) (z : Str) : hasK t z = (atK t z).isSome := by
  unfold hasK atK
  rw [Option.isSome_map, List.isSome_find?]
def tabDv (t : Rows) : List (Str × He.Dv) := t.map fun r => (S r.1, .str (S r.2))
theorem atK_mem {t : Rows} {z : Str} {v : List Nat} (h : atK t z = some v) : (z, He.Dv.str (S v)) ∈ tabDv t := by
  unfold atK at h
  obtain ⟨r, hr, rfl⟩ := Option.map_eq_some_iff.mp h
  have h1 := List.find?_some hr
  have h2 := List.mem_of_find?_eq_some hr
  have h3 : S r.1 = z := by simpa using h1
  exact List.mem_map.mpr ⟨r, h2, by rw [h3]⟩
theorem atK_none {t : Rows} {z : Str} (h : atK t z = none) : ∀ k ∈ t.map (fun r => S r.1), k ≠ z := by
  unfold atK at h
  rw [Option.map_eq_none_iff, List.find?_eq_none] at h
  intro k hk e
  obtain ⟨r, hr, rfl⟩ := List.mem_map.mp hk
  exact h r hr (by simpa using e)
theorem no_key {P : Params} {z : Str} : ∀ {l : List DictEntry} {ks : List Str}, l.map He.keyOf = He.keysIn P ks → (∀ k ∈ ks, k ≠ z) → l.find? (fun e => e.key.isStr z) = none ∧ (l.any fun x => x.refKey) = false
  | [], _, _, _ => ⟨rfl, rfl⟩
  | e :: r, [], h, _ => by cases h
  | e :: r, k :: ks, h, hn => by
    have h1 : He.keyOf e :: r.map He.keyOf = some (k, PyData.keyHash P k) :: He.keysIn P ks := h
    injection h1 with h2 h3
    obtain ⟨g1, g2⟩ := no_key h3 fun k hk => hn k (List.mem_cons_of_mem _ hk)
    unfold He.keyOf at h2
    split at h2
    · rename_i x t q
      have h4 := Option.some.inj h2
      obtain ⟨h5, h6⟩ := Prod.mk.inj h4
      have hx : (x == z) = false := by
        rw [h5]
        have := hn k List.mem_cons_self
        exact beq_eq_false_iff_ne.mpr this
      refine ⟨?_, ?_⟩
      · rw [List.find?_cons, q]
        show (match (x == z) with | true => some e | false => _) = none
        rw [hx]; exact g1
      · rw [List.any_cons, g2]
        unfold DictEntry.refKey
        rw [q]; rfl
    · cases h2
theorem tab_of {K : PySem.W.Frag} {w : World} {a : Addr} {t : Rows} (h : He.dicW K a = some (He.keysIn w.params (t.map fun r => S r.1))) (hv : He.valsB K a (tabDv t) = true) : TabAt K w a t := by
  obtain ⟨es, n, D⟩ := He.dicW_ok h
  refine ⟨es, n, D, fun z => ?_⟩
  cases e : atK t z with
  | some v => exact He.valsB_ok hv (atK_mem e)
  | none =>
    have hk : es.toList.map He.keyOf = He.keysIn w.params (t.map fun r => S r.1) := by
      unfold He.dicW at h
      rw [D.at_] at h
      have h1 : (match decide (("dict" : String) = "dict") && (((#[] : Array (Option Value))).isEmpty && !(a == sysModules)) with
        | true => some (es.toList.map He.keyOf)
        | false => none) = some (He.keysIn w.params (t.map fun r => S r.1)) := h
      rw [D.low] at h1
      exact Option.some.inj h1
    obtain ⟨g1, g2⟩ := no_key hk (atK_none e)
    show PySem.W.nsIn K a z = some none
    unfold PySem.W.nsIn
    rw [D.at_]
    show (match List.find? (fun x => x.key.isStr z) es.toList with | some e => some (some e.val) | none => if (es.toList.any fun x => x.refKey) = true then none else some none) = some none
    rw [g1, g2]; rfl
section
variable {X : Cx}
def mInTab (t : Rows) (d : Addr) : R2 := fun x y H Q => y = .ref d ∧ match x with
  | .str z => Q (.bl (hasK t z)) H
  | _ => False
def mNinTab (t : Rows) (d : Addr) : R2 := fun x y H Q => y = .ref d ∧ match x with
  | .str z => Q (.bl (!hasK t z)) H
  | _ => False
def mIxTab (t : Rows) (d : Addr) : R2 := fun x y H Q => x = .ref d ∧ match y with
  | .str z => ∃ v, atK t z = some v ∧ Q (.str (S v)) H
  | _ => False
theorem op_inTab {t : Rows} {d : Addr} (h : TabAt X.K X.w d t) : OpR X (compareOp .In) (mInTab t d) := by
  obtain ⟨es, n, D, hz⟩ := h
  refine opR_imp (op_in_kd D) fun x y H Q q => ?_
  obtain ⟨rfl, q⟩ := q
  split at q
  · rename_i z
    have := hz z
    rw [hasK_atK] at q
    cases e : atK t z with
    | some v =>
      rw [e] at this q
      obtain ⟨u, h1, _⟩ := this
      exact ⟨z, _, rfl, rfl, h1, q⟩
    | none =>
      rw [e] at this q
      exact ⟨z, _, rfl, rfl, this, q⟩
  · exact q.elim
theorem op_ninTab {t : Rows} {d : Addr} (h : TabAt X.K X.w d t) : OpR X (compareOp .NotIn) (mNinTab t d) := by
  obtain ⟨es, n, D, hz⟩ := h
  refine opR_imp (op_notIn_kd D) fun x y H Q q => ?_
  obtain ⟨rfl, q⟩ := q
  split at q
  · rename_i z
    have := hz z
    rw [hasK_atK] at q
    cases e : atK t z with
    | some v =>
      rw [e] at this q
      obtain ⟨u, h1, _⟩ := this
      exact ⟨z, _, rfl, rfl, h1, q⟩
    | none =>
      rw [e] at this q
      exact ⟨z, _, rfl, rfl, this, q⟩
  · exact q.elim
theorem ixR_tab {t : Rows} {d : Addr} (h : TabAt X.K X.w d t) : IxR X (mIxTab t d) := by
  obtain ⟨es, n, D, hz⟩ := h
  refine ixR_imp ix_kdict fun x y H Q q => ?_
  obtain ⟨rfl, q⟩ := q
  split at q
  · rename_i z
    obtain ⟨v, e, q⟩ := q
    have := hz z
    rw [e] at this
    obtain ⟨u, h1, h2⟩ := this
    exact ⟨d, z, .str (S v), rfl, rfl, ⟨es, n, u, D.at_, D.lit, h1, h2⟩, q⟩
  · exact q.elim
theorem me_ixTab {a b : Expr} {ta tb : TE} {pos : Pos} {t : Rows} {d : Addr} (h : TabAt X.K X.w d t) (ha : PE X a ta) (hb : PE X b tb) (hs : PlainIx b) : PE X (.Subscript a b pos) (tOp (mIxTab t d) ta tb) := pe_ix (ixR_tab h) ha hb hs
theorem ms_setLc2 {i : Nat} {y : Str} {py : Pos} {elt tg iter tg1 iter1 : Expr} {ifs ifs1 : List Expr} {scope : Scope} {own : List (Str × Nat)} {vs1 : List Nat} {pos spos : Pos} {wi wi1 : MI} {g g1 : TG} {tt tt1 : TT} {te : TE} (hc : X.calm = true) (hN : X.N.Nodup) (hy : X.N[i]? = some y) (hyl : X.env.scope.names.lookup y = some .local)
    (hsw : swapsWith (.ListComp elt [⟨tg, iter, ifs, 0⟩, ⟨tg1, iter1, ifs1, 0⟩] scope pos) (some (.Name y py)) spos.line X.env = pure true) (hi : PI X tg iter (toTI wi)) (ok : BlkOk X.N X.env.scope scope own) (hv : ∀ i ∈ vs1, i ∈ own.map (·.2))
    (hg : ∀ (s : Shared) (H : Hp) (C : Addr) (cl : List (Str × Addr)) (fp : List Addr), PG (X.blk s H scope (compEnvC scope cl C X.env) fp) tg g) (ht : ∀ (s : Shared) (H : Hp) (C : Addr) (cl : List (Str × Addr)) (fp : List Addr), PTs (X.blk s H scope (compEnvC scope cl C X.env) fp) ifs tt)
    (hi1 : ∀ (s : Shared) (H : Hp) (C : Addr) (cl : List (Str × Addr)) (fp : List Addr), PI (X.blk s H scope (compEnvC scope cl C X.env) fp) tg1 iter1 (toTI wi1))
    (hg1 : ∀ (s : Shared) (H : Hp) (C : Addr) (cl : List (Str × Addr)) (fp : List Addr), PG (X.blk s H scope (compEnvC scope cl C X.env) fp) tg1 g1) (ht1 : ∀ (s : Shared) (H : Hp) (C : Addr) (cl : List (Str × Addr)) (fp : List Addr), PTs (X.blk s H scope (compEnvC scope cl C X.env) fp) ifs1 tt1)
    (he : ∀ (s : Shared) (H : Hp) (C : Addr) (cl : List (Str × Addr)) (fp : List Addr), PE (X.blk s H scope (compEnvC scope cl C X.env) fp) elt te) (hs : ∀ x, foldedSetIterable iter X.env x = pure x := by intro _; rfl) (hs1 : ∀ env x, foldedSetIterable iter1 env x = pure x := by intro _ _; rfl) :
    PS X (.Assign [.Name y py] (.ListComp elt [⟨tg, iter, ifs, 0⟩, ⟨tg1, iter1, ifs1, 0⟩] scope pos) spos) (tAsg (mLc2 wi g tt wi1 g1 tt1 te (own.map (·.2)) vs1) (gName i)) :=
  ps_imp (ps_setLc2 hc hN hy hyl hsw hi ok hv (fun s H C cl fp => pg_cl (hg s H C cl fp)) (fun s H C cl fp => pts_cl (ht s H C cl fp)) hi1 hg1 ht1 he hs hs1) fun D σ H q => lc2_toM (Q := fun x H1 => gName i x σ H1 D.nx) q
end
theorem q_nin1 {c : Nat} {z : List Nat} {H : Hp} {Q : VK} : mNinC (.str (S [c])) (.str (S z)) H Q = Q (.bl (!decide (c ∈ z))) H := by
  show (∃ k, S [c] = S [k] ∧ Q (.bl (!decide (k ∈ (S z).cps.toList))) H) = _
  rw [S_cps]
  refine propext ⟨fun ⟨k, e, h⟩ => ?_, fun h => ⟨c, rfl, h⟩⟩
  have := S_inj.mp e
  simp only [List.cons.injEq, and_true] at this
  rw [this]; exact h
theorem q_intab {t : Rows} {d : Addr} {z : Str} {H : Hp} {Q : VK} : mInTab t d (.str z) (.ref d) H Q = Q (.bl (hasK t z)) H := propext ⟨fun h => h.2, fun h => ⟨rfl, h⟩⟩
theorem q_ninta {t : Rows} {d : Addr} {z : Str} {H : Hp} {Q : VK} : mNinTab t d (.str z) (.ref d) H Q = Q (.bl (!hasK t z)) H := propext ⟨fun h => h.2, fun h => ⟨rfl, h⟩⟩
theorem q_ixtab {t : Rows} {d : Addr} {z : Str} {H : Hp} {Q : VK} : mIxTab t d (.ref d) (.str z) H Q = ∃ v, atK t z = some v ∧ Q (.str (S v)) H := propext ⟨fun h => h.2, fun h => ⟨rfl, h⟩⟩
/-! ### the Hook with tables -/
abbrev TabX : Type := Str × Rows
abbrev AlXT : Type := AlX × List (Option (List (Option (Str × Int))))
def obsXT (fa : List FaX) (fn : List DefX) (ts : List TabX) (K : PySem.W.Frag) : AlXT := (obsX fa fn K, ts.map fun t => He.dicW K (He.ga K t.1))
def valXT (fn : List DefX) (ts : List TabX) (w : World) : AlXT := (valX fn, ts.map fun t => some (He.keysIn w.params (t.2.map fun r => S r.1)))
def obsXTG (n : Nat) (fa : List FaX) (fn : List DefX) (ts : List TabX) (g : Addr → Option Obj) : AlXT := obsXT fa fn ts (He.frG g (sysModules :: asX g n))
def SaysXT (fa : List FaX) (fn : List DefX) (ts : List TabX) (w : World) (K : PySem.W.Frag) : Prop := obsXT fa fn ts K = valXT fn ts w
def hookXT (n : Nat) (fa : List FaX) (fn : List DefX) (ts : List TabX) : PySem.W.Hook where
  α := AlXT
  obs := fun s => obsXTG n fa fn ts s.heap.get?
  val := fun w => valXT fn ts w
  says := fun w h => ∃ K : PySem.W.Frag, K.In h ∧ SaysXT fa fn ts w K
  of := fun _ _ e => ⟨_, He.frG_in, e⟩
  keeps := fun _ _ _ ⟨K, hK, c⟩ k => ⟨K, PySem.W.Frag.In.keeps hK k, c⟩
theorem obsXTG_eq {n : Nat} {fa : List FaX} {fn : List DefX} {ts : List TabX} {g : Addr → Option Obj} {s : Shared} (h : ∀ a, g a = s.heap.get? a) : obsXTG n fa fn ts g = (hookXT n fa fn ts).obs s := by
  have e : g = s.heap.get? := funext h
  rw [e] <;> rfl
section
variable {fa : List FaX} {fn : List DefX} {ts : List TabX} {w : World} {K : PySem.W.Frag}
theorem SaysXT.d (c : SaysXT fa fn ts w K) : SaysX fa fn K := congrArg (fun z : AlXT => z.1) c
theorem SaysXT.tab (c : SaysXT fa fn ts w K) (i : Nat) {t : TabX} (h : ts[i]? = some t := by rfl) (hv : He.valsB K (He.ga K t.1) (tabDv t.2) = true) : TabAt K w (He.ga K t.1) t.2 := by
  have e : ts.map (fun t => He.dicW K (He.ga K t.1)) = ts.map fun t => some (He.keysIn w.params (t.2.map fun r => S r.1)) := congrArg (fun z : AlXT => z.2) c
  have e2 : (ts.map fun t => He.dicW K (He.ga K t.1))[i]? = (ts.map fun t => some (He.keysIn w.params (t.2.map fun r => S r.1)))[i]? := by rw [e]
  rw [List.getElem?_map, List.getElem?_map, h] at e2
  exact tab_of (Option.some.inj e2) hv
end
end M

namespace M
open PySem PySem.Spec PyProof.Rows L2

/-! ### cuts -/
section
variable {α : Type} (l : List α)
theorem cut_from (i : Nat) : cutL l (some (i : Int)) none = l.drop i := by
  unfold cutL
  rw [HT.sIx_nat, HT.sIx_none]
  by_cases h : i ≤ l.length
  · rw [Nat.min_eq_left h]
    exact List.take_of_length_le (by rw [List.length_drop]; omega)
  · rw [Nat.min_eq_right (by omega), List.drop_length, List.drop_eq_nil_of_le (by omega)]; simp
theorem cut_to (i : Nat) : cutL l none (some (i : Int)) = l.take i := by
  unfold cutL
  rw [HT.sIx_nat, HT.sIx_none, List.drop_zero, Nat.sub_zero]
  by_cases h : i ≤ l.length
  · rw [Nat.min_eq_left h]
  · rw [Nat.min_eq_right (by omega), List.take_length, List.take_of_length_le (by omega)]
theorem cut_mid (i j : Nat) : cutL l (some (i : Int)) (some (j : Int)) = (l.drop i).take (j - i) := by
  unfold cutL
  rw [HT.sIx_nat, HT.sIx_nat]
  by_cases h : i ≤ l.length
  · rw [Nat.min_eq_left h]
    by_cases h2 : j ≤ l.length
    · rw [Nat.min_eq_left h2]
    · rw [Nat.min_eq_right (by omega), List.take_of_length_le (by rw [List.length_drop]; omega), List.take_of_length_le (by rw [List.length_drop]; omega)]
  · rw [Nat.min_eq_right (show l.length ≤ i by omega), List.drop_length, List.drop_eq_nil_of_le (show l.length ≤ i by omega)]; simp
theorem cut_all : cutL l none none = l := by
  unfold cutL
  rw [HT.sIx_none, HT.sIx_none, List.drop_zero, Nat.sub_zero, List.take_length]
theorem sIx_neg (n d k : Nat) (hk : 0 < k) : HT.sIx n d (some (-(k : Int))) = n - k := by
  show (if (-(k : Int)) < 0 then (-(k : Int) + (n : Int)).toNat else _) = _
  rw [if_pos (by omega)]; omega
theorem cut_fromN (k : Nat) (hk : 0 < k) : cutL l (some (-(k : Int))) none = l.drop (l.length - k) := by
  unfold cutL
  rw [sIx_neg _ _ _ hk, HT.sIx_none]
  exact List.take_of_length_le (by rw [List.length_drop]; omega)
theorem cut_toN (k : Nat) (hk : 0 < k) : cutL l none (some (-(k : Int))) = l.take (l.length - k) := by
  unfold cutL
  rw [sIx_neg _ _ _ hk, HT.sIx_none, List.drop_zero, Nat.sub_zero]
theorem cut_midN (i k : Nat) (hk : 0 < k) : cutL l (some (i : Int)) (some (-(k : Int))) = (l.drop i).take (l.length - k - i) := by
  unfold cutL
  rw [sIx_neg _ _ _ hk, HT.sIx_nat]
  by_cases h : i ≤ l.length
  · rw [Nat.min_eq_left h]
  · rw [Nat.min_eq_right (show l.length ≤ i by omega), List.drop_length, List.drop_eq_nil_of_le (show l.length ≤ i by omega)]; simp
end
theorem cut_m3 {α : Type} (l : List α) : cutL l (some (-3)) none = l.drop (l.length - 3) := cut_fromN l 3 (by decide)
theorem cut_t3 {α : Type} (l : List α) : cutL l none (some (-3)) = l.take (l.length - 3) := cut_toN l 3 (by decide)
theorem cut_m1 {α : Type} (l : List α) : cutL l (some (-1)) none = l.drop (l.length - 1) := cut_fromN l 1 (by decide)
theorem cut_t1 {α : Type} (l : List α) : cutL l none (some (-1)) = l.take (l.length - 1) := cut_toN l 1 (by decide)
theorem cut_t2 {α : Type} (l : List α) : cutL l none (some (-2)) = l.take (l.length - 2) := cut_toN l 2 (by decide)
theorem S_def (z : Str) : ∃ l, z = S l := ⟨_, (S_of z).symm⟩
theorem S_eq {a b : List Nat} : (S a = S b) = (a = b) := propext S_inj
theorem szl : (sizeLine : Nat) = 16777216 := sizeLine_eq

/-! ### trees -/
inductive Tr where
  | lf
  | nd (l r : Tr)
  deriving DecidableEq
namespace Tr
def s : Tr → List Nat
  | .lf => [46]
  | .nd l r => 40 :: (l.s ++ (r.s ++ [41]))
def n : Tr → Nat
  | .lf => 0
  | .nd l r => l.n + r.n + 1
theorem s_len : ∀ t : Tr, t.s.length = 3 * t.n + 1
  | .lf => rfl
  | .nd l r => by simp only [s, n, List.length_cons, List.length_append, List.length_nil, s_len l, s_len r]; omega
end Tr

/-! ### is_tree -/
/-- one sign onto the waiting ones -/
def itStep (w : List Nat) (c : Nat) : Option (List Nat) :=
  if c = 41 then (if w.drop (w.length - 3) = [40, 46, 46] then some (w.take (w.length - 3) ++ [46]) else none)
  else if c = 40 ∨ c = 46 then some (w ++ [c]) else none
def itRun : List Nat → List Nat → Option (List Nat)
  | w, [] => some w
  | w, c :: r => (itStep w c).bind fun w' => itRun w' r
def isTr (l : List Nat) : Bool := decide (itRun [] l = some [46])
theorem itRun_app : ∀ (a b w : List Nat), itRun w (a ++ b) = (itRun w a).bind fun w' => itRun w' b
  | [], b, w => rfl
  | c :: a, b, w => by
    show (itStep w c).bind _ = ((itStep w c).bind _).bind _
    cases itStep w c with
    | none => rfl
    | some w' => exact itRun_app a b w'
theorem itRun_tree : ∀ (t : Tr) (w : List Nat), itRun w t.s = some (w ++ [46])
  | .lf, w => by simp [Tr.s, itRun, itStep]
  | .nd l r, w => by
    show (itStep w 40).bind _ = _
    have e1 : itStep w 40 = some (w ++ [40]) := by simp [itStep]
    rw [e1]
    show itRun (w ++ [40]) (l.s ++ (r.s ++ [41])) = _
    rw [itRun_app, itRun_tree l]
    show itRun (w ++ [40] ++ [46]) (r.s ++ [41]) = _
    rw [itRun_app, itRun_tree r]
    show (itStep (w ++ [40] ++ [46] ++ [46]) 41).bind _ = _
    have e2 : itStep (w ++ [40] ++ [46] ++ [46]) 41 = some (w ++ [46]) := by
      simp [itStep]
    rw [e2]; rfl
/-- waiting signs stand for the signs read -/
inductive Waits : List Nat → List Nat → Prop where
  | nil : Waits [] []
  | op {w l : List Nat} : Waits w l → Waits (w ++ [40]) (l ++ [40])
  | tr {w l : List Nat} (t : Tr) : Waits w l → Waits (w ++ [46]) (l ++ t.s)
theorem Waits.last {w l : List Nat} {c : Nat} (h : Waits (w ++ [c]) l) : (c = 40 ∧ ∃ l', l = l' ++ [40] ∧ Waits w l') ∨ (c = 46 ∧ ∃ (l' : List Nat) (t : Tr), l = l' ++ t.s ∧ Waits w l') := by
  generalize e : w ++ [c] = v at h
  cases h with
  | nil => simp at e
  | op h =>
    obtain ⟨rfl, e2⟩ := List.append_inj' e rfl
    cases e2
    exact .inl ⟨rfl, _, rfl, h⟩
  | tr t h =>
    obtain ⟨rfl, e2⟩ := List.append_inj' e rfl
    cases e2
    exact .inr ⟨rfl, _, t, rfl, h⟩
theorem Waits.step {w l w' : List Nat} {c : Nat} (h : Waits w l) (e : itStep w c = some w') : Waits w' (l ++ [c]) := by
  unfold itStep at e
  split at e
  · rename_i hc
    subst hc
    split at e
    · rename_i h3
      cases e
      have ew : w = w.take (w.length - 3) ++ [40] ++ [46] ++ [46] := by
        have := List.take_append_drop (w.length - 3) w
        rw [h3] at this
        simpa using this.symm
      rw [ew] at h
      rcases h.last with ⟨q, _⟩ | ⟨_, l1, t1, rfl, h1⟩
      · cases q
      rcases h1.last with ⟨q, _⟩ | ⟨_, l2, t2, rfl, h2⟩
      · cases q
      rcases h2.last with ⟨_, l3, rfl, h3⟩ | ⟨q, _⟩
      · have := Waits.tr (.nd t2 t1) h3
        simpa [Tr.s] using this
      · cases q
    · cases e
  · split at e
    · rename_i hc
      cases e
      rcases hc with rfl | rfl
      · exact .op h
      · exact .tr .lf h
    · cases e
theorem Waits.run : ∀ {r w l w' : List Nat}, Waits w l → itRun w r = some w' → Waits w' (l ++ r)
  | [], w, l, w', h, e => by
    cases e; simpa using h
  | c :: r, w, l, w', h, e => by
    have e' : (itStep w c).bind (fun w' => itRun w' r) = some w' := e
    cases q : itStep w c with
    | none => rw [q] at e'; cases e'
    | some v =>
      rw [q] at e'
      have := Waits.run (h.step q) e'
      simpa using this
theorem isTr_iff (l : List Nat) : isTr l = true ↔ ∃ t : Tr, l = t.s := by
  unfold isTr
  rw [decide_eq_true_eq]
  constructor
  · intro h
    have q := Waits.run .nil h
    have q' : Waits ([] ++ [46]) l := by simpa using q
    rcases q'.last with ⟨z, _⟩ | ⟨_, l', t, rfl, z⟩
    · cases z
    · generalize e : ([] : List Nat) = v at z
      cases z with
      | nil => exact ⟨t, by simp⟩
      | op _ => simp at e
      | tr _ _ => simp at e
  · rintro ⟨t, rfl⟩
    simpa using itRun_tree t []
theorem isTr_s (t : Tr) : isTr t.s = true := (isTr_iff _).mpr ⟨t, rfl⟩
theorem itStep_len {w w' : List Nat} {c : Nat} (e : itStep w c = some w') : w'.length ≤ w.length + 1 := by
  unfold itStep at e
  split at e
  · split at e
    · cases e; simp
      try omega
    · cases e
  · split at e
    · cases e; simp
    · cases e
end M

namespace M
open PySem PySem.Spec PyProof.Rows L2

/-! ### places -/
section
variable {α : Type}
theorem aI_nat (xs : List α) (i : Nat) : atI xs (i : Int) = xs[i]? := by
  unfold atI ixN
  rw [if_pos (by omega)]
  by_cases h : i < xs.length
  · rw [if_pos (by omega)]; simp
  · rw [if_neg (by omega), List.getElem?_eq_none (by omega)]; rfl
theorem aI_neg (xs : List α) (k : Nat) (hk : 0 < k) (h : k ≤ xs.length) : atI xs (-(k : Int)) = xs[xs.length - k]? := by
  unfold atI ixN
  rw [if_neg (by omega), if_pos (by omega)]
  show xs[(-(k : Int) + (xs.length : Int)).toNat]? = _
  congr 1
  omega
theorem aI_0 (x : α) (xs : List α) : atI (x :: xs) 0 = some x := aI_nat (x :: xs) 0
theorem aI_1 (x y : α) (xs : List α) : atI (x :: y :: xs) 1 = some y := aI_nat (x :: y :: xs) 1
theorem aI_2 (x y z : α) (xs : List α) : atI (x :: y :: z :: xs) 2 = some z := aI_nat (x :: y :: z :: xs) 2
theorem aI_3 (x y z u : α) (xs : List α) : atI (x :: y :: z :: u :: xs) 3 = some u := aI_nat (x :: y :: z :: u :: xs) 3
theorem aI_m1 (xs : List α) (v : α) : atI (xs ++ [v]) (-1) = some v := atI_last xs v
theorem aI_m2 (xs : List α) (u v : α) : atI (xs ++ [u, v]) (-2) = some u := by
  have e := aI_neg (xs ++ [u, v]) 2 (by decide) (by simp)
  rw [show ((2 : Nat) : Int) = 2 from rfl] at e
  rw [e]
  simp
theorem aI_m1' (xs : List α) (u v : α) : atI (xs ++ [u, v]) (-1) = some v := by
  have e := aI_neg (xs ++ [u, v]) 1 (by decide) (by simp)
  rw [show ((1 : Nat) : Int) = 1 from rfl] at e
  rw [e]
  simp
theorem iN_nat {n i : Nat} (h : i < n) : ixN n (i : Int) = some i := by
  unfold ixN
  rw [if_pos (by omega), if_pos (by omega)]; simp
theorem iN_m1 {n : Nat} (h : 0 < n) : ixN n (-1) = some (n - 1) := by
  unfold ixN
  rw [if_neg (by omega), if_pos (by omega)]
  congr 1
  omega
end

/-! ### data -/
def dStrs (l : List (List Nat)) : List PyData := l.map fun z => .str (S z)
def dInts (l : List Int) : List PyData := l.map .int
theorem dp_strs {K : PySem.W.Frag} {H : Hp} : ∀ l : List (List Nat), DpAll K H (l.map fun z => V.str (S z)) (dStrs l)
  | [] => .nil
  | z :: l => .cons (.str _) (dp_strs l)
theorem dp_ints {K : PySem.W.Frag} {H : Hp} : ∀ l : List Int, DpAll K H (l.map V.int) (dInts l)
  | [] => .nil
  | z :: l => .cons (.int _) (dp_ints l)
/-- codes of a text -/
def okc (l : List Nat) : Prop := ∀ c ∈ l, c < 1114112
theorem okc_app {a b : List Nat} (h1 : okc a) (h2 : okc b) : okc (a ++ b) := fun c h => (List.mem_append.mp h).elim (h1 c) (h2 c)
theorem okS {z : List Nat} (h : okc z) : PyData.strOk (S z) = true := by
  unfold PyData.strOk
  simp only [S, List.all_toArray, List.all_eq_true, decide_eq_true_eq]
  exact h
theorem lay_strs : ∀ l : List (List Nat), (∀ z ∈ l, okc z) → PyData.canLayAll0 (dStrs l) = true
  | [], _ => rfl
  | z :: l, h => by
    show PyData.canLayAll0 (.str (S z) :: dStrs l) = true
    simp only [PyData.canLayAll0, PyData.canLay0, lay_strs l fun y hy => h y (List.mem_cons_of_mem _ hy), okS (h z List.mem_cons_self), Bool.and_self]
theorem lay_ints : ∀ l, PyData.canLayAll0 (dInts l) = true
  | [] => rfl
  | z :: l => by show PyData.canLayAll0 (.int z :: dInts l) = true; simp only [PyData.canLayAll0, PyData.canLay0, lay_ints l, Bool.and_self]
theorem dep_strs : ∀ l, PyData.depthAll (dStrs l) = 0
  | [] => rfl
  | z :: l => by show PyData.depthAll (.str (S z) :: dStrs l) = 0; simp only [PyData.depthAll, PyData.depth, dep_strs l]; rfl
theorem dep_ints : ∀ l, PyData.depthAll (dInts l) = 0
  | [] => rfl
  | z :: l => by show PyData.depthAll (.int z :: dInts l) = 0; simp only [PyData.depthAll, PyData.depth, dep_ints l]; rfl
theorem eqv_strs : ∀ a b : List (List Nat), PyData.eqvAll (dStrs a) (dStrs b) = decide (a = b)
  | [], [] => rfl
  | [], z :: b => rfl
  | z :: a, [] => rfl
  | y :: a, z :: b => by
    show PyData.eqvAll (.str (S y) :: dStrs a) (.str (S z) :: dStrs b) = _
    simp only [PyData.eqvAll, PyData.eqv, eqv_strs a b]
    by_cases h : y = z
    · subst h; simp
    · have : ¬ S y = S z := fun q => h (S_inj.mp q)
      simp [h, this]
theorem eqv_ints : ∀ a b : List Int, PyData.eqvAll (dInts a) (dInts b) = decide (a = b)
  | [], [] => rfl
  | [], z :: b => rfl
  | z :: a, [] => rfl
  | y :: a, z :: b => by
    show PyData.eqvAll (.int y :: dInts a) (.int z :: dInts b) = _
    simp only [PyData.eqvAll, PyData.eqv, eqv_ints a b]
    by_cases h : y = z
    · subst h; simp
    · simp [h]
section
variable {K : PySem.W.Frag} {neg : Bool} {H : Hp} {Q : VK}
/-- two lists of texts compared -/
theorem eq_strs {p q : Addr} {a b : List (List Nat)} (h1 : SqL K H p (a.map fun z => V.str (S z))) (h2 : SqL K H q (b.map fun z => V.str (S z))) (oa : ∀ z ∈ a, okc z) (ob : ∀ z ∈ b, okc z) (k : Q (.bl (if neg then !decide (a = b) else decide (a = b))) H) : rEqW K neg (.ref p) (.ref q) H Q :=
  ⟨.list (dStrs a), .list (dStrs b), .lst h1 (dp_strs a), .lst h2 (dp_strs b), by simpa only [PyData.canLay0] using lay_strs a oa, by simpa only [PyData.canLay0] using lay_strs b ob, by simp only [PyData.depth, dep_strs]; decide, by simpa only [PyData.eqv, eqv_strs] using k⟩
theorem eq_ints {p q : Addr} {a b : List Int} (h1 : SqL K H p (a.map V.int)) (h2 : SqL K H q (b.map V.int)) (k : Q (.bl (if neg then !decide (a = b) else decide (a = b))) H) : rEqW K neg (.ref p) (.ref q) H Q :=
  ⟨.list (dInts a), .list (dInts b), .lst h1 (dp_ints a), .lst h2 (dp_ints b), by simpa only [PyData.canLay0] using lay_ints a, by simpa only [PyData.canLay0] using lay_ints b, by simp only [PyData.depth, dep_ints]; decide, by simpa only [PyData.eqv, eqv_ints] using k⟩
end

/-! ### nests: trees as pairs -/
inductive Nst (K : PySem.W.Frag) (H : Hp) : V → Tr → Prop
  | lf {a : Addr} : SqT K H a [] → Nst K H (.ref a) .lf
  | nd {a : Addr} {l r : V} {t u : Tr} : SqT K H a [l, r] → Nst K H l t → Nst K H r u → Nst K H (.ref a) (.nd t u)
theorem Nst.ex {K : PySem.W.Frag} {H H' : Hp} (e : Ex H H') {v : V} {t : Tr} (h : Nst K H v t) : Nst K H' v t := by
  induction h with
  | lf h => exact .lf (e.T h)
  | nd h _ _ i1 i2 => exact .nd (e.T h) i1 i2
def Tr.dat : Tr → PyData
  | .lf => .tuple []
  | .nd l r => .tuple [l.dat, r.dat]
theorem Nst.dp {K : PySem.W.Frag} {H : Hp} {v : V} {t : Tr} (h : Nst K H v t) : Dp K H v t.dat := by
  induction h with
  | lf h => exact .tup h .nil
  | nd h _ _ i1 i2 => exact .tup h (.cons i1 (.cons i2 .nil))
theorem Tr.lay : ∀ t : Tr, t.dat.canLay0 = true
  | .lf => rfl
  | .nd l r => by simp only [Tr.dat, PyData.canLay0, PyData.canLayAll0, Tr.lay l, Tr.lay r, Bool.and_self]
/-- a nest == () -/
theorem eq_nil {K : PySem.W.Frag} {H : Hp} {Q : VK} {v : V} {t : Tr} {q : Addr} (h : Nst K H v t) (h2 : SqT K H q []) (k : Q (.bl (decide (t = .lf))) H) : rEqW K false v (.ref q) H Q := by
  refine ⟨t.dat, .tuple [], h.dp, .tup h2 .nil, t.lay, rfl, Nat.le_trans (Nat.min_le_right _ _) (by simp only [PyData.depth, PyData.depthAll]; decide), ?_⟩
  have e : PyData.eqv t.dat (.tuple []) = decide (t = .lf) := by
    cases t with
    | lf => rfl
    | nd l r => simp [Tr.dat, PyData.eqv, PyData.eqvAll]
  rw [if_neg Bool.false_ne_true, e]
  exact k
theorem Nst.ref {K : PySem.W.Frag} {H : Hp} {v : V} {t : Tr} (h : Nst K H v t) : ∃ a, v = .ref a := by
  cases h <;> exact ⟨_, rfl⟩

/-! ### roads to leaves and nodes -/
namespace Tr
def lvs : Tr → List Nat → List (List Nat)
  | .lf, r => [r]
  | .nd a b, r => a.lvs (r ++ [108]) ++ b.lvs (r ++ [114])
def nds : Tr → List Nat → List (List Nat)
  | .lf, _ => []
  | .nd a b, r => a.nds (r ++ [108]) ++ ([r] ++ b.nds (r ++ [114]))
theorem lvs_len : ∀ (t : Tr) (r : List Nat), (t.lvs r).length = t.n + 1
  | .lf, _ => rfl
  | .nd a b, r => by simp only [lvs, n, List.length_append, lvs_len a, lvs_len b]; omega
theorem nds_len : ∀ (t : Tr) (r : List Nat), (t.nds r).length = t.n
  | .lf, _ => rfl
  | .nd a b, r => by simp only [nds, n, List.length_append, nds_len a, nds_len b, List.length_cons, List.length_nil]; omega
end Tr
end M
namespace M
open PySem PySem.Spec PyProof.Rows L2
theorem Fm.refl (m : List Addr) (H : Hp) : Fm m H H := fun _ _ _ h => h
theorem Fm.trans {m : List Addr} {H H1 H2 : Hp} (a : Fm m H H1) (b : Fm m H1 H2) : Fm m H H2 := fun x o n h => b x o n (a x o n h)
theorem Fm.ex {m : List Addr} {H H1 : Hp} (a : Ex H H1) : Fm m H H1 := fun x o _ h => a x o h
theorem Fm.new {m : List Addr} {H : Hp} {p : Addr} {o : HO} (h : H p = none) : Fm m H (upd H p o) := Fm.ex (Ex.new h)
theorem Fm.mut {m : List Addr} {H : Hp} {p : Addr} {o : HO} (h : p ∈ m) : Fm m H (upd H p o) := fun a u n e => by
  have : a ≠ p := fun z => n (z ▸ h)
  rw [upd_ne this]; exact e
theorem Fm.nil {H H1 : Hp} (a : Fm [] H H1) : Ex H H1 := fun x o h => a x o (by simp) h
theorem Fm.at_ {m : List Addr} {H H1 : Hp} (a : Fm m H H1) {p : Addr} {o : HO} (n : p ∉ m) (h : H p = some o) : H1 p = some o := a p o n h
/-- a purse of random numbers -/
def Pu (H : Hp) (g : Addr) (n : Nat) : Prop := ∃ a b c : Int, H g = some (.lst [.int a, .int b, .int c]) ∧ 0 ≤ a ∧ a < 2 ^ 2000 ∧ 0 ≤ b ∧ b < 2 ^ 31 ∧ 0 ≤ c ∧ c < n
theorem Pu.mono {H : Hp} {g : Addr} {n m : Nat} (h : n ≤ m) (p : Pu H g n) : Pu H g m := by
  obtain ⟨a, b, c, h1, h2, h3, h4, h5, h6, h7⟩ := p
  exact ⟨a, b, c, h1, h2, h3, h4, h5, h6, by omega⟩
theorem Pu.fm {H H1 : Hp} {g : Addr} {n : Nat} (e : Ex H H1) (p : Pu H g n) : Pu H1 g n := by
  obtain ⟨a, b, c, h1, r⟩ := p
  exact ⟨a, b, c, e _ _ h1, r⟩
theorem mulOk (a b : Nat) {i j : Int} (h1 : 0 ≤ i) (h2 : i < (2 : Int) ^ a) (h3 : 0 ≤ j) (h4 : j < (2 : Int) ^ b) (h0 : 0 < a := by decide) (h5 : 0 < b := by decide) (h6 : a + b ≤ 1000000 := by decide) : MulOk i j := by
  refine MulOk.of a b ?_ ?_ h0 h5 h6
  · have : (i.natAbs : Int) < ((2 ^ a : Nat) : Int) := by rw [Int.natAbs_of_nonneg h1]; exact_mod_cast h2
    exact_mod_cast this
  · have : (j.natAbs : Int) < ((2 ^ b : Nat) : Int) := by rw [Int.natAbs_of_nonneg h3]; exact_mod_cast h4
    exact_mod_cast this
theorem divOk (b : Nat) {j : Int} (h : 0 < j) (h4 : j < (2 : Int) ^ b) (h0 : 0 < b := by decide) (h9 : b ≤ 9000 := by decide) : DivOk j := by
  refine DivOk.of b h ?_ h0 h9
  have : (j.natAbs : Int) < ((2 ^ b : Nat) : Int) := by rw [Int.natAbs_of_nonneg (by omega)]; exact_mod_cast h4
  exact_mod_cast this
theorem bits_le {i : Int} {b : Nat} (h : 0 ≤ i) (h4 : i < (2 : Int) ^ b) : Builtin.Int.intBits i ≤ b := by
  unfold Builtin.Int.intBits
  by_cases e : i = 0
  · subst e; simp
  · have e' : (i == 0) = false := by simpa using e
    rw [e', if_neg Bool.false_ne_true]
    have : (i.natAbs : Int) < ((2 ^ b : Nat) : Int) := by rw [Int.natAbs_of_nonneg h]; exact_mod_cast h4
    have h5 : i.natAbs < 2 ^ b := by exact_mod_cast this
    have h6 : i.natAbs ≠ 0 := by omega
    have := (Nat.log2_lt h6).mpr h5
    omega
end M
namespace M
open PySem PySem.Spec PyProof.Rows L2
/-- what is no list stays -/
def Nl (H H' : Hp) : Prop := ∀ a o, (∀ xs, o ≠ .lst xs) → H a = some o → H' a = some o
theorem Nl.refl (H : Hp) : Nl H H := fun _ _ _ h => h
theorem Nl.trans {H H1 H2 : Hp} (a : Nl H H1) (b : Nl H1 H2) : Nl H H2 := fun x o n h => b x o n (a x o n h)
theorem Nl.ex {H H1 : Hp} (a : Ex H H1) : Nl H H1 := fun x o _ h => a x o h
theorem Nl.new {H : Hp} {p : Addr} {o : HO} (h : H p = none) : Nl H (upd H p o) := Nl.ex (Ex.new h)
theorem Nl.mut {H : Hp} {p : Addr} {o : HO} {xs : List V} (h : H p = some (.lst xs)) : Nl H (upd H p o) := fun a u n e => by
  have : a ≠ p := fun z => by rw [z, h] at e; cases e; exact n _ rfl
  rw [upd_ne this]; exact e
theorem Nl.T {K : PySem.W.Frag} {H H' : Hp} {a : Addr} {xs : List V} (e : Nl H H') (h : SqT K H a xs) : SqT K H' a xs := by
  rcases h with h | h
  · rcases h with h | ⟨o, h⟩
    · exact .inl (.inl (e a _ (fun _ z => by cases z) h))
    · exact .inl (.inr ⟨o, e a _ (fun _ z => by cases z) h⟩)
  · exact .inr h
theorem Nst.nl {K : PySem.W.Frag} {H H' : Hp} (e : Nl H H') {v : V} {t : Tr} (h : Nst K H v t) : Nst K H' v t := by
  induction h with
  | lf h => exact .lf (e.T h)
  | nd h _ _ i1 i2 => exact .nd (e.T h) i1 i2
/-- one of the lists that H does not know changes -/
theorem Ex.chg {H H1 : Hp} {p : Addr} {o : HO} (e : Ex H H1) (h : H p = none) : Ex H (upd H1 p o) := e.mut h
end M

/-! ### deep data, dicts in it too; what stays where some lists change -/
namespace M
open PySem PySem.Spec PyProof.Rows L2
/-- sys.modules is a dict -/
def smB (K : PySem.W.Frag) : Bool := match K.lookup sysModules with
  | some ⟨_, _, .dict _ _, _⟩ => true
  | _ => false
theorem smB_ok {K : PySem.W.Frag} {h : Heap} (X : K.In h) (c : smB K = true) : ∃ o es n, h.get? sysModules = some o ∧ o.data = .dict es n := by
  unfold smB at c
  cases e : K.lookup sysModules with
  | none => rw [e] at c; cases c
  | some o =>
    rw [e] at c
    obtain ⟨c1, c2, dt, c3⟩ := o
    cases dt with
    | dict es n => exact ⟨_, es, n, X _ _ e, rfl⟩
    | _ => cases c
/-- v is the data d, none of whose lists stands at m -/
inductive Dq (K : PySem.W.Frag) (H : Hp) (m : List Addr) : V → PyData → Prop
  | non : Dq K H m .non .none
  | bl (b : Bool) : Dq K H m (.bl b) (.bool b)
  | int (i : Int) : Dq K H m (.int i) (.int i)
  | str (x : Str) : Dq K H m (.str x) (.str x)
  | lst {a : Addr} {xs : List V} {ds : List PyData} : H a = some (.lst xs) → a ∉ m → xs.length = ds.length → (∀ (i : Nat) (v : V) (d : PyData), xs[i]? = some v → ds[i]? = some d → Dq K H m v d) → Dq K H m (.ref a) (.list ds)
  | tup {a : Addr} {xs : List V} {ds : List PyData} : H a = some (.tup xs) → a ∉ m → xs.length = ds.length → (∀ (i : Nat) (v : V) (d : PyData), xs[i]? = some v → ds[i]? = some d → Dq K H m v d) → Dq K H m (.ref a) (.tuple ds)
  | dct {a : Addr} {kvs : List (Key × V)} {es : List (PyData × PyData)} : H a = some (.dK kvs) → a ∉ m → fdKV kvs = some es → Dq K H m (.ref a) (.dict es)
inductive DqA (K : PySem.W.Frag) (H : Hp) (m : List Addr) : List V → List PyData → Prop
  | nil : DqA K H m [] []
  | cons {v : V} {vs : List V} {d : PyData} {ds : List PyData} : Dq K H m v d → DqA K H m vs ds → DqA K H m (v :: vs) (d :: ds)
section
variable {K : PySem.W.Frag} {H H' : Hp} {m m' : List Addr}
theorem dqA_iff : ∀ {xs : List V} {ds : List PyData}, DqA K H m xs ds ↔ xs.length = ds.length ∧ ∀ (i : Nat) (v : V) (d : PyData), xs[i]? = some v → ds[i]? = some d → Dq K H m v d := by
  intro xs
  induction xs with
  | nil =>
    intro ds
    constructor
    · intro h; cases h; exact ⟨rfl, fun i v d h => by simp at h⟩
    · intro ⟨h, _⟩
      have : ds = [] := List.eq_nil_of_length_eq_zero h.symm
      subst this; exact .nil
  | cons x xs ih =>
    intro ds
    constructor
    · intro h
      cases h with
      | cons h1 h2 =>
        obtain ⟨g1, g2⟩ := ih.mp h2
        refine ⟨by simp [g1], fun i v d a b => ?_⟩
        cases i with
        | zero => simp at a b; subst a b; exact h1
        | succ i => exact g2 i v d (by simpa using a) (by simpa using b)
    · intro ⟨h1, h2⟩
      cases ds with
      | nil => simp at h1
      | cons d ds => exact .cons (h2 0 x d rfl rfl) (ih.mpr ⟨by simpa using h1, fun i v d a b => h2 (i + 1) v d (by simpa using a) (by simpa using b)⟩)
theorem Dq.L {a : Addr} {xs : List V} {ds : List PyData} (h : H a = some (.lst xs)) (n : a ∉ m) (q : DqA K H m xs ds) : Dq K H m (.ref a) (.list ds) := .lst h n (dqA_iff.mp q).1 (dqA_iff.mp q).2
theorem Dq.T {a : Addr} {xs : List V} {ds : List PyData} (h : H a = some (.tup xs)) (n : a ∉ m) (q : DqA K H m xs ds) : Dq K H m (.ref a) (.tuple ds) := .tup h n (dqA_iff.mp q).1 (dqA_iff.mp q).2
theorem Dq.listI {v : V} {ds : List PyData} (h : Dq K H m v (.list ds)) : ∃ a xs, v = .ref a ∧ H a = some (.lst xs) ∧ a ∉ m ∧ DqA K H m xs ds := by
  cases h with
  | lst h1 h2 h3 h4 => exact ⟨_, _, rfl, h1, h2, dqA_iff.mpr ⟨h3, h4⟩⟩
theorem Dq.tupI {v : V} {ds : List PyData} (h : Dq K H m v (.tuple ds)) : ∃ a xs, v = .ref a ∧ H a = some (.tup xs) ∧ a ∉ m ∧ DqA K H m xs ds := by
  cases h with
  | tup h1 h2 h3 h4 => exact ⟨_, _, rfl, h1, h2, dqA_iff.mpr ⟨h3, h4⟩⟩
theorem Dq.fm {v : V} {d : PyData} (f : Fm m H H') (h : Dq K H m v d) : Dq K H' m v d := by
  induction h with
  | non => exact .non
  | bl b => exact .bl b
  | int i => exact .int i
  | str x => exact .str x
  | lst h n l _ ih => exact .lst (f _ _ n h) n l ih
  | tup h n l _ ih => exact .tup (f _ _ n h) n l ih
  | dct h n e => exact .dct (f _ _ n h) n e
theorem Dq.ex {v : V} {d : PyData} (e : Ex H H') (h : Dq K H m v d) : Dq K H' m v d := h.fm (Fm.ex e)
theorem Dq.less {v : V} {d : PyData} (l : ∀ a ∈ m', a ∈ m) (h : Dq K H m v d) : Dq K H m' v d := by
  induction h with
  | non => exact .non
  | bl b => exact .bl b
  | int i => exact .int i
  | str x => exact .str x
  | lst h n e _ ih => exact .lst h (fun z => n (l _ z)) e ih
  | tup h n e _ ih => exact .tup h (fun z => n (l _ z)) e ih
  | dct h n e => exact .dct h (fun z => n (l _ z)) e
theorem Dq.z {v : V} {d : PyData} (h : Dq K H m v d) : Dq K H [] v d := h.less fun a h => by cases h
/-- new places may be barred -/
theorem Dq.more {v : V} {d : PyData} (l : ∀ a ∈ m', a ∈ m ∨ H a = none) (h : Dq K H m v d) : Dq K H m' v d := by
  induction h with
  | non => exact .non
  | bl b => exact .bl b
  | int i => exact .int i
  | str x => exact .str x
  | lst h n e _ ih => exact .lst h (fun z => (l _ z).elim n fun y => by rw [h] at y; cases y) e ih
  | tup h n e _ ih => exact .tup h (fun z => (l _ z).elim n fun y => by rw [h] at y; cases y) e ih
  | dct h n e => exact .dct h (fun z => (l _ z).elim n fun y => by rw [h] at y; cases y) e
theorem DqA.fm {vs : List V} {ds : List PyData} (f : Fm m H H') (h : DqA K H m vs ds) : DqA K H' m vs ds := by
  induction h with
  | nil => exact .nil
  | cons h _ ih => exact .cons (h.fm f) ih
theorem DqA.ex {vs : List V} {ds : List PyData} (e : Ex H H') (h : DqA K H m vs ds) : DqA K H' m vs ds := h.fm (Fm.ex e)
theorem DqA.more {vs : List V} {ds : List PyData} (l : ∀ a ∈ m', a ∈ m ∨ H a = none) (h : DqA K H m vs ds) : DqA K H m' vs ds := by
  induction h with
  | nil => exact .nil
  | cons h _ ih => exact .cons (h.more l) ih
theorem DqA.z {vs : List V} {ds : List PyData} (h : DqA K H m vs ds) : DqA K H [] vs ds := h.more fun a h => by cases h
theorem DqA.len {vs : List V} {ds : List PyData} (h : DqA K H m vs ds) : vs.length = ds.length := (dqA_iff.mp h).1
theorem DqA.app {a b : List V} {x y : List PyData} (h : DqA K H m a x) (g : DqA K H m b y) : DqA K H m (a ++ b) (x ++ y) := by
  induction h with
  | nil => exact g
  | cons h _ ih => exact .cons h ih
theorem DqA.take {n : Nat} {a : List V} {x : List PyData} (h : DqA K H m a x) : DqA K H m (a.take n) (x.take n) := by
  induction h generalizing n with
  | nil => simp; exact .nil
  | cons h _ ih =>
    cases n with
    | zero => exact .nil
    | succ n => exact .cons h ih
theorem DqA.drop {n : Nat} {a : List V} {x : List PyData} (h : DqA K H m a x) : DqA K H m (a.drop n) (x.drop n) := by
  induction h generalizing n with
  | nil => simp; exact .nil
  | cons h hs ih =>
    cases n with
    | zero => exact .cons h hs
    | succ n => exact ih
theorem Dq.dp {v : V} {d : PyData} (h : Dq K H m v d) : d.hasDict = false → Dp K H v d := by
  induction h with
  | non => exact fun _ => .non
  | bl b => exact fun _ => .bl b
  | int i => exact fun _ => .int i
  | str x => exact fun _ => .str x
  | @lst a xs ds h n e g ih =>
    intro hd
    refine .lst (SqL.of h) ?_
    have hd' : PyData.hasDictAll ds = false := by simpa only [PyData.hasDict] using hd
    clear h hd
    induction xs generalizing ds with
    | nil =>
      have : ds = [] := List.eq_nil_of_length_eq_zero e.symm
      subst this; exact .nil
    | cons x xs jh =>
      cases ds with
      | nil => simp at e
      | cons d ds =>
        simp only [PyData.hasDictAll, Bool.or_eq_false_iff] at hd'
        exact .cons (ih 0 x d rfl rfl hd'.1) (jh (by simpa using e) (fun i v d a b => g (i + 1) v d (by simpa using a) (by simpa using b)) (fun i v d a b => ih (i + 1) v d (by simpa using a) (by simpa using b)) hd'.2)
  | @tup a xs ds h n e g ih =>
    intro hd
    refine .tup (SqT.of h) ?_
    have hd' : PyData.hasDictAll ds = false := by simpa only [PyData.hasDict] using hd
    clear h hd
    induction xs generalizing ds with
    | nil =>
      have : ds = [] := List.eq_nil_of_length_eq_zero e.symm
      subst this; exact .nil
    | cons x xs jh =>
      cases ds with
      | nil => simp at e
      | cons d ds =>
        simp only [PyData.hasDictAll, Bool.or_eq_false_iff] at hd'
        exact .cons (ih 0 x d rfl rfl hd'.1) (jh (by simpa using e) (fun i v d a b => g (i + 1) v d (by simpa using a) (by simpa using b)) (fun i v d a b => ih (i + 1) v d (by simpa using a) (by simpa using b)) hd'.2)
  | dct h n e => intro hd; simp [PyData.hasDict] at hd
end
section
variable {X : Cx} {pins : List (Addr × Obj)} {σ : L2.St} {H : Hp} {s : Shared} {m : List Addr}
theorem Dq.reads (I : L2.Inv X pins σ H s) (c : smB X.K = true) {v : V} {d : PyData} (h : Dq X.K H m v d) : ∀ {u : Value}, RelV v u → ∃ as, Reads s.heap u d as ∧ sysModules ∉ as := by
  obtain ⟨so, ses, sn, sg, sd⟩ := smB_ok I.kIn c
  induction h with
  | non => intro u r; cases r; exact ⟨_, .none, by simp⟩
  | bl b => intro u r; cases r; exact ⟨_, .bool b, by simp⟩
  | int i => intro u r; obtain ⟨t, rfl⟩ := r; exact ⟨_, .int i t, by simp⟩
  | str x => intro u r; obtain ⟨t, rfl⟩ := r; exact ⟨_, .str x t, by simp⟩
  | @lst a xs ds h n e _ ih =>
    intro u r
    cases r
    obtain ⟨its, rv, ⟨o, k, ho, hc, _, hd⟩, _⟩ := I.list (SqL.of h)
    have all : ∀ {its : List Value} {xs : List V} {ds : List PyData}, Vals xs its → xs.length = ds.length → (∀ (i : Nat) (v : V) (d : PyData), xs[i]? = some v → ds[i]? = some d → ∀ {u : Value}, RelV v u → ∃ as, Reads s.heap u d as ∧ sysModules ∉ as) → ∃ as, ReadsAll s.heap its ds as ∧ sysModules ∉ as := by
      intro its xs ds rv
      induction rv generalizing ds with
      | nil =>
        intro e _
        have : ds = [] := List.eq_nil_of_length_eq_zero e.symm
        subst this; exact ⟨[], .nil, by simp⟩
      | cons r1 rs jh =>
        intro e g
        cases ds with
        | nil => simp at e
        | cons d ds =>
          obtain ⟨as, q1, q2⟩ := g 0 _ d rfl rfl r1
          obtain ⟨bs, p1, p2⟩ := jh (ds := ds) (by simpa using e) fun i v d a b => g (i + 1) v d (by simpa using a) (by simpa using b)
          exact ⟨_, .cons q1 p1, by simp [q2, p2]⟩
    obtain ⟨as, q1, q2⟩ := all rv e ih
    refine ⟨_, .list ho hc hd q1, ?_⟩
    intro hm
    rcases List.mem_cons.mp hm with z | z
    · rw [← z, sg] at ho; cases ho; rw [sd] at hd; cases hd
    · exact q2 z
  | @tup a xs ds h n e _ ih =>
    intro u r
    cases r
    obtain ⟨its, rv, ⟨o, ho, hc, k, hd⟩, _⟩ := I.tuple (SqT.of h)
    have all : ∀ {its : List Value} {xs : List V} {ds : List PyData}, Vals xs its → xs.length = ds.length → (∀ (i : Nat) (v : V) (d : PyData), xs[i]? = some v → ds[i]? = some d → ∀ {u : Value}, RelV v u → ∃ as, Reads s.heap u d as ∧ sysModules ∉ as) → ∃ as, ReadsAll s.heap its ds as ∧ sysModules ∉ as := by
      intro its xs ds rv
      induction rv generalizing ds with
      | nil =>
        intro e _
        have : ds = [] := List.eq_nil_of_length_eq_zero e.symm
        subst this; exact ⟨[], .nil, by simp⟩
      | cons r1 rs jh =>
        intro e g
        cases ds with
        | nil => simp at e
        | cons d ds =>
          obtain ⟨as, q1, q2⟩ := g 0 _ d rfl rfl r1
          obtain ⟨bs, p1, p2⟩ := jh (ds := ds) (by simpa using e) fun i v d a b => g (i + 1) v d (by simpa using a) (by simpa using b)
          exact ⟨_, .cons q1 p1, by simp [q2, p2]⟩
    obtain ⟨as, q1, q2⟩ := all rv e ih
    exact ⟨_, .tuple ho hc hd q1, q2⟩
  | @dct a kvs es h n e =>
    intro u r
    cases r
    obtain ⟨_, hns, vs, hkv, o, oes, ep, e1, e2, e3, e4, e5, e6⟩ := dk_of I.hok h
    obtain ⟨r1, r2⟩ := rdKV (h := s.heap) hkv e5 e
    refine ⟨_, .dict e1 e2.1 e3 r1 r2, fun hm => ?_⟩
    have z : sysModules = a := by simpa using hm
    rw [z] at hns
    simp at hns
def mReprG (K : PySem.W.Frag) : List V → Hp → VK → Prop := fun xs H Q => match xs with
  | [x] => ∃ d, Dq K H [] x d ∧ d.showable = true ∧ d.depth ≤ 64 ∧ d.shown.length ≤ sizeLine ∧ Q (.str d.shown) H
  | _ => False
theorem call_reprG {k : Nat} (c : smB X.K = true) (hr : RoomG k X.A) : CallR X (.builtin "repr") (mReprG X.K) := by
  intro pins s σ H xs us Q I r h
  unfold mReprG at h
  split at h
  · rename_i x
    obtain ⟨d, hs, h1, h2, h3, q⟩ := h
    obtain ⟨u, rfl, ru⟩ := vals_one r
    have hun := hr.un
    obtain ⟨as, rd, hsm⟩ := hs.reads I c ru
    have fin : ∀ (a : Addr) (as : List Addr), Reads s.heap (.ref a) d as → sysModules ∉ as → wpAny (model X.prog X.w) X.A (call (.builtin "repr") [.ref a]) (EP X pins σ Q) X.xe s := fun a as rd hsm =>
      repr_of_reads' rd h1 (fun _ => hsm) hr.gd (by omega) (fun _ _ e => e) (fun h' u tk k => ⟨.str d.shown, H, I.kept (t' := tk) k, ⟨u, rfl⟩, q⟩) h3
    cases rd with
    | none => exact PySem.P.repr_of_none ⟨.str "None", H, I.tok _, ⟨_, rfl⟩, by simpa only [PyData.shown] using q⟩
    | bool b => exact PySem.P.repr_of_bool ⟨.str (if b then "True" else "False"), H, I.tok _, ⟨_, rfl⟩, by simpa only [PyData.shown] using q⟩
    | int i t => exact PySem.P.repr_of_int (by simpa [PyData.showable] using h1) ⟨.str (toString i), H, I.tok _, ⟨_, rfl⟩, by simpa only [PyData.shown] using q⟩
    | str z t => exact PySem.P.repr_of_str ⟨.str (reprText z), H, I.tok _, ⟨_, rfl⟩, by simpa only [PyData.shown] using q⟩ (by simpa only [PyData.shown] using h3)
    | list e1 e2 e3 e4 => exact fin _ _ (.list e1 e2 e3 e4) hsm
    | tuple e1 e2 e3 e4 => exact fin _ _ (.tuple e1 e2 e3 e4) hsm
    | dict e1 e2 e3 e4 e5 => exact fin _ _ (.dict e1 e2 e3 e4 e5) hsm
  · exact h.elim
end
/-- what isinstance says of data -/
def isD : PyData → String → Bool
  | .str _, "str" => true
  | .list _, "list" => true
  | .tuple _, "tuple" => true
  | .int _, "int" => true
  | .bool _, "int" => true
  | .bool _, "bool" => true
  | _, _ => false
theorem Dq.isi {K : PySem.W.Frag} {H : Hp} {m : List Addr} {v : V} {d : PyData} {n : String} {Q : VK} (h : Dq K H m v d) (hn : n = "str" ∨ n = "list" ∨ n = "tuple" ∨ n = "int" ∨ n = "bool") (q : Q (.bl (isD d n)) H) : mIsi K [v, .ty n] H Q := by
  cases h with
  | non => rcases hn with rfl | rfl | rfl | rfl | rfl <;> unfold mIsi <;> simp only [tyN, kb16, kb17, kb18, kb19, kb20] <;> exact q
  | bl b => rcases hn with rfl | rfl | rfl | rfl | rfl <;> unfold mIsi <;> simp only [tyN, kb11, kb12, kb13, kb14, kb15] <;> exact q
  | int b => rcases hn with rfl | rfl | rfl | rfl | rfl <;> unfold mIsi <;> simp only [tyN, kb6, kb7, kb8, kb9, kb10] <;> exact q
  | str b => rcases hn with rfl | rfl | rfl | rfl | rfl <;> unfold mIsi <;> simp only [tyN, kb1, kb2, kb3, kb4, kb5] <;> exact q
  | lst h _ _ _ => rcases hn with rfl | rfl | rfl | rfl | rfl <;> first | exact ⟨_, _, tyX_list (SqL.of h), ki_list.1, q⟩ | exact ⟨_, _, tyX_list (SqL.of h), ki_list.2.1, q⟩ | exact ⟨_, _, tyX_list (SqL.of h), ki_list.2.2.1, q⟩ | exact ⟨_, _, tyX_list (SqL.of h), ki_list.2.2.2.1, q⟩ | exact ⟨_, _, tyX_list (SqL.of h), ki_list.2.2.2.2, q⟩
  | tup h _ _ _ => rcases hn with rfl | rfl | rfl | rfl | rfl <;> first | exact ⟨_, _, tyX_tup (SqT.of h), ki_tup.1, q⟩ | exact ⟨_, _, tyX_tup (SqT.of h), ki_tup.2.1, q⟩ | exact ⟨_, _, tyX_tup (SqT.of h), ki_tup.2.2.1, q⟩ | exact ⟨_, _, tyX_tup (SqT.of h), ki_tup.2.2.2.1, q⟩ | exact ⟨_, _, tyX_tup (SqT.of h), ki_tup.2.2.2.2, q⟩
  | dct h _ _ => rcases hn with rfl | rfl | rfl | rfl | rfl <;> first | exact ⟨_, _, .base (.dK h), ki_dict.1, q⟩ | exact ⟨_, _, .base (.dK h), ki_dict.2.1, q⟩ | exact ⟨_, _, .base (.dK h), ki_dict.2.2.1, q⟩ | exact ⟨_, _, .base (.dK h), ki_dict.2.2.2.1, q⟩ | exact ⟨_, _, .base (.dK h), ki_dict.2.2.2.2, q⟩
end M
namespace M
open PySem PySem.Spec PyProof.Rows L2
/-- +, of tuples too -/
def mAddT (K : PySem.W.Frag) : R2 := fun x y H Q => rCatA K x y H Q ∨ mAdd x y H Q
theorem op_addT {X : Cx} : OpR X (binaryOp .Add) (mAddT X.K) := by
  intro pins s σ H x y v u Q I rx ry h
  rcases h with h | h
  · exact op_catA pins s σ H x y v u Q I rx ry h
  · exact op_addM pins s σ H x y v u Q I rx ry h
end M

/-! ### enumerate(text) -/
namespace M
open PySem PySem.Spec PyProof.Rows L2
def IteS (x : Str) : It :=
  ⟨fun i _ => i < x.cps.size, fun i H v H' => ∃ T c, v = .ref T ∧ H T = none ∧ H' = upd H T (.tup [.int (i : Nat), .str ⟨#[c]⟩]) ∧ x.cps[i]? = some c, fun i _ => x.cps.size = i⟩
theorem draws_str {prog : Program} {w : World} {A : Around} (hh : A.handled = none) (it : Addr) (x : Str) (t : Tok) :
    Draws prog w A.in1 it [it] x.cps.size (fun i v => ∃ c u, x.cps[i]? = some c ∧ v = .str ⟨#[c]⟩ u) (fun i h => h.IsStrIter it (strIterType x) x t i) := by
  cases ha : x.cps.all (· < 128)
  · have e : strIterType x = "str_iterator" := by simp [strIterType, ha]
    rw [e]; exact Draws.strWide (A := A.in1) hh it x t
  · have e : strIterType x = "str_ascii_iterator" := by simp [strIterType, ha]
    rw [e]; exact Draws.strAscii (A := A.in1) hh it x t
theorem turn_enumS {P : Program} {w : World} {K : PySem.W.Frag} {elts : List Expr} {kk : Nat} {tpos : Pos} (x : Str) (t : Tok) (e it : Addr) :
    Turn P w K (.Tuple elts kk tpos) (IteS x) [e, it] e (fun i h => (∃ old, IsEnum h e it ((i : Nat) : Int) old) ∧ h.IsStrIter it (strIterType x) x t i ∧ e ≠ it) where
  mem := by simp
  obj := fun i h st b hb => by
    obtain ⟨⟨old, he⟩, ⟨o, ho, hc, hd⟩, _⟩ := st
    have e' : b = e ∨ b = it := by simpa using hb
    rcases e' with z | z
    · rw [z]; exact ⟨_, he, fun v q => nomatch q⟩
    · rw [z]; exact ⟨o, ho, fun v q => by rw [hd] at q; cases q⟩
  keep := fun i h h' st k => let ⟨⟨old, he⟩, ⟨o, ho, r⟩, hne⟩ := st; ⟨⟨old, k e (by simp) _ he⟩, ⟨o, k it (by simp) o ho, r⟩, hne⟩
  item := by
    intro X hP hw hK hc i pins s σ H E I hf st hg
    subst hP hw hK
    obtain ⟨⟨old, he⟩, hit, hne⟩ := st
    have hel : e < s.heap.objs.size := Heap.lt_size he
    have hil : it < s.heap.objs.size := by obtain ⟨_, q, _⟩ := hit; exact Heap.lt_size q
    refine wpAny_pyNext_enum_itemD (draws_str (I.ok.hd hc) it x t) he hit hg hne (by simpa using hne) fun y h' tk hP ho hit' hT hsz hk => ?_
    obtain ⟨c, u, hcx, rfl⟩ := hP
    refine ⟨_, rfl, wpAny_letOwnedTupleGo_enum (s := { s with heap := h', toks := tk + 1 }) ho fun h'' he' sb => ?_⟩
    have hT2 : h''.get? s.heap.objs.size = some { cls := .type "tuple", data := .seq #[.int i tk, .str ⟨#[c]⟩ u] } := (sb.2 _ (Nat.ne_of_gt hel)).trans hT
    have new : ObjOk X.prog X.w (upd H s.heap.objs.size (.tup [.int (i : Nat), .str ⟨#[c]⟩])) h'' s.heap.objs.size (.tup [.int (i : Nat), .str ⟨#[c]⟩]) :=
      ⟨by show 2 ≤ sizeLine; decide, [.int i tk, .str ⟨#[c]⟩ u], .cons ⟨_, rfl⟩ (.cons ⟨_, rfl⟩ .nil), ⟨_, hT2, rfl, _, rfl⟩⟩
    have I1 : Inv X pins σ (upd H s.heap.objs.size (.tup [.int (i : Nat), .str ⟨#[c]⟩])) { s with heap := h'', toks := tk + 1 } :=
      I.turnedNew (ch := [e, it]) (fun b ob hb q => (sb.2 b (fun z => hb (by simp [z]))).trans (hk b ob (fun z => hb (by simp [z])) (fun z => hb (by simp [z])) q)) hf (Nat.le_refl _) new
    refine ⟨.ref s.heap.objs.size, _, I1, rfl, ⟨_, c, rfl, I.hok.fresh (Nat.le_refl _), rfl, hcx⟩, ⟨⟨.str ⟨#[c]⟩ u, ?_⟩, ?_, hne⟩, fun b hb => ?_⟩
    · have e1 : ((i + 1 : Nat) : Int) = (i : Int) + 1 := by omega
      rw [e1]; exact he'
    · obtain ⟨o, ho', r⟩ := hit'
      exact ⟨o, (sb.2 it (Ne.symm hne)).trans ho', r⟩
    · have hb' : b < s.heap.objs.size := by
        have e' : b = e ∨ b = it := by simpa using hb
        rcases e' with z | z
        · rw [z]; exact hel
        · rw [z]; exact hil
      rw [upd_ne (Nat.ne_of_lt hb')]
      exact (hf b hb).1
  done := by
    intro X hP hw hK hc i pins s σ H E I hf st hg
    subst hP hw hK
    obtain ⟨⟨old, he⟩, hit, hne⟩ := st
    obtain ⟨f0, f1, f2, f3, f4, f5⟩ := hf it (by simp)
    have hg' : x.cps.size = i := hg
    subst hg'
    exact wpAny_pyNext_enum_endD (draws_str (I.ok.hd hc) it x t) he hit fun h' eb => ⟨rfl, I.turned (t' := s.toks) (fun b o hb q => eb b o hb q) f0 f1 f3 f4 f5⟩
  self := fun A i s Q E st h => let ⟨⟨_, he⟩, _⟩ := st; wpAny_pyIter_enum he h
def iEnumS (ta : TA) : TI := fun σ H R => ta σ H fun vs H1 => ∃ x, vs = [.str x] ∧ R (IteS x) H1
theorem pi_enumS {X : Cx} {e : Expr} {ta : TA} {p pos tpos : Pos} {elts : List Expr} {kk : Nat} (hg : Gl X "enumerate") (hm : X.mg "enumerate" = none) (ha : PA X [e] ta) (hs : starEach [e] X.env = [(false, eval e X.env)] := by rfl) :
    PI X (.Tuple elts kk tpos) (.Call (.Name "enumerate" p) [e] [] pos) (iEnumS ta) := by
  refine ⟨fun pins s σ H R I h => ?_⟩
  refine Call_ (ld_blt I hg hm boot_enumerate (PyProof.Rows.callWith_type1 (thn (ha.run pos pins s σ H _ I h) fun us s1 ⟨vs, H1, I1, r1, q1⟩ => ?_) hs rfl))
  obtain ⟨x, ex, q⟩ := q1
  subst ex
  cases r1 with
  | cons r rr =>
    cases rr
    obtain ⟨t, rfl⟩ := r
    refine call_enumerate_str fun h' he hit hsz hk => wpAny_pyIter_enum he ?_
    have I2 : Inv X pins σ H1 { s1 with heap := h' } := I1.kept (t' := s1.toks) hk
    refine ⟨s1.heap.objs.size + 1, [s1.heap.objs.size + 1, s1.heap.objs.size], _, _, H1, rfl, I2, turn_enumS x t (s1.heap.objs.size + 1) s1.heap.objs.size, ⟨⟨.none, he⟩, hit, Nat.succ_ne_self _⟩, fun b hb => ?_, q⟩
    have e' : b = s1.heap.objs.size + 1 ∨ b = s1.heap.objs.size := by simpa using hb
    have hle : s1.heap.objs.size ≤ b := by
      rcases e' with z | z
      · rw [z]; exact Nat.le_add_right _ _
      · rw [z]; exact Nat.le_refl _
    exact I1.fpOk hle (I1.hok.fresh hle)
theorem walk_enumS {x : Str} : Walk (IteS x) x.cps.size (fun _ => True) (YPair (fun i => some (.int (i : Nat))) (fun i => (x.cps.toList.map fun c => V.str (S [c]))[i]?)) := by
  refine ⟨fun i _ hi _ => hi, fun _ _ => rfl, fun i H v H' _ q y => ?_⟩
  obtain ⟨T, c, h1, h2, h3, h4⟩ := y
  exact ⟨T, .int (i : Nat), .str ⟨#[c]⟩, h1, h2, h3, rfl, by show (List.map (fun c => V.str (S [c])) x.cps.toList)[i]? = _; rw [List.getElem?_map, Array.getElem?_toList, h4]; rfl⟩
theorem feeds_enumS {x : Str} : Feeds (IteS x) (.p (fun _ => True) (numd 0 (x.cps.toList.map fun c => V.str (S [c])))) := by
  show Walk _ (numd 0 (x.cps.toList.map fun c => V.str (S [c]))).length _ _
  rw [numd_len, List.length_map, Array.length_toList]
  refine Walk.mono walk_enumS (fun _ h => h) fun i H y H' _ _ ⟨T, a, z, h1, h2, h3, h4, h5⟩ => ⟨T, a, z, h1, h2, h3, ?_, ?_⟩
  · show (numd 0 _)[i]?.map (·.1) = _
    have h5' : (x.cps.toList.map fun c => V.str (S [c]))[i]? = some z := h5
    rw [numd_get, h5', ← h4]; simp
  · show (numd 0 _)[i]?.map (·.2) = _
    have h5' : (x.cps.toList.map fun c => V.str (S [c]))[i]? = some z := h5
    rw [numd_get, h5']; simp
def mEnumS (ta : TE) : MI := fun σ H P => ta σ H fun x H1 => match x with
  | .str z => P (.p (fun _ => True) (numd 0 (z.cps.toList.map fun c => V.str (S [c])))) H1
  | _ => False
theorem pi_enumSM {X : Cx} {e : Expr} {ta : TE} {p pos tpos : Pos} {elts : List Expr} {kk : Nat} (hg : Gl X "enumerate") (hm : X.mg "enumerate" = none) (ha : PE X e ta) (hs : starEach [e] X.env = [(false, eval e X.env)] := by rfl) :
    PI X (.Tuple elts kk tpos) (.Call (.Name "enumerate" p) [e] [] pos) (toTI (mEnumS ta)) :=
  pi_imp (pi_enumS hg hm (pa_cons (pe_cl ha) pa_nil hs) hs) fun σ H R ⟨P, q, w⟩ => ⟨_, q, fun x H1 z => by
    cases x with
    | str a => exact ⟨a, rfl, w _ _ _ z feeds_enumS⟩
    | _ => exact z.elim⟩
end M

/-! ### deep data compared -/
namespace M
open PySem PySem.Spec PyProof.Rows L2
def rEqG (K : PySem.W.Frag) (neg : Bool) : R2 := fun x y H Q => ∃ d e, Dp K H x d ∧ Dp K H y e ∧ d.canLay0 = true ∧ e.canLay0 = true ∧ min d.depth e.depth ≤ 260 ∧ Q (.bl (if neg then !PyData.eqv d e else PyData.eqv d e)) H
theorem RoomG.unitsG {k : Nat} {A : Around} (r : RoomG k A) : A.units + 300 < cLine := by have := r.un; omega
def mEqG (K : PySem.W.Frag) : R2 := fun x y H Q => match mEqB x y with
  | some b => Q (.bl b) H
  | none => rEqG K false x y H Q
theorem op_eqGM {X : Cx} (hu : X.A.units + 300 < cLine) : OpR X (compareOp .Eq) (mEqG X.K) := by
  intro pins s σ H x y v u Q I rx ry q
  unfold mEqG at q
  split at q
  · rename_i b e
    obtain ⟨h1, h2⟩ := mEqB_ok e
    refine op_eq pins s σ H _ _ v u Q I rx ry ⟨h1, ?_⟩
    rw [h2]; exact q
  · obtain ⟨d, e, hd, he, sd, se, hm, q⟩ := q
    obtain ⟨as, r1⟩ := Dp.reads I d x v hd rx
    obtain ⟨bs, r2⟩ := Dp.reads I e y u he ry
    exact SeqAt.compareEq_reads r1 r2 sd se (by omega) ⟨.bl _, H, I, rfl, q⟩
theorem Tr.dat_eqv : ∀ t : Tr, PyData.eqv t.dat t.dat = true
  | .lf => by simp [Tr.dat, PyData.eqv, PyData.eqvAll]
  | .nd l r => by simp [Tr.dat, PyData.eqv, PyData.eqvAll, Tr.dat_eqv l, Tr.dat_eqv r]
theorem Tr.dat_dep : ∀ t : Tr, t.dat.depth ≤ t.n + 1
  | .lf => by simp only [Tr.dat, PyData.depth, PyData.depthAll, Tr.n]; omega
  | .nd l r => by
    have h1 := Tr.dat_dep l
    have h2 := Tr.dat_dep r
    simp only [Tr.dat, PyData.depth, PyData.depthAll, Tr.n]; omega
/-- one tree's nest, twice -/
theorem eq_nestG {K : PySem.W.Frag} {H : Hp} {Q : VK} {v w : V} {t : Tr} (h1 : Nst K H v t) (h2 : Nst K H w t) (hd : t.dat.depth ≤ 260) (k : Q (.bl true) H) : mEqG K v w H Q := by
  obtain ⟨a, rfl⟩ := h1.ref
  obtain ⟨b, rfl⟩ := h2.ref
  exact ⟨t.dat, t.dat, h1.dp, h2.dp, t.lay, t.lay, by omega, by rw [Tr.dat_eqv]; exact k⟩
end M

/-! ### defs called by their parameters' names alone, written in the order turned about -/
namespace M
open PySem PySem.Spec PyProof.Rows L2
theorem vals_snoc {vs : List V} {us : List Value} {v : V} {u : Value} (h : Vals vs us) (r : RelV v u) : Vals (vs ++ [v]) (us ++ [u]) := h.append (.cons r .nil)
theorem vals_rev : ∀ {vs : List V} {us : List Value}, Vals vs us → Vals vs.reverse us.reverse := by
  intro vs us h
  induction h with
  | nil => exact .nil
  | cons r _ ih => rw [List.reverse_cons, List.reverse_cons]; exact vals_snoc ih r
structure CalK (P : Program) (w : World) (K : PySem.W.Frag) (mg : Str → Option Value) (base : Heap) (CX : CXT) (x : Str) (k : Nat) (ps ks : List Str) (sp : Sp) : Prop where
  ex : ∃ f fd, FnG P w K mg base CX k f fd ps sp ∧ mg x = some (.ref f) ∧ PySem.W.keepIn K (.ref f) = true ∧ KBn K fd ps 0 ks (fun _ ws => ws.reverse) (fun _ zs => zs.reverse)
def tKw (sp : Sp) (m : Nat) (E : XK) (t : TA) : TE := fun σ H Q => t σ H fun zs H1 => zs.length = m ∧ sp zs.reverse H1 Q E
section
variable {K : PySem.W.Frag} {x qual : Str} {params : Arguments} {body : List Stmt} {scope : Scope} {f : Addr} {fd : FuncData} {ps : List Str}
theorem kb_of (ks : List Str) (F : FunD K x qual params body scope [] [] f fd)
    (h : ∀ (kV doc pm : Value) (an : Option Addr) (cdv ct : Value) (ws : List Value), ws.length = ks.length → bindArgs (PySem.W.fnOf x qual params body scope .none kV doc pm an cdv ct) ⟨[], ks.zip ws⟩ = pure (ps.zip ws.reverse)) :
    KBn K fd ps 0 ks (fun _ ws => ws.reverse) (fun _ zs => zs.reverse) := by
  obtain ⟨oc, od, dV, kV, doc, pm, an, cdv, ct, osl, rfl, lk, hcd, hD, hK⟩ := F.ex
  rcases hD with ⟨_, rfl⟩ | ⟨e, _⟩
  · refine ⟨fun s us ws X l1 l2 => ?_, fun _ rz => vals_rev rz⟩
    cases us with
    | nil => exact .of_eq (h kV doc pm an cdv ct ws l2)
    | cons a b => simp at l1
  · exact absurd rfl e
end
section
variable {X : Cx} {CX : CXT} {k m : Nat} {ps ks : List Str} {sp : Sp} {E : XK} {x : Str} {p pos : Pos} {kws : List Keyword} {t : TA}
theorem me_callK (C : CalK X.prog X.w X.K X.mg X.base CX x k ps ks sp) (hr : RoomG k X.A) (hg : Gl X x) (hx : Passes CX X E) (hkw : PK X kws t)
    (hall : (backToKw pos (keywordEach kws X.env)).all (·.1.isSome) = true := by rfl) (hks : (backToKw pos (keywordEach kws X.env)).filterMap (·.1) = ks := by rfl)
    (hdb : (x == ("__debug__" : Str)) = false := by decide)
    (hpl : ((backTo pos (starEach [] X.env)).any (·.1) || (backToKw pos (keywordEach kws X.env)).any (·.1.isNone)) = false := by rfl) (hm : ks.length = m := by rfl) :
    PE X (.Call (.Name x p) [] kws pos) (tKw sp m E t) := by
  subst hm
  obtain ⟨f, fd, F, hm, hk, hb⟩ := C.ex
  refine ⟨fun pins s σ H Q I h => wpAny_Call_Name_kw (ld_glob I hg hm ?_ hdb)⟩
  refine PySem.W.callWith_KW0 (h₀ := X.base) I.ok.mod.kin hk hall (thn (hkw.run pos pins s σ H _ I h) fun ws s2 ⟨zs, H2, I2, rz, l2, q2⟩ => ⟨I2.kIn, ?_⟩) hpl
  rw [hks]
  have r2 : Vals zs.reverse ws.reverse := vals_rev rz
  refine wpAny_call (codeAny_mono (F.run X.A X.stack s2 H2 ⟨[], ks.zip ws⟩ ws.reverse zs.reverse Q E hr I2.env0 (hb.to s2 [] ws I2.kIn rfl (rz.length.symm.trans l2)) r2 q2) fun r s' hq => ?_)
  rcases r with er | fl
  · exact hx pins σ H2 s2 er s' I2 hq
  · cases fl with
    | ret u => exact I2.after hq
    | next => exact False.elim hq
    | brk => exact False.elim hq
    | cont => exact False.elim hq
end
end M

/-! ### own classes: made, called, their attributes, properties, methods and operators -/
namespace M
open PySem PySem.Spec PyProof.Rows L2
theorem make_guards {A : Around} {C : Addr} {us : List Value} {kw : List (Str × Value)} : (A.under (.builtin "type.__call__" ⟨.ref C :: us, kw⟩)).guards = A.guards := by
  first | rfl | simp [Around.under, Code.weight, Code.isCreation, Code.isGuard, Code.isCaller, Code.frames, Code.isFrame, guardIds]
theorem RoomG.make {k : Nat} {A : Around} (r : RoomG (k + 1) A) (C : Addr) (us : List Value) (kw : List (Str × Value)) : RoomG k (A.under (.builtin "type.__call__" ⟨.ref C :: us, kw⟩)) :=
  ⟨r.hd, by have := r.dp; rw [make_depth]; omega, by have := r.un; rw [make_units]; omega, by rw [make_guards]; exact r.gd⟩
theorem RoomG.in1 {k : Nat} {A : Around} (r : RoomG (k + 1) A) : RoomG k A.in1 :=
  ⟨r.hd, by have := r.dp; show A.depth + k + 20 < _; omega, by have := r.un; show A.units + 1 + 8 * k + 300 < _; omega, r.gd⟩
/-- a def called by place with all its arguments -/
structure CalR (P : Program) (w : World) (K : PySem.W.Frag) (mg : Str → Option Value) (base : Heap) (CX : CXT) (k : Nat) (f : Addr) (sp : Sp) : Prop where
  ex : ∃ fd ps, FnG P w K mg base CX k f fd ps sp ∧ Binds K fd ps []
theorem CalR.mono {P : Program} {w : World} {K : PySem.W.Frag} {mg : Str → Option Value} {base : Heap} {CX : CXT} {j k : Nat} {f : Addr} {sp : Sp} (c : CalR P w K mg base CX j f sp) (h : j ≤ k) : CalR P w K mg base CX k f sp := by
  obtain ⟨fd, ps, F, b⟩ := c.ex
  exact ⟨fd, ps, F.mono h, b⟩
section
variable {X : Cx} {CX : CXT} {k : Nat} {C f : Addr} {sp : Sp} {E : XK} {pins : List (Addr × Obj)} {σ : L2.St} {H : Hp} {s : Shared} {us : List Value} {vs : List V} {Q : VK} {A : Around}
/-- the callee's code, from any Around that stands in the same frames -/
theorem code_calR (c : CalR X.prog X.w X.K X.mg X.base CX k f sp) (hr : RoomG k A) (hf : A.frames = X.A.frames) (I : Inv X pins σ H s) (r : Vals vs us) (h : sp vs H Q E) :
    codeAny (model X.prog X.w) A (.call (.ref f) ⟨us, []⟩) (CR CX X.stack X.prog X.w H s Q E) s := by
  obtain ⟨fd, ps, F, hb⟩ := c.ex
  have e0 : Env0 X.prog X.w X.K X.mg X.base A X.stack s H := by
    have e := I.env0
    exact ⟨by rw [hf]; exact e.frames, e.mod, e.bs, e.bsz, e.funs, e.frf, e.hok, e.bare⟩
  have hl := r.length.symm.trans (F.len _ _ _ _ h)
  have b := hb s us I.kIn (by simpa using hl)
  rw [List.append_nil] at b
  exact F.run A X.stack s H ⟨us, []⟩ us vs Q E hr e0 b r h
theorem run_calR (c : CalR X.prog X.w X.K X.mg X.base CX k f sp) (hr : RoomG k A) (hf : A.frames = X.A.frames) (hx : Passes CX X E) (I : Inv X pins σ H s) (r : Vals vs us) (h : sp vs H Q E) :
    wpAny (model X.prog X.w) A (call (.ref f) us) (EP X pins σ Q) X.xe s := by
  refine wpAny_call (codeAny_mono (code_calR c hr hf I r h) fun r s' hq => ?_)
  rcases r with er | fl
  · exact hx pins σ H s er s' I hq
  · cases fl with
    | ret u => exact I.after hq
    | next => exact False.elim hq
    | brk => exact False.elim hq
    | cont => exact False.elim hq
end
section
variable {X : Cx} {CX : CXT} {k : Nat} {f C g p : Addr} {sp : Sp} {E : XK} {x m : Str} {ps_ pos apos : Pos} {e o : Expr} {es : List Expr} {ta te tf : TE} {t : TA}
/-! making -/
theorem run_makeG {pins : List (Addr × Obj)} {σ : L2.St} {H : Hp} {s : Shared} {Q : VK} {us : List Value} {vs : List V} (MK : Mk X.K C f) (F : CalR X.prog X.w X.K X.mg X.base CX k f sp) (hr : RoomG (k + 1) X.A)
    (hx : Passes CX X E) (I : Inv X pins σ H s) (r : Vals vs us)
    (h : ∀ x dx, H x = none → H dx = none → dx ≠ x → sp (.ref x :: (vs ++ [])) (upd (upd H dx (.own x)) x (.ins C dx [])) (fun v H2 => v = .non ∧ Q (.ref x) H2) E) :
    wpAny (model X.prog X.w) X.A (call (.ref C) us) (EP X pins σ Q) X.xe s := by
  have hq := h (s.heap.objs.size + 1) s.heap.objs.size (I.hok.fresh (Nat.le_succ _)) (I.hok.fresh (Nat.le_refl _)) (Nat.ne_of_lt (Nat.lt_succ_self _))
  have I2 := Inv.made (C := C) I
  have r2 : Vals (V.ref (s.heap.objs.size + 1) :: (vs ++ [])) (Value.ref (s.heap.objs.size + 1) :: us) := .cons rfl (by rw [List.append_nil]; exact r)
  have e0 := I2.env0.make C us []
  obtain ⟨fd, ps, FF, hb⟩ := F.ex
  have hl := r2.length.symm.trans (FF.len _ _ _ _ hq)
  have b := hb _ (Value.ref (s.heap.objs.size + 1) :: us) I2.kIn (by simpa using hl)
  rw [List.append_nil] at b
  refine wpAny_call (make_map (f := f) I.kIn MK.makes MK.init (beq_iff_eq.mp MK.fn) (codeAny_mono (FF.run _ X.stack _ _ ⟨Value.ref (s.heap.objs.size + 1) :: us, []⟩ (Value.ref (s.heap.objs.size + 1) :: us) _ _ E (hr.make C us []) e0 b r2 hq) fun r s' hq' => ?_))
  cases r with
  | error e => exact hx pins σ _ _ e s' I2 hq'
  | ok fl =>
    cases fl with
    | ret u =>
      obtain ⟨v, H', I3, rv, ev, q3⟩ := I2.after hq'
      subst ev
      exact ⟨rv, ⟨V.ref (s.heap.objs.size + 1), H', I3, rfl, q3⟩⟩
    | next => exact False.elim hq'
    | brk => exact False.elim hq'
    | cont => exact False.elim hq'
theorem me_make (MK : Mk X.K C f) (F : CalR X.prog X.w X.K X.mg X.base CX k f sp) (hr : RoomG (k + 1) X.A) (hg : Gl X x) (hm : X.mg x = some (.ref C)) (hx : Passes CX X E)
    (ha : PA X (e :: es) t) (hdb : (x == ("__debug__" : Str)) = false := by decide) (he : starEach (e :: es) X.env = (false, eval e X.env) :: starEach es X.env := by rfl) (hpl : (backTo pos (starEach es X.env)).any (·.1) = false := by rfl) :
    PE X (.Call (.Name x ps_) (e :: es) [] pos) (tMake C sp [] E t) := by
  refine ⟨fun pins s σ H Q I h => ?_⟩
  refine wpAny_Call_Name_kw (ld_glob I hg hm ?_ hdb)
  refine PySem.W.callWith_K (h₀ := X.base) I.ok.mod.kin MK.kp (thn (ha.run pos pins s σ H _ I h) fun us s1 ⟨vs, H1, I1, r, q⟩ => ⟨I1.kIn, ?_⟩) he hpl
  exact run_makeG MK F hr hx I1 r q
/-- cls(..), cls a variable that holds the class -/
def tMakeV (C : Addr) (sp : Sp) (E : XK) (tf : TE) (t : TA) : TE := fun σ H Q => tf σ H fun y H1 => y = .ref C ∧ tMake C sp [] E t σ H1 Q
theorem me_makeV (hf : PE X e tf) (MK : Mk X.K C f) (F : CalR X.prog X.w X.K X.mg X.base CX k f sp) (hr : RoomG (k + 1) X.A) (hx : Passes CX X E) {e1 : Expr}
    (ha : PA X (e1 :: es) t) (ht : eval (.Call e (e1 :: es) [] pos) X.env = (do callWith pos (← eval e X.env) [] (backTo pos (starEach (e1 :: es) X.env)) (backToKw pos (keywordEach [] X.env))) := by rfl)
    (he : starEach (e1 :: es) X.env = (false, eval e1 X.env) :: starEach es X.env := by rfl) (hpl : (backTo pos (starEach es X.env)).any (·.1) = false := by rfl) :
    PE X (.Call e (e1 :: es) [] pos) (tMakeV C sp E tf t) := by
  refine ⟨fun pins s σ H Q I h => ?_⟩
  refine Call_ (thn (hf.run pins s σ H _ I h) fun u s1 ⟨y, H1, I1, ry, ey, q⟩ => ?_) ht
  subst ey
  obtain rfl : u = Value.ref C := ry
  refine PySem.W.callWith_K (h₀ := X.base) I1.ok.mod.kin MK.kp (thn (ha.run pos pins s1 σ H1 _ I1 q) fun us s2 ⟨vs, H2, I2, r, q2⟩ => ⟨I2.kIn, ?_⟩) he hpl
  exact run_makeG MK F hr hx I2 r q2
/-! methods -/
theorem me_meth {pl : Sem Bool} (he : PE X o ta) (c : Cls X.K C) (hm : Meth X.K C m f) (F : CalR X.prog X.w X.K X.mg X.base CX k f sp) (hr : RoomG k X.A) (hx : Passes CX X E) (ha : PA X (e :: es) t)
    (hst : starEach (e :: es) X.env = (false, eval e X.env) :: starEach es X.env := by rfl) (hpl : (backTo pos (starEach es X.env)).any (·.1) = false := by rfl)
    (ht : eval (.Call (.Attribute o m apos) (e :: es) [] pos) X.env = (do
      let ov ← eval o X.env
      standAt apos.atName
      let (f, first) ← holding [ov] (getMethod ov m pl)
      callWith pos f first (backTo pos (starEach (e :: es) X.env)) (backToKw pos (keywordEach [] X.env))) := by rfl) :
    PE X (.Call (.Attribute o m apos) (e :: es) [] pos) (tMeth C m sp [] E ta t) := by
  refine ⟨fun pins s σ H Q I h => ?_⟩
  refine PySem.W.methodCall_KW (pl := pl) (thn (he.run pins s σ H _ I h) fun u s1 ⟨x, H1, I1, rx, a, dx, fs, ex, ea, l, q⟩ => ?_) ht
  subst ex
  obtain rfl : u = Value.ref a := rx
  refine getmeth_ok I1 ea c hm l ?_
  refine PySem.W.callWith_K (first := [.ref a]) (h₀ := X.base) I.ok.mod.kin hm.kp (thn (ha.run pos pins s1 σ H1 _ I1 q) fun us s2 ⟨vs, H2, I2, r, q2⟩ => ⟨I2.kIn, ?_⟩) hst hpl
  exact run_calR (us := .ref a :: us) (vs := .ref a :: (vs ++ [])) F hr rfl hx I2 (.cons rfl (by rw [List.append_nil]; exact r)) q2
/-! properties -/
theorem me_prop (he : PE X e ta) (c : Cls X.K C) {fl : Str} (hp : PropOf X.K C fl p g) (F : CalR X.prog X.w X.K X.mg X.base CX0 k g sp) (hr : RoomG (k + 1) X.A)
    (hab : attributeBase e fl X.env (eval e X.env) = eval e X.env) : PE X (.Attribute e fl pos) (tProp C sp [] E0 ta) := by
  refine ⟨fun pins s σ H Q I h => ?_⟩
  refine attr_of hab (thn (he.run pins s σ H _ I h) fun u s1 ⟨x, H1, I1, rx, a, dx, fs, ex, ea, q⟩ => ?_)
  subst ex
  obtain rfl : u = Value.ref a := rx
  obtain ⟨mA, O, _, _, _, _⟩ := ins_get I1.hok ea
  obtain ⟨od, J, _⟩ := O.look
  obtain ⟨rest, hrec⟩ := hp.rec_
  have I2 := I1.tok (s1.toks + 1)
  have hc : (PySem.W.clsIn X.K C).isSome = true := by
    obtain ⟨cd, hc, _⟩ := PySem.W.any_some c.hd
    rw [hc]
    rfl
  refine PySem.W.get_bind I1.kIn J (PySem.W.plainGet_of (c.get fl)).1 (PySem.W.findObj_data hc hp.at_ hp.get hp.tak) (PySem.W.plainGet_of (c.get fl)).2 (wpAny_call (PySem.W.prop_get (s := { s1 with toks := s1.toks + 1 }) I1.kIn hrec ?_))
  refine codeAny_mono (code_calR (A := X.A.in1) (E := E0) F hr.in1 rfl I2 (us := [.ref a]) (vs := [.ref a]) (.cons rfl .nil) q) fun r s' hq => ?_
  cases r with
  | error er => exact False.elim hq
  | ok fl =>
    cases fl with
    | ret u =>
      obtain ⟨v, H', I3, rv, q3⟩ := I2.after hq
      show wpAny _ _ (handedOut u) _ _ _
      rw [PySem.W.handedOut_of (handed_of rv)]
      exact wpAny_pure ⟨v, H', I3, rv, q3⟩
    | next => exact False.elim hq
    | brk => exact False.elim hq
    | cont => exact False.elim hq
/-! fields -/
def tFldC (C : Addr) (fl : Str) (ta : TE) : TE := fun σ H Q => ta σ H fun x H1 => ∃ a dx fs v, x = .ref a ∧ H1 a = some (.ins C dx fs) ∧ fs.lookup fl = some v ∧ Q v H1
theorem me_fldC {fl : Str} (he : PE X e ta) (c : Cls X.K C) (n : NoAttr X.K C fl) (hb : attributeBase e fl X.env (eval e X.env) = eval e X.env) : PE X (.Attribute e fl pos) (tFldC C fl ta) := by
  refine ⟨fun pins s σ H Q I h => ?_⟩
  refine attr_of hb (thn (he.run pins s σ H _ I h) fun u s1 ⟨x, H1, I1, rx, a, dx, fs, v, ex, ea, l, q⟩ => ?_)
  subst ex
  obtain rfl : u = Value.ref a := rx
  exact getattr_ok I1 ea c n l fun u' s2 I2 ru => ⟨v, H1, I2, ru, q⟩
def sFldC (C : Addr) (fl : Str) (ta tv : TE) : TS := fun D σ H => tv σ H fun y H1 => ta σ H1 fun x H2 => ∃ a dx fs, x = .ref a ∧ H2 a = some (.ins C dx fs) ∧ fs.length < 1000 ∧ D.nx σ (upd H2 a (.ins C dx (putF fl y fs)))
theorem ms_fldC {fl : Str} {value : Expr} {tv : TE} {pos' : Pos} (ha : PE X o ta) (hv : PE X value tv) (c : Cls X.K C) (n : NoAttr X.K C fl) (hs : swapsWith value (some (.Attribute o fl pos')) pos.line X.env = pure false) : PS X (.Assign [.Attribute o fl pos'] value pos) (sFldC C fl ta tv) := by
  refine ⟨fun pins s σ H D I h => ?_⟩
  refine plainObj_wpAny_Assign_Attribute (thn (hv.run pins s σ H _ I h) fun u s1 ⟨y, H1, I1, ry, q⟩ => thn (ha.run pins s1 σ H1 _ I1 q) fun ov s2 ⟨x, H2, I2, rx, a, dx, fs, ex, ea, l, q2⟩ => ?_) hs
  subst ex
  obtain rfl : ov = Value.ref a := rx
  exact setattr_ok I2 ea c n l ry fun s3 I3 => ⟨σ, _, I3, q2⟩
/-! calls of instances -/
def tInst (C : Addr) (sp : Sp) (E : XK) (tf : TE) (t : TA) : TE := fun σ H Q => tf σ H fun y H1 => ∃ a, y = .ref a ∧ t σ H1 fun vs H2 => (∃ dx fs, H2 a = some (.ins C dx fs)) ∧ sp (.ref a :: vs) H2 Q E
theorem me_inst {fe : Expr} (hf : PE X fe tf) (c : StX.CallO X.K C g) (F : CalR X.prog X.w X.K X.mg X.base CX k g sp) (hr : RoomG k X.A) (hx : Passes CX X E) (ha : PA X (e :: es) t)
    (ht : eval (.Call fe (e :: es) [] pos) X.env = (do callWith pos (← eval fe X.env) [] (backTo pos (starEach (e :: es) X.env)) (backToKw pos (keywordEach [] X.env))) := by rfl)
    (he : starEach (e :: es) X.env = (false, eval e X.env) :: starEach es X.env := by rfl) (hpl : (backTo pos (starEach es X.env)).any (·.1) = false := by rfl) : PE X (.Call fe (e :: es) [] pos) (tInst C sp E tf t) := by
  refine ⟨fun pins s σ H Q I h => ?_⟩
  refine Call_ (thn (hf.run pins s σ H _ I h) fun u s1 ⟨y, H1, I1, ry, a, ey, q⟩ => ?_) ht
  subst ey
  obtain rfl : u = Value.ref a := ry
  refine StX.callO_with (thn (ha.run pos pins s1 σ H1 _ I1 q) fun us s2 ⟨vs, H2, I2, r, ⟨dx, fs, hi⟩, q2⟩ => ?_) he hpl
  obtain ⟨mA, O, _⟩ := ins_get I2.hok hi
  obtain ⟨od, J, _⟩ := O.look
  refine ⟨⟨C, _, _, J, rfl⟩, wpAny_call (PySem.W.kco_code I2.kIn J rfl c.at_ c.fn c.fi (codeAny_mono (code_calR (us := .ref a :: us) (vs := .ref a :: vs) (E := E) F hr rfl I2 (.cons rfl r) q2) fun r s' hq => ?_))⟩
  rcases r with er | fl
  · exact hx pins σ H2 s2 er s' I2 hq
  · cases fl with
    | ret u => exact I2.after hq
    | next => exact False.elim hq
    | brk => exact False.elim hq
    | cont => exact False.elim hq
end
end M

/-! ### own classes: classmethods, operators, ==, repr, f-strings -/
namespace M
open PySem PySem.Spec PyProof.Rows L2
section
variable {X : Cx} {CX : CXT} {k : Nat} {f C g p : Addr} {sp : Sp} {E : XK} {x m : Str} {ps_ pos apos : Pos} {e o : Expr} {es : List Expr} {ta te tf : TE} {t : TA}
/-! C.m(..), m a classmethod -/
theorem run_cmG {q : Addr} {Q : VK} {us : List Value} {vs : List V} {pins : List (Addr × Obj)} {σ : L2.St} {H : Hp} {s : Shared} (F : CalR X.prog X.w X.K X.mg X.base CX k g sp) (hr : RoomG k X.A) (hx : Passes CX X E) (I : Inv X ((q, PySem.W.methodObj (.ref g) (.ref C)) :: pins) σ H s)
    (r : Vals vs us) (h : sp (.ref C :: vs) H Q E) : wpAny (model X.prog X.w) X.A (call (.ref q) us) (EP X pins σ Q) X.xe s := by
  have z : wpAny (model X.prog X.w) X.A (call (.ref q) us) (EP X ((q, PySem.W.methodObj (.ref g) (.ref C)) :: pins) σ Q) X.xe s :=
    wpAny_call (PySem.W.method_call (ClX.pin_at I) (codeAny_mono (code_calR (us := .ref C :: us) (vs := .ref C :: vs) (E := E) F hr rfl I (.cons rfl r) h) fun r s' hq => by
      rcases r with er | fl
      · exact hx _ σ H s er s' I hq
      · cases fl with
        | ret u => exact I.after hq
        | next => exact False.elim hq
        | brk => exact False.elim hq
        | cont => exact False.elim hq))
  exact thn z fun _ _ y => ClX.unpinE y
theorem me_cmeth {mc : Value} {pl : Sem Bool} (he : PE X o ta) (r : ClX.CRead X.K C mc) (c : ClX.CMet X.K C mc m p g) (F : CalR X.prog X.w X.K X.mg X.base CX k g sp) (hr : RoomG k X.A) (hx : Passes CX X E) (ha : PA X (e :: es) t)
    (hst : starEach (e :: es) X.env = (false, eval e X.env) :: starEach es X.env := by rfl) (hpl : (backTo pos (starEach es X.env)).any (·.1) = false := by rfl)
    (ht : eval (.Call (.Attribute o m apos) (e :: es) [] pos) X.env = (do
      let ov ← eval o X.env
      standAt apos.atName
      let (f, first) ← holding [ov] (getMethod ov m pl)
      callWith pos f first (backTo pos (starEach (e :: es) X.env)) (backToKw pos (keywordEach [] X.env))) := by rfl) :
    PE X (.Call (.Attribute o m apos) (e :: es) [] pos) (ClX.tCMeth C sp E ta t) := by
  refine ⟨fun pins s σ H Q I h => ?_⟩
  refine PySem.W.methodCall_KW (pl := pl) (thn (he.run pins s σ H _ I h) fun u s1 ⟨x, H1, I1, rx, ex, q⟩ => ?_) ht
  subst ex
  obtain rfl : u = Value.ref C := rx
  refine ClX.getmethcm_ok I1 r c fun s2 I2 => ?_
  refine ClX.callwith_cm I2 (ClX.base_none I1 (Nat.le_refl _)) c.fi (thn (ha.run pos _ s2 σ H1 _ I2 q) fun us s3 ⟨vs, H2, I3, rv, q2⟩ => ⟨⟨ClX.pin_at I3, I3.kIn⟩, ?_⟩) hst hpl
  exact run_cmG F hr hx I3 rv q2
/-! operators of two instances -/
def mOwn2 (C : Addr) (sp : Sp) (E : XK) : R2 := fun x y H Q => ∃ a b dx dy fs gs, x = .ref a ∧ y = .ref b ∧ H a = some (.ins C dx fs) ∧ H b = some (.ins C dy gs) ∧ sp [x, y] H Q E
theorem cmp_back {pins : List (Addr × Obj)} {σ : L2.St} {Q : VK} {v : Value} {s' : Shared} (h : EP X pins σ Q v s') : PySem.W.CmpBack (EP X pins σ Q) v s' := by
  obtain ⟨y, H', I, r, q⟩ := h
  cases v <;> first | exact ⟨y, H', I, r, q⟩ | (cases y <;> first | exact (show False from r) | (cases (show _ = _ from r)) | (obtain ⟨t, e⟩ := (show ∃ t, _ = _ from r); cases e))
structure OwnOp (K : PySem.W.Frag) (C : Addr) (nm : Str) (f : Addr) : Prop where
  at_ : PySem.W.findIn K (.ref C) nm = some (some (.ref f))
  fn : PySem.W.isFn K (.ref f) = true
theorem op_own {op : Operator} (hc : PySem.W.selfFirst X.K C = true) (c : OwnOp X.K C (PySem.dunder op.info.2) f) (F : CalR X.prog X.w X.K X.mg X.base CX k f sp) (hr : RoomG k X.A) (hx : Passes CX X E) : OpR X (binaryOp op) (mOwn2 C sp E) := by
  intro pins s σ H x y v u Q I rx ry h
  obtain ⟨a, b, dx, dy, fs, gs, rfl, rfl, ha, hb, q⟩ := h
  obtain rfl : v = Value.ref a := rx
  obtain rfl : u = Value.ref b := ry
  obtain ⟨mA, J, _⟩ := ins_get I.hok ha
  obtain ⟨mB, J', _⟩ := ins_get I.hok hb
  obtain ⟨od, J, _⟩ := J.look
  obtain ⟨od', J', _⟩ := J'.look
  obtain ⟨m, hF⟩ := I.fr
  exact PySem.W.binop_K hF I.ok.mod.kin J J'.type hc c.at_ c.fn (thn (run_calR (us := [.ref a, .ref b]) (vs := [.ref a, .ref b]) F hr rfl hx I (.cons rfl (.cons rfl .nil)) q) fun _ _ z => cmp_back z)
theorem cmp_own {op : CmpOp} (hu : X.A.units < cLine) (c : OwnOp X.K C (cmpInfo op).2.1 f) (F : CalR X.prog X.w X.K X.mg X.base CX k f sp) (hr : RoomG k X.A) (hx : Passes CX X E) : OpR X (richCompare op) (mOwn2 C sp E) := by
  intro pins s σ H x y v u Q I rx ry h
  obtain ⟨a, b, dx, dy, fs, gs, rfl, rfl, ha, hb, q⟩ := h
  obtain rfl : v = Value.ref a := rx
  obtain rfl : u = Value.ref b := ry
  obtain ⟨mA, J, _⟩ := ins_get I.hok ha
  obtain ⟨mB, J', _⟩ := ins_get I.hok hb
  obtain ⟨od, J, _⟩ := J.look
  obtain ⟨od', J', _⟩ := J'.look
  obtain ⟨m, hF⟩ := I.fr
  exact PySem.W.cmp_K hu hF I.ok.mod.kin J J'.type (by simp [PySem.W.notFirst]) c.at_ c.fn (thn (run_calR (us := [.ref a, .ref b]) (vs := [.ref a, .ref b]) F hr rfl hx I (.cons rfl (.cons rfl .nil)) q) fun _ _ z => cmp_back z)
theorem op_eqOwn (hu : X.A.units < cLine) (c : OwnOp X.K C "__eq__" f) (F : CalR X.prog X.w X.K X.mg X.base CX k f sp) (hr : RoomG k X.A) (hx : Passes CX X E) : OpR X (compareOp .Eq) (mOwn2 C sp E) := cmp_own (op := .Eq) hu c F hr hx
/-! ~ -/
def mInvO (C : Addr) (sp : Sp) (E : XK) (ta : TE) : TE := fun σ H Q => ta σ H fun x H1 => ∃ a dx fs, x = .ref a ∧ H1 a = some (.ins C dx fs) ∧ sp [x] H1 Q E
theorem me_invO (he : PE X e ta) (c : OwnOp X.K C "__invert__" f) (F : CalR X.prog X.w X.K X.mg X.base CX k f sp) (hr : RoomG k X.A) (hx : Passes CX X E) : PE X (.UnaryOp .Invert e pos) (mInvO C sp E ta) := by
  refine ⟨fun pins s σ H Q I h => ?_⟩
  refine wpAny_UnaryOp (thn (he.run pins s σ H _ I h) fun u s1 ⟨x, H1, I1, rx, a, dx, fs, ex, ea, q⟩ => ?_)
  subst ex
  obtain rfl : u = Value.ref a := rx
  obtain ⟨mA, J, _⟩ := ins_get I1.hok ea
  obtain ⟨od, J, _⟩ := J.look
  obtain ⟨m, hF⟩ := I1.fr
  exact PySem.W.ksp_inv hF I1.ok.mod.kin J c.at_ c.fn (run_calR (us := [.ref a]) (vs := [.ref a]) F hr rfl hx I1 (.cons rfl .nil) q)
end
end M

/-! ### own classes: !=, repr -/
namespace M
open PySem PySem.Spec PyProof.Rows L2
open Builtin in
section
variable {M₀ : Model} {prog : Program} {w : World} {A : Around} {E : Value → Shared → Prop} {s : Shared} {K : PySem.W.Frag} {x C f : Addr} {ox : Obj} {od : Option Obj} {b : Value}
/-- object.__ne__ over an own __eq__ -/
theorem ne_entry {Q : Fin → Shared → Prop} (hu : A.units < cLine) (X : K.In s.heap) (I : PySem.W.InstAt s.heap x ox C od) (hs : PySem.W.findIn K (.ref C) "__eq__" = some (some (.ref f))) (hf : PySem.W.isFn K (.ref f) = true) {y : Addr}
    (hcall : wpAny (model prog w) A (call (.ref f) [.ref x, .ref y]) (fun v s' => ∃ b, v = .bool b ∧ Q (.done (.ret (.bool (!b)))) s') E s) :
    wpAny (model prog w) A (Builtin.«object.__ne__» ⟨[.ref x, .ref y], []⟩) Q E s := by
  unfold Builtin.«object.__ne__»
  repeat (first
    | with_reducible refine wpAny_cRoomFor hu ?_
    | (refine wpAny_bind (m := callSpecialIfBound? (.ref x) (Str.ofString "__eq__") [.ref y])
        (PySem.W.ifBound_K X I hs hf (wpAny_mono hcall (fun r s' hr => by
          obtain ⟨b, rfl, hq⟩ := hr
          repeat (first | exact hq | exact wpAny_pure hq | exact wpAny_truthy_bool hq | (refine wpAny_bind (m := truthy (.bool _)) (wpAny_truthy_bool ?_)) | wp_step)) fun _ _ e => e)))
    | wp_step)
theorem call_objNe {Q : Value → Shared → Prop} (hu : A.in1.units < cLine) (X : K.In s.heap) (I : PySem.W.InstAt s.heap x ox C od) (hm : PySem.W.mroIn K C (.type "object") = some true) (hs : PySem.W.findIn K (.ref C) "__eq__" = some (some (.ref f))) (hf : PySem.W.isFn K (.ref f) = true) {y : Addr}
    (hcall : wpAny (model prog w) A.in1 (call (.ref f) [.ref x, .ref y]) (fun v s' => ∃ b, v = .bool b ∧ Q (.bool (!b)) s') E s) :
    wpAny (model prog w) A (call (.builtin "object.__ne__") [.ref x, .ref y]) Q E s :=
  wpAny_call (codeAny_call_builtin F.cmp_object.ne.plain F.cmpEntry_ne (PySem.W.check_slot F.cmpKind_ne F.cmpSplit_ne (I.type.andThen (PySem.W.looks_mroIn X hm)) (F.cmpArgs_ne _ _) (ne_entry (A := A.in1) hu X I hs hf (wpAny_mono hcall (fun v s' hv => by
    obtain ⟨b, rfl, hq⟩ := hv
    exact ⟨b, rfl, hq⟩) fun _ _ e => e))))
theorem ifBound_objNe {args : List Value} {Q : Option Value → Shared → Prop} (X : K.In s.heap) (I : PySem.W.InstAt s.heap x ox C od) (hs : PySem.W.findIn K (.ref C) "__ne__" = some (some (.builtin "object.__ne__")))
    (h : wpAny M₀ A (call (.builtin "object.__ne__") (.ref x :: args)) (fun v => Q (some v)) E s) : wpAny M₀ A (callSpecialIfBound? (.ref x) "__ne__" args) Q E s := by
  simp only [callSpecialIfBound?, bindSpecialIfBound?]
  refine wpAny_holding (wpAny_bind (wpAny_bind (wpAny_bind (I.type.here ((PySem.W.looks_findIn X hs).here ?_)))))
  refine wpAny_bind (wpAny_askSetting (wpAny_ite ?_))
  have fin : wpAny M₀ A (call (.builtin "object.__ne__") ([.ref x] ++ args) >>= fun v => pure (some v)) Q E s := wpAny_bind (wpAny_mono h (fun v s' h' => wpAny_pure h') fun _ _ h' => h')
  split
  · exact wpAny_bind (wpAny_of_eq (F.cmp_object.ne.bind _) (wpAny_pure (by exact fin)))
  · exact wpAny_tryCatch (wpAny_bind (wpAny_of_eq (F.cmp_object.ne.bind _) (wpAny_pure (by exact fin))))
theorem rich_ne {Q : Value → Shared → Prop} (hu : A.units < cLine) (hu1 : A.in1.units < cLine) (X : K.In s.heap) (I : PySem.W.InstAt s.heap x ox C od) {y : Addr} (hb : PySem.W.Looks (model prog w) s.heap (typeOf (.ref y)) (.ref C)) (hm : PySem.W.mroIn K C (.type "object") = some true)
    (hn : PySem.W.findIn K (.ref C) "__ne__" = some (some (.builtin "object.__ne__"))) (hs : PySem.W.findIn K (.ref C) "__eq__" = some (some (.ref f))) (hf : PySem.W.isFn K (.ref f) = true)
    (hcall : wpAny (model prog w) A.in1 (call (.ref f) [.ref x, .ref y]) (fun v s' => ∃ b, v = .bool b ∧ Q (.bool (!b)) s') E s) :
    wpAny (model prog w) A (richCompare .NotEq (.ref x) (.ref y)) Q E s := by
  have one : wpAny (model prog w) A (tryCompare (.ref x) "__ne__" (.ref y)) (fun r s' => ∃ v, r = some v ∧ Q v s') E s := by
    unfold tryCompare
    refine wpAny_bind (ifBound_objNe X I hn (call_objNe hu1 X I hm hs hf (wpAny_mono hcall (fun v s' hv => ?_) fun _ _ e => e)))
    obtain ⟨b, rfl, hq⟩ := hv
    exact ⟨b, rfl, wpAny_pure ⟨_, rfl, hq⟩⟩
  unfold richCompare
  simp only [oneThing_ref]
  refine wpAny_holding (wpAny_bind (wpAny_cRoomFor hu ?_))
  refine wpAny_bind (I.type.here (wpAny_bind (hb.here ?_)))
  split
  · rename_i q
    exact absurd q (by simp)
  · refine wpAny_bind (wpAny_pure ?_)
    simp only [Bool.false_eq_true, if_false]
    refine wpAny_bind (m := tryCompare (.ref x) _ (.ref y)) (wpAny_mono one (fun r s' z => ?_) fun _ _ e => e)
    obtain ⟨v, rfl, hq⟩ := z
    exact wpAny_pure hq
end
section
variable {X : Cx} {CX : CXT} {k : Nat} {f C : Addr} {sp : Sp} {E : XK}
/-- x != y by the own == of the class at C -/
def mOwnNe (C : Addr) (sp : Sp) (E : XK) : R2 := fun x y H Q => ∃ a b dx dy fs gs, x = .ref a ∧ y = .ref b ∧ H a = some (.ins C dx fs) ∧ H b = some (.ins C dy gs) ∧ sp [x, y] H (fun v H' => ∃ k, v = .bl k ∧ Q (.bl (!k)) H') E
theorem op_neOwn (hu : X.A.units + 64 < cLine) (hm : PySem.W.mroIn X.K C (.type "object") = some true) (hn : PySem.W.findIn X.K (.ref C) "__ne__" = some (some (.builtin "object.__ne__"))) (c : OwnOp X.K C "__eq__" f)
    (F : CalR X.prog X.w X.K X.mg X.base CX k f sp) (hr : RoomG (k + 1) X.A) (hx : Passes CX X E) : OpR X (compareOp .NotEq) (mOwnNe C sp E) := by
  intro pins s σ H x y v u Q I rx ry h
  obtain ⟨a, b, dx, dy, fs, gs, rfl, rfl, ha, hb, q⟩ := h
  obtain rfl : v = Value.ref a := rx
  obtain rfl : u = Value.ref b := ry
  obtain ⟨mA, J, _⟩ := ins_get I.hok ha
  obtain ⟨mB, J', _⟩ := ins_get I.hok hb
  obtain ⟨od, J, _⟩ := J.look
  obtain ⟨od', J', _⟩ := J'.look
  show wpAny (model X.prog X.w) X.A (richCompare .NotEq (.ref a) (.ref b)) (EP X pins σ Q) X.xe s
  refine rich_ne (by omega) (by show X.A.units + 1 < _; omega) I.kIn J J'.type hm hn c.at_ c.fn (thn (run_calR (A := X.A.in1) (us := [.ref a, .ref b]) (vs := [.ref a, .ref b]) F hr.in1 rfl hx I (.cons rfl (.cons rfl .nil)) q) fun r s' z => ?_)
  obtain ⟨y, H', I', ry, k, rfl, hq⟩ := z
  cases (show r = Value.bool k from ry)
  exact ⟨k, rfl, .bl (!k), H', I', rfl, hq⟩
/-- repr of an instance of the class at C, or of other data -/
def mReprO (K : PySem.W.Frag) (C : Addr) (sp : Sp) (E : XK) : List V → Hp → VK → Prop := fun xs H Q => mReprG K xs H Q ∨ ∃ a dx fs, xs = [.ref a] ∧ H a = some (.ins C dx fs) ∧ sp xs H (fun v H' => ∃ z, v = .str z ∧ Q v H') E
theorem call_reprO {j : Nat} (cs : smB X.K = true) (hj : RoomG j X.A) (c : OwnOp X.K C "__repr__" f) (F : CalR X.prog X.w X.K X.mg X.base CX k f sp) (hr : RoomG (k + 1) X.A) (hx : Passes CX X E) : CallR X (.builtin "repr") (mReprO X.K C sp E) := by
  intro pins s σ H vs us Q I r h
  rcases h with h | ⟨a, dx, fs, rfl, ha, q⟩
  · exact call_reprG cs hj pins s σ H vs us Q I r h
  · rw [Vals.ref1 r]
    obtain ⟨mA, J, _⟩ := ins_get I.hok ha
    obtain ⟨od, J, _⟩ := J.look
    obtain ⟨m, hF⟩ := I.fr
    have hu := hr.in1.units
    refine PySem.W.repr_K (by omega) hF I.ok.mod.kin J c.at_ c.fn (thn (run_calR (A := X.A.in1) (us := [.ref a]) (vs := [.ref a]) F hr.in1 rfl hx I (.cons rfl .nil) q) fun r s' z => ?_)
    obtain ⟨y, H', I', ry, z, rfl, hq⟩ := z
    obtain ⟨t, e⟩ := (show ∃ t, r = Value.str z t from ry)
    cases e
    exact ⟨.str z, H', I', ⟨t, rfl⟩, hq⟩
end
end M

/-! ### own classes: the facts that the head looks at; f-strings; what is never reached -/
namespace M
open PySem PySem.Spec PyProof.Rows L2
abbrev mtA (K : PySem.W.Frag) (x m : Str) : Addr := He.ma K (He.ga K x) m
def propB (x m : Str) (K : PySem.W.Frag) : Bool :=
  He.eqO (PySem.W.findIn K (.ref (He.ga K x)) m) (some (some (.ref (mtA K x m)))) && (He.eqO (PySem.W.specialIn K (.ref (mtA K x m)) "__get__") (some (some (.builtin "property.__get__"))) && (decide (PySem.W.takesIn K (.ref (mtA K x m)) = some true) &&
  (match PySem.W.recIn K (mtA K x m) "property" with
    | some (.ref _ :: _) => true
    | _ => false)))
theorem prop_ok {x m : Str} {K : PySem.W.Frag} (c : propB x m K = true) : PropOf K (He.ga K x) m (mtA K x m) (viaA K 1 (mtA K x m)) := by
  obtain ⟨c1, c⟩ := He.ba c
  obtain ⟨c2, c⟩ := He.ba c
  obtain ⟨c3, c4⟩ := He.ba c
  refine ⟨He.eqO_ok c1, He.eqO_ok c2, of_decide_eq_true c3, ?_⟩
  split at c4
  · rename_i g rest e
    have hv : viaA K 1 (mtA K x m) = g := by
      show (match PySem.W.recIn K (mtA K x m) "property" with | some (.ref g :: _) => g | _ => 0) = g
      rw [e]
    exact ⟨rest, by rw [hv, e]⟩
  · cases c4
def cmB (x m : Str) (K : PySem.W.Frag) : Bool :=
  PySem.W.readsIn K (He.ga K x) (.type "type") && (He.eqO (PySem.W.specialIn K (.ref (He.ga K x)) "__getattribute__") (some (some (.builtin "type.__getattribute__"))) &&
  ((match PySem.W.findCls K (.ref (He.ga K x)) (.type "type") m with
    | some (.get g (.ref p) .none c) => decide (g = .builtin "classmethod.__get__") && (decide (p = mtA K x m) && decide (c = .ref (He.ga K x)))
    | _ => false) && ((match PySem.W.recIn K (mtA K x m) "classmethod" with
    | some (.ref _ :: _) => true
    | _ => false) && PySem.W.fnIn K (viaA K 2 (mtA K x m)))))
theorem cm_ok {x m : Str} {K : PySem.W.Frag} (c : cmB x m K = true) : ClX.CRead K (He.ga K x) (.type "type") ∧ ClX.CMet K (He.ga K x) (.type "type") m (mtA K x m) (viaA K 2 (mtA K x m)) := by
  obtain ⟨c1, c⟩ := He.ba c
  obtain ⟨c2, c⟩ := He.ba c
  obtain ⟨c3, c⟩ := He.ba c
  obtain ⟨c4, c5⟩ := He.ba c
  refine ⟨⟨c1, He.eqO_ok c2⟩, ?_, ?_, c5⟩
  · split at c3
    · rename_i g p c' e
      obtain ⟨d1, d⟩ := He.ba c3
      obtain ⟨d2, d3⟩ := He.ba d
      rw [e, of_decide_eq_true d1, of_decide_eq_true d2, of_decide_eq_true d3]
    · cases c3
  · split at c4
    · rename_i g rest e
      have hv : viaA K 2 (mtA K x m) = g := by
        show (match PySem.W.recIn K (mtA K x m) "classmethod" with | some (.ref g :: _) => g | _ => 0) = g
        rw [e]
      exact ⟨rest, by rw [hv, e]⟩
    · cases c4
def callB (x : Str) (K : PySem.W.Frag) : Bool := He.eqO (PySem.W.findIn K (.ref (He.ga K x)) "__call__") (some (some (.ref (mtA K x "__call__")))) && (PySem.W.isFn K (.ref (mtA K x "__call__")) && PySem.W.fnIn K (mtA K x "__call__"))
theorem callO_ok {x : Str} {K : PySem.W.Frag} (c : callB x K = true) : StX.CallO K (He.ga K x) (mtA K x "__call__") := by
  obtain ⟨c1, c⟩ := He.ba c
  obtain ⟨c2, c3⟩ := He.ba c
  exact ⟨He.eqO_ok c1, c2, c3⟩
def ownB (x m : Str) (K : PySem.W.Frag) : Bool := He.eqO (PySem.W.findIn K (.ref (He.ga K x)) m) (some (some (.ref (mtA K x m)))) && PySem.W.isFn K (.ref (mtA K x m))
theorem own_ok {x m : Str} {K : PySem.W.Frag} (c : ownB x m K = true) : OwnOp K (He.ga K x) m (mtA K x m) := by
  obtain ⟨c1, c2⟩ := He.ba c
  exact ⟨He.eqO_ok c1, c2⟩
/-- the class stands first among its own, over object, without a __ne__ -/
def objB (x : Str) (K : PySem.W.Frag) : Bool := PySem.W.selfFirst K (He.ga K x) && (decide (PySem.W.mroIn K (He.ga K x) (.type "object") = some true) && He.eqO (PySem.W.findIn K (.ref (He.ga K x)) "__ne__") (some (some (.builtin "object.__ne__"))))
structure ObjC (K : PySem.W.Frag) (C : Addr) : Prop where
  sf : PySem.W.selfFirst K C = true
  ob : PySem.W.mroIn K C (.type "object") = some true
  ne : PySem.W.findIn K (.ref C) "__ne__" = some (some (.builtin "object.__ne__"))
theorem obj_ok {x : Str} {K : PySem.W.Frag} (c : objB x K = true) : ObjC K (He.ga K x) := by
  obtain ⟨c1, c⟩ := He.ba c
  obtain ⟨c2, c3⟩ := He.ba c
  exact ⟨c1, of_decide_eq_true c2, He.eqO_ok c3⟩
theorem calR_of {P : Program} {w : World} {K : PySem.W.Frag} {mg : Str → Option Value} {base : Heap} {CX : CXT} {k : Nat} {f : Addr} {fd : FuncData} {ps : List Str} {sp : Sp} (F : FnG P w K mg base CX k f fd ps sp) (b : Binds K fd ps []) : CalR P w K mg base CX k f sp := ⟨fd, ps, F, b⟩
section
variable {X : Cx} {e : Expr}
def tNever : TE := fun _ _ _ => False
theorem pe_never : PE X e tNever := ⟨fun _ _ _ _ _ _ h => h.elim⟩
def tJoin (ts : List TE) : TE := fun σ H Q => tJs ts Str.empty σ H fun out H1 => Q (.str out) H1
theorem me_jstr {v1 v2 : Expr} {rest : List Expr} {ts : List TE} {pos : Pos} (h : PJ X (v1 :: v2 :: rest) ts) : PE X (.JoinedStr (v1 :: v2 :: rest) pos) (tJoin ts) := pe_joined h
end
end M

/-! ### own classes within a try -/
namespace M
open PySem PySem.Spec PyProof.Rows L2
section
variable {X : Cx} {k : Nat} {f C g p : Addr} {sp : Sp} {W : WX} {x m : Str} {ps_ pos apos : Pos} {e o : Expr} {es : List Expr} {ta te tf : TE} {t : TA}
theorem end_calR {A : Around} {pins : List (Addr × Obj)} {σ : L2.St} {H : Hp} {s : Shared} {Q : VK} {C' : Code} (tk : Takes X W) (I : Inv X pins σ H s)
    (h : codeAny (model X.prog X.w) A C' (CR (L2.CX X.prog X.w) X.stack X.prog X.w H s Q (WE W σ)) s) :
    codeAny (model X.prog X.w) A C' (fun r s' => match r with | .ok (.ret v) => EP X pins σ Q v s' | .ok _ => False | .error e => X.xe e s') s := by
  refine codeAny_mono h fun r s' hq => ?_
  rcases r with er | fl
  · exact passAt tk σ pins H s er s' I hq
  · cases fl with
    | ret u => exact I.after hq
    | next => exact False.elim hq
    | brk => exact False.elim hq
    | cont => exact False.elim hq
def tInstS (C : Addr) (sp : Sp) (E : L2.St → XK) (tf : TE) (t : TA) : TE := fun σ H Q => tf σ H fun y H1 => ∃ a, y = .ref a ∧ t σ H1 fun vs H2 => (∃ dx fs, H2 a = some (.ins C dx fs)) ∧ sp (.ref a :: vs) H2 Q (E σ)
theorem me_instS {fe : Expr} (hf : PE X fe tf) (c : StX.CallO X.K C g) (F : CalR X.prog X.w X.K X.mg X.base (L2.CX X.prog X.w) k g sp) (hr : RoomG k X.A) (tk : Takes X W) (ha : PA X (e :: es) t)
    (ht : eval (.Call fe (e :: es) [] pos) X.env = (do callWith pos (← eval fe X.env) [] (backTo pos (starEach (e :: es) X.env)) (backToKw pos (keywordEach [] X.env))) := by rfl)
    (he : starEach (e :: es) X.env = (false, eval e X.env) :: starEach es X.env := by rfl) (hpl : (backTo pos (starEach es X.env)).any (·.1) = false := by rfl) : PE X (.Call fe (e :: es) [] pos) (tInstS C sp (WE W) tf t) := by
  refine ⟨fun pins s σ H Q I h => ?_⟩
  refine Call_ (thn (hf.run pins s σ H _ I h) fun u s1 ⟨y, H1, I1, ry, a, ey, q⟩ => ?_) ht
  subst ey
  obtain rfl : u = Value.ref a := ry
  refine StX.callO_with (thn (ha.run pos pins s1 σ H1 _ I1 q) fun us s2 ⟨vs, H2, I2, r, ⟨dx, fs, hi⟩, q2⟩ => ?_) he hpl
  obtain ⟨mA, O, _⟩ := ins_get I2.hok hi
  obtain ⟨od, J, _⟩ := O.look
  exact ⟨⟨C, _, _, J, rfl⟩, wpAny_call (PySem.W.kco_code I2.kIn J rfl c.at_ c.fn c.fi (end_calR tk I2 (code_calR (us := .ref a :: us) (vs := .ref a :: vs) (E := WE W σ) F hr rfl I2 (.cons rfl r) q2)))⟩
def tMethS (C : Addr) (m : Str) (sp : Sp) (E : L2.St → XK) (ta : TE) (t : TA) : TE := fun σ H Q => ta σ H fun x H1 => ∃ a dx fs, x = .ref a ∧ H1 a = some (.ins C dx fs) ∧ fs.lookup m = none ∧ t σ H1 fun vs H2 => sp (x :: vs) H2 Q (E σ)
theorem me_methS {pl : Sem Bool} (he : PE X o ta) (c : Cls X.K C) (hm : Meth X.K C m f) (F : CalR X.prog X.w X.K X.mg X.base (L2.CX X.prog X.w) k f sp) (hr : RoomG k X.A) (tk : Takes X W) (ha : PA X (e :: es) t)
    (hst : starEach (e :: es) X.env = (false, eval e X.env) :: starEach es X.env := by rfl) (hpl : (backTo pos (starEach es X.env)).any (·.1) = false := by rfl)
    (ht : eval (.Call (.Attribute o m apos) (e :: es) [] pos) X.env = (do
      let ov ← eval o X.env
      standAt apos.atName
      let (f, first) ← holding [ov] (getMethod ov m pl)
      callWith pos f first (backTo pos (starEach (e :: es) X.env)) (backToKw pos (keywordEach [] X.env))) := by rfl) :
    PE X (.Call (.Attribute o m apos) (e :: es) [] pos) (tMethS C m sp (WE W) ta t) := by
  refine ⟨fun pins s σ H Q I h => ?_⟩
  refine PySem.W.methodCall_KW (pl := pl) (thn (he.run pins s σ H _ I h) fun u s1 ⟨x, H1, I1, rx, a, dx, fs, ex, ea, l, q⟩ => ?_) ht
  subst ex
  obtain rfl : u = Value.ref a := rx
  refine getmeth_ok I1 ea c hm l ?_
  refine PySem.W.callWith_K (first := [.ref a]) (h₀ := X.base) I.ok.mod.kin hm.kp (thn (ha.run pos pins s1 σ H1 _ I1 q) fun us s2 ⟨vs, H2, I2, r, q2⟩ => ⟨I2.kIn, ?_⟩) hst hpl
  exact wpAny_call (end_calR tk I2 (code_calR (us := .ref a :: us) (vs := .ref a :: vs) (E := WE W σ) F hr rfl I2 (.cons rfl r) q2))
end
end M

/-! ### dicts that grow: d.get(k, x), d[k] = v -/
namespace M
open PySem PySem.Spec PyProof.Rows L2
theorem hu1_of {k : Nat} {A : Around} (r : RoomG k A) : A.units + 1 < cLine := by have := r.un; omega
section
variable {X : Cx} {k : Nat} {o e f : Expr} {apos cpos : Pos} {td ty tx : TE}
theorem me_dget2 (hr : RoomG k X.A) (ho : PE X o td) (he : PE X e ty) (hf : PE X f tx) (h1 : attributeBase o "get" X.env (eval o X.env) = eval o X.env := by rfl)
    (h2 : ((backTo cpos (starEach [e, f] X.env)).all (fun x => !x.1) && (backToKw cpos (keywordEach [] X.env)).all (fun x => x.1.isSome)
    && decide (([e, f] : List Expr).length + ([] : List Keyword).length + (if ([] : List Keyword).isEmpty then 0 else 1) < 30)) = true := by rfl)
    (h3 : (apos.endLine == cpos.line) = true := by rfl) (h4 : backTo cpos (starEach [e, f] X.env) = [(false, eval e X.env), (false, eval f X.env)] := by rfl) :
    PE X (.Call (.Attribute o "get" apos) [e, f] [] cpos) (tDGet2 td ty tx) := pe_dget2 (hu1_of hr) ho he hf ⟨h1, h2, h3, h4⟩
end
end M

/-! ### zip(xs, ys, strict=True), and a list of zip's pairs: the iterator -/
namespace M
open PySem PySem.Spec PyProof.Rows
section
variable {prog : Program} {w : World} {A : Around} {E : Value → Shared → Prop} {s : Shared}
/-- one item of a list's iterator, or None where it ends -/
theorem nx_item {it l : Addr} {k : Nat} {xs : Array Value} {x : Value} {Q : Option Value → Shared → Prop} (hit : s.heap.IsListIter it l k) (hl : s.heap.IsList l xs) (hx : xs[k]? = some x)
    (hQ : ∀ h', h'.IsListIter it l (k + 1) → Heap.SameBut it s.heap h' → Q (some x) { s with heap := h' }) : wpAny (model prog w) A (Builtin.SmallTypes.nextOrEnd (.ref it)) Q E s := by
  unfold Builtin.SmallTypes.nextOrEnd
  exact wpAny_bind (wpAny_attempt (wpAny_nextOf_list_item hit hl hx fun h' a b => wpAny_pure (hQ h' a b)))
theorem nx_end {it l : Addr} {k : Nat} {xs : Array Value} {Q : Option Value → Shared → Prop} (hh : A.handled = none) (hit : s.heap.IsListIter it l k) (hl : s.heap.IsList l xs) (hx : xs[k]? = none)
    (hQ : ∀ h', Heap.ExtBut it s.heap h' → Q none { s with heap := h' }) : wpAny (model prog w) A (Builtin.SmallTypes.nextOrEnd (.ref it)) Q E s := by
  unfold Builtin.SmallTypes.nextOrEnd
  refine wpAny_bind (wpAny_attempt (wpAny_nextOf_list_end hh hit hl hx fun h' e a b => ?_))
  obtain ⟨o, ho, hc⟩ := b
  refine wpAny_bind (wpAny_isInstance (T := "StopIteration") (b := true) ⟨o, ho, hc⟩ isSubtype_stop ?_)
  exact wpAny_pure (hQ _ a)
/-- zip's own object -/
abbrev ZipO (h : Heap) (z TI TO : Addr) (f0 f1 : Value) (st : Bool) : Prop :=
  h.get? z = some { cls := .type "zip", dict := none, data := .fields #[f0, f1, .bool st, .ref TI, .ref TO], slots := #[] }
/-- what zip draws from one of its iterators -/
def zdraw (st : Bool) (it : Value) : Sem (Option Value) := do
  if st then Builtin.SmallTypes.nextOrEnd it else return some (← Builtin.SmallTypes.nextOf it)
theorem zd_item {st : Bool} {it l : Addr} {k : Nat} {xs : Array Value} {x : Value} {Q : Option Value → Shared → Prop} (hit : s.heap.IsListIter it l k) (hl : s.heap.IsList l xs) (hx : xs[k]? = some x)
    (hQ : ∀ h', h'.IsListIter it l (k + 1) → Heap.SameBut it s.heap h' → Q (some x) { s with heap := h' }) : wpAny (model prog w) A (zdraw st (.ref it)) Q E s := by
  cases st with
  | true => exact nx_item hit hl hx hQ
  | false => exact wpAny_bind (wpAny_nextOf_list_item hit hl hx fun h' a b => wpAny_pure (hQ h' a b))
abbrev ZipFree (h : Heap) (z TI TO : Addr) (st : Bool) : Prop := ZipO h z TI TO .none (.bool false) st
/-- the first pair -/
theorem zn_free {st : Bool} {z TI TO i1 i2 l1 l2 : Addr} {k : Nat} {xs ys : Array Value} {x y a b : Value} {Q : Value → Shared → Prop} (D : ZipApart z TI TO i1 i2 l1 l2)
    (hz : ZipFree s.heap z TI TO st) (hTI : IsPair s.heap TI (.ref i1) (.ref i2)) (hTO : IsPair s.heap TO a b)
    (h1 : s.heap.IsListIter i1 l1 k) (h2 : s.heap.IsListIter i2 l2 k) (hl1 : s.heap.IsList l1 xs) (hl2 : s.heap.IsList l2 ys) (hx : xs[k]? = some x) (hy : ys[k]? = some y)
    (hQ : ∀ h', ZipO h' z TI TO (rawInt s.heap.objs.size) (.bool false) st → IsPair h' TO x y → h'.IsListIter i1 l1 (k + 1) → h'.IsListIter i2 l2 (k + 1) → IsPair h' s.heap.objs.size x y → h'.objs.size = s.heap.objs.size + 1 →
      (∀ c o, c ≠ z → c ≠ TO → c ≠ i1 → c ≠ i2 → s.heap.get? c = some o → h'.get? c = some o) → Q (.ref s.heap.objs.size) { s with heap := h' }) :
    wpAny (model prog w) A (Builtin.«zip.__next__» ⟨[.ref z], []⟩) (fun fin s' => ∃ v, fin = .done (.ret v) ∧ Q v s') E s := by
  have draw : ∀ {A : Around} {E : Value → Shared → Prop} {s : Shared} {it l : Addr} {k : Nat} {xs : Array Value} {x : Value} {Q : Option Value → Shared → Prop}, s.heap.IsListIter it l k → s.heap.IsList l xs → xs[k]? = some x →
      (∀ h', h'.IsListIter it l (k + 1) → Heap.SameBut it s.heap h' → Q (some x) { s with heap := h' }) → wpAny (model prog w) A (zdraw st (.ref it)) Q E s := zd_item
  show wpAny _ _ (field (.ref z) 2 >>= _) _ _ _
  refine wpAny_bind (wpAny_field hz rfl (x := .bool st) rfl ?_)
  show wpAny _ _ (field (.ref z) 3 >>= _) _ _ _
  refine wpAny_bind (wpAny_field hz rfl (x := .ref TI) rfl ?_)
  refine wpAny_bind (wpAny_seqItems hTI rfl ?_)
  show wpAny _ _ (Builtin.SmallTypes.ownedTupleIsFree (.ref z) >>= _) _ _ _
  refine wpAny_bind ?_
  unfold Builtin.SmallTypes.ownedTupleIsFree
  refine wpAny_bind (wpAny_field hz rfl (x := .none) rfl (wpAny_pure ?_))
  simp only [if_true]
  refine wpAny_bind (wpAny_rule ?_)
  refine wpAny_bind (wpAny_field hz rfl (x := .ref TO) rfl ?_)
  refine wpAny_bind (wpAny_setField_rec hz (by simp) fun h₁ hz₁ hs₁ => ?_)
  replace hz₁ : ZipO h₁ z TI TO .ellipsis (.bool false) st := hz₁
  refine wpAny_bind ?_
  simp only [List.zipIdx_cons, List.zipIdx_nil, List.forIn_cons, List.forIn_nil]
  have est : (Value.bool st == Value.bool true) = st := by cases st <;> rfl
  rw [est]
  refine wpAny_bind (wpAny_bind (wpAny_onRaise ?_))
  show wpAny _ _ (zdraw st (.ref i1)) _ _ _
  refine draw (h1.extBut hs₁.extBut D.i1z) (hl1.extBut hs₁.extBut D.l1z) hx fun h₂ h1₂ hs₂ => ?_
  have hTO₂ : IsPair h₂ TO a b := hs₂.extBut _ _ D.TOi1 (hs₁.extBut _ _ D.TOz hTO)
  refine wpAny_bind (wpAny_seqItems hTO₂ rfl ?_)
  refine wpAny_bind (wpAny_updateSeq_pair hTO₂ fun h₃ hTO₃ hs₃ => ?_)
  replace hTO₃ : IsPair h₃ TO x b := hTO₃
  refine wpAny_bind (wpAny_letGo (wpAny_pure ?_))
  refine wpAny_bind (wpAny_bind (wpAny_onRaise ?_))
  show wpAny _ _ (zdraw st (.ref i2)) _ _ _
  refine draw (((h2.extBut hs₁.extBut D.i2z).extBut hs₂.extBut D.i12.symm).extBut hs₃.extBut D.TOi2.symm)
    (((hl2.extBut hs₁.extBut D.l2z).extBut hs₂.extBut D.l2i1).extBut hs₃.extBut D.l2TO) hy fun h₄ h2₄ hs₄ => ?_
  have hTO₄ : IsPair h₄ TO x b := hs₄.extBut _ _ D.TOi2 hTO₃
  refine wpAny_bind (wpAny_seqItems hTO₄ rfl ?_)
  refine wpAny_bind (wpAny_updateSeq_pair hTO₄ fun h₅ hTO₅ hs₅ => ?_)
  replace hTO₅ : IsPair h₅ TO x y := hTO₅
  refine wpAny_bind (wpAny_letGo (wpAny_pure (wpAny_pure ?_)))
  refine wpAny_bind (wpAny_seqItems hTO₅ rfl ?_)
  refine wpAny_bind (wpAny_newTuple ?_)
  have hsz : h₅.objs.size = s.heap.objs.size := by rw [hs₅.1, hs₄.1, hs₃.1, hs₂.1, hs₁.1]
  have hz₅ : ZipO h₅ z TI TO .ellipsis (.bool false) st := hs₅.extBut _ _ D.TOz.symm (hs₄.extBut _ _ D.i2z.symm (hs₃.extBut _ _ D.TOz.symm (hs₂.extBut _ _ D.i1z.symm hz₁)))
  have hk₅ : ∀ c o, c ≠ z → c ≠ TO → c ≠ i1 → c ≠ i2 → s.heap.get? c = some o → h₅.get? c = some o := fun c o c1 c2 c3 c4 e =>
    hs₅.extBut _ _ c2 (hs₄.extBut _ _ c4 (hs₃.extBut _ _ c2 (hs₂.extBut _ _ c3 (hs₁.extBut _ _ c1 e))))
  have h1₅ : h₅.IsListIter i1 l1 (k + 1) := ((h1₂.extBut hs₃.extBut D.TOi1.symm).extBut hs₄.extBut D.i12).extBut hs₅.extBut D.TOi1.symm
  have h2₅ : h₅.IsListIter i2 l2 (k + 1) := h2₄.extBut hs₅.extBut D.TOi2.symm
  have hzlt : z < h₅.objs.size := Heap.lt_size hz₅
  show wpAny _ _ (Builtin.SmallTypes.ownedTupleHandOut (.ref z) (.ref h₅.objs.size) >>= _) _ _ _
  refine wpAny_bind ?_
  unfold Builtin.SmallTypes.ownedTupleHandOut
  have hz₆ : ZipO (h₅.push { cls := .type "tuple", data := .seq #[x, y] }) z TI TO .ellipsis (.bool false) st := Heap.get?_push_of_some _ hz₅
  refine wpAny_bind (wpAny_setField_rec hz₆ (by simp) fun h₇ hz₇ hs₇ => ?_)
  replace hz₇ : ZipO h₇ z TI TO (rawInt h₅.objs.size) (.bool false) st := hz₇
  refine wpAny_setField_rec hz₇ (by simp) fun h₈ hz₈ hs₈ => ?_
  replace hz₈ : ZipO h₈ z TI TO (rawInt h₅.objs.size) (.bool false) st := hz₈
  have up : ∀ c o, c ≠ z → h₅.get? c = some o → h₈.get? c = some o := fun c o c1 e => hs₈.extBut _ _ c1 (hs₇.extBut _ _ c1 (Heap.get?_push_of_some _ e))
  have hT₈ : IsPair h₈ h₅.objs.size x y := hs₈.extBut _ _ (Nat.ne_of_gt hzlt) (hs₇.extBut _ _ (Nat.ne_of_gt hzlt) (Heap.get?_push_size _ rfl))
  have hz8 : h₈.objs.size = h₅.objs.size + 1 := by rw [hs₈.1, hs₇.1, Heap.size_push]
  rw [hsz] at hz₈ hT₈ hz8
  refine wpAny_pure ⟨_, rfl, ?_⟩
  show Q (.ref h₅.objs.size) _
  rw [hsz]
  exact hQ h₈ hz₈ (up _ _ D.TOz hTO₅) (h1₅.at fun o e => up _ o D.i1z e) (h2₅.at fun o e => up _ o D.i2z e) hT₈ hz8 fun c o c1 c2 c3 c4 e => up c o c1 (hk₅ c o c1 c2 c3 c4 e)
theorem zn_alive {a : Addr} {o : Obj} {Q : Option Obj → Shared → Prop} (ho : s.heap.get? a = some o) (h : Q (some o) s) : wpAny (model prog w) A (loadIfAlive a) Q E s := by
  have h' : Q (s.heap.get? a) s := by rw [ho]; exact h
  exact fun _ _ _ => h'
/-- a further pair, while the pair handed out first is still there -/
theorem zn_out {st f : Bool} {z TI TO i1 i2 l1 l2 T0 : Addr} {oT : Obj} {k : Nat} {xs ys : Array Value} {x y : Value} {Q : Value → Shared → Prop} (D : ZipApart z TI TO i1 i2 l1 l2)
    (hz : ZipO s.heap z TI TO (rawInt T0) (.bool f) st) (hT0 : s.heap.get? T0 = some oT) (hTI : IsPair s.heap TI (.ref i1) (.ref i2))
    (h1 : s.heap.IsListIter i1 l1 k) (h2 : s.heap.IsListIter i2 l2 k) (hl1 : s.heap.IsList l1 xs) (hl2 : s.heap.IsList l2 ys) (hx : xs[k]? = some x) (hy : ys[k]? = some y)
    (hQ : ∀ h', ZipO h' z TI TO (rawInt T0) (.bool true) st → h'.IsListIter i1 l1 (k + 1) → h'.IsListIter i2 l2 (k + 1) → IsPair h' s.heap.objs.size x y → h'.objs.size = s.heap.objs.size + 1 →
      (∀ c o, c ≠ z → c ≠ i1 → c ≠ i2 → s.heap.get? c = some o → h'.get? c = some o) → Q (.ref s.heap.objs.size) { s with heap := h' }) :
    wpAny (model prog w) A (Builtin.«zip.__next__» ⟨[.ref z], []⟩) (fun fin s' => ∃ v, fin = .done (.ret v) ∧ Q v s') E s := by
  have draw : ∀ {A : Around} {E : Value → Shared → Prop} {s : Shared} {it l : Addr} {k : Nat} {xs : Array Value} {x : Value} {Q : Option Value → Shared → Prop}, s.heap.IsListIter it l k → s.heap.IsList l xs → xs[k]? = some x →
      (∀ h', h'.IsListIter it l (k + 1) → Heap.SameBut it s.heap h' → Q (some x) { s with heap := h' }) → wpAny (model prog w) A (zdraw st (.ref it)) Q E s := zd_item
  show wpAny _ _ (field (.ref z) 2 >>= _) _ _ _
  refine wpAny_bind (wpAny_field hz rfl (x := .bool st) rfl ?_)
  show wpAny _ _ (field (.ref z) 3 >>= _) _ _ _
  refine wpAny_bind (wpAny_field hz rfl (x := .ref TI) rfl ?_)
  refine wpAny_bind (wpAny_seqItems hTI rfl ?_)
  show wpAny _ _ (Builtin.SmallTypes.ownedTupleIsFree (.ref z) >>= _) _ _ _
  have est : (Value.bool st == Value.bool true) = st := by cases st <;> rfl
  rw [est]
  refine wpAny_bind ?_
  unfold Builtin.SmallTypes.ownedTupleIsFree
  refine wpAny_bind (wpAny_field hz rfl (x := rawInt T0) rfl ?_)
  show wpAny _ _ (loadIfAlive ((T0 : Int).toNat) >>= _) _ _ _
  rw [Int.toNat_natCast]
  refine wpAny_bind (zn_alive hT0 ?_)
  simp only [Option.isNone_some, Bool.false_eq_true, if_false]
  refine wpAny_bind (wpAny_field hz rfl (x := .bool f) rfl ?_)
  have main : ∀ h₀ : Heap, ZipO h₀ z TI TO (rawInt T0) (.bool true) st → Heap.SameBut z s.heap h₀ → ∀ h₂ h₄ : Heap, h₂.IsListIter i1 l1 (k + 1) → Heap.SameBut i1 h₀ h₂ → h₄.IsListIter i2 l2 (k + 1) → Heap.SameBut i2 h₂ h₄ →
      Q (.ref h₄.objs.size) { s with heap := h₄.push { cls := .type "tuple", data := .seq #[x, y] } } := fun h₀ hz₀ hs₀ h₂ h₄ h1₂ hs₂ h2₄ hs₄ => by
    have hsz : h₄.objs.size = s.heap.objs.size := by rw [hs₄.1, hs₂.1, hs₀.1]
    rw [hsz]
    have pt : (h₄.push { cls := .type "tuple", data := .seq #[x, y] }).get? s.heap.objs.size = some { cls := .type "tuple", data := .seq #[x, y] } := by rw [← hsz]; exact Heap.get?_push_size _ rfl
    exact hQ _ (Heap.get?_push_of_some _ (hs₄.extBut _ _ D.i2z.symm (hs₂.extBut _ _ D.i1z.symm hz₀))) ((h1₂.extBut hs₄.extBut D.i12).at fun o e => Heap.get?_push_of_some _ e) (h2₄.at fun o e => Heap.get?_push_of_some _ e) pt (by rw [Heap.size_push, hsz])
      fun c o c1 c2 c3 e => Heap.get?_push_of_some _ (hs₄.extBut _ _ c3 (hs₂.extBut _ _ c2 (hs₀.extBut _ _ c1 e)))
  cases f with
  | true =>
    rw [if_neg (show ¬ ((Value.bool true != Value.bool true) = true) from Bool.false_ne_true)]
    refine wpAny_pure ?_
    have hs₀ := Heap.SameBut.refl z s.heap
    simp only [Bool.false_eq_true, if_false]
    rw [← Array.forIn_toList]
    simp only [List.forIn_cons, List.forIn_nil]
    refine wpAny_bind (wpAny_bind (wpAny_bind (wpAny_holding ?_)))
    show wpAny _ _ (zdraw st (.ref i1)) _ _ _
    refine draw (h1.extBut hs₀.extBut D.i1z) (hl1.extBut hs₀.extBut D.l1z) hx fun h₂ h1₂ hs₂ => wpAny_pure (wpAny_bind (wpAny_bind (wpAny_holding ?_)))
    show wpAny _ _ (zdraw st (.ref i2)) _ _ _
    refine draw ((h2.extBut hs₀.extBut D.i2z).extBut hs₂.extBut D.i12.symm) ((hl2.extBut hs₀.extBut D.l2z).extBut hs₂.extBut D.l2i1) hy fun h₄ h2₄ hs₄ => wpAny_pure (wpAny_pure ?_)
    exact wpAny_bind (wpAny_newTuple (hsz := by show 2 ≤ sizeLine; decide) (wpAny_pure ⟨_, rfl, main _ ‹_› hs₀ h₂ h₄ h1₂ hs₂ h2₄ hs₄⟩))
  | false =>
    rw [if_pos (show (Value.bool false != Value.bool true) = true from rfl)]
    refine wpAny_bind (wpAny_setField_rec hz (by simp) fun h₀ hz₀ hs₀ => ?_)
    replace hz₀ : ZipO h₀ z TI TO (rawInt T0) (.bool true) st := hz₀
    refine wpAny_pure ?_
    simp only [Bool.false_eq_true, if_false]
    rw [← Array.forIn_toList]
    simp only [List.forIn_cons, List.forIn_nil]
    refine wpAny_bind (wpAny_bind (wpAny_bind (wpAny_holding ?_)))
    show wpAny _ _ (zdraw st (.ref i1)) _ _ _
    refine draw (h1.extBut hs₀.extBut D.i1z) (hl1.extBut hs₀.extBut D.l1z) hx fun h₂ h1₂ hs₂ => wpAny_pure (wpAny_bind (wpAny_bind (wpAny_holding ?_)))
    show wpAny _ _ (zdraw st (.ref i2)) _ _ _
    refine draw ((h2.extBut hs₀.extBut D.i2z).extBut hs₂.extBut D.i12.symm) ((hl2.extBut hs₀.extBut D.l2z).extBut hs₂.extBut D.l2i1) hy fun h₄ h2₄ hs₄ => wpAny_pure (wpAny_pure ?_)
    exact wpAny_bind (wpAny_newTuple (hsz := by show 2 ≤ sizeLine; decide) (wpAny_pure ⟨_, rfl, main _ ‹_› hs₀ h₂ h₄ h1₂ hs₂ h2₄ hs₄⟩))
/-- StopIteration is raised -/
theorem zn_stop {α : Type} {Q : α → Shared → Prop} (hh : A.handled = none) (hE : ∀ h' e, (∀ c o, s.heap.get? c = some o → h'.get? c = some o) → (∃ o, h'.get? e = some o ∧ o.cls = .type "StopIteration") → E (.ref e) { s with heap := h' }) :
    wpAny (model prog w) A (Builtin.SmallTypes.stopIteration : Sem α) Q E s := by
  unfold Builtin.SmallTypes.stopIteration
  refine wpAny_bind ?_
  simp only [newExc, newTuple]
  refine wpAny_bind (wpAny_newObj_type ?_ (by size_fits))
  refine wpAny_bind (m := firstArgMember _ _) (wpAny_of_eq (a := Value.none) (by first | rfl | (simp only [firstArgMember]; rfl)) ?_)
  refine wpAny_newObj_type ?_ (by size_fits)
  simp only [raiseNew]
  refine wpAny_bind (wpAny_handled ?_)
  rw [hh]
  refine wpAny_bind (wpAny_pure (wpAny_throw ?_))
  exact hE _ _ (fun c o e => Heap.get?_push_of_some _ (Heap.get?_push_of_some _ e)) ⟨_, Heap.get?_push_size _ rfl, rfl⟩
/-- the end: both lists have ended at once -/
theorem zn_end {st : Bool} {z TI TO i1 i2 l1 l2 : Addr} {f0 f1 : Value} {k : Nat} {xs ys : Array Value} {Q : PySem.Fin → Shared → Prop} (hh : A.handled = none) (D : ZipApart z TI TO i1 i2 l1 l2)
    (hz : ZipO s.heap z TI TO f0 f1 st) (hf : (f0 = .none ∧ f1 = .bool false ∧ ∃ a b, IsPair s.heap TO a b) ∨ ∃ (T0 : Addr) (oT : Obj) (f : Bool), f0 = rawInt T0 ∧ f1 = .bool f ∧ s.heap.get? T0 = some oT) (hTI : IsPair s.heap TI (.ref i1) (.ref i2))
    (h1 : s.heap.IsListIter i1 l1 k) (h2 : s.heap.IsListIter i2 l2 k) (hl1 : s.heap.IsList l1 xs) (hl2 : s.heap.IsList l2 ys) (hx : xs[k]? = none) (hy : ys[k]? = none)
    (hE : ∀ h' e, (∀ c o, c ≠ z → c ≠ TO → c ≠ i1 → c ≠ i2 → s.heap.get? c = some o → h'.get? c = some o) → (∃ o, h'.get? e = some o ∧ o.cls = .type "StopIteration") → E (.ref e) { s with heap := h' }) :
    wpAny (model prog w) A (Builtin.«zip.__next__» ⟨[.ref z], []⟩) Q E s := by
  rcases hf with ⟨rfl, rfl, a, b, hTO⟩ | ⟨T0, oT, f, rfl, rfl, hT0⟩
  · cases st with
    | false => exact zip_next_end hh D hz hTI hTO h1 h2 hl1 hl2 (.inl hx) hE
    | true =>
      show wpAny _ _ (field (.ref z) 2 >>= _) _ _ _
      refine wpAny_bind (wpAny_field hz rfl (x := .bool true) rfl ?_)
      show wpAny _ _ (field (.ref z) 3 >>= _) _ _ _
      refine wpAny_bind (wpAny_field hz rfl (x := .ref TI) rfl ?_)
      refine wpAny_bind (wpAny_seqItems hTI rfl ?_)
      show wpAny _ _ (Builtin.SmallTypes.ownedTupleIsFree (.ref z) >>= _) _ _ _
      refine wpAny_bind ?_
      unfold Builtin.SmallTypes.ownedTupleIsFree
      refine wpAny_bind (wpAny_field hz rfl (x := .none) rfl (wpAny_pure ?_))
      simp only [if_true]
      refine wpAny_bind (wpAny_rule ?_)
      refine wpAny_bind (wpAny_field hz rfl (x := .ref TO) rfl ?_)
      refine wpAny_bind (wpAny_setField_rec hz (by simp) fun h₁ hz₁ hs₁ => ?_)
      replace hz₁ : ZipO h₁ z TI TO .ellipsis (.bool false) true := hz₁
      refine wpAny_bind ?_
      simp only [List.zipIdx_cons, List.zipIdx_nil, List.forIn_cons, List.forIn_nil]
      refine wpAny_bind (wpAny_bind (wpAny_onRaise ?_))
      show wpAny _ _ (Builtin.SmallTypes.nextOrEnd (.ref i1)) _ _ _
      refine nx_end hh (h1.extBut hs₁.extBut D.i1z) (hl1.extBut hs₁.extBut D.l1z) hx fun h₂ hs₂ => ?_
      have hz₂ : ZipO h₂ z TI TO .ellipsis (.bool false) true := hs₂ _ _ D.i1z.symm hz₁
      refine wpAny_bind (wpAny_setField_rec hz₂ (by simp) fun h₃ hz₃ hs₃ => ?_)
      have k2 : h₃.IsListIter i2 l2 k := (((h2.extBut hs₁.extBut D.i2z).extBut hs₂ D.i12.symm).extBut hs₃.extBut D.i2z)
      have m2 : h₃.IsList l2 ys := (((hl2.extBut hs₁.extBut D.l2z).extBut hs₂ D.l2i1).extBut hs₃.extBut D.l2z)
      refine wpAny_bind ?_
      show wpAny _ _ (forIn [(Value.ref i2, 1)] PUnit.unit _ >>= _) _ _ _
      refine wpAny_bind ?_
      simp only [List.forIn_cons, List.forIn_nil]
      refine wpAny_bind (wpAny_bind (nx_end hh k2 m2 hy fun h₄ hs₄ => ?_))
      simp only [Option.isSome_none, Bool.false_eq_true, if_false]
      refine wpAny_pure (wpAny_pure ?_)
      refine wpAny_bind (wpAny_rule (zn_stop hh fun h' e he ho => ?_))
      exact hE h' e (fun c o c1 c2 c3 c4 q => he c o (hs₄ c o c4 (hs₃.extBut c o c1 (hs₂ c o c3 (hs₁.extBut c o c1 q))))) ho
  · show wpAny _ _ (field (.ref z) 2 >>= _) _ _ _
    refine wpAny_bind (wpAny_field hz rfl (x := .bool st) rfl ?_)
    show wpAny _ _ (field (.ref z) 3 >>= _) _ _ _
    refine wpAny_bind (wpAny_field hz rfl (x := .ref TI) rfl ?_)
    refine wpAny_bind (wpAny_seqItems hTI rfl ?_)
    show wpAny _ _ (Builtin.SmallTypes.ownedTupleIsFree (.ref z) >>= _) _ _ _
    have est : (Value.bool st == Value.bool true) = st := by cases st <;> rfl
    rw [est]
    refine wpAny_bind ?_
    unfold Builtin.SmallTypes.ownedTupleIsFree
    refine wpAny_bind (wpAny_field hz rfl (x := rawInt T0) rfl ?_)
    show wpAny _ _ (loadIfAlive ((T0 : Int).toNat) >>= _) _ _ _
    rw [Int.toNat_natCast]
    refine wpAny_bind (zn_alive hT0 ?_)
    simp only [Option.isNone_some, Bool.false_eq_true, if_false]
    refine wpAny_bind (wpAny_field hz rfl (x := .bool f) rfl ?_)
    have out : ∃ h₀ : Heap, Heap.SameBut z s.heap h₀ := ⟨_, Heap.SameBut.refl z s.heap⟩
    cases f with
    | true =>
      rw [if_neg (show ¬ ((Value.bool true != Value.bool true) = true) from Bool.false_ne_true)]
      refine wpAny_pure ?_
      have hs₀ := Heap.SameBut.refl z s.heap
      simp only [Bool.false_eq_true, if_false]
      rw [← Array.forIn_toList]
      simp only [List.forIn_cons, List.forIn_nil]
      refine wpAny_bind (wpAny_bind (wpAny_bind (wpAny_holding ?_)))
      cases st with
      | false =>
        show wpAny _ _ (Builtin.SmallTypes.nextOf (.ref i1) >>= _) _ _ _
        exact wpAny_bind (wpAny_nextOf_list_end hh (h1.extBut hs₀.extBut D.i1z) (hl1.extBut hs₀.extBut D.l1z) hx fun h₂ e hs₂ ho => hE h₂ e (fun c o c1 c2 c3 c4 q => hs₂ c o c3 (hs₀.extBut c o c1 q)) ho)
      | true =>
        show wpAny _ _ (Builtin.SmallTypes.nextOrEnd (.ref i1)) _ _ _
        refine nx_end hh (h1.extBut hs₀.extBut D.i1z) (hl1.extBut hs₀.extBut D.l1z) hx fun h₂ hs₂ => ?_
        refine wpAny_bind ?_
        show wpAny _ _ (forIn [(Value.ref i2, 1)] PUnit.unit _ >>= _) _ _ _
        have k2 : h₂.IsListIter i2 l2 k := (h2.extBut hs₀.extBut D.i2z).extBut hs₂ D.i12.symm
        have m2 : h₂.IsList l2 ys := (hl2.extBut hs₀.extBut D.l2z).extBut hs₂ D.l2i1
        refine wpAny_bind ?_
        simp only [List.forIn_cons, List.forIn_nil]
        refine wpAny_bind (wpAny_bind (nx_end hh k2 m2 hy fun h₄ hs₄ => ?_))
        simp only [Option.isSome_none, Bool.false_eq_true, if_false]
        refine wpAny_pure (wpAny_pure ?_)
        refine wpAny_bind (wpAny_rule (zn_stop hh fun h' e he ho => ?_))
        exact hE h' e (fun c o c1 c2 c3 c4 q => he c o (hs₄ c o c4 (hs₂ c o c3 (hs₀.extBut c o c1 q)))) ho
    | false =>
      rw [if_pos (show (Value.bool false != Value.bool true) = true from rfl)]
      refine wpAny_bind (wpAny_setField_rec hz (by simp) fun h₀ hz₀ hs₀ => ?_)
      refine wpAny_pure ?_
      simp only [Bool.false_eq_true, if_false]
      rw [← Array.forIn_toList]
      simp only [List.forIn_cons, List.forIn_nil]
      refine wpAny_bind (wpAny_bind (wpAny_bind (wpAny_holding ?_)))
      cases st with
      | false =>
        show wpAny _ _ (Builtin.SmallTypes.nextOf (.ref i1) >>= _) _ _ _
        exact wpAny_bind (wpAny_nextOf_list_end hh (h1.extBut hs₀.extBut D.i1z) (hl1.extBut hs₀.extBut D.l1z) hx fun h₂ e hs₂ ho => hE h₂ e (fun c o c1 c2 c3 c4 q => hs₂ c o c3 (hs₀.extBut c o c1 q)) ho)
      | true =>
        show wpAny _ _ (Builtin.SmallTypes.nextOrEnd (.ref i1)) _ _ _
        refine nx_end hh (h1.extBut hs₀.extBut D.i1z) (hl1.extBut hs₀.extBut D.l1z) hx fun h₂ hs₂ => ?_
        refine wpAny_bind ?_
        show wpAny _ _ (forIn [(Value.ref i2, 1)] PUnit.unit _ >>= _) _ _ _
        have k2 : h₂.IsListIter i2 l2 k := (h2.extBut hs₀.extBut D.i2z).extBut hs₂ D.i12.symm
        have m2 : h₂.IsList l2 ys := (hl2.extBut hs₀.extBut D.l2z).extBut hs₂ D.l2i1
        refine wpAny_bind ?_
        simp only [List.forIn_cons, List.forIn_nil]
        refine wpAny_bind (wpAny_bind (nx_end hh k2 m2 hy fun h₄ hs₄ => ?_))
        simp only [Option.isSome_none, Bool.false_eq_true, if_false]
        refine wpAny_pure (wpAny_pure ?_)
        refine wpAny_bind (wpAny_rule (zn_stop hh fun h' e he ho => ?_))
        exact hE h' e (fun c o c1 c2 c3 c4 q => he c o (hs₄ c o c4 (hs₂ c o c3 (hs₀.extBut c o c1 q)))) ho
/-- zip stands at place k of both lists -/
def ZSt (st : Bool) (h : Heap) (z TI TO i1 i2 l1 l2 S : Addr) (xs ys : Array Value) (k : Nat) : Prop :=
  IsPair h TI (.ref i1) (.ref i2) ∧ h.IsListIter i1 l1 k ∧ h.IsListIter i2 l2 k ∧ h.IsList l1 xs ∧ h.IsList l2 ys ∧ ∃ f0 f1, ZipO h z TI TO f0 f1 st ∧
    ((f0 = .none ∧ f1 = .bool false ∧ ∃ a b, IsPair h TO a b) ∨ ∃ (T0 : Addr) (oT : Obj) (f : Bool), f0 = rawInt T0 ∧ f1 = .bool f ∧ h.get? T0 = some oT ∧ T0 ≠ z ∧ T0 ≠ i1 ∧ T0 ≠ i2 ∧ T0 ≠ S)
theorem ZSt.keep {st : Bool} {h h' : Heap} {z TI TO i1 i2 l1 l2 S : Addr} {xs ys : Array Value} {k : Nat} (x : ZSt st h z TI TO i1 i2 l1 l2 S xs ys k) (ho : ∀ c o, c ≠ S → h.get? c = some o → h'.get? c = some o)
    (n : z ≠ S ∧ TI ≠ S ∧ TO ≠ S ∧ i1 ≠ S ∧ i2 ≠ S ∧ l1 ≠ S ∧ l2 ≠ S) : ZSt st h' z TI TO i1 i2 l1 l2 S xs ys k := by
  obtain ⟨n1, n2, n3, n4, n5, n6, n7⟩ := n
  obtain ⟨a1, a2, a3, a4, a5, f0, f1, a6, a7⟩ := x
  refine ⟨ho _ _ n2 a1, a2.at fun o e => ho _ o n4 e, a3.at fun o e => ho _ o n5 e, a4.at fun o e => ho _ o n6 e, a5.at fun o e => ho _ o n7 e, f0, f1, ho _ _ n1 a6, ?_⟩
  rcases a7 with ⟨e0, e1, a, b, hT⟩ | ⟨T0, oT, f, e0, e1, hT, m1, m2, m3, m4⟩
  · exact .inl ⟨e0, e1, a, b, ho _ _ n3 hT⟩
  · exact .inr ⟨T0, oT, f, e0, e1, ho _ _ m4 hT, m1, m2, m3, m4⟩
theorem zp_next {st : Bool} {z TI TO i1 i2 l1 l2 S : Addr} {k : Nat} {xs ys : Array Value} {x y : Value} {Q : Option Value → Shared → Prop} (D : ZipApart z TI TO i1 i2 l1 l2) (hs : ZSt st s.heap z TI TO i1 i2 l1 l2 S xs ys k) (hS : S < s.heap.objs.size)
    (hx : xs[k]? = some x) (hy : ys[k]? = some y)
    (hQ : ∀ h', ZSt st h' z TI TO i1 i2 l1 l2 S xs ys (k + 1) → IsPair h' s.heap.objs.size x y → h'.objs.size = s.heap.objs.size + 1 → (∀ c o, c ≠ z → c ≠ TO → c ≠ i1 → c ≠ i2 → s.heap.get? c = some o → h'.get? c = some o) → Q (some (.ref s.heap.objs.size)) { s with heap := h' }) :
    wpAny (model prog w) A (pyNext (.ref z)) Q E s := by
  obtain ⟨hTI, h1, h2, hl1, hl2, f0, f1, hz, hf⟩ := hs
  have hT : s.TypeIs (.ref z) "zip" := ⟨_, hz, rfl⟩
  have lt : ∀ {c o}, s.heap.get? c = some o → s.heap.objs.size ≠ c := fun e => Nat.ne_of_gt (Heap.lt_size e)
  have lt1 : s.heap.objs.size ≠ i1 := by obtain ⟨_, e, _⟩ := h1; exact lt e
  have lt2 : s.heap.objs.size ≠ i2 := by obtain ⟨_, e, _⟩ := h2; exact lt e
  unfold pyNext
  rcases hf with ⟨rfl, rfl, a, b, hTO⟩ | ⟨T0, oT, f, rfl, rfl, hT0, m1, m2, m3, m4⟩
  · refine wpAny_bind (wpAny_attempt (wpAny_callSpecial?_slot (name := Str.ofString "__next__") hT F.slot_zip_next
      (wpAny_call_entry F.slot_zip_next hT F.entry_zip_next (zn_free D hz hTI hTO h1 h2 hl1 hl2 hx hy fun h' a1 a2 a3 a4 a5 a6 hk => wpAny_pure ?_) (F.args_zip_next_1 _))))
    exact hQ h' ⟨hk _ _ D.TIz D.TITO D.TIi1 D.TIi2 hTI, a3, a4, hl1.at fun o e => hk _ o D.l1z D.l1TO D.l1i1 D.l1i2 e, hl2.at fun o e => hk _ o D.l2z D.l2TO D.l2i1 D.l2i2 e, _, _, a1,
      .inr ⟨_, _, false, rfl, rfl, a5, lt hz, lt1, lt2, Nat.ne_of_gt hS⟩⟩ a5 a6 hk
  · refine wpAny_bind (wpAny_attempt (wpAny_callSpecial?_slot (name := Str.ofString "__next__") hT F.slot_zip_next
      (wpAny_call_entry F.slot_zip_next hT F.entry_zip_next (zn_out D hz hT0 hTI h1 h2 hl1 hl2 hx hy fun h' a1 a3 a4 a5 a6 hk => wpAny_pure ?_) (F.args_zip_next_1 _))))
    exact hQ h' ⟨hk _ _ D.TIz D.TIi1 D.TIi2 hTI, a3, a4, hl1.at fun o e => hk _ o D.l1z D.l1i1 D.l1i2 e, hl2.at fun o e => hk _ o D.l2z D.l2i1 D.l2i2 e, _, _, a1,
      .inr ⟨_, _, true, rfl, rfl, hk _ _ m1 m2 m3 hT0, m1, m2, m3, m4⟩⟩ a5 a6 fun c o c1 _ c3 c4 e => hk c o c1 c3 c4 e
theorem zp_end {st : Bool} {z TI TO i1 i2 l1 l2 S : Addr} {k : Nat} {xs ys : Array Value} {Q : Option Value → Shared → Prop} (hh : A.handled = none) (D : ZipApart z TI TO i1 i2 l1 l2) (hs : ZSt st s.heap z TI TO i1 i2 l1 l2 S xs ys k)
    (hx : xs[k]? = none) (hy : ys[k]? = none) (hQ : ∀ h', (∀ c o, c ≠ z → c ≠ TO → c ≠ i1 → c ≠ i2 → s.heap.get? c = some o → h'.get? c = some o) → Q none { s with heap := h' }) :
    wpAny (model prog w) A (pyNext (.ref z)) Q E s := by
  obtain ⟨hTI, h1, h2, hl1, hl2, f0, f1, hz, hf⟩ := hs
  have hT : s.TypeIs (.ref z) "zip" := ⟨_, hz, rfl⟩
  unfold pyNext
  refine wpAny_bind (wpAny_attempt (wpAny_callSpecial?_slot (name := Str.ofString "__next__") hT F.slot_zip_next
    (wpAny_call_entry F.slot_zip_next hT F.entry_zip_next (zn_end hh D hz ?_ hTI h1 h2 hl1 hl2 hx hy fun h' e hk he => ?_) (F.args_zip_next_1 _))))
  · rcases hf with h | ⟨T0, oT, f, e0, e1, hT0, _⟩
    · exact .inl h
    · exact .inr ⟨T0, oT, f, e0, e1, hT0⟩
  · obtain ⟨o, ho, hc⟩ := he
    refine wpAny_bind (wpAny_isInstance (T := "StopIteration") (b := true) ⟨o, ho, hc⟩ isSubtype_stop ?_)
    exact wpAny_pure (hQ _ hk)
theorem zp_iter {st : Bool} {z TI TO : Addr} {f0 f1 : Value} {Q : Value → Shared → Prop} (hz : ZipO s.heap z TI TO f0 f1 st) (h : Q (.ref z) s) : wpAny (model prog w) A (pyIter (.ref z)) Q E s := by
  have hT : s.TypeIs (.ref z) "zip" := ⟨_, hz, rfl⟩
  refine wpAny_pyIter_slot hT F.slot_zip_iter (wpAny_call_entry F.slot_zip_iter hT F.entry_zip_iter ?_ (F.args_zip_iter_1 _))
  show wpAny _ _ (ret (.ref z)) _ _ s
  exact wpAny_pure ⟨_, rfl, "zip", _, hT, F.slot_zip_next.lookup, h⟩
theorem zip_len0 : typeLookup (.type "zip") "__len__" = pure none := am_miss_of_fast (by decide +kernel)
theorem zip_hint0 : typeLookup (.type "zip") "__length_hint__" = pure none := am_miss_of_fast (by decide +kernel)
theorem zp_hint {z : Addr} (hT : s.TypeIs (.ref z) "zip") {Q : Bool → Shared → Prop} (h : Q true s) : wpAny (model prog w) A (Builtin.List.listLengthHint (.ref z)) Q E s := by
  unfold Builtin.List.listLengthHint
  refine wpAny_bind (wpAny_specialOf hT zip_len0 ?_)
  show wpAny _ _ (specialOf (.ref z) (Str.ofString "__length_hint__") >>= _) _ _ _
  exact wpAny_bind (wpAny_specialOf hT zip_hint0 (wpAny_pure h))
/-- the pairs made so far -/
structure ZMade (xs ys : Array Value) (lo : Addr) (h : Heap) (as : List Addr) : Prop where
  rise : as.Pairwise (· < ·)
  above : ∀ a ∈ as, lo < a
  pairs : ∀ (j : Nat) (a : Addr), as[j]? = some a → ∃ x y, xs[j]? = some x ∧ ys[j]? = some y ∧ IsPair h a x y
theorem ZMade.there {xs ys : Array Value} {lo : Addr} {h : Heap} {as : List Addr} (g : ZMade xs ys lo h as) {a : Addr} (ha : a ∈ as) : a < h.objs.size := by
  obtain ⟨j, hj⟩ := List.mem_iff_getElem?.mp ha
  obtain ⟨_, _, _, _, e⟩ := g.pairs j a hj
  exact Heap.lt_size e
theorem zp_loop {st : Bool} {R : Result → Shared → Prop} {z TI TO i1 i2 l1 l2 S : Addr} {xs ys : Array Value} (hh : A.handled = none) (D : ZipApart z TI TO i1 i2 l1 l2) (hl : xs.size = ys.size) (hn : xs.size ≤ sizeLine)
    (nS : z ≠ S ∧ TI ≠ S ∧ TO ≠ S ∧ i1 ≠ S ∧ i2 ≠ S ∧ l1 ≠ S ∧ l2 ≠ S) (bz : z < S ∧ TO < S ∧ i1 < S ∧ i2 < S) (res : Value) {h₁ : Heap}
    (hR : ∀ h' tk acc c as, (∀ b o, b ≠ S → b ≠ z → b ≠ TO → b ≠ i1 → b ≠ i2 → h₁.get? b = some o → h'.get? b = some o) → h'.get? S = some { cls := .type "list", dict := none, data := .seq acc c, slots := #[] } → as.length = xs.size → ZMade xs ys S h' as →
      acc.toList = as.map Value.ref → R (.ok (.ret res)) { s with heap := h', toks := tk }) :
    ∀ (k i : Nat) (h : Heap) (tk c : Nat) (acc : Array Value) (as : List Addr), xs.size - i = k → i ≤ xs.size → ZSt st h z TI TO i1 i2 l1 l2 S xs ys i → (∀ b o, b ≠ S → b ≠ z → b ≠ TO → b ≠ i1 → b ≠ i2 → h₁.get? b = some o → h.get? b = some o) →
      h.get? S = some { cls := .type "list", dict := none, data := .seq acc c, slots := #[] } → acc.toList = as.map Value.ref → as.length = i → ZMade xs ys S h as →
      codeAny (model prog w) A (.builtin "list.extend.loop" ⟨[.ref S, .ref z, res], []⟩) R { s with heap := h, toks := tk } := by
  obtain ⟨n1, n2, n3, n4, n5, n6, n7⟩ := nS
  obtain ⟨b1, b2, b3, b4⟩ := bz
  intro k
  induction k with
  | zero =>
    intro i h tk c acc as hk hi hst hkeep hS hacc hal hG
    refine codeAny_builtin PySem.F.entry_extend_loop ?_
    rw [Around.under_plainId PySem.F.plain_extend_loop _]
    show wpAny _ A.in1 (pyNext (.ref z) >>= _) _ _ _
    refine wpAny_bind (zp_end (s := { s with heap := h, toks := tk }) (A := A.in1) hh D hst (Array.getElem?_eq_none (by omega)) (Array.getElem?_eq_none (by omega)) fun h' he => ?_)
    have ab : ∀ a, a ∈ as → a ≠ z ∧ a ≠ TO ∧ a ≠ i1 ∧ a ≠ i2 := fun a ha => by have := hG.above a ha; exact ⟨Nat.ne_of_gt (Nat.lt_trans b1 this), Nat.ne_of_gt (Nat.lt_trans b2 this), Nat.ne_of_gt (Nat.lt_trans b3 this), Nat.ne_of_gt (Nat.lt_trans b4 this)⟩
    refine wpAny_pure (hR h' tk acc c as (fun b o h1 h2 h3 h4 h5 e => he b o h2 h3 h4 h5 (hkeep b o h1 h2 h3 h4 h5 e)) (he S _ n1.symm n3.symm n4.symm n5.symm hS) (by omega) ⟨hG.rise, hG.above, fun j a hj => ?_⟩ hacc)
    obtain ⟨x, y, e1, e2, e3⟩ := hG.pairs j a hj
    obtain ⟨a1, a2, a3, a4⟩ := ab a (List.mem_of_getElem? hj)
    exact ⟨x, y, e1, e2, he a _ a1 a2 a3 a4 e3⟩
  | succ k ih =>
    intro i h tk c acc as hk hi hst hkeep hS hacc hal hG
    have hlt : i < xs.size := by omega
    have hlt2 : i < ys.size := by omega
    have hsz : acc.size = i := by rw [← Array.length_toList, hacc, List.length_map, hal]
    refine codeAny_builtin PySem.F.entry_extend_loop ?_
    rw [Around.under_plainId PySem.F.plain_extend_loop _]
    show wpAny _ A.in1 (pyNext (.ref z) >>= _) _ _ _
    have hSl : S < h.objs.size := Heap.lt_size hS
    refine wpAny_bind (zp_next (s := { s with heap := h, toks := tk }) D hst hSl (Array.getElem?_eq_getElem hlt) (Array.getElem?_eq_getElem hlt2) fun h' hst' ht hz hkp => ?_)
    dsimp only at ht hz hkp ⊢
    have hS' := hkp S _ n1.symm n3.symm n4.symm n5.symm hS
    have up : ∀ b o, b ≠ S → h'.get? b = some o → (h'.update S (Obj.mapSeq (·.push (Value.ref h.objs.size)))).get? b = some o := fun b o hb e => (Heap.get?_update_other _ _ (Ne.symm hb)).trans e
    show wpAny _ A.in1 (updateSeq S (·.push (Value.ref h.objs.size)) >>= _) _ _ _
    refine wpAny_bind ?_
    refine wpAny_updateSeq hS' rfl (wpAny_pure ⟨plainId_quiet PySem.F.plain_extend_loop _, ih (i + 1) _ tk _ (acc.push (Value.ref h.objs.size)) (as ++ [h.objs.size]) (by omega) hlt (hst'.keep up ⟨n1, n2, n3, n4, n5, n6, n7⟩)
      (fun b o h1 h2 h3 h4 h5 e => up b o h1 (hkp b o h2 h3 h4 h5 (hkeep b o h1 h2 h3 h4 h5 e))) (Heap.get?_update_self _ hS' rfl) (by rw [Array.toList_push, hacc, List.map_append]; rfl) (by rw [List.length_append, hal]; rfl) ⟨?_, ?_, ?_⟩⟩) (by rw [hsz]; omega) (by show (acc.push (Value.ref h.objs.size)).size ≤ sizeLine + 1; rw [Array.size_push, hsz]; omega)
    · refine List.pairwise_append.mpr ⟨hG.rise, List.pairwise_singleton _ _, fun a ha b hb => ?_⟩
      rw [List.mem_singleton.mp hb]
      exact hG.there ha
    · intro a ha
      rcases List.mem_append.mp ha with ha | ha
      · exact hG.above a ha
      · rw [List.mem_singleton.mp ha]; exact hSl
    · intro j b hj
      rcases Nat.lt_trichotomy j as.length with q | q | q
      · rw [List.getElem?_append_left q] at hj
        obtain ⟨x, y, e1, e2, e3⟩ := hG.pairs j b hj
        have hb := hG.above b (List.mem_of_getElem? hj)
        exact ⟨x, y, e1, e2, up b _ (Nat.ne_of_gt hb) (hkp b _ (Nat.ne_of_gt (Nat.lt_trans b1 hb)) (Nat.ne_of_gt (Nat.lt_trans b2 hb)) (Nat.ne_of_gt (Nat.lt_trans b3 hb)) (Nat.ne_of_gt (Nat.lt_trans b4 hb)) e3)⟩
      · subst q
        have hb : h.objs.size = b := by simpa using hj
        subst hb
        subst hal
        exact ⟨_, _, Array.getElem?_eq_getElem hlt, Array.getElem?_eq_getElem hlt2, up _ _ (Nat.ne_of_gt hSl) ht⟩
      · have hnone : (as ++ [h.objs.size])[j]? = none := List.getElem?_eq_none (by rw [List.length_append, List.length_singleton]; omega)
        rw [hnone] at hj; cases hj
/-- list(z) of a zip that has not begun -/
theorem zp_ext {st : Bool} {R : Result → Shared → Prop} {z TI TO i1 i2 l1 l2 S : Addr} {xs ys : Array Value} (hh : A.handled = none) (D : ZipApart z TI TO i1 i2 l1 l2) (hl : xs.size = ys.size) (hn : xs.size ≤ sizeLine)
    (nS : z ≠ S ∧ TI ≠ S ∧ TO ≠ S ∧ i1 ≠ S ∧ i2 ≠ S ∧ l1 ≠ S ∧ l2 ≠ S) (bz : z < S ∧ TO < S ∧ i1 < S ∧ i2 < S) (res : Value) (c₀ : Nat) (hst : ZSt st s.heap z TI TO i1 i2 l1 l2 S xs ys 0) (hS : s.heap.get? S = some { cls := .type "list", data := .seq #[] c₀ })
    (hR : ∀ h' tk acc c as, (∀ b o, b ≠ S → b ≠ z → b ≠ TO → b ≠ i1 → b ≠ i2 → s.heap.get? b = some o → h'.get? b = some o) → h'.get? S = some { cls := .type "list", dict := none, data := .seq acc c, slots := #[] } → as.length = xs.size → ZMade xs ys S h' as →
      acc.toList = as.map Value.ref → R (.ok (.ret res)) { s with heap := h', toks := tk }) :
    wpAny (model prog w) A.in1 (Builtin.List.listExtendWith (.ref S) (.ref z) res)
      (fun fin s' => match fin with | .done f => R (.ok f) s' | .again c' => c'.quiet = true ∧ codeAny (model prog w) A c' R s') (fun e s' => R (.error e) s') s := by
  obtain ⟨hTI, q1, q2, q3, q4, f0, f1, hz, hf⟩ := id hst
  have hT : s.TypeIs (.ref z) "zip" := ⟨_, hz, rfl⟩
  have key : ∀ (h : Heap) (c₁ tk : Nat), (∀ b o, b ≠ S → s.heap.get? b = some o → h.get? b = some o) → h.get? S = some { cls := .type "list", data := .seq #[] c₁ } →
      codeAny (model prog w) A (.builtin "list.extend.loop" ⟨[.ref S, .ref z, res], []⟩) R { s with heap := h, toks := tk } := fun h c₁ tk hk hS₁ =>
    zp_loop (s := s) (h₁ := s.heap) hh D hl hn nS bz res hR xs.size 0 h tk c₁ #[] [] (Nat.sub_zero _) (Nat.zero_le _) (hst.keep hk nS) (fun b o hb _ _ _ _ e => hk b o hb e) hS₁ rfl rfl
      ⟨List.Pairwise.nil, (fun _ ha => nomatch ha), (fun j a hj => by simp at hj)⟩
  unfold Builtin.List.listExtendWith
  refine wpAny_bind (wpAny_typeOf (T := "zip") hT ?_)
  have h1 : Builtin.List.listSameRef (.ref S) (.ref z) = false := by simp [Builtin.List.listSameRef, nS.1.symm]
  have h2 : (Value.type "zip" == Value.type "list") = false := by decide
  have h3 : (Value.type "zip" == Value.type "tuple") = false := by decide
  simp only [h1, h2, h3, Bool.or_false, Bool.false_eq_true, if_false]
  refine wpAny_bind (zp_iter hz ?_)
  refine wpAny_bind (wpAny_holding (zp_hint hT ?_))
  refine wpAny_ite_split (fun _ => ?_) (fun _ => wpAny_pure ⟨plainId_quiet PySem.F.plain_extend_loop _, key _ c₀ _ (fun b o _ e => e) hS⟩)
  refine wpAny_bind (wpAny_rule ?_)
  refine wpAny_bind ?_
  show wpAny _ _ (updateSeq S (·.push .none) >>= fun _ => updateSeq S (·.pop)) _ _ _
  refine wpAny_bind (wpAny_updateSeq hS rfl ?_)
  have hS₂ := Heap.get?_update_self (Obj.mapSeq (·.push Value.none)) hS rfl
  refine wpAny_updateSeq (hz := by seq_fits) hS₂ rfl ?_
  have hS₃ := Heap.get?_update_self (Obj.mapSeq (·.pop)) hS₂ rfl
  refine wpAny_pure ⟨plainId_quiet PySem.F.plain_extend_loop _, key _ _ _ (fun b o hb e => ?_) hS₃⟩
  exact (Heap.get?_update_other _ _ (Ne.symm hb)).trans ((Heap.get?_update_other _ _ (Ne.symm hb)).trans e)
theorem zp_init {st : Bool} {R : Result → Shared → Prop} {z TI TO i1 i2 l1 l2 S : Addr} {xs ys : Array Value} (hh : A.handled = none) (D : ZipApart z TI TO i1 i2 l1 l2) (hl : xs.size = ys.size) (hn : xs.size ≤ sizeLine)
    (nS : z ≠ S ∧ TI ≠ S ∧ TO ≠ S ∧ i1 ≠ S ∧ i2 ≠ S ∧ l1 ≠ S ∧ l2 ≠ S) (bz : z < S ∧ TO < S ∧ i1 < S ∧ i2 < S) (hst : ZSt st s.heap z TI TO i1 i2 l1 l2 S xs ys 0) (hS : s.heap.get? S = some { cls := .type "list", data := .seq #[] })
    (hR : ∀ h' tk acc c as, (∀ b o, b ≠ S → b ≠ z → b ≠ TO → b ≠ i1 → b ≠ i2 → s.heap.get? b = some o → h'.get? b = some o) → h'.get? S = some { cls := .type "list", dict := none, data := .seq acc c, slots := #[] } → as.length = xs.size → ZMade xs ys S h' as →
      acc.toList = as.map Value.ref → R (.ok (.ret .none)) { s with heap := h', toks := tk }) :
    wpAny (model prog w) A.in1 (Builtin.«list.__init__» ⟨[.ref S, .ref z], []⟩)
      (fun fin s' => match fin with | .done f => R (.ok f) s' | .again c' => c'.quiet = true ∧ codeAny (model prog w) A c' R s') (fun e s' => R (.error e) s') s := by
  show wpAny _ _ (Builtin.List.listItems (.ref S) >>= _) _ _ s
  refine wpAny_bind ?_
  unfold Builtin.List.listItems
  refine wpAny_bind (wpAny_seqItems hS rfl (wpAny_pure ?_))
  show wpAny _ _ (updateSeq S (fun _ => #[]) >>= fun _ => letGo (#[] : Array Value).toList.reverse >>= fun _ => Builtin.List.listExtendWith (.ref S) (.ref z) .none) _ _ s
  refine wpAny_bind (wpAny_updateSeq hS rfl ?_)
  have hS₂ := Heap.get?_update_self (Obj.mapSeq (fun _ => (#[] : Array Value))) hS rfl
  have oth : ∀ b o, b ≠ S → s.heap.get? b = some o → (s.heap.update S (Obj.mapSeq (fun _ => (#[] : Array Value)))).get? b = some o :=
    fun b o hb e => (Heap.get?_update_other _ _ (Ne.symm hb)).trans e
  refine wpAny_bind (wpAny_letGo ?_)
  exact zp_ext hh D hl hn nS bz .none _ (hst.keep oth nS) hS₂ fun h' tk acc' c' as hk hS' hal hG hacc => hR h' tk acc' c' as (fun b o h1 h2 h3 h4 h5 e => hk b o h1 h2 h3 h4 h5 (oth b o h1 e)) hS' hal hG hacc
end
end M

/-! ### list(zip(xs, ys)), list(zip(xs, ys, strict=True)) -/
namespace PySem.F
open PySem
theorem typeCall_zip_st (a b v : Value) : checkTypeCall "zip" ⟨[a, b], [(Str.ofString "strict", v)]⟩ = pure () := by kernel_rfl
theorem newCall_zip_st (a b v : Value) : checkBuiltinCall "zip.__new__" ⟨[.type "zip", a, b], [(Str.ofString "strict", v)]⟩ = pure () := by kernel_rfl
theorem args_init_zip_st (o a b v : Value) : argsOk "object.__init__" ⟨[o, a, b], [(Str.ofString "strict", v)]⟩ := by unfold argsOk; kernel_rfl
end PySem.F
namespace M
open PySem PySem.Spec PyProof.Rows
abbrev zstH5 (h : Heap) (l1 l2 : Addr) : Heap := (zipH4 h l1 l2).push { cls := .type "zip", data := .fields #[.none, .bool false, .bool true, .ref (zipH2 h l1 l2).objs.size, .ref (zipH3 h l1 l2).objs.size] }
theorem meets_zip_st (l1 l2 : Addr) (xs ys : Array Value) :
    Meets (Builtin.«zip.__new__» ⟨[.type "zip", .ref l1, .ref l2], [(Str.ofString "strict", .bool true)]⟩) (fun _ R s => s.heap.IsList l1 xs ∧ s.heap.IsList l2 ys ∧
      R (.ok (.ret (.ref (zipH4 s.heap l1 l2).objs.size))) { s with heap := zstH5 s.heap l1 l2 }) :=
  .of_wp fun prog w A R s h => by
    obtain ⟨hp, g, d, tk, os⟩ := s; obtain ⟨hl1, hl2, h⟩ := h
    have hsub := sub_zip
    have hL1 : Heap.IsList (Shared.heap ⟨hp, g, d, tk, os⟩) l1 xs := hl1
    have hL2 : Heap.IsList (Shared.heap ⟨hp.push { cls := .type "list_iterator", data := .fields #[.ref l1, .int 0 0] }, g, d, tk, os⟩) l2 ys := Heap.IsList.push hl2 _
    have e2 : (Str.ofString "strict" != ("strict" : Str)) = false := by decide +kernel
    wp_walk using wpAny_pyIter_list hL1, wpAny_pyIter_list hL2
    exact ⟨_, rfl, h⟩
section
variable {prog : Program} {w : World} {A : Around} {E : Value → Shared → Prop} {s : Shared}
/-- a new zip, and what it is made of -/
def ZNew (st : Bool) (s : Shared) (l1 l2 : Addr) (Q : Value → Shared → Prop) : Prop :=
  ∀ h', ZipFree h' (s.heap.objs.size + 4) (s.heap.objs.size + 2) (s.heap.objs.size + 3) st → IsPair h' (s.heap.objs.size + 2) (.ref s.heap.objs.size) (.ref (s.heap.objs.size + 1)) →
      IsPair h' (s.heap.objs.size + 3) .none .none → h'.IsListIter s.heap.objs.size l1 0 → h'.IsListIter (s.heap.objs.size + 1) l2 0 → h'.objs.size = s.heap.objs.size + 5 →
      (∀ c o, s.heap.get? c = some o → h'.get? c = some o) → Q (.ref (s.heap.objs.size + 4)) { s with heap := h' }
theorem call_zip_st {l1 l2 : Addr} {xs ys : Array Value} {Q : Value → Shared → Prop} (hl1 : s.heap.IsList l1 xs) (hl2 : s.heap.IsList l2 ys) (h : ZNew true s l1 l2 Q) :
    wpAny (model prog w) A (call (.type "zip") [.ref l1, .ref l2] [(Str.ofString "strict", .bool true)]) Q E s := by
  refine callType_newKw F.called_zip (by decide) (F.typeCall_zip_st _ _ _) (F.newCall_zip_st _ _ _) (fun obj => F.args_init_zip_st obj _ _ _) F.entry_zip_new
    (meets_zip_st l1 l2 xs ys) ⟨hl1, hl2, ?_⟩
  have z1 : (zipH1 s.heap l1).objs.size = s.heap.objs.size + 1 := Heap.size_push ..
  have z2 : (zipH2 s.heap l1 l2).objs.size = s.heap.objs.size + 2 := by rw [Heap.size_push, z1]
  have z3 : (zipH3 s.heap l1 l2).objs.size = s.heap.objs.size + 3 := by rw [Heap.size_push, z2]
  have z4 : (zipH4 s.heap l1 l2).objs.size = s.heap.objs.size + 4 := by rw [Heap.size_push, z3]
  have z5 : (zstH5 s.heap l1 l2).objs.size = s.heap.objs.size + 5 := by rw [Heap.size_push, z4]
  have g5 : (zstH5 s.heap l1 l2).get? (zipH4 s.heap l1 l2).objs.size = some _ := Heap.get?_push_size _ rfl
  have g4 : (zstH5 s.heap l1 l2).get? (zipH3 s.heap l1 l2).objs.size = some _ := Heap.get?_push_of_some _ (Heap.get?_push_size _ rfl)
  have g3 : (zstH5 s.heap l1 l2).get? (zipH2 s.heap l1 l2).objs.size = some _ := Heap.get?_push_of_some _ (Heap.get?_push_of_some _ (Heap.get?_push_size _ rfl))
  have g2 : (zstH5 s.heap l1 l2).get? (zipH1 s.heap l1).objs.size = some _ := Heap.get?_push_of_some _ (Heap.get?_push_of_some _ (Heap.get?_push_of_some _ (Heap.get?_push_size _ rfl)))
  have g1 : (zstH5 s.heap l1 l2).get? s.heap.objs.size = some _ := Heap.get?_push_of_some _ (Heap.get?_push_of_some _ (Heap.get?_push_of_some _ (Heap.get?_push_of_some _ (Heap.get?_push_size _ rfl))))
  show _ ∧ _
  rw [z2, z3, z4] at g5
  rw [z1, z2] at g3
  rw [z3] at g4
  rw [z1] at g2
  rw [z4]
  exact ⟨⟨_, g5, rfl⟩, h _ g5 g3 g4 ⟨_, g1, rfl, rfl⟩ ⟨_, g2, rfl, rfl⟩ z5 fun c o x =>
    Heap.get?_push_of_some _ (Heap.get?_push_of_some _ (Heap.get?_push_of_some _ (Heap.get?_push_of_some _ (Heap.get?_push_of_some _ x))))⟩
theorem call_zip_pl {l1 l2 : Addr} {xs ys : Array Value} {Q : Value → Shared → Prop} (hl1 : s.heap.IsList l1 xs) (hl2 : s.heap.IsList l2 ys) (h : ZNew false s l1 l2 Q) :
    wpAny (model prog w) A (call (.type "zip") [.ref l1, .ref l2]) Q E s := call_zip_2 hl1 hl2 h
theorem call_list_zip {st : Bool} {Q : Value → Shared → Prop} {z TI TO i1 i2 l1 l2 : Addr} {a b : Value} {xs ys : Array Value} (hh : A.handled = none) (D : ZipApart z TI TO i1 i2 l1 l2) (hl : xs.size = ys.size) (hn : xs.size ≤ sizeLine)
    (hz : ZipFree s.heap z TI TO st) (hTI : IsPair s.heap TI (.ref i1) (.ref i2)) (hTO : IsPair s.heap TO a b) (q1 : s.heap.IsListIter i1 l1 0) (q2 : s.heap.IsListIter i2 l2 0) (q3 : s.heap.IsList l1 xs) (q4 : s.heap.IsList l2 ys)
    (hQ : ∀ h' tk acc c as, (∀ b o, b ≠ z → b ≠ TO → b ≠ i1 → b ≠ i2 → s.heap.get? b = some o → h'.get? b = some o) → h'.get? s.heap.objs.size = some { cls := .type "list", dict := none, data := .seq acc c, slots := #[] } → as.length = xs.size → ZMade xs ys s.heap.objs.size h' as →
      acc.toList = as.map Value.ref → Q (.ref s.heap.objs.size) { s with heap := h', toks := tk }) :
    wpAny (model prog w) A (call (.type "list") [.ref z]) Q E s := by
  refine callType_codes (Q₁ := fun obj s₁ => obj = .ref s.heap.objs.size ∧ s₁ = { s with heap := s.heap.push { cls := .type "list", data := .seq #[] } }) F.called_list (F.typeCall_list_1 _) F.entry_list_init
    (code_list_new _ ⟨rfl, rfl⟩) fun obj s₁ h₁ => ?_
  obtain ⟨rfl, rfl⟩ := h₁
  have lt : ∀ {c o}, s.heap.get? c = some o → c < s.heap.objs.size := fun e => Heap.lt_size e
  have ltI : ∀ {c l k}, s.heap.IsListIter c l k → c < s.heap.objs.size := fun h => by obtain ⟨_, e, _⟩ := h; exact lt e
  have ltL : ∀ {c x}, s.heap.IsList c x → c < s.heap.objs.size := fun h => by obtain ⟨_, e, _⟩ := h; exact lt e
  have hst : ZSt st s.heap z TI TO i1 i2 l1 l2 s.heap.objs.size xs ys 0 := ⟨hTI, q1, q2, q3, q4, _, _, hz, .inl ⟨rfl, rfl, a, b, hTO⟩⟩
  have up : ∀ b o, s.heap.get? b = some o → (s.heap.push { cls := .type "list", data := .seq #[] }).get? b = some o := fun b o e => Heap.get?_push_of_some _ e
  have hS : (s.heap.push { cls := .type "list", data := .seq #[] }).get? s.heap.objs.size = some { cls := .type "list", data := .seq #[] } := Heap.get?_push_size _ rfl
  refine ⟨⟨_, hS, rfl⟩, F.args_list_init_2 _ _, zp_init (A := A.in1) (S := s.heap.objs.size) hh D hl hn ⟨Nat.ne_of_lt (lt hz), Nat.ne_of_lt (lt hTI), Nat.ne_of_lt (lt hTO), Nat.ne_of_lt (ltI q1), Nat.ne_of_lt (ltI q2), Nat.ne_of_lt (ltL q3), Nat.ne_of_lt (ltL q4)⟩ ⟨lt hz, lt hTO, ltI q1, ltI q2⟩
    (hst.keep (fun c o _ e => up c o e) ⟨Nat.ne_of_lt (lt hz), Nat.ne_of_lt (lt hTI), Nat.ne_of_lt (lt hTO), Nat.ne_of_lt (ltI q1), Nat.ne_of_lt (ltI q2), Nat.ne_of_lt (ltL q3), Nat.ne_of_lt (ltL q4)⟩) hS fun h' tk acc' c' as hk hS' hal hG hacc => ?_⟩
  exact ⟨rfl, hQ h' tk acc' c' as (fun b o h2 h3 h4 h5 e => hk b o (Nat.ne_of_lt (lt e)) h2 h3 h4 h5 (up b o e)) hS' hal hG hacc⟩
end
end M

/-! ### readings of list(zip(xs, ys)) -/
namespace M
open PySem PySem.Spec PyProof.Rows L2
/-- the values are tuples that hold the pairs -/
inductive PzL (H : Hp) : List V → List (V × V) → Prop
  | nil : PzL H [] []
  | cons {t : Addr} {x y : V} {r : List V} {l : List (V × V)} : H t = some (.tup [x, y]) → PzL H r l → PzL H (.ref t :: r) ((x, y) :: l)
theorem PzL.ex {H H' : Hp} (e : Ex H H') : ∀ {r : List V} {l : List (V × V)}, PzL H r l → PzL H' r l
  | _, _, .nil => .nil
  | _, _, .cons h t => .cons (e _ _ h) (t.ex e)
theorem PzL.len {H : Hp} : ∀ {r : List V} {l : List (V × V)}, PzL H r l → r.length = l.length
  | _, _, .nil => rfl
  | _, _, .cons _ t => by simp [t.len]
/-- many new objects at once -/
theorem HOk.news {P : Program} {w : World} {H H' : Hp} {h h' : Heap} (x : HOk P w H h) (k : ∀ b u, h.get? b = some u → h'.get? b = some u) (old : ∀ b o, H b = some o → H' b = some o)
    (new : ∀ b o, H b = none → H' b = some o → ObjOk P w H' h' b o) : HOk P w H' h' := fun b u e => by
  cases q : H b with
  | none => exact new b u q e
  | some o =>
    have := old b o q
    rw [this] at e; cases e
    exact (x b _ q).stay (fun c v _ r => k c v r) (fun c r => old c _ r) fun c xs r => old c _ r
theorem Un.news {fs ex : List Addr} {H H' : Hp} {h h' : Heap} (k : ∀ b u, h.get? b = some u → h'.get? b = some u) (old : ∀ b o, H b = some o → H' b = some o) (low : ∀ b, b < h.objs.size → H b = none → H' b = none) : Un fs ex H H' h h' where
  keep := fun b u q _ _ _ => k b u q
  slot := fun b u q _ _ _ => ⟨u.slots, k b u q⟩
  free := fun b u q n _ => low b (Heap.lt_size q) n
  there := fun b u q _ => ⟨u, k b u q⟩
  tups := fun b xs q => old b _ q
  frzs := fun b u xs q => old b _ q
  tbls := fun b ps q => ⟨#[], by rw [old b _ q]; simp⟩
theorem Inv.news {X : Cx} {pins : List (Addr × Obj)} {σ : L2.St} {H H' : Hp} {s : Shared} {h' : Heap} {t' : Nat} (I : Inv X pins σ H s) (k : ∀ b u, s.heap.get? b = some u → h'.get? b = some u) (old : ∀ b o, H b = some o → H' b = some o)
    (low : ∀ b, b < s.heap.objs.size → H b = none → H' b = none) (new : ∀ b o, H b = none → H' b = some o → ObjOk X.prog X.w H' h' b o) : Inv X pins σ H' { s with heap := h', toks := t' } :=
  I.un (Un.news k old low) (HOk.news I.hok k old new)
theorem idx_rise : ∀ {as : List Nat} {j a : Nat}, as.Pairwise (· < ·) → as[j]? = some a → as.idxOf a = j
  | [], j, a, _, h => by simp at h
  | b :: r, 0, a, _, h => by
    have : b = a := by simpa using h
    subst this; simp
  | b :: r, j + 1, a, p, h => by
    have h' : r[j]? = some a := by simpa using h
    obtain ⟨p1, p2⟩ := List.pairwise_cons.mp p
    have ne : b ≠ a := Nat.ne_of_lt (p1 a (List.mem_of_getElem? h'))
    rw [List.idxOf_cons, beq_eq_false_iff_ne.mpr ne, cond_false, idx_rise p2 h']
theorem PzL.of {H : Hp} : ∀ {as : List Addr} {P : List (V × V)}, as.length = P.length → (∀ (j : Nat) (a : Addr), as[j]? = some a → ∃ p : V × V, P[j]? = some p ∧ H a = some (.tup [p.1, p.2])) → PzL H (as.map V.ref) P
  | [], [], _, _ => .nil
  | [], _ :: _, h, _ => by simp at h
  | _ :: _, [], h, _ => by simp at h
  | a :: as, p :: P, h, k => by
    obtain ⟨q, e, h0⟩ := k 0 a rfl
    have : p = q := by simpa using e
    subst this
    exact .cons h0 (PzL.of (by simpa using h) fun j b hb => k (j + 1) b hb)
/-- the heap with the pairs and their list -/
def zipH (H : Hp) (S : Addr) (as : List Addr) (P : List (V × V)) : Hp := fun a =>
  if a = S then some (.lst (as.map V.ref)) else if a ∈ as then (match P[List.idxOf (α := Nat) a as]? with | some p => some (.tup [p.1, p.2]) | none => H a) else H a
def mZipL (K : PySem.W.Frag) (ta : TA) : TE := fun σ H Q => ta σ H fun vs H1 => ∃ a b xs ys, vs = [.ref a, .ref b] ∧ SqL K H1 a xs ∧ SqL K H1 b ys ∧ xs.length = ys.length ∧ ∀ H' p ts, Ex H1 H' → H1 p = none → H' p = some (.lst ts) → PzL H' ts (xs.zip ys) → Q (.ref p) H'
section
variable {X : Cx} {e e1 e2 : Expr} {t : TA} {p p2 pos pos2 : Pos} {kws : List Keyword}
theorem zipL_end {pins : List (Addr × Obj)} {s1 : Shared} {σ : L2.St} {H1 : Hp} {Q : VK} {st : Bool} {a b : Addr} {xs ys : List V} (hh : X.A.handled = none) (I1 : Inv X pins σ H1 s1) (hqx : SqL X.K H1 a xs) (hqy : SqL X.K H1 b ys) (hl : xs.length = ys.length)
    (q : ∀ H' p ts, Ex H1 H' → H1 p = none → H' p = some (.lst ts) → PzL H' ts (xs.zip ys) → Q (.ref p) H') : ∃ its its2 : Array Value, s1.heap.IsList a its ∧ s1.heap.IsList b its2 ∧
    ZNew st s1 a b fun z s2 => wpAny (model X.prog X.w) X.A (call (.type "list") [z]) (EP X pins σ Q) X.xe s2 := by
  obtain ⟨its, rv, pl1, zl⟩ := I1.list hqx
  obtain ⟨its2, rv2, pl2, _⟩ := I1.list hqy
  have la : a < s1.heap.objs.size := pl1.lt
  have lb : b < s1.heap.objs.size := pl2.lt
  have len1 := rv.length
  have len2 := rv2.length
  refine ⟨_, _, pl1.isList, pl2.isList, fun h' hz hTI hTO h1 h2 hsz hk => ?_⟩
  refine call_list_zip (s := { s1 with heap := h' }) (xs := its.toArray) (ys := its2.toArray) hh (PySem.W.ktu_apart s1.heap.objs.size a b la lb) (by simp; omega) (by simp; omega) hz hTI hTO h1 h2 (pl1.isList.at fun o e => hk _ o e) (pl2.isList.at fun o e => hk _ o e) fun h'' tk acc c as hk' hS hal hG hacc => ?_
  dsimp only at hS hG hk' ⊢
  rw [hsz] at hS hG ⊢
  have kk : ∀ b u, s1.heap.get? b = some u → h''.get? b = some u := fun b u e => by
    have lt : b < s1.heap.objs.size := Heap.lt_size e
    have ne : ∀ k, b ≠ s1.heap.objs.size + k := fun k => Nat.ne_of_lt (Nat.lt_of_lt_of_le lt (Nat.le_add_right _ _))
    exact hk' b u (ne 4) (ne 3) (ne 0) (ne 1) (hk b u e)
  have nS : H1 (s1.heap.objs.size + 5) = none := I1.hok.fresh (Nat.le_add_right _ _)
  have fa : ∀ c ∈ as, H1 c = none := fun c hc => I1.hok.fresh (Nat.le_of_lt (Nat.lt_of_le_of_lt (Nat.le_add_right _ 5) (hG.above c hc)))
  have alen : as.length = (xs.zip ys).length := by rw [hal, List.length_zip]; simp; omega
  have at_ : ∀ (j : Nat) (c : Addr), as[j]? = some c → ∃ p : V × V, (xs.zip ys)[j]? = some p ∧ zipH H1 (s1.heap.objs.size + 5) as (xs.zip ys) c = some (.tup [p.1, p.2]) ∧ ∃ u v, RelV p.1 u ∧ RelV p.2 v ∧ IsPair h'' c u v := fun j c hj => by
    have jl : j < as.length := (List.getElem?_eq_some_iff.mp hj).1
    have hmem := List.mem_of_getElem? hj
    have jp : j < (xs.zip ys).length := by omega
    refine ⟨(xs.zip ys)[j], List.getElem?_eq_getElem jp, ?_, ?_⟩
    · unfold zipH
      have hab := hG.above c hmem
      rw [if_neg (Nat.ne_of_gt hab), if_pos hmem, idx_rise hG.rise hj, List.getElem?_eq_getElem jp]
    · obtain ⟨u, v, g1, g2, g3⟩ := hG.pairs j c hj
      have jx : j < xs.length := by rw [List.length_zip] at jp; omega
      have jy : j < ys.length := by rw [List.length_zip] at jp; omega
      obtain ⟨u', hu', ru⟩ := rv.get (List.getElem?_eq_getElem jx)
      obtain ⟨v', hv', rv'⟩ := rv2.get (List.getElem?_eq_getElem jy)
      have e1 : u' = u := by
        have : its[j]? = some u := by simpa using g1
        rw [hu'] at this; exact Option.some.inj this
      have e2 : v' = v := by
        have : its2[j]? = some v := by simpa using g2
        rw [hv'] at this; exact Option.some.inj this
      subst e1 e2
      rw [List.getElem_zip]
      exact ⟨u', v', ru, rv', g3⟩
  have old : Ex H1 (zipH H1 (s1.heap.objs.size + 5) as (xs.zip ys)) := fun b o e => by
    unfold zipH
    have lt := I1.hok.lt e
    rw [if_neg (by intro z; rw [z, nS] at e; cases e), if_neg (fun z => by rw [fa b z] at e; cases e)]
    exact e
  have low : ∀ b, b < s1.heap.objs.size → H1 b = none → zipH H1 (s1.heap.objs.size + 5) as (xs.zip ys) b = none := fun b lt e => by
    unfold zipH
    rw [if_neg (by intro z; subst z; exact absurd lt (by have := Nat.le_add_right s1.heap.objs.size 5; omega)), if_neg (fun z => absurd (Nat.lt_trans (Nat.lt_of_lt_of_le lt (Nat.le_add_right _ 5)) (hG.above b z)) (Nat.lt_irrefl _))]
    exact e
  have J : Inv X pins σ (zipH H1 (s1.heap.objs.size + 5) as (xs.zip ys)) { s1 with heap := h'', toks := tk } := Inv.news I1 kk old low fun b o e1 e2 => by
    by_cases c1 : b = s1.heap.objs.size + 5
    · subst c1
      have : o = .lst (as.map V.ref) := by
        unfold zipH at e2
        rw [if_pos rfl] at e2
        exact (Option.some.inj e2).symm
      subst this
      have eacc : acc = (as.map Value.ref).toArray := by rw [← hacc]
      refine ⟨by rw [List.length_map, hal]; simp; omega, as.map Value.ref, c, ?_, by rw [hS, eacc]⟩
      clear hacc hS hG at_ alen hal fa eacc e1 e2 old low
      induction as with
      | nil => exact .nil
      | cons x r ih => exact .cons rfl ih
    · by_cases c2 : b ∈ as
      · obtain ⟨j, hj⟩ := List.mem_iff_getElem?.mp c2
        obtain ⟨p, g1, g2, u, v, ru, rv', g3⟩ := at_ j b hj
        rw [g2] at e2
        cases e2
        exact ⟨by show 2 ≤ sizeLine; decide, [u, v], .cons ru (.cons rv' .nil), ⟨_, g3, rfl, _, rfl⟩⟩
      · unfold zipH at e2
        rw [if_neg c1, if_neg c2, e1] at e2
        cases e2
  refine ⟨.ref (s1.heap.objs.size + 5), _, J, rfl, q _ _ _ old nS (by unfold zipH; rw [if_pos rfl]) (PzL.of alen fun j c hj => ?_)⟩
  obtain ⟨p, g1, g2, _⟩ := at_ j c hj
  exact ⟨p, g1, g2⟩
theorem callWith_tyK {mo : Model} {A : Around} {E : Value → Shared → Prop} {s : Shared} {env : Env} {pos : Pos} {T : String} {e : Expr} {rest : List Expr} {kws : List Keyword} {Q : Value → Shared → Prop}
    (h : wpAny mo A (spliced (backTo pos (starEach (e :: rest) env))) (fun vs s₁ => wpAny mo A (evalAll ((backToKw pos (keywordEach kws env)).map (·.2)))
      (fun kvs s₂ => wpAny mo A (call (.type T) vs (((backToKw pos (keywordEach kws env)).filterMap (·.1)).zip kvs)) Q E s₂) E s₁) E s)
    (he : backTo pos (starEach (e :: rest) env) = (false, eval e env) :: backTo pos (starEach rest env) := by rfl)
    (hplain : (backTo pos (starEach (e :: rest) env)).any (·.1) = false := by rfl)
    (hall : (backToKw pos (keywordEach kws env)).all (·.1.isSome) = true := by rfl)
    (hkw : (backToKw pos (keywordEach kws env)).any (·.1.isNone) = false := by rfl) :
    wpAny mo A (callWith pos (.type T) [] (backTo pos (starEach (e :: rest) env)) (backToKw pos (keywordEach kws env))) Q E s := by
  unfold callWith
  have h2 : wpAny mo A (evalArgs (.type T) true (backTo pos (starEach (e :: rest) env)) (backToKw pos (keywordEach kws env))) (fun a s₁ => wpAny mo A (call (.type T) ([] ++ a.pos) a.kw) Q E s₁) E s := by
    rw [he] at h ⊢
    exact PyProof.Rows.evalArgs_kwB hall h
  refine wpAny_bind (wpAny_holding (wpAny_mono h2 (fun a s₁ h₁ => wpAny_bind (wpAny_standAt ?_)) fun _ _ x => x))
  simp only [hplain, hkw, Bool.or_false]
  refine wpAny_bind (wpAny_pure ?_)
  exact wpAny_bind (wpAny_mono h₁ (fun r s₂ hr => wpAny_bind (wpAny_holding (wpAny_point (wpAny_pure hr)))) fun _ _ x => x)
theorem two_refs {a b : Addr} {us : List Value} (r : Vals [.ref a, .ref b] us) : us = [.ref a, .ref b] := by
  cases r with
  | cons r rr =>
    cases rr with
    | cons r' rr =>
      cases rr
      cases r
      cases r'
      rfl
/-- list(zip(a, b)) -/
theorem pe_lzip (hgl : Gl X "list") (hml : X.mg "list" = none) (hg : Gl X "zip") (hm : X.mg "zip" = none) (hc : X.calm = true) (ha : PA X [e1, e2] t)
    (hs : starEach [e1, e2] X.env = (false, eval e1 X.env) :: starEach [e2] X.env := by rfl) (hpl : (backTo pos2 (starEach [e2] X.env)).any (·.1) = false := by rfl)
    (hs' : starEach [Expr.Call (.Name "zip" p2) [e1, e2] [] pos2] X.env = (false, eval (.Call (.Name "zip" p2) [e1, e2] [] pos2) X.env) :: starEach [] X.env := by rfl) (hpl' : (backTo pos (starEach [] X.env)).any (·.1) = false := by rfl) :
    PE X (.Call (.Name "list" p) [.Call (.Name "zip" p2) [e1, e2] [] pos2] [] pos) (mZipL X.K t) := by
  refine ⟨fun pins s σ H Q I h => ?_⟩
  refine wpAny_Call_Name_kw (ld_blt I hgl hml (u := .type "list") (by kernel_rfl) ?_)
  refine PyProof.Rows.callWith_type1 ?_ hs' hpl'
  rw [hs']
  refine Calls.spliced_cons ?_
  refine Call_ (ld_blt I hg hm PyProof.Rows.boot_zip (PyProof.Rows.callWith_type1 (thn (ha.run pos2 pins s σ H _ I h) fun us s1 ⟨vs, H1, I1, r1, q1⟩ => ?_) hs hpl))
  obtain ⟨a, b, xs, ys, ex, hqx, hqy, hl, q⟩ := q1
  subst ex
  rw [two_refs r1]
  obtain ⟨its, its2, p1, p2, k⟩ := zipL_end (st := false) (I1.ok.hd hc) I1 hqx hqy hl q
  refine call_zip_pl p1 p2 fun h' z1 z2 z3 z4 z5 z6 z7 => Calls.spliced_nil (k h' z1 z2 z3 z4 z5 z6 z7)
/-- list(zip(a, b, strict=True)) -/
theorem pe_lzipS {j : Nat} {kp kp2 : Pos} (hgl : Gl X "list") (hml : X.mg "list" = none) (hg : Gl X "zip") (hm : X.mg "zip" = none) (hc : X.calm = true) (ha : PA X [e1, e2] t)
    (hs : backTo pos2 (starEach [e1, e2] X.env) = (false, eval e1 X.env) :: backTo pos2 (starEach [e2] X.env) := by rfl) (hpl : (backTo pos2 (starEach [e1, e2] X.env)).any (·.1) = false := by rfl)
    (hs' : starEach [Expr.Call (.Name "zip" p2) [e1, e2] [⟨some (Str.ofString "strict"), .Constant (.bool true) j kp, kp2⟩] pos2] X.env = (false, eval (.Call (.Name "zip" p2) [e1, e2] [⟨some (Str.ofString "strict"), .Constant (.bool true) j kp, kp2⟩] pos2) X.env) :: starEach [] X.env := by rfl) (hpl' : (backTo pos (starEach [] X.env)).any (·.1) = false := by rfl) :
    PE X (.Call (.Name "list" p) [.Call (.Name "zip" p2) [e1, e2] [⟨some (Str.ofString "strict"), .Constant (.bool true) j kp, kp2⟩] pos2] [] pos) (mZipL X.K t) := by
  refine ⟨fun pins s σ H Q I h => ?_⟩
  refine wpAny_Call_Name_kw (ld_blt I hgl hml (u := .type "list") (by kernel_rfl) ?_)
  refine PyProof.Rows.callWith_type1 ?_ hs' hpl'
  rw [hs']
  refine Calls.spliced_cons ?_
  refine wpAny_Call_Name_kw (ld_blt I hg hm PyProof.Rows.boot_zip ?_)
  refine callWith_tyK (thn (ha.run pos2 pins s σ H _ I h) fun us s1 ⟨vs, H1, I1, r1, q1⟩ => ?_) hs hpl
  have hk : PK X [⟨some (Str.ofString "strict"), .Constant (.bool true) j kp, kp2⟩] (tCons (mC (.bl true)) tNil) := pk_cons me_bl pk_nil
  refine thn (hk.run pos2 pins s1 σ H1 (fun zs H2 => zs = [.bl true] ∧ H2 = H1) I1 ⟨rfl, rfl⟩) fun ws s2 ⟨zs, H2, I2, r2, e1, e2⟩ => ?_
  subst e1 e2
  obtain ⟨a, b, xs, ys, ex, hqx, hqy, hl, q⟩ := q1
  subst ex
  rw [two_refs r1]
  have hw : ws = [.bool true] := by
    cases r2 with
    | cons r rr => cases rr; cases r; rfl
  rw [hw]
  obtain ⟨its, its2, p1, p2, k⟩ := zipL_end (st := true) (I2.ok.hd hc) I2 hqx hqy hl q
  refine call_zip_st p1 p2 fun h' z1 z2 z3 z4 z5 z6 z7 => Calls.spliced_nil (k h' z1 z2 z3 z4 z5 z6 z7)
end
end M

/-! ### xs.index(n) for a list of numbers that holds n -/
namespace M
open PySem PySem.Spec PyProof.Rows L2
section
variable {X : Cx} {pos apos : Pos} {o e : Expr} {to te : TE}
theorem vals_ints : ∀ {ns : List Int} {us : List Value}, Vals (ns.map V.int) us → IntsAre us ns
  | [], us, h => by
    cases h
    exact .nil
  | n :: ns, us, h => by
    cases h with
    | cons a b =>
      obtain ⟨t, rfl⟩ := a
      exact .cons n t (vals_ints b)
def rIndex : V → List V → Hp → VK → Prop := fun x vs H Q => ∃ l ns k, x = .ref l ∧ vs = [.int k] ∧ H l = some (.lst (ns.map V.int)) ∧ k ∈ ns ∧ Q (.int ((List.idxOf k ns : Nat) : Int)) H
theorem mt_index : MtM X "list.index" rIndex := by
  intro pins s σ H x vs v us Q I rx rv h
  obtain ⟨l, ns, k, rfl, rfl, hH, hk, q⟩ := h
  cases rx
  obtain ⟨u, rfl, ru⟩ := rv.one
  obtain ⟨t, rfl⟩ := ru
  obtain ⟨z, its, n, r, hl, e⟩ := I.lstM hH
  have hi := vals_ints r
  have hlen := hi.length
  rw [List.length_map] at *
  refine PySem.SeqAt.list_index_ints ⟨_, e, rfl, n, rfl⟩ hi (by omega) hk ?_
  exact ⟨.int _, _, I.tok _, ⟨_, rfl⟩, q⟩
def mIndex : Addr → List V → List V → Hp → VK → Prop := fun l xs vs H Q => match vs with
  | [.int i] => ∃ ns : List Int, xs = ns.map V.int ∧ i ∈ ns ∧ Q (.int ((List.idxOf i ns : Nat) : Int)) H
  | _ => False
theorem me_index (ho : PE X o to) (he : PE X e te) (hbase : attributeBase o "index" X.env (eval o X.env) = eval o X.env := by rfl)
    (hfew : ((backTo pos (starEach [e] X.env)).all (fun x => !x.1) && (backToKw pos (keywordEach [] X.env)).all (fun x => x.1.isSome) && decide (([e] : List Expr).length + ([] : List Keyword).length + (if ([] : List Keyword).isEmpty then 0 else 1) < 30)) = true := by rfl)
    (hline : (apos.endLine == pos.line) = true := by rfl) (hs : starEach [e] X.env = (false, eval e X.env) :: starEach [] X.env := by rfl) (hplain : (backTo pos (starEach [] X.env)).any (·.1) = false := by rfl) :
    PE X (.Call (.Attribute o "index" apos) [e] [] pos) (mLstM mIndex to (tCons te tNil)) :=
  pe_imp (pe_bm PySem.F.plainAttrs_list PySem.F.slot_list_index PySem.F.type_list_index mt_index (pe_cl ho) (pa_cons (pe_cl he) pa_nil hs) hbase hfew hline hs hplain) fun σ H Q q => ⟨_, q, fun x H1 z => by
    cases x with
    | ref l =>
      obtain ⟨⟨ys, h⟩, z⟩ := z
      exact ⟨.inl ⟨rfl, _, SqL.of h⟩, _, z, fun y H2 w => by
        obtain ⟨xs, h2, w⟩ := w
        cases y with
        | int i =>
          obtain ⟨ns, rfl, hk, w⟩ := w
          exact ⟨l, ns, i, rfl, rfl, h2, hk, w⟩
        | _ => exact w.elim⟩
    | _ => exact z.elim⟩
end
end M

/-! ### the head's fragment, found level by level: what was seen is a number's bits (the kernel's own sums), each object looked at once -/
namespace M
open PySem PySem.Spec PyProof.Rows L2
def visitY : List Addr → Nat → List Addr → (Nat → List Addr → List Addr) → List Addr
  | [], seen, acc, k => k seen acc
  | a :: r, seen, acc, k => (match Nat.beq (Nat.land (Nat.shiftRight seen a) 1) 0 with
    | true => visitY r (Nat.lor seen (Nat.shiftLeft 1 a)) (a :: acc) k
    | false => visitY r seen acc k)
def nextY (g : Addr → Option Obj) (as : List Addr) : List Addr := as.flatMap fun a => match g a with
  | some o => He.refsD o
  | none => []
def goY (g : Addr → Option Obj) : Nat → List Addr → Nat → List Addr → List Addr
  | 0, fr, _, acc => acc ++ fr
  | n + 1, fr, seen, acc => visitY (nextY g fr) seen [] fun seen' fr' => goY g n fr'.reverse seen' (acc ++ fr)
def asY (g : Addr → Option Obj) (n : Nat) : List Addr := visitY [mainGlobals, cStatics, sysModules] 0 [] fun seen fr => goY g n fr.reverse seen []
def obsYTG (n : Nat) (fa : List FaX) (fn : List DefX) (ts : List TabX) (g : Addr → Option Obj) : AlXT := obsXT fa fn ts (He.frG g (asY g n))
def hookYT (n : Nat) (fa : List FaX) (fn : List DefX) (ts : List TabX) : PySem.W.Hook where
  α := AlXT
  obs := fun s => obsYTG n fa fn ts s.heap.get?
  val := fun w => valXT fn ts w
  says := fun w h => ∃ K : PySem.W.Frag, K.In h ∧ SaysXT fa fn ts w K
  of := fun _ _ e => ⟨_, He.frG_in, e⟩
  keeps := fun _ _ _ ⟨K, hK, c⟩ k => ⟨K, PySem.W.Frag.In.keeps hK k, c⟩
theorem obsYTG_eq {n : Nat} {fa : List FaX} {fn : List DefX} {ts : List TabX} {g : Addr → Option Obj} {s : Shared} (h : ∀ a, g a = s.heap.get? a) : obsYTG n fa fn ts g = (hookYT n fa fn ts).obs s := by
  have e : g = s.heap.get? := funext h
  rw [e] <;> rfl
end M

/-! ### defs that may stand under a repr; repr of a list of one own instance -/
namespace M
open PySem PySem.Spec PyProof.Rows L2
structure RoomA (k : Nat) (A : Around) : Prop where
  hd : A.handled = none
  dp : A.depth + k + 20 < recursionLimit
  un : A.units + 8 * k + 300 < cLine
theorem RoomG.toA {k : Nat} {A : Around} (r : RoomG k A) : RoomA k A := ⟨r.hd, r.dp, r.un⟩
theorem RoomA.mono {j k : Nat} {A : Around} (r : RoomA k A) (h : j ≤ k) : RoomA j A := ⟨r.hd, by have := r.dp; omega, by have := r.un; omega⟩
theorem RoomA.deeper {k : Nat} {A : Around} (r : RoomA (k + 1) A) (env : Env) : RoomA k (A.deeper env) := ⟨r.hd, by have := r.dp; show A.depth + 1 + k + 20 < _; omega, by have := r.un; show A.units + 3 + 8 * k + 300 < _; omega⟩
theorem RoomA.depth {k : Nat} {A : Around} (r : RoomA k A) : A.depth < recursionLimit := by have := r.dp; omega
structure FnA (P : Program) (w : World) (K : PySem.W.Frag) (mg : Str → Option Value) (base : Heap) (CX : CXT) (k : Nat) (f : Addr) (fd : FuncData) (ps : List Str) (sp : Sp) : Prop where
  len : ∀ vs H Q E, sp vs H Q E → vs.length = ps.length
  run : ∀ (A : Around) (outer : List Env) (s : Shared) (H : Hp) (args : Args) (us : List Value) (vs : List V) (Q : VK) (E : XK), RoomA k A → Env0 P w K mg base A outer s H → BindsTo s fd args (ps.zip us) → Vals vs us → sp vs H Q E →
    codeAny (model P w) A (.call (.ref f) args) (CR CX outer P w H s Q E) s
theorem FnA.toG {P : Program} {w : World} {K : PySem.W.Frag} {mg : Str → Option Value} {base : Heap} {CX : CXT} {k : Nat} {f : Addr} {fd : FuncData} {ps : List Str} {sp : Sp} (F : FnA P w K mg base CX k f fd ps sp) : FnG P w K mg base CX k f fd ps sp :=
  ⟨F.len, fun A outer s H args us vs Q E hr => F.run A outer s H args us vs Q E hr.toA⟩
section
variable {P : Program} {w : World} {K : PySem.W.Frag} {mg : Str → Option Value} {base : Heap} {x qual : Str} {params : Arguments} {body : List Stmt} {scope : Scope} {dvs : List V} {kws : List (Str × V)} {f : Addr} {fd : FuncData}
theorem okA {CX : CXT} {N ps : List Str} {k : Nat} {sp : Sp} (F : FunD K x qual params body scope dvs kws f fd) (S : FnScope N ps scope) (len : ∀ vs H Q E, sp vs H Q E → vs.length = ps.length)
    (hbody : ∀ (cdv : Value) (A : Around) (outer : List Env) (s : Shared) (H : Hp) (vs : List V) (Q : VK) (E : XK), RoomA k (A.deeper (envOfC qual scope s.heap.objs.size f cdv)) → sp vs H Q E →
      ∃ t, PSs (cxOf CX P w K mg base N qual scope f cdv A outer s H E) body t ∧ t { nx := fun _ H' => Q .non H', rt := Q } (start N vs) H) : FnA P w K mg base CX (k + 1) f fd ps sp := by
  obtain ⟨oc, od, dV, kV, doc, pm, an, cdv, ct, osl, rfl, lk, hcd, _, _⟩ := F.ex
  refine ⟨len, fun A outer s H args us vs Q E hr e0 hb r hsp => ?_⟩
  have up : ∀ b o, base.get? b = some o → s.heap.get? b = some o := fun b o e => (e0.bs b o e).1
  have KX : K.In s.heap := e0.mod.kin.keeps up
  have par : ∀ y ∈ ps.zip us, scope.names.lookup y.1 = some .local ∨ (scope.names.lookup y.1 = some .cell ∧ ((cellsFrom (s.heap.objs.size + 1) scope.names []).lookup y.1).isSome = true) := by
    rintro ⟨n, v⟩ hy
    exact (S.par n (List.of_mem_zip hy).1).imp id fun q => ⟨q, PySem.W.cellsFrom_some _ _ _ (.inl q)⟩
  refine codeAny_call_function hr.depth (KX _ _ lk) rfl S.co S.gen rfl (PySem.W.codeRec_of KX hcd) (hb _ _ _ _ (wpAny_newFunctionEnv_cells S.kind par fun env he s1 x => ?_))
  subst he
  obtain ⟨t, ht, hq⟩ := hbody cdv A outer s H vs Q E (hr.deeper _) hsp
  refine ⟨(e0.mod.nolimit.keeps up).keeps x.toInCall.keep, codeAny_func (wpAny_mono (ht.run [] s1 (start N vs) H _ (inv_start S hr.hd e0 (len _ _ _ _ hsp) r x) hq) (fun fl s' hs => ?_) fun e s' hs => hs)⟩
  cases fl with
  | ret u =>
    obtain ⟨v, σ', H', J, rv, q⟩ := hs
    exact ⟨v, H', J.os, J.bare, J.base, J.hok, rv, q⟩
  | next =>
    obtain ⟨σ', H', J, q⟩ := hs
    exact ⟨V.non, H', J.os, J.bare, J.base, J.hok, rfl, q⟩
  | brk => exact (hs.elim fun _ z => z.elim fun _ z => z.2).elim
  | cont => exact (hs.elim fun _ z => z.elim fun _ z => z.2).elim
end
structure CalA (P : Program) (w : World) (K : PySem.W.Frag) (mg : Str → Option Value) (base : Heap) (CX : CXT) (k : Nat) (f : Addr) (sp : Sp) : Prop where
  ex : ∃ fd ps, FnA P w K mg base CX k f fd ps sp ∧ Binds K fd ps []
theorem CalA.r {P : Program} {w : World} {K : PySem.W.Frag} {mg : Str → Option Value} {base : Heap} {CX : CXT} {k : Nat} {f : Addr} {sp : Sp} (c : CalA P w K mg base CX k f sp) : CalR P w K mg base CX k f sp := by
  obtain ⟨fd, ps, F, b⟩ := c.ex
  exact ⟨fd, ps, F.toG, b⟩
theorem calA_of {P : Program} {w : World} {K : PySem.W.Frag} {mg : Str → Option Value} {base : Heap} {CX : CXT} {k : Nat} {f : Addr} {fd : FuncData} {ps : List Str} {sp : Sp} (F : FnA P w K mg base CX k f fd ps sp) (b : Binds K fd ps []) : CalA P w K mg base CX k f sp := ⟨fd, ps, F, b⟩
section
variable {X : Cx} {CX : CXT} {k : Nat} {C f : Addr} {sp : Sp} {E : XK} {pins : List (Addr × Obj)} {σ : L2.St} {H : Hp} {s : Shared} {us : List Value} {vs : List V} {Q : VK} {A : Around}
theorem run_calA (c : CalA X.prog X.w X.K X.mg X.base CX k f sp) (hr : RoomA k A) (hf : A.frames = X.A.frames) (hx : Passes CX X E) (I : Inv X pins σ H s) (r : Vals vs us) (h : sp vs H Q E) :
    wpAny (model X.prog X.w) A (call (.ref f) us) (EP X pins σ Q) X.xe s := by
  obtain ⟨fd, ps, F, hb⟩ := c.ex
  have e0 : Env0 X.prog X.w X.K X.mg X.base A X.stack s H := by
    have e := I.env0
    exact ⟨by rw [hf]; exact e.frames, e.mod, e.bs, e.bsz, e.funs, e.frf, e.hok, e.bare⟩
  have hl := r.length.symm.trans (F.len _ _ _ _ h)
  have b := hb s us I.kIn (by simpa using hl)
  rw [List.append_nil] at b
  refine wpAny_call (codeAny_mono (F.run A X.stack s H ⟨us, []⟩ us vs Q E hr e0 b r h) fun r s' hq => ?_)
  rcases r with er | fl
  · exact hx pins σ H s er s' I hq
  · cases fl with
    | ret u => exact I.after hq
    | next => exact False.elim hq
    | brk => exact False.elim hq
    | cont => exact False.elim hq
end
section
open PySem.Builtin PySem.Builtin.List
variable {X : Cx} {CX : CXT} {k : Nat} {f C : Addr} {sp : Sp} {E : XK}
theorem under_loop (A : Around) (args : Args) : (A.under (.builtin "list.__repr__.loop" args)).frames = A.frames ∧ (A.under (.builtin "list.__repr__.loop" args)).handled = A.handled ∧ (A.under (.builtin "list.__repr__.loop" args)).depth = A.depth + 1 := by
  refine ⟨?_, ?_, ?_⟩ <;> first | rfl | simp [Around.under, Code.weight, Code.isCreation, Code.isGuard, Code.isCaller, Code.frames, Code.isFrame, guardIds]
/-- the shown text of one in a list -/
def one_shown (z : Str) : Str := listText [z]
theorem reprUnder_own {M₀ : Model} {A : Around} {E : Value → Shared → Prop} {s : Shared} {K : PySem.W.Frag} {x : Addr} {ox : Obj} {od : Option Obj} {b : Nat} {Q : Str → Shared → Prop} (hb : b ≤ sizeLine) (hu : A.units < cLine)
    (KX : K.In s.heap) (J : PySem.W.InstAt s.heap x ox C od) (c : OwnOp K C "__repr__" f)
    (h : wpAny M₀ A (call (.ref f) [.ref x]) (fun v s' => ∃ z t, v = .str z t ∧ Q z s') E s) : wpAny M₀ A (pyReprUnder b (.ref x)) Q E s := by
  refine wpAny_pyReprUnder_ref hb ?_
  unfold pyReprObjUnder pyReprObjBy
  refine wpAny_bind (wpAny_cRoomFor hu ?_)
  refine wpAny_bind (wpAny_bind (J.type.here ((PySem.W.looks_findIn KX c.at_).here ?_)))
  show wpAny _ _ (if (some (Value.ref f)).isNone = true then _ else _) _ _ _
  rw [if_neg (by simp)]
  have fin : ∀ {Q' : Option Value → Shared → Prop}, (∀ v s', (∃ z t, v = .str z t ∧ Q z s') → Q' (some v) s') → wpAny M₀ A (callSpecialIfBoundBy? (fun g first => match reprUnder? g, first with
      | some twin, [self] => call twin [self, rawInt b]
      | _, _ => call g (first ++ [])) (.ref x) (Str.ofString "__repr__")) Q' E s := by
    intro Q' hq
    simp only [callSpecialIfBoundBy?, bindSpecialIfBound?]
    refine wpAny_holding (wpAny_bind (wpAny_bind (wpAny_bind (J.type.here ((PySem.W.looks_findIn KX c.at_).here ?_)))))
    refine wpAny_bind (wpAny_askSetting (wpAny_ite ?_))
    have go : wpAny M₀ A (call (.ref f) [.ref x] >>= fun v => pure (some v)) Q' E s := wpAny_bind (wpAny_mono h (fun v s' h' => wpAny_pure (hq v s' h')) fun _ _ h' => h')
    split
    · exact wpAny_bind ((PySem.W.bind_fn KX _ (beq_iff_eq.mp c.fn)).here (wpAny_pure (by exact go)))
    · exact wpAny_tryCatch (wpAny_bind ((PySem.W.bind_fn KX _ (beq_iff_eq.mp c.fn)).here (wpAny_pure (by exact go))))
  refine wpAny_bind (fin fun v s' hv => ?_)
  obtain ⟨z, t, rfl, hq⟩ := hv
  refine wpAny_bind (wpAny_isInstance (typeIs_str _ _ _) isSubtype_str_str ?_)
  first
    | exact wpAny_pure ⟨_, _, rfl, hq⟩
    | (rw [if_pos rfl]; exact wpAny_pure ⟨_, _, rfl, hq⟩)
    | (simp only [if_true]; exact wpAny_pure ⟨_, _, rfl, hq⟩)
/-- repr of data, of an own instance, or of a list of one own instance -/
def mReprL (K : PySem.W.Frag) (C : Addr) (sp : Sp) (E : XK) : List V → Hp → VK → Prop := fun xs H Q => mReprO K C sp E xs H Q ∨ ∃ a b dx fs, xs = [.ref a] ∧ H a = some (.lst [.ref b]) ∧ H b = some (.ins C dx fs) ∧
  sp [.ref b] H (fun v H' => ∃ z, v = .str z ∧ (listText [z]).length ≤ sizeLine ∧ H' a = some (.lst [.ref b]) ∧ Q (.str (listText [z])) H') E
theorem call_reprL {j : Nat} (cs : smB X.K = true) (hj : RoomG j X.A) (c : OwnOp X.K C "__repr__" f) (G : CalA X.prog X.w X.K X.mg X.base CX k f sp) (hr : RoomG (k + 1) X.A) (hx : Passes CX X E) : CallR X (.builtin "repr") (mReprL X.K C sp E) := by
  intro pins s σ H vs us Q I r h
  rcases h with h | ⟨a, b, dx, fs, rfl, ha, hb, q⟩
  · exact call_reprO cs hj c G.r hr hx pins s σ H vs us Q I r h
  · rw [Vals.ref1 r]
    have un := hr.un
    obtain ⟨its, rv, ⟨o, n, ho, hc, _, hd⟩, _⟩ := I.list (SqL.of ha)
    obtain ⟨u, rfl, ru⟩ := vals_one rv
    obtain rfl : u = .ref b := ru
    have hT : s.TypeIs (.ref a) "list" := ⟨o, ho, hc⟩
    refine call_repr_slot (by omega) hT F.slot_list_repr.toG ?_
    refine wpAny_call (codeAny_call_builtin F.slot_list_repr.plain F.entry_list_repr (F.slot_list_repr.check _ _ _ _ _ _ _ _ hT (F.args_list_repr_1 _) ?_))
    refine wpAny_list_repr_head (A := X.A.in1.in1) (g := []) hr.gd (fun _ _ _ z => nomatch z) ho hd ?_
    refine wpAny_bind (m := newList []) (wpAny_newObj_type ?_)
    refine wpAny_pure ⟨F.quiet_list_repr_loop _, ?_⟩
    have kp : ∀ b u, s.heap.get? b = some u → (s.heap.push { cls := .type "list", dict := none, data := .seq #[] 0 }).get? b = some u := fun b u e => Heap.get?_push_of_some _ e
    refine codeAny_builtin F.entry_list_repr_loop ?_
    show wpAny _ _ («list.__repr__.loop» ⟨[.ref a, .int 0 0, .ref s.heap.objs.size, .int 0 0], []⟩) _ _ _
    rw [repr_loop_tree]
    refine wpAny_bind (wpAny_listItems (Heap.get?_push_of_some _ ho) hd ?_)
    have hsome : #[Value.ref b][(0 : Int).toNat]? = some (.ref b) := rfl
    simp only [hsome]
    have I1 : Inv X pins σ H { s with heap := s.heap.push { cls := .type "list", dict := none, data := .seq #[] 0 } } := I.kept (t' := s.toks) kp
    have hPn : H s.heap.objs.size = none := I.hok.fresh (Nat.le_refl _)
    have Ip : Inv X ((s.heap.objs.size, { cls := .type "list", dict := none, data := .seq #[] 0 }) :: pins) σ H { s with heap := s.heap.push { cls := .type "list", dict := none, data := .seq #[] 0 } } := I1.pins_of fun p hp => by
      rcases List.mem_cons.mp hp with rfl | hp
      · exact ⟨Heap.get?_push_size _ rfl, hPn, Nat.ne_of_gt I.lt, I.nofs (Nat.le_refl _), fun v q => nomatch q⟩
      · exact I1.pin p (List.mem_append_right _ hp)
    obtain ⟨mA, J, _⟩ := ins_get Ip.hok hb
    obtain ⟨od, J, _⟩ := J.look
    refine wpAny_bind (wpAny_holding (reprUnder_own (by show (0 : Nat) + 1 ≤ sizeLine; rw [sizeLine_eq]; omega) ?_ Ip.kIn J c (thn (run_calA (us := [.ref b]) (vs := [.ref b]) G ?_ ?_ hx Ip (.cons rfl .nil) q) fun r s2 z => ?_)))
    · rw [units_under_list_loop]; show X.A.units + 1 + 1 < cLine; omega
    · exact ⟨(under_loop X.A.in1 _).2.1.trans hr.hd, by rw [(under_loop X.A.in1 _).2.2]; have := hr.dp; show X.A.depth + 1 + k + 20 < _; omega, by rw [units_under_list_loop]; show X.A.units + 1 + 1 + 8 * k + 300 < _; omega⟩
    · exact (under_loop X.A.in1 _).1
    obtain ⟨y, H', I2, ry, z, rfl, hl, ha2, hq⟩ := z
    obtain ⟨t, rfl⟩ := (show ∃ t, r = Value.str z t from ry)
    refine ⟨z, t, rfl, ?_⟩
    have hzl : z.length ≤ sizeLine := Nat.le_trans ((textFrom_len [z] 0 "[").2.1 z List.mem_cons_self) (Nat.le_trans (by show (textFrom 0 "[" [z]).length ≤ (textFrom 0 "[" [z] ++ "]").length; rw [strLen_append]; omega) hl)
    refine wpAny_bind (wpAny_mkStr ?_ hzl)
    refine wpAny_bind ?_
    show wpAny _ _ (updateSeq s.heap.objs.size _) _ _ _
    obtain ⟨hP2, hP2n, _, _, _⟩ := I2.pin _ (List.mem_append_right _ List.mem_cons_self)
    refine wpAny_updateSeq hP2 rfl (wpAny_pure ⟨F.quiet_list_repr_loop _, ?_⟩) (Nat.zero_le _)
    have I3 : Inv X pins σ H' { s2 with heap := s2.heap.update s.heap.objs.size (Obj.mapSeq (·.push (.str z s2.toks))), toks := s2.toks + 1 } :=
      Inv.turned (it := s.heap.objs.size) (I2.pins_of fun p hp => I2.pin p (List.mem_append_right _ (List.mem_cons_of_mem _ hp))) (fun b o hb e => (Heap.get?_update_other _ _ (Ne.symm hb)).trans e) hP2n (Nat.ne_of_gt I.lt) (.inr I.sz) (fun x c e z => by
        obtain ⟨v, q⟩ := I.cell x c e
        exact absurd q.lt (by rw [z]; exact Nat.lt_irrefl _)) fun p hp z => absurd (Heap.lt_size (I.pin p hp).1) (by rw [z]; exact Nat.lt_irrefl _)
    obtain ⟨its2, rv2, ⟨o2, n2, ho2, _, _, hd2⟩, _⟩ := I3.list (SqL.of ha2)
    obtain ⟨u2, rfl, ru2⟩ := vals_one rv2
    refine codeAny_builtin F.entry_list_repr_loop ?_
    show wpAny _ _ («list.__repr__.loop» ⟨[.ref a, .int 1 0, .ref s.heap.objs.size, .int _ 0], []⟩) _ _ _
    rw [repr_loop_tree]
    refine wpAny_bind (wpAny_listItems ho2 hd2 ?_)
    have hnone : #[u2][(1 : Int).toNat]? = none := rfl
    simp only [hnone]
    unfold reprEnd
    refine wpAny_bind (wpAny_listItems (Heap.get?_update_self _ hP2 rfl) rfl ?_)
    have e1 : (#[].push (Value.str z s2.toks)).toList = strValues [(z, s2.toks)] := rfl
    rw [e1, repr_fold]
    refine wpAny_bind (wpAny_pure ?_)
    refine wpAny_bind (wpAny_mkStr (wpAny_pure ?_) hl)
    exact ⟨_, _, rfl, .str (listText [z]), H', I3.tok _, ⟨_, rfl⟩, hq⟩
end
end M

/-! ### zip(a, b, strict=True) walked -/
namespace M
open PySem PySem.Spec PyProof.Rows L2
section
variable {prog : Program} {w : World} {A : Around} {E : Value → Shared → Prop} {s : Shared}
theorem nextS_item {z TI TO i1 i2 l1 l2 : Addr} {k : Nat} {xs ys : Array Value} {x y a b : Value} {Q : Option Value → Shared → Prop} (D : ZipApart z TI TO i1 i2 l1 l2)
    (hz : ZipFree s.heap z TI TO true) (hTI : IsPair s.heap TI (.ref i1) (.ref i2)) (hTO : IsPair s.heap TO a b)
    (h1 : s.heap.IsListIter i1 l1 k) (h2 : s.heap.IsListIter i2 l2 k) (hl1 : s.heap.IsList l1 xs) (hl2 : s.heap.IsList l2 ys) (hx : xs[k]? = some x) (hy : ys[k]? = some y)
    (hQ : ∀ h', ZipO h' z TI TO (rawInt s.heap.objs.size) (.bool false) true → IsPair h' TO x y → h'.IsListIter i1 l1 (k + 1) → h'.IsListIter i2 l2 (k + 1) → IsPair h' s.heap.objs.size x y → h'.objs.size = s.heap.objs.size + 1 →
      (∀ c o, c ≠ z → c ≠ TO → c ≠ i1 → c ≠ i2 → s.heap.get? c = some o → h'.get? c = some o) → Q (some (.ref s.heap.objs.size)) { s with heap := h' }) :
    wpAny (model prog w) A (pyNext (.ref z)) Q E s := by
  have hT : s.TypeIs (.ref z) "zip" := ⟨_, hz, rfl⟩
  unfold pyNext
  exact wpAny_bind (wpAny_attempt (wpAny_callSpecial?_slot (name := Str.ofString "__next__") hT F.slot_zip_next
    (wpAny_call_entry F.slot_zip_next hT F.entry_zip_next
      (zn_free D hz hTI hTO h1 h2 hl1 hl2 hx hy fun h' a1 a2 a3 a4 a5 a6 a7 => wpAny_pure (hQ h' a1 a2 a3 a4 a5 a6 a7)) (F.args_zip_next_1 _))))
theorem nextS_end {z TI TO i1 i2 l1 l2 : Addr} {k : Nat} {xs ys : Array Value} {a b : Value} {Q : Option Value → Shared → Prop} (hh : A.handled = none) (D : ZipApart z TI TO i1 i2 l1 l2)
    (hz : ZipFree s.heap z TI TO true) (hTI : IsPair s.heap TI (.ref i1) (.ref i2)) (hTO : IsPair s.heap TO a b)
    (h1 : s.heap.IsListIter i1 l1 k) (h2 : s.heap.IsListIter i2 l2 k) (hl1 : s.heap.IsList l1 xs) (hl2 : s.heap.IsList l2 ys) (hx : xs[k]? = none) (hy : ys[k]? = none)
    (hQ : ∀ h', (∀ c o, c ≠ z → c ≠ TO → c ≠ i1 → c ≠ i2 → s.heap.get? c = some o → h'.get? c = some o) → Q none { s with heap := h' }) : wpAny (model prog w) A (pyNext (.ref z)) Q E s := by
  have hT : s.TypeIs (.ref z) "zip" := ⟨_, hz, rfl⟩
  unfold pyNext
  refine wpAny_bind (wpAny_attempt (wpAny_callSpecial?_slot (name := Str.ofString "__next__") hT F.slot_zip_next
    (wpAny_call_entry F.slot_zip_next hT F.entry_zip_next (zn_end (st := true) hh D hz (.inl ⟨rfl, rfl, a, b, hTO⟩) hTI h1 h2 hl1 hl2 hx hy fun h' e hk he => ?_) (F.args_zip_next_1 _))))
  obtain ⟨o, ho, hc⟩ := he
  refine wpAny_bind (wpAny_isInstance (T := "StopIteration") (b := true) ⟨o, ho, hc⟩ isSubtype_stop ?_)
  exact wpAny_pure (hQ _ hk)
theorem go_zipS {elts : List Expr} {x1} {pos : Pos} {z TI TO T : Addr} {Q : Unit → Shared → Prop} (hz : ZipO s.heap z TI TO (rawInt T) (.bool false) true)
    (hQ : ∀ h', ZipFree h' z TI TO true → Heap.SameBut z s.heap h' → Q () { s with heap := h' }) :
    wpAny (model prog w) A (letOwnedTupleGo (.Tuple elts x1 pos) (.ref z) (.ref T)) Q E s := by
  unfold letOwnedTupleGo
  refine wpAny_bind (wpAny_load hz ?_)
  show wpAny _ _ (if (["enumerate", "zip", "dict_itemiterator", "dict_reverseitemiterator", "odict_iterator", "itertools.zip_longest", "itertools.pairwise"].contains "zip" &&
      (#[rawInt T, .bool false, .bool true, .ref TI, .ref TO] : Array Value)[0]? == some (rawInt T)) = true then _ else _) Q E s
  rw [if_pos (by simp)]
  refine wpAny_bind (wpAny_rule ?_)
  show wpAny _ _ (setField (.ref z) 0 .none) Q E s
  exact wpAny_setField_rec hz (by simp) fun h' hz' hs' => hQ h' hz' hs'
theorem iter_zipS {z TI TO : Addr} {f0 f1 : Value} {st : Bool} {Q : Value → Shared → Prop} (hz : ZipO s.heap z TI TO f0 f1 st) (h : Q (.ref z) s) : wpAny (model prog w) A (pyIter (.ref z)) Q E s := by
  have hT : s.TypeIs (.ref z) "zip" := ⟨_, hz, rfl⟩
  refine wpAny_pyIter_slot hT F.slot_zip_iter (wpAny_call_entry F.slot_zip_iter hT F.entry_zip_iter ?_ (F.args_zip_iter_1 _))
  show wpAny _ _ (ret (.ref z)) _ _ s
  exact wpAny_pure ⟨_, rfl, "zip", _, hT, F.slot_zip_next.lookup, h⟩
end
/-- both lists end at once -/
def Itzs (K : PySem.W.Frag) (a b : Addr) : It :=
  ⟨(Itz K a b).go, (Itz K a b).yld, fun i H => ∃ xs ys : List V, SqL K H a xs ∧ SqL K H b ys ∧ xs.length ≤ i ∧ ys.length ≤ i⟩
theorem turn_zipS {P : Program} {w : World} {K : PySem.W.Frag} {elts : List Expr} {kk : Nat} {tpos : Pos} {a b z TI TO i1 i2 : Addr} (D : ZipApart z TI TO i1 i2 a b) :
    Turn P w K (.Tuple elts kk tpos) (Itzs K a b) [z, TI, TO, i1, i2] z (fun i h => ZipFree h z TI TO true ∧ IsPair h TI (.ref i1) (.ref i2) ∧ (∃ x y, IsPair h TO x y) ∧ h.IsListIter i1 a i ∧ h.IsListIter i2 b i) where
  mem := by simp
  obj := fun i h st c hc => by
    obtain ⟨hz, hTI, ⟨x, y, hTO⟩, ⟨o1, e1, _, d1⟩, ⟨o2, e2, _, d2⟩⟩ := st
    have e' : c = z ∨ c = TI ∨ c = TO ∨ c = i1 ∨ c = i2 := by simpa using hc
    rcases e' with q | q | q | q | q
    · rw [q]; exact ⟨_, hz, fun v q => nomatch q⟩
    · rw [q]; exact ⟨_, hTI, fun v q => nomatch q⟩
    · rw [q]; exact ⟨_, hTO, fun v q => nomatch q⟩
    · rw [q]; exact ⟨o1, e1, fun v q => by rw [d1] at q; cases q⟩
    · rw [q]; exact ⟨o2, e2, fun v q => by rw [d2] at q; cases q⟩
  keep := fun i h h' st k => by
    obtain ⟨hz, hTI, ⟨x, y, hTO⟩, h1, h2⟩ := st
    exact ⟨k z (by simp) _ hz, k TI (by simp) _ hTI, ⟨x, y, k TO (by simp) _ hTO⟩, h1.at fun o q => k i1 (by simp) o q, h2.at fun o q => k i2 (by simp) o q⟩
  item := by
    intro X hP hw hK hc i pins s σ H E I hf st hg
    subst hP hw hK
    obtain ⟨hz, hTI, ⟨x0, y0, hTO⟩, h1, h2⟩ := st
    obtain ⟨xs, ys, x, y, hqx, hqy, hx, hy⟩ := hg
    obtain ⟨its, rv, p, _⟩ := I.list hqx
    obtain ⟨its2, rv2, p2, _⟩ := I.list hqy
    obtain ⟨u, hu, ru⟩ := rv.get hx
    obtain ⟨u2, hu2, ru2⟩ := rv2.get hy
    have hzl : z < s.heap.objs.size := Heap.lt_size hz
    refine nextS_item D hz hTI hTO h1 h2 p.isList p2.isList (x := u) (y := u2) (by simpa using hu) (by simpa using hu2) fun h' z' TO' h1' h2' hT hsz hk => ?_
    refine ⟨_, rfl, go_zipS (s := { s with heap := h' }) z' fun h'' z'' sb => ?_⟩
    have hT2 : h''.get? s.heap.objs.size = some { cls := .type "tuple", data := .seq #[u, u2] } := (sb.2 _ (Nat.ne_of_gt hzl)).trans hT
    have new : ObjOk X.prog X.w (upd H s.heap.objs.size (.tup [x, y])) h'' s.heap.objs.size (.tup [x, y]) :=
      ⟨by show 2 ≤ sizeLine; decide, [u, u2], .cons ru (.cons ru2 .nil), ⟨_, hT2, rfl, _, rfl⟩⟩
    have I1 : Inv X pins σ (upd H s.heap.objs.size (.tup [x, y])) { s with heap := h'' } :=
      I.turnedNew (t' := s.toks) (ch := [z, TI, TO, i1, i2]) (fun c o hb q => (sb.2 c (fun q' => hb (by simp [q']))).trans (hk c o (fun q' => hb (by simp [q'])) (fun q' => hb (by simp [q'])) (fun q' => hb (by simp [q'])) (fun q' => hb (by simp [q'])) q)) hf (Nat.le_refl _) new
    refine ⟨.ref s.heap.objs.size, _, I1, rfl, ⟨_, x, y, rfl, I.hok.fresh (Nat.le_refl _), rfl, fun l hl => by rw [I.list_inj hl hqx]; exact hx, fun l hl => by rw [I.list_inj hl hqy]; exact hy⟩, ⟨z'', ?_, ⟨u, u2, ?_⟩, ?_, ?_⟩, fun c hcm => ?_⟩
    · exact (sb.2 _ D.TIz).trans (hk _ _ D.TIz D.TITO D.TIi1 D.TIi2 hTI)
    · exact (sb.2 _ D.TOz).trans TO'
    · exact h1'.at fun o q => (sb.2 _ D.i1z).trans q
    · exact h2'.at fun o q => (sb.2 _ D.i2z).trans q
    · have hlt : c < s.heap.objs.size := by
        have e' : c = z ∨ c = TI ∨ c = TO ∨ c = i1 ∨ c = i2 := by simpa using hcm
        rcases e' with q | q | q | q | q
        · rw [q]; exact hzl
        · rw [q]; exact Heap.lt_size hTI
        · rw [q]; exact Heap.lt_size hTO
        · rw [q]; obtain ⟨_, e1, _⟩ := h1; exact Heap.lt_size e1
        · rw [q]; obtain ⟨_, e2, _⟩ := h2; exact Heap.lt_size e2
      rw [upd_ne (Nat.ne_of_lt hlt)]
      exact (hf c hcm).1
  done := by
    intro X hP hw hK hc i pins s σ H E I hf st hg
    subst hP hw hK
    obtain ⟨hz, hTI, ⟨x0, y0, hTO⟩, h1, h2⟩ := st
    obtain ⟨xs, ys, hqx, hqy, g1, g2⟩ := hg
    obtain ⟨its, rv, p, _⟩ := I.list hqx
    obtain ⟨its2, rv2, p2, _⟩ := I.list hqy
    have l1 := rv.length
    have l2 := rv2.length
    exact nextS_end (I.ok.hd hc) D hz hTI hTO h1 h2 p.isList p2.isList (by simp; omega) (by simp; omega) fun h' hk => ⟨rfl, I.turnedL (t' := s.toks) (ch := [z, TI, TO, i1, i2]) (fun c o hb q =>
      hk c o (fun q' => hb (by simp [q'])) (fun q' => hb (by simp [q'])) (fun q' => hb (by simp [q'])) (fun q' => hb (by simp [q'])) q) hf⟩
  self := fun A i s Q E st h => iter_zipS st.1 h
theorem feeds_zipS {K : PySem.W.Frag} {a b : Addr} {xs ys : List V} (hl : xs.length = ys.length) : Feeds (Itzs K a b) (.p (fun H => SqL K H a xs ∧ SqL K H b ys) (xs.zip ys)) := by
  have f : Walk _ (xs.zip ys).length _ _ := feeds_zip (K := K) (a := a) (b := b) (xs := xs) (ys := ys)
  have hn : (xs.zip ys).length = xs.length := by rw [List.length_zip]; omega
  exact ⟨f.goes, fun H g => ⟨xs, ys, g.1, g.2, by omega, by omega⟩, f.yields⟩
def mZipS (K : PySem.W.Frag) (ta tb : TE) : MI := fun σ H P => ta σ H fun x H1 => tb σ H1 fun y H2 => match x, y with
  | .ref a, .ref b => ∃ xs ys, SqL K H2 a xs ∧ SqL K H2 b ys ∧ xs.length = ys.length ∧ P (.p (fun H => SqL K H a xs ∧ SqL K H b ys) (xs.zip ys)) H2
  | _, _ => False
def iZipS (K : PySem.W.Frag) (ta : TA) : TI := fun σ H R => ta σ H fun vs H1 => ∃ a b xs ys, vs = [.ref a, .ref b] ∧ SqL K H1 a xs ∧ SqL K H1 b ys ∧ R (Itzs K a b) H1
section
variable {X : Cx} {e e2 : Expr} {ta tb : TE} {t : TA} {p pos tpos kp kp2 : Pos} {elts : List Expr} {kk j : Nat}
theorem pi_zipS (hg : Gl X "zip") (hm : X.mg "zip" = none) (ha : PA X [e, e2] t)
    (hs : backTo pos (starEach [e, e2] X.env) = (false, eval e X.env) :: backTo pos (starEach [e2] X.env) := by rfl) (hpl : (backTo pos (starEach [e, e2] X.env)).any (·.1) = false := by rfl) :
    PI X (.Tuple elts kk tpos) (.Call (.Name "zip" p) [e, e2] [⟨some (Str.ofString "strict"), .Constant (.bool true) j kp, kp2⟩] pos) (iZipS X.K t) := by
  refine ⟨fun pins s σ H R I h => ?_⟩
  refine wpAny_Call_Name_kw (ld_blt I hg hm PyProof.Rows.boot_zip ?_)
  refine callWith_tyK (thn (ha.run pos pins s σ H _ I h) fun us s1 ⟨vs, H1, I1, r1, q1⟩ => ?_) hs hpl
  have hk : PK X [⟨some (Str.ofString "strict"), .Constant (.bool true) j kp, kp2⟩] (tCons (mC (.bl true)) tNil) := pk_cons me_bl pk_nil
  refine thn (hk.run pos pins s1 σ H1 (fun zs H2 => zs = [.bl true] ∧ H2 = H1) I1 ⟨rfl, rfl⟩) fun ws s2 ⟨zs, H2, I2, r2, e1, e2⟩ => ?_
  subst e1 e2
  obtain ⟨a, b, xs, ys, ex, hqx, hqy, q⟩ := q1
  subst ex
  rw [two_refs r1]
  have hw : ws = [.bool true] := by
    cases r2 with
    | cons r rr => cases rr; cases r; rfl
  rw [hw]
  obtain ⟨its, rv, p1, _⟩ := I2.list hqx
  obtain ⟨its2, rv2, p2, _⟩ := I2.list hqy
  have la : a < s2.heap.objs.size := p1.lt
  have lb : b < s2.heap.objs.size := p2.lt
  refine call_zip_st p1.isList p2.isList fun h' hz hTI hTO h1 h2 hsz hk => iter_zipS hz ?_
  have I3 : Inv X pins σ H2 { s2 with heap := h' } := I2.kept (t' := s2.toks) hk
  refine ⟨s2.heap.objs.size + 4, [s2.heap.objs.size + 4, s2.heap.objs.size + 2, s2.heap.objs.size + 3, s2.heap.objs.size, s2.heap.objs.size + 1], _, _, H2, rfl, I3, turn_zipS (PySem.W.ktu_apart s2.heap.objs.size a b la lb), ⟨hz, hTI, ⟨_, _, hTO⟩, h1, h2⟩, fun c hcm => ?_, q⟩
  have e' : c = s2.heap.objs.size + 4 ∨ c = s2.heap.objs.size + 2 ∨ c = s2.heap.objs.size + 3 ∨ c = s2.heap.objs.size ∨ c = s2.heap.objs.size + 1 := by simpa using hcm
  have hle : s2.heap.objs.size ≤ c := by
    rcases e' with z | z | z | z | z
    · rw [z]; exact Nat.le_add_right _ _
    · rw [z]; exact Nat.le_add_right _ _
    · rw [z]; exact Nat.le_add_right _ _
    · rw [z]; exact Nat.le_refl _
    · rw [z]; exact Nat.le_add_right _ _
  exact I2.fpOk hle (I2.hok.fresh hle)
theorem pi_zipSM (hg : Gl X "zip") (hm : X.mg "zip" = none) (ha : PE X e ta) (hb : PE X e2 tb)
    (hs : backTo pos (starEach [e, e2] X.env) = (false, eval e X.env) :: backTo pos (starEach [e2] X.env) := by rfl) (hs1 : starEach [e, e2] X.env = (false, eval e X.env) :: starEach [e2] X.env := by rfl) (hs2 : starEach [e2] X.env = [(false, eval e2 X.env)] := by rfl) (hpl : (backTo pos (starEach [e, e2] X.env)).any (·.1) = false := by rfl) :
    PI X (.Tuple elts kk tpos) (.Call (.Name "zip" p) [e, e2] [⟨some (Str.ofString "strict"), .Constant (.bool true) j kp, kp2⟩] pos) (toTI (mZipS X.K ta tb)) :=
  pi_imp (pi_zipS hg hm (pa_cons (pe_cl ha) (pa_cons (pe_cl hb) pa_nil hs2) hs1) hs hpl) fun σ H R ⟨P, q, w⟩ => ⟨_, q, fun x H1 z => ⟨_, z, fun y H2 z2 => by
    split at z2
    · obtain ⟨xs, ys, h1, h2, hl, z2⟩ := z2
      exact ⟨_, _, xs, ys, rfl, h1, h2, w _ _ _ z2 (feeds_zipS hl)⟩
    · exact z2.elim⟩⟩
end
end M

/-! ### methods called by their parameters' names, written in the order turned about -/
namespace M
open PySem PySem.Spec PyProof.Rows L2
structure CalKM (P : Program) (w : World) (K : PySem.W.Frag) (mg : Str → Option Value) (base : Heap) (CX : CXT) (k : Nat) (f : Addr) (ks : List Str) (sp : Sp) : Prop where
  ex : ∃ fd ps, FnG P w K mg base CX k f fd ps sp ∧ KBn K fd ps 1 ks (fun us ws => us ++ ws.reverse) (fun vs zs => vs ++ zs.reverse)
def tMethK (C : Addr) (m : Str) (sp : Sp) (n : Nat) (E : XK) (ta : TE) (t : TA) : TE := fun σ H Q => ta σ H fun x H1 => ∃ a dx fs, x = .ref a ∧ H1 a = some (.ins C dx fs) ∧ fs.lookup m = none ∧
  t σ H1 fun zs H2 => zs.length = n ∧ sp (.ref a :: zs.reverse) H2 Q E
section
variable {K : PySem.W.Frag} {x qual : Str} {params : Arguments} {body : List Stmt} {scope : Scope} {f : Addr} {fd : FuncData} {ps : List Str}
theorem kbm_of (ks : List Str) (F : FunD K x qual params body scope [] [] f fd)
    (h : ∀ (kV doc pm : Value) (an : Option Addr) (cdv ct u : Value) (ws : List Value), ws.length = ks.length → bindArgs (PySem.W.fnOf x qual params body scope .none kV doc pm an cdv ct) ⟨[u], ks.zip ws⟩ = pure (ps.zip ([u] ++ ws.reverse))) :
    KBn K fd ps 1 ks (fun us ws => us ++ ws.reverse) (fun vs zs => vs ++ zs.reverse) := by
  obtain ⟨oc, od, dV, kV, doc, pm, an, cdv, ct, osl, rfl, lk, hcd, hD, hK⟩ := F.ex
  rcases hD with ⟨_, rfl⟩ | ⟨e, _⟩
  · refine ⟨fun s us ws X l1 l2 => ?_, fun rv rz => rv.append (vals_rev rz)⟩
    match us, l1 with
    | [u], _ => exact .of_eq (h kV doc pm an cdv ct u ws l2)
  · exact absurd rfl e
end
section
variable {X : Cx} {CX : CXT} {k n : Nat} {C f : Addr} {ks : List Str} {sp : Sp} {E : XK} {m : Str} {apos pos : Pos} {o : Expr} {kws : List Keyword} {ta : TE} {t : TA}
theorem me_methK {pl : Sem Bool} (he : PE X o ta) (c : Cls X.K C) (hm : Meth X.K C m f) (F : CalKM X.prog X.w X.K X.mg X.base CX k f ks sp) (hr : RoomG k X.A) (hx : Passes CX X E) (hkw : PK X kws t)
    (hall : (backToKw pos (keywordEach kws X.env)).all (·.1.isSome) = true := by rfl) (hks : (backToKw pos (keywordEach kws X.env)).filterMap (·.1) = ks := by rfl)
    (hpl : ((backTo pos (starEach [] X.env)).any (·.1) || (backToKw pos (keywordEach kws X.env)).any (·.1.isNone)) = false := by rfl) (hn : ks.length = n := by rfl)
    (ht : eval (.Call (.Attribute o m apos) [] kws pos) X.env = (do
      let ov ← eval o X.env
      standAt apos.atName
      let (f, first) ← holding [ov] (getMethod ov m pl)
      callWith pos f first (backTo pos (starEach [] X.env)) (backToKw pos (keywordEach kws X.env))) := by rfl) :
    PE X (.Call (.Attribute o m apos) [] kws pos) (tMethK C m sp n E ta t) := by
  subst hn
  refine ⟨fun pins s σ H Q I h => ?_⟩
  refine PySem.W.methodCall_KW (pl := pl) (thn (he.run pins s σ H _ I h) fun u s1 ⟨x, H1, I1, rx, a, dx, fs, ex, ea, l, q⟩ => ?_) ht
  subst ex
  obtain rfl : u = Value.ref a := rx
  refine getmeth_ok I1 ea c hm l ?_
  obtain ⟨fd, ps, FF, hb⟩ := F.ex
  refine PySem.W.callWith_KW0 (first := [.ref a]) (h₀ := X.base) I.ok.mod.kin hm.kp hall (thn (hkw.run pos pins s1 σ H1 _ I1 q) fun ws s2 ⟨zs, H2, I2, rz, l2, q2⟩ => ⟨I2.kIn, ?_⟩) hpl
  rw [hks]
  have r2 : Vals (V.ref a :: zs.reverse) (Value.ref a :: ws.reverse) := .cons rfl (vals_rev rz)
  refine wpAny_call (codeAny_mono (FF.run X.A X.stack s2 H2 ⟨[.ref a], ks.zip ws⟩ (.ref a :: ws.reverse) (.ref a :: zs.reverse) Q E hr I2.env0 (hb.to s2 [.ref a] ws I2.kIn rfl (rz.length.symm.trans l2)) r2 q2) fun r s' hq => ?_)
  rcases r with er | fl
  · exact hx pins σ H2 s2 er s' I2 hq
  · cases fl with
    | ret u => exact I2.after hq
    | next => exact False.elim hq
    | brk => exact False.elim hq
    | cont => exact False.elim hq
end
end M

/-! ### i << j -/
namespace M
open PySem PySem.Spec PyProof.Rows L2
def mShl : R2 := fun x y H Q => match x, y with
  | .int i, .int j => (0 ≤ j ∧ (Builtin.Int.intBits i : Int) + j ≤ 2 ^ 27) ∧ Q (.int (i * 2 ^ j.toNat)) H
  | _, _ => False
theorem op_shlM {X : Cx} : OpR X (binaryOp .LShift) mShl := by
  intro pins s σ H x y v u Q I rx ry q
  unfold mShl at q
  split at q
  · exact op_shlW pins s σ H _ _ v u Q I rx ry ⟨_, _, rfl, rfl, q.1, q.2⟩
  · exact q.elim
end M

/-! ### own classes made within a try, class methods there; classes and class methods called by keywords -/
namespace M
open PySem PySem.Spec PyProof.Rows L2
section
variable {X : Cx} {CX : CXT} {k n : Nat} {f C g p : Addr} {sp : Sp} {E : XK} {W : WX} {ks : List Str} {x m : Str} {ps_ pos apos : Pos} {e o : Expr} {es : List Expr} {kws : List Keyword} {ta te tf : TE} {t : TA}
/-! made in a try -/
def tMakeS (C : Addr) (sp : Sp) (E : L2.St → XK) (t : TA) : TE := fun σ H Q => t σ H fun vs H1 => ∀ x dx, H1 x = none → H1 dx = none → dx ≠ x → sp (.ref x :: (vs ++ [])) (upd (upd H1 dx (.own x)) x (.ins C dx [])) (fun v H2 => v = .non ∧ Q (.ref x) H2) (E σ)
theorem run_makeS {pins : List (Addr × Obj)} {σ : L2.St} {H : Hp} {s : Shared} {Q : VK} {us : List Value} {vs : List V} (MK : Mk X.K C f) (F : CalR X.prog X.w X.K X.mg X.base (L2.CX X.prog X.w) k f sp) (hr : RoomG (k + 1) X.A)
    (tk : Takes X W) (I : Inv X pins σ H s) (r : Vals vs us)
    (h : ∀ x dx, H x = none → H dx = none → dx ≠ x → sp (.ref x :: (vs ++ [])) (upd (upd H dx (.own x)) x (.ins C dx [])) (fun v H2 => v = .non ∧ Q (.ref x) H2) (WE W σ)) :
    wpAny (model X.prog X.w) X.A (call (.ref C) us) (EP X pins σ Q) X.xe s := by
  have hq := h (s.heap.objs.size + 1) s.heap.objs.size (I.hok.fresh (Nat.le_succ _)) (I.hok.fresh (Nat.le_refl _)) (Nat.ne_of_lt (Nat.lt_succ_self _))
  have I2 := Inv.made (C := C) I
  have r2 : Vals (V.ref (s.heap.objs.size + 1) :: (vs ++ [])) (Value.ref (s.heap.objs.size + 1) :: us) := .cons rfl (by rw [List.append_nil]; exact r)
  have e0 := I2.env0.make C us []
  obtain ⟨fd, ps, FF, hb⟩ := F.ex
  have hl := r2.length.symm.trans (FF.len _ _ _ _ hq)
  have b := hb _ (Value.ref (s.heap.objs.size + 1) :: us) I2.kIn (by simpa using hl)
  rw [List.append_nil] at b
  refine wpAny_call (make_map (f := f) I.kIn MK.makes MK.init (beq_iff_eq.mp MK.fn) (codeAny_mono (FF.run _ X.stack _ _ ⟨Value.ref (s.heap.objs.size + 1) :: us, []⟩ (Value.ref (s.heap.objs.size + 1) :: us) _ _ (WE W σ) (hr.make C us []) e0 b r2 hq) fun r s' hq' => ?_))
  cases r with
  | error e => exact passAt tk σ pins _ _ e s' I2 hq'
  | ok fl =>
    cases fl with
    | ret u =>
      obtain ⟨v, H', I3, rv, ev, q3⟩ := I2.after hq'
      subst ev
      exact ⟨rv, ⟨V.ref (s.heap.objs.size + 1), H', I3, rfl, q3⟩⟩
    | next => exact False.elim hq'
    | brk => exact False.elim hq'
    | cont => exact False.elim hq'
theorem me_makeS (MK : Mk X.K C f) (F : CalR X.prog X.w X.K X.mg X.base (L2.CX X.prog X.w) k f sp) (hr : RoomG (k + 1) X.A) (hg : Gl X x) (hm : X.mg x = some (.ref C)) (tk : Takes X W)
    (ha : PA X (e :: es) t) (hdb : (x == ("__debug__" : Str)) = false := by decide) (he : starEach (e :: es) X.env = (false, eval e X.env) :: starEach es X.env := by rfl) (hpl : (backTo pos (starEach es X.env)).any (·.1) = false := by rfl) :
    PE X (.Call (.Name x ps_) (e :: es) [] pos) (tMakeS C sp (WE W) t) := by
  refine ⟨fun pins s σ H Q I h => ?_⟩
  refine wpAny_Call_Name_kw (ld_glob I hg hm ?_ hdb)
  refine PySem.W.callWith_K (h₀ := X.base) I.ok.mod.kin MK.kp (thn (ha.run pos pins s σ H _ I h) fun us s1 ⟨vs, H1, I1, r, q⟩ => ⟨I1.kIn, ?_⟩) he hpl
  exact run_makeS MK F hr tk I1 r q
/-! C.m(..) in a try -/
def tCMethS (C : Addr) (sp : Sp) (E : L2.St → XK) (ta : TE) (t : TA) : TE := fun σ H Q => ta σ H fun x H1 => x = .ref C ∧ t σ H1 fun vs H2 => sp (.ref C :: vs) H2 Q (E σ)
theorem run_cmS {q : Addr} {Q : VK} {us : List Value} {vs : List V} {pins : List (Addr × Obj)} {σ : L2.St} {H : Hp} {s : Shared} (F : CalR X.prog X.w X.K X.mg X.base (L2.CX X.prog X.w) k g sp) (hr : RoomG k X.A) (tk : Takes X W) (I : Inv X ((q, PySem.W.methodObj (.ref g) (.ref C)) :: pins) σ H s)
    (r : Vals vs us) (h : sp (.ref C :: vs) H Q (WE W σ)) : wpAny (model X.prog X.w) X.A (call (.ref q) us) (EP X pins σ Q) X.xe s := by
  have z : wpAny (model X.prog X.w) X.A (call (.ref q) us) (EP X ((q, PySem.W.methodObj (.ref g) (.ref C)) :: pins) σ Q) X.xe s :=
    wpAny_call (PySem.W.method_call (ClX.pin_at I) (codeAny_mono (code_calR (us := .ref C :: us) (vs := .ref C :: vs) (E := WE W σ) F hr rfl I (.cons rfl r) h) fun r s' hq => by
      rcases r with er | fl
      · exact passAt tk σ _ H s er s' I hq
      · cases fl with
        | ret u => exact I.after hq
        | next => exact False.elim hq
        | brk => exact False.elim hq
        | cont => exact False.elim hq))
  exact thn z fun _ _ y => ClX.unpinE y
theorem me_cmethS {mc : Value} {pl : Sem Bool} (he : PE X o ta) (r : ClX.CRead X.K C mc) (c : ClX.CMet X.K C mc m p g) (F : CalR X.prog X.w X.K X.mg X.base (L2.CX X.prog X.w) k g sp) (hr : RoomG k X.A) (tk : Takes X W) (ha : PA X (e :: es) t)
    (hst : starEach (e :: es) X.env = (false, eval e X.env) :: starEach es X.env := by rfl) (hpl : (backTo pos (starEach es X.env)).any (·.1) = false := by rfl)
    (ht : eval (.Call (.Attribute o m apos) (e :: es) [] pos) X.env = (do
      let ov ← eval o X.env
      standAt apos.atName
      let (f, first) ← holding [ov] (getMethod ov m pl)
      callWith pos f first (backTo pos (starEach (e :: es) X.env)) (backToKw pos (keywordEach [] X.env))) := by rfl) :
    PE X (.Call (.Attribute o m apos) (e :: es) [] pos) (tCMethS C sp (WE W) ta t) := by
  refine ⟨fun pins s σ H Q I h => ?_⟩
  refine PySem.W.methodCall_KW (pl := pl) (thn (he.run pins s σ H _ I h) fun u s1 ⟨x, H1, I1, rx, ex, q⟩ => ?_) ht
  subst ex
  obtain rfl : u = Value.ref C := rx
  refine ClX.getmethcm_ok I1 r c fun s2 I2 => ?_
  refine ClX.callwith_cm I2 (ClX.base_none I1 (Nat.le_refl _)) c.fi (thn (ha.run pos _ s2 σ H1 _ I2 q) fun us s3 ⟨vs, H2, I3, rv, q2⟩ => ⟨⟨ClX.pin_at I3, I3.kIn⟩, ?_⟩) hst hpl
  exact run_cmS F hr tk I3 rv q2
/-! C(k = v, ..), written in the order turned about -/
def tMakeKw (C : Addr) (sp : Sp) (n : Nat) (E : XK) (t : TA) : TE := fun σ H Q => t σ H fun zs H1 => zs.length = n ∧ ∀ x dx, H1 x = none → H1 dx = none → dx ≠ x → sp (.ref x :: zs.reverse) (upd (upd H1 dx (.own x)) x (.ins C dx [])) (fun v H2 => v = .non ∧ Q (.ref x) H2) E
theorem me_makeKw (MK : Mk X.K C f) (F : CalKM X.prog X.w X.K X.mg X.base CX k f ks sp) (hr : RoomG (k + 1) X.A) (hg : Gl X x) (hm : X.mg x = some (.ref C)) (hx : Passes CX X E) (hkw : PK X kws t)
    (hall : (backToKw pos (keywordEach kws X.env)).all (·.1.isSome) = true := by rfl) (hks : (backToKw pos (keywordEach kws X.env)).filterMap (·.1) = ks := by rfl)
    (hdb : (x == ("__debug__" : Str)) = false := by decide)
    (hpl : ((backTo pos (starEach [] X.env)).any (·.1) || (backToKw pos (keywordEach kws X.env)).any (·.1.isNone)) = false := by rfl) (hn : ks.length = n := by rfl) :
    PE X (.Call (.Name x ps_) [] kws pos) (tMakeKw C sp n E t) := by
  subst hn
  refine ⟨fun pins s σ H Q I h => ?_⟩
  refine wpAny_Call_Name_kw (ld_glob I hg hm ?_ hdb)
  obtain ⟨fd, ps, FF, hb⟩ := F.ex
  refine PySem.W.callWith_KW0 (h₀ := X.base) I.ok.mod.kin MK.kp hall (thn (hkw.run pos pins s σ H _ I h) fun ws s2 ⟨zs, H2, I2, rz, l2, q2⟩ => ⟨I2.kIn, ?_⟩) hpl
  rw [hks]
  have hq := q2 (s2.heap.objs.size + 1) s2.heap.objs.size (I2.hok.fresh (Nat.le_succ _)) (I2.hok.fresh (Nat.le_refl _)) (Nat.ne_of_lt (Nat.lt_succ_self _))
  have I3 := Inv.made (C := C) I2
  have r2 : Vals (V.ref (s2.heap.objs.size + 1) :: zs.reverse) (Value.ref (s2.heap.objs.size + 1) :: ws.reverse) := .cons rfl (vals_rev rz)
  have e0 := I3.env0.make C [] (ks.zip ws)
  refine wpAny_call (make_map (f := f) (vs := []) (kw := ks.zip ws) I2.kIn MK.makes MK.init (beq_iff_eq.mp MK.fn) (codeAny_mono (FF.run _ X.stack _ _ ⟨[Value.ref (s2.heap.objs.size + 1)], ks.zip ws⟩ (Value.ref (s2.heap.objs.size + 1) :: ws.reverse) _ _ E (hr.make C [] (ks.zip ws)) e0 (hb.to _ [Value.ref (s2.heap.objs.size + 1)] ws I3.kIn rfl (rz.length.symm.trans l2)) r2 hq) fun r s' hq' => ?_))
  cases r with
  | error e => exact hx pins σ _ _ e s' I3 hq'
  | ok fl =>
    cases fl with
    | ret u =>
      obtain ⟨v, H', I4, rv, ev, q3⟩ := I3.after hq'
      subst ev
      exact ⟨rv, ⟨V.ref (s2.heap.objs.size + 1), H', I4, rfl, q3⟩⟩
    | next => exact False.elim hq'
    | brk => exact False.elim hq'
    | cont => exact False.elim hq'
/-! C.m(k = v, ..), m a classmethod -/
def tCMethKw (C : Addr) (sp : Sp) (n : Nat) (E : XK) (ta : TE) (t : TA) : TE := fun σ H Q => ta σ H fun x H1 => x = .ref C ∧ t σ H1 fun zs H2 => zs.length = n ∧ sp (.ref C :: zs.reverse) H2 Q E
theorem me_cmethKw {mc : Value} {pl : Sem Bool} (he : PE X o ta) (r : ClX.CRead X.K C mc) (c : ClX.CMet X.K C mc m p g) (F : CalKM X.prog X.w X.K X.mg X.base CX k g ks sp) (hr : RoomG k X.A) (hx : Passes CX X E) (hkw : PK X kws t)
    (hall : (backToKw pos (keywordEach kws X.env)).all (·.1.isSome) = true := by rfl) (hks : (backToKw pos (keywordEach kws X.env)).filterMap (·.1) = ks := by rfl)
    (hpl : ((backTo pos (starEach [] X.env)).any (·.1) || (backToKw pos (keywordEach kws X.env)).any (·.1.isNone)) = false := by rfl) (hn : ks.length = n := by rfl)
    (ht : eval (.Call (.Attribute o m apos) [] kws pos) X.env = (do
      let ov ← eval o X.env
      standAt apos.atName
      let (f, first) ← holding [ov] (getMethod ov m pl)
      callWith pos f first (backTo pos (starEach [] X.env)) (backToKw pos (keywordEach kws X.env))) := by rfl) :
    PE X (.Call (.Attribute o m apos) [] kws pos) (tCMethKw C sp n E ta t) := by
  subst hn
  refine ⟨fun pins s σ H Q I h => ?_⟩
  refine PySem.W.methodCall_KW (pl := pl) (thn (he.run pins s σ H _ I h) fun u s1 ⟨x, H1, I1, rx, ex, q⟩ => ?_) ht
  subst ex
  obtain rfl : u = Value.ref C := rx
  refine ClX.getmethcm_ok I1 r c fun s2 I2 => ?_
  rename_i q0
  obtain ⟨fd, ps, FF, hb⟩ := F.ex
  refine PySem.W.callWith_of hpl (PySem.W.keeps_M c.fi) (PyProof.Rows.evalArgs_kw2_nil hall (thn (hkw.run pos _ s2 σ H1 _ I2 q) fun ws s3 ⟨zs, H2, I3, rz, l2, q2⟩ => ⟨⟨ClX.pin_at I3, I3.kIn⟩, ?_⟩))
  rw [hks]
  have r2 : Vals (V.ref C :: zs.reverse) (Value.ref C :: ws.reverse) := .cons rfl (vals_rev rz)
  have z : wpAny (model X.prog X.w) X.A (call (.ref s1.heap.objs.size) [] (ks.zip ws)) (EP X ((s1.heap.objs.size, PySem.W.methodObj (.ref g) (.ref C)) :: pins) σ Q) X.xe s3 :=
    wpAny_call (PySem.W.method_call (ClX.pin_at I3) (codeAny_mono (FF.run X.A X.stack s3 H2 ⟨[.ref C], ks.zip ws⟩ (.ref C :: ws.reverse) (.ref C :: zs.reverse) Q E hr I3.env0 (hb.to s3 [.ref C] ws I3.kIn rfl (rz.length.symm.trans l2)) r2 q2) fun r s' hq => by
      rcases r with er | fl
      · exact hx _ σ H2 s3 er s' I3 hq
      · cases fl with
        | ret u => exact I3.after hq
        | next => exact False.elim hq
        | brk => exact False.elim hq
        | cont => exact False.elim hq))
  exact thn z fun _ _ y => ClX.unpinE y
end
end M

/-! ### == and != by an own __eq__, the other value a built-in one -/
namespace M
open PySem PySem.Spec PyProof.Rows L2
/-- a value of a built-in class -/
inductive Bi (K : PySem.W.Frag) (H : Hp) : V → Prop
  | non : Bi K H .non
  | int (i : Int) : Bi K H (.int i)
  | bl (b : Bool) : Bi K H (.bl b)
  | str (z : Str) : Bi K H (.str z)
  | lst {a : Addr} {xs : List V} : SqL K H a xs → Bi K H (.ref a)
  | tup {a : Addr} {xs : List V} : SqT K H a xs → Bi K H (.ref a)
  | dct {a : Addr} {kvs : List (Key × V)} : H a = some (.dK kvs) → Bi K H (.ref a)
def biNames : List String := ["NoneType", "int", "bool", "str", "list", "tuple", "dict"]
/-- the class at C stands under none of these -/
def nobiB (C : Addr) (K : PySem.W.Frag) : Bool := biNames.all fun T => decide (PySem.W.subIn K (.ref C) (.type T) = some false)
def NoBi (K : PySem.W.Frag) (C : Addr) : Prop := ∀ T ∈ biNames, PySem.W.subIn K (.ref C) (.type T) = some false
theorem nobi_ok {C : Addr} {K : PySem.W.Frag} (h : nobiB C K = true) : NoBi K C := fun T hT => of_decide_eq_true (List.all_eq_true.mp h T hT)
section
open PySem.SeqAt AutoSeq1
theorem x_none (l : Addr) : Gives (Builtin.«NoneType.__eq__» ⟨[.none, .ref l], []⟩) (.val (Value.notImplemented)) := PySem.SeqAt.NoneType___eq___none_ref_0 l
theorem x_int (b : Int) (u : Tok) (l : Addr) (c : Value) (dd : Option Addr) (sl : Array (Option Value)) :
    Meets (Builtin.«int.__eq__» ⟨[.int b u, .ref l], []⟩) (fun _ R s => s.heap.get? l = some { cls := c, dict := dd, data := .plain, slots := sl } ∧ R (.ok (.ret .notImplemented)) s) :=
  .of_wp fun prog w A R s h => by obtain ⟨hp, g, d, tk, os⟩ := s; obtain ⟨hl, h⟩ := h; wp_walk using wpAny_loadPart' hl, wpAny_load hl; exact ⟨_, rfl, h⟩
theorem x_bool (b : Bool) (l : Addr) (c : Value) (dd : Option Addr) (sl : Array (Option Value)) :
    Meets (Builtin.«int.__eq__» ⟨[.bool b, .ref l], []⟩) (fun _ R s => s.heap.get? l = some { cls := c, dict := dd, data := .plain, slots := sl } ∧ R (.ok (.ret .notImplemented)) s) :=
  .of_wp fun prog w A R s h => by obtain ⟨hp, g, d, tk, os⟩ := s; obtain ⟨hl, h⟩ := h; wp_walk using wpAny_loadPart' hl, wpAny_load hl; exact ⟨_, rfl, h⟩
theorem x_str (b : Str) (u : Tok) (l : Addr) (c : Value) (dd : Option Addr) (sl : Array (Option Value)) :
    Meets (Builtin.«str.__eq__» ⟨[.str b u, .ref l], []⟩) (fun _ R s => s.heap.get? l = some { cls := c, dict := dd, data := .plain, slots := sl } ∧ R (.ok (.ret .notImplemented)) s) :=
  .of_wp fun prog w A R s h => by obtain ⟨hp, g, d, tk, os⟩ := s; obtain ⟨hl, h⟩ := h; wp_walk using wpAny_loadPart' hl, wpAny_load hl; exact ⟨_, rfl, h⟩
theorem x_list (l y : Addr) (items : Array Value) (n : Nat) (dd : Option Addr) (sl : Array (Option Value)) :
    Meets (Builtin.«list.__eq__» ⟨[.ref l, .ref y], []⟩) (fun _ R s => s.heap.get? l = some { cls := .type "list", dict := dd, data := .seq items n, slots := sl } ∧ (∀ M : Model, PySem.W.Looks M s.heap (isInstance (.ref y) (.type "list")) false) ∧ R (.ok (.ret .notImplemented)) s) :=
  .of_wp fun prog w A R s h => by
    obtain ⟨hp, g, d, tk, os⟩ := s
    obtain ⟨hl, hi, h⟩ := h
    have f1 : ∀ {Q : Bool → Shared → Prop} {E : Value → Shared → Prop}, Q false ⟨hp, g, d, tk, os⟩ → wpAny (model prog w) A.in1 (isInstance (.ref y) (.type "list")) Q E ⟨hp, g, d, tk, os⟩ := fun q => (hi _).here q
    wp_walk using wpAny_loadPart' hl, f1
    exact ⟨_, rfl, h⟩
theorem x_tup (l y : Addr) (items : Array Value) (n : Nat) (dd : Option Addr) (sl : Array (Option Value)) :
    Meets (Builtin.«tuple.__eq__» ⟨[.ref l, .ref y], []⟩) (fun _ R s => s.heap.get? l = some { cls := .type "tuple", dict := dd, data := .seq items n, slots := sl } ∧ (∀ M : Model, PySem.W.Looks M s.heap (isInstance (.ref y) (.type "tuple")) false) ∧ R (.ok (.ret .notImplemented)) s) :=
  .of_wp fun prog w A R s h => by
    obtain ⟨hp, g, d, tk, os⟩ := s
    obtain ⟨hl, hi, h⟩ := h
    have f1 : ∀ {Q : Bool → Shared → Prop} {E : Value → Shared → Prop}, Q false ⟨hp, g, d, tk, os⟩ → wpAny (model prog w) A.in1 (isInstance (.ref y) (.type "tuple")) Q E ⟨hp, g, d, tk, os⟩ := fun q => (hi _).here q
    wp_walk using wpAny_loadPart' hl, f1
    exact ⟨_, rfl, h⟩
theorem x_dict (l y : Addr) (o : Obj) :
    Meets (Builtin.«dict.__eq__» ⟨[.ref l, .ref y], []⟩) (fun _ R s => s.heap.get? l = some o ∧ o.cls = .type "dict" ∧ (∀ M : Model, PySem.W.Looks M s.heap (isInstance (.ref y) (.type "dict")) false) ∧ R (.ok (.ret .notImplemented)) s) :=
  .of_wp fun prog w A R s h => by
    obtain ⟨hp, g, d, tk, os⟩ := s
    obtain ⟨hl, hc, hi, h⟩ := h
    have f1 : ∀ {Q : Bool → Shared → Prop} {E : Value → Shared → Prop}, Q false ⟨hp, g, d, tk, os⟩ → wpAny (model prog w) A.in1 (isInstance (.ref y) (.type "dict")) Q E ⟨hp, g, d, tk, os⟩ := fun q => (hi _).here q
    wp_walk using wpAny_loadPart' hl, f1
    exact ⟨_, rfl, h⟩
end
section
open Builtin PySem.SeqAt
variable {prog : Program} {w : World} {A : Around} {E : Value → Shared → Prop} {s : Shared} {K : PySem.W.Frag} {y C f : Addr} {oy : Obj} {od : Option Obj}
/-- a == y: a declines, y's own __eq__ answers -/
theorem rc_eqX {a : Value} {Ta ida : String} {Q : Value → Shared → Prop} (hu : A.units < cLine) (X : K.In s.heap) (ha : s.TypeIs a Ta) (I : PySem.W.InstAt s.heap y oy C od) (hsub : PySem.W.subIn K (.ref C) (.type Ta) = some false)
    (h1 : Slot Ta (cmpInfo .Eq).2.1 ida) (hc1 : ∀ Q' : Value → Shared → Prop, Q' .notImplemented s → wpAny (model prog w) A (call (.builtin ida) [a, .ref y]) Q' E s)
    (hs : PySem.W.findIn K (.ref C) "__eq__" = some (some (.ref f))) (hf : PySem.W.isFn K (.ref f) = true)
    (h : wpAny (model prog w) A (call (.ref f) [.ref y, a]) (PySem.W.CmpBack Q) E s) : wpAny (model prog w) A (richCompare .Eq a (.ref y)) Q E s := by
  have one : wpAny (model prog w) A (tryCompare (.ref y) (cmpInfo .Eq).2.2 a) (fun r s' => ∃ v, r = some v ∧ Q v s') E s := by
    unfold tryCompare
    refine wpAny_bind (PySem.W.ifBound_K X I hs hf (wpAny_mono h (fun v s' hv => ?_) fun _ _ e => e))
    cases v <;> first | exact hv.elim | exact wpAny_pure ⟨_, rfl, hv⟩
  rcases hi : cmpInfo CmpOp.Eq with ⟨sym, f, r⟩
  rw [hi] at h1 one
  simp only [richCompare, hi, ha.oneThing_none]
  refine wpAny_holding ?_
  refine wpAny_bind (wpAny_cRoomFor hu ?_)
  refine wpAny_bind (wpAny_typeOf ha (wpAny_bind (I.type.here ?_)))
  have hne : (Value.type Ta != Value.ref C) = true := rfl
  simp only [hne, if_true]
  refine wpAny_bind ((PySem.W.looks_subIn X hsub).here ?_)
  simp only [Bool.false_eq_true, if_false, Bool.not_false, if_true]
  refine wpAny_bind (m := tryCompare a _ (.ref y)) (wpAny_tryCompare_declines ha h1 (hc1 _ ⟨rfl, ?_⟩))
  refine wpAny_bind (m := tryCompare (.ref y) _ a) (wpAny_mono one (fun r s' z => ?_) fun _ _ e => e)
  obtain ⟨v, rfl, hq⟩ := z
  exact wpAny_pure hq
/-- object.__ne__ over an own __eq__, whatever stands at the right -/
theorem ne_entryX {b : Value} {Q : Fin → Shared → Prop} (hu : A.units < cLine) (X : K.In s.heap) (I : PySem.W.InstAt s.heap y oy C od) (hs : PySem.W.findIn K (.ref C) "__eq__" = some (some (.ref f))) (hf : PySem.W.isFn K (.ref f) = true)
    (hcall : wpAny (model prog w) A (call (.ref f) [.ref y, b]) (fun v s' => ∃ b, v = .bool b ∧ Q (.done (.ret (.bool (!b)))) s') E s) :
    wpAny (model prog w) A (Builtin.«object.__ne__» ⟨[.ref y, b], []⟩) Q E s := by
  unfold Builtin.«object.__ne__»
  repeat (first
    | with_reducible refine wpAny_cRoomFor hu ?_
    | (refine wpAny_bind (m := callSpecialIfBound? (.ref y) (Str.ofString "__eq__") [b])
        (PySem.W.ifBound_K X I hs hf (wpAny_mono hcall (fun r s' hr => by
          obtain ⟨b, rfl, hq⟩ := hr
          repeat (first | exact hq | exact wpAny_pure hq | exact wpAny_truthy_bool hq | (refine wpAny_bind (m := truthy (.bool _)) (wpAny_truthy_bool ?_)) | wp_step)) fun _ _ e => e)))
    | wp_step)
theorem call_objNeX {b : Value} {Q : Value → Shared → Prop} (hu : A.in1.units < cLine) (X : K.In s.heap) (I : PySem.W.InstAt s.heap y oy C od) (hm : PySem.W.mroIn K C (.type "object") = some true) (hs : PySem.W.findIn K (.ref C) "__eq__" = some (some (.ref f))) (hf : PySem.W.isFn K (.ref f) = true)
    (hcall : wpAny (model prog w) A.in1 (call (.ref f) [.ref y, b]) (fun v s' => ∃ b, v = .bool b ∧ Q (.bool (!b)) s') E s) :
    wpAny (model prog w) A (call (.builtin "object.__ne__") [.ref y, b]) Q E s :=
  wpAny_call (codeAny_call_builtin F.cmp_object.ne.plain F.cmpEntry_ne (PySem.W.check_slot F.cmpKind_ne F.cmpSplit_ne (I.type.andThen (PySem.W.looks_mroIn X hm)) (F.cmpArgs_ne _ _) (ne_entryX (A := A.in1) hu X I hs hf (wpAny_mono hcall (fun v s' hv => by
    obtain ⟨b, rfl, hq⟩ := hv
    exact ⟨b, rfl, hq⟩) fun _ _ e => e))))
theorem rich_neX {b : Value} {T : String} {Q : Value → Shared → Prop} (hu : A.units < cLine) (hu1 : A.in1.units < cLine) (X : K.In s.heap) (I : PySem.W.InstAt s.heap y oy C od) (hb : s.TypeIs b T) (hnf : PySem.W.subIn K (.type T) (.ref C) = some false) (hm : PySem.W.mroIn K C (.type "object") = some true)
    (hn : PySem.W.findIn K (.ref C) "__ne__" = some (some (.builtin "object.__ne__"))) (hs : PySem.W.findIn K (.ref C) "__eq__" = some (some (.ref f))) (hf : PySem.W.isFn K (.ref f) = true)
    (hcall : wpAny (model prog w) A.in1 (call (.ref f) [.ref y, b]) (fun v s' => ∃ b, v = .bool b ∧ Q (.bool (!b)) s') E s) :
    wpAny (model prog w) A (richCompare .NotEq (.ref y) b) Q E s := by
  have one : wpAny (model prog w) A (tryCompare (.ref y) "__ne__" b) (fun r s' => ∃ v, r = some v ∧ Q v s') E s := by
    unfold tryCompare
    refine wpAny_bind (ifBound_objNe X I hn (call_objNeX hu1 X I hm hs hf (wpAny_mono hcall (fun v s' hv => ?_) fun _ _ e => e)))
    obtain ⟨b, rfl, hq⟩ := hv
    exact ⟨b, rfl, wpAny_pure ⟨_, rfl, hq⟩⟩
  unfold richCompare
  simp only [oneThing_ref]
  refine wpAny_holding (wpAny_bind (wpAny_cRoomFor hu ?_))
  refine wpAny_bind (I.type.here (wpAny_bind (wpAny_typeOf hb ?_)))
  have hne : (Value.ref C != Value.type T) = true := rfl
  simp only [hne, if_true]
  refine wpAny_bind ((PySem.W.looks_subIn X hnf).here ?_)
  simp only [Bool.false_eq_true, if_false]
  refine wpAny_bind (m := tryCompare (.ref y) _ b) (wpAny_mono one (fun r s' z => ?_) fun _ _ e => e)
  obtain ⟨v, rfl, hq⟩ := z
  exact wpAny_pure hq
end
section
variable {X : Cx} {pins : List (Addr × Obj)} {σ : L2.St} {H : Hp} {s : Shared}
theorem ti_looks {M : Model} {u : Value} {T : String} (h : s.TypeIs u T) : PySem.W.Looks M s.heap (typeOf u) (.type T) := by
  unfold Shared.TypeIs at h
  split at h
  · obtain ⟨o, e, c⟩ := h
    exact c ▸ (PySem.W.Looks.ld e).andThen .now
  · exact PySem.W.Looks.of_pure h
/-- what is known of a built-in value: its type's name, and that it declines to be like an instance -/
theorem bi_at {v : V} {u : Value} (I : Inv X pins σ H s) (h : Bi X.K H v) (r : RelV v u) : ∃ T ∈ biNames, s.TypeIs u T ∧ (∀ C, PySem.W.subIn X.K (.type T) (.ref C) = some false) ∧
    ∃ id, Slot T (cmpInfo .Eq).2.1 id ∧ ∀ (A : Around) (E : Value → Shared → Prop) (y : Addr) (c : Value) (dd : Option Addr), s.heap.get? y = some { cls := c, dict := dd, data := .plain } → (∀ (M : Model), PySem.W.Looks M s.heap (isInstance (.ref y) (.type T)) false) →
      ∀ Q' : Value → Shared → Prop, Q' .notImplemented s → wpAny (model X.prog X.w) A (call (.builtin id) [u, .ref y]) Q' E s := by
  cases h with
  | non =>
    obtain rfl : u = .none := r
    exact ⟨"NoneType", by decide, rfl, fun _ => rfl, _, F.slot_NoneType_eq, fun A E y c dd e L Q' q => call_gives F.slot_NoneType_eq rfl F.entry_NoneType_eq (F.args_NoneType_eq_2 _ _) (x_none y) q⟩
  | int i =>
    obtain ⟨t, rfl⟩ := (show ∃ t, u = .int i t from r)
    exact ⟨"int", by decide, typeIs_int s i t, fun _ => rfl, _, F.slot_int_eq, fun A E y c dd e L Q' q => call_meets F.slot_int_eq (typeIs_int s i t) F.entry_int_eq (F.args_int_eq_2 _ _) (x_int i t y c dd #[]) ⟨e, q⟩⟩
  | bl b =>
    obtain rfl : u = .bool b := r
    exact ⟨"bool", by decide, rfl, fun _ => rfl, _, F.slot_bool_eq, fun A E y c dd e L Q' q => call_meets F.slot_bool_eq rfl F.entry_int_eq (F.args_int_eq_2 _ _) (x_bool b y c dd #[]) ⟨e, q⟩⟩
  | str z =>
    obtain ⟨t, rfl⟩ := (show ∃ t, u = .str z t from r)
    exact ⟨"str", by decide, typeIs_str s z t, fun _ => rfl, _, F.slot_str_eq, fun A E y c dd e L Q' q => call_meets F.slot_str_eq (typeIs_str s z t) F.entry_str_eq (F.args_str_eq_2 _ _) (x_str z t y c dd #[]) ⟨e, q⟩⟩
  | @lst a xs h =>
    obtain rfl : u = .ref a := r
    obtain ⟨its, rv, p, _⟩ := I.list h
    obtain ⟨o, n, e1, e2, e3, e4⟩ := p
    obtain ⟨c0, d0, t0, l0⟩ := o
    dsimp only at e2 e3 e4
    subst e2 e3 e4
    exact ⟨"list", by decide, ⟨_, e1, rfl⟩, fun _ => rfl, _, F.slot_list_eq, fun A E y c dd e L Q' q => call_meets F.slot_list_eq ⟨_, e1, rfl⟩ F.entry_list_eq (F.args_list_eq_2 _ _) (x_list a y its.toArray n none l0) ⟨e1, L, q⟩⟩
  | @tup a xs h =>
    obtain rfl : u = .ref a := r
    obtain ⟨its, rv, ⟨o, e1, e2, n, e3⟩, _⟩ := I.tuple h
    obtain ⟨c0, d0, t0, l0⟩ := o
    dsimp only at e2 e3
    subst e2 e3
    exact ⟨"tuple", by decide, ⟨_, e1, rfl⟩, fun _ => rfl, _, F.slot_tuple_eq, fun A E y c dd e L Q' q => call_meets F.slot_tuple_eq ⟨_, e1, rfl⟩ F.entry_tuple_eq (F.args_tuple_eq_2 _ _) (x_tup a y its.toArray n d0 l0) ⟨e1, L, q⟩⟩
  | @dct a kvs h =>
    obtain rfl : u = .ref a := r
    obtain ⟨_, hns, vs, hkv, o, oes, ep, e1, e2, _⟩ := dk_of I.hok h
    exact ⟨"dict", by decide, ⟨_, e1, e2.1⟩, fun _ => rfl, _, F.slot_dict_eq, fun A E y c dd e L Q' q => call_meets F.slot_dict_eq ⟨_, e1, e2.1⟩ F.entry_dict_eq (F.args_dict_eq_2 _ _) (x_dict a y o) ⟨e1, e2.1, L, q⟩⟩
end
section
variable {X : Cx} {CX : CXT} {k : Nat} {f C : Addr} {sp : Sp} {E : XK}
def mOwnEqX (K : PySem.W.Frag) (C : Addr) (sp : Sp) (E : XK) : R2 := fun x y H Q => mOwn2 C sp E x y H Q ∨ (∃ a dx fs, x = .ref a ∧ H a = some (.ins C dx fs) ∧ Bi K H y ∧ sp [x, y] H Q E) ∨ ∃ a dx fs, y = .ref a ∧ H a = some (.ins C dx fs) ∧ Bi K H x ∧ sp [y, x] H Q E
theorem op_eqOwnX (hu : X.A.units < cLine) (nb : NoBi X.K C) (c : OwnOp X.K C "__eq__" f) (F : CalR X.prog X.w X.K X.mg X.base CX k f sp) (hr : RoomG k X.A) (hx : Passes CX X E) : OpR X (compareOp .Eq) (mOwnEqX X.K C sp E) := by
  intro pins s σ H x y v u Q I rx ry h
  rcases h with h | ⟨a, dx, fs, rfl, ha, hb, q⟩ | ⟨a, dx, fs, rfl, ha, hb, q⟩
  · exact op_eqOwn hu c F hr hx pins s σ H x y v u Q I rx ry h
  · obtain rfl : v = Value.ref a := rx
    obtain ⟨mA, J, _⟩ := ins_get I.hok ha
    obtain ⟨od, J, _⟩ := J.look
    obtain ⟨m, hF⟩ := I.fr
    obtain ⟨T, hT, ht, hn, _⟩ := bi_at I hb ry
    have L : PySem.W.Looks (model X.prog X.w) s.heap (typeOf u) (.type T) := ti_looks ht
    exact PySem.W.cmp_K (op := .Eq) hu hF I.ok.mod.kin J L (by unfold PySem.W.notFirst; rw [Bool.or_eq_true]; exact .inr (beq_iff_eq.mpr (hn C))) c.at_ c.fn (thn (run_calR (us := [.ref a, u]) (vs := [.ref a, y]) F hr rfl hx I (.cons rfl (.cons ry .nil)) q) fun _ _ z => cmp_back z)
  · obtain rfl : u = Value.ref a := ry
    obtain ⟨mA, J, _⟩ := ins_get I.hok ha
    have J0 := J.obj
    obtain ⟨od, J, _⟩ := J.look
    obtain ⟨T, hT, ht, hn, id, sl, hd⟩ := bi_at I hb rx
    exact rc_eqX (Ta := T) hu I.kIn ht J (nb T hT) sl (hd _ _ a (.ref C) (some dx) J0 fun M => J.type.andThen (PySem.W.looks_subIn I.kIn (nb T hT))) c.at_ c.fn (thn (run_calR (us := [.ref a, v]) (vs := [.ref a, x]) F hr rfl hx I (.cons rfl (.cons rx .nil)) q) fun _ _ z => cmp_back z)
def mOwnNeX (K : PySem.W.Frag) (C : Addr) (sp : Sp) (E : XK) : R2 := fun x y H Q => mOwnNe C sp E x y H Q ∨ ∃ a dx fs, x = .ref a ∧ H a = some (.ins C dx fs) ∧ Bi K H y ∧ sp [x, y] H (fun v H' => ∃ k, v = .bl k ∧ Q (.bl (!k)) H') E
theorem op_neOwnX (hu : X.A.units + 64 < cLine) (hm : PySem.W.mroIn X.K C (.type "object") = some true) (hn : PySem.W.findIn X.K (.ref C) "__ne__" = some (some (.builtin "object.__ne__"))) (c : OwnOp X.K C "__eq__" f)
    (F : CalR X.prog X.w X.K X.mg X.base CX k f sp) (hr : RoomG (k + 1) X.A) (hx : Passes CX X E) : OpR X (compareOp .NotEq) (mOwnNeX X.K C sp E) := by
  intro pins s σ H x y v u Q I rx ry h
  rcases h with h | ⟨a, dx, fs, rfl, ha, hb, q⟩
  · exact op_neOwn hu hm hn c F hr hx pins s σ H x y v u Q I rx ry h
  · obtain rfl : v = Value.ref a := rx
    obtain ⟨mA, J, _⟩ := ins_get I.hok ha
    obtain ⟨od, J, _⟩ := J.look
    obtain ⟨T, hT, ht, hnf, _⟩ := bi_at I hb ry
    show wpAny (model X.prog X.w) X.A (richCompare .NotEq (.ref a) u) (EP X pins σ Q) X.xe s
    refine rich_neX (T := T) (by omega) (by show X.A.units + 1 < _; omega) I.kIn J ht (hnf C) hm hn c.at_ c.fn (thn (run_calR (A := X.A.in1) (us := [.ref a, u]) (vs := [.ref a, y]) F hr.in1 rfl hx I (.cons rfl (.cons ry .nil)) q) fun r s' z => ?_)
    obtain ⟨y, H', I', ry, k, rfl, hq⟩ := z
    cases (show r = Value.bool k from ry)
    exact ⟨k, rfl, .bl (!k), H', I', rfl, hq⟩
end
end M

/-! ### what comes behind stands aside: one statement, one value at a time -/
namespace M
open PySem PySem.Spec PyProof.Rows L2
theorem cut {a b : TS} {D : Ends} {σ : L2.St} {H : Hp} (h : ∀ R : L2.St → Hp → Prop, (∀ σ H, b D σ H → R σ H) → a { D with nx := R } σ H) : tSeq a b D σ H := h _ fun _ _ h => h
/-- the values of a row, the first one first -/
theorem cutC {a : TE} {b : TA} {σ : L2.St} {H : Hp} {Q : List V → Hp → Prop} (h : ∀ R : V → Hp → Prop, (∀ x H, b σ H (fun xs H => Q (x :: xs) H) → R x H) → a σ H R) : tCons a b σ H Q := h _ fun _ _ h => h
theorem cutN {σ : L2.St} {H : Hp} {Q : List V → Hp → Prop} (h : Q [] H) : tNil σ H Q := h
/-- a loop over a list that is laid for it -/
theorem forL {K : PySem.W.Frag} {l : TA} {g : TG} {b : TS} {D : Ends} {σ : L2.St} {H : Hp}
    (h : ∀ R : List V → Hp → Prop, (∀ xs H1, xs.length ≤ sizeLine → (∀ q, H1 q = none → fV (fun H => SqL K H q xs) g b D xs σ (upd H1 q (.lst xs))) → R xs H1) → l σ H R) : mFor (mIter K (tLst l)) g b D σ H :=
  h _ fun xs H1 hl h => ⟨hl, fun q hq => ⟨xs, .inl ⟨SqL.of upd_same, h q hq⟩⟩⟩
/-- a list that is laid -/
theorem cutLs {l : TA} {σ : L2.St} {H : Hp} {Q : V → Hp → Prop}
    (h : ∀ R : List V → Hp → Prop, (∀ xs H1, xs.length ≤ sizeLine → (∀ q, H1 q = none → Q (.ref q) (upd H1 q (.lst xs))) → R xs H1) → l σ H R) : tLst l σ H Q := h _ fun _ _ hl h => ⟨hl, h⟩
theorem cutTp {l : TA} {σ : L2.St} {H : Hp} {Q : V → Hp → Prop}
    (h : ∀ R : List V → Hp → Prop, (∀ xs H1, xs.length ≤ sizeLine → (∀ q, H1 q = none → Q (.ref q) (upd H1 q (.tup xs))) → R xs H1) → l σ H R) : tTup l σ H Q := h _ fun _ _ hl h => ⟨hl, h⟩
end M

/-! ### // by a number of either sign; a promise weakened -/
namespace M
open PySem PySem.Spec PyProof.Rows L2
abbrev DivZ (j : Int) : Prop := j ≠ 0 ∧ j.natAbs.log2 < 9000
def mDivZ : R2 := fun x y H Q => match x, y with
  | .int i, .int j => DivZ j ∧ Q (.int (i.fdiv j)) H
  | _, _ => False
theorem op_divZ {X : Cx} : OpR X (binaryOp .FloorDiv) mDivZ := opR_imp (opI (C := fun _ j => DivZ j) (g := fun i j => i.fdiv j) fun _ _ _ _ _ _ _ hc q => floordiv_int hc.1 q (.inl (PyProof.noPylong_of_log2 hc.2))) fun x y H Q q => by
  unfold mDivZ at q
  split at q
  · exact ⟨_, _, rfl, rfl, q⟩
  · exact q.elim
theorem calG_weak {P : Program} {w : World} {K : PySem.W.Frag} {mg : Str → Option Value} {base : Heap} {CX : CXT} {x : Str} {k : Nat} {ps : List Str} {dvs : List V} {sp sp' : Sp} (h : ∀ vs H Q E, sp' vs H Q E → sp vs H Q E) (c : CalG P w K mg base CX x k ps dvs sp) : CalG P w K mg base CX x k ps dvs sp' := by
  obtain ⟨f, fd, ds, F, g, kp, b, r⟩ := c
  exact ⟨f, fd, ds, ⟨fun vs H Q E q => F.len vs H Q E (h _ _ _ _ q), fun A o s H args us vs Q E r e b v q => F.run A o s H args us vs Q E r e b v (h _ _ _ _ q)⟩, g, kp, b, r⟩
end M

/-! ### own errors as values: made by position, by keyword, without arguments; asked for their kinds -/
namespace M
open PySem PySem.HandSPX PySem.Builtin PySem.Builtin.ObjectAttr
section
variable {M : Model} {A : Around} {E : Value → Shared → Prop} {h : Heap} {g : Array GenState} {d : Drawn} {t : Nat} {os : OsState}
variable {nm q : Str} {C N : Addr} {bs bm bmB : List Value} {hdct : Bool} {sn : List Str} {sub : List Value} {ab : Bool} {col : Option Bool} {dd : Option Addr} {k0 k1 k2 k3 k5 : Option Value} {B newId initId : String}
theorem check_new_kw (F : ExcBaseFacts B newId initId bmB) (hT : ∀ X : String, bm.contains (.type X) = bmB.contains (.type X)) {n : Str} {v : Value} {Q : Unit → Shared → Prop}
    (hC : h.get? C = some (excClassObj nm q C N bs bm hdct sn sub ab col dd k0 k1 k2 k3 k5 newId)) (hq : Q () ⟨h, g, d, t, os⟩) : wpAny M A (checkBuiltinCall newId ⟨[.ref C], [(n, v)]⟩) Q E ⟨h, g, d, t, os⟩ := by
  have hcont : (Value.ref C :: bm).contains (.type B) = true := by rw [List.contains_cons, hT, F.hasB, Bool.or_true]
  have hstar := F.noStar
  simp only [checkBuiltinCall, F.newKind, F.newSplit, F.newRow]
  repeat (first | refine wpAny_loadPart_at hC ?_ | (refine wpAny_isSubtype_exc hC ?_; rw [hcont]) | refine wpAny_staticBase_exc hC ?_ | refine wpAny_madeBy_exc hC ?_ | simp only [bne_self_eq_false, Bool.false_eq_true, if_false] | wp_step)
  exact hq
end
section
variable {prog : Program} {w : World} {A : Around} {E : Value → Shared → Prop} {R : Result → Shared → Prop} {h : Heap} {g : Array GenState} {d : Drawn} {t : Nat} {os : OsState}
variable {nm q : Str} {C N : Addr} {bs bm bmB : List Value} {hdct : Bool} {sn : List Str} {sub : List Value} {ab : Bool} {col : Option Bool} {dd : Option Addr} {k0 k1 k2 k3 k5 : Option Value} {B newId initId : String}
theorem new_kw (F : ExcBaseFacts B newId initId bmB) (hT : ∀ X : String, bm.contains (.type X) = bmB.contains (.type X)) {n : Str} {v : Value}
    (hC : h.get? C = some (excClassObj nm q C N bs bm hdct sn sub ab col dd k0 k1 k2 k3 k5 newId))
    (hq : R (.ok (.ret (.ref (h.objs.size + 1)))) ⟨(h.push { cls := .type "tuple", data := .seq [].toArray }).push
      { cls := .ref C, data := .fields #[.ref h.objs.size, .none, .none, .none, .bool false, .none] }, g, d, t, os⟩) :
    codeAny (model prog w) A (.builtin newId ⟨[.ref C], [(n, v)]⟩) R ⟨h, g, d, t, os⟩ := by
  have hends := F.ends
  have hcB : (Value.ref C :: bm).contains (.type B) = true := by rw [List.contains_cons, hT, F.hasB, Bool.or_true]
  have hcA : (Value.ref C :: bm).contains (.type "AttributeError") = false := by rw [List.contains_cons, hT, F.noAttr]; rfl
  have hcN : (Value.ref C :: bm).contains (.type "NameError") = false := by rw [List.contains_cons, hT, F.noName]; rfl
  refine codeAny_builtinAt F.entry ?_
  unfold Builtin.«BaseException.__new__»
  refine wpAt_bind ?_
  show wpAt _ _ _ (stack >>= _) _ _ _
  refine wpAt_bind (wpAt_stack fun p below => wpAt_of_wpAny ?_)
  wp_walk
  refine wpAt_of_wpAny ?_
  rw [F.owner]
  repeat (first | with_reducible refine wpAny_madeHere_exc F.canon hC ?_ | with_reducible refine wpAny_loadPart_at hC ?_ | (with_reducible refine wpAny_isSubtype_exc hC ?_; first | rw [hcB] | rw [hcA] | rw [hcN]) | wp_step)
  show R _ _
  rw [Heap.size_push]
  exact hq
theorem type_call_kw (F : ExcBaseFacts B newId initId bmB) (hT : ∀ X : String, bm.contains (.type X) = bmB.contains (.type X)) {n : Str} {u : Value} {fI : Addr} {Q : Fin → Shared → Prop}
    (hC : h.get? C = some (excClassObj nm q C N bs bm hdct sn sub ab col dd k0 k1 k2 k3 k5 newId))
    (hi : W.Looks (model prog w) h (typeLookup (.ref C) "__init__") (some (.ref fI))) (hb : ∀ self, W.Looks (model prog w) h (bindSpecial (.ref fI) self) (.ref fI, [self]))
    (hq : codeAny (model prog w) A (.call (.ref fI) ⟨[.ref (h.objs.size + 1)], [(n, u)]⟩)
      (fun r s' => match r with | .ok (.ret v) => v = .none ∧ Q (.done (.ret (.ref (h.objs.size + 1)))) s' | .ok _ => False | .error e => E e s')
      ⟨(h.push (W.kdv_tup [])).push (excO C h.objs.size), g, d, t, os⟩) :
    wpAny (model prog w) A (Builtin.«type.__call__» ⟨[.ref C], [(n, u)]⟩) Q E ⟨h, g, d, t, os⟩ := by
  repeat (first | with_reducible refine wpAny_loadPart_at hC ?_ | with_reducible refine wpAny_madeBy_exc hC ?_ | wp_step)
  refine codeAny_call_builtin_code (Code.quiet_builtin _ F.quiet) (check_new_kw F hT hC ?_)
  refine new_kw F hT hC ?_
  show wpAny _ _ _ _ _ _
  have k : ∀ b o, h.get? b = some o → ((h.push (W.kdv_tup [])).push (excO C h.objs.size)).get? b = some o := fun b o e => Heap.get?_push_of_some _ (Heap.get?_push_of_some _ e)
  have hC₁ := k _ _ hC
  have hget : ((h.push (W.kdv_tup [])).push (excO C h.objs.size)).get? (h.objs.size + 1) = some (excO C h.objs.size) := by heap_get
  have hcC : (Value.ref C :: bm).contains (.ref C) = true := by simp
  have i1 := hi.keeps k
  have b1 := (hb (.ref (h.objs.size + 1))).keeps k
  unfold isInstance
  repeat (first | with_reducible refine wpAny_loadPart_at hget ?_ | (with_reducible refine wpAny_isSubtype_exc hC₁ ?_; rw [hcC]) | wp_step)
  show wpAny _ _ (typeLookup (.ref C) _) _ _ _
  refine i1.at ?_
  refine wpAny_holding (wpAny_bind (b1.at ?_))
  refine wpAny_bind (wpAny_call (codeAny_mono hq fun r s' z => ?_))
  rcases r with e | (v | _ | _ | _) <;> first | exact z | exact z.elim | skip
  obtain ⟨rfl, z⟩ := z
  first
    | exact wpAny_pure (wpAny_pure z)
    | (wp_walk; exact z)
theorem call_kwE (F : ExcBaseFacts B newId initId bmB) (hT : ∀ X : String, bm.contains (.type X) = bmB.contains (.type X)) {n : Str} {u : Value} {fI : Addr}
    (hC : h.get? C = some (excClassObj nm q C N bs bm hdct sn sub ab col dd k0 k1 k2 k3 k5 newId))
    (hi : W.Looks (model prog w) h (typeLookup (.ref C) "__init__") (some (.ref fI))) (hb : ∀ self, W.Looks (model prog w) h (bindSpecial (.ref fI) self) (.ref fI, [self]))
    (hq : codeAny (model prog w) (A.under (.builtin "type.__call__" ⟨[.ref C], [(n, u)]⟩)) (.call (.ref fI) ⟨[.ref (h.objs.size + 1)], [(n, u)]⟩) (W.InitBack (h.objs.size + 1) R)
      ⟨(h.push (W.kdv_tup [])).push (excO C h.objs.size), g, d, t, os⟩) :
    codeAny (model prog w) A (.call (.ref C) ⟨[], [(n, u)]⟩) R ⟨h, g, d, t, os⟩ := by
  have f1 := tc_lookup
  have f2 := tc_bind (.ref C)
  have hTy : (⟨h, g, d, t, os⟩ : Shared).TypeIs (.ref C) "type" := ⟨_, hC, rfl⟩
  refine codeAny_of_tree ?_
  show wpAny _ _ (callAny (.ref C) _) _ _ _
  repeat (any_goals (first | assumption | with_reducible refine wpAny_loadPart_at hC ?_ | wp_step))
  refine ⟨rfl, ?_⟩
  refine codeAny_call_builtin_at (Code.quiet_builtin _ (by decide +kernel)) entry_typeCall (wpAny_check_type_call_sub hC (type_call_kw F hT hC hi hb ?_))
  refine codeAny_mono hq fun r s' z => ?_
  rcases r with e | (v | _ | _ | _) <;> exact z
end
end M

/-! own errors as values -/
namespace M
open PySem PySem.Spec PyProof.Rows L2 PySem.HandSPX
section
variable {X : Cx} {C : Addr} {x fl : Str}
/-- what is given back: a new error with its dict -/
def eNew (C : Addr) (fl : Str) (v : V) (H1 : Hp) (Q : VK) : Prop := ∀ e d, H1 e = none → H1 d = none → e ≠ d → Q (.ref e) (upd (upd H1 d (.xd [(fl, v)])) e (exk e (.ref C) (some d)))
theorem mk_val {pins : List (Addr × Obj)} {σ : L2.St} {H1 : Hp} {Q : VK} {hp h' : Heap} {g : Array GenState} {dr : Drawn} {tk tk' : Nat} {os : OsState} {e d t1 : Addr} {v : V} {v' : Value} (I1 : Inv X pins σ H1 ⟨hp, g, dr, tk, os⟩)
    (keep : ∀ b o, hp.get? b = some o → h'.get? b = some o) (new : hp.objs.size ≤ e) (hx : h'.get? e = some { cls := .ref C, dict := some d, data := .fields #[.ref t1, .none, .none, .none, .bool false, .none] }) (db : hp.objs.size ≤ d) (dne : d ≠ e)
    (ns : h'.Ns1 d (fun y => if y = fl then some v' else none)) (rv : RelV v v') (q : eNew C fl v H1 Q) : EP X pins σ Q (.ref e) ⟨h', g, dr, tk', os⟩ := by
  obtain ⟨G', g1, g2⟩ := restrict h' fun b => decide (b ≠ e)
  have gk : ∀ b, b ≠ e → G'.get? b = h'.get? b := fun b hb => g1 b (decide_eq_true hb)
  have ge : G'.get? e = none := g2 e (by simp)
  have old : ∀ b o, hp.get? b = some o → G'.get? b = some o := fun b o q => (gk b (Nat.ne_of_lt (Nat.lt_of_lt_of_le (Heap.lt_size q) new))).trans (keep b o q)
  have ob : ObjOk X.prog X.w (upd H1 d (.xd [(fl, v)])) G' d (.xd [(fl, v)]) := ⟨_, ns.at (fun o q => (gk d dne).trans q), fun f => relO_one rv f⟩
  have J : Inv X pins σ (upd H1 d (.xd [(fl, v)])) ⟨G', g, dr, tk', os⟩ := I1.laid (t' := tk') old db ob
  have He : upd H1 d (.xd [(fl, v)]) e = none := by rw [upd_ne (Ne.symm dne)]; exact I1.hok.fresh new
  have J2 := J.laidN (h' := h') (t' := tk') (o := exk e (.ref C) (some d)) (a := e) (fun b o q => by
    by_cases hb : b = e
    · have q' : G'.get? b = some o := q
      rw [hb, ge] at q'; cases q'
    · exact (gk b hb).symm.trans q) ge He (exk_ok hx ⟨rfl, rfl⟩ rfl)
  exact ⟨.ref e, _, J2, rfl, q e d (I1.hok.fresh new) (I1.hok.fresh db) (Ne.symm dne)⟩
/-- C(v) -/
theorem call_exV {pins : List (Addr × Obj)} {σ : L2.St} {H1 : Hp} {Q : VK} {s1 : Shared} {v : V} {u : Value} {A : Around} (T : ExcAt X.prog X.w X.K X.mg x fl C) (hr : A.depth + 2 < recursionLimit) (I1 : Inv X pins σ H1 s1) (rv : RelV v u)
    (q : eNew C fl v H1 Q) {E : Value → Shared → Prop} : wpAny (model X.prog X.w) A (call (.ref C) [u]) (EP X pins σ Q) E s1 := by
  obtain ⟨nm, q', N, bs, bm, sn, sub, ab, col, dd, k0, k1, k2, k3, k5, hC, hbm⟩ := T.T.cls
  obtain ⟨fI, fd, iC, tI, run, b1, _, _⟩ := T.init
  have hlim := I1.nolimit
  have KX := I1.kIn
  have G : s1.heap.Ns mainGlobals X.mg := I1.mod.glob.keeps I1.bk
  obtain ⟨mb, hb1, hb2⟩ := I1.mod.blt
  have B : s1.heap.Ns builtinsNs mb := hb1.keeps I1.bk
  obtain ⟨hp, g, dr, tk, os⟩ := s1
  have kk : ∀ b o, hp.get? b = some o → ((hp.push (PySem.W.kdv_tup [u])).push (excO C hp.objs.size)).get? b = some o := fun b o e => Heap.get?_push_of_some _ (Heap.get?_push_of_some _ e)
  have hget : ((hp.push (PySem.W.kdv_tup [u])).push (excO C hp.objs.size)).get? (hp.objs.size + 1) = some (excO C hp.objs.size) := by heap_get
  have hnx : X.K.lookup (hp.objs.size + 1) = none := by
    cases e : X.K.lookup (hp.objs.size + 1) with
    | none => rfl
    | some o =>
      have z : hp.get? (hp.objs.size + 1) = some o := KX _ _ e
      exact absurd (Nat.lt_of_succ_lt (Heap.lt_size z)) (Nat.lt_irrefl _)
  have KX2 : X.K.In ((hp.push (PySem.W.kdv_tup [u])).push (excO C hp.objs.size)) := KX.keeps kk
  refine wpAny_call (call_own F.excBase_ValueError (fun X => refsVE_contains X bm hbm) (KX _ _ hC) (PySem.W.looks_findIn KX iC) (fun self => PySem.W.bind_fn KX self tI) (by show 1 ≤ sizeLine; rw [sizeLine_eq]; omega) ?_)
  refine run (s := ⟨(hp.push (PySem.W.kdv_tup [u])).push (excO C hp.objs.size), g, dr, tk, os⟩) KX2 (hlim.keeps kk) (G.keeps kk) ⟨mb, B.keeps kk, hb2⟩ hget hnx ?_ (b1 _ _ _ KX2) fun h' tk' dx t1 k' hx dn dne hns => ?_
  · show A.depth + 1 < recursionLimit
    omega
  · have old : ∀ b o, hp.get? b = some o → h'.get? b = some o := fun b o e => k' b o (Nat.ne_of_lt (Nat.lt_succ_of_lt (Heap.lt_size e))) (kk b o e)
    have z : hp.objs.size + 1 + 1 ≤ dx := by
      first
        | (simpa only [Heap.size_push] using dn)
        | exact dn
    have db : hp.objs.size ≤ dx := Nat.le_trans (Nat.le_trans (Nat.le_succ _) (Nat.le_succ _)) z
    exact ⟨rfl, mk_val I1 old (Nat.le_succ _) hx db dne hns rv q⟩
/-- C() -/
theorem call_exV0 {pins : List (Addr × Obj)} {σ : L2.St} {H1 : Hp} {Q : VK} {s1 : Shared} {A : Around} (T : ExcAt X.prog X.w X.K X.mg x fl C) (hr : A.depth + 2 < recursionLimit) (I1 : Inv X pins σ H1 s1)
    (q : eNew C fl .non H1 Q) {E : Value → Shared → Prop} : wpAny (model X.prog X.w) A (call (.ref C) []) (EP X pins σ Q) E s1 := by
  obtain ⟨nm, q', N, bs, bm, sn, sub, ab, col, dd, k0, k1, k2, k3, k5, hC, hbm⟩ := T.T.cls
  obtain ⟨fI, fd, iC, tI, run, _, b1, _⟩ := T.init
  have hlim := I1.nolimit
  have KX := I1.kIn
  have G : s1.heap.Ns mainGlobals X.mg := I1.mod.glob.keeps I1.bk
  obtain ⟨mb, hb1, hb2⟩ := I1.mod.blt
  have B : s1.heap.Ns builtinsNs mb := hb1.keeps I1.bk
  obtain ⟨hp, g, dr, tk, os⟩ := s1
  have kk : ∀ b o, hp.get? b = some o → ((hp.push (PySem.W.kdv_tup [])).push (excO C hp.objs.size)).get? b = some o := fun b o e => Heap.get?_push_of_some _ (Heap.get?_push_of_some _ e)
  have hget : ((hp.push (PySem.W.kdv_tup [])).push (excO C hp.objs.size)).get? (hp.objs.size + 1) = some (excO C hp.objs.size) := by heap_get
  have hnx : X.K.lookup (hp.objs.size + 1) = none := by
    cases e : X.K.lookup (hp.objs.size + 1) with
    | none => rfl
    | some o =>
      have z : hp.get? (hp.objs.size + 1) = some o := KX _ _ e
      exact absurd (Nat.lt_of_succ_lt (Heap.lt_size z)) (Nat.lt_irrefl _)
  have KX2 : X.K.In ((hp.push (PySem.W.kdv_tup [])).push (excO C hp.objs.size)) := KX.keeps kk
  refine wpAny_call (call_own (rest := []) F.excBase_ValueError (fun X => refsVE_contains X bm hbm) (KX _ _ hC) (PySem.W.looks_findIn KX iC) (fun self => PySem.W.bind_fn KX self tI) (Nat.zero_le _) ?_)
  refine run (s := ⟨(hp.push (PySem.W.kdv_tup [])).push (excO C hp.objs.size), g, dr, tk, os⟩) KX2 (hlim.keeps kk) (G.keeps kk) ⟨mb, B.keeps kk, hb2⟩ hget hnx ?_ (b1 _ _ KX2) fun h' tk' dx t1 k' hx dn dne hns => ?_
  · show A.depth + 1 < recursionLimit
    omega
  · have old : ∀ b o, hp.get? b = some o → h'.get? b = some o := fun b o e => k' b o (Nat.ne_of_lt (Nat.lt_succ_of_lt (Heap.lt_size e))) (kk b o e)
    have z : hp.objs.size + 1 + 1 ≤ dx := by
      first
        | (simpa only [Heap.size_push] using dn)
        | exact dn
    have db : hp.objs.size ≤ dx := Nat.le_trans (Nat.le_trans (Nat.le_succ _) (Nat.le_succ _)) z
    exact ⟨rfl, mk_val I1 old (Nat.le_succ _) hx db dne hns (show RelV .non .none from rfl) q⟩
/-- C(fl = v) -/
theorem call_exVK {pins : List (Addr × Obj)} {σ : L2.St} {H1 : Hp} {Q : VK} {s1 : Shared} {v : V} {u : Value} {A : Around} (T : ExcAt X.prog X.w X.K X.mg x fl C) (hr : A.depth + 2 < recursionLimit) (I1 : Inv X pins σ H1 s1) (rv : RelV v u)
    (q : eNew C fl v H1 Q) {E : Value → Shared → Prop} : wpAny (model X.prog X.w) A (call (.ref C) [] [(fl, u)]) (EP X pins σ Q) E s1 := by
  obtain ⟨nm, q', N, bs, bm, sn, sub, ab, col, dd, k0, k1, k2, k3, k5, hC, hbm⟩ := T.T.cls
  obtain ⟨fI, fd, iC, tI, run, _, _, b1⟩ := T.init
  have hlim := I1.nolimit
  have KX := I1.kIn
  have G : s1.heap.Ns mainGlobals X.mg := I1.mod.glob.keeps I1.bk
  obtain ⟨mb, hb1, hb2⟩ := I1.mod.blt
  have B : s1.heap.Ns builtinsNs mb := hb1.keeps I1.bk
  obtain ⟨hp, g, dr, tk, os⟩ := s1
  have kk : ∀ b o, hp.get? b = some o → ((hp.push (PySem.W.kdv_tup [])).push (excO C hp.objs.size)).get? b = some o := fun b o e => Heap.get?_push_of_some _ (Heap.get?_push_of_some _ e)
  have hget : ((hp.push (PySem.W.kdv_tup [])).push (excO C hp.objs.size)).get? (hp.objs.size + 1) = some (excO C hp.objs.size) := by heap_get
  have hnx : X.K.lookup (hp.objs.size + 1) = none := by
    cases e : X.K.lookup (hp.objs.size + 1) with
    | none => rfl
    | some o =>
      have z : hp.get? (hp.objs.size + 1) = some o := KX _ _ e
      exact absurd (Nat.lt_of_succ_lt (Heap.lt_size z)) (Nat.lt_irrefl _)
  have KX2 : X.K.In ((hp.push (PySem.W.kdv_tup [])).push (excO C hp.objs.size)) := KX.keeps kk
  refine wpAny_call (call_kwE F.excBase_ValueError (fun X => refsVE_contains X bm hbm) (KX _ _ hC) (PySem.W.looks_findIn KX iC) (fun self => PySem.W.bind_fn KX self tI) ?_)
  refine run (s := ⟨(hp.push (PySem.W.kdv_tup [])).push (excO C hp.objs.size), g, dr, tk, os⟩) KX2 (hlim.keeps kk) (G.keeps kk) ⟨mb, B.keeps kk, hb2⟩ hget hnx ?_ (b1 _ _ _ KX2) fun h' tk' dx t1 k' hx dn dne hns => ?_
  · show A.depth + 1 < recursionLimit
    omega
  · have old : ∀ b o, hp.get? b = some o → h'.get? b = some o := fun b o e => k' b o (Nat.ne_of_lt (Nat.lt_succ_of_lt (Heap.lt_size e))) (kk b o e)
    have z : hp.objs.size + 1 + 1 ≤ dx := by
      first
        | (simpa only [Heap.size_push] using dn)
        | exact dn
    have db : hp.objs.size ≤ dx := Nat.le_trans (Nat.le_trans (Nat.le_succ _) (Nat.le_succ _)) z
    exact ⟨rfl, mk_val I1 old (Nat.le_succ _) hx db dne hns rv q⟩
/-- C(), C without an own __init__ -/
def eNew0 (C : Addr) (H1 : Hp) (Q : VK) : Prop := ∀ e, H1 e = none → Q (.ref e) (upd H1 e (exk e (.ref C) none))
theorem call_exN {pins : List (Addr × Obj)} {σ : L2.St} {H1 : Hp} {Q : VK} {s1 : Shared} {A : Around} (q0 : PySem.W.excIn X.K C veTail "ValueError.__new__" = true) (I1 : Inv X pins σ H1 s1)
    (q : eNew0 C H1 Q) {E : Value → Shared → Prop} : wpAny (model X.prog X.w) A (call (.ref C) []) (EP X pins σ Q) E s1 := by
  obtain ⟨bm, N, nm, qn, bs, hdct, sn, sub, ab, col, dd, k0, k1, k2, k3, k5, mN, hC, hN, hni, T⟩ := exc_obj I1.kIn q0
  refine wpAny_call_exc_subT F.excBase_ValueError T hC hN hni (fun h' a hm => ?_) (Nat.zero_le _)
  have hn : H1 a = none := I1.hok.gone hm.new
  obtain ⟨t, ht, _, _⟩ := hm.there
  exact ⟨.ref a, _, I1.laidN hm.keeps hm.new hn (exk_ok ht ⟨rfl, rfl⟩ rfl), rfl, q a hn⟩
/-- an own error without an own __init__ -/
structure ExN (K : PySem.W.Frag) (C : Addr) : Prop where
  q : PySem.W.excIn K C veTail "ValueError.__new__" = true
  k : PySem.W.keepIn K (.ref C) = true
def exnB (x : Str) (K : PySem.W.Frag) : Bool := PySem.W.excIn K (He.ga K x) veTail "ValueError.__new__" && PySem.W.keepIn K (.ref (He.ga K x))
theorem exn_ok {K : PySem.W.Frag} {x : Str} (h : exnB x K = true) : ExN K (He.ga K x) := by
  unfold exnB at h
  rw [Bool.and_eq_true] at h
  exact ⟨h.1, h.2⟩
def exkB (x fl : Str) (K : PySem.W.Frag) : Bool :=
  He.eqO (PySem.W.findIn K (.ref (He.ga K x)) "__getattribute__") (some (some (.builtin "BaseException.__getattribute__"))) && (He.eqO (PySem.W.findIn K (.ref (He.ga K x)) "__getattr__") (some none) && (He.eqO (PySem.W.findIn K (.ref (He.ga K x)) fl) (some none) &&
  (PySem.W.hasDictIn K (He.ga K x) && (decide (PySem.W.subIn K (.ref (He.ga K x)) (.type "BaseException") = some true) && (He.eqO (PySem.W.findIn K (.ref (He.ga K x)) "__class__") (some (some (.builtin "object.__class__"))) && decide (PySem.W.mroIn K (He.ga K x) (.type "object") = some true))))))
theorem exk_of {K : PySem.W.Frag} {x fl : Str} (h : exkB x fl K = true) : ExcK K fl (He.ga K x) := by
  unfold exkB at h
  simp only [Bool.and_eq_true, decide_eq_true_eq] at h
  obtain ⟨h1, h2, h3, h4, h5, h6, h7⟩ := h
  exact ⟨He.eqO_ok h1, He.eqO_ok h2, He.eqO_ok h3, h4, h5, He.eqO_ok h6, ex_get.1, ex_get.2, h7⟩
/-! the calls -/
def tEx (C : Addr) (fl : Str) (ta : TA) : TE := fun σ H Q => ta σ H fun vs H1 => match vs with
  | [v] => eNew C fl v H1 Q
  | _ => False
def tEx0 (C : Addr) (fl : Str) : TE := fun _ H Q => eNew C fl .non H Q
def tExN (C : Addr) : TE := fun _ H Q => eNew0 C H Q
variable {e : Expr} {es : List Expr} {ta : TA} {p pos : Pos} {k : Nat} {kws : List Keyword}
theorem me_ex (T : ExcAt X.prog X.w X.K X.mg x fl C) (hr : Room k X.A) (hg : Gl X x) (ha : PA X (e :: es) ta) (hdb : (x == ("__debug__" : Str)) = false := by decide)
    (he : starEach (e :: es) X.env = (false, eval e X.env) :: starEach es X.env := by rfl) (hpl : (backTo pos (starEach es X.env)).any (·.1) = false := by rfl) : PE X (.Call (.Name x p) (e :: es) [] pos) (tEx C fl ta) := by
  refine ⟨fun pins s σ H Q I h => ?_⟩
  refine wpAny_Call_Name_kw (ld_glob I hg T.gC ?_ hdb)
  refine PySem.W.callWith_K (h₀ := X.base) I.ok.mod.kin T.T.kC (thn ((pa_cl ha).run pos pins s σ H (fun vs H1 => ∃ v, vs = [v] ∧ eNew C fl v H1 Q) I ⟨_, h, fun vs H1 z => ?_⟩) fun us s1 ⟨vs, H1, I1, r1, v, ev, q1⟩ => ⟨I1.kIn, ?_⟩) he hpl
  · split at z
    · exact ⟨_, rfl, z⟩
    · exact z.elim
  · subst ev
    obtain ⟨u, rfl, ru⟩ := vals_one r1
    exact call_exV T (by have := hr.dp; omega) I1 ru q1
theorem me_ex0 (T : ExcAt X.prog X.w X.K X.mg x fl C) (hr : Room k X.A) (hg : Gl X x) (hdb : (x == ("__debug__" : Str)) = false := by decide) : PE X (.Call (.Name x p) [] [] pos) (tEx0 C fl) := by
  refine ⟨fun pins s σ H Q I h => ?_⟩
  refine wpAny_Call_Name_kw (ld_glob I hg T.gC ?_ hdb)
  exact PySem.W.callWith_K0 I.kIn T.T.kC (call_exV0 T (by have := hr.dp; omega) I h)
theorem me_exN (q : ExN X.K C) (gC : X.mg x = some (.ref C)) (hg : Gl X x) (hdb : (x == ("__debug__" : Str)) = false := by decide) : PE X (.Call (.Name x p) [] [] pos) (tExN C) := by
  refine ⟨fun pins s σ H Q I h => ?_⟩
  refine wpAny_Call_Name_kw (ld_glob I hg gC ?_ hdb)
  exact PySem.W.callWith_K0 I.kIn q.k (call_exN q.q I h)
theorem me_exK (T : ExcAt X.prog X.w X.K X.mg x fl C) (hr : Room k X.A) (hg : Gl X x) (hkw : PK X kws ta)
    (hall : (backToKw pos (keywordEach kws X.env)).all (·.1.isSome) = true := by rfl) (hks : (backToKw pos (keywordEach kws X.env)).filterMap (·.1) = [fl] := by rfl)
    (hdb : (x == ("__debug__" : Str)) = false := by decide)
    (hpl : ((backTo pos (starEach [] X.env)).any (·.1) || (backToKw pos (keywordEach kws X.env)).any (·.1.isNone)) = false := by rfl) :
    PE X (.Call (.Name x p) [] kws pos) (tEx C fl ta) := by
  refine ⟨fun pins s σ H Q I h => ?_⟩
  refine wpAny_Call_Name_kw (ld_glob I hg T.gC ?_ hdb)
  refine PySem.W.callWith_KW0 (h₀ := X.base) I.ok.mod.kin T.T.kC hall (thn (hkw.run pos pins s σ H _ I h) fun ws s2 ⟨zs, H2, I2, rz, q2⟩ => ⟨I2.kIn, ?_⟩) hpl
  rw [hks]
  have q3 : ∃ v, zs = [v] ∧ eNew C fl v H2 Q := by
    dsimp only at q2
    split at q2
    · exact ⟨_, rfl, q2⟩
    · exact q2.elim
  obtain ⟨v, rfl, q3⟩ := q3
  obtain ⟨u, rfl, ru⟩ := vals_one rz
  exact call_exVK T (by have := hr.dp; omega) I2 ru q3
/-! isinstance(x, C) of an error -/
theorem inst_any {pins : List (Addr × Obj)} {σ : L2.St} {H : Hp} {s : Shared} {a C : Addr} {d : Option Addr} (I : L2.Inv X pins σ H s) (h1 : H a = some (exk a (.ref C) d)) (h2 : d = none ∨ ∃ dd fs, d = some dd ∧ H dd = some (.xd fs)) :
    ∃ (o : Obj) (od : Option Obj), PySem.W.InstAt s.heap a o C od := by
  rcases h2 with rfl | ⟨dd, fs, rfl, h2⟩
  · obtain ⟨o, vs, e1, e2, e3, e4⟩ := exk_at I.hok h1
    exact ⟨o, none, e1, e2, by unfold PySem.W.notCls; rw [e4] <;> rfl, by rw [e3]; first | rfl | trivial⟩
  · obtain ⟨o, od, _, J, _⟩ := inst_of I h1 h2
    exact ⟨o, some od, J⟩
def mIsiV (K : PySem.W.Frag) : List V → Hp → VK → Prop := fun xs H Q => (∃ (a C : Addr) (d : Option Addr) (fl : Str) (c : V) (cv : Value) (b : Bool), xs = [.ref a, c] ∧ ExcK K fl C ∧ H a = some (exk a (.ref C) d) ∧ (d = none ∨ ∃ dd fs, d = some dd ∧ H dd = some (.xd fs)) ∧ (∀ u, RelV c u → u = cv) ∧ PySem.W.kitOne K (.ref C) cv = some b ∧ Q (.bl b) H) ∨ mIsi K xs H Q
theorem call_isiV : CallR X (.builtin "isinstance") (mIsiV X.K) := by
  intro pins s σ H xs us Q I r h
  rcases h with ⟨a, C, d, fl, c, cv, b, rfl, T, h1, h2, hc, hk, q⟩ | h
  · cases r with
    | cons rx rr => cases rr with
      | cons rt rr =>
        cases rr; cases rx
        obtain rfl := hc _ rt
        obtain ⟨o, od, J⟩ := inst_any I h1 h2
        obtain ⟨cd, hcd, _⟩ := PySem.W.any_some T.hd
        exact PySem.W.kia_one (PySem.W.kitx_exc (by rw [hcd]; rfl) T.ga T.gg T.exC T.ha T.hn T.ht T.hm) I.kIn J hk (fun z => nomatch z) fun tk => ⟨.bl b, H, I.kept (t' := tk) fun _ _ z => z, rfl, q⟩
  · exact call_isiM pins s σ H xs us Q I r h
end
end M

/-! ### the readings at values that are known -/
namespace M
open PySem PySem.Spec PyProof.Rows L2
section
variable {K : PySem.W.Frag} {H : Hp} {Q : VK} {i j : Int} {a b : Str} {k l : Bool} {p q : Addr} {x y : V} {lo hi : Option Int}
theorem q_add1 : mAdd (.int i) (.int j) H Q = Q (.int (i + j)) H := rfl
theorem q_add2 : mAdd (.str a) (.str b) H Q = (a.length + b.length ≤ sizeLine ∧ Q (.str (a ++ b)) H) := rfl
theorem q_add3 : mAdd (.ref p) (.ref q) H Q = (∃ xs zs, H p = some (.lst xs) ∧ H q = some (.lst zs) ∧ xs.length + zs.length ≤ sizeLine ∧ ∀ r, H r = none → Q (.ref r) (upd H r (.lst (xs ++ zs)))) := rfl
theorem q_add4 : mAdd (.int i) (.bl k) H Q = Q (.int (i + b2i k)) H := rfl
theorem q_iadd1 : iAdd (.int i) (.int j) H Q = Q (.int (i + j)) H := rfl
theorem q_iadd2 : iAdd (.str a) (.str b) H Q = (a.length + b.length ≤ sizeLine ∧ Q (.str (a ++ b)) H) := rfl
theorem q_iadd3 : iAdd (.ref p) (.ref q) H Q = (∃ xs zs, H p = some (.lst xs) ∧ H q = some (.lst zs) ∧ xs.length + zs.length ≤ sizeLine ∧ Q (.ref p) (upd H p (.lst (xs ++ zs)))) := rfl
theorem q_sub : mSub (.int i) (.int j) H Q = Q (.int (i - j)) H := rfl
theorem q_mul1 : mMul (.int i) (.int j) H Q = (MulOk i j ∧ Q (.int (i * j)) H) := rfl
theorem q_mul2 : mMul (.ref p) (.int i) H Q = (∃ xs, H p = some (.lst xs) ∧ -(2 ^ 63) ≤ i ∧ i < 2 ^ 63 ∧ xs.length * i.toNat ≤ sizeLine ∧ ∀ r, H r = none → Q (.ref r) (upd H r (.lst (List.replicate i.toNat xs).flatten))) := rfl
theorem foldl_S (z : List Nat) : ∀ (n : Nat) (acc : List Nat), ((List.replicate n z.toArray).foldl (· ++ ·) acc.toArray) = (acc ++ (List.replicate n z).flatten).toArray
  | 0, acc => by simp
  | n + 1, acc => by
    rw [List.replicate_succ, List.foldl_cons, List.append_toArray, foldl_S z n, List.replicate_succ, List.flatten_cons, List.append_assoc]
theorem mul_S (z : List Nat) (k : Int) : Txt.mul (S z) k = S (List.replicate k.toNat z).flatten := by
  unfold Txt.mul
  by_cases h1 : k < 1
  · rw [if_pos h1, show k.toNat = 0 by omega]; rfl
  · rw [if_neg h1]
    split
    · rename_i h
      rcases Bool.or_eq_true_iff.mp h with h | h
      · have : k = 1 := by simpa using h
        subst this
        simp
      · have : z = [] := by
          have h2 : (S z).length = 0 := by simpa using h
          rw [S_len] at h2
          exact List.length_eq_zero_iff.mp h2
        subst this
        simp
    · have := foldl_S z k.toNat []
      simp only [List.nil_append] at this
      unfold S
      rw [← this]
theorem q_mul3 {z : List Nat} : mMul (.str (S z)) (.int i) H Q = ((z.length * 4096 ≤ 16777216 ∧ 0 ≤ i ∧ i ≤ 4096) ∧ Q (.str (S (List.replicate i.toNat z).flatten)) H) := by
  show (((S z).length * 4096 ≤ 16777216 ∧ 0 ≤ i ∧ i ≤ 4096) ∧ Q (.str (Txt.mul (S z) i)) H) = _
  rw [S_len, mul_S]
theorem q_mod : mMod (.int i) (.int j) H Q = (0 < j ∧ Q (.int (i % j)) H) := rfl
theorem q_div : mDiv (.int i) (.int j) H Q = (DivOk j ∧ Q (.int (i / j)) H) := rfl
theorem q_pow : mPow (.int i) (.int j) H Q = ((0 ≤ j ∧ (Builtin.Int.intBits i : Int) * j ≤ 2 ^ 27) ∧ Q (.int (i ^ j.toNat)) H) := rfl
theorem q_eq1 : mEq K (.int i) (.int j) H Q = Q (.bl (decide (i = j))) H := rfl
theorem q_eq2 : mEq K (.str a) (.str b) H Q = Q (.bl (decide (a = b))) H := rfl
theorem q_eq3 : mEq K (.bl k) (.bl l) H Q = Q (.bl (decide (k = l))) H := rfl
theorem q_eq4 : mEq K .non .non H Q = Q (.bl true) H := rfl
theorem q_eq5 : mEq K .non (.int j) H Q = Q (.bl false) H := rfl
theorem q_eq6 : mEq K (.int j) .non H Q = Q (.bl false) H := rfl
theorem q_eq7 : mEq K (.str a) .non H Q = Q (.bl false) H := rfl
theorem q_eq8 : mEq K .non (.str a) H Q = Q (.bl false) H := rfl
theorem q_eq9 : mEq K (.ref p) y H Q = rEqW K false (.ref p) y H Q := by cases y <;> rfl
theorem q_eq10 : mEq K x (.ref p) H Q = rEqW K false x (.ref p) H Q := by cases x <;> rfl
theorem q_ne1 : mNe K (.int i) (.int j) H Q = Q (.bl (!decide (i = j))) H := rfl
theorem q_ne2 : mNe K (.str a) (.str b) H Q = Q (.bl (!decide (a = b))) H := rfl
theorem q_ne3 : mNe K (.bl k) (.bl l) H Q = Q (.bl (!decide (k = l))) H := rfl
theorem q_ne9 : mNe K (.ref p) y H Q = rEqW K true (.ref p) y H Q := by cases y <;> rfl
theorem q_ne10 : mNe K x (.ref p) H Q = rEqW K true x (.ref p) H Q := by cases x <;> rfl
theorem q_lt : mLt (.int i) (.int j) H Q = Q (.bl (decide (i < j))) H := rfl
theorem q_le : mLe (.int i) (.int j) H Q = Q (.bl (decide (i ≤ j))) H := rfl
theorem q_gt : mGt (.int i) (.int j) H Q = Q (.bl (decide (j < i))) H := rfl
theorem q_ge : mGe (.int i) (.int j) H Q = Q (.bl (decide (j ≤ i))) H := rfl
theorem q_inc : mInC (.str a) (.str b) H Q = (∃ k, a = S [k] ∧ Q (.bl (decide (k ∈ b.cps.toList))) H) := rfl
theorem q_ninc : mNinC (.str a) (.str b) H Q = (∃ k, a = S [k] ∧ Q (.bl (!decide (k ∈ b.cps.toList))) H) := rfl
theorem q_inc1 {c : Nat} {z : List Nat} : mInC (.str (S [c])) (.str (S z)) H Q = Q (.bl (decide (c ∈ z))) H := by
  rw [q_inc, S_cps]
  refine propext ⟨fun ⟨k, e, h⟩ => ?_, fun h => ⟨c, rfl, h⟩⟩
  have := S_inj.mp e
  simp only [List.cons.injEq, and_true] at this
  rw [this]; exact h
theorem q_ix1 : mIx K (.str a) (.int i) H Q = (a.length ≤ sizeLine ∧ ∃ c, atI a.cps.toList i = some c ∧ Q (.str (S [c])) H) := rfl
theorem q_ix2 : mIx K (.ref p) (.int i) H Q = (∃ xs v, (SqL K H p xs ∨ SqT K H p xs) ∧ atI xs i = some v ∧ Q v H) := rfl
theorem q_sl1 : mSl K (.str a) lo hi H Q = (a.length ≤ sizeLine ∧ Q (.str (S (cutL a.cps.toList lo hi))) H) := rfl
theorem q_sl2 : mSl K (.ref p) lo hi H Q = (∃ xs, SqL K H p xs ∧ ∀ r, H r = none → Q (.ref r) (upd H r (.lst (cutL xs lo hi)))) := rfl
theorem q_set {R : Hp → Prop} : mSetL (.ref p) (.int i) x H R = (∃ xs j, H p = some (.lst xs) ∧ ixN xs.length i = some j ∧ R (upd H p (.lst (xs.set j x)))) := rfl
theorem q_len1 : mLen K [.str a] H Q = (a.length ≤ sizeLine ∧ Q (.int a.length) H) := rfl
theorem q_len2 : mLen K [.ref p] H Q = (∃ ys, (SqL K H p ys ∨ SqT K H p ys) ∧ Q (.int ys.length) H) := rfl
theorem q_int1 : mInt [.int i] H Q = Q (.int i) H := rfl
theorem q_int2 : mInt [.bl k] H Q = Q (.int (if k then 1 else 0)) H := rfl
theorem q_max : mMax [.int i, .int j] H Q = Q (.int (max i j)) H := rfl
theorem q_min : mMin [.int i, .int j] H Q = Q (.int (min i j)) H := rfl
theorem q_abs : mAbs [.int i] H Q = Q (.int (i.natAbs : Int)) H := rfl
theorem q_sum : mSum K [.ref p] H Q = (∃ ns : List Int, SqL K H p (ns.map V.int) ∧ Q (.int ns.sum) H) := rfl
theorem q_list : mList K [.ref p] H Q = (∃ ys, (SqL K H p ys ∨ SqT K H p ys) ∧ ∀ l, H l = none → Q (.ref l) (upd H l (.lst ys))) := rfl
theorem q_isi1 {z : Str} : mIsi K [.str z, .ty "str"] H Q = Q (.bl true) H := by unfold mIsi; simp only [tyN, kb1]
theorem q_is1 : mIs x .non H Q = Q (.bl (isN x)) H := rfl
theorem q_not1 : mNot x .non H Q = Q (.bl (!isN x)) H := rfl
theorem q_isN1 : isN .non = true := rfl
theorem q_isN2 : isN (.ref p) = false := rfl
theorem q_isN3 : isN (.str a) = false := rfl
theorem q_isN4 : isN (.int i) = false := rfl
theorem q_join : mJoin K a (.ref p) H Q = (∃ ys : List Str, (SqL K H p (ys.map V.str) ∨ SqT K H p (ys.map V.str)) ∧ (ys.map (·.length)).sum + ys.length * a.length ≤ 16777216 ∧ Q (.str (Txt.join a ys)) H) := rfl
theorem q_count : mCount a (.str b) H Q = Q (.int (Txt.count a b)) H := rfl
theorem q_split : mSplit a (.str b) H Q = ((b.length == 0) = false ∧ a.length + 2 ≤ sizeLine ∧ ∀ r, H r = none → Q (.ref r) (upd H r (.lst ((Txt.split a b).map V.str)))) := rfl
theorem q_app {xs : List V} : mApp p xs [y] H Q = (xs.length < sizeLine ∧ Q .non (upd H p (.lst (xs ++ [y])))) := rfl
theorem q_pop {xs : List V} : mPop p xs [] H Q = (∃ y, xs.getLast? = some y ∧ Q y (upd H p (.lst xs.dropLast))) := rfl
theorem q_clear {xs : List V} : mClear p xs [] H Q = Q .non (upd H p (.lst [])) := rfl
theorem q_isiE {C : Addr} : mIsiE K [.ref p, .ref C] H Q = (∃ (D d : Addr) (fl : Str) (fs : List (Str × V)) (b : Bool), ExcK K fl D ∧ H p = some (exk p (.ref D) (some d)) ∧ H d = some (.xd fs) ∧ PySem.W.kitOne K (.ref D) (.ref C) = some b ∧ Q (.bl b) H) := rfl
theorem q_sorted : mSorted K [.ref p] H Q = (∃ xs : List Str, SqL K H p (xs.map V.str) ∧ ∀ (ys : List Str) (r : Addr), ys.Perm xs → sortedS ys = true → H r = none → Q (.ref r) (upd H r (.lst (ys.map V.str)))) := rfl
theorem q_repr : mRepr K [x] H Q = (∃ d, Sh K H x d ∧ d.showable = true ∧ d.depth ≤ 64 ∧ d.shown.length ≤ sizeLine ∧ Q (.str d.shown) H) := rfl
theorem q_par {i j : Nat} {a b : TE} : mPar i j (tCons a (tCons b tNil)) = fun D σ H => a σ H fun u H1 => b σ H1 fun v H2 => D.nx ((σ.set i (some u)).set j (some v)) H2 := rfl
theorem q_par3 {i j l : Nat} {a b c : TE} : mPar3 i j l (tCons a (tCons b (tCons c tNil))) = fun D σ H => a σ H fun u H1 => b σ H1 fun v H2 => c σ H2 fun w H3 => D.nx (((σ.set i (some u)).set j (some v)).set l (some w)) H3 := rfl
/-- joined texts -/
theorem join_S : ∀ l : List (List Nat), Txt.join (S []) (l.map S) = S l.flatten := by
  intro l
  show PySem.Builtin.Str.glued (S []) (l.map S) = _
  rw [StrLaws.glued_eq_join]
  induction l with
  | nil => rfl
  | cons z l ih =>
    cases l with
    | nil => show S z = S (z ++ []); rw [List.append_nil]
    | cons y r =>
      show S z ++ S [] ++ Str.join (S []) ((y :: r).map S) = _
      rw [ih, S_app, S_app, List.append_nil]
      simp only [List.flatten_cons]
theorem join_signs (l : List Nat) : Txt.join (S []) (l.map fun c => S [c]) = S l := by
  have e : (l.map fun c => S [c]) = (l.map fun c => [c]).map S := by rw [List.map_map]; rfl
  rw [e, join_S]
  congr 1
  induction l with
  | nil => rfl
  | cons c r ih => show [c] ++ (r.map fun c => [c]).flatten = _; rw [ih (by rw [List.map_map]; rfl)]; rfl
end
def sg (P : List Nat) : List V := P.map fun c => V.str (S [c])
def tx (l : List (List Nat)) : List V := l.map fun z => V.str (S z)
theorem sg_tx (P : List Nat) : sg P = tx (P.map fun c => [c]) := by unfold sg tx; rw [List.map_map]; rfl
theorem sg_str (P : List Nat) : sg P = (P.map fun c => S [c]).map V.str := by unfold sg; rw [List.map_map]; rfl
theorem sg_len (P : List Nat) : (sg P).length = P.length := by unfold sg; rw [List.length_map]
theorem tx_len (P : List (List Nat)) : (tx P).length = P.length := by unfold tx; rw [List.length_map]
theorem sg_app (a b : List Nat) : sg (a ++ b) = sg a ++ sg b := by unfold sg; rw [List.map_append]
theorem tx_app (a b : List (List Nat)) : tx (a ++ b) = tx a ++ tx b := by unfold tx; rw [List.map_append]
theorem one_len (P : List Nat) : ((P.map fun c => S [c]).map (·.length)).sum = P.length := by
  induction P with
  | nil => rfl
  | cons c r ih => simp only [List.map_cons, List.sum_cons, List.length_cons, ih, S_len, List.length_nil]; omega
end M

/-! ### texts counted and cut at a sign -/
namespace M
open PySem PySem.Spec PyProof.Rows L2
theorem splitS {z : List Nat} {c : Nat} (hc : c < 256) : Txt.split (S z) (S [c]) = (TL.spl [c] 0 [] z).map S := SX.split_S (by simp) (by simpa using hc)
theorem spl_one {c d : Nat} {acc r : List Nat} : TL.spl [c] 0 acc (d :: r) = if d = c then acc :: TL.spl [c] 0 [] r else TL.spl [c] 0 (acc ++ [d]) r := by
  show (if TL.pre [c] (d :: r) = true then acc :: TL.spl [c] 0 [] r else TL.spl [c] 0 (acc ++ [d]) r) = _
  have : (TL.pre [c] (d :: r) = true) = (d = c) := by simp [TL.pre]
  simp only [this]
theorem spl_count (c : Nat) : ∀ (z acc : List Nat), (TL.spl [c] 0 acc z).length = z.count c + 1
  | [], acc => rfl
  | d :: r, acc => by
    rw [spl_one, List.count_cons]
    by_cases h : d = c
    · rw [if_pos h, List.length_cons, spl_count c r]; simp [h]
    · rw [if_neg h, spl_count c r]; simp [h]
theorem count_split {z : List Nat} {c : Nat} (hc : c < 256) : Txt.count (S z) (S [c]) + 1 = ((Txt.split (S z) (S [c])).length : Int) := by
  unfold Txt.count Txt.split
  by_cases h1 : (decide ((S z).length < (S [c]).length) || decide (Builtin.Str.strKind (S z) < Builtin.Str.strKind (S [c]))) = true
  · rw [if_pos h1]
    have hz : z = [] := by
      rcases Bool.or_eq_true_iff.mp h1 with h | h
      · have := of_decide_eq_true h
        simp only [S_len, List.length_singleton] at this
        exact List.length_eq_zero_iff.mp (by omega)
      · exact absurd (of_decide_eq_true h) (TL.kind_ok (SX.all256 (by simpa using hc)))
    subst hz
    have : Builtin.Str.occurrences (S []) (S [c]) 0 (S []).length ((S []).length + 1) = [] := by
      show Builtin.Str.occurrences (S []) (S [c]) 0 0 1 = []
      simp [Builtin.Str.occurrences, S_len]
    rw [this]; rfl
  · rw [if_neg h1]
    split
    · rename_i h2
      rw [List.isEmpty_iff.mp h2]; rfl
    · rw [length_partsBetween]
      push_cast
      rfl
theorem count_S {z : List Nat} {c : Nat} (hc : c < 256) : Txt.count (S z) (S [c]) = (z.count c : Int) := by
  have h := count_split (z := z) hc
  rw [splitS hc, List.length_map, spl_count] at h
  omega
theorem Tr.cnt_op : ∀ t : Tr, t.s.count 40 = t.n
  | .lf => rfl
  | .nd a b => by
    have h1 := Tr.cnt_op a
    have h2 := Tr.cnt_op b
    simp only [Tr.s, Tr.n, List.count_cons, List.count_append, List.count_nil, h1, h2]
    simp
theorem Tr.cnt_lf : ∀ t : Tr, t.s.count 46 = t.n + 1
  | .lf => rfl
  | .nd a b => by
    have h1 := Tr.cnt_lf a
    have h2 := Tr.cnt_lf b
    simp only [Tr.s, Tr.n, List.count_cons, List.count_append, List.count_nil, h1, h2]
    simp
    omega
/-- the pieces with texts between them -/
def fillP : List (List Nat) → List (List Nat) → List Nat
  | [], _ => []
  | p :: _, [] => p
  | p :: ps, h :: hs => p ++ h ++ fillP ps hs
theorem fill_acc (c : Nat) : ∀ (z acc : List Nat) (hs : List (List Nat)), fillP (TL.spl [c] 0 acc z) hs = acc ++ fillP (TL.spl [c] 0 [] z) hs
  | [], acc, hs => by cases hs <;> simp [TL.spl_nil, fillP]
  | d :: r, acc, hs => by
    rw [spl_one, spl_one]
    by_cases h : d = c
    · rw [if_pos h, if_pos h]
      cases hs <;> simp [fillP]
    · rw [if_neg h, if_neg h, fill_acc c r (acc ++ [d]), fill_acc c r ([] ++ [d])]
      simp
end M

/-! ### trees as a lattice -/
namespace M
namespace Tr
theorem s_cons (t : Tr) : ∃ c r, t.s = c :: r := by cases t <;> exact ⟨_, _, rfl⟩
theorem s_pre : ∀ (t u : Tr) (a b : List Nat), t.s ++ a = u.s ++ b → t = u ∧ a = b
  | .lf, .lf, a, b, h => ⟨rfl, by simpa [s] using h⟩
  | .lf, .nd l r, a, b, h => by simp [s] at h
  | .nd l r, .lf, a, b, h => by simp [s] at h
  | .nd l r, .nd l' r', a, b, h => by
    simp only [s, List.cons_append, List.append_assoc, List.cons.injEq, true_and] at h
    obtain ⟨rfl, h2⟩ := s_pre l l' _ _ h
    obtain ⟨rfl, h3⟩ := s_pre r r' _ _ h2
    exact ⟨rfl, by simpa using h3⟩
theorem s_inj {t u : Tr} : t.s = u.s ↔ t = u := ⟨fun h => (s_pre t u [] [] (by rw [h])).1, fun h => by rw [h]⟩
def join : Tr → Tr → Tr
  | .lf, t => t
  | .nd a b, .lf => .nd a b
  | .nd a b, .nd c d => .nd (join a c) (join b d)
def meet : Tr → Tr → Tr
  | .lf, _ => .lf
  | .nd _ _, .lf => .lf
  | .nd a b, .nd c d => .nd (meet a c) (meet b d)
/-- the first one grows into the second one -/
def le : Tr → Tr → Bool
  | .lf, _ => true
  | .nd _ _, .lf => false
  | .nd a b, .nd c d => le a c && le b d
theorem join_lf (t : Tr) : join t .lf = t := by cases t <;> rfl
theorem meet_lf (t : Tr) : meet t .lf = .lf := by cases t <;> rfl
theorem join_comm : ∀ t u : Tr, join t u = join u t
  | .lf, u => (join_lf u).symm
  | .nd a b, .lf => rfl
  | .nd a b, .nd c d => by simp only [join, join_comm a c, join_comm b d]
theorem meet_comm : ∀ t u : Tr, meet t u = meet u t
  | .lf, u => (meet_lf u).symm
  | .nd a b, .lf => rfl
  | .nd a b, .nd c d => by simp only [meet, meet_comm a c, meet_comm b d]
theorem join_self : ∀ t : Tr, join t t = t
  | .lf => rfl
  | .nd a b => by simp only [join, join_self a, join_self b]
theorem meet_self : ∀ t : Tr, meet t t = t
  | .lf => rfl
  | .nd a b => by simp only [meet, meet_self a, meet_self b]
theorem join_meet : ∀ t u : Tr, join t (meet t u) = t
  | .lf, u => rfl
  | .nd a b, .lf => rfl
  | .nd a b, .nd c d => by simp only [join, meet, join_meet a c, join_meet b d]
theorem meet_join : ∀ t u : Tr, meet t (join t u) = t
  | .lf, u => rfl
  | .nd a b, .lf => by show meet (.nd a b) (.nd a b) = _; exact meet_self _
  | .nd a b, .nd c d => by simp only [join, meet, meet_join a c, meet_join b d]
theorem join_assoc : ∀ t u v : Tr, join (join t u) v = join t (join u v)
  | .lf, u, v => rfl
  | .nd a b, .lf, v => rfl
  | .nd a b, .nd c d, .lf => rfl
  | .nd a b, .nd c d, .nd e f => by simp only [join, join_assoc a c e, join_assoc b d f]
theorem meet_assoc : ∀ t u v : Tr, meet (meet t u) v = meet t (meet u v)
  | .lf, u, v => rfl
  | .nd a b, .lf, v => rfl
  | .nd a b, .nd c d, .lf => rfl
  | .nd a b, .nd c d, .nd e f => by simp only [meet, meet_assoc a c e, meet_assoc b d f]
theorem join_dist : ∀ t u v : Tr, join t (meet u v) = meet (join t u) (join t v)
  | .lf, u, v => rfl
  | .nd a b, .lf, .lf => by show Tr.nd a b = meet (.nd a b) (.nd a b); rw [meet_self]
  | .nd a b, .lf, .nd e f => by
    show Tr.nd a b = meet (.nd a b) (.nd (join a e) (join b f))
    simp only [meet, meet_join]
  | .nd a b, .nd c d, .lf => by
    show Tr.nd a b = meet (.nd (join a c) (join b d)) (.nd a b)
    rw [meet_comm]; simp only [meet, meet_join]
  | .nd a b, .nd c d, .nd e f => by simp only [join, meet, join_dist a c e, join_dist b d f]
theorem n_join : ∀ t u : Tr, (join t u).n + (meet t u).n = t.n + u.n
  | .lf, u => by show u.n + 0 = 0 + u.n; omega
  | .nd a b, .lf => rfl
  | .nd a b, .nd c d => by
    have h1 := n_join a c
    have h2 := n_join b d
    simp only [join, meet, n]; omega
theorem le_join_iff : ∀ t u : Tr, le u t = true ↔ join t u = t
  | t, .lf => by simp [le, join_lf]
  | .lf, .nd c d => by simp [le, join]
  | .nd a b, .nd c d => by simp only [le, join, Bool.and_eq_true, le_join_iff a c, le_join_iff b d, Tr.nd.injEq]
theorem le_meet_iff : ∀ t u : Tr, le u t = true ↔ meet t u = u
  | t, .lf => by simp [le, meet_lf]
  | .lf, .nd c d => by simp [le, meet]
  | .nd a b, .nd c d => by simp only [le, meet, Bool.and_eq_true, le_meet_iff a c, le_meet_iff b d, Tr.nd.injEq]
theorem le_join (t u : Tr) : le t (join t u) = true := (le_meet_iff _ _).mpr (by rw [meet_comm, meet_join])
theorem meet_le (t u : Tr) : le (meet t u) t = true := (le_join_iff _ _).mpr (join_meet t u)
theorem join_n_le (t u : Tr) : (join t u).n ≤ t.n + u.n := by have := n_join t u; omega
theorem meet_n_le (t u : Tr) : (meet t u).n ≤ t.n + u.n := by have := n_join t u; omega
theorem le_n : ∀ t u : Tr, le t u = true → t.n ≤ u.n
  | .lf, u, _ => Nat.zero_le _
  | .nd a b, .lf, h => by simp [le] at h
  | .nd a b, .nd c d, h => by
    simp only [le, Bool.and_eq_true] at h
    have h1 := le_n a c h.1
    have h2 := le_n b d h.2
    simp only [n]; omega
/-- the trees with which a top grows into a tree -/
def hang : Tr → Tr → List Tr
  | .lf, t => [t]
  | .nd _ _, .lf => []
  | .nd a b, .nd c d => hang a c ++ hang b d
/-- the leaves replaced, from left to right -/
def grow : Tr → List Tr → Tr × List Tr
  | .lf, [] => (.lf, [])
  | .lf, h :: r => (h, r)
  | .nd a b, l => (.nd (grow a l).1 (grow b (grow a l).2).1, (grow b (grow a l).2).2)
theorem hang_len : ∀ t u : Tr, le t u = true → (hang t u).length = t.n + 1
  | .lf, u, _ => rfl
  | .nd a b, .lf, h => by simp [le] at h
  | .nd a b, .nd c d, h => by
    simp only [le, Bool.and_eq_true] at h
    simp only [hang, n, List.length_append, hang_len a c h.1, hang_len b d h.2]; omega
theorem grow_hang : ∀ (t u : Tr) (r : List Tr), le t u = true → grow t (hang t u ++ r) = (u, r)
  | .lf, u, r, _ => rfl
  | .nd a b, .lf, r, h => by simp [le] at h
  | .nd a b, .nd c d, r, h => by
    simp only [le, Bool.and_eq_true] at h
    simp only [grow, hang, List.append_assoc, grow_hang a c _ h.1, grow_hang b d _ h.2]
theorem hang_n : ∀ (t u h : Tr), h ∈ hang t u → h.n ≤ u.n
  | .lf, u, h, hm => by rw [List.mem_singleton.mp hm]; exact Nat.le_refl _
  | .nd a b, .lf, h, hm => by cases hm
  | .nd a b, .nd c d, h, hm => by
    simp only [n]
    rcases List.mem_append.mp hm with hm | hm
    · have := hang_n a c h hm; omega
    · have := hang_n b d h hm; omega
theorem fill_grow : ∀ (t : Tr) (hs : List Tr) (r : List Nat), t.n + 1 ≤ hs.length → fillP (TL.spl [46] 0 [] (t.s ++ r)) (hs.map Tr.s) = (grow t hs).1.s ++ fillP (TL.spl [46] 0 [] r) ((grow t hs).2.map Tr.s) ∧ (grow t hs).2.length + (t.n + 1) = hs.length
  | .lf, [], r, h => by simp [n] at h
  | .lf, x :: hs, r, h => by
    show fillP (TL.spl [46] 0 [] (46 :: r)) _ = _ ∧ _
    rw [spl_one, if_pos rfl]
    exact ⟨by simp [fillP, grow], by simp [grow, n]⟩
  | .nd a b, hs, r, h => by
    simp only [n] at h
    obtain ⟨a1, a2⟩ := fill_grow a hs (b.s ++ 41 :: r) (by omega)
    obtain ⟨b1, b2⟩ := fill_grow b (grow a hs).2 (41 :: r) (by omega)
    have e0 : TL.spl [46] 0 [] ((Tr.nd a b).s ++ r) = TL.spl [46] 0 [40] (a.s ++ (b.s ++ 41 :: r)) := by
      show TL.spl [46] 0 [] (40 :: ((a.s ++ (b.s ++ [41])) ++ r)) = _
      rw [spl_one, if_neg (by decide)]
      simp
    have e1 : fillP (TL.spl [46] 0 [] (41 :: r)) ((grow b (grow a hs).2).2.map Tr.s) = 41 :: fillP (TL.spl [46] 0 [] r) ((grow b (grow a hs).2).2.map Tr.s) := by
      rw [spl_one, if_neg (by decide), fill_acc]
      rfl
    refine ⟨?_, by simp only [grow, n]; omega⟩
    rw [e0, fill_acc, a1, b1, e1]
    simp [grow, s]
theorem fill_all (t : Tr) (hs : List Tr) (h : hs.length = t.n + 1) : fillP (TL.spl [46] 0 [] t.s) (hs.map Tr.s) = (grow t hs).1.s := by
  obtain ⟨h1, h2⟩ := fill_grow t hs [] (by omega)
  rw [List.append_nil] at h1
  have : (grow t hs).2 = [] := List.length_eq_zero_iff.mp (by omega)
  rw [h1, this]
  simp [TL.spl_nil, fillP]
theorem grow_n : ∀ (t : Tr) (hs : List Tr), (grow t hs).1.n + ((grow t hs).2.map Tr.n).sum ≤ t.n + (hs.map Tr.n).sum
  | .lf, [] => by simp [grow]
  | .lf, x :: hs => by simp [grow, n]
  | .nd a b, hs => by
    have h1 := grow_n a hs
    have h2 := grow_n b (grow a hs).2
    simp only [grow, n]
    omega
end Tr
end M

namespace M
open PySem PySem.Spec PyProof.Rows L2
namespace Tr
/-- the part at an address -/
def att : Tr → List Nat → Option Tr
  | t, [] => some t
  | .lf, _ :: _ => none
  | .nd a b, c :: r => if c = 114 then att b r else att a r
/-- another tree put at an address -/
def put : Tr → List Nat → Tr → Tr
  | _, [], o => o
  | .lf, _ :: _, _ => .lf
  | .nd a b, c :: r, o => if c = 114 then .nd a (put b r o) else .nd (put a r o) b
theorem att_lf (c : Nat) (r : List Nat) : att .lf (c :: r) = none := rfl
theorem att_nil (t : Tr) : att t [] = some t := by cases t <;> rfl
theorem put_nil (t o : Tr) : put t [] o = o := by cases t <;> rfl
theorem att_put : ∀ (r : List Nat) (t u : Tr), att t r = some u → ∃ pre post : List Nat, t.s = pre ++ u.s ++ post ∧ ∀ o, (put t r o).s = pre ++ o.s ++ post
  | [], t, u, h => by
    rw [att_nil] at h
    cases h
    exact ⟨[], [], by simp, fun o => by rw [put_nil]; simp⟩
  | c :: r, .lf, u, h => by cases h
  | c :: r, .nd a b, u, h => by
    by_cases z : c = 114
    · simp only [att, if_pos z] at h
      obtain ⟨p, q, h1, h2⟩ := att_put r b u h
      refine ⟨40 :: (a.s ++ p), q ++ [41], ?_, fun o => ?_⟩
      · simp only [Tr.s, h1, List.cons_append, List.append_assoc, List.nil_append]
      · simp only [put, if_pos z, Tr.s, h2, List.cons_append, List.append_assoc, List.nil_append]
    · simp only [att, if_neg z] at h
      obtain ⟨p, q, h1, h2⟩ := att_put r a u h
      refine ⟨40 :: p, q ++ (b.s ++ [41]), ?_, fun o => ?_⟩
      · simp only [Tr.s, h1, List.cons_append, List.append_assoc, List.nil_append]
      · simp only [put, if_neg z, Tr.s, h2, List.cons_append, List.append_assoc, List.nil_append]
theorem att_n : ∀ (r : List Nat) (t u : Tr), att t r = some u → u.n + r.length ≤ t.n
  | [], t, u, h => by rw [att_nil] at h; cases h; simp
  | c :: r, .lf, u, h => by cases h
  | c :: r, .nd a b, u, h => by
    simp only [att] at h
    simp only [Tr.n, List.length_cons]
    split at h
    · have := att_n r b u h; omega
    · have := att_n r a u h; omega
theorem put_n : ∀ (r : List Nat) (t o : Tr), (put t r o).n ≤ t.n + o.n
  | [], t, o => by rw [put_nil]; omega
  | c :: r, .lf, o => by simp [put, Tr.n]
  | c :: r, .nd a b, o => by
    simp only [put]
    split
    · have := put_n r b o; simp only [Tr.n]; omega
    · have := put_n r a o; simp only [Tr.n]; omega
end Tr
/-- an address' letters -/
def isAd (z : List Nat) : Bool := decide (∀ c ∈ z, c = 108 ∨ c = 114)
end M

/-! ### small tactics for heaps -/
namespace M
open PySem PySem.Spec PyProof.Rows L2
theorem Ex.at {H H1 : Hp} {a : Addr} {o : HO} (e : Ex H H1) (h : H a = some o) : H1 a = some o := e a o h
/-- what stands is not what is new -/
theorem ne_new {H : Hp} {p q : Addr} {o : HO} (h : H p = some o) (n : H q = none) : q ≠ p := fun z => by rw [z, h] at n; cases n
/-- what is refused: the error with the value -/
def Fail (E : XK) (H : Hp) (C : Addr) (v : V) : Prop := ∀ H' d, Ex H H' → H d = none → H' d = some (.xd [("value", v)]) → E (.ref C) (some d) H'
theorem Fail.ex {E : XK} {H H1 : Hp} {C : Addr} {v : V} (e : Ex H H1) (h : Fail E H C v) : Fail E H1 C v := fun H' d e1 n hd => h H' d (e.trans e1) (e.free n) hd
end M

/-! ### values shown by repr; a list of texts may grow -/
namespace M
open PySem PySem.Spec PyProof.Rows L2
theorem shown_str_le {z : List Nat} (h : okc z) : (PyData.str (S z)).shown.length ≤ 10 * z.length + 2 := by
  have := StrLaws.reprText_len (S z) fun c hc => by
    rw [S_cps] at hc
    have := h c hc
    exact Nat.lt_trans this (by decide)
  rw [S_len] at this
  simpa only [PyData.shown] using this
theorem shown_strs_sum (n : Nat) : ∀ l : List (List Nat), (∀ z ∈ l, z.length ≤ n ∧ okc z) → ((PyData.shownAll (dStrs l)).map (·.length)).sum ≤ (10 * n + 2) * l.length
  | [], _ => by simp [dStrs, PyData.shownAll]
  | z :: l, h => by
    have ih := shown_strs_sum n l fun y hy => h y (List.mem_cons_of_mem _ hy)
    have h1 := h z List.mem_cons_self
    have h2 := shown_str_le h1.2
    show ((PyData.shownAll (.str (S z) :: dStrs l)).map (·.length)).sum ≤ _
    simp only [PyData.shownAll, List.map_cons, List.sum_cons, List.length_cons, Nat.mul_add, Nat.mul_one]
    have : 10 * z.length ≤ 10 * n := by omega
    omega
theorem shownAll_len : ∀ l : List PyData, (PyData.shownAll l).length = l.length
  | [] => rfl
  | z :: l => by simp only [PyData.shownAll, List.length_cons, shownAll_len l]
theorem shown_list_le {n : Nat} {l : List (List Nat)} (h : ∀ z ∈ l, z.length ≤ n ∧ okc z) : (PyData.list (dStrs l)).shown.length ≤ (10 * n + 4) * l.length + 3 := by
  have h1 := listText_len_le (PyData.shownAll (dStrs l))
  have h2 := shown_strs_sum n l h
  rw [shownAll_len] at h1
  have h3 : (dStrs l).length = l.length := by unfold dStrs; rw [List.length_map]
  rw [h3] at h1
  simp only [PyData.shown]
  have : (10 * n + 4) * l.length = (10 * n + 2) * l.length + 2 * l.length := by rw [← Nat.add_mul]
  omega
theorem shown_tuple_le {n : Nat} {l : List (List Nat)} (h : ∀ z ∈ l, z.length ≤ n ∧ okc z) : (PyData.tuple (dStrs l)).shown.length ≤ (10 * n + 4) * l.length + 3 := by
  have h1 := tupleText_len_le (PyData.shownAll (dStrs l))
  have h2 := shown_strs_sum n l h
  rw [shownAll_len] at h1
  have h3 : (dStrs l).length = l.length := by unfold dStrs; rw [List.length_map]
  rw [h3] at h1
  simp only [PyData.shown]
  have : (10 * n + 4) * l.length = (10 * n + 2) * l.length + 2 * l.length := by rw [← Nat.add_mul]
  omega
theorem showable_strs : ∀ l : List (List Nat), PyData.showableAll (dStrs l) = true
  | [] => rfl
  | z :: l => by show PyData.showableAll (.str (S z) :: dStrs l) = true; simp only [PyData.showableAll, PyData.showable, showable_strs l, Bool.and_self]
theorem noDict_strs : ∀ l : List (List Nat), PyData.hasDictAll (dStrs l) = false
  | [] => rfl
  | z :: l => by show PyData.hasDictAll (.str (S z) :: dStrs l) = false; simp only [PyData.hasDictAll, PyData.hasDict, noDict_strs l, Bool.or_self]
end M

/-! ### texts told by repr have good signs -/
namespace M
open PySem PySem.Spec PyProof.Rows L2
def okT (x : Str) : Prop := ∀ c ∈ x.cps.toList, c < 1114112
theorem okT_strOk {x : Str} (h : okT x) : PyData.strOk x = true := by
  unfold PyData.strOk
  rw [← Array.all_toList, List.all_eq_true]
  intro c hc
  exact decide_eq_true (h c hc)
theorem char_lt (c : Char) : c.toNat < 1114112 := by
  have := c.valid
  rcases this with h | ⟨_, h⟩
  · exact Nat.lt_trans h (by decide)
  · exact h
theorem okT_app {a b : Str} (h1 : okT a) (h2 : okT b) : okT (a ++ b) := by
  intro c hc
  have e : (a ++ b).cps.toList = a.cps.toList ++ b.cps.toList := by
    show (a.cps ++ b.cps).toList = _
    simp
  rw [e] at hc
  exact (List.mem_append.mp hc).elim (h1 c) (h2 c)
theorem okT_of (s : String) : okT (Str.ofString s) := by
  intro c hc
  have e : (Str.ofString s).cps.toList = s.toList.map Char.toNat := by
    unfold Str.ofString
    rw [List.toList_toArray, cpsOfBytes_string]
  rw [e] at hc
  obtain ⟨d, _, rfl⟩ := List.mem_map.mp hc
  exact char_lt d
theorem okT_S {z : List Nat} (h : okc z) : okT (S z) := fun c hc => h c (by rw [S_cps] at hc; exact hc)
theorem hex_ok (w c : Nat) : ∀ d ∈ List.replicate (w - ((Nat.toDigits 16 c).map Char.toNat).length) 48 ++ (Nat.toDigits 16 c).map Char.toNat, d < 1114112 := fun d hd => by
  rcases List.mem_append.mp hd with h | h
  · rw [(List.mem_replicate.mp h).2]; decide
  · obtain ⟨x, _, rfl⟩ := List.mem_map.mp h
    exact char_lt x
theorem reprChar_ok (q c : Nat) (hq : q < 1114112) (hc : c < 1114112) : ∀ d ∈ Builtin.Str.reprChar q c, d < 1114112 := by
  intro d hd
  unfold Builtin.Str.reprChar at hd
  dsimp only at hd
  have h2 := hex_ok 2 c
  have h4 := hex_ok 4 c
  have h8 := hex_ok 8 c
  repeat' split at hd
  all_goals first
    | (simp only [List.mem_cons, List.not_mem_nil, or_false] at hd; omega)
    | (rcases List.mem_append.mp hd with hd | hd
       · simp only [List.mem_cons, List.not_mem_nil, or_false] at hd; omega
       · first | exact h2 d hd | exact h4 d hd | exact h8 d hd)
theorem foldl_repr_ok (q : Nat) (hq : q < 1114112) : ∀ (l : List Nat) (acc : Array Nat), (∀ c ∈ l, c < 1114112) → (∀ c ∈ acc.toList, c < 1114112) → ∀ c ∈ (l.foldl (fun out c => out ++ (Builtin.Str.reprChar q c).toArray) acc).toList, c < 1114112
  | [], acc, _, h => h
  | x :: r, acc, h1, h2 => by
    rw [List.foldl_cons]
    refine foldl_repr_ok q hq r _ (fun c hc => h1 c (List.mem_cons_of_mem _ hc)) fun c hc => ?_
    rw [Array.toList_append, List.toList_toArray] at hc
    exact (List.mem_append.mp hc).elim (h2 c) (reprChar_ok q x hq (h1 x List.mem_cons_self) c)
theorem okT_repr {x : Str} (h : okT x) : okT (reprText x) := by
  have hq : reprQuote x < 1114112 := by
    unfold reprQuote
    split <;> decide
  intro c hc
  unfold reprText at hc
  rw [← Array.foldl_toList] at hc
  simp only [Array.toList_push] at hc
  rcases List.mem_append.mp hc with hc | hc
  · exact foldl_repr_ok _ hq _ _ h (fun c hc => by rw [List.mem_singleton.mp hc]; exact hq) c hc
  · rw [List.mem_singleton.mp hc]; exact hq
theorem okT_join {s : Str} (hs : okT s) : ∀ l : List Str, (∀ x ∈ l, okT x) → okT (Str.join s l)
  | [], _ => fun c hc => by cases hc
  | [x], h => h x List.mem_cons_self
  | x :: y :: r, h => by
    have ih := okT_join hs (y :: r) fun z hz => h z (List.mem_cons_of_mem _ hz)
    show okT (x ++ s ++ Str.join s (y :: r))
    exact okT_app (okT_app (h x List.mem_cons_self) hs) ih
theorem okT_textFrom : ∀ (l : List Str) (k : Nat) (acc : Str), okT acc → (∀ x ∈ l, okT x) → okT (PySem.textFrom k acc l)
  | [], k, acc, h, _ => h
  | x :: r, k, acc, h, hl => by
    refine okT_textFrom r (k + 1) _ (okT_app (okT_app h (okT_of _)) (hl x List.mem_cons_self)) fun z hz => hl z (List.mem_cons_of_mem _ hz)
theorem okT_strs : ∀ l : List (List Nat), (∀ z ∈ l, okc z) → ∀ x ∈ PyData.shownAll (dStrs l), okT x
  | [], _ => fun x hx => by cases hx
  | z :: l, h => fun x hx => by
    have hx' : x ∈ PyData.shownAll (.str (S z) :: dStrs l) := hx
    simp only [PyData.shownAll, PyData.shown] at hx'
    rcases List.mem_cons.mp hx' with rfl | hx'
    · exact okT_repr (okT_S (h z List.mem_cons_self))
    · exact okT_strs l (fun y hy => h y (List.mem_cons_of_mem _ hy)) x hx'
theorem okT_list {l : List (List Nat)} (h : ∀ z ∈ l, okc z) : okT (PyData.list (dStrs l)).shown := by
  simp only [PyData.shown]
  exact okT_app (okT_textFrom _ 0 _ (okT_of "[") (okT_strs l h)) (okT_of "]")
theorem okT_tuple {l : List (List Nat)} (h : ∀ z ∈ l, okc z) : okT (PyData.tuple (dStrs l)).shown := by
  simp only [PyData.shown]
  exact okT_app (okT_app (okT_of "(") (okT_join (okT_of ", ") _ (okT_strs l h))) (okT_of _)
end M

namespace M
open PySem PySem.Spec PyProof.Rows L2
/-- what is shown: a value that stays, or a list of at most n texts that may grow -/
inductive Bd (K : PySem.W.Frag) (n : Nat) (H : Hp) : V → List Addr → PyData → Prop
  | st {v : V} {d : PyData} : (∀ H', Ex H H' → Sh K H' v d) → d.showable = true → d.depth ≤ 64 → d.shown.length ≤ sizeLine → okT d.shown → (∀ (H' : Hp) (Q : VK), Ex H H' → Q (.bl false) H' → mIsi K [v, .ty "list"] H' Q) → Bd K n H v [] d
  | ls {p : Addr} {l : List (List Nat)} : H p = some (.lst (tx l)) → l.length ≤ n → (∀ z ∈ l, z.length ≤ 1000 ∧ okc z) → Bd K n H (.ref p) [p] (.list (dStrs l))
theorem Bd.ex {K : PySem.W.Frag} {n : Nat} {H H' : Hp} {v : V} {m : List Addr} {d : PyData} (e : Ex H H') (h : Bd K n H v m d) : Bd K n H' v m d := by
  cases h with
  | st h1 h2 h3 h4 h6 h5 => exact .st (fun H2 e2 => h1 H2 (e.trans e2)) h2 h3 h4 h6 fun H2 Q e2 => h5 H2 Q (e.trans e2)
  | ls h1 h2 h3 => exact .ls (e _ _ h1) h2 h3
theorem Bd.mono {K : PySem.W.Frag} {n k : Nat} {H : Hp} {v : V} {m : List Addr} {d : PyData} (hk : n ≤ k) (h : Bd K n H v m d) : Bd K k H v m d := by
  cases h with
  | st h1 h2 h3 h4 h6 h5 => exact .st h1 h2 h3 h4 h6 h5
  | ls h1 h2 h3 => exact .ls h1 (by omega) h3
theorem Bd.shows {K : PySem.W.Frag} {n : Nat} {H : Hp} {v : V} {m : List Addr} {d : PyData} (h : Bd K n H v m d) (hn : n ≤ 1000) : Sh K H v d ∧ d.showable = true ∧ d.depth ≤ 64 ∧ d.shown.length ≤ sizeLine ∧ okT d.shown := by
  cases h with
  | st h1 h2 h3 h4 h6 h5 => exact ⟨h1 H (Ex.refl H), h2, h3, h4, h6⟩
  | @ls p l h1 h2 h3 =>
    have := shown_list_le h3
    refine ⟨.dp (.lst (SqL.of h1) (dp_strs l)) (by simpa only [PyData.hasDict] using noDict_strs l), by simpa only [PyData.showable] using showable_strs l, by simp only [PyData.depth, dep_strs]; decide, ?_, okT_list fun z hz => (h3 z hz).2⟩
    have h4 : (10 * 1000 + 4) * l.length ≤ (10 * 1000 + 4) * 1000 := Nat.mul_le_mul_left _ (by omega)
    rw [szl]; omega
section
variable {K : PySem.W.Frag} {n : Nat} {H : Hp}
theorem Bd.non : Bd K n H .non [] .none := .st (fun _ _ => .dp .non rfl) rfl (by decide) (by decide +kernel) (okT_of "None") fun H' Q _ q => by unfold mIsi; simp only [tyN, kb19]; exact q
theorem Bd.int (i : Int) (h1 : (PyData.int i).showable = true) (h2 : (PyData.int i).shown.length ≤ sizeLine) : Bd K n H (.int i) [] (.int i) := .st (fun _ _ => .dp (.int i) rfl) h1 (by simp only [PyData.depth]; decide) h2 (by simp only [PyData.shown]; exact okT_of _) fun H' Q _ q => by unfold mIsi; simp only [tyN, kb9]; exact q
theorem Bd.bl (b : Bool) : Bd K n H (.bl b) [] (.bool b) := .st (fun _ _ => .dp (.bl b) rfl) rfl (by simp only [PyData.depth]; decide) (by cases b <;> decide +kernel) (by simp only [PyData.shown]; cases b <;> exact okT_of _) fun H' Q _ q => by unfold mIsi; simp only [tyN, kb14]; exact q
theorem Bd.str {z : List Nat} (hz : okc z) (hl : z.length ≤ 1000000) : Bd K n H (.str (S z)) [] (.str (S z)) := .st (fun _ _ => .dp (.str _) rfl) rfl (by simp only [PyData.depth]; decide) (by have := shown_str_le hz; rw [szl]; omega) (by simp only [PyData.shown]; exact okT_repr (okT_S hz)) fun H' Q _ q => by unfold mIsi; simp only [tyN, kb4]; exact q
theorem Bd.tup {a : Addr} {l : List (List Nat)} (h : SqT K H a (tx l)) (hl : l.length ≤ 1000) (h3 : ∀ z ∈ l, z.length ≤ 1000 ∧ okc z) : Bd K n H (.ref a) [] (.tuple (dStrs l)) :=
  .st (fun _ e => .dp (.tup (e.T h) (dp_strs l)) (by simpa only [PyData.hasDict] using noDict_strs l)) (by simpa only [PyData.showable] using showable_strs l) (by simp only [PyData.depth, dep_strs]; decide) (by
    have := shown_tuple_le h3
    have h4 : (10 * 1000 + 4) * l.length ≤ (10 * 1000 + 4) * 1000 := Nat.mul_le_mul_left _ (by omega)
    rw [szl]; omega) (okT_tuple fun z hz => (h3 z hz).2) fun H' Q e q => ⟨_, _, tyX_tup (e.T h), ki_tup.2.2.2.1, q⟩
theorem Bd.dct {a : Addr} (h : H a = some (.dK [])) : Bd K n H (.ref a) [] (.dict []) := .st (fun _ e => .dct (e _ _ h) rfl) rfl (by decide) (by decide +kernel) (okT_app (okT_app (okT_of "{") (okT_join (okT_of ", ") _ fun x hx => by cases hx)) (okT_of "}")) fun H' Q e q => ⟨_, _, .base (.dK (e _ _ h)), ki_dict.2.2.2.1, q⟩
end
/-- a bad value shown stays one -/
theorem Bd.fm {K : PySem.W.Frag} {n k : Nat} {H H' : Hp} {v : V} {m : List Addr} {d d' : PyData} (h : Bd K n H v m d) (f : Fm m H H') (h' : Bd K k H' v m d') : Ex H H' ∨ ∃ p xs, v = .ref p ∧ m = [p] ∧ SqL K H' p xs := by
  cases h with
  | st => exact .inl (Fm.nil f)
  | ls => cases h' with
    | ls h1 => exact .inr ⟨_, _, rfl, rfl, SqL.of h1⟩
/-- lists [b, c, text] compared -/
theorem eq_bbs {K : PySem.W.Frag} {neg : Bool} {H : Hp} {Q : VK} {p q : Addr} {b c : Bool} {x : Str} (h1 : SqL K H p [.bl b, .bl c, .str x]) (h2 : SqL K H q [.bl b, .bl c, .str x]) (hx : okT x) (k : Q (.bl (!neg)) H) : rEqW K neg (.ref p) (.ref q) H Q := by
  have lay : (PyData.list [.bool b, .bool c, .str x]).canLay0 = true := by simp only [PyData.canLay0, PyData.canLayAll0, okT_strOk hx, Bool.and_self]
  have dp : ∀ {r : Addr}, SqL K H r [.bl b, .bl c, .str x] → Dp K H (.ref r) (.list [.bool b, .bool c, .str x]) := fun h => .lst h (.cons (.bl b) (.cons (.bl c) (.cons (.str x) .nil)))
  refine ⟨_, _, dp h1, dp h2, lay, lay, by simp only [PyData.depth, PyData.depthAll]; decide, ?_⟩
  have e : PyData.eqv (.list [.bool b, .bool c, .str x]) (.list [.bool b, .bool c, .str x]) = true := by simp [PyData.eqv, PyData.eqvAll]
  rw [e]
  cases neg <;> exact k
end M

/-! ### bad values in a row, each of them a list that may grow -/
namespace M
open PySem PySem.Spec PyProof.Rows L2
def gdL (l : List (List Nat)) : Prop := ∀ z ∈ l, z.length ≤ 1000 ∧ okc z
inductive Bw (K : PySem.W.Frag) (n : Nat) (H : Hp) : V → Prop
  | non : Bw K n H .non
  | int {i : Int} : (PyData.int i).showable = true → (PyData.int i).shown.length ≤ sizeLine → Bw K n H (.int i)
  | bl (b : Bool) : Bw K n H (.bl b)
  | str {z : List Nat} : okc z → z.length ≤ 1000000 → Bw K n H (.str (S z))
  | lst {p : Addr} {l : List (List Nat)} : H p = some (.lst (tx l)) → l.length ≤ n → gdL l → Bw K n H (.ref p)
  | tup {p : Addr} {l : List (List Nat)} : H p = some (.tup (tx l)) → l.length ≤ 1000 → gdL l → Bw K n H (.ref p)
  | dct {p : Addr} : H p = some (.dK []) → Bw K n H (.ref p)
theorem Bw.bd {K : PySem.W.Frag} {n : Nat} {H : Hp} {w : V} (h : Bw K n H w) : ∃ m d, Bd K n H w m d ∧ ∀ p ∈ m, w = .ref p := by
  cases h with
  | non => exact ⟨_, _, .non, fun p h => by cases h⟩
  | int h1 h2 => exact ⟨_, _, .int _ h1 h2, fun p h => by cases h⟩
  | bl b => exact ⟨_, _, .bl b, fun p h => by cases h⟩
  | str h1 h2 => exact ⟨_, _, .str h1 h2, fun p h => by cases h⟩
  | lst h1 h2 h3 => exact ⟨_, _, .ls h1 h2 h3, fun p h => by rw [List.mem_singleton.mp h]⟩
  | tup h1 h2 h3 => exact ⟨_, _, .tup (SqT.of h1) h2 h3, fun p h => by cases h⟩
  | dct h1 => exact ⟨_, _, .dct h1, fun p h => by cases h⟩
theorem Bw.ex {K : PySem.W.Frag} {n : Nat} {H H' : Hp} {w : V} (e : Ex H H') (h : Bw K n H w) : Bw K n H' w := by
  cases h with
  | non => exact .non
  | int h1 h2 => exact .int h1 h2
  | bl b => exact .bl b
  | str h1 h2 => exact .str h1 h2
  | lst h1 h2 h3 => exact .lst (e _ _ h1) h2 h3
  | tup h1 h2 h3 => exact .tup (e _ _ h1) h2 h3
  | dct h1 => exact .dct (e _ _ h1)
theorem Bw.step {K : PySem.W.Frag} {n k : Nat} {H H' : Hp} {v w : V} {m : List Addr} {d d' : PyData} (h : Bw K n H w) (bd : Bd K n H v m d) (f : Fm m H H') (bd' : Bd K k H' v m d') (hk : n ≤ k) : Bw K k H' w := by
  have at_ : ∀ {p : Addr} {o : HO}, H p = some o → (∀ l, o ≠ .lst (tx l)) → H' p = some o := fun {p o} h n => by
    refine f p o (fun hp => ?_) h
    cases bd with
    | st => cases hp
    | ls h1 => rw [List.mem_singleton.mp hp, h1] at h; cases h; exact n _ rfl
  cases h with
  | non => exact .non
  | int h1 h2 => exact .int h1 h2
  | bl b => exact .bl b
  | str h1 h2 => exact .str h1 h2
  | @lst p l h1 h2 h3 =>
    by_cases hp : p ∈ m
    · cases bd' with
      | st => cases hp
      | ls g1 g2 g3 => rw [List.mem_singleton.mp hp]; exact .lst g1 g2 g3
    · exact .lst (f p _ hp h1) (by omega) h3
  | tup h1 h2 h3 => exact .tup (at_ h1 fun l z => by cases z) h2 h3
  | dct h1 => exact .dct (at_ h1 fun l z => by cases z)
/-- the addresses of a value -/
def rf : V → List Addr
  | .ref p => [p]
  | _ => []
theorem rf_mem {v : V} {p : Addr} : p ∈ rf v ↔ v = .ref p := by
  cases v <;> simp [rf, eq_comm]
theorem Bw.stp {K : PySem.W.Frag} {n k : Nat} {H H' : Hp} {v w : V} (h : Bw K n H w) (f : Fm (rf v) H H') (b : Bw K k H' v) (hk : n ≤ k) : Bw K k H' w := by
  have at_ : ∀ {p : Addr} {o : HO}, H p = some o → v ≠ .ref p → H' p = some o := fun {p o} h n => f p o (fun hp => n (rf_mem.mp hp)) h
  cases h with
  | non => exact .non
  | int h1 h2 => exact .int h1 h2
  | bl b => exact .bl b
  | str h1 h2 => exact .str h1 h2
  | @lst p l h1 h2 h3 =>
    by_cases e : v = .ref p
    · rw [← e]; exact b
    · exact .lst (at_ h1 e) (by omega) h3
  | @tup p l h1 h2 h3 =>
    by_cases e : v = .ref p
    · rw [← e]; exact b
    · exact .tup (at_ h1 e) h2 h3
  | @dct p h1 =>
    by_cases e : v = .ref p
    · rw [← e]; exact b
    · exact .dct (at_ h1 e)
theorem SqL.fm {K : PySem.W.Frag} {H H' : Hp} {m : List Addr} {q : Addr} {xs : List V} (hq : q ∉ m) (f : Fm m H H') (hL : SqL K H q xs) : SqL K H' q xs := by
  rcases hL with h | h
  · rcases h with h | ⟨o, h⟩
    · exact .inl (.inl (f _ _ hq h))
    · exact .inl (.inr ⟨o, f _ _ hq h⟩)
  · exact .inr h
theorem Fm.mono {a b : List Addr} {H H' : Hp} (h : ∀ x ∈ a, x ∈ b) (f : Fm a H H') : Fm b H H' := fun x o n => f x o fun y => n (h x y)
theorem Tr.s_okc : ∀ t : Tr, okc t.s
  | .lf => fun c h => by rw [List.mem_singleton.mp h]; decide
  | .nd a b => fun c h => by
    simp only [Tr.s, List.mem_cons, List.mem_append, List.not_mem_nil, or_false] at h
    rcases h with rfl | h | h | rfl
    · decide
    · exact Tr.s_okc a c h
    · exact Tr.s_okc b c h
    · decide
/-- what is new may change -/
theorem Fm.exN {m : List Addr} {H H1 H2 : Hp} (e : Ex H H1) (n : ∀ p ∈ m, H p = none) (f : Fm m H1 H2) : Ex H H2 := fun a o h => f a o (fun z => by rw [n a z] at h; cases h) (e a o h)
end M

/-! ### roads and parts -/
namespace M
open PySem PySem.Spec PyProof.Rows L2
theorem isAd_app {a b : List Nat} (h1 : isAd a = true) (h2 : isAd b = true) : isAd (a ++ b) = true := by
  unfold isAd at h1 h2 ⊢
  rw [decide_eq_true_eq] at h1 h2 ⊢
  exact fun c hc => (List.mem_append.mp hc).elim (h1 c) (h2 c)
theorem Tr.att_app : ∀ (a b : List Nat) (t : Tr), t.att (a ++ b) = (t.att a).bind fun u => u.att b
  | [], b, t => by rw [Tr.att_nil]; rfl
  | c :: a, b, .lf => rfl
  | c :: a, b, .nd l r => by
    show (if c = 114 then r.att (a ++ b) else l.att (a ++ b)) = (if c = 114 then r.att a else l.att a).bind _
    split
    · exact Tr.att_app a b r
    · exact Tr.att_app a b l
theorem lvs_att : ∀ (t : Tr) (r z : List Nat), z ∈ t.lvs r → ∃ s, z = r ++ s ∧ isAd s = true ∧ t.att s = some .lf
  | .lf, r, z, h => ⟨[], by rw [List.mem_singleton.mp h]; simp, rfl, rfl⟩
  | .nd a b, r, z, h => by
    rcases List.mem_append.mp h with h | h
    · obtain ⟨s, e, h1, h2⟩ := lvs_att a _ z h
      exact ⟨108 :: s, by rw [e]; simp, isAd_app (a := [108]) (by decide) h1, h2⟩
    · obtain ⟨s, e, h1, h2⟩ := lvs_att b _ z h
      exact ⟨114 :: s, by rw [e]; simp, isAd_app (a := [114]) (by decide) h1, h2⟩
theorem nds_att : ∀ (t : Tr) (r z : List Nat), z ∈ t.nds r → ∃ s a b, z = r ++ s ∧ isAd s = true ∧ t.att s = some (.nd a b)
  | .lf, r, z, h => by cases h
  | .nd a b, r, z, h => by
    rcases List.mem_append.mp h with h | h
    · obtain ⟨s, x, y, e, h1, h2⟩ := nds_att a _ z h
      exact ⟨108 :: s, x, y, by rw [e]; simp, isAd_app (a := [108]) (by decide) h1, h2⟩
    · rcases List.mem_append.mp h with h | h
      · exact ⟨[], a, b, by rw [List.mem_singleton.mp h]; simp, rfl, rfl⟩
      · obtain ⟨s, x, y, e, h1, h2⟩ := nds_att b _ z h
        exact ⟨114 :: s, x, y, by rw [e]; simp, isAd_app (a := [114]) (by decide) h1, h2⟩
theorem lvs_off {t : Tr} {z w : List Nat} (h : t.att z = some .lf) (hw : w ≠ []) : t.att (z ++ w) = none := by
  rw [Tr.att_app, h]
  cases w with
  | nil => exact absurd rfl hw
  | cons c w => rfl
/-- the tuples of a nest are no list -/
theorem Nst.fm {K : PySem.W.Frag} {m : List Addr} {H H' : Hp} {v : V} {t : Tr} (hm : ∀ p ∈ m, H p = none ∨ ∃ xs, H p = some (.lst xs)) (f : Fm m H H') (h : Nst K H v t) : Nst K H' v t := by
  have T : ∀ {a : Addr} {xs : List V}, SqT K H a xs → SqT K H' a xs := fun {a xs} h => by
    have no : ∀ {o : HO}, H a = some o → (∀ ys, o ≠ .lst ys) → H' a = some o := fun {o} e n => f a o (fun z => by
      rcases hm a z with w | ⟨ys, w⟩
      · rw [w] at e; cases e
      · rw [w] at e; cases e; exact n _ rfl) e
    rcases h with h | h
    · rcases h with h | ⟨o, h⟩
      · exact .inl (.inl (no h fun _ z => by cases z))
      · exact .inl (.inr ⟨o, no h fun _ z => by cases z⟩)
    · exact .inr h
  induction h with
  | lf h => exact .lf (T h)
  | nd h _ _ i1 i2 => exact .nd (T h) i1 i2
theorem Pu.fmo {H H1 : Hp} {g : Addr} {n : Nat} {m : List Addr} (h : g ∉ m) (e : Fm m H H1) (p : Pu H g n) : Pu H1 g n := by
  obtain ⟨a, b, c, h1, r⟩ := p
  exact ⟨a, b, c, e _ _ h h1, r⟩
theorem isTr_dot (t : Tr) : isTr (t.s ++ [46]) = false := by
  unfold isTr
  rw [itRun_app, itRun_tree]
  rfl
theorem Fm.exg {H H1 H2 : Hp} {g : Addr} (e : Ex H H1) (n : H g = none) (f : Fm [g] H1 H2) : Ex H H2 := Fm.exN e (fun p hp => by rw [List.mem_singleton.mp hp]; exact n) f
theorem Pu.lst {H : Hp} {g : Addr} {n : Nat} (p : Pu H g n) : ∃ xs, H g = some (.lst xs) := by
  obtain ⟨a, b, c, h1, r⟩ := p
  exact ⟨_, h1⟩
theorem Pu.ne {H : Hp} {g p : Addr} {n : Nat} (h : Pu H g n) (hp : H p = none) : p ≠ g := fun z => by
  obtain ⟨_, _, _, z1, _⟩ := h
  rw [z, z1] at hp; cases hp
end M

/-! ### a refusal that is caught; values that are shown and stay -/
namespace M
open PySem PySem.Spec PyProof.Rows L2
theorem fin_go {K : PySem.W.Frag} {aT C : Addr} {i j : Nat} {D : Ends} {σ : Sl} {H : Hp} {v : V} (x1 : PySem.W.exmOne K (.ref C) (.ref aT) = some true)
    (k : ∀ (a dd : Addr) (H' : Hp), Ex H H' → H' a = some (exk a (.ref C) (some dd)) → H' dd = some (.xd [("value", v)]) → H a = none → H dd = none → D.nx ((σ.set j (some (.ref a))).set i none) H') : Fail (WE (wK K (.ref aT) i j D) σ) H C v := fun H' dd e nd hd =>
  ⟨x1, fun a na => k a dd _ (e.push na) upd_same (Ex.new na _ _ hd) (e.free na) nd⟩
theorem okT_none : okT (PyData.none).shown := okT_of "None"
theorem okT_dct : okT (PyData.dict []).shown := okT_app (okT_app (okT_of "{") (okT_join (okT_of ", ") [] fun x hx => by cases hx)) (okT_of "}")
theorem okT_int (i : Int) : okT (PyData.int i).shown := by simp only [PyData.shown]; exact okT_of _
theorem okT_bl (b : Bool) : okT (PyData.bool b).shown := by simp only [PyData.shown]; cases b <;> exact okT_of _
theorem okT_str {z : List Nat} (h : okc z) : okT (PyData.str (S z)).shown := by simp only [PyData.shown]; exact okT_repr (okT_S h)
/-- a value that stays, and is shown -/
def Sv (K : PySem.W.Frag) (H : Hp) (v : V) (d : PyData) : Prop := (∀ H', Ex H H' → Sh K H' v d) ∧ d.showable = true ∧ d.depth ≤ 64 ∧ d.shown.length ≤ sizeLine
theorem Sv.ex {K : PySem.W.Frag} {H H' : Hp} {v : V} {d : PyData} (e : Ex H H') (h : Sv K H v d) : Sv K H' v d := ⟨fun H2 e2 => h.1 H2 (e.trans e2), h.2⟩
section
variable {K : PySem.W.Frag} {H : Hp}
theorem Sv.non : Sv K H .non .none := ⟨fun _ _ => .dp .non rfl, rfl, by decide, by decide +kernel⟩
theorem Sv.int (i : Int) (h1 : (PyData.int i).showable = true) (h2 : (PyData.int i).shown.length ≤ sizeLine) : Sv K H (.int i) (.int i) := ⟨fun _ _ => .dp (.int i) rfl, h1, by simp only [PyData.depth]; decide, h2⟩
theorem Sv.bl (b : Bool) : Sv K H (.bl b) (.bool b) := ⟨fun _ _ => .dp (.bl b) rfl, rfl, by simp only [PyData.depth]; decide, by cases b <;> decide +kernel⟩
theorem Sv.str {z : List Nat} (hz : okc z) (hl : z.length ≤ 1000000) : Sv K H (.str (S z)) (.str (S z)) := ⟨fun _ _ => .dp (.str _) rfl, rfl, by simp only [PyData.depth]; decide, by have := shown_str_le hz; rw [szl]; omega⟩
theorem Sv.dct {a : Addr} (h : H a = some (.dK [])) : Sv K H (.ref a) (.dict []) := ⟨fun _ e => .dct (e _ _ h) rfl, rfl, by decide, by decide +kernel⟩
theorem Sv.lst {a : Addr} {xs : List V} {ds : List PyData} (h : SqL K H a xs) (hd : ∀ H', Ex H H' → DpAll K H' xs ds) (h1 : (PyData.list ds).hasDict = false) (h2 : (PyData.list ds).showable = true) (h3 : (PyData.list ds).depth ≤ 64) (h4 : (PyData.list ds).shown.length ≤ sizeLine) : Sv K H (.ref a) (.list ds) :=
  ⟨fun H' e => .dp (.lst (e.L h) (hd H' e)) h1, h2, h3, h4⟩
theorem Sv.tup {a : Addr} {xs : List V} {ds : List PyData} (h : SqT K H a xs) (hd : ∀ H', Ex H H' → DpAll K H' xs ds) (h1 : (PyData.tuple ds).hasDict = false) (h2 : (PyData.tuple ds).showable = true) (h3 : (PyData.tuple ds).depth ≤ 64) (h4 : (PyData.tuple ds).shown.length ≤ sizeLine) : Sv K H (.ref a) (.tuple ds) :=
  ⟨fun H' e => .dp (.tup (e.T h) (hd H' e)) h1, h2, h3, h4⟩
end
end M

/-! ### all trees of a size, in a row; rows in order -/
namespace M
open PySem PySem.Spec PyProof.Rows L2
def ndS (a b : List Nat) : List Nat := 40 :: (a ++ (b ++ [41]))
def prodS (A B : List (List Nat)) : List (List Nat) := A.flatMap fun a => B.map fun b => ndS a b
def mkL (F : List (List (List Nat))) (c : Nat) : List (List Nat) := (List.range c).flatMap fun l => prodS (F.getD l []) (F.getD (c - 1 - l) [])
def levs : Nat → List (List (List Nat))
  | 0 => [[[46]]]
  | n + 1 => levs n ++ [mkL (levs n) (n + 1)]
def lev (n : Nat) : List (List Nat) := (levs n).getD n []
theorem levs_len : ∀ n, (levs n).length = n + 1
  | 0 => rfl
  | n + 1 => by simp [levs, levs_len n]
theorem levs_get : ∀ n i, i ≤ n → (levs n).getD i [] = lev i
  | 0, i, h => by obtain rfl : i = 0 := by omega
                  rfl
  | n + 1, i, h => by
    by_cases e : i = n + 1
    · subst e; rfl
    · have := levs_get n i (by omega)
      rw [← this, levs, List.getD_eq_getElem?_getD, List.getD_eq_getElem?_getD, List.getElem?_append_left (by rw [levs_len]; omega)]
theorem lev_succ (n : Nat) : lev (n + 1) = mkL (levs n) (n + 1) := by
  unfold lev
  rw [levs, List.getD_eq_getElem?_getD, List.getElem?_append_right (by rw [levs_len]; exact Nat.le_refl _), levs_len]
  simp
theorem lev_mem : ∀ t : Tr, t.s ∈ lev t.n
  | .lf => by simp [Tr.s, Tr.n, lev, levs]
  | .nd a b => by
    have ha := lev_mem a
    have hb := lev_mem b
    show ndS a.s b.s ∈ lev (a.n + b.n + 1)
    rw [lev_succ]
    refine List.mem_flatMap.mpr ⟨a.n, List.mem_range.mpr (by omega), List.mem_flatMap.mpr ⟨a.s, ?_, List.mem_map.mpr ⟨b.s, ?_, rfl⟩⟩⟩
    · rw [levs_get _ _ (by omega)]; exact ha
    · rw [levs_get _ _ (by omega), show a.n + b.n + 1 - 1 - a.n = b.n by omega]; exact hb
theorem lev_tree : ∀ n i, i ≤ n → ∀ z ∈ lev i, ∃ t : Tr, z = t.s ∧ t.n = i
  | 0, i, h, z, hz => by
    obtain rfl : i = 0 := by omega
    exact ⟨.lf, List.mem_singleton.mp hz, rfl⟩
  | n + 1, i, h, z, hz => by
    by_cases e : i = n + 1
    · subst e
      rw [lev_succ] at hz
      obtain ⟨l, hl, h1⟩ := List.mem_flatMap.mp hz
      obtain ⟨a, h2, h3⟩ := List.mem_flatMap.mp h1
      obtain ⟨b, h4, rfl⟩ := List.mem_map.mp h3
      have hl' := List.mem_range.mp hl
      rw [levs_get _ _ (by omega)] at h2 h4
      obtain ⟨t, rfl, ht⟩ := lev_tree n l (by omega) a h2
      obtain ⟨u, rfl, hu⟩ := lev_tree n (n + 1 - 1 - l) (by omega) b h4
      exact ⟨.nd t u, rfl, by show t.n + u.n + 1 = n + 1; omega⟩
    · exact lev_tree n i (by omega) z hz
theorem lev_few {i : Nat} (h : i ≤ 8) : (lev i).length ≤ 1430 := by
  have e : ((levs 8).all fun L => decide (L.length ≤ 1430)) = true := by decide +kernel
  rw [List.all_eq_true] at e
  rw [← levs_get 8 i h, List.getD_eq_getElem?_getD, List.getElem?_eq_getElem (by rw [levs_len]; omega)]
  exact of_decide_eq_true (e _ (List.getElem_mem _))
theorem prodS_len (A B : List (List Nat)) : (prodS A B).length = A.length * B.length := by
  unfold prodS
  induction A with
  | nil => simp
  | cons a A ih => rw [List.flatMap_cons, List.length_append, ih, List.length_map, List.length_cons, Nat.add_mul]; omega
theorem flat_perm {α β : Type} {f g : α → List β} : ∀ l : List α, (∀ x ∈ l, (f x).Perm (g x)) → (l.flatMap f).Perm (l.flatMap g)
  | [], _ => .refl _
  | x :: l, h => by
    rw [List.flatMap_cons, List.flatMap_cons]
    exact (h x List.mem_cons_self).append (flat_perm l fun y hy => h y (List.mem_cons_of_mem _ hy))
theorem prodS_perm {A A' B B' : List (List Nat)} (h1 : A.Perm A') (h2 : B.Perm B') : (prodS A B).Perm (prodS A' B') :=
  (h1.flatMap_right _).trans (flat_perm A' fun a _ => h2.map _)
theorem mkL_perm {F G : List (List (List Nat))} {c : Nat} (h : ∀ i < c, (F.getD i []).Perm (G.getD i [])) : (mkL F c).Perm (mkL G c) :=
  flat_perm _ fun l hl => by
    have := List.mem_range.mp hl
    exact prodS_perm (h l this) (h (c - 1 - l) (by omega))
/-! rows in order -/
theorem perm_eq {α : Type} {le : α → α → Prop} (anti : ∀ a b, le a b → le b a → a = b) : ∀ {l m : List α}, l.Pairwise le → m.Pairwise le → l.Perm m → l = m
  | [], m, _, _, h => (List.Perm.nil_eq h)
  | a :: l, [], _, _, h => absurd h.symm.nil_eq (by simp)
  | a :: l, b :: m, hl, hm, h => by
    have e : a = b := by
      have ha : a ∈ b :: m := h.mem_iff.mp List.mem_cons_self
      have hb : b ∈ a :: l := h.mem_iff.mpr List.mem_cons_self
      rcases List.mem_cons.mp ha with e | ha
      · exact e
      rcases List.mem_cons.mp hb with e | hb
      · exact e.symm
      exact anti a b ((List.pairwise_cons.mp hl).1 b hb) ((List.pairwise_cons.mp hm).1 a ha)
    subst e
    rw [perm_eq anti (List.pairwise_cons.mp hl).2 (List.pairwise_cons.mp hm).2 (List.Perm.cons_inv h)]
def leS (a b : Str) : Prop := a.cps.toList ≤ b.cps.toList
theorem ltCps_eq : ∀ a b : List Nat, ltCps a b = decide (a < b)
  | [], [] => rfl
  | [], b :: t => by simp [ltCps]
  | a :: r, [] => by simp [ltCps]
  | a :: r, b :: t => by
    show (decide (a < b) || (a == b && ltCps r t)) = _
    rw [ltCps_eq r t, Bool.eq_iff_iff]
    simp [List.cons_lt_cons_iff]
theorem rising_pair : ∀ (l : List Str) (p : Str), risingS p l = true → (∀ x ∈ l, leS p x) ∧ l.Pairwise leS
  | [], p, _ => ⟨fun x h => (by cases h), List.Pairwise.nil⟩
  | x :: r, p, h => by
    have h' : (!ltCps x.cps.toList p.cps.toList && risingS x r) = true := h
    rw [Bool.and_eq_true] at h'
    obtain ⟨h1, h2⟩ := rising_pair r x h'.2
    have h3 : leS p x := by
      have := h'.1
      unfold leS
      rw [ltCps_eq] at this
      simpa using this
    exact ⟨fun y hy => by
      rcases List.mem_cons.mp hy with rfl | hy
      · exact h3
      · exact List.le_trans h3 (h1 y hy), List.pairwise_cons.mpr ⟨h1, h2⟩⟩
theorem sortedS_eq {l m : List Str} (h1 : sortedS l = true) (h2 : sortedS m = true) (h : l.Perm m) : l = m := by
  have pw : ∀ {l : List Str}, sortedS l = true → l.Pairwise leS := fun {l} h => by
    cases l with
    | nil => exact .nil
    | cons x r =>
      obtain ⟨a, b⟩ := rising_pair r x h
      exact List.pairwise_cons.mpr ⟨a, b⟩
  refine perm_eq (fun a b h1 h2 => ?_) (pw h1) (pw h2) h
  have e := List.le_antisymm h1 h2
  rw [← S_of a, ← S_of b, e]
/-- a sorted row of texts, as codes -/
theorem row_of {ys : List Str} {L : List (List Nat)} (h : ys.Perm (L.map S)) : ∃ M : List (List Nat), ys = M.map S ∧ M.Perm L := by
  refine ⟨ys.map (·.cps.toList), ?_, ?_⟩
  · rw [List.map_map]
    have : (S ∘ fun x : Str => x.cps.toList) = id := by funext x; exact S_of x
    rw [this, List.map_id]
  · have := h.map (·.cps.toList)
    rw [List.map_map] at this
    have e : ((fun x : Str => x.cps.toList) ∘ S) = id := by funext x; exact S_cps x
    rw [e, List.map_id] at this
    exact this
theorem map_S_inj {L M : List (List Nat)} (h : L.map S = M.map S) : L = M := by
  have := congrArg (List.map fun x : Str => x.cps.toList) h
  rw [List.map_map, List.map_map] at this
  have e : ((fun x : Str => x.cps.toList) ∘ S) = id := by funext x; exact S_cps x
  rw [e, List.map_id, List.map_id] at this
  exact this
end M

/-! ### data that may be shown; trees, addresses, steps and scripts among data -/
namespace M
open PySem PySem.Spec PyProof.Rows L2
mutual
def okD : PyData → Bool
  | .none | .bool _ => true
  | .int i => decide (i.natAbs.log2 < 1920)
  | .str z => decide (z.length ≤ 1000000) && z.cps.all fun c => decide (c < 1114112)
  | .list xs | .tuple xs => okDs xs
  | .dict kvs => kvs.isEmpty
def okDs : List PyData → Bool
  | [] => true
  | x :: xs => okD x && okDs xs
end
mutual
def wt : PyData → Nat
  | .none | .bool _ => 5
  | .int i => (PyData.int i).shown.length
  | .str z => 10 * z.length + 2
  | .list xs | .tuple xs => wts xs + 3
  | .dict _ => 2
def wts : List PyData → Nat
  | [] => 0
  | x :: xs => wt x + 2 + wts xs
end
theorem okD_str {z : List Nat} : okD (.str (S z)) = true ↔ z.length ≤ 1000000 ∧ okc z := by
  have e : ((S z).cps.all fun c => decide (c < 1114112)) = true ↔ okc z := by simp [S, okc]
  simp only [okD, S_len, Bool.and_eq_true, decide_eq_true_eq, e]
theorem okDs_mem : ∀ {l : List PyData}, okDs l = true ↔ ∀ d ∈ l, okD d = true
  | [] => by simp [okDs]
  | x :: l => by simp only [okDs, Bool.and_eq_true, List.mem_cons, forall_eq_or_imp, okDs_mem]
mutual
theorem okD_show : ∀ d : PyData, okD d = true → d.showable = true
  | .none, _ => rfl
  | .bool _, _ => rfl
  | .str _, _ => rfl
  | .int i, h => by simpa only [PyData.showable, okD] using h
  | .list xs, h => by simpa only [PyData.showable] using okDs_show xs (by simpa only [okD] using h)
  | .tuple xs, h => by simpa only [PyData.showable] using okDs_show xs (by simpa only [okD] using h)
  | .dict kvs, h => by
    have : kvs = [] := by simpa [okD] using h
    subst this; rfl
theorem okDs_show : ∀ d : List PyData, okDs d = true → PyData.showableAll d = true
  | [], _ => rfl
  | x :: xs, h => by
    simp only [okDs, Bool.and_eq_true] at h
    simp only [PyData.showableAll, okD_show x h.1, okDs_show xs h.2, Bool.and_self]
end
mutual
theorem okD_T : ∀ d : PyData, okD d = true → okT d.shown
  | .none, _ => okT_of "None"
  | .bool b, _ => by simp only [PyData.shown]; cases b <;> exact okT_of _
  | .str z, h => by
    obtain ⟨l, rfl⟩ := S_def z
    simp only [PyData.shown]; exact okT_repr (okT_S (okD_str.mp h).2)
  | .int i, h => by simp only [PyData.shown]; exact okT_of _
  | .list xs, h => by
    simp only [PyData.shown]
    exact okT_app (okT_textFrom _ 0 _ (okT_of "[") (okDs_T xs (by simpa only [okD] using h))) (okT_of "]")
  | .tuple xs, h => by
    simp only [PyData.shown]
    have := okDs_T xs (by simpa only [okD] using h)
    exact okT_app (okT_app (okT_of "(") (okT_join (okT_of ", ") _ this)) (okT_of _)
  | .dict kvs, h => by
    have : kvs = [] := by simpa [okD] using h
    subst this; exact okT_dct
theorem okDs_T : ∀ d : List PyData, okDs d = true → ∀ x ∈ PyData.shownAll d, okT x
  | [], _, x, hx => by cases hx
  | d :: xs, h, x, hx => by
    simp only [okDs, Bool.and_eq_true] at h
    simp only [PyData.shownAll] at hx
    rcases List.mem_cons.mp hx with rfl | hx
    · exact okD_T d h.1
    · exact okDs_T xs h.2 x hx
end
mutual
theorem okD_len : ∀ d : PyData, okD d = true → d.shown.length ≤ wt d
  | .none, _ => by decide
  | .bool b, _ => by cases b <;> decide
  | .str z, h => by
    obtain ⟨l, rfl⟩ := S_def z
    have := shown_str_le (okD_str.mp h).2
    simp only [wt, S_len]; exact this
  | .int i, h => by simp only [wt]; exact Nat.le_refl _
  | .list xs, h => by
    have h1 := listText_len_le (PyData.shownAll xs)
    have h2 := okDs_len xs (by simpa only [okD] using h)
    rw [shownAll_len] at h1
    simp only [PyData.shown, wt]
    omega
  | .tuple xs, h => by
    have h1 := tupleText_len_le (PyData.shownAll xs)
    have h2 := okDs_len xs (by simpa only [okD] using h)
    rw [shownAll_len] at h1
    simp only [PyData.shown, wt]
    omega
  | .dict kvs, h => by
    have : kvs = [] := by simpa [okD] using h
    subst this; decide +kernel
theorem okDs_len : ∀ d : List PyData, okDs d = true → ((PyData.shownAll d).map (·.length)).sum + 2 * d.length ≤ wts d
  | [], _ => by simp [PyData.shownAll, wts]
  | d :: xs, h => by
    simp only [okDs, Bool.and_eq_true] at h
    have h1 := okD_len d h.1
    have h2 := okDs_len xs h.2
    simp only [PyData.shownAll, List.map_cons, List.sum_cons, List.length_cons, wts]
    omega
end
/-- may be shown, not too long -/
def Gd (n : Nat) (d : PyData) : Prop := okD d = true ∧ d.depth ≤ 60 ∧ wt d ≤ n
theorem Gd.mono {n m : Nat} {d : PyData} (h : Gd n d) (l : n ≤ m) : Gd m d := ⟨h.1, h.2.1, by have := h.2.2; omega⟩
theorem Gd.reprs {K : PySem.W.Frag} {H : Hp} {m : List Addr} {v : V} {d : PyData} {Q : VK} (h : Gd 10000000 d) (q : Dq K H m v d) (k : Q (.str d.shown) H) : mReprG K [v] H Q :=
  ⟨d, q.z, okD_show d h.1, by have := h.2.1; omega, by have := okD_len d h.1; have := h.2.2; rw [szl]; omega, k⟩
/-! ### what a value is -/
def isTrD : PyData → Bool
  | .str z => isTr z.cps.toList
  | _ => false
def isAdD : PyData → Bool
  | .str z => isAd z.cps.toList
  | _ => false
abbrev cL : List Nat := [108, 101, 102, 116]
abbrev cR : List Nat := [114, 105, 103, 104, 116]
def isStepD : PyData → Bool
  | .tuple [.str w, x] => (decide (w = S cL) || decide (w = S cR)) && isAdD x
  | _ => false
def isScrD : PyData → Bool
  | .list ds => ds.all isStepD
  | _ => false
/-- a step: to the right or not, its address -/
abbrev Stp : Type := Bool × List Nat
namespace Stp
def w (s : Stp) : List Nat := if s.1 then cR else cL
def d (s : Stp) : PyData := .tuple [.str (S s.w), .str (S s.2)]
def fl (s : Stp) : Stp := (!s.1, s.2)
end Stp
def adS (ss : List Stp) : Prop := ∀ s ∈ ss, isAd s.2 = true
theorem isAdD_S {z : List Nat} : isAdD (.str (S z)) = isAd z := by simp only [isAdD, S_cps]
theorem isTrD_S {z : List Nat} : isTrD (.str (S z)) = isTr z := by simp only [isTrD, S_cps]
theorem isStep_d {s : Stp} (h : isAd s.2 = true) : isStepD s.d = true := by
  obtain ⟨b, z⟩ := s
  cases b <;> simp [Stp.d, Stp.w, isStepD, isAdD_S] <;> exact h
theorem isStep_of {d : PyData} (h : isStepD d = true) : ∃ s : Stp, isAd s.2 = true ∧ d = s.d := by
  unfold isStepD at h
  split at h
  · rename_i w x
    simp only [Bool.and_eq_true, Bool.or_eq_true, decide_eq_true_eq] at h
    obtain ⟨h1, h2⟩ := h
    cases x with
    | str z =>
      obtain ⟨l, rfl⟩ := S_def z
      rw [isAdD_S] at h2
      rcases h1 with rfl | rfl
      · exact ⟨(false, l), h2, rfl⟩
      · exact ⟨(true, l), h2, rfl⟩
    | _ => cases h2
  · cases h
theorem isScr_d {ss : List Stp} (h : adS ss) : isScrD (.list (ss.map Stp.d)) = true := by
  simp only [isScrD, List.all_map, List.all_eq_true]
  exact fun s hs => isStep_d (h s hs)
theorem steps_of : ∀ {ds : List PyData}, ds.all isStepD = true → ∃ ss : List Stp, adS ss ∧ ds = ss.map Stp.d
  | [], _ => ⟨[], (fun s hs => (by cases hs)), rfl⟩
  | d :: ds, h => by
    simp only [List.all_cons, Bool.and_eq_true] at h
    obtain ⟨s, h1, rfl⟩ := isStep_of h.1
    obtain ⟨ss, h2, rfl⟩ := steps_of h.2
    exact ⟨s :: ss, fun x hx => (List.mem_cons.mp hx).elim (fun z => z ▸ h1) (h2 x), rfl⟩
theorem isScr_of {d : PyData} (h : isScrD d = true) : ∃ ss : List Stp, adS ss ∧ d = .list (ss.map Stp.d) := by
  cases d with
  | list ds =>
    obtain ⟨ss, h1, rfl⟩ := steps_of h
    exact ⟨ss, h1, rfl⟩
  | _ => cases h
theorem Stp.w_len (s : Stp) : s.w.length ≤ 5 := by obtain ⟨b, z⟩ := s; cases b <;> simp [Stp.w]
theorem Stp.w_okc (s : Stp) : okc s.w := by obtain ⟨b, z⟩ := s; cases b <;> (intro c hc; simp [Stp.w] at hc; omega)
theorem isAd_ok {z : List Nat} (h : isAd z = true) : okc z := fun c hc => by
  unfold isAd at h
  have := of_decide_eq_true h c hc
  omega
theorem Stp.ok {s : Stp} (h : isAd s.2 = true) (l : s.2.length ≤ 1000000) : okD s.d = true := by
  show (okD (.str (S s.w)) && (okD (.str (S s.2)) && true)) = true
  rw [Bool.and_true, Bool.and_eq_true]
  refine ⟨?_, ?_⟩
  · exact okD_str.mpr ⟨by have := s.w_len; omega, s.w_okc⟩
  · exact okD_str.mpr ⟨l, isAd_ok h⟩
theorem Stp.wt_le (s : Stp) : wt s.d ≤ 10 * s.2.length + 61 := by
  have := s.w_len
  simp only [Stp.d, wt, wts, S_len]; omega
theorem steps_ok : ∀ {ss : List Stp}, adS ss → (∀ s ∈ ss, s.2.length ≤ 1000000) → okDs (ss.map Stp.d) = true := fun {ss} h l => okDs_mem.mpr fun d hd => by
  obtain ⟨s, hs, rfl⟩ := List.mem_map.mp hd
  exact Stp.ok (h s hs) (l s hs)
theorem steps_wt {n : Nat} : ∀ {ss : List Stp}, (∀ s ∈ ss, s.2.length ≤ n) → wts (ss.map Stp.d) ≤ ss.length * (10 * n + 63)
  | [], _ => by simp [wts]
  | s :: ss, h => by
    have h1 := s.wt_le
    have h2 := h s List.mem_cons_self
    have h3 := steps_wt (ss := ss) fun x hx => h x (List.mem_cons_of_mem _ hx)
    simp only [List.map_cons, wts, List.length_cons, Nat.add_mul, Nat.one_mul]
    omega
theorem steps_dep : ∀ ss : List Stp, PyData.depthAll (ss.map Stp.d) ≤ 1
  | [] => by simp [PyData.depthAll]
  | s :: ss => by
    have := steps_dep ss
    simp only [List.map_cons, PyData.depthAll, Stp.d, PyData.depth]
    omega
theorem steps_nod : ∀ ss : List Stp, PyData.hasDictAll (ss.map Stp.d) = false
  | [] => rfl
  | s :: ss => by simp only [List.map_cons, PyData.hasDictAll, Stp.d, PyData.hasDict, steps_nod ss, Bool.or_self]
theorem steps_gd {n : Nat} {ss : List Stp} (h : adS ss) (l : ∀ s ∈ ss, s.2.length ≤ n) (hn : n ≤ 1000000) (m : Nat) (hm : ss.length * (10 * n + 63) + 3 ≤ m) : Gd m (.list (ss.map Stp.d)) := by
  refine ⟨by simpa only [okD] using steps_ok h fun s hs => by have := l s hs; omega, ?_, ?_⟩
  · have := steps_dep ss
    simp only [PyData.depth]; omega
  · have := steps_wt l
    simp only [wt]; omega
theorem Stp.d_inj {s t : Stp} : s.d = t.d ↔ s = t := by
  constructor
  · intro h
    obtain ⟨b, z⟩ := s
    obtain ⟨c, y⟩ := t
    simp only [Stp.d, PyData.tuple.injEq, List.cons.injEq, PyData.str.injEq, S_inj, and_true, Stp.w] at h
    obtain ⟨h1, h2⟩ := h
    subst h2
    cases b <;> cases c <;> first | rfl | simp at h1
  · rintro rfl; rfl
theorem Stp.eqv (s t : Stp) : PyData.eqv s.d t.d = decide (s = t) := by
  have e : decide (s = t) = (decide (s.w = t.w) && decide (s.2 = t.2)) := by
    obtain ⟨b, z⟩ := s
    obtain ⟨c, y⟩ := t
    cases b <;> cases c <;> simp [Stp.w]
  rw [e]
  simp only [Stp.d, PyData.eqv, PyData.eqvAll, Bool.and_true]
  simp only [← S_eq]
  congr 1
theorem steps_eqv : ∀ a b : List Stp, PyData.eqvAll (a.map Stp.d) (b.map Stp.d) = decide (a = b)
  | [], [] => rfl
  | [], _ :: _ => rfl
  | _ :: _, [] => rfl
  | s :: a, t :: b => by
    simp only [List.map_cons, PyData.eqvAll, Stp.eqv, steps_eqv a b]
    simp only [List.cons.injEq, Bool.decide_and]
theorem steps_lay : ∀ {ss : List Stp}, adS ss → PyData.canLayAll0 (ss.map Stp.d) = true
  | [], _ => rfl
  | s :: ss, h => by
    have h1 := okS (s.w_okc)
    have h2 := okS (isAd_ok (h s List.mem_cons_self))
    simp only [List.map_cons, PyData.canLayAll0, Stp.d, PyData.canLay0, h1, h2, steps_lay fun x hx => h x (List.mem_cons_of_mem _ hx), Bool.and_self]
/-- two scripts compared -/
theorem eq_steps {K : PySem.W.Frag} {neg : Bool} {H : Hp} {Q : VK} {m m' : List Addr} {v w : V} {a b : List Stp} (h1 : Dq K H m v (.list (a.map Stp.d))) (h2 : Dq K H m' w (.list (b.map Stp.d))) (oa : adS a) (ob : adS b) (k : Q (.bl (if neg then !decide (a = b) else decide (a = b))) H) : rEqW K neg v w H Q :=
  ⟨_, _, h1.dp (by simpa only [PyData.hasDict] using steps_nod a), h2.dp (by simpa only [PyData.hasDict] using steps_nod b), by simpa only [PyData.canLay0] using steps_lay oa, by simpa only [PyData.canLay0] using steps_lay ob, by
    have := steps_dep a
    simp only [PyData.depth]; omega, by simpa only [PyData.eqv, steps_eqv] using k⟩
end M

/-! ### a value that may grow, if it is a list -/
namespace M
open PySem PySem.Spec PyProof.Rows L2
abbrev mor : List Nat := [109, 111, 114, 101]
def moreD : PyData → PyData
  | .list ds => .list (ds ++ [.str (S mor)])
  | d => d
/-- the list that changes, if one does -/
def mvd : V → PyData → List Addr
  | x, .list _ => rf x
  | _, _ => []
/-- x is the data d, and no list in it but itself stands where x does -/
def Gr (K : PySem.W.Frag) (H : Hp) (x : V) (d : PyData) : Prop := (∃ a xs ds, x = .ref a ∧ d = .list ds ∧ H a = some (.lst xs) ∧ DqA K H [a] xs ds) ∨ ((∀ ds, d ≠ .list ds) ∧ Dq K H [] x d)
theorem Gr.dq {K : PySem.W.Frag} {H : Hp} {x : V} {d : PyData} (h : Gr K H x d) : Dq K H [] x d := by
  rcases h with ⟨a, xs, ds, rfl, rfl, h1, h2⟩ | ⟨_, h⟩
  · exact .L h1 (by simp) h2.z
  · exact h
theorem Gr.ex {K : PySem.W.Frag} {H H' : Hp} {x : V} {d : PyData} (e : Ex H H') (h : Gr K H x d) : Gr K H' x d := by
  rcases h with ⟨a, xs, ds, rfl, rfl, h1, h2⟩ | ⟨h1, h⟩
  · exact .inl ⟨a, xs, ds, rfl, rfl, e _ _ h1, h2.ex e⟩
  · exact .inr ⟨h1, h.ex e⟩
theorem mvd_mem {x : V} {d : PyData} {a : Addr} (h : a ∈ mvd x d) : x = .ref a ∧ ∃ ds, d = .list ds := by
  unfold mvd at h
  split at h
  · exact ⟨rf_mem.mp h, _, rfl⟩
  · cases h
theorem mvd_list {a : Addr} {ds : List PyData} : mvd (.ref a) (.list ds) = [a] := rfl
theorem mvd_no {x : V} {d : PyData} (h : ∀ ds, d ≠ .list ds) : mvd x d = [] := by
  unfold mvd
  split
  · exact absurd rfl (h _)
  · rfl
theorem moreD_no {d : PyData} (h : ∀ ds, d ≠ .list ds) : moreD d = d := by
  unfold moreD
  split
  · exact absurd rfl (h _)
  · rfl
/-- a list's copy -/
theorem Gr.lst {K : PySem.W.Frag} {H : Hp} {a : Addr} {xs : List V} {ds : List PyData} (h : H a = some (.lst xs)) (q : DqA K H [a] xs ds) : Gr K H (.ref a) (.list ds) := .inl ⟨a, xs, ds, rfl, rfl, h, q⟩
/-- the same, nothing of it at M -/
def Gm (K : PySem.W.Frag) (H : Hp) (M : List Addr) (x : V) (d : PyData) : Prop := (∃ a xs ds, x = .ref a ∧ d = .list ds ∧ H a = some (.lst xs) ∧ a ∉ M ∧ DqA K H (a :: M) xs ds) ∨ ((∀ ds, d ≠ .list ds) ∧ Dq K H M x d)
theorem Gm.gr {K : PySem.W.Frag} {H : Hp} {M : List Addr} {x : V} {d : PyData} (h : Gm K H M x d) : Gr K H x d := by
  rcases h with ⟨a, xs, ds, rfl, rfl, h1, _, h2⟩ | ⟨h1, h⟩
  · exact .inl ⟨a, xs, ds, rfl, rfl, h1, h2.more fun b hb => .inl (by rw [List.mem_singleton.mp hb]; exact List.mem_cons_self)⟩
  · exact .inr ⟨h1, h.z⟩
theorem Gm.fm {K : PySem.W.Frag} {H H' : Hp} {M : List Addr} {x : V} {d : PyData} (f : Fm M H H') (h : Gm K H M x d) : Gm K H' M x d := by
  rcases h with ⟨a, xs, ds, rfl, rfl, h1, hn, h2⟩ | ⟨h1, h⟩
  · exact .inl ⟨a, xs, ds, rfl, rfl, f _ _ hn h1, hn, h2.fm (f.mono fun b hb => List.mem_cons_of_mem _ hb)⟩
  · exact .inr ⟨h1, h.fm f⟩
theorem Gm.ex {K : PySem.W.Frag} {H H' : Hp} {M : List Addr} {x : V} {d : PyData} (e : Ex H H') (h : Gm K H M x d) : Gm K H' M x d := h.fm (Fm.ex e)
theorem Gm.dq {K : PySem.W.Frag} {H : Hp} {M : List Addr} {x : V} {d : PyData} (h : Gm K H M x d) : Dq K H M x d := by
  rcases h with ⟨a, xs, ds, rfl, rfl, h1, hn, h2⟩ | ⟨h1, h⟩
  · exact .L h1 hn (h2.more fun b hb => .inl (List.mem_cons_of_mem _ hb))
  · exact h
theorem okDs_app : ∀ {a b : List PyData}, okDs (a ++ b) = (okDs a && okDs b)
  | [], b => by simp [okDs]
  | x :: a, b => by simp only [List.cons_append, okDs, okDs_app, Bool.and_assoc]
theorem wts_app : ∀ {a b : List PyData}, wts (a ++ b) = wts a + wts b
  | [], b => by simp [wts]
  | x :: a, b => by simp only [List.cons_append, wts, wts_app]; omega
theorem dep_app : ∀ {a b : List PyData}, PyData.depthAll (a ++ b) = max (PyData.depthAll a) (PyData.depthAll b)
  | [], b => by simp [PyData.depthAll]
  | x :: a, b => by simp only [List.cons_append, PyData.depthAll, dep_app, Nat.max_assoc]
theorem Gd.more {n : Nat} {d : PyData} (h : Gd n d) : Gd (n + 50) (moreD d) := by
  obtain ⟨h1, h2, h3⟩ := h
  cases d with
  | list ds =>
    refine ⟨?_, ?_, ?_⟩
    · simp only [moreD, okD, okDs_app, okDs, Bool.and_true, Bool.and_eq_true] at h1 ⊢
      exact ⟨h1, by simpa only [okD, Bool.and_eq_true] using (okD_str (z := mor)).mpr ⟨by decide, by show ∀ c ∈ _, c < 1114112; decide⟩⟩
    · simp only [moreD, PyData.depth, dep_app, PyData.depthAll] at h2 ⊢
      omega
    · simp only [moreD, wt, wts_app, wts, S_len] at h3 ⊢
      simp only [List.length_cons, List.length_nil]
      omega
  | _ => exact ⟨h1, h2, by simp only [moreD]; omega⟩
/-- data that stand, nothing of them at g -/
def DL (K : PySem.W.Frag) (H : Hp) (g : Addr) (l : List (V × PyData)) : Prop := H g ≠ none ∧ ∀ x ∈ l, Dq K H [g] x.1 x.2
theorem DL.nil {K : PySem.W.Frag} {H : Hp} {g : Addr} (h : H g ≠ none) : DL K H g [] := ⟨h, fun x hx => by cases hx⟩
theorem DL.ex {K : PySem.W.Frag} {H H' : Hp} {g : Addr} {l : List (V × PyData)} (h : DL K H g l) (e : Ex H H') : DL K H' g l := by
  refine ⟨?_, fun x hx => (h.2 x hx).ex e⟩
  obtain ⟨o, ho⟩ := Option.ne_none_iff_exists'.mp h.1
  rw [e _ _ ho]; simp
theorem DL.fm {K : PySem.W.Frag} {H H' : Hp} {g : Addr} {l : List (V × PyData)} (h : DL K H g l) (f : Fm [g] H H') (hg : H' g ≠ none) : DL K H' g l := ⟨hg, fun x hx => (h.2 x hx).fm f⟩
theorem DL.cons {K : PySem.W.Frag} {H : Hp} {g : Addr} {l : List (V × PyData)} {v : V} {d : PyData} (h : DL K H g l) (q : Dq K H [g] v d) : DL K H g ((v, d) :: l) := ⟨h.1, fun x hx => by
  rcases List.mem_cons.mp hx with rfl | hx
  · exact q
  · exact h.2 x hx⟩
theorem DL.ne {K : PySem.W.Frag} {H : Hp} {g p : Addr} {l : List (V × PyData)} (h : DL K H g l) (hp : H p = none) : p ∉ [g] := by
  rw [List.mem_singleton]; exact fun z => h.1 (z ▸ hp)
theorem DL.lst {K : PySem.W.Frag} {H : Hp} {g p : Addr} {l : List (V × PyData)} {xs : List V} {ds : List PyData} (h : DL K H g l) (hp : H p = none) (q : DqA K H [g] xs ds) : DL K (upd H p (.lst xs)) g ((.ref p, .list ds) :: l) :=
  (h.ex (Ex.new hp)).cons (.L upd_same (h.ne hp) (q.ex (Ex.new hp)))
theorem DL.tup {K : PySem.W.Frag} {H : Hp} {g p : Addr} {l : List (V × PyData)} {xs : List V} {ds : List PyData} (h : DL K H g l) (hp : H p = none) (q : DqA K H [g] xs ds) : DL K (upd H p (.tup xs)) g ((.ref p, .tuple ds) :: l) :=
  (h.ex (Ex.new hp)).cons (.T upd_same (h.ne hp) (q.ex (Ex.new hp)))
theorem DL.dct {K : PySem.W.Frag} {H : Hp} {g p : Addr} {l : List (V × PyData)} (h : DL K H g l) (hp : H p = none) : DL K (upd H p (.dK [])) g ((.ref p, .dict []) :: l) :=
  (h.ex (Ex.new hp)).cons (.dct upd_same (h.ne hp) rfl)
theorem DL.at {K : PySem.W.Frag} {H : Hp} {g : Addr} {l : List (V × PyData)} (h : DL K H g l) (i : Nat) {v : V} {d : PyData} (hi : l[i]? = some (v, d)) : Dq K H [g] v d := h.2 (v, d) (List.mem_of_getElem? hi)
end M

/-! the kinds of the own errors, their fields -/
namespace M
open PySem PySem.Spec PyProof.Rows L2 PySem.HandSPX
def nms : List PySem.Str := ["InvalidTree", "InvalidAddress", "InvalidNumber", "InvalidList", "InvalidScript", "InvalidMove", "CannotTurn", "CannotMove", "NotCarried", "InvalidName", "TakenName", "UnknownName", "NothingToUndo"]
def fls : List PySem.Str := ["value", "value", "value", "value", "value", "value", "place", "value", "address", "name", "name", "name", "value"]
def fl (i : Nat) : PySem.Str := fls.getD i "value"
def ca (K : PySem.W.Frag) (i : Nat) : Addr := He.ga K (nms.getD i "value")
def ct (K : PySem.W.Frag) : Addr := He.ga K "TurnError"
structure HK (K : PySem.W.Frag) : Prop where
  k : ∀ i j, i < 13 → j < 13 → PySem.W.kitOne K (.ref (ca K i)) (.ref (ca K j)) = some (decide (i = j))
  t : ∀ i, i < 13 → PySem.W.kitOne K (.ref (ca K i)) (.ref (ct K)) = some true
  v : ∀ i, i < 13 → PySem.W.kitOne K (.ref (ca K i)) (.type "ValueError") = some true
  e : ∀ i, i < 13 → ExcK K (fl i) (ca K i)
def kAllB (K : PySem.W.Frag) : Bool := (List.range 13).all fun i => ((List.range 13).all fun j => decide (PySem.W.kitOne K (.ref (ca K i)) (.ref (ca K j)) = some (decide (i = j)))) &&
  (decide (PySem.W.kitOne K (.ref (ca K i)) (.ref (ct K)) = some true) && (decide (PySem.W.kitOne K (.ref (ca K i)) (.type "ValueError") = some true) && exkB (nms.getD i "value") (fl i) K))
theorem HK.of {K : PySem.W.Frag} (h : kAllB K = true) : HK K := by
  unfold kAllB at h
  rw [List.all_eq_true] at h
  have g : ∀ i, i < 13 → (∀ j, j < 13 → PySem.W.kitOne K (.ref (ca K i)) (.ref (ca K j)) = some (decide (i = j))) ∧ PySem.W.kitOne K (.ref (ca K i)) (.ref (ct K)) = some true ∧ PySem.W.kitOne K (.ref (ca K i)) (.type "ValueError") = some true ∧ exkB (nms.getD i "value") (fl i) K = true := fun i hi => by
    have := h i (List.mem_range.mpr hi)
    simp only [Bool.and_eq_true, decide_eq_true_eq] at this
    obtain ⟨a, b, c, d⟩ := this
    rw [List.all_eq_true] at a
    exact ⟨fun j hj => of_decide_eq_true (a j (List.mem_range.mpr hj)), b, c, d⟩
  exact ⟨fun i j hi hj => (g i hi).1 j hj, fun i hi => (g i hi).2.1, fun i hi => (g i hi).2.2.1, fun i hi => exk_of (g i hi).2.2.2⟩
end M

namespace Pf
open PySem PySem.Spec PyProof.Rows L2 M
def top (i : Nat) : Stmt := PySem.Challenge.pw_treeturns_k01_errors.main.body.getD i (.Pass ⟨0, 0, 0, 0⟩)
abbrev Rw : PySem.W.OpenRow := PySem.W.OpenLaw.row PySem.Challenge.rw_treeturns_k01_errors
abbrev Pg : Program := (PySem.Challenge.rw_treeturns_k01_errors).prog
def dx_InvalidTree___init__ : DefX := ⟨("InvalidTree", some "__init__"), "__init__", "InvalidTree.__init__", defArgs (inClass (top 2) 0), defBody (inClass (top 2) 0), defScope (inClass (top 2) 0), [.non], [], ["__class__"], 0⟩
def dx_InvalidAddress___init__ : DefX := ⟨("InvalidAddress", some "__init__"), "__init__", "InvalidAddress.__init__", defArgs (inClass (top 3) 0), defBody (inClass (top 3) 0), defScope (inClass (top 3) 0), [.non], [], ["__class__"], 0⟩
def dx_InvalidNumber___init__ : DefX := ⟨("InvalidNumber", some "__init__"), "__init__", "InvalidNumber.__init__", defArgs (inClass (top 4) 0), defBody (inClass (top 4) 0), defScope (inClass (top 4) 0), [.non], [], ["__class__"], 0⟩
def dx_InvalidList___init__ : DefX := ⟨("InvalidList", some "__init__"), "__init__", "InvalidList.__init__", defArgs (inClass (top 5) 0), defBody (inClass (top 5) 0), defScope (inClass (top 5) 0), [.non], [], ["__class__"], 0⟩
def dx_InvalidScript___init__ : DefX := ⟨("InvalidScript", some "__init__"), "__init__", "InvalidScript.__init__", defArgs (inClass (top 6) 0), defBody (inClass (top 6) 0), defScope (inClass (top 6) 0), [.non], [], ["__class__"], 0⟩
def dx_InvalidMove___init__ : DefX := ⟨("InvalidMove", some "__init__"), "__init__", "InvalidMove.__init__", defArgs (inClass (top 7) 0), defBody (inClass (top 7) 0), defScope (inClass (top 7) 0), [.non], [], ["__class__"], 0⟩
def dx_CannotTurn___init__ : DefX := ⟨("CannotTurn", some "__init__"), "__init__", "CannotTurn.__init__", defArgs (inClass (top 8) 0), defBody (inClass (top 8) 0), defScope (inClass (top 8) 0), [.non], [], ["__class__"], 0⟩
def dx_CannotMove___init__ : DefX := ⟨("CannotMove", some "__init__"), "__init__", "CannotMove.__init__", defArgs (inClass (top 9) 0), defBody (inClass (top 9) 0), defScope (inClass (top 9) 0), [.non], [], ["__class__"], 0⟩
def dx_NotCarried___init__ : DefX := ⟨("NotCarried", some "__init__"), "__init__", "NotCarried.__init__", defArgs (inClass (top 10) 0), defBody (inClass (top 10) 0), defScope (inClass (top 10) 0), [.non], [], ["__class__"], 0⟩
def dx_InvalidName___init__ : DefX := ⟨("InvalidName", some "__init__"), "__init__", "InvalidName.__init__", defArgs (inClass (top 11) 0), defBody (inClass (top 11) 0), defScope (inClass (top 11) 0), [.non], [], ["__class__"], 0⟩
def dx_TakenName___init__ : DefX := ⟨("TakenName", some "__init__"), "__init__", "TakenName.__init__", defArgs (inClass (top 12) 0), defBody (inClass (top 12) 0), defScope (inClass (top 12) 0), [.non], [], ["__class__"], 0⟩
def dx_UnknownName___init__ : DefX := ⟨("UnknownName", some "__init__"), "__init__", "UnknownName.__init__", defArgs (inClass (top 13) 0), defBody (inClass (top 13) 0), defScope (inClass (top 13) 0), [.non], [], ["__class__"], 0⟩
def dx__law_cell : DefX := ⟨("_law_cell", none), "_law_cell", "_law_cell", defArgs (top 16), defBody (top 16), defScope (top 16), [], [], [], 0⟩
def dx__law_hash : DefX := ⟨("_law_hash", none), "_law_hash", "_law_hash", defArgs (top 17), defBody (top 17), defScope (top 17), [], [], [], 0⟩
def dx__law_generator : DefX := ⟨("_law_generator", none), "_law_generator", "_law_generator", defArgs (top 18), defBody (top 18), defScope (top 18), [], [], [], 0⟩
def dx__law_random : DefX := ⟨("_law_random", none), "_law_random", "_law_random", defArgs (top 19), defBody (top 19), defScope (top 19), [], [], [], 0⟩
def dx__law_kinds : DefX := ⟨("_law_kinds", none), "_law_kinds", "_law_kinds", defArgs (top 20), defBody (top 20), defScope (top 20), [], [], [], 0⟩
def dx__law_fields : DefX := ⟨("_law_fields", none), "_law_fields", "_law_fields", defArgs (top 21), defBody (top 21), defScope (top 21), [], [], [], 0⟩
def dx__law_right : DefX := ⟨("_law_right", none), "_law_right", "_law_right", defArgs (top 22), defBody (top 22), defScope (top 22), [], [], [], 0⟩
def dx__law_placed : DefX := ⟨("_law_placed", none), "_law_placed", "_law_placed", defArgs (top 23), defBody (top 23), defScope (top 23), [], [], [], 0⟩
def dx__law_given_right : DefX := ⟨("_law_given_right", none), "_law_given_right", "_law_given_right", defArgs (top 24), defBody (top 24), defScope (top 24), [], [], [], 0⟩
def dx_law : DefX := ⟨("law", none), "law", "law", defArgs (top 25), defBody (top 25), defScope (top 25), [], [], [], 0⟩
def fnL : List DefX := ([dx_InvalidTree___init__,
  dx_InvalidAddress___init__,
  dx_InvalidNumber___init__,
  dx_InvalidList___init__,
  dx_InvalidScript___init__,
  dx_InvalidMove___init__,
  dx_CannotTurn___init__,
  dx_CannotMove___init__,
  dx_NotCarried___init__,
  dx_InvalidName___init__,
  dx_TakenName___init__,
  dx_UnknownName___init__,
  dx__law_cell,
  dx__law_hash,
  dx__law_generator,
  dx__law_random,
  dx__law_kinds,
  dx__law_fields,
  dx__law_right,
  dx__law_placed,
  dx__law_given_right,
  dx_law] : List DefX)
def faL : List FaX := ([fun K => (He.Fa.glo "TurnError").ok K,
  fun K => (He.Fa.glo "InvalidTree").ok K,
  fun K => (He.Fa.glo "InvalidAddress").ok K,
  fun K => (He.Fa.glo "InvalidNumber").ok K,
  fun K => (He.Fa.glo "InvalidList").ok K,
  fun K => (He.Fa.glo "InvalidScript").ok K,
  fun K => (He.Fa.glo "InvalidMove").ok K,
  fun K => (He.Fa.glo "CannotTurn").ok K,
  fun K => (He.Fa.glo "CannotMove").ok K,
  fun K => (He.Fa.glo "NotCarried").ok K,
  fun K => (He.Fa.glo "InvalidName").ok K,
  fun K => (He.Fa.glo "TakenName").ok K,
  fun K => (He.Fa.glo "UnknownName").ok K,
  fun K => (He.Fa.glo "NothingToUndo").ok K,
  fun K => (He.Fa.glo "_law_cell").ok K] : List FaX) ++ ([fun K => (He.Fa.glo "_law_hash").ok K,
  fun K => (He.Fa.glo "_law_generator").ok K,
  fun K => (He.Fa.glo "_law_random").ok K,
  fun K => (He.Fa.glo "_law_kinds").ok K,
  fun K => (He.Fa.glo "_law_fields").ok K,
  fun K => (He.Fa.glo "_law_right").ok K,
  fun K => (He.Fa.glo "_law_placed").ok K,
  fun K => (He.Fa.glo "_law_given_right").ok K,
  fun K => (He.Fa.glo "law").ok K,
  fun K => (He.Fa.free "len").ok K,
  fun K => (He.Fa.free "int").ok K,
  fun K => (He.Fa.free "max").ok K,
  fun K => (He.Fa.free "range").ok K,
  fun K => (He.Fa.free "isinstance").ok K,
  fun K => (He.Fa.free "ValueError").ok K] : List FaX) ++ ([fun K => (He.Fa.free "repr").ok K,
  fun K => (He.Fa.free "list").ok K,
  fun K => smB K,
  fun K => exB Pg "InvalidTree" "value" K,
  fun K => exB Pg "InvalidAddress" "value" K,
  fun K => exB Pg "InvalidNumber" "value" K,
  fun K => exB Pg "InvalidList" "value" K,
  fun K => exB Pg "InvalidScript" "value" K,
  fun K => exB Pg "InvalidMove" "value" K,
  fun K => exB Pg "CannotTurn" "place" K,
  fun K => exB Pg "CannotMove" "value" K,
  fun K => exB Pg "NotCarried" "address" K,
  fun K => exB Pg "InvalidName" "name" K,
  fun K => exB Pg "TakenName" "name" K,
  fun K => exB Pg "UnknownName" "name" K] : List FaX) ++ ([fun K => exnB "NothingToUndo" K,
  kAllB] : List FaX)
def loose : List PySem.Str := (["TurnError",
  "InvalidTree",
  "InvalidAddress",
  "InvalidNumber",
  "InvalidList",
  "InvalidScript",
  "InvalidMove",
  "CannotTurn",
  "CannotMove",
  "NotCarried",
  "InvalidName",
  "TakenName",
  "UnknownName",
  "NothingToUndo",
  "_law_cell",
  "_law_hash",
  "_law_generator",
  "_law_random",
  "_law_kinds",
  "_law_fields",
  "_law_right",
  "_law_placed",
  "_law_given_right"] : List PySem.Str)
def tabL : List TabX := []
abbrev hk : PySem.W.Hook := hookYT 4 faL fnL tabL
def ob (s : PySem.W.SharedT) : AlXT := obsYTG 4 faL fnL tabL (HandSHeadRun.getT s)
theorem ob_eq (s : PySem.W.SharedT) : ob s = hk.obs s.abs := obsYTG_eq (HandSHeadRun.getT_eq s)

set_option maxHeartbeats 0 in
theorem run_false (w : World) : HandSHeadRun.RunEq Rw (PySem.W.view Rw.prog [25]) hk ob 6000 loose (w.withFollow "special-get-raises" false) := by
  intro os
  kernel_rfl
set_option maxHeartbeats 0 in
theorem run_true (w : World) : HandSHeadRun.RunEq Rw (PySem.W.view Rw.prog [25]) hk ob 6000 loose (w.withFollow "special-get-raises" true) := by
  intro os
  kernel_rfl
theorem run (w : World) : HandSHeadRun.RunEq Rw (PySem.W.view Rw.prog [25]) hk ob 6000 loose w := PySem.W.byRow2 "special-get-raises" (P := fun w => HandSHeadRun.RunEq Rw (PySem.W.view Rw.prog [25]) hk ob 6000 loose w) run_false run_true w
end Pf
namespace Pf
open PySem PySem.Spec PyProof.Rows L2 M
def rd__law_cell (K : PySem.W.Frag) : TS := (tSeq (tIfS (mTest (tOp (mLt) (mVar 1) (tCB (mLen K) (tCons (mVar 0) tNil)))) (tRet (tOp (mIx K) (mVar 0) (mVar 1))) tNext)
  (tRet (mC (.int 0))))
abbrev N__law_cell : List Str := ["_law_script", "_law_index"]
def rd__law_hash (K : PySem.W.Frag) : TS := (tSeq (tAsg (tOp mMod (tCB (mInt) (tCons (tOp mAdd (tOp mAdd (tOp mAdd (tOp mMul (mVar 0) (mC (.int 1103515245))) (tOp mMul (tOp mMul (mC (.int 7919)) (mVar 1)) (mVar 1))) (mVar 1)) (mC (.int 1))) tNil)) (mC (.int 2147483647))) (gName 2))
  (tSeq (tAsg (tOp mMod (tCB (mInt) (tCons (tOp mAdd (tOp mMul (mVar 2) (mVar 2)) (mC (.int 69621))) tNil)) (mC (.int 2147483629))) (gName 2))
  (tRet (tOp mMod (tCB (mInt) (tCons (tOp mMul (mVar 2) (mC (.int 48271))) tNil)) (mC (.int 2147483587))))))
abbrev N__law_hash : List Str := ["_law_seed", "_law_index", "_law_mixed"]
def rd__law_generator (K : PySem.W.Frag) (sp__law_cell : Sp) : TS := (tSeq (tAsg (tCall sp__law_cell [] E0 (tCons (mVar 0) (tCons (mVar 1) tNil))) (gName 2))
  (tRet (tLst (tCons (tOp mMod (tCB (mInt) (tCons (tCB (mMax) (tCons (tOp mSub (mVar 2) (tOp mPow (mC (.int 10)) (mC (.int 18)))) (tCons (mC (.int 0)) tNil))) tNil)) (tOp mPow (tOp mPow (mC (.int 10)) (mC (.int 60))) (mC (.int 10)))) (tCons (tOp mMod (tCB (mInt) (tCons (mVar 2) tNil)) (mC (.int 2147483647))) (tCons (tOp mMul (mC (.int 1000)) (mVar 1)) tNil))))))
abbrev N__law_generator : List Str := ["_law_script", "_law_index", "_law_seed"]
@[reducible] def rd__law_random_b1 (K : PySem.W.Frag) (sp__law_hash : Sp) (D : Ends) (σ : Sl) (H : Hp) : Prop := ((tSeq (tAsg (tOp mAdd (tOp (mIx K) (mVar 0) (mC (.int 2))) (mC (.int 1))) (gSub (mVar 0) (mC (.int 2)) mSetL))
  (tAsg (tOp mAdd (tOp mMul (mVar 2) (mC (.int 2147483587))) (tCall sp__law_hash [] E0 (tCons (tOp (mIx K) (mVar 0) (mC (.int 1))) (tCons (tOp (mIx K) (mVar 0) (mC (.int 2))) tNil)))) (gName 2))) : TS) D σ H
def rd__law_random (K : PySem.W.Frag) (sp__law_hash : Sp) : TS := (tSeq (tIfS (mTest (tOp (mGt) (tOp (mIx K) (mVar 0) (mC (.int 0))) (mC (.int 0)))) (tSeq (tAsg (tOp mMod (tCB (mInt) (tCons (tOp (mIx K) (mVar 0) (mC (.int 0))) tNil)) (mVar 1)) (gName 2))
  (tSeq (tAsg (tOp mDiv (tOp (mIx K) (mVar 0) (mC (.int 0))) (mVar 1)) (gSub (mVar 0) (mC (.int 0)) mSetL))
  (tRet (mVar 2)))) tNext)
  (tSeq (tAsg (mC (.int 0)) (gName 2))
  (tSeq (mFor (mRng1 (tOp mAdd (mC (.int 1)) (tOp mDiv (mBits (mVar 1)) (mC (.int 30))))) (gName 3) (rd__law_random_b1 K sp__law_hash))
  (tRet (tOp mMod (tCB (mInt) (tCons (mVar 2) tNil)) (mVar 1))))))
abbrev N__law_random : List Str := ["_law_generator_here", "_law_bound", "_law_drawn", "_law_turn"]
def rd__law_kinds (K : PySem.W.Frag) (a_InvalidNumber : Addr) (a_InvalidAddress : Addr) (a_InvalidTree : Addr) (a_InvalidMove : Addr) (a_InvalidScript : Addr) (a_InvalidList : Addr) (a_NotCarried : Addr) (a_CannotMove : Addr) (a_CannotTurn : Addr) (a_UnknownName : Addr) (a_TakenName : Addr) (a_InvalidName : Addr) (a_NothingToUndo : Addr) (a_TurnError : Addr) : TS := (tSeq (tAsg (tLst (tCons (tCB (mIsiV K) (tCons (mVar 0) (tCons (mC (.ref a_InvalidTree)) tNil))) (tCons (tCB (mIsiV K) (tCons (mVar 0) (tCons (mC (.ref a_InvalidAddress)) tNil))) (tCons (tCB (mIsiV K) (tCons (mVar 0) (tCons (mC (.ref a_InvalidNumber)) tNil))) tNil)))) (gName 1))
  (tSeq (tAsg (tOp mAdd (mVar 1) (tLst (tCons (tCB (mIsiV K) (tCons (mVar 0) (tCons (mC (.ref a_InvalidList)) tNil))) (tCons (tCB (mIsiV K) (tCons (mVar 0) (tCons (mC (.ref a_InvalidScript)) tNil))) (tCons (tCB (mIsiV K) (tCons (mVar 0) (tCons (mC (.ref a_InvalidMove)) tNil))) tNil))))) (gName 1))
  (tSeq (tAsg (tOp mAdd (mVar 1) (tLst (tCons (tCB (mIsiV K) (tCons (mVar 0) (tCons (mC (.ref a_CannotTurn)) tNil))) (tCons (tCB (mIsiV K) (tCons (mVar 0) (tCons (mC (.ref a_CannotMove)) tNil))) (tCons (tCB (mIsiV K) (tCons (mVar 0) (tCons (mC (.ref a_NotCarried)) tNil))) tNil))))) (gName 1))
  (tSeq (tAsg (tOp mAdd (mVar 1) (tLst (tCons (tCB (mIsiV K) (tCons (mVar 0) (tCons (mC (.ref a_InvalidName)) tNil))) (tCons (tCB (mIsiV K) (tCons (mVar 0) (tCons (mC (.ref a_TakenName)) tNil))) (tCons (tCB (mIsiV K) (tCons (mVar 0) (tCons (mC (.ref a_UnknownName)) tNil))) tNil))))) (gName 1))
  (tSeq (tDrop (mLstM mApp (mVar 1) (tCons (tCB (mIsiV K) (tCons (mVar 0) (tCons (mC (.ref a_NothingToUndo)) tNil))) tNil)))
  (tSeq (tIfS (tOr (tNot (mTest (tCB (mIsiV K) (tCons (mVar 0) (tCons (mC (.ref a_TurnError)) tNil))))) (tNot (mTest (tCB (mIsiV K) (tCons (mVar 0) (tCons (mC (.ty "ValueError")) tNil)))))) (tRet (tLst tNil)) tNext)
  (tRet (mLc (mRng1 (mC (.int 13))) (gName 2) (mTest (tOp (mIx K) (mVar 1) (mVar 2))) (mVar 2) [2]))))))))
abbrev N__law_kinds : List Str := ["_law_error", "_law_kinds_here", "_law_index"]
def rd__law_fields (K : PySem.W.Frag) : TS := (tSeq (tAsg (tOp mAdd (mLc (mIter K (tSl (mSl K) (mVar 0) tNoPart (mPart (mC (.int 6))))) (gName 2) tYes (mFld K "value" (mVar 2)) [2]) (tLst (tCons (mFld K "place" (tOp (mIx K) (mVar 0) (mC (.int 6)))) (tCons (mFld K "value" (tOp (mIx K) (mVar 0) (mC (.int 7)))) (tCons (mFld K "address" (tOp (mIx K) (mVar 0) (mC (.int 8)))) tNil))))) (gName 1))
  (tRet (tOp mAdd (mVar 1) (mLc (mIter K (tSl (mSl K) (mVar 0) (mPart (mC (.int 9))) tNoPart)) (gName 2) tYes (mFld K "name" (mVar 2)) [2]))))
abbrev N__law_fields : List Str := ["_law_errors", "_law_found", "_law_error"]
def rd__law_right (K : PySem.W.Frag) (sp__law_kinds : Sp) (sp__law_fields : Sp) : TS := (tSeq (tIfS (mTest (tOp (mNe K) (mLc (mIter K (mVar 0)) (gName 2) tYes (tCall sp__law_kinds [] E0 (tCons (mVar 2) tNil)) [2]) (mLc (mRng1 (mC (.int 12))) (gName 3) tYes (tLst (tCons (mVar 3) tNil)) [3]))) (tRet (mC (.bl false))) tNext)
  (tRet (tOp (mEq K) (tCB (mReprG K) (tCons (tCall sp__law_fields [] E0 (tCons (mVar 0) tNil)) tNil)) (tCB (mReprG K) (tCons (tOp mMul (tLst (tCons (mVar 1) tNil)) (mC (.int 12))) tNil)))))
abbrev N__law_right : List Str := ["_law_errors", "_law_wanted", "_law_error", "_law_index"]
def rd__law_placed (K : PySem.W.Frag) (a_InvalidList : Addr) (a_InvalidNumber : Addr) (a_InvalidAddress : Addr) (a_InvalidTree : Addr) (a_CannotMove : Addr) (a_CannotTurn : Addr) (a_InvalidMove : Addr) (a_InvalidScript : Addr) (a_UnknownName : Addr) (a_TakenName : Addr) (a_InvalidName : Addr) (a_NotCarried : Addr) : TS := (tSeq (tAsg (tLst (tCons (tEx a_InvalidTree "value" (tCons (mVar 0) tNil)) (tCons (tEx a_InvalidAddress "value" (tCons (mVar 0) tNil)) (tCons (tEx a_InvalidNumber "value" (tCons (mVar 0) tNil)) (tCons (tEx a_InvalidList "value" (tCons (mVar 0) tNil)) tNil))))) (gName 1))
  (tSeq (tAsg (tOp mAdd (mVar 1) (tLst (tCons (tEx a_InvalidScript "value" (tCons (mVar 0) tNil)) (tCons (tEx a_InvalidMove "value" (tCons (mVar 0) tNil)) (tCons (tEx a_CannotTurn "place" (tCons (mVar 0) tNil)) (tCons (tEx a_CannotMove "value" (tCons (mVar 0) tNil)) tNil)))))) (gName 1))
  (tRet (tOp mAdd (mVar 1) (tLst (tCons (tEx a_NotCarried "address" (tCons (mVar 0) tNil)) (tCons (tEx a_InvalidName "name" (tCons (mVar 0) tNil)) (tCons (tEx a_TakenName "name" (tCons (mVar 0) tNil)) (tCons (tEx a_UnknownName "name" (tCons (mVar 0) tNil)) tNil)))))))))
abbrev N__law_placed : List Str := ["_law_given", "_law_placed_here"]
def rd__law_given_right (K : PySem.W.Frag) (sp__law_placed : Sp) (sp__law_right : Sp) (a_InvalidNumber : Addr) (a_InvalidAddress : Addr) (a_InvalidTree : Addr) (a_InvalidMove : Addr) (a_InvalidScript : Addr) (a_InvalidList : Addr) (a_NotCarried : Addr) (a_CannotMove : Addr) (a_CannotTurn : Addr) (a_UnknownName : Addr) (a_TakenName : Addr) (a_InvalidName : Addr) : TS := (tSeq (tAsg (tLst (tCons (tEx a_InvalidTree "value" (tCons (mVar 0) tNil)) (tCons (tEx a_InvalidAddress "value" (tCons (mVar 0) tNil)) (tCons (tEx a_InvalidNumber "value" (tCons (mVar 0) tNil)) tNil)))) (gName 1))
  (tSeq (tAsg (tOp mAdd (mVar 1) (tLst (tCons (tEx a_InvalidList "value" (tCons (mVar 0) tNil)) (tCons (tEx a_InvalidScript "value" (tCons (mVar 0) tNil)) (tCons (tEx a_InvalidMove "value" (tCons (mVar 0) tNil)) tNil))))) (gName 1))
  (tSeq (tAsg (tOp mAdd (mVar 1) (tLst (tCons (tEx a_CannotTurn "place" (tCons (mVar 0) tNil)) (tCons (tEx a_CannotMove "value" (tCons (mVar 0) tNil)) (tCons (tEx a_NotCarried "address" (tCons (mVar 0) tNil)) tNil))))) (gName 1))
  (tSeq (tAsg (tOp mAdd (mVar 1) (tLst (tCons (tEx a_InvalidName "name" (tCons (mVar 0) tNil)) (tCons (tEx a_TakenName "name" (tCons (mVar 0) tNil)) (tCons (tEx a_UnknownName "name" (tCons (mVar 0) tNil)) tNil))))) (gName 1))
  (tSeq (tAsg (tCall sp__law_placed [] E0 (tCons (mVar 0) tNil)) (gName 2))
  (tSeq (tIfS (tOr (tNot (mTest (tCall sp__law_right [] E0 (tCons (mVar 1) (tCons (mVar 0) tNil))))) (tNot (mTest (tCall sp__law_right [] E0 (tCons (mVar 2) (tCons (mVar 0) tNil)))))) (tRet (mC (.bl false))) tNext)
  (tSeq (tIfS (mTest (tCB (mIsi K) (tCons (mVar 0) (tCons (mC (.ty "list")) tNil)))) (tDrop (mLstM mApp (mVar 0) (tCons (mC (.str (S [109, 111, 114, 101]))) tNil))) tNext)
  (tRet (mAndV (tCall sp__law_right [] E0 (tCons (mVar 1) (tCons (mVar 0) tNil))) (tCall sp__law_right [] E0 (tCons (mVar 2) (tCons (mVar 0) tNil))))))))))))
abbrev N__law_given_right : List Str := ["_law_given", "_law_named", "_law_placed_here"]
@[reducible] def rd_law_b1 (K : PySem.W.Frag) (sp__law_random : Sp) (sp__law_generator : Sp) (sp__law_placed : Sp) (sp__law_given_right : Sp) (sp__law_right : Sp) (sp__law_kinds : Sp) (a_InvalidMove : Addr) (a_InvalidScript : Addr) (a_InvalidList : Addr) (a_InvalidNumber : Addr) (a_InvalidAddress : Addr) (a_InvalidTree : Addr) (a_UnknownName : Addr) (a_TakenName : Addr) (a_InvalidName : Addr) (a_NotCarried : Addr) (a_CannotMove : Addr) (a_CannotTurn : Addr) (a_NothingToUndo : Addr) (D : Ends) (σ : Sl) (H : Hp) : Prop := ((tIfS (tNot (mTest (tCall sp__law_given_right [] E0 (tCons (mVar 3) tNil)))) (tRet (mC (.bl false))) tNext) : TS) D σ H
def rd_law (K : PySem.W.Frag) (sp__law_random : Sp) (sp__law_generator : Sp) (sp__law_placed : Sp) (sp__law_given_right : Sp) (sp__law_right : Sp) (sp__law_kinds : Sp) (a_InvalidMove : Addr) (a_InvalidScript : Addr) (a_InvalidList : Addr) (a_InvalidNumber : Addr) (a_InvalidAddress : Addr) (a_InvalidTree : Addr) (a_UnknownName : Addr) (a_TakenName : Addr) (a_InvalidName : Addr) (a_NotCarried : Addr) (a_CannotMove : Addr) (a_CannotTurn : Addr) (a_NothingToUndo : Addr) : TS := (tSeq (tAsg (tCall sp__law_random [] E0 (tCons (tCall sp__law_generator [] E0 (tCons (mVar 0) (tCons (mC (.int 0)) tNil))) (tCons (tOp mPow (mC (.int 10)) (mC (.int 12))) tNil))) (gName 1))
  (tSeq (tAsg (tLst (tCons (tCall sp__law_placed [] E0 (tCons (mVar 1) tNil)) (tCons (tCall sp__law_placed [] E0 (tCons (mC (.str (S [107, 101, 112, 116]))) tNil)) tNil))) (gName 2))
  (tSeq (mFor (mIter K (tLst (tCons (mVar 1) (tCons (tOp mSub (mC (.int 0)) (mVar 1)) (tCons (tTup (tCons (mC (.str (S [97]))) (tCons (mC (.str (S [98]))) tNil))) (tCons (tTup tNil) (tCons (tTup (tCons (mC (.int 1)) (tCons (mC (.int 2)) (tCons (mC (.int 3)) tNil)))) (tCons (tLst (tCons (mC (.int 1)) tNil)) (tCons tDNewK (tCons (mC (.str (S [97, 32, 98]))) (tCons (mC (.str (S []))) (tCons (mC (.bl true)) (tCons (mC .non) (tCons (tDisp [((mC (.str (S [97]))), (mVar 1))]) tNil)))))))))))))) (gName 3) (rd_law_b1 K sp__law_random sp__law_generator sp__law_placed sp__law_given_right sp__law_right sp__law_kinds a_InvalidMove a_InvalidScript a_InvalidList a_InvalidNumber a_InvalidAddress a_InvalidTree a_UnknownName a_TakenName a_InvalidName a_NotCarried a_CannotMove a_CannotTurn a_NothingToUndo))
  (tSeq (tAsg (tLst (tCons (tEx0 a_InvalidTree "value") (tCons (tEx0 a_InvalidAddress "value") (tCons (tEx0 a_InvalidNumber "value") (tCons (tEx0 a_InvalidList "value") (tCons (tEx0 a_InvalidScript "value") (tCons (tEx0 a_InvalidMove "value") tNil))))))) (gName 4))
  (tSeq (tAsg (tOp mAdd (mVar 4) (tLst (tCons (tEx0 a_CannotTurn "place") (tCons (tEx0 a_CannotMove "value") (tCons (tEx0 a_NotCarried "address") (tCons (tEx0 a_InvalidName "name") (tCons (tEx0 a_TakenName "name") (tCons (tEx0 a_UnknownName "name") tNil)))))))) (gName 4))
  (tSeq (tIfS (tOr (tNot (mTest (tCall sp__law_right [] E0 (tCons (tOp (mIx K) (mVar 2) (mC (.int 0))) (tCons (mVar 1) tNil))))) (tNot (mTest (tCall sp__law_right [] E0 (tCons (tOp (mIx K) (mVar 2) (mC (.int 1))) (tCons (mC (.str (S [107, 101, 112, 116]))) tNil)))))) (tRet (mC (.bl false))) tNext)
  (tRet (mAndV (tCall sp__law_right [] E0 (tCons (mVar 4) (tCons (mC .non) tNil))) (tOp (mEq K) (tCall sp__law_kinds [] E0 (tCons (tExN a_NothingToUndo) tNil)) (tLst (tCons (mC (.int 12)) tNil)))))))))))
abbrev N_law : List Str := ["_law_script", "_law_number", "_law_kept", "_law_given", "_law_bare"]
structure Tx (K : PySem.W.Frag) (mg : Str → Option Value) : Prop where
  f_len : mg "len" = none
  f_int : mg "int" = none
  f_max : mg "max" = none
  f_range : mg "range" = none
  f_isinstance : mg "isinstance" = none
  f_ValueError : mg "ValueError" = none
  f_repr : mg "repr" = none
  f_list : mg "list" = none
  sm : smB K = true
section
variable {P : Program} {w : World} {K : PySem.W.Frag} {mg : Str → Option Value} {base : Heap} {f : Addr} {fd : FuncData}
abbrev s__law_cell : Stmt := top 16
theorem sc__law_cell : FnScope N__law_cell ["_law_script", "_law_index"] (defScope s__law_cell) := ⟨rfl, rfl, rfl, by decide +kernel, rfl, by decide +kernel, by decide +kernel⟩
theorem ok__law_cell {k : Nat} {sp : Sp}  (F : FunD K "_law_cell" "_law_cell" (defArgs s__law_cell) (defBody s__law_cell) (defScope s__law_cell) [] [] f fd) (T : Tx K mg)  
    (len : ∀ vs H Q E, sp vs H Q E → vs.length = 2) (pu : ∀ vs H Q E, sp vs H Q E → rd__law_cell K { nx := fun _ H' => Q .non H', rt := Q } (start N__law_cell vs) H) :
    FnG P w K mg base CX0 (k + 1) f fd ["_law_script", "_law_index"] sp :=
  okG F sc__law_cell len fun cdv A outer s H vs Q E hr h => ⟨rd__law_cell K, PSs.nox (
    have nd := sc__law_cell.nd
    let N := N__law_cell
    let scope := defScope s__law_cell
    (pss_cons (ps_if (mt_cmp op_ltM (mv 1) (pe_callB call_lenM (by rfl) T.f_len (by decide +kernel) (pa_cons (mv 0) pa_nil)) (by rfl)) (pss_one (ps_ret (me_ix (mv 0) (mv 1) (fun _ _ => rfl)))) pss_nil)
  (pss_one (ps_ret me_int)))), pu vs H Q E h⟩
abbrev s__law_hash : Stmt := top 17
theorem sc__law_hash : FnScope N__law_hash ["_law_seed", "_law_index"] (defScope s__law_hash) := ⟨rfl, rfl, rfl, by decide +kernel, rfl, by decide +kernel, by decide +kernel⟩
theorem ok__law_hash {k : Nat} {sp : Sp}  (F : FunD K "_law_hash" "_law_hash" (defArgs s__law_hash) (defBody s__law_hash) (defScope s__law_hash) [] [] f fd) (T : Tx K mg)  
    (len : ∀ vs H Q E, sp vs H Q E → vs.length = 2) (pu : ∀ vs H Q E, sp vs H Q E → rd__law_hash K { nx := fun _ H' => Q .non H', rt := Q } (start N__law_hash vs) H) :
    FnG P w K mg base CX0 (k + 1) f fd ["_law_seed", "_law_index"] sp :=
  okG F sc__law_hash len fun cdv A outer s H vs Q E hr h => ⟨rd__law_hash K, PSs.nox (
    have nd := sc__law_hash.nd
    let N := N__law_hash
    let scope := defScope s__law_hash
    (pss_cons (ps_set (i := 2) nd rfl (by first | exact Or.inl rfl | exact Or.inr rfl) (pe_op op_modM (pe_callTy call_intM (by rfl) T.f_int (by decide +kernel) (pa_cons (pe_op op_addM (pe_op op_addM (pe_op op_addM (pe_op op_mulM (mv 0) me_int) (pe_op op_mulM (pe_op op_mulM me_int (mv 1)) (mv 1))) (mv 1)) me_int) pa_nil)) me_int))
  (pss_cons (ps_set (i := 2) nd rfl (by first | exact Or.inl rfl | exact Or.inr rfl) (pe_op op_modM (pe_callTy call_intM (by rfl) T.f_int (by decide +kernel) (pa_cons (pe_op op_addM (pe_op op_mulM (mv 2) (mv 2)) me_int) pa_nil)) me_int))
  (pss_one (ps_ret (pe_op op_modM (pe_callTy call_intM (by rfl) T.f_int (by decide +kernel) (pa_cons (pe_op op_mulM (mv 2) me_int) pa_nil)) me_int)))))), pu vs H Q E h⟩
abbrev s__law_generator : Stmt := top 18
theorem sc__law_generator : FnScope N__law_generator ["_law_script", "_law_index"] (defScope s__law_generator) := ⟨rfl, rfl, rfl, by decide +kernel, rfl, by decide +kernel, by decide +kernel⟩
theorem ok__law_generator {k : Nat} {sp : Sp} {sp__law_cell : Sp} {k__law_cell : Nat} {p__law_cell : List Str} (F : FunD K "_law_generator" "_law_generator" (defArgs s__law_generator) (defBody s__law_generator) (defScope s__law_generator) [] [] f fd) (T : Tx K mg) (C__law_cell : CalG P w K mg base CX0 "_law_cell" k__law_cell p__law_cell [] sp__law_cell) (l__law_cell : k__law_cell ≤ k)
    (len : ∀ vs H Q E, sp vs H Q E → vs.length = 2) (pu : ∀ vs H Q E, sp vs H Q E → rd__law_generator K sp__law_cell { nx := fun _ H' => Q .non H', rt := Q } (start N__law_generator vs) H) :
    FnG P w K mg base CX0 (k + 1) f fd ["_law_script", "_law_index"] sp :=
  okG F sc__law_generator len fun cdv A outer s H vs Q E hr h => ⟨rd__law_generator K sp__law_cell, PSs.nox (
    have nd := sc__law_generator.nd
    let N := N__law_generator
    let scope := defScope s__law_generator
    (pss_cons (ps_set (i := 2) nd rfl (by first | exact Or.inl rfl | exact Or.inr rfl) (me_callG C__law_cell (hr.mono l__law_cell) (by rfl) pass0 (pa_cons (mv 0) (pa_cons (mv 1) pa_nil))))
  (pss_one (ps_ret (pe_lst (pa_cons (pe_op op_modM (pe_callTy call_intM (by rfl) T.f_int (by decide +kernel) (pa_cons (pe_callB (call_maxM rfl) (by rfl) T.f_max (by decide +kernel) (pa_cons (pe_op op_subM (mv 2) (pe_op op_powM me_int me_int)) (pa_cons me_int pa_nil))) pa_nil)) (pe_op op_powM (pe_op op_powM me_int me_int) me_int)) (pa_cons (pe_op op_modM (pe_callTy call_intM (by rfl) T.f_int (by decide +kernel) (pa_cons (mv 2) pa_nil)) me_int) (pa_cons (pe_op op_mulM me_int (mv 1)) pa_nil)))))))), pu vs H Q E h⟩
abbrev s__law_random : Stmt := top 19
theorem sc__law_random : FnScope N__law_random ["_law_generator_here", "_law_bound"] (defScope s__law_random) := ⟨rfl, rfl, rfl, by decide +kernel, rfl, by decide +kernel, by decide +kernel⟩
theorem ok__law_random {k : Nat} {sp : Sp} {sp__law_hash : Sp} {k__law_hash : Nat} {p__law_hash : List Str} (F : FunD K "_law_random" "_law_random" (defArgs s__law_random) (defBody s__law_random) (defScope s__law_random) [] [] f fd) (T : Tx K mg) (C__law_hash : CalG P w K mg base CX0 "_law_hash" k__law_hash p__law_hash [] sp__law_hash) (l__law_hash : k__law_hash ≤ k)
    (len : ∀ vs H Q E, sp vs H Q E → vs.length = 2) (pu : ∀ vs H Q E, sp vs H Q E → rd__law_random K sp__law_hash { nx := fun _ H' => Q .non H', rt := Q } (start N__law_random vs) H) :
    FnG P w K mg base CX0 (k + 1) f fd ["_law_generator_here", "_law_bound"] sp :=
  okG F sc__law_random len fun cdv A outer s H vs Q E hr h => ⟨rd__law_random K sp__law_hash, PSs.nox (
    have nd := sc__law_random.nd
    let N := N__law_random
    let scope := defScope s__law_random
    (pss_cons (ps_if (mt_cmp op_gtM (me_ix (mv 0) me_int (fun _ _ => rfl)) me_int (by rfl)) (pss_cons (ps_set (i := 2) nd rfl (by first | exact Or.inl rfl | exact Or.inr rfl) (pe_op op_modM (pe_callTy call_intM (by rfl) T.f_int (by decide +kernel) (pa_cons (me_ix (mv 0) me_int (fun _ _ => rfl)) pa_nil)) (mv 1)))
  (pss_cons (ps_asg (pe_op op_divM (me_ix (mv 0) me_int (fun _ _ => rfl)) (mv 1)) (pg_sub (mv 0) me_int set_listM))
  (pss_one (ps_ret (mv 2))))) pss_nil)
  (pss_cons (ps_set (i := 2) nd rfl (by first | exact Or.inl rfl | exact Or.inr rfl) me_int)
  (pss_cons (ms_for PassesOwn.never rfl (pi_rng1M (by rfl) T.f_range (pe_op op_addM me_int (pe_op op_divM (me_bits (mv 1)) me_int))) (pg_name (i := 3) nd rfl (by first | exact Or.inl rfl | exact Or.inr rfl)) (pss_cons (ps_asg (pe_op op_addM (me_ix (mv 0) me_int (fun _ _ => rfl)) me_int) (pg_sub (mv 0) me_int set_listM))
  (pss_one (ps_set (i := 2) nd rfl (by first | exact Or.inl rfl | exact Or.inr rfl) (pe_op op_addM (pe_op op_mulM (mv 2) me_int) (me_callG C__law_hash (hr.mono l__law_hash) (by rfl) pass0 (pa_cons (me_ix (mv 0) me_int (fun _ _ => rfl)) (pa_cons (me_ix (mv 0) me_int (fun _ _ => rfl)) pa_nil))))))))
  (pss_one (ps_ret (pe_op op_modM (pe_callTy call_intM (by rfl) T.f_int (by decide +kernel) (pa_cons (mv 2) pa_nil)) (mv 1)))))))), pu vs H Q E h⟩
abbrev s__law_kinds : Stmt := top 20
theorem sc__law_kinds : FnScope N__law_kinds ["_law_error"] (defScope s__law_kinds) := ⟨rfl, rfl, rfl, by decide +kernel, rfl, by decide +kernel, by decide +kernel⟩
theorem ok__law_kinds {k : Nat} {sp : Sp} {a_InvalidNumber : Addr} {a_InvalidAddress : Addr} {a_InvalidTree : Addr} {a_InvalidMove : Addr} {a_InvalidScript : Addr} {a_InvalidList : Addr} {a_NotCarried : Addr} {a_CannotMove : Addr} {a_CannotTurn : Addr} {a_UnknownName : Addr} {a_TakenName : Addr} {a_InvalidName : Addr} {a_NothingToUndo : Addr} {a_TurnError : Addr} (F : FunD K "_law_kinds" "_law_kinds" (defArgs s__law_kinds) (defBody s__law_kinds) (defScope s__law_kinds) [] [] f fd) (T : Tx K mg) (X_InvalidNumber : ExcAt P w K mg "InvalidNumber" "value" a_InvalidNumber) (X_InvalidAddress : ExcAt P w K mg "InvalidAddress" "value" a_InvalidAddress) (X_InvalidTree : ExcAt P w K mg "InvalidTree" "value" a_InvalidTree) (X_InvalidMove : ExcAt P w K mg "InvalidMove" "value" a_InvalidMove) (X_InvalidScript : ExcAt P w K mg "InvalidScript" "value" a_InvalidScript) (X_InvalidList : ExcAt P w K mg "InvalidList" "value" a_InvalidList) (X_NotCarried : ExcAt P w K mg "NotCarried" "address" a_NotCarried) (X_CannotMove : ExcAt P w K mg "CannotMove" "value" a_CannotMove) (X_CannotTurn : ExcAt P w K mg "CannotTurn" "place" a_CannotTurn) (X_UnknownName : ExcAt P w K mg "UnknownName" "name" a_UnknownName) (X_TakenName : ExcAt P w K mg "TakenName" "name" a_TakenName) (X_InvalidName : ExcAt P w K mg "InvalidName" "name" a_InvalidName) (G_NothingToUndo : mg "NothingToUndo" = some (.ref a_NothingToUndo)) (G_TurnError : mg "TurnError" = some (.ref a_TurnError)) 
    (len : ∀ vs H Q E, sp vs H Q E → vs.length = 1) (pu : ∀ vs H Q E, sp vs H Q E → rd__law_kinds K a_InvalidNumber a_InvalidAddress a_InvalidTree a_InvalidMove a_InvalidScript a_InvalidList a_NotCarried a_CannotMove a_CannotTurn a_UnknownName a_TakenName a_InvalidName a_NothingToUndo a_TurnError { nx := fun _ H' => Q .non H', rt := Q } (start N__law_kinds vs) H) :
    FnG P w K mg base CX0 (k + 1) f fd ["_law_error"] sp :=
  okG F sc__law_kinds len fun cdv A outer s H vs Q E hr h => ⟨rd__law_kinds K a_InvalidNumber a_InvalidAddress a_InvalidTree a_InvalidMove a_InvalidScript a_InvalidList a_NotCarried a_CannotMove a_CannotTurn a_UnknownName a_TakenName a_InvalidName a_NothingToUndo a_TurnError, PSs.nox (
    have nd := sc__law_kinds.nd
    let N := N__law_kinds
    let scope := defScope s__law_kinds
    (pss_cons (ps_set (i := 1) nd rfl (by first | exact Or.inl rfl | exact Or.inr rfl) (pe_lst (pa_cons (pe_callB call_isiV (by rfl) T.f_isinstance (by decide +kernel) (pa_cons (mv 0) (pa_cons (pe_glob (v := .ref a_InvalidTree) (by rfl) X_InvalidTree.gC rfl) pa_nil))) (pa_cons (pe_callB call_isiV (by rfl) T.f_isinstance (by decide +kernel) (pa_cons (mv 0) (pa_cons (pe_glob (v := .ref a_InvalidAddress) (by rfl) X_InvalidAddress.gC rfl) pa_nil))) (pa_cons (pe_callB call_isiV (by rfl) T.f_isinstance (by decide +kernel) (pa_cons (mv 0) (pa_cons (pe_glob (v := .ref a_InvalidNumber) (by rfl) X_InvalidNumber.gC rfl) pa_nil))) pa_nil)))))
  (pss_cons (ps_set (i := 1) nd rfl (by first | exact Or.inl rfl | exact Or.inr rfl) (pe_op op_addM (mv 1) (pe_lst (pa_cons (pe_callB call_isiV (by rfl) T.f_isinstance (by decide +kernel) (pa_cons (mv 0) (pa_cons (pe_glob (v := .ref a_InvalidList) (by rfl) X_InvalidList.gC rfl) pa_nil))) (pa_cons (pe_callB call_isiV (by rfl) T.f_isinstance (by decide +kernel) (pa_cons (mv 0) (pa_cons (pe_glob (v := .ref a_InvalidScript) (by rfl) X_InvalidScript.gC rfl) pa_nil))) (pa_cons (pe_callB call_isiV (by rfl) T.f_isinstance (by decide +kernel) (pa_cons (mv 0) (pa_cons (pe_glob (v := .ref a_InvalidMove) (by rfl) X_InvalidMove.gC rfl) pa_nil))) pa_nil))))))
  (pss_cons (ps_set (i := 1) nd rfl (by first | exact Or.inl rfl | exact Or.inr rfl) (pe_op op_addM (mv 1) (pe_lst (pa_cons (pe_callB call_isiV (by rfl) T.f_isinstance (by decide +kernel) (pa_cons (mv 0) (pa_cons (pe_glob (v := .ref a_CannotTurn) (by rfl) X_CannotTurn.gC rfl) pa_nil))) (pa_cons (pe_callB call_isiV (by rfl) T.f_isinstance (by decide +kernel) (pa_cons (mv 0) (pa_cons (pe_glob (v := .ref a_CannotMove) (by rfl) X_CannotMove.gC rfl) pa_nil))) (pa_cons (pe_callB call_isiV (by rfl) T.f_isinstance (by decide +kernel) (pa_cons (mv 0) (pa_cons (pe_glob (v := .ref a_NotCarried) (by rfl) X_NotCarried.gC rfl) pa_nil))) pa_nil))))))
  (pss_cons (ps_set (i := 1) nd rfl (by first | exact Or.inl rfl | exact Or.inr rfl) (pe_op op_addM (mv 1) (pe_lst (pa_cons (pe_callB call_isiV (by rfl) T.f_isinstance (by decide +kernel) (pa_cons (mv 0) (pa_cons (pe_glob (v := .ref a_InvalidName) (by rfl) X_InvalidName.gC rfl) pa_nil))) (pa_cons (pe_callB call_isiV (by rfl) T.f_isinstance (by decide +kernel) (pa_cons (mv 0) (pa_cons (pe_glob (v := .ref a_TakenName) (by rfl) X_TakenName.gC rfl) pa_nil))) (pa_cons (pe_callB call_isiV (by rfl) T.f_isinstance (by decide +kernel) (pa_cons (mv 0) (pa_cons (pe_glob (v := .ref a_UnknownName) (by rfl) X_UnknownName.gC rfl) pa_nil))) pa_nil))))))
  (pss_cons (ps_expr (me_append (mv 1) (pe_callB call_isiV (by rfl) T.f_isinstance (by decide +kernel) (pa_cons (mv 0) (pa_cons (pe_glob (v := .ref a_NothingToUndo) (by rfl) G_NothingToUndo rfl) pa_nil)))))
  (pss_cons (ps_if (PW.pt (pw_or (pt_not (mt_val (pe_callB call_isiV (by rfl) T.f_isinstance (by decide +kernel) (pa_cons (mv 0) (pa_cons (pe_glob (v := .ref a_TurnError) (by rfl) G_TurnError rfl) pa_nil))))) (pw_or1 (pt_not (mt_val (pe_callB call_isiV (by rfl) T.f_isinstance (by decide +kernel) (pa_cons (mv 0) (pa_cons (me_ty "ValueError" (by rfl) T.f_ValueError (by decide +kernel)) pa_nil)))))))) (pss_one (ps_ret (pe_lst pa_nil))) pss_nil)
  (pss_one (ps_ret (me_lc (own := [("_law_index", 2)]) rfl nd (pi_rng1M (by rfl) T.f_range me_int) (blkOk_by (own := [("_law_index", 2)]) (N := N) (sc := scope) (by decide +kernel)) (fun _ _ _ _ _ => (pg_name (i := 2) nd rfl (by first | exact Or.inl rfl | exact Or.inr rfl))) (fun _ _ _ _ _ => (pts_one (mt_val (me_ix (mv 1) (mv 2) (fun _ _ => rfl))))) (fun _ _ _ _ _ => (mv 2)))))))))))), pu vs H Q E h⟩
abbrev s__law_fields : Stmt := top 21
theorem sc__law_fields : FnScope N__law_fields ["_law_errors"] (defScope s__law_fields) := ⟨rfl, rfl, rfl, by decide +kernel, rfl, by decide +kernel, by decide +kernel⟩
theorem ok__law_fields {k : Nat} {sp : Sp}  (F : FunD K "_law_fields" "_law_fields" (defArgs s__law_fields) (defBody s__law_fields) (defScope s__law_fields) [] [] f fd) (T : Tx K mg)  
    (len : ∀ vs H Q E, sp vs H Q E → vs.length = 1) (pu : ∀ vs H Q E, sp vs H Q E → rd__law_fields K { nx := fun _ H' => Q .non H', rt := Q } (start N__law_fields vs) H) :
    FnG P w K mg base CX0 (k + 1) f fd ["_law_errors"] sp :=
  okG F sc__law_fields len fun cdv A outer s H vs Q E hr h => ⟨rd__law_fields K, PSs.nox (
    have nd := sc__law_fields.nd
    let N := N__law_fields
    let scope := defScope s__law_fields
    (pss_cons (ps_set (i := 1) nd rfl (by first | exact Or.inl rfl | exact Or.inr rfl) (pe_op op_addM (me_lc (own := [("_law_error", 2)]) rfl nd (pi_iterM (me_slice (mv 0) po_none (mo_some me_int))) (blkOk_by (own := [("_law_error", 2)]) (N := N) (sc := scope) (by decide +kernel)) (fun _ _ _ _ _ => (pg_name (i := 2) nd rfl (by first | exact Or.inl rfl | exact Or.inr rfl))) (fun _ _ _ _ _ => pts_nil) (fun _ _ _ _ _ => (me_fld (mv 2)))) (pe_lst (pa_cons (me_fld (me_ix (mv 0) me_int (fun _ _ => rfl))) (pa_cons (me_fld (me_ix (mv 0) me_int (fun _ _ => rfl))) (pa_cons (me_fld (me_ix (mv 0) me_int (fun _ _ => rfl))) pa_nil))))))
  (pss_one (ps_ret (pe_op op_addM (mv 1) (me_lc (own := [("_law_error", 2)]) rfl nd (pi_iterM (me_slice (mv 0) (mo_some me_int) po_none)) (blkOk_by (own := [("_law_error", 2)]) (N := N) (sc := scope) (by decide +kernel)) (fun _ _ _ _ _ => (pg_name (i := 2) nd rfl (by first | exact Or.inl rfl | exact Or.inr rfl))) (fun _ _ _ _ _ => pts_nil) (fun _ _ _ _ _ => (me_fld (mv 2))))))))), pu vs H Q E h⟩
abbrev s__law_right : Stmt := top 22
theorem sc__law_right : FnScope N__law_right ["_law_errors", "_law_wanted"] (defScope s__law_right) := ⟨rfl, rfl, rfl, by decide +kernel, rfl, by decide +kernel, by decide +kernel⟩
theorem ok__law_right {k : Nat} {sp : Sp} {sp__law_kinds : Sp} {sp__law_fields : Sp} {k__law_kinds : Nat} {p__law_kinds : List Str} {k__law_fields : Nat} {p__law_fields : List Str} (F : FunD K "_law_right" "_law_right" (defArgs s__law_right) (defBody s__law_right) (defScope s__law_right) [] [] f fd) (T : Tx K mg) (C__law_kinds : CalG P w K mg base CX0 "_law_kinds" k__law_kinds p__law_kinds [] sp__law_kinds) (C__law_fields : CalG P w K mg base CX0 "_law_fields" k__law_fields p__law_fields [] sp__law_fields) (l__law_kinds : k__law_kinds ≤ k) (l__law_fields : k__law_fields ≤ k)
    (len : ∀ vs H Q E, sp vs H Q E → vs.length = 2) (pu : ∀ vs H Q E, sp vs H Q E → rd__law_right K sp__law_kinds sp__law_fields { nx := fun _ H' => Q .non H', rt := Q } (start N__law_right vs) H) :
    FnG P w K mg base CX0 (k + 1) f fd ["_law_errors", "_law_wanted"] sp :=
  okG F sc__law_right len fun cdv A outer s H vs Q E hr h => ⟨rd__law_right K sp__law_kinds sp__law_fields, PSs.nox (
    have nd := sc__law_right.nd
    let N := N__law_right
    let scope := defScope s__law_right
    (pss_cons (ps_if (mt_cmp (op_neM hr.units) (me_lc (own := [("_law_error", 2)]) rfl nd (pi_iterM (mv 0)) (blkOk_by (own := [("_law_error", 2)]) (N := N) (sc := scope) (by decide +kernel)) (fun _ _ _ _ _ => (pg_name (i := 2) nd rfl (by first | exact Or.inl rfl | exact Or.inr rfl))) (fun _ _ _ _ _ => pts_nil) (fun _ _ _ _ _ => (me_callG C__law_kinds (hr.mono l__law_kinds) (by rfl) pass0 (pa_cons (mv 2) pa_nil)))) (me_lc (own := [("_law_index", 3)]) rfl nd (pi_rng1M (by rfl) T.f_range me_int) (blkOk_by (own := [("_law_index", 3)]) (N := N) (sc := scope) (by decide +kernel)) (fun _ _ _ _ _ => (pg_name (i := 3) nd rfl (by first | exact Or.inl rfl | exact Or.inr rfl))) (fun _ _ _ _ _ => pts_nil) (fun _ _ _ _ _ => (pe_lst (pa_cons (mv 3) pa_nil)))) (by rfl)) (pss_one (ps_ret me_bl)) pss_nil)
  (pss_one (ps_ret (pe_cmpR (op_eqM hr.units) (pe_callB (call_reprG T.sm hr) (by rfl) T.f_repr (by decide +kernel) (pa_cons (me_callG C__law_fields (hr.mono l__law_fields) (by rfl) pass0 (pa_cons (mv 0) pa_nil)) pa_nil)) (pe_callB (call_reprG T.sm hr) (by rfl) T.f_repr (by decide +kernel) (pa_cons (pe_op op_mulM (pe_lst (pa_cons (mv 1) pa_nil)) me_int) pa_nil)) (by rfl)))))), pu vs H Q E h⟩
abbrev s__law_placed : Stmt := top 23
theorem sc__law_placed : FnScope N__law_placed ["_law_given"] (defScope s__law_placed) := ⟨rfl, rfl, rfl, by decide +kernel, rfl, by decide +kernel, by decide +kernel⟩
theorem ok__law_placed {k : Nat} {sp : Sp} {a_InvalidList : Addr} {a_InvalidNumber : Addr} {a_InvalidAddress : Addr} {a_InvalidTree : Addr} {a_CannotMove : Addr} {a_CannotTurn : Addr} {a_InvalidMove : Addr} {a_InvalidScript : Addr} {a_UnknownName : Addr} {a_TakenName : Addr} {a_InvalidName : Addr} {a_NotCarried : Addr} (F : FunD K "_law_placed" "_law_placed" (defArgs s__law_placed) (defBody s__law_placed) (defScope s__law_placed) [] [] f fd) (T : Tx K mg) (X_InvalidList : ExcAt P w K mg "InvalidList" "value" a_InvalidList) (X_InvalidNumber : ExcAt P w K mg "InvalidNumber" "value" a_InvalidNumber) (X_InvalidAddress : ExcAt P w K mg "InvalidAddress" "value" a_InvalidAddress) (X_InvalidTree : ExcAt P w K mg "InvalidTree" "value" a_InvalidTree) (X_CannotMove : ExcAt P w K mg "CannotMove" "value" a_CannotMove) (X_CannotTurn : ExcAt P w K mg "CannotTurn" "place" a_CannotTurn) (X_InvalidMove : ExcAt P w K mg "InvalidMove" "value" a_InvalidMove) (X_InvalidScript : ExcAt P w K mg "InvalidScript" "value" a_InvalidScript) (X_UnknownName : ExcAt P w K mg "UnknownName" "name" a_UnknownName) (X_TakenName : ExcAt P w K mg "TakenName" "name" a_TakenName) (X_InvalidName : ExcAt P w K mg "InvalidName" "name" a_InvalidName) (X_NotCarried : ExcAt P w K mg "NotCarried" "address" a_NotCarried) 
    (len : ∀ vs H Q E, sp vs H Q E → vs.length = 1) (pu : ∀ vs H Q E, sp vs H Q E → rd__law_placed K a_InvalidList a_InvalidNumber a_InvalidAddress a_InvalidTree a_CannotMove a_CannotTurn a_InvalidMove a_InvalidScript a_UnknownName a_TakenName a_InvalidName a_NotCarried { nx := fun _ H' => Q .non H', rt := Q } (start N__law_placed vs) H) :
    FnG P w K mg base CX0 (k + 1) f fd ["_law_given"] sp :=
  okG F sc__law_placed len fun cdv A outer s H vs Q E hr h => ⟨rd__law_placed K a_InvalidList a_InvalidNumber a_InvalidAddress a_InvalidTree a_CannotMove a_CannotTurn a_InvalidMove a_InvalidScript a_UnknownName a_TakenName a_InvalidName a_NotCarried, PSs.nox (
    have nd := sc__law_placed.nd
    let N := N__law_placed
    let scope := defScope s__law_placed
    (pss_cons (ps_set (i := 1) nd rfl (by first | exact Or.inl rfl | exact Or.inr rfl) (pe_lst (pa_cons (me_ex X_InvalidTree hr.r0 (by rfl) (pa_cons (mv 0) pa_nil)) (pa_cons (me_ex X_InvalidAddress hr.r0 (by rfl) (pa_cons (mv 0) pa_nil)) (pa_cons (me_ex X_InvalidNumber hr.r0 (by rfl) (pa_cons (mv 0) pa_nil)) (pa_cons (me_ex X_InvalidList hr.r0 (by rfl) (pa_cons (mv 0) pa_nil)) pa_nil))))))
  (pss_cons (ps_set (i := 1) nd rfl (by first | exact Or.inl rfl | exact Or.inr rfl) (pe_op op_addM (mv 1) (pe_lst (pa_cons (me_ex X_InvalidScript hr.r0 (by rfl) (pa_cons (mv 0) pa_nil)) (pa_cons (me_ex X_InvalidMove hr.r0 (by rfl) (pa_cons (mv 0) pa_nil)) (pa_cons (me_ex X_CannotTurn hr.r0 (by rfl) (pa_cons (mv 0) pa_nil)) (pa_cons (me_ex X_CannotMove hr.r0 (by rfl) (pa_cons (mv 0) pa_nil)) pa_nil)))))))
  (pss_one (ps_ret (pe_op op_addM (mv 1) (pe_lst (pa_cons (me_ex X_NotCarried hr.r0 (by rfl) (pa_cons (mv 0) pa_nil)) (pa_cons (me_ex X_InvalidName hr.r0 (by rfl) (pa_cons (mv 0) pa_nil)) (pa_cons (me_ex X_TakenName hr.r0 (by rfl) (pa_cons (mv 0) pa_nil)) (pa_cons (me_ex X_UnknownName hr.r0 (by rfl) (pa_cons (mv 0) pa_nil)) pa_nil))))))))))), pu vs H Q E h⟩
abbrev s__law_given_right : Stmt := top 24
theorem sc__law_given_right : FnScope N__law_given_right ["_law_given"] (defScope s__law_given_right) := ⟨rfl, rfl, rfl, by decide +kernel, rfl, by decide +kernel, by decide +kernel⟩
theorem ok__law_given_right {k : Nat} {sp : Sp} {sp__law_placed : Sp} {sp__law_right : Sp} {k__law_placed : Nat} {p__law_placed : List Str} {k__law_right : Nat} {p__law_right : List Str} {a_InvalidNumber : Addr} {a_InvalidAddress : Addr} {a_InvalidTree : Addr} {a_InvalidMove : Addr} {a_InvalidScript : Addr} {a_InvalidList : Addr} {a_NotCarried : Addr} {a_CannotMove : Addr} {a_CannotTurn : Addr} {a_UnknownName : Addr} {a_TakenName : Addr} {a_InvalidName : Addr} (F : FunD K "_law_given_right" "_law_given_right" (defArgs s__law_given_right) (defBody s__law_given_right) (defScope s__law_given_right) [] [] f fd) (T : Tx K mg) (C__law_placed : CalG P w K mg base CX0 "_law_placed" k__law_placed p__law_placed [] sp__law_placed) (C__law_right : CalG P w K mg base CX0 "_law_right" k__law_right p__law_right [] sp__law_right) (X_InvalidNumber : ExcAt P w K mg "InvalidNumber" "value" a_InvalidNumber) (X_InvalidAddress : ExcAt P w K mg "InvalidAddress" "value" a_InvalidAddress) (X_InvalidTree : ExcAt P w K mg "InvalidTree" "value" a_InvalidTree) (X_InvalidMove : ExcAt P w K mg "InvalidMove" "value" a_InvalidMove) (X_InvalidScript : ExcAt P w K mg "InvalidScript" "value" a_InvalidScript) (X_InvalidList : ExcAt P w K mg "InvalidList" "value" a_InvalidList) (X_NotCarried : ExcAt P w K mg "NotCarried" "address" a_NotCarried) (X_CannotMove : ExcAt P w K mg "CannotMove" "value" a_CannotMove) (X_CannotTurn : ExcAt P w K mg "CannotTurn" "place" a_CannotTurn) (X_UnknownName : ExcAt P w K mg "UnknownName" "name" a_UnknownName) (X_TakenName : ExcAt P w K mg "TakenName" "name" a_TakenName) (X_InvalidName : ExcAt P w K mg "InvalidName" "name" a_InvalidName) (l__law_placed : k__law_placed ≤ k) (l__law_right : k__law_right ≤ k)
    (len : ∀ vs H Q E, sp vs H Q E → vs.length = 1) (pu : ∀ vs H Q E, sp vs H Q E → rd__law_given_right K sp__law_placed sp__law_right a_InvalidNumber a_InvalidAddress a_InvalidTree a_InvalidMove a_InvalidScript a_InvalidList a_NotCarried a_CannotMove a_CannotTurn a_UnknownName a_TakenName a_InvalidName { nx := fun _ H' => Q .non H', rt := Q } (start N__law_given_right vs) H) :
    FnG P w K mg base CX0 (k + 1) f fd ["_law_given"] sp :=
  okG F sc__law_given_right len fun cdv A outer s H vs Q E hr h => ⟨rd__law_given_right K sp__law_placed sp__law_right a_InvalidNumber a_InvalidAddress a_InvalidTree a_InvalidMove a_InvalidScript a_InvalidList a_NotCarried a_CannotMove a_CannotTurn a_UnknownName a_TakenName a_InvalidName, PSs.nox (
    have nd := sc__law_given_right.nd
    let N := N__law_given_right
    let scope := defScope s__law_given_right
    (pss_cons (ps_set (i := 1) nd rfl (by first | exact Or.inl rfl | exact Or.inr rfl) (pe_lst (pa_cons (me_exK X_InvalidTree hr.r0 (by rfl) (pk_cons (mv 0) pk_nil)) (pa_cons (me_exK X_InvalidAddress hr.r0 (by rfl) (pk_cons (mv 0) pk_nil)) (pa_cons (me_exK X_InvalidNumber hr.r0 (by rfl) (pk_cons (mv 0) pk_nil)) pa_nil)))))
  (pss_cons (ps_set (i := 1) nd rfl (by first | exact Or.inl rfl | exact Or.inr rfl) (pe_op op_addM (mv 1) (pe_lst (pa_cons (me_exK X_InvalidList hr.r0 (by rfl) (pk_cons (mv 0) pk_nil)) (pa_cons (me_exK X_InvalidScript hr.r0 (by rfl) (pk_cons (mv 0) pk_nil)) (pa_cons (me_exK X_InvalidMove hr.r0 (by rfl) (pk_cons (mv 0) pk_nil)) pa_nil))))))
  (pss_cons (ps_set (i := 1) nd rfl (by first | exact Or.inl rfl | exact Or.inr rfl) (pe_op op_addM (mv 1) (pe_lst (pa_cons (me_exK X_CannotTurn hr.r0 (by rfl) (pk_cons (mv 0) pk_nil)) (pa_cons (me_exK X_CannotMove hr.r0 (by rfl) (pk_cons (mv 0) pk_nil)) (pa_cons (me_exK X_NotCarried hr.r0 (by rfl) (pk_cons (mv 0) pk_nil)) pa_nil))))))
  (pss_cons (ps_set (i := 1) nd rfl (by first | exact Or.inl rfl | exact Or.inr rfl) (pe_op op_addM (mv 1) (pe_lst (pa_cons (me_exK X_InvalidName hr.r0 (by rfl) (pk_cons (mv 0) pk_nil)) (pa_cons (me_exK X_TakenName hr.r0 (by rfl) (pk_cons (mv 0) pk_nil)) (pa_cons (me_exK X_UnknownName hr.r0 (by rfl) (pk_cons (mv 0) pk_nil)) pa_nil))))))
  (pss_cons (ps_set (i := 2) nd rfl (by first | exact Or.inl rfl | exact Or.inr rfl) (me_callG C__law_placed (hr.mono l__law_placed) (by rfl) pass0 (pa_cons (mv 0) pa_nil)))
  (pss_cons (ps_if (PW.pt (pw_or (pt_not (mt_val (me_callG C__law_right (hr.mono l__law_right) (by rfl) pass0 (pa_cons (mv 1) (pa_cons (mv 0) pa_nil))))) (pw_or1 (pt_not (mt_val (me_callG C__law_right (hr.mono l__law_right) (by rfl) pass0 (pa_cons (mv 2) (pa_cons (mv 0) pa_nil)))))))) (pss_one (ps_ret me_bl)) pss_nil)
  (pss_cons (ps_if (mt_val (pe_callB call_isiM (by rfl) T.f_isinstance (by decide +kernel) (pa_cons (mv 0) (pa_cons (me_ty "list" (by rfl) T.f_list (by decide +kernel)) pa_nil)))) (pss_one (ps_expr (me_append (mv 0) (me_str [109, 111, 114, 101] (by rfl))))) pss_nil)
  (pss_one (ps_ret (me_and (me_callG C__law_right (hr.mono l__law_right) (by rfl) pass0 (pa_cons (mv 1) (pa_cons (mv 0) pa_nil))) (pe_one (me_callG C__law_right (hr.mono l__law_right) (by rfl) pass0 (pa_cons (mv 2) (pa_cons (mv 0) pa_nil))))))))))))))), pu vs H Q E h⟩
abbrev s_law : Stmt := top 25
theorem sc_law : FnScope N_law ["_law_script"] (defScope s_law) := ⟨rfl, rfl, rfl, by decide +kernel, rfl, by decide +kernel, by decide +kernel⟩
theorem ok_law {k : Nat} {sp : Sp} {sp__law_random : Sp} {sp__law_generator : Sp} {sp__law_placed : Sp} {sp__law_given_right : Sp} {sp__law_right : Sp} {sp__law_kinds : Sp} {k__law_generator : Nat} {p__law_generator : List Str} {k__law_random : Nat} {p__law_random : List Str} {k__law_placed : Nat} {p__law_placed : List Str} {k__law_given_right : Nat} {p__law_given_right : List Str} {k__law_right : Nat} {p__law_right : List Str} {k__law_kinds : Nat} {p__law_kinds : List Str} {a_InvalidMove : Addr} {a_InvalidScript : Addr} {a_InvalidList : Addr} {a_InvalidNumber : Addr} {a_InvalidAddress : Addr} {a_InvalidTree : Addr} {a_UnknownName : Addr} {a_TakenName : Addr} {a_InvalidName : Addr} {a_NotCarried : Addr} {a_CannotMove : Addr} {a_CannotTurn : Addr} {a_NothingToUndo : Addr} (F : FunD K "law" "law" (defArgs s_law) (defBody s_law) (defScope s_law) [] [] f fd) (T : Tx K mg) (C__law_generator : CalG P w K mg base CX0 "_law_generator" k__law_generator p__law_generator [] sp__law_generator) (C__law_random : CalG P w K mg base CX0 "_law_random" k__law_random p__law_random [] sp__law_random) (C__law_placed : CalG P w K mg base CX0 "_law_placed" k__law_placed p__law_placed [] sp__law_placed) (C__law_given_right : CalG P w K mg base CX0 "_law_given_right" k__law_given_right p__law_given_right [] sp__law_given_right) (C__law_right : CalG P w K mg base CX0 "_law_right" k__law_right p__law_right [] sp__law_right) (C__law_kinds : CalG P w K mg base CX0 "_law_kinds" k__law_kinds p__law_kinds [] sp__law_kinds) (X_InvalidMove : ExcAt P w K mg "InvalidMove" "value" a_InvalidMove) (X_InvalidScript : ExcAt P w K mg "InvalidScript" "value" a_InvalidScript) (X_InvalidList : ExcAt P w K mg "InvalidList" "value" a_InvalidList) (X_InvalidNumber : ExcAt P w K mg "InvalidNumber" "value" a_InvalidNumber) (X_InvalidAddress : ExcAt P w K mg "InvalidAddress" "value" a_InvalidAddress) (X_InvalidTree : ExcAt P w K mg "InvalidTree" "value" a_InvalidTree) (X_UnknownName : ExcAt P w K mg "UnknownName" "name" a_UnknownName) (X_TakenName : ExcAt P w K mg "TakenName" "name" a_TakenName) (X_InvalidName : ExcAt P w K mg "InvalidName" "name" a_InvalidName) (X_NotCarried : ExcAt P w K mg "NotCarried" "address" a_NotCarried) (X_CannotMove : ExcAt P w K mg "CannotMove" "value" a_CannotMove) (X_CannotTurn : ExcAt P w K mg "CannotTurn" "place" a_CannotTurn) (G_NothingToUndo : mg "NothingToUndo" = some (.ref a_NothingToUndo)) (q_NothingToUndo : ExN K a_NothingToUndo) (l__law_generator : k__law_generator ≤ k) (l__law_random : k__law_random ≤ k) (l__law_placed : k__law_placed ≤ k) (l__law_given_right : k__law_given_right ≤ k) (l__law_right : k__law_right ≤ k) (l__law_kinds : k__law_kinds ≤ k)
    (len : ∀ vs H Q E, sp vs H Q E → vs.length = 1) (pu : ∀ vs H Q E, sp vs H Q E → rd_law K sp__law_random sp__law_generator sp__law_placed sp__law_given_right sp__law_right sp__law_kinds a_InvalidMove a_InvalidScript a_InvalidList a_InvalidNumber a_InvalidAddress a_InvalidTree a_UnknownName a_TakenName a_InvalidName a_NotCarried a_CannotMove a_CannotTurn a_NothingToUndo { nx := fun _ H' => Q .non H', rt := Q } (start N_law vs) H) :
    FnG P w K mg base CX0 (k + 1) f fd ["_law_script"] sp :=
  okG F sc_law len fun cdv A outer s H vs Q E hr h => ⟨rd_law K sp__law_random sp__law_generator sp__law_placed sp__law_given_right sp__law_right sp__law_kinds a_InvalidMove a_InvalidScript a_InvalidList a_InvalidNumber a_InvalidAddress a_InvalidTree a_UnknownName a_TakenName a_InvalidName a_NotCarried a_CannotMove a_CannotTurn a_NothingToUndo, PSs.nox (
    have nd := sc_law.nd
    let N := N_law
    let scope := defScope s_law
    (pss_cons (ps_set (i := 1) nd rfl (by first | exact Or.inl rfl | exact Or.inr rfl) (me_callG C__law_random (hr.mono l__law_random) (by rfl) pass0 (pa_cons (me_callG C__law_generator (hr.mono l__law_generator) (by rfl) pass0 (pa_cons (mv 0) (pa_cons me_int pa_nil))) (pa_cons (pe_op op_powM me_int me_int) pa_nil))))
  (pss_cons (ps_set (i := 2) nd rfl (by first | exact Or.inl rfl | exact Or.inr rfl) (pe_lst (pa_cons (me_callG C__law_placed (hr.mono l__law_placed) (by rfl) pass0 (pa_cons (mv 1) pa_nil)) (pa_cons (me_callG C__law_placed (hr.mono l__law_placed) (by rfl) pass0 (pa_cons (me_str [107, 101, 112, 116] (by rfl)) pa_nil)) pa_nil))))
  (pss_cons (ms_for PassesOwn.never rfl (pi_iterM (pe_lst (pa_cons (mv 1) (pa_cons (pe_op op_subM me_int (mv 1)) (pa_cons (pe_tup (pa_cons (me_str [97] (by rfl)) (pa_cons (me_str [98] (by rfl)) pa_nil))) (pa_cons (pe_tup pa_nil) (pa_cons (pe_tup (pa_cons me_int (pa_cons me_int (pa_cons me_int pa_nil)))) (pa_cons (pe_lst (pa_cons me_int pa_nil)) (pa_cons pe_dnewK (pa_cons (me_str [97, 32, 98] (by rfl)) (pa_cons (me_str [] (by rfl)) (pa_cons me_bl (pa_cons me_non (pa_cons (pe_disp (pps_cons (me_str [97] (by rfl)) (mv 1) pps_nil) rfl rfl (by simp) (by decide)) pa_nil)))))))))))))) (pg_name (i := 3) nd rfl (by first | exact Or.inl rfl | exact Or.inr rfl)) (pss_one (ps_if (pt_not (mt_val (me_callG C__law_given_right (hr.mono l__law_given_right) (by rfl) pass0 (pa_cons (mv 3) pa_nil)))) (pss_one (ps_ret me_bl)) pss_nil)))
  (pss_cons (ps_set (i := 4) nd rfl (by first | exact Or.inl rfl | exact Or.inr rfl) (pe_lst (pa_cons (me_ex0 X_InvalidTree hr.r0 (by rfl)) (pa_cons (me_ex0 X_InvalidAddress hr.r0 (by rfl)) (pa_cons (me_ex0 X_InvalidNumber hr.r0 (by rfl)) (pa_cons (me_ex0 X_InvalidList hr.r0 (by rfl)) (pa_cons (me_ex0 X_InvalidScript hr.r0 (by rfl)) (pa_cons (me_ex0 X_InvalidMove hr.r0 (by rfl)) pa_nil))))))))
  (pss_cons (ps_set (i := 4) nd rfl (by first | exact Or.inl rfl | exact Or.inr rfl) (pe_op op_addM (mv 4) (pe_lst (pa_cons (me_ex0 X_CannotTurn hr.r0 (by rfl)) (pa_cons (me_ex0 X_CannotMove hr.r0 (by rfl)) (pa_cons (me_ex0 X_NotCarried hr.r0 (by rfl)) (pa_cons (me_ex0 X_InvalidName hr.r0 (by rfl)) (pa_cons (me_ex0 X_TakenName hr.r0 (by rfl)) (pa_cons (me_ex0 X_UnknownName hr.r0 (by rfl)) pa_nil)))))))))
  (pss_cons (ps_if (PW.pt (pw_or (pt_not (mt_val (me_callG C__law_right (hr.mono l__law_right) (by rfl) pass0 (pa_cons (me_ix (mv 2) me_int (fun _ _ => rfl)) (pa_cons (mv 1) pa_nil))))) (pw_or1 (pt_not (mt_val (me_callG C__law_right (hr.mono l__law_right) (by rfl) pass0 (pa_cons (me_ix (mv 2) me_int (fun _ _ => rfl)) (pa_cons (me_str [107, 101, 112, 116] (by rfl)) pa_nil)))))))) (pss_one (ps_ret me_bl)) pss_nil)
  (pss_one (ps_ret (me_and (me_callG C__law_right (hr.mono l__law_right) (by rfl) pass0 (pa_cons (mv 4) (pa_cons me_non pa_nil))) (pe_one (pe_cmpR (op_eqM hr.units) (me_callG C__law_kinds (hr.mono l__law_kinds) (by rfl) pass0 (pa_cons (me_exN q_NothingToUndo G_NothingToUndo (by rfl)) pa_nil)) (pe_lst (pa_cons me_int pa_nil)) (by rfl))))))))))))), pu vs H Q E h⟩
end
end Pf
namespace Pf
open PySem PySem.Spec PyProof.Rows L2 M
local macro_rules | `(tactic| walk_at "go") => `(tactic| try simp only [↓q_par, ↓q_par3, tSeq, tIfS, tIf, tNot, mTest, tCB, tCons, tNil, mVar, M.gt, mC, Bool.not_true, Bool.not_false, Bool.false_eq_true, if_false, if_true, tNext, tAsg, gName, gSub, List.set_cons_zero, List.set_cons_succ, mFor, mIter, mRevS, S_cps, S_len, S_app, tOp, tSl, mPart, mUn, tNoPart, tRet, tRetN, tTup, tLst, tAnd, tOr, mAndV, mOrV, mNotV, tCall, tCallSD, tDrop, mPar, mPar3, mLstM, mStrM, mBits, mRng1, mRng2, mgTup, mgSeq, mgCons, mgNil, q_add1, q_add2, q_add3, q_add4, q_iadd1, q_iadd2, q_iadd3, q_sorted, q_sub, q_mul1, q_mul2, q_mul3, q_mod, q_div, q_pow, q_eq1, q_eq2, q_eq3, q_eq4, q_eq5, q_eq6, q_eq7, q_eq8, q_eq9, q_eq10, q_ne1, q_ne2, q_ne3, q_ne9, q_ne10, q_lt, q_le, q_gt, q_ge, q_inc1, q_ix1, q_ix2, q_sl1, q_sl2, q_set, q_len1, q_len2, q_int1, q_int2, q_max, q_min, q_abs, q_sum, q_list, q_isi1, q_is1, q_not1, q_isN1, q_isN2, q_isN3, q_isN4, q_join, q_count, q_split, q_app, q_pop, q_clear, q_isiE, q_repr, q_nin1, q_intab, q_ninta, q_ixtab, wipe, List.map_cons, List.map_nil, List.length_cons, List.length_nil, List.length_append, List.length_map, List.nil_append, List.cons_append, List.append_nil, cut_m3, cut_t3, cut_m1, cut_t1, cut_t2, S_eq, decide_eq_true_eq, Bool.not_eq_true', decide_eq_false_iff_not, ne_eq])
def sp__law_cell (K : PySem.W.Frag) : Sp := fun vs H Q _ => ∃ (a : Addr) (ns : List Int) (i : Nat), vs = [.ref a, .int i] ∧ SqL K H a (ns.map V.int) ∧ ∀ r : Int, Q (.int r) H
theorem pu__law_cell (K : PySem.W.Frag) (vs : List V) (H : Hp) (Q : VK) (E : XK) (h : sp__law_cell K vs H Q E) : rd__law_cell K { nx := fun _ H' => Q .non H', rt := Q } (L2.start N__law_cell vs) H := by
  obtain ⟨a, ns, i, rfl, hL, k⟩ := h
  show rd__law_cell K _ [some _, some _] H
  unfold rd__law_cell
  walk_at "go"
  refine ⟨_, .inl hL, ?_⟩
  by_cases c : (i : Int) < ((ns.map V.int).length : Int)
  · rw [if_pos c]
    have hc : i < ns.length := by simpa using c
    refine ⟨_, .int ns[i], .inl hL, ?_, k _⟩
    rw [aI_nat]; simp [hc]
  · rw [if_neg c]; exact k 0
def sp__law_hash : Sp := fun vs H Q _ => ∃ i j : Int, vs = [.int i, .int j] ∧ 0 ≤ i ∧ i < 2 ^ 40 ∧ 0 ≤ j ∧ j < 2 ^ 200 ∧ ∀ r : Int, 0 ≤ r → r < 2147483587 → Q (.int r) H
theorem pu__law_hash (K : PySem.W.Frag) (vs : List V) (H : Hp) (Q : VK) (E : XK) (h : sp__law_hash vs H Q E) : rd__law_hash K { nx := fun _ H' => Q .non H', rt := Q } (L2.start N__law_hash vs) H := by
  obtain ⟨i, j, rfl, h1, h2, h3, h4, k⟩ := h
  show rd__law_hash K _ [some _, some _, none] H
  unfold rd__law_hash
  walk_at "go"
  have m1 : ∀ x : Int, 0 ≤ x % 2147483647 ∧ x % 2147483647 < 2 ^ 31 := fun x => ⟨Int.emod_nonneg _ (by decide), Int.lt_of_lt_of_le (Int.emod_lt_of_pos _ (by decide)) (by decide)⟩
  have m2 : ∀ x : Int, 0 ≤ x % 2147483629 ∧ x % 2147483629 < 2 ^ 31 := fun x => ⟨Int.emod_nonneg _ (by decide), Int.lt_of_lt_of_le (Int.emod_lt_of_pos _ (by decide)) (by decide)⟩
  refine ⟨mulOk 40 31 h1 h2 (by decide) (by decide), mulOk 20 200 (by decide) (by decide) h3 h4, ?_, by decide, mulOk 31 31 (m1 _).1 (m1 _).2 (m1 _).1 (m1 _).2, by decide, mulOk 31 31 (m2 _).1 (m2 _).2 (by decide) (by decide), by decide, k _ (Int.emod_nonneg _ (by decide)) (Int.emod_lt_of_pos _ (by decide))⟩
  refine mulOk 220 200 (Int.mul_nonneg (by decide) h3) ?_ h3 h4
  calc 7919 * j ≤ 7919 * 2 ^ 200 := Int.mul_le_mul_of_nonneg_left (Int.le_of_lt h4) (by decide)
    _ < 2 ^ 220 := by decide
def sp__law_generator (K : PySem.W.Frag) : Sp := fun vs H Q _ => ∃ (a : Addr) (ns : List Int) (i : Nat), vs = [.ref a, .int i] ∧ SqL K H a (ns.map V.int) ∧ i ≤ 1000 ∧ ∀ p o, H p = none → Pu (upd H p o) p 2000000 → Q (.ref p) (upd H p o)
theorem pu__law_generator (K : PySem.W.Frag) (vs : List V) (H : Hp) (Q : VK) (E : XK) (h : sp__law_generator K vs H Q E) : rd__law_generator K (sp__law_cell K) { nx := fun _ H' => Q .non H', rt := Q } (L2.start N__law_generator vs) H := by
  obtain ⟨a, ns, i, rfl, hL, hi, k⟩ := h
  show rd__law_generator K _ _ [some _, some _, none] H
  unfold rd__law_generator
  walk_at "go"
  refine ⟨a, ns, i, rfl, hL, fun r => ?_⟩
  walk_at "go"
  refine ⟨by decide, by decide +kernel, by decide +kernel, by decide, by decide, ?_, by decide, fun p hp => k p _ hp ⟨_, _, _, upd_same, ?_⟩⟩
  · exact mulOk 20 20 (by decide) (by decide) (by omega) (by omega)
  · have e : (((10 : Int) ^ (60 : Int).toNat) ^ (10 : Int).toNat) = 10 ^ 600 := by decide +kernel
    rw [e]
    have e2 : (10 : Int) ^ 600 < 2 ^ 2000 := by decide +kernel
    refine ⟨Int.emod_nonneg _ (by decide +kernel), Int.lt_trans (Int.emod_lt_of_pos _ (by decide +kernel)) e2, Int.emod_nonneg _ (by decide), Int.lt_of_lt_of_le (Int.emod_lt_of_pos _ (by decide)) (by decide), by omega, by omega⟩
def sp__law_random : Sp := fun vs H Q _ => ∃ (g : Addr) (n : Nat) (m : Int), vs = [.ref g, .int m] ∧ 0 < m ∧ m < 2 ^ 200 ∧ n < 2 ^ 100 ∧ Pu H g n ∧ ∀ H' r, Fm [g] H H' → Pu H' g (n + 10) → 0 ≤ r → r < m → Q (.int r) H'
theorem pu__law_random (K : PySem.W.Frag) (vs : List V) (H : Hp) (Q : VK) (E : XK) (h : sp__law_random vs H Q E) : rd__law_random K sp__law_hash { nx := fun _ H' => Q .non H', rt := Q } (L2.start N__law_random vs) H := by
  obtain ⟨g, n, m, rfl, m0, m1, hn, ⟨a, b, c, hg, a0, a1, b0, b1, c0, c1⟩, k⟩ := h
  show rd__law_random K _ _ [some _, some _, none, none] H
  unfold rd__law_random
  walk_at "go"
  refine ⟨_, _, .inl (SqL.of hg), aI_0 _ _, ?_⟩
  walk_at "go"
  by_cases ca : 0 < a
  · rw [if_pos ca]
    refine ⟨_, _, .inl (SqL.of hg), aI_0 _ _, ?_⟩
    walk_at "go"
    refine ⟨m0, _, _, .inl (SqL.of hg), aI_0 _ _, ?_⟩
    walk_at "go"
    refine ⟨divOk 200 m0 m1, _, 0, hg, rfl, ?_⟩
    refine k _ _ (Fm.mut (by simp)) ⟨_, b, c, upd_same, ?_⟩ (Int.emod_nonneg _ (by omega)) (Int.emod_lt_of_pos _ m0)
    refine ⟨Int.ediv_nonneg a0 (by omega), Int.lt_of_le_of_lt (Int.ediv_le_self _ a0) a1, b0, b1, c0, by omega⟩
  · rw [if_neg ca]
    walk_at "go"
    have hb := bits_le (Int.le_of_lt m0) m1
    have hd : ((Builtin.Int.intBits m : Int) / 30) ≤ 6 := by omega
    have hd0 : 0 ≤ ((Builtin.Int.intBits m : Int) / 30) := by omega
    refine ⟨divOk 10 (by decide) (by decide), ⟨by omega, by omega⟩, ?_⟩
    refine (?lp : ∀ (r : List V) (w : Int) (v : Option V) (j : Nat) (c : Int) (H1 : Hp), Fm [g] H H1 → H1 g = some (.lst [.int a, .int b, .int c]) → 0 ≤ c → c < n + j → 0 ≤ w → w < 2 ^ (40 * j + 1) → r.length + j ≤ 7 → fV _ _ _ _ r [some _, some _, some (.int w), v] H1) _ 0 none 0 c H (Fm.refl _ _) hg c0 (by omega) (by decide) (by decide) (by simp [upto]; omega)
    intro r
    induction r with
    | nil =>
      intro w v j c H1 e h1 c0 c1 w0 w1 hl
      simp only [fV]
      walk_at "go"
      refine ⟨trivial, m0, k _ _ e ⟨a, b, c, h1, a0, a1, b0, b1, c0, ?_⟩ (Int.emod_nonneg _ (by omega)) (Int.emod_lt_of_pos _ m0)⟩
      simp only [List.length_nil] at hl; omega
    | cons x r ih =>
      intro w v j c H1 e h1 c0 c1 w0 w1 hl
      simp only [fV]
      walk_at "go"
      refine ⟨trivial, _, _, .inl (SqL.of h1), aI_2 _ _ _ _, ?_⟩
      walk_at "go"
      refine ⟨_, 2, h1, rfl, ?_⟩
      simp only [List.set_cons_zero, List.set_cons_succ]
      refine ⟨?_, _, _, .inl (SqL.of upd_same), aI_1 _ _ _, _, _, .inl (SqL.of upd_same), aI_2 _ _ _ _, ?_⟩
      · refine mulOk 400 40 w0 (Int.lt_of_lt_of_le w1 ?_) (by decide) (by decide)
        exact_mod_cast Nat.pow_le_pow_right (by decide) (by simp only [List.length_cons] at hl; omega)
      · refine ⟨b, c + 1, rfl, b0, Int.lt_of_lt_of_le b1 (by decide), by omega, ?_, fun z z0 z1 => ?_⟩
        · have : (n : Int) < 2 ^ 100 := by exact_mod_cast hn
          simp only [List.length_cons] at hl
          calc c + 1 ≤ (2 : Int) ^ 100 + 8 := by omega
            _ < 2 ^ 200 := by decide
        · walk_at "go"
          refine ih _ _ (j + 1) (c + 1) _ (e.trans (Fm.mut (by simp))) upd_same (by omega) (by omega) ?_ ?_ (by simp only [List.length_cons] at hl; omega)
          · exact Int.add_nonneg (Int.mul_nonneg w0 (by decide)) z0
          · have e1 : (2 : Int) ^ (40 * (j + 1) + 1) = 2 ^ (40 * j + 1) * 2 ^ 40 := by
              rw [show 40 * (j + 1) + 1 = (40 * j + 1) + 40 by omega, Int.pow_add]
            have w2 : w + 1 ≤ 2 ^ (40 * j + 1) := w1
            calc w * 2147483587 + z < w * 2147483587 + 2147483587 := by omega
              _ = (w + 1) * 2147483587 := by rw [Int.add_mul]; omega
              _ ≤ 2 ^ (40 * j + 1) * 2147483587 := Int.mul_le_mul_of_nonneg_right w2 (by decide)
              _ ≤ 2 ^ (40 * j + 1) * 2 ^ 40 := Int.mul_le_mul_of_nonneg_left (by decide) (by omega)
              _ = _ := e1.symm
end Pf

namespace Pf
open PySem PySem.Spec PyProof.Rows L2 M
local macro_rules | `(tactic| walk_at "go") => `(tactic| try simp only [↓q_par, ↓q_par3, tSeq, tIfS, tIf, tNot, mTest, tCB, tCons, tNil, mVar, M.gt, mC, Bool.not_true, Bool.not_false, Bool.false_eq_true, if_false, if_true, tNext, tAsg, gName, gSub, List.set_cons_zero, List.set_cons_succ, mFor, mIter, mRevS, S_cps, S_len, S_app, tOp, tSl, mPart, mUn, tNoPart, tRet, tRetN, tTup, tLst, tAnd, tOr, mAndV, mOrV, mNotV, tCall, tCallSD, tDrop, mPar, mPar3, mLstM, mStrM, mBits, mRng1, mRng2, mgTup, mgSeq, mgCons, mgNil, q_add1, q_add2, q_add3, q_add4, q_iadd1, q_iadd2, q_iadd3, q_sorted, q_sub, q_mul1, q_mul2, q_mul3, q_mod, q_div, q_pow, q_eq1, q_eq2, q_eq3, q_eq4, q_eq5, q_eq6, q_eq7, q_eq8, q_eq9, q_eq10, q_ne1, q_ne2, q_ne3, q_ne9, q_ne10, q_lt, q_le, q_gt, q_ge, q_inc1, q_ix1, q_ix2, q_sl1, q_sl2, q_set, q_len1, q_len2, q_int1, q_int2, q_max, q_min, q_abs, q_sum, q_list, q_isi1, q_is1, q_not1, q_isN1, q_isN2, q_isN3, q_isN4, q_join, q_count, q_split, q_app, q_pop, q_clear, q_isiE, q_repr, q_nin1, q_intab, q_ninta, q_ixtab, wipe, List.map_cons, List.map_nil, List.length_cons, List.length_nil, List.length_append, List.length_map, List.nil_append, List.cons_append, List.append_nil, cut_m3, cut_t3, cut_m1, cut_t1, cut_t2, S_eq, decide_eq_true_eq, Bool.not_eq_true', decide_eq_false_iff_not, ne_eq])
local macro_rules | `(tactic| walk_at "gx") => `(tactic| try simp only [↓q_par, ↓q_par3, ↓tSeq, ↓tIfS, ↓tIf, ↓tNot, ↓mTest, ↓tCB, ↓tCons, ↓tNil, ↓mVar, M.gt, ↓mC, Bool.not_true, Bool.not_false, Bool.false_eq_true, if_false, if_true, ↓tNext, ↓tAsg, ↓gName, ↓gSub, List.set_cons_zero, List.set_cons_succ, ↓mFor, ↓mIter, ↓mRevS, S_cps, S_len, S_app, ↓tOp, ↓tSl, ↓mPart, ↓mUn, ↓tNoPart, ↓tRet, ↓tRetN, ↓tTup, ↓tLst, ↓tAnd, ↓tOr, ↓mAndV, ↓mOrV, ↓mNotV, ↓tCall, ↓tCallSD, ↓tDrop, ↓mPar, ↓mPar3, ↓mLstM, ↓mStrM, ↓mBits, ↓mRng1, ↓mRng2, ↓mgTup, ↓mgSeq, ↓mgCons, ↓mgNil, q_add1, q_add2, q_add3, q_add4, q_iadd1, q_iadd2, q_iadd3, q_sorted, q_sub, q_mul1, q_mul2, q_mul3, q_mod, q_div, q_pow, q_eq1, q_eq2, q_eq3, q_eq4, q_eq5, q_eq6, q_eq7, q_eq8, q_eq9, q_eq10, q_ne1, q_ne2, q_ne3, q_ne9, q_ne10, q_lt, q_le, q_gt, q_ge, q_inc1, q_ix1, q_ix2, q_sl1, q_sl2, q_set, q_len1, q_len2, q_int1, q_int2, q_max, q_min, q_abs, q_sum, q_list, q_isi1, q_is1, q_not1, q_isN1, q_isN2, q_isN3, q_isN4, q_join, q_count, q_split, q_app, q_pop, q_clear, q_isiE, q_repr, q_nin1, q_intab, q_ninta, q_ixtab, wipe, List.map_cons, List.map_nil, List.length_cons, List.length_nil, List.length_append, List.length_map, List.nil_append, List.cons_append, List.append_nil, cut_m3, cut_t3, cut_m1, cut_t1, cut_t2, S_eq, decide_eq_true_eq, Bool.not_eq_true', decide_eq_false_iff_not, ne_eq])
local macro_rules | `(tactic| walk_at "mv") => `(tactic| try simp only [tMake, tMakeV, tMeth, tProp, tFldC, sFldC, tInst, mInvO, ClX.tCMeth, tJoin, tJs, tFmt, List.append_nil])
local macro_rules | `(tactic| walk_at "mg") => `(tactic| (walk_at "gx"; walk_at "mv"; walk_at "gx"))
local macro_rules | `(tactic| walk_at "mo") => `(tactic| first | assumption | (apply Mo.ex (Ex.new (by assumption)); walk_at "mo") | (apply Mo.ex; assumption; walk_at "mo"))
local macro_rules | `(tactic| walk_at "mx") => `(tactic| first | exact Ex.refl _ | assumption | (refine Ex.push ?_ (by assumption); walk_at "mx") | (refine Ex.trans ?_ (by assumption); walk_at "mx"))
/-! answers as data: the same data are equal -/
structure Gk (n : Nat) (d : PyData) : Prop where
  nd : d.hasDict = false
  lay : d.canLay0 = true
  dep : d.depth ≤ n
  eq : PyData.eqv d d = true
theorem Gk.mono {n m : Nat} {d : PyData} (h : Gk n d) (k : n ≤ m) : Gk m d := ⟨h.nd, h.lay, Nat.le_trans h.dep k, h.eq⟩
theorem Gk.non : Gk 1 .none := ⟨by simp [PyData.hasDict], by simp [PyData.canLay0], by simp [PyData.depth], by simp [PyData.eqv]⟩
theorem Gk.bl (b : Bool) : Gk 1 (.bool b) := ⟨by simp [PyData.hasDict], by simp [PyData.canLay0], by simp [PyData.depth], by simp [PyData.eqv]⟩
theorem Gk.int (i : Int) : Gk 1 (.int i) := ⟨by simp [PyData.hasDict], by simp [PyData.canLay0], by simp [PyData.depth], by simp [PyData.eqv]⟩
theorem Gk.str {z : List Nat} (h : okc z) : Gk 1 (.str (S z)) := by
  have := lay_strs [z] (fun y hy => by rw [List.mem_singleton.mp hy]; exact h)
  refine ⟨by simp [PyData.hasDict], ?_, by simp [PyData.depth], by simp [PyData.eqv]⟩
  simpa [dStrs, PyData.canLayAll0, PyData.canLay0] using this
theorem Gk.all {n : Nat} : ∀ {ds : List PyData}, (∀ d ∈ ds, Gk n d) → PyData.hasDictAll ds = false ∧ PyData.canLayAll0 ds = true ∧ PyData.depthAll ds ≤ n ∧ PyData.eqvAll ds ds = true
  | [], _ => ⟨by simp [PyData.hasDictAll], by simp [PyData.canLayAll0], by simp [PyData.depthAll], by simp [PyData.eqvAll]⟩
  | d :: ds, h => by
    obtain ⟨a, b, c, e⟩ := Gk.all fun x hx => h x (List.mem_cons_of_mem _ hx)
    obtain ⟨a1, b1, c1, e1⟩ := h d List.mem_cons_self
    refine ⟨?_, ?_, ?_, ?_⟩
    · simp [PyData.hasDictAll, a, a1]
    · simp [PyData.canLayAll0, b, b1]
    · simp only [PyData.depthAll]; omega
    · simp [PyData.eqvAll, e, e1]
theorem Gk.list {n : Nat} {ds : List PyData} (h : ∀ d ∈ ds, Gk n d) : Gk (n + 1) (.list ds) := by
  obtain ⟨a, b, c, e⟩ := Gk.all h
  refine ⟨?_, ?_, ?_, ?_⟩
  · simpa [PyData.hasDict] using a
  · simpa [PyData.canLay0] using b
  · simp only [PyData.depth]; omega
  · simpa [PyData.eqv] using e
theorem Gk.tup {n : Nat} {ds : List PyData} (h : ∀ d ∈ ds, Gk n d) : Gk (n + 1) (.tuple ds) := by
  obtain ⟨a, b, c, e⟩ := Gk.all h
  refine ⟨?_, ?_, ?_, ?_⟩
  · simpa [PyData.hasDict] using a
  · simpa [PyData.canLay0] using b
  · simp only [PyData.depth]; omega
  · simpa [PyData.eqv] using e
theorem ne_same {K : PySem.W.Frag} {H : Hp} {m m' : List Addr} {v w : V} {d : PyData} {Q : VK} (g : Gk 60 d) (hv : Dq K H m v d) (hw : Dq K H m' w d) (k : Q (.bl false) H) : mNe K v w H Q := by
  have fin : rEqW K true v w H Q := ⟨d, d, hv.dp g.nd, hw.dp g.nd, g.lay, g.lay, by have := g.dep; omega, by rw [g.eq]; exact k⟩
  have k1 : ∀ b : Bool, b = true → Q (.bl (!b)) H := fun b hb => by rw [hb]; exact k
  cases hv with
  | non => cases hw; exact k
  | bl b => cases hw; exact k1 _ (by simp)
  | int i => cases hw; exact k1 _ (by simp)
  | str x => cases hw; exact k1 _ (by simp)
  | lst h n e g' => rw [q_ne9]; exact fin
  | tup h n e g' => rw [q_ne9]; exact fin
  | dct h n e => rw [q_ne9]; exact fin
theorem ne_sameW {K : PySem.W.Frag} {H : Hp} {m m' : List Addr} {v w : V} {d : PyData} {Q : VK} (g : Gk 60 d) (hv : Dq K H m v d) (hw : Dq K H m' w d) (k : Q (.bl false) H) : rEqW K true v w H Q :=
  ⟨d, d, hv.dp g.nd, hw.dp g.nd, g.lay, g.lay, by have := g.dep; omega, by rw [g.eq]; exact k⟩
/-! parting, times at 2 -/
section
variable (K : PySem.W.Frag) (aM aN aL aS C : Addr)
end
end Pf

namespace Pf
open PySem PySem.Spec PyProof.Rows L2 M
local macro_rules | `(tactic| walk_at "go") => `(tactic| try simp only [↓q_par, ↓q_par3, tSeq, tIfS, tIf, tNot, mTest, tCB, tCons, tNil, mVar, M.gt, mC, Bool.not_true, Bool.not_false, Bool.false_eq_true, if_false, if_true, tNext, tAsg, gName, gSub, List.set_cons_zero, List.set_cons_succ, mFor, mIter, mRevS, S_cps, S_len, S_app, tOp, tSl, mPart, mUn, tNoPart, tRet, tRetN, tTup, tLst, tAnd, tOr, mAndV, mOrV, mNotV, tCall, tCallSD, tDrop, mPar, mPar3, mLstM, mStrM, mBits, mRng1, mRng2, mgTup, mgSeq, mgCons, mgNil, q_add1, q_add2, q_add3, q_add4, q_iadd1, q_iadd2, q_iadd3, q_sorted, q_sub, q_mul1, q_mul2, q_mul3, q_mod, q_div, q_pow, q_eq1, q_eq2, q_eq3, q_eq4, q_eq5, q_eq6, q_eq7, q_eq8, q_eq9, q_eq10, q_ne1, q_ne2, q_ne3, q_ne9, q_ne10, q_lt, q_le, q_gt, q_ge, q_inc1, q_ix1, q_ix2, q_sl1, q_sl2, q_set, q_len1, q_len2, q_int1, q_int2, q_max, q_min, q_abs, q_sum, q_list, q_isi1, q_is1, q_not1, q_isN1, q_isN2, q_isN3, q_isN4, q_join, q_count, q_split, q_app, q_pop, q_clear, q_isiE, q_repr, q_nin1, q_intab, q_ninta, q_ixtab, wipe, List.map_cons, List.map_nil, List.length_cons, List.length_nil, List.length_append, List.length_map, List.nil_append, List.cons_append, List.append_nil, cut_m3, cut_t3, cut_m1, cut_t1, cut_t2, S_eq, decide_eq_true_eq, Bool.not_eq_true', decide_eq_false_iff_not, ne_eq])
local macro_rules | `(tactic| walk_at "hh") => `(tactic| first | assumption | exact upd_same | exact Ex.new (by assumption) _ _ (by walk_at "hh") | exact Ex.at (by assumption) (by assumption) | solve_by_elim [Ex.at])
local macro_rules | `(tactic| walk_at "ee") => `(tactic| first | assumption | exact Ex.refl _ | exact Ex.push (by walk_at "ee") (by assumption) | exact Ex.trans (by assumption) (by assumption) | solve_by_elim [Ex.trans])
local macro_rules | `(tactic| walk_at "sz") => `(tactic| first | (rw [szl]; omega) | (simp only [szl, tx_len, sg_len, List.length_map, List.length_append, List.length_cons, List.length_nil, List.length_singleton, List.length_take, List.length_drop, List.length_reverse, S_len]; omega))
local macro_rules | `(tactic| walk_at "gx") => `(tactic| try simp only [↓q_par, ↓q_par3, ↓tSeq, ↓tIfS, ↓tIf, ↓tNot, ↓mTest, ↓tCB, ↓tCons, ↓tNil, ↓mVar, M.gt, ↓mC, Bool.not_true, Bool.not_false, Bool.false_eq_true, if_false, if_true, ↓tNext, ↓tAsg, ↓gName, ↓gSub, List.set_cons_zero, List.set_cons_succ, ↓mFor, ↓mIter, ↓mRevS, S_cps, S_len, S_app, ↓tOp, ↓tSl, ↓mPart, ↓mUn, ↓tNoPart, ↓tRet, ↓tRetN, ↓tTup, ↓tLst, ↓tAnd, ↓tOr, ↓mAndV, ↓mOrV, ↓mNotV, ↓tCall, ↓tCallSD, ↓tDrop, ↓mPar, ↓mPar3, ↓mLstM, ↓mStrM, ↓mBits, ↓mRng1, ↓mRng2, ↓mgTup, ↓mgSeq, ↓mgCons, ↓mgNil, q_add1, q_add2, q_add3, q_add4, q_iadd1, q_iadd2, q_iadd3, q_sorted, q_sub, q_mul1, q_mul2, q_mul3, q_mod, q_div, q_pow, q_eq1, q_eq2, q_eq3, q_eq4, q_eq5, q_eq6, q_eq7, q_eq8, q_eq9, q_eq10, q_ne1, q_ne2, q_ne3, q_ne9, q_ne10, q_lt, q_le, q_gt, q_ge, q_inc1, q_ix1, q_ix2, q_sl1, q_sl2, q_set, q_len1, q_len2, q_int1, q_int2, q_max, q_min, q_abs, q_sum, q_list, q_isi1, q_is1, q_not1, q_isN1, q_isN2, q_isN3, q_isN4, q_join, q_count, q_split, q_app, q_pop, q_clear, q_isiE, q_repr, q_nin1, q_intab, q_ninta, q_ixtab, wipe, List.map_cons, List.map_nil, List.length_cons, List.length_nil, List.length_append, List.length_map, List.nil_append, List.cons_append, List.append_nil, cut_m3, cut_t3, cut_m1, cut_t1, cut_t2, S_eq, decide_eq_true_eq, Bool.not_eq_true', decide_eq_false_iff_not, ne_eq])
local macro_rules | `(tactic| walk_at "mv") => `(tactic| try simp only [tMake, tMakeV, tMeth, tProp, tFldC, sFldC, tInst, mInvO, ClX.tCMeth, tJoin, tJs, tFmt, List.append_nil])
local macro_rules | `(tactic| walk_at "mg") => `(tactic| (walk_at "gx"; walk_at "mv"; walk_at "gx"))
local macro_rules | `(tactic| walk_at "mo") => `(tactic| first | assumption | (apply Mo.ex (Ex.new (by assumption)); walk_at "mo") | (apply Mo.ex; assumption; walk_at "mo"))
local macro_rules | `(tactic| walk_at "mx") => `(tactic| first | exact Ex.refl _ | assumption | (refine Ex.push ?_ (by assumption); walk_at "mx") | (refine Ex.trans ?_ (by assumption); walk_at "mx"))
local macro_rules | `(tactic| walk_at "mv") => `(tactic| try simp only [ex_at, tEx0, tExN])
/-! errors as values: their kinds and fields -/
theorem ex_at {C : Addr} {f : PySem.Str} {te : TE} {σ : L2.St} {H : Hp} {Q : VK} : tEx C f (tCons te tNil) σ H Q = te σ H fun v H1 => eNew C f v H1 Q := rfl
/-- v is an error of the kind i that tells w -/
def Er (K : PySem.W.Frag) (H : Hp) (v : V) (i : Nat) (w : V) : Prop := ∃ a d, v = .ref a ∧ H a = some (exk a (.ref (ca K i)) (some d)) ∧ H d = some (.xd [(fl i, w)])
theorem Er.ex {K : PySem.W.Frag} {H H' : Hp} {v w : V} {i : Nat} (e : Ex H H') (h : Er K H v i w) : Er K H' v i w := by
  obtain ⟨a, d, rfl, h1, h2⟩ := h
  exact ⟨a, d, rfl, e _ _ h1, e _ _ h2⟩
inductive A2 {α β : Type} (R : α → β → Prop) : List α → List β → Prop
  | nil : A2 R [] []
  | cons {a : α} {b : β} {as : List α} {bs : List β} : R a b → A2 R as bs → A2 R (a :: as) (b :: bs)
theorem A2.imp {α β : Type} {R S : α → β → Prop} (f : ∀ a b, R a b → S a b) {as : List α} {bs : List β} (h : A2 R as bs) : A2 S as bs := by
  induction h with
  | nil => exact .nil
  | cons h _ ih => exact .cons (f _ _ h) ih
theorem A2.len {α β : Type} {R : α → β → Prop} {as : List α} {bs : List β} (h : A2 R as bs) : as.length = bs.length := by
  induction h with
  | nil => rfl
  | cons _ _ ih => simp [ih]
def twelve : List Nat := [0, 1, 2, 3, 4, 5, 6, 7, 8, 9, 10, 11]
/-- a list of one error of each kind, all tell w -/
def EL (K : PySem.W.Frag) (H : Hp) (p : Addr) (w : V) : Prop := ∃ es, H p = some (.lst es) ∧ A2 (fun v i => Er K H v i w) es twelve
theorem EL.ex {K : PySem.W.Frag} {H H' : Hp} {p : Addr} {w : V} (e : Ex H H') (h : EL K H p w) : EL K H' p w := by
  obtain ⟨es, h1, h2⟩ := h
  exact ⟨es, e _ _ h1, h2.imp fun _ _ z => z.ex e⟩
section
variable {K : PySem.W.Frag}
theorem ex_new {H : Hp} {Q : VK} {w : V} (i : Nat) (k : ∀ H' v, Ex H H' → Er K H' v i w → Q v H') : eNew (ca K i) (fl i) w H Q := fun e d he hd ne => by
  have e1 := Ex.new (o := .xd [(fl i, w)]) hd
  have he' : upd H d (.xd [(fl i, w)]) e = none := by rw [upd_ne ne]; exact he
  have e2 := Ex.new (o := exk e (.ref (ca K i)) (some d)) he'
  exact k _ _ (e1.trans e2) ⟨e, d, rfl, upd_same, by rw [upd_ne (Ne.symm ne), upd_same]⟩
/-- v is an error of the kind i -/
def Ek (K : PySem.W.Frag) (H : Hp) (v : V) (i : Nat) : Prop := ∃ a d, v = .ref a ∧ H a = some (exk a (.ref (ca K i)) d) ∧ (d = none ∨ ∃ dd fs, d = some dd ∧ H dd = some (.xd fs))
theorem Er.k {H : Hp} {v w : V} {i : Nat} (h : Er K H v i w) : Ek K H v i := by
  obtain ⟨a, d, rfl, h1, h2⟩ := h
  exact ⟨a, some d, rfl, h1, .inr ⟨d, _, rfl, h2⟩⟩
theorem Ek.ex {H H' : Hp} {v : V} {i : Nat} (e : Ex H H') (h : Ek K H v i) : Ek K H' v i := by
  obtain ⟨a, d, rfl, h1, h2⟩ := h
  exact ⟨a, d, rfl, e _ _ h1, h2.imp id fun ⟨dd, fs, a, b⟩ => ⟨dd, fs, a, e _ _ b⟩⟩
theorem isi_k (hk : HK K) {H : Hp} {v : V} {i j : Nat} {Q : VK} (h : Ek K H v i) (hi : i < 13) (hj : j < 13) (k : Q (.bl (decide (i = j))) H) : mIsiV K [v, .ref (ca K j)] H Q := by
  obtain ⟨a, d, rfl, h1, h2⟩ := h
  exact .inl ⟨a, ca K i, d, fl i, _, .ref (ca K j), _, rfl, hk.e i hi, h1, h2, fun u r => r, hk.k i j hi hj, k⟩
theorem isi_t (hk : HK K) {H : Hp} {v : V} {i : Nat} {Q : VK} (h : Ek K H v i) (hi : i < 13) (k : Q (.bl true) H) : mIsiV K [v, .ref (ct K)] H Q := by
  obtain ⟨a, d, rfl, h1, h2⟩ := h
  exact .inl ⟨a, ca K i, d, fl i, _, .ref (ct K), _, rfl, hk.e i hi, h1, h2, fun u r => r, hk.t i hi, k⟩
theorem isi_v (hk : HK K) {H : Hp} {v : V} {i : Nat} {Q : VK} (h : Ek K H v i) (hi : i < 13) (k : Q (.bl true) H) : mIsiV K [v, .ty "ValueError"] H Q := by
  obtain ⟨a, d, rfl, h1, h2⟩ := h
  exact .inl ⟨a, ca K i, d, fl i, _, .type "ValueError", _, rfl, hk.e i hi, h1, h2, fun u r => r, hk.v i hi, k⟩
end
section
variable (K : PySem.W.Frag)
def sp__law_kinds : Sp := fun vs H Q _ => ∃ v i, vs = [v] ∧ Ek K H v i ∧ i < 13 ∧ ∀ H' p, Ex H H' → H p = none → H' p = some (.lst [.int (i : Int)]) → Q (.ref p) H'
/-- [i for i in range(13) if kinds[i]] -/
theorem lc_kd (x0 : Option V) (q : Addr) (bs : List Bool) (i : Nat) (D : Addr) (Q : Hp → Prop) (H0 : Hp) (hq : H0 q = some (.lst (bs.map V.bl))) (nD : H0 D = none) : ∀ (s acc : List Nat) (H : Hp), (∀ j ∈ s, bs[j]? = some (decide (i = j))) → acc.length + s.length ≤ 1000 → Ex H0 H → H D = some (.lst (acc.map fun (j : Nat) => V.int (j : Int))) →
    (∀ H', Ex H0 H' → H' D = some (.lst ((acc ++ s.filter fun j => decide (i = j)).map fun (j : Nat) => V.int (j : Int))) → Q H') →
    cV (fun _ => True) (gName 2) (mTest (tOp (mIx K) (mVar 1) (mVar 2))) (mVar 2) [2] [x0, some (.ref q), none] D Q (s.map fun (j : Nat) => V.int (0 + (j : Int))) H
  | [], acc, H, hs, hn, e, h, k => ⟨trivial, k H e (by simpa using h)⟩
  | j :: s, acc, H, hs, hn, e, h, k => by
    have hj := hs j List.mem_cons_self
    simp only [List.length_cons] at hn
    simp only [List.map_cons, cV, gName]
    rw [Int.zero_add]
    refine ⟨trivial, ?_⟩
    walk_at "go"
    refine ⟨trivial, bs.map V.bl, .bl (decide (i = j)), .inl (SqL.of (e _ _ hq)), by rw [aI_nat, List.getElem?_map, hj]; rfl, ?_⟩
    by_cases c : i = j
    · rw [decide_eq_true c]
      walk_at "go"
      refine ⟨_, h, by rw [szl, List.length_map]; omega, ?_⟩
      refine lc_kd x0 q bs i D Q H0 hq nD s (acc ++ [j]) _ (fun x hx => hs x (List.mem_cons_of_mem _ hx)) (by simp; omega) (e.mut nD) (by rw [upd_same]; simp) fun H' e' h' => k H' e' ?_
      rw [h', List.filter_cons, if_pos (by simpa using c)]
      simp
    · rw [decide_eq_false c]
      walk_at "go"
      refine lc_kd x0 q bs i D Q H0 hq nD s acc _ (fun x hx => hs x (List.mem_cons_of_mem _ hx)) (by omega) e h fun H' e' h' => k H' e' ?_
      rw [h', List.filter_cons, if_neg (by simpa using c)]
def bsV (i n : Nat) : List V := (List.range n).map fun j => V.bl (decide (i = j))
theorem bsV_succ (i n : Nat) : bsV i (n + 1) = bsV i n ++ [.bl (decide (i = n))] := by simp [bsV, List.range_succ]
theorem bsV_len (i n : Nat) : (bsV i n).length = n := by simp [bsV]
abbrev isiT (K : PySem.W.Frag) (j : Nat) : TE := tCB (mIsiV K) (tCons (mVar 0) (tCons (mC (.ref (ca K j))) tNil))
theorem kd_add (hk : HK K) (n : Nat) (hn : n + 3 ≤ 13) {v : V} {i : Nat} {D : Ends} {p : Addr} {H : Hp} (hv : Ek K H v i) (hi : i < 13) (hp : H p = some (.lst (bsV i n)))
    (k : ∀ H' q, Ex H H' → H q = none → H' q = some (.lst (bsV i (n + 3))) → D.nx [some v, some (.ref q), none] H') :
    tAsg (tOp mAdd (mVar 1) (tLst (tCons (isiT K n) (tCons (isiT K (n + 1)) (tCons (isiT K (n + 2)) tNil))))) (gName 1) D [some v, some (.ref p), none] H := by
  walk_at "go"
  refine isi_k hk hv hi (by omega) (isi_k hk hv hi (by omega) (isi_k hk hv hi (by omega) ⟨by walk_at "sz", fun p2 n2 => ?_⟩))
  have e2 := Ex.new (o := .lst [.bl (decide (i = n)), .bl (decide (i = n + 1)), .bl (decide (i = n + 2))]) n2
  refine ⟨_, _, e2 _ _ hp, upd_same, by rw [szl, bsV_len]; simp; omega, fun p3 n3 => ?_⟩
  refine k _ p3 (e2.push n3) (e2.free n3) ?_
  rw [upd_same, bsV_succ, bsV_succ, bsV_succ]
  simp
theorem pu__law_kinds (hk : HK K) (vs : List V) (H : Hp) (Q : VK) (E : XK) (h : sp__law_kinds K vs H Q E) : rd__law_kinds K (ca K 2) (ca K 1) (ca K 0) (ca K 5) (ca K 4) (ca K 3) (ca K 8) (ca K 7) (ca K 6) (ca K 11) (ca K 10) (ca K 9) (ca K 12) (ct K) { nx := fun _ H' => Q .non H', rt := Q } (L2.start N__law_kinds vs) H := by
  obtain ⟨v, i, rfl, hv, hi, k⟩ := h
  show rd__law_kinds K _ _ _ _ _ _ _ _ _ _ _ _ _ _ _ [some _, none, none] H
  unfold rd__law_kinds
  refine cut fun R hR => ?_
  walk_at "go"
  refine isi_k hk hv hi (by decide) (isi_k hk hv hi (by decide) (isi_k hk hv hi (by decide) ⟨by walk_at "sz", fun p1 n1 => hR _ _ (cut fun R2 hR2 => ?_)⟩))
  have e1 := Ex.new (o := .lst [.bl (decide (i = 0)), .bl (decide (i = 1)), .bl (decide (i = 2))]) n1
  have h1 : upd H p1 (.lst [.bl (decide (i = 0)), .bl (decide (i = 1)), .bl (decide (i = 2))]) p1 = some (.lst (bsV i 3)) := upd_same
  refine kd_add K hk 3 (by decide) (hv.ex e1) hi h1 fun H3 p3 e3 n3 h3 => ?_
  have E3 := e1.trans e3
  refine hR2 _ _ (cut fun R3 hR3 => ?_)
  refine kd_add K hk 6 (by decide) (hv.ex E3) hi h3 fun H5 p5 e5 n5 h5 => ?_
  have E5 := E3.trans e5
  refine hR3 _ _ (cut fun R4 hR4 => ?_)
  refine kd_add K hk 9 (by decide) (hv.ex E5) hi h5 fun H7 p7 e7 n7 h7 => ?_
  have E7 := E5.trans e7
  have np7 : H p7 = none := E5.free n7
  refine hR4 _ _ (cut fun R5 hR5 => ?_)
  walk_at "go"
  refine ⟨⟨_, h7⟩, isi_k hk (hv.ex E7) hi (by decide) ⟨_, h7, by rw [szl, bsV_len]; omega, ?_⟩⟩
  have E8 : Ex H (upd H7 p7 (.lst (bsV i 12 ++ [.bl (decide (i = 12))]))) := E7.mut np7
  have h8 : upd H7 p7 (.lst (bsV i 12 ++ [.bl (decide (i = 12))])) p7 = some (.lst (bsV i 13)) := by rw [upd_same, ← bsV_succ]
  refine hR5 _ _ (cut fun R6 hR6 => ?_)
  generalize upd H7 p7 (.lst (bsV i 12 ++ [.bl (decide (i = 12))])) = H8 at E8 h8 ⊢
  have hv8 := hv.ex E8
  walk_at "go"
  refine isi_t hk hv8 hi ?_
  walk_at "go"
  try rw [if_neg (by simp)]
  refine isi_v hk hv8 hi ?_
  walk_at "go"
  try rw [if_neg (by simp)]
  refine hR6 _ _ ?_
  unfold mLc
  walk_at "go"
  refine ⟨⟨by decide, by decide⟩, fun D nD => ?_⟩
  have eD := Ex.new (o := .lst []) nD
  refine lc_kd K _ p7 ((List.range 13).map fun j => decide (i = j)) i D _ H8 (by rw [h8, List.map_map]; rfl) nD (List.range 13) [] _ (fun j hj => ?_) (by simp) eD upd_same fun H' e' h' => ?_
  · have := List.mem_range.mp hj
    rw [List.getElem?_map, List.getElem?_range this]; rfl
  · refine k H' D (E8.trans e') (E8.free nD) ?_
    rw [h', List.nil_append]
    have : (List.range 13).filter (fun j => decide (i = j)) = [i] := by
      have : ∀ i < 13, (List.range 13).filter (fun j => decide (i = j)) = [i] := by decide
      exact this i hi
    rw [this]; rfl
end
end Pf

namespace Pf
open PySem PySem.Spec PyProof.Rows L2 M
local macro_rules | `(tactic| walk_at "go") => `(tactic| try simp only [↓q_par, ↓q_par3, tSeq, tIfS, tIf, tNot, mTest, tCB, tCons, tNil, mVar, M.gt, mC, Bool.not_true, Bool.not_false, Bool.false_eq_true, if_false, if_true, tNext, tAsg, gName, gSub, List.set_cons_zero, List.set_cons_succ, mFor, mIter, mRevS, S_cps, S_len, S_app, tOp, tSl, mPart, mUn, tNoPart, tRet, tRetN, tTup, tLst, tAnd, tOr, mAndV, mOrV, mNotV, tCall, tCallSD, tDrop, mPar, mPar3, mLstM, mStrM, mBits, mRng1, mRng2, mgTup, mgSeq, mgCons, mgNil, q_add1, q_add2, q_add3, q_add4, q_iadd1, q_iadd2, q_iadd3, q_sorted, q_sub, q_mul1, q_mul2, q_mul3, q_mod, q_div, q_pow, q_eq1, q_eq2, q_eq3, q_eq4, q_eq5, q_eq6, q_eq7, q_eq8, q_eq9, q_eq10, q_ne1, q_ne2, q_ne3, q_ne9, q_ne10, q_lt, q_le, q_gt, q_ge, q_inc1, q_ix1, q_ix2, q_sl1, q_sl2, q_set, q_len1, q_len2, q_int1, q_int2, q_max, q_min, q_abs, q_sum, q_list, q_isi1, q_is1, q_not1, q_isN1, q_isN2, q_isN3, q_isN4, q_join, q_count, q_split, q_app, q_pop, q_clear, q_isiE, q_repr, q_nin1, q_intab, q_ninta, q_ixtab, wipe, List.map_cons, List.map_nil, List.length_cons, List.length_nil, List.length_append, List.length_map, List.nil_append, List.cons_append, List.append_nil, cut_m3, cut_t3, cut_m1, cut_t1, cut_t2, S_eq, decide_eq_true_eq, Bool.not_eq_true', decide_eq_false_iff_not, ne_eq])
local macro_rules | `(tactic| walk_at "hh") => `(tactic| first | assumption | exact upd_same | exact Ex.new (by assumption) _ _ (by walk_at "hh") | exact Ex.at (by assumption) (by assumption) | solve_by_elim [Ex.at])
local macro_rules | `(tactic| walk_at "ee") => `(tactic| first | assumption | exact Ex.refl _ | exact Ex.push (by walk_at "ee") (by assumption) | exact Ex.trans (by assumption) (by assumption) | solve_by_elim [Ex.trans])
local macro_rules | `(tactic| walk_at "sz") => `(tactic| first | (rw [szl]; omega) | (simp only [szl, tx_len, sg_len, List.length_map, List.length_append, List.length_cons, List.length_nil, List.length_singleton, List.length_take, List.length_drop, List.length_reverse, S_len]; omega))
local macro_rules | `(tactic| walk_at "gx") => `(tactic| try simp only [↓q_par, ↓q_par3, ↓tSeq, ↓tIfS, ↓tIf, ↓tNot, ↓mTest, ↓tCB, ↓tCons, ↓tNil, ↓mVar, M.gt, ↓mC, Bool.not_true, Bool.not_false, Bool.false_eq_true, if_false, if_true, ↓tNext, ↓tAsg, ↓gName, ↓gSub, List.set_cons_zero, List.set_cons_succ, ↓mFor, ↓mIter, ↓mRevS, S_cps, S_len, S_app, ↓tOp, ↓tSl, ↓mPart, ↓mUn, ↓tNoPart, ↓tRet, ↓tRetN, ↓tTup, ↓tLst, ↓tAnd, ↓tOr, ↓mAndV, ↓mOrV, ↓mNotV, ↓tCall, ↓tCallSD, ↓tDrop, ↓mPar, ↓mPar3, ↓mLstM, ↓mStrM, ↓mBits, ↓mRng1, ↓mRng2, ↓mgTup, ↓mgSeq, ↓mgCons, ↓mgNil, q_add1, q_add2, q_add3, q_add4, q_iadd1, q_iadd2, q_iadd3, q_sorted, q_sub, q_mul1, q_mul2, q_mul3, q_mod, q_div, q_pow, q_eq1, q_eq2, q_eq3, q_eq4, q_eq5, q_eq6, q_eq7, q_eq8, q_eq9, q_eq10, q_ne1, q_ne2, q_ne3, q_ne9, q_ne10, q_lt, q_le, q_gt, q_ge, q_inc1, q_ix1, q_ix2, q_sl1, q_sl2, q_set, q_len1, q_len2, q_int1, q_int2, q_max, q_min, q_abs, q_sum, q_list, q_isi1, q_is1, q_not1, q_isN1, q_isN2, q_isN3, q_isN4, q_join, q_count, q_split, q_app, q_pop, q_clear, q_isiE, q_repr, q_nin1, q_intab, q_ninta, q_ixtab, wipe, List.map_cons, List.map_nil, List.length_cons, List.length_nil, List.length_append, List.length_map, List.nil_append, List.cons_append, List.append_nil, cut_m3, cut_t3, cut_m1, cut_t1, cut_t2, S_eq, decide_eq_true_eq, Bool.not_eq_true', decide_eq_false_iff_not, ne_eq])
local macro_rules | `(tactic| walk_at "mv") => `(tactic| try simp only [tMake, tMakeV, tMeth, tProp, tFldC, sFldC, tInst, mInvO, ClX.tCMeth, tJoin, tJs, tFmt, List.append_nil])
local macro_rules | `(tactic| walk_at "mg") => `(tactic| (walk_at "gx"; walk_at "mv"; walk_at "gx"))
local macro_rules | `(tactic| walk_at "mo") => `(tactic| first | assumption | (apply Mo.ex (Ex.new (by assumption)); walk_at "mo") | (apply Mo.ex; assumption; walk_at "mo"))
local macro_rules | `(tactic| walk_at "mx") => `(tactic| first | exact Ex.refl _ | assumption | (refine Ex.push ?_ (by assumption); walk_at "mx") | (refine Ex.trans ?_ (by assumption); walk_at "mx"))
local macro_rules | `(tactic| walk_at "mv") => `(tactic| try simp only [ex_at, tEx0, tExN, mFld])
section
variable (K : PySem.W.Frag)
theorem A2.split12 {α : Type} {R : α → Nat → Prop} {es : List α} (h : A2 R es twelve) : ∃ v0 v1 v2 v3 v4 v5 v6 v7 v8 v9 v10 v11, es = [v0, v1, v2, v3, v4, v5, v6, v7, v8, v9, v10, v11] ∧ R v0 0 ∧ R v1 1 ∧ R v2 2 ∧ R v3 3 ∧ R v4 4 ∧ R v5 5 ∧ R v6 6 ∧ R v7 7 ∧ R v8 8 ∧ R v9 9 ∧ R v10 10 ∧ R v11 11 := by
  unfold twelve at h
  cases h with | cons h0 h => cases h with | cons h1 h => cases h with | cons h2 h => cases h with | cons h3 h => cases h with | cons h4 h => cases h with | cons h5 h =>
  cases h with | cons h6 h => cases h with | cons h7 h => cases h with | cons h8 h => cases h with | cons h9 h => cases h with | cons h10 h => cases h with | cons h11 h =>
  cases h
  exact ⟨_, _, _, _, _, _, _, _, _, _, _, _, rfl, h0, h1, h2, h3, h4, h5, h6, h7, h8, h9, h10, h11⟩
/-- [e.f for e in errors] -/
theorem lc_fl (hk : HK K) (f : PySem.Str) (w : V) (x0 x1 : Option V) (q : Addr) (es0 : List V) (D : Addr) (Q : Hp → Prop) (H0 : Hp) (hq : H0 q = some (.lst es0)) (nD : H0 D = none) : ∀ (es : List V) (is : List Nat) (acc : List V) (H : Hp), A2 (fun v i => Er K H0 v i w) es is → (∀ i ∈ is, i < 13 ∧ fl i = f) → acc.length + es.length ≤ 1000 → Ex H0 H → H D = some (.lst acc) →
    (∀ H', Ex H0 H' → H' D = some (.lst (acc ++ List.replicate es.length w)) → Q H') →
    cV (fun H => SqL K H q es0) (gName 2) tYes (mFld K f (mVar 2)) [2] [x0, x1, none] D Q es H
  | [], is, acc, H, h, hi, hn, e, hD, k => ⟨e.L (SqL.of hq), k H e (by simpa using hD)⟩
  | v :: es, is, acc, H, h, hi, hn, e, hD, k => by
    cases h with
    | @cons _ i _ is hv h =>
    obtain ⟨a, d, rfl, h1, h2⟩ := hv
    obtain ⟨hi1, hi2⟩ := hi i List.mem_cons_self
    subst hi2
    simp only [List.length_cons] at hn
    simp only [cV, gName, tYes, if_true]
    refine ⟨e.L (SqL.of hq), rfl, ?_⟩
    walk_at "mg"
    refine ⟨ca K i, d, w, hk.e i hi1, e _ _ h1, e _ _ h2, acc, hD, by rw [szl]; omega, ?_⟩
    refine lc_fl hk (fl i) w x0 x1 q es0 D Q H0 hq nD es is (acc ++ [w]) _ h (fun j hj => hi j (List.mem_cons_of_mem _ hj)) (by simp; omega) (e.mut nD) upd_same fun H' e' h' => k H' e' ?_
    rw [h', List.length_cons, List.replicate_succ]
    simp
theorem fld_at (hk : HK K) (i : Nat) (j : Int) {p : Addr} {es : List V} {v w : V} {x1 x2 : Option V} {H : Hp} {Q : VK} (hp : H p = some (.lst es)) (hv : atI es j = some v) (h : Er K H v i w) (hi : i < 13) (k : Q w H) : mFld K (fl i) (tOp (mIx K) (mVar 0) (mC (.int j))) [some (.ref p), x1, x2] H Q := by
  obtain ⟨a, d, rfl, h1, h2⟩ := h
  exact ⟨es, .ref a, .inl (SqL.of hp), hv, ca K i, d, w, hk.e i hi, h1, h2, k⟩
def sp__law_fields : Sp := fun vs H Q _ => ∃ p w, vs = [.ref p] ∧ EL K H p w ∧ ∀ H' q, Ex H H' → H q = none → H' q = some (.lst (List.replicate 12 w)) → Q (.ref q) H'
theorem pu__law_fields (hk : HK K) (vs : List V) (H : Hp) (Q : VK) (E : XK) (h : sp__law_fields K vs H Q E) : rd__law_fields K { nx := fun _ H' => Q .non H', rt := Q } (L2.start N__law_fields vs) H := by
  obtain ⟨p, w, rfl, ⟨es, hp, hes⟩, k⟩ := h
  obtain ⟨v0, v1, v2, v3, v4, v5, v6, v7, v8, v9, v10, v11, rfl, h0, h1, h2, h3, h4, h5, h6, h7, h8, h9, h10, h11⟩ := hes.split12
  show rd__law_fields K _ [some _, none, none] H
  unfold rd__law_fields
  refine cut fun R hR => ?_
  unfold mLc
  walk_at "go"
  refine ⟨_, SqL.of hp, fun r nr => ?_⟩
  have er := Ex.new (o := .lst (cutL [v0, v1, v2, v3, v4, v5, v6, v7, v8, v9, v10, v11] none (some 6))) nr
  refine ⟨_, .inl ⟨SqL.of upd_same, fun D nD => ?_⟩⟩
  have eD := Ex.new (o := .lst []) nD
  have c6 : cutL [v0, v1, v2, v3, v4, v5, v6, v7, v8, v9, v10, v11] none (some 6) = [v0, v1, v2, v3, v4, v5] := rfl
  rw [c6] at er ⊢
  refine lc_fl K hk "value" w _ _ r [v0, v1, v2, v3, v4, v5] D _ _ upd_same nD [v0, v1, v2, v3, v4, v5] [0, 1, 2, 3, 4, 5] [] _ (.cons (h0.ex er) (.cons (h1.ex er) (.cons (h2.ex er) (.cons (h3.ex er) (.cons (h4.ex er) (.cons (h5.ex er) .nil)))))) (by decide) (by simp) eD upd_same fun H1 e1 hD => ?_
  have E1 := er.trans e1
  have hp1 := E1 _ _ hp
  refine fld_at K hk 6 6 hp1 rfl (h6.ex E1) (by decide) ?_
  refine fld_at K hk 7 7 hp1 rfl (h7.ex E1) (by decide) ?_
  refine fld_at K hk 8 8 hp1 rfl (h8.ex E1) (by decide) ?_
  refine ⟨by walk_at "sz", fun q nq => ?_⟩
  have eq := Ex.new (o := .lst [w, w, w]) nq
  refine ⟨_, _, eq _ _ hD, upd_same, by rw [szl]; simp, fun r2 n2 => ?_⟩
  have e2 := eq.push (o := .lst (([] ++ List.replicate [v0, v1, v2, v3, v4, v5].length w) ++ [w, w, w])) n2
  have E2 := E1.trans e2
  have h9l : upd (upd H1 q (.lst [w, w, w])) r2 (.lst (([] ++ List.replicate [v0, v1, v2, v3, v4, v5].length w) ++ [w, w, w])) r2 = some (.lst (List.replicate 9 w)) := upd_same
  refine hR _ _ ?_
  generalize upd (upd H1 q (.lst [w, w, w])) r2 (.lst (([] ++ List.replicate [v0, v1, v2, v3, v4, v5].length w) ++ [w, w, w])) = H2 at E2 h9l ⊢
  walk_at "go"
  refine ⟨_, SqL.of (E2 _ _ hp), fun s ns => ?_⟩
  have es := Ex.new (o := .lst (cutL [v0, v1, v2, v3, v4, v5, v6, v7, v8, v9, v10, v11] (some 9) none)) ns
  refine ⟨_, .inl ⟨SqL.of upd_same, fun D2 nD2 => ?_⟩⟩
  have eD2 := Ex.new (o := .lst []) nD2
  have c9 : cutL [v0, v1, v2, v3, v4, v5, v6, v7, v8, v9, v10, v11] (some 9) none = [v9, v10, v11] := rfl
  rw [c9] at es ⊢
  have E3 := E2.trans es
  refine lc_fl K hk "name" w _ _ s [v9, v10, v11] D2 _ _ upd_same nD2 [v9, v10, v11] [9, 10, 11] [] _ (.cons (h9.ex E3) (.cons (h10.ex E3) (.cons (h11.ex E3) .nil))) (by decide) (by simp) eD2 upd_same fun H4 e4 hD4 => ?_
  refine ⟨_, _, e4 _ _ (es _ _ h9l), hD4, by rw [szl]; simp, fun t nt => ?_⟩
  exact k _ t ((E3.trans e4).push nt) ((E3.trans e4).free nt) (by rw [upd_same]; rfl)
/-- may be shown -/
structure Sw (d : PyData) : Prop where
  sh : d.showable = true
  dp : d.depth ≤ 50
  ln : d.shown.length ≤ 100000
theorem Sw.of {d : PyData} (h : Gd 100000 d) (hd : d.depth ≤ 50) : Sw d := ⟨okD_show d h.1, hd, by have := okD_len d h.1; have := h.2.2; omega⟩
theorem Sw.rep {H : Hp} {q : Addr} {w : V} {d : PyData} {Q : VK} (h : Sw d) (hq : H q = some (.lst (List.replicate 12 w))) (hw : DqA K H [] (List.replicate 12 w) (List.replicate 12 d)) (k : Q (.str (PyData.list (List.replicate 12 d)).shown) H) : mReprG K [.ref q] H Q := by
  have a : ∀ n : Nat, PyData.showableAll (List.replicate n d) = true ∧ PyData.depthAll (List.replicate n d) ≤ 50 ∧ ((PyData.shownAll (List.replicate n d)).map (·.length)).sum ≤ n * 100000 := fun n => by
    induction n with
    | zero => simp [PyData.showableAll, PyData.depthAll, PyData.shownAll]
    | succ n ih =>
      rw [List.replicate_succ]
      simp only [PyData.showableAll, PyData.depthAll, PyData.shownAll, List.map_cons, List.sum_cons, h.sh, ih.1, Bool.and_self, true_and]
      have := h.dp
      have := h.ln
      have := ih.2.1
      have := ih.2.2
      rw [Nat.succ_mul]
      omega
  obtain ⟨a1, a2, a3⟩ := a 12
  refine ⟨_, .L hq (by simp) hw, by simpa only [PyData.showable] using a1, by simp only [PyData.depth]; omega, ?_, k⟩
  have h1 := listText_len_le (PyData.shownAll (List.replicate 12 d))
  rw [shownAll_len, List.length_replicate] at h1
  simp only [PyData.shown]
  rw [szl]
  omega
def sp__law_right : Sp := fun vs H Q _ => ∃ p w d, vs = [.ref p, w] ∧ EL K H p w ∧ Dq K H [] w d ∧ Sw d ∧ ∀ H', Ex H H' → Q (.bl true) H'
/-- [kinds(e) for e in errors] -/
theorem lc_ks (x0 x1 x3 : Option V) (q : Addr) (es0 : List V) (D : Addr) (Q : Hp → Prop) (H0 : Hp) (hq : H0 q = some (.lst es0)) (nD : H0 D = none) : ∀ (es : List V) (is : List Nat) (acc : List V) (L : List Nat) (H : Hp), A2 (fun v i => Ek K H0 v i) es is → (∀ i ∈ is, i < 13) → acc.length + es.length ≤ 1000 → Ex H0 H → H D = some (.lst acc) → DqA K H [D] acc (L.map fun (i : Nat) => PyData.list [.int (i : Int)]) →
    (∀ H' acc', Ex H0 H' → H' D = some (.lst acc') → DqA K H' [D] acc' ((L ++ is).map fun (i : Nat) => PyData.list [.int (i : Int)]) → Q H') →
    cV (fun H => SqL K H q es0) (gName 2) tYes (tCall (sp__law_kinds K) [] E0 (tCons (mVar 2) tNil)) [2] [x0, x1, none, x3] D Q es H
  | [], is, acc, L, H, h, hi, hn, e, hD, hd, k => by
    cases h
    exact ⟨e.L (SqL.of hq), k H acc e hD (by simpa using hd)⟩
  | v :: es, is, acc, L, H, h, hi, hn, e, hD, hd, k => by
    cases h with
    | @cons _ i _ is hv h =>
    simp only [List.length_cons] at hn
    simp only [cV, gName, tYes, if_true]
    refine ⟨e.L (SqL.of hq), rfl, ?_⟩
    walk_at "go"
    refine ⟨v, i, rfl, hv.ex e, hi i List.mem_cons_self, fun H1 p e1 np hp => ?_⟩
    have pD : p ≠ D := fun z => by rw [z, hD] at np; cases np
    refine ⟨acc, e1 _ _ hD, by rw [szl]; omega, ?_⟩
    refine lc_ks x0 x1 x3 q es0 D Q H0 hq nD es is (acc ++ [.ref p]) (L ++ [i]) _ h (fun j hj => hi j (List.mem_cons_of_mem _ hj)) (by simp; omega) ((e.trans e1).mut nD) upd_same ?_ fun H' acc' e' h' d' => k H' acc' e' h' (by simpa using d')
    rw [List.map_append]
    exact DqA.app ((hd.ex e1).fm (Fm.mut List.mem_cons_self)) (.cons (.L (by rw [upd_ne pD]; exact hp) (by simpa using pD) (.cons (.int _) .nil)) .nil)
/-- [[i] for i in range(12)] -/
theorem lc_is (x0 x1 x2 : Option V) (D : Addr) (Q : Hp → Prop) (H0 : Hp) (nD : H0 D = none) : ∀ (is : List Nat) (acc : List V) (L : List Nat) (H : Hp), acc.length + is.length ≤ 1000 → Ex H0 H → H D = some (.lst acc) → DqA K H [D] acc (L.map fun (i : Nat) => PyData.list [.int (i : Int)]) →
    (∀ H' acc', Ex H0 H' → H' D = some (.lst acc') → DqA K H' [D] acc' ((L ++ is).map fun (i : Nat) => PyData.list [.int (i : Int)]) → Q H') →
    cV (fun _ => True) (gName 3) tYes (tLst (tCons (mVar 3) tNil)) [3] [x0, x1, x2, none] D Q (is.map fun (i : Nat) => V.int (0 + (i : Int))) H
  | [], acc, L, H, hn, e, hD, hd, k => ⟨trivial, k H acc e hD (by simpa using hd)⟩
  | i :: is, acc, L, H, hn, e, hD, hd, k => by
    simp only [List.length_cons] at hn
    simp only [List.map_cons, cV, gName, tYes, if_true]
    rw [Int.zero_add]
    refine ⟨trivial, rfl, ?_⟩
    walk_at "go"
    refine ⟨by walk_at "sz", fun p np => ?_⟩
    have e1 := Ex.new (o := .lst [.int (i : Int)]) np
    have pD : p ≠ D := fun z => by rw [z, hD] at np; cases np
    refine ⟨acc, e1 _ _ hD, by rw [szl]; omega, ?_⟩
    refine lc_is x0 x1 x2 D Q H0 nD is (acc ++ [.ref p]) (L ++ [i]) _ (by simp; omega) ((e.trans e1).mut nD) upd_same ?_ fun H' acc' e' h' d' => k H' acc' e' h' (by simpa using d')
    rw [List.map_append]
    exact DqA.app ((hd.ex e1).fm (Fm.mut List.mem_cons_self)) (.cons (.L (by rw [upd_ne pD, upd_same]) (by simpa using pD) (.cons (.int _) .nil)) .nil)
theorem gk_is (L : List Nat) : Gk 60 (.list (L.map fun (i : Nat) => PyData.list [.int (i : Int)])) := by
  refine (Gk.list (n := 2) fun d hd => ?_).mono (by decide)
  obtain ⟨i, _, rfl⟩ := List.mem_map.mp hd
  refine Gk.list fun d hd => ?_
  rw [List.mem_singleton.mp hd]
  exact Gk.int _
theorem dqA_rep {H : Hp} {m : List Addr} {w : V} {d : PyData} (h : Dq K H m w d) : ∀ n : Nat, DqA K H m (List.replicate n w) (List.replicate n d)
  | 0 => .nil
  | n + 1 => by rw [List.replicate_succ, List.replicate_succ]; exact .cons h (dqA_rep h n)
theorem pu__law_right (vs : List V) (H : Hp) (Q : VK) (E : XK) (h : sp__law_right K vs H Q E) : rd__law_right K (sp__law_kinds K) (sp__law_fields K) { nx := fun _ H' => Q .non H', rt := Q } (L2.start N__law_right vs) H := by
  obtain ⟨p, w, d, rfl, hel, hw, hg, k⟩ := h
  obtain ⟨es, hp, hes⟩ := id hel
  show rd__law_right K _ _ _ [some _, some _, none, none] H
  unfold rd__law_right
  refine cut fun R hR => ?_
  unfold mLc
  walk_at "go"
  refine ⟨_, .inl ⟨SqL.of hp, fun D nD => ?_⟩⟩
  have eD := Ex.new (o := .lst []) nD
  have hl := hes.len
  refine lc_ks K _ _ _ p es D _ H hp nD es twelve [] [] _ (hes.imp fun _ _ z => z.k) (by decide) (by rw [hl]; decide) eD upd_same .nil fun H1 a1 e1 h1 d1 => ?_
  refine ⟨⟨by decide, by decide⟩, fun D2 nD2 => ?_⟩
  have eD2 := Ex.new (o := .lst []) nD2
  refine lc_is K _ _ _ D2 _ H1 nD2 twelve [] [] _ (by decide) eD2 upd_same .nil fun H2 a2 e2 h2 d2 => ?_
  refine ne_sameW (gk_is twelve) (.L (m := []) (e2 _ _ h1) (by simp) (d1.z.ex e2)) (.L (m := []) h2 (by simp) d2.z) ?_
  walk_at "go"
  refine hR _ _ ?_
  have E2 := e1.trans e2
  walk_at "go"
  refine ⟨p, w, rfl, hel.ex E2, fun H3 q e3 nq hq => ?_⟩
  have E3 := E2.trans e3
  refine hg.rep K hq (dqA_rep K (hw.ex E3) 12) ?_
  walk_at "go"
  refine ⟨by walk_at "sz", fun s ns => ?_⟩
  refine ⟨[w], upd_same, by decide, by decide, by rw [szl]; simp, fun r nr => ?_⟩
  have er := (Ex.new (o := .lst [w]) ns).push (o := .lst (List.replicate (12 : Int).toNat [w]).flatten) nr
  have hr : upd (upd H3 s (.lst [w])) r (.lst (List.replicate (12 : Int).toNat [w]).flatten) r = some (.lst (List.replicate 12 w)) := upd_same
  refine hg.rep K hr (dqA_rep K (hw.ex (E3.trans er)) 12) ?_
  walk_at "go"
  rw [decide_true]
  exact k _ (E3.trans er)
end
end Pf

namespace Pf
open PySem PySem.Spec PyProof.Rows L2 M
local macro_rules | `(tactic| walk_at "go") => `(tactic| try simp only [↓q_par, ↓q_par3, tSeq, tIfS, tIf, tNot, mTest, tCB, tCons, tNil, mVar, M.gt, mC, Bool.not_true, Bool.not_false, Bool.false_eq_true, if_false, if_true, tNext, tAsg, gName, gSub, List.set_cons_zero, List.set_cons_succ, mFor, mIter, mRevS, S_cps, S_len, S_app, tOp, tSl, mPart, mUn, tNoPart, tRet, tRetN, tTup, tLst, tAnd, tOr, mAndV, mOrV, mNotV, tCall, tCallSD, tDrop, mPar, mPar3, mLstM, mStrM, mBits, mRng1, mRng2, mgTup, mgSeq, mgCons, mgNil, q_add1, q_add2, q_add3, q_add4, q_iadd1, q_iadd2, q_iadd3, q_sorted, q_sub, q_mul1, q_mul2, q_mul3, q_mod, q_div, q_pow, q_eq1, q_eq2, q_eq3, q_eq4, q_eq5, q_eq6, q_eq7, q_eq8, q_eq9, q_eq10, q_ne1, q_ne2, q_ne3, q_ne9, q_ne10, q_lt, q_le, q_gt, q_ge, q_inc1, q_ix1, q_ix2, q_sl1, q_sl2, q_set, q_len1, q_len2, q_int1, q_int2, q_max, q_min, q_abs, q_sum, q_list, q_isi1, q_is1, q_not1, q_isN1, q_isN2, q_isN3, q_isN4, q_join, q_count, q_split, q_app, q_pop, q_clear, q_isiE, q_repr, q_nin1, q_intab, q_ninta, q_ixtab, wipe, List.map_cons, List.map_nil, List.length_cons, List.length_nil, List.length_append, List.length_map, List.nil_append, List.cons_append, List.append_nil, cut_m3, cut_t3, cut_m1, cut_t1, cut_t2, S_eq, decide_eq_true_eq, Bool.not_eq_true', decide_eq_false_iff_not, ne_eq])
local macro_rules | `(tactic| walk_at "hh") => `(tactic| first | assumption | exact upd_same | exact Ex.new (by assumption) _ _ (by walk_at "hh") | exact Ex.at (by assumption) (by assumption) | solve_by_elim [Ex.at])
local macro_rules | `(tactic| walk_at "ee") => `(tactic| first | assumption | exact Ex.refl _ | exact Ex.push (by walk_at "ee") (by assumption) | exact Ex.trans (by assumption) (by assumption) | solve_by_elim [Ex.trans])
local macro_rules | `(tactic| walk_at "sz") => `(tactic| first | (rw [szl]; omega) | (simp only [szl, tx_len, sg_len, List.length_map, List.length_append, List.length_cons, List.length_nil, List.length_singleton, List.length_take, List.length_drop, List.length_reverse, S_len]; omega))
local macro_rules | `(tactic| walk_at "gx") => `(tactic| try simp only [↓q_par, ↓q_par3, ↓tSeq, ↓tIfS, ↓tIf, ↓tNot, ↓mTest, ↓tCB, ↓tCons, ↓tNil, ↓mVar, M.gt, ↓mC, Bool.not_true, Bool.not_false, Bool.false_eq_true, if_false, if_true, ↓tNext, ↓tAsg, ↓gName, ↓gSub, List.set_cons_zero, List.set_cons_succ, ↓mFor, ↓mIter, ↓mRevS, S_cps, S_len, S_app, ↓tOp, ↓tSl, ↓mPart, ↓mUn, ↓tNoPart, ↓tRet, ↓tRetN, ↓tTup, ↓tLst, ↓tAnd, ↓tOr, ↓mAndV, ↓mOrV, ↓mNotV, ↓tCall, ↓tCallSD, ↓tDrop, ↓mPar, ↓mPar3, ↓mLstM, ↓mStrM, ↓mBits, ↓mRng1, ↓mRng2, ↓mgTup, ↓mgSeq, ↓mgCons, ↓mgNil, q_add1, q_add2, q_add3, q_add4, q_iadd1, q_iadd2, q_iadd3, q_sorted, q_sub, q_mul1, q_mul2, q_mul3, q_mod, q_div, q_pow, q_eq1, q_eq2, q_eq3, q_eq4, q_eq5, q_eq6, q_eq7, q_eq8, q_eq9, q_eq10, q_ne1, q_ne2, q_ne3, q_ne9, q_ne10, q_lt, q_le, q_gt, q_ge, q_inc1, q_ix1, q_ix2, q_sl1, q_sl2, q_set, q_len1, q_len2, q_int1, q_int2, q_max, q_min, q_abs, q_sum, q_list, q_isi1, q_is1, q_not1, q_isN1, q_isN2, q_isN3, q_isN4, q_join, q_count, q_split, q_app, q_pop, q_clear, q_isiE, q_repr, q_nin1, q_intab, q_ninta, q_ixtab, wipe, List.map_cons, List.map_nil, List.length_cons, List.length_nil, List.length_append, List.length_map, List.nil_append, List.cons_append, List.append_nil, cut_m3, cut_t3, cut_m1, cut_t1, cut_t2, S_eq, decide_eq_true_eq, Bool.not_eq_true', decide_eq_false_iff_not, ne_eq])
local macro_rules | `(tactic| walk_at "mv") => `(tactic| try simp only [tMake, tMakeV, tMeth, tProp, tFldC, sFldC, tInst, mInvO, ClX.tCMeth, tJoin, tJs, tFmt, List.append_nil])
local macro_rules | `(tactic| walk_at "mg") => `(tactic| (walk_at "gx"; walk_at "mv"; walk_at "gx"))
local macro_rules | `(tactic| walk_at "mo") => `(tactic| first | assumption | (apply Mo.ex (Ex.new (by assumption)); walk_at "mo") | (apply Mo.ex; assumption; walk_at "mo"))
local macro_rules | `(tactic| walk_at "mx") => `(tactic| first | exact Ex.refl _ | assumption | (refine Ex.push ?_ (by assumption); walk_at "mx") | (refine Ex.trans ?_ (by assumption); walk_at "mx"))
local macro_rules | `(tactic| walk_at "mv") => `(tactic| try simp only [ex_at, tEx0, tExN, mFld])
theorem lst_ne_ext {H : Hp} {a b : Addr} {xs : List V} {f : Heap → Prop} (h1 : H a = some (.lst xs)) (h2 : H b = some (.ext f)) : b ≠ a := fun z => by rw [z, h1] at h2; cases h2
theorem EL.fm {K : PySem.W.Frag} {H H' : Hp} {p a : Addr} {w : V} {xs : List V} (ha : H a = some (.lst xs)) (pa : p ≠ a) (f : Fm [a] H H') (h : EL K H p w) : EL K H' p w := by
  obtain ⟨es, h1, h2⟩ := h
  have g : ∀ b o, b ≠ a → H b = some o → H' b = some o := fun b o n e => f b o (by simpa using n) e
  refine ⟨es, g _ _ pa h1, h2.imp fun v i ⟨e, d, q, h3, h4⟩ => ⟨e, d, q, g _ _ (fun z => ?_) h3, g _ _ (fun z => ?_) h4⟩⟩
  · rw [z, ha] at h3
    have h3' : HO.lst xs = HO.ext _ := Option.some.inj h3
    cases h3'
  · rw [z, ha] at h4
    cases h4
theorem el_of {K : PySem.W.Frag} {H : Hp} {p : Addr} {w v0 v1 v2 v3 v4 v5 v6 v7 v8 v9 v10 v11 : V} (hp : H p = some (.lst [v0, v1, v2, v3, v4, v5, v6, v7, v8, v9, v10, v11])) (h0 : Er K H v0 0 w) (h1 : Er K H v1 1 w) (h2 : Er K H v2 2 w) (h3 : Er K H v3 3 w) (h4 : Er K H v4 4 w) (h5 : Er K H v5 5 w) (h6 : Er K H v6 6 w) (h7 : Er K H v7 7 w) (h8 : Er K H v8 8 w) (h9 : Er K H v9 9 w) (h10 : Er K H v10 10 w) (h11 : Er K H v11 11 w) : EL K H p w :=
  ⟨_, hp, .cons h0 (.cons h1 (.cons h2 (.cons h3 (.cons h4 (.cons h5 (.cons h6 (.cons h7 (.cons h8 (.cons h9 (.cons h10 (.cons h11 .nil)))))))))))⟩
section
variable (K : PySem.W.Frag)
def sp__law_placed : Sp := fun vs H Q _ => ∃ w, vs = [w] ∧ ∀ H' p, Ex H H' → H p = none → EL K H' p w → Q (.ref p) H'
theorem pu__law_placed (vs : List V) (H : Hp) (Q : VK) (E : XK) (h : sp__law_placed K vs H Q E) : rd__law_placed K (ca K 3) (ca K 2) (ca K 1) (ca K 0) (ca K 7) (ca K 6) (ca K 5) (ca K 4) (ca K 11) (ca K 10) (ca K 9) (ca K 8) { nx := fun _ H' => Q .non H', rt := Q } (L2.start N__law_placed vs) H := by
  obtain ⟨w, rfl, k⟩ := h
  show rd__law_placed K _ _ _ _ _ _ _ _ _ _ _ _ _ [some _, none] H
  unfold rd__law_placed
  refine cut fun R hR => ?_
  walk_at "mg"
  refine ex_new 0 fun H0 v0 e0 h0 => ex_new 1 fun H1 v1 e1 h1 => ex_new 2 fun H2 v2 e2 h2 => ex_new 3 fun H3 v3 e3 h3 => ⟨by walk_at "sz", fun p np => ?_⟩
  have ep := Ex.new (o := .lst [v0, v1, v2, v3]) np
  have hp := upd_same (H := H3) (a := p) (o := .lst [v0, v1, v2, v3])
  refine hR _ _ (cut fun R2 hR2 => ?_)
  have e03 := e0.trans (e1.trans (e2.trans (e3.trans ep)))
  have i0 := h0.ex (e1.trans (e2.trans (e3.trans ep)))
  have i1 := h1.ex (e2.trans (e3.trans ep))
  have i2 := h2.ex (e3.trans ep)
  have i3 := h3.ex ep
  generalize upd H3 p (.lst [v0, v1, v2, v3]) = HA at hp e03 i0 i1 i2 i3 ⊢
  walk_at "mg"
  refine ex_new 4 fun H4 v4 e4 h4 => ex_new 5 fun H5 v5 e5 h5 => ex_new 6 fun H6 v6 e6 h6 => ex_new 7 fun H7 v7 e7 h7 => ⟨by walk_at "sz", fun q nq => ?_⟩
  have eq := Ex.new (o := .lst [v4, v5, v6, v7]) nq
  have e47 := e4.trans (e5.trans (e6.trans (e7.trans eq)))
  refine ⟨_, _, e47 _ _ hp, upd_same, by walk_at "sz", fun r nr => ?_⟩
  have er := Ex.new (o := .lst ([v0, v1, v2, v3] ++ [v4, v5, v6, v7])) nr
  have hr : upd (upd H7 q (.lst [v4, v5, v6, v7])) r (.lst ([v0, v1, v2, v3] ++ [v4, v5, v6, v7])) r = some (.lst [v0, v1, v2, v3, v4, v5, v6, v7]) := upd_same
  refine hR2 _ _ ?_
  have eB := e47.trans er
  have j4 := h4.ex (e5.trans (e6.trans (e7.trans (eq.trans er))))
  have j5 := h5.ex (e6.trans (e7.trans (eq.trans er)))
  have j6 := h6.ex (e7.trans (eq.trans er))
  have j7 := h7.ex (eq.trans er)
  generalize upd (upd H7 q (.lst [v4, v5, v6, v7])) r (.lst ([v0, v1, v2, v3] ++ [v4, v5, v6, v7])) = HB at hr eB j4 j5 j6 j7 ⊢
  walk_at "mg"
  refine ex_new 8 fun H8 v8 e8 h8 => ex_new 9 fun H9 v9 e9 h9 => ex_new 10 fun HX v10 e10 h10 => ex_new 11 fun HY v11 e11 h11 => ⟨by walk_at "sz", fun s ns => ?_⟩
  have es := Ex.new (o := .lst [v8, v9, v10, v11]) ns
  have e8s := e8.trans (e9.trans (e10.trans (e11.trans es)))
  refine ⟨_, _, e8s _ _ hr, upd_same, by walk_at "sz", fun t nt => ?_⟩
  have et := Ex.new (o := .lst ([v0, v1, v2, v3, v4, v5, v6, v7] ++ [v8, v9, v10, v11])) nt
  have eC := e8s.trans et
  have eBC := eB.trans eC
  refine k _ t (e03.trans eBC) ((e03.trans (eB.trans e8s)).free nt) ?_
  exact el_of upd_same (i0.ex eBC) (i1.ex eBC) (i2.ex eBC) (i3.ex eBC) (j4.ex eC) (j5.ex eC) (j6.ex eC) (j7.ex eC) (h8.ex (e9.trans (e10.trans (e11.trans (es.trans et))))) (h9.ex (e10.trans (e11.trans (es.trans et)))) (h10.ex (e11.trans (es.trans et))) (h11.ex (es.trans et))
def sp__law_given_right : Sp := fun vs H Q _ => ∃ w d, vs = [w] ∧ Dq K H [] w d ∧ Sw d ∧ ((isD d "list" = false ∧ ∀ H', Ex H H' → Q (.bl true) H') ∨ ∃ a i, w = .ref a ∧ H a = some (.lst [.int i]) ∧ d = .list [.int i] ∧ Sw (.list [.int i, .str (S [109, 111, 114, 101])]) ∧ ∀ H', Fm [a] H H' → Q (.bl true) H')
theorem pu__law_given_right (vs : List V) (H : Hp) (Q : VK) (E : XK) (h : sp__law_given_right K vs H Q E) : rd__law_given_right K (sp__law_placed K) (sp__law_right K) (ca K 2) (ca K 1) (ca K 0) (ca K 5) (ca K 4) (ca K 3) (ca K 8) (ca K 7) (ca K 6) (ca K 11) (ca K 10) (ca K 9) { nx := fun _ H' => Q .non H', rt := Q } (L2.start N__law_given_right vs) H := by
  obtain ⟨w, d, rfl, hw, hg, k⟩ := h
  show rd__law_given_right K _ _ _ _ _ _ _ _ _ _ _ _ _ _ _ [some _, none, none] H
  unfold rd__law_given_right
  refine cut fun R hR => ?_
  walk_at "mg"
  refine ex_new 0 fun H0 v0 e0 h0 => ex_new 1 fun H1 v1 e1 h1 => ex_new 2 fun H2 v2 e2 h2 => ⟨by walk_at "sz", fun p np => ?_⟩
  have ep := Ex.new (o := .lst [v0, v1, v2]) np
  have hp := upd_same (H := H2) (a := p) (o := .lst [v0, v1, v2])
  refine hR _ _ (cut fun R2 hR2 => ?_)
  have e03 := e0.trans (e1.trans (e2.trans ep))
  have i0 := h0.ex (e1.trans (e2.trans ep))
  have i1 := h1.ex (e2.trans ep)
  have i2 := h2.ex ep
  generalize upd H2 p (.lst [v0, v1, v2]) = HA at hp e03 i0 i1 i2 ⊢
  walk_at "mg"
  refine ex_new 3 fun H4 v3 e4 h3 => ex_new 4 fun H5 v4 e5 h4 => ex_new 5 fun H6 v5 e6 h5 => ⟨by walk_at "sz", fun q nq => ?_⟩
  have eq := Ex.new (o := .lst [v3, v4, v5]) nq
  have e47 := e4.trans (e5.trans (e6.trans eq))
  refine ⟨_, _, e47 _ _ hp, upd_same, by walk_at "sz", fun r nr => ?_⟩
  have er := Ex.new (o := .lst ([v0, v1, v2] ++ [v3, v4, v5])) nr
  have hr : upd (upd H6 q (.lst [v3, v4, v5])) r (.lst ([v0, v1, v2] ++ [v3, v4, v5])) r = some (.lst [v0, v1, v2, v3, v4, v5]) := upd_same
  refine hR2 _ _ (cut fun R3 hR3 => ?_)
  have eB := e03.trans (e47.trans er)
  have i0 := i0.ex (e47.trans er)
  have i1 := i1.ex (e47.trans er)
  have i2 := i2.ex (e47.trans er)
  have i3 := h3.ex (e5.trans (e6.trans (eq.trans er)))
  have i4 := h4.ex (e6.trans (eq.trans er))
  have i5 := h5.ex (eq.trans er)
  generalize upd (upd H6 q (.lst [v3, v4, v5])) r (.lst ([v0, v1, v2] ++ [v3, v4, v5])) = HB at hr eB i0 i1 i2 i3 i4 i5 ⊢
  walk_at "mg"
  refine ex_new 6 fun H4 v6 e4 h6 => ex_new 7 fun H5 v7 e5 h7 => ex_new 8 fun H6 v8 e6 h8 => ⟨by walk_at "sz", fun q nq => ?_⟩
  have eq := Ex.new (o := .lst [v6, v7, v8]) nq
  have e47 := e4.trans (e5.trans (e6.trans eq))
  refine ⟨_, _, e47 _ _ hr, upd_same, by walk_at "sz", fun r2 nr => ?_⟩
  have er := Ex.new (o := .lst ([v0, v1, v2, v3, v4, v5] ++ [v6, v7, v8])) nr
  have hr2 : upd (upd H6 q (.lst [v6, v7, v8])) r2 (.lst ([v0, v1, v2, v3, v4, v5] ++ [v6, v7, v8])) r2 = some (.lst [v0, v1, v2, v3, v4, v5, v6, v7, v8]) := upd_same
  refine hR3 _ _ (cut fun R4 hR4 => ?_)
  have eC := eB.trans (e47.trans er)
  have i0 := i0.ex (e47.trans er)
  have i1 := i1.ex (e47.trans er)
  have i2 := i2.ex (e47.trans er)
  have i3 := i3.ex (e47.trans er)
  have i4 := i4.ex (e47.trans er)
  have i5 := i5.ex (e47.trans er)
  have i6 := h6.ex (e5.trans (e6.trans (eq.trans er)))
  have i7 := h7.ex (e6.trans (eq.trans er))
  have i8 := h8.ex (eq.trans er)
  generalize upd (upd H6 q (.lst [v6, v7, v8])) r2 (.lst ([v0, v1, v2, v3, v4, v5] ++ [v6, v7, v8])) = HC at hr2 eC i0 i1 i2 i3 i4 i5 i6 i7 i8 ⊢
  walk_at "mg"
  refine ex_new 9 fun H4 v9 e4 h9 => ex_new 10 fun H5 v10 e5 h10 => ex_new 11 fun H6 v11 e6 h11 => ⟨by walk_at "sz", fun q nq => ?_⟩
  have eq := Ex.new (o := .lst [v9, v10, v11]) nq
  have e47 := e4.trans (e5.trans (e6.trans eq))
  refine ⟨_, _, e47 _ _ hr2, upd_same, by walk_at "sz", fun r3 nr => ?_⟩
  have er := Ex.new (o := .lst ([v0, v1, v2, v3, v4, v5, v6, v7, v8] ++ [v9, v10, v11])) nr
  have el : EL K (upd (upd H6 q (.lst [v9, v10, v11])) r3 (.lst ([v0, v1, v2, v3, v4, v5, v6, v7, v8] ++ [v9, v10, v11]))) r3 w := by
    have z := e47.trans er
    exact el_of upd_same (i0.ex z) (i1.ex z) (i2.ex z) (i3.ex z) (i4.ex z) (i5.ex z) (i6.ex z) (i7.ex z) (i8.ex z) (h9.ex (e5.trans (e6.trans (eq.trans er)))) (h10.ex (e6.trans (eq.trans er))) (h11.ex (eq.trans er))
  refine hR4 _ _ (cut fun R5 hR5 => ?_)
  have eD := eC.trans (e47.trans er)
  have nr3 : H r3 = none := (eC.trans e47).free nr
  generalize upd (upd H6 q (.lst [v9, v10, v11])) r3 (.lst ([v0, v1, v2, v3, v4, v5, v6, v7, v8] ++ [v9, v10, v11])) = HD at el eD ⊢
  walk_at "go"
  refine ⟨w, rfl, fun HE t eE nt elt => ?_⟩
  have E5 := eD.trans eE
  refine hR5 _ _ (cut fun R6 hR6 => ?_)
  walk_at "go"
  refine ⟨r3, w, d, rfl, el.ex eE, hw.ex E5, hg, fun HF eF => ?_⟩
  walk_at "go"
  try rw [if_neg (by simp)]
  refine ⟨t, w, d, rfl, elt.ex eF, hw.ex (E5.trans eF), hg, fun HG eG => ?_⟩
  walk_at "go"
  try rw [if_neg (by simp)]
  have E7 := E5.trans (eF.trans eG)
  have el7 := el.ex (eE.trans (eF.trans eG))
  have elt7 := elt.ex (eF.trans eG)
  have nt0 : H t = none := eD.free nt
  refine hR6 _ _ (cut fun R7 hR7 => ?_)
  walk_at "go"
  refine (hw.ex E7).isi (.inr (.inl rfl)) ?_
  rcases k with ⟨hno, k⟩ | ⟨a, i, rfl, ha, rfl, hg2, k⟩
  · rw [hno]
    walk_at "go"
    refine hR7 _ _ ?_
    walk_at "go"
    refine ⟨r3, w, d, rfl, el7, hw.ex E7, hg, fun HI eI => ?_⟩
    walk_at "go"
    refine ⟨t, w, d, rfl, elt7.ex eI, hw.ex (E7.trans eI), hg, fun HJ eJ => ?_⟩
    exact k HJ (E7.trans (eI.trans eJ))
  · have ha7 := E7 _ _ ha
    rw [show isD (.list [.int i]) "list" = true from rfl]
    walk_at "go"
    refine ⟨⟨_, ha7⟩, _, ha7, by rw [szl]; simp, ?_⟩
    have f1 : Fm [a] HG (upd HG a (.lst ([.int i] ++ [.str (S [109, 111, 114, 101])]))) := Fm.mut List.mem_cons_self
    have r3a : r3 ≠ a := fun z => by rw [z, ha] at nr3; cases nr3
    have ta : t ≠ a := fun z => by rw [z, ha] at nt0; cases nt0
    have el8 := el7.fm ha7 r3a f1
    have elt8 := elt7.fm ha7 ta f1
    have hw8 : Dq K (upd HG a (.lst ([.int i] ++ [.str (S [109, 111, 114, 101])]))) [] (.ref a) (.list [.int i, .str (S [109, 111, 114, 101])]) := .L upd_same (by simp) (.cons (.int _) (.cons (.str _) .nil))
    refine hR7 _ _ ?_
    walk_at "go"
    refine ⟨r3, .ref a, _, rfl, el8, hw8, hg2, fun HI eI => ?_⟩
    walk_at "go"
    refine ⟨t, .ref a, _, rfl, elt8.ex eI, hw8.ex eI, hg2, fun HJ eJ => ?_⟩
    exact k HJ ((Fm.ex E7).trans (f1.trans (Fm.ex (eI.trans eJ))))
end
end Pf

namespace Pf
open PySem PySem.Spec PyProof.Rows L2 M
local macro_rules | `(tactic| walk_at "go") => `(tactic| try simp only [↓q_par, ↓q_par3, tSeq, tIfS, tIf, tNot, mTest, tCB, tCons, tNil, mVar, M.gt, mC, Bool.not_true, Bool.not_false, Bool.false_eq_true, if_false, if_true, tNext, tAsg, gName, gSub, List.set_cons_zero, List.set_cons_succ, mFor, mIter, mRevS, S_cps, S_len, S_app, tOp, tSl, mPart, mUn, tNoPart, tRet, tRetN, tTup, tLst, tAnd, tOr, mAndV, mOrV, mNotV, tCall, tCallSD, tDrop, mPar, mPar3, mLstM, mStrM, mBits, mRng1, mRng2, mgTup, mgSeq, mgCons, mgNil, q_add1, q_add2, q_add3, q_add4, q_iadd1, q_iadd2, q_iadd3, q_sorted, q_sub, q_mul1, q_mul2, q_mul3, q_mod, q_div, q_pow, q_eq1, q_eq2, q_eq3, q_eq4, q_eq5, q_eq6, q_eq7, q_eq8, q_eq9, q_eq10, q_ne1, q_ne2, q_ne3, q_ne9, q_ne10, q_lt, q_le, q_gt, q_ge, q_inc1, q_ix1, q_ix2, q_sl1, q_sl2, q_set, q_len1, q_len2, q_int1, q_int2, q_max, q_min, q_abs, q_sum, q_list, q_isi1, q_is1, q_not1, q_isN1, q_isN2, q_isN3, q_isN4, q_join, q_count, q_split, q_app, q_pop, q_clear, q_isiE, q_repr, q_nin1, q_intab, q_ninta, q_ixtab, wipe, List.map_cons, List.map_nil, List.length_cons, List.length_nil, List.length_append, List.length_map, List.nil_append, List.cons_append, List.append_nil, cut_m3, cut_t3, cut_m1, cut_t1, cut_t2, S_eq, decide_eq_true_eq, Bool.not_eq_true', decide_eq_false_iff_not, ne_eq])
local macro_rules | `(tactic| walk_at "hh") => `(tactic| first | assumption | exact upd_same | exact Ex.new (by assumption) _ _ (by walk_at "hh") | exact Ex.at (by assumption) (by assumption) | solve_by_elim [Ex.at])
local macro_rules | `(tactic| walk_at "ee") => `(tactic| first | assumption | exact Ex.refl _ | exact Ex.push (by walk_at "ee") (by assumption) | exact Ex.trans (by assumption) (by assumption) | solve_by_elim [Ex.trans])
local macro_rules | `(tactic| walk_at "sz") => `(tactic| first | (rw [szl]; omega) | (simp only [szl, tx_len, sg_len, List.length_map, List.length_append, List.length_cons, List.length_nil, List.length_singleton, List.length_take, List.length_drop, List.length_reverse, S_len]; omega))
local macro_rules | `(tactic| walk_at "gx") => `(tactic| try simp only [↓q_par, ↓q_par3, ↓tSeq, ↓tIfS, ↓tIf, ↓tNot, ↓mTest, ↓tCB, ↓tCons, ↓tNil, ↓mVar, M.gt, ↓mC, Bool.not_true, Bool.not_false, Bool.false_eq_true, if_false, if_true, ↓tNext, ↓tAsg, ↓gName, ↓gSub, List.set_cons_zero, List.set_cons_succ, ↓mFor, ↓mIter, ↓mRevS, S_cps, S_len, S_app, ↓tOp, ↓tSl, ↓mPart, ↓mUn, ↓tNoPart, ↓tRet, ↓tRetN, ↓tTup, ↓tLst, ↓tAnd, ↓tOr, ↓mAndV, ↓mOrV, ↓mNotV, ↓tCall, ↓tCallSD, ↓tDrop, ↓mPar, ↓mPar3, ↓mLstM, ↓mStrM, ↓mBits, ↓mRng1, ↓mRng2, ↓mgTup, ↓mgSeq, ↓mgCons, ↓mgNil, q_add1, q_add2, q_add3, q_add4, q_iadd1, q_iadd2, q_iadd3, q_sorted, q_sub, q_mul1, q_mul2, q_mul3, q_mod, q_div, q_pow, q_eq1, q_eq2, q_eq3, q_eq4, q_eq5, q_eq6, q_eq7, q_eq8, q_eq9, q_eq10, q_ne1, q_ne2, q_ne3, q_ne9, q_ne10, q_lt, q_le, q_gt, q_ge, q_inc1, q_ix1, q_ix2, q_sl1, q_sl2, q_set, q_len1, q_len2, q_int1, q_int2, q_max, q_min, q_abs, q_sum, q_list, q_isi1, q_is1, q_not1, q_isN1, q_isN2, q_isN3, q_isN4, q_join, q_count, q_split, q_app, q_pop, q_clear, q_isiE, q_repr, q_nin1, q_intab, q_ninta, q_ixtab, wipe, List.map_cons, List.map_nil, List.length_cons, List.length_nil, List.length_append, List.length_map, List.nil_append, List.cons_append, List.append_nil, cut_m3, cut_t3, cut_m1, cut_t1, cut_t2, S_eq, decide_eq_true_eq, Bool.not_eq_true', decide_eq_false_iff_not, ne_eq])
local macro_rules | `(tactic| walk_at "mv") => `(tactic| try simp only [tMake, tMakeV, tMeth, tProp, tFldC, sFldC, tInst, mInvO, ClX.tCMeth, tJoin, tJs, tFmt, List.append_nil])
local macro_rules | `(tactic| walk_at "mg") => `(tactic| (walk_at "gx"; walk_at "mv"; walk_at "gx"))
local macro_rules | `(tactic| walk_at "mo") => `(tactic| first | assumption | (apply Mo.ex (Ex.new (by assumption)); walk_at "mo") | (apply Mo.ex; assumption; walk_at "mo"))
local macro_rules | `(tactic| walk_at "mx") => `(tactic| first | exact Ex.refl _ | assumption | (refine Ex.push ?_ (by assumption); walk_at "mx") | (refine Ex.trans ?_ (by assumption); walk_at "mx"))
local macro_rules | `(tactic| walk_at "mv") => `(tactic| try simp only [ex_at, tEx0, tExN, mFld, tDNewK, tDisp, tPairs])
theorem wt_int {i : Int} {n : Nat} (h : i.natAbs < 2 ^ n) (h0 : 0 < n := by omega) (h1 : n ≤ 1919 := by omega) : okD (.int i) = true ∧ wt (.int i) ≤ n + 2 := by
  have hl : i.natAbs.log2 < n := by
    by_cases z : i.natAbs = 0
    · rw [z]; simpa using h0
    · exact (Nat.log2_lt z).mpr h
  refine ⟨decide_eq_true (by omega), ?_⟩
  have := PySem.int_text_length_le h0 hl
  show (Str.ofString (toString i)).length ≤ _
  rw [PySem.ofString_length]; omega
theorem sw_int {i : Int} (h : i.natAbs < 2 ^ 50) : Sw (.int i) := .of ⟨(wt_int h).1, by simp only [PyData.depth]; omega, by have := (wt_int h).2; omega⟩ (by simp only [PyData.depth]; omega)
theorem sw_dct {i : Int} (h : i.natAbs < 2 ^ 50) : Sw (.dict [(.str (S [97]), .int i)]) := by
  have h1 := sw_int h
  have hl := (wt_int h).2
  simp only [wt] at hl
  refine ⟨?_, ?_, ?_⟩
  · simp only [PyData.showable, PyData.showableKv, Bool.and_true, Bool.true_and]
    exact h1.sh
  · simp only [PyData.depth, PyData.depthKv]; omega
  · simp only [PyData.shown, PyData.shownKv] at hl ⊢
    have e : ∀ x : Str, (dictText [x]).length = x.length + 2 := fun x => by
      unfold dictText
      rw [strLen_append, strLen_append]
      have : (Str.join ", " [x]).length = x.length := by
        have := join_length_add [x] (by simp)
        simp [piled] at this
        exact this
      rw [this]
      have a1 : ("{" : Str).length = 1 := by decide
      have a2 : ("}" : Str).length = 1 := by decide
      omega
    rw [e, strLen_append, strLen_append]
    have a3 := shown_str_le (z := [97]) (show ∀ c ∈ [97], c < 1114112 from by decide)
    simp only [PyData.shown] at a3
    have a4 : (": " : Str).length = 2 := by decide
    have a5 : [97].length = 1 := rfl
    omega
theorem sw_of {d : PyData} (h1 : okD d = true) (h2 : d.depth ≤ 50) (h3 : wt d ≤ 100000) : Sw d := .of ⟨h1, by omega, h3⟩ h2
section
variable (K : PySem.W.Frag)

theorem st {D : Ends} {v0 v1 v2 v3 v4 : Option V} {w : V} {ws : List V} {G : Hp → Prop} {H : Hp} {d : PyData} (hG : G H) (hw : Dq K H [] w d) (hs : Sw d) (hd : isD d "list" = false)
    (k : ∀ H', Ex H H' → fV G (gName 3) ((rd_law_b1 K sp__law_random (sp__law_generator K) (sp__law_placed K) (sp__law_given_right K) (sp__law_right K) (sp__law_kinds K) (ca K 5) (ca K 4) (ca K 3) (ca K 2) (ca K 1) (ca K 0) (ca K 11) (ca K 10) (ca K 9) (ca K 8) (ca K 7) (ca K 6) (ca K 12))) D ws [v0, v1, v2, some w, v4] H') : fV G (gName 3) ((rd_law_b1 K sp__law_random (sp__law_generator K) (sp__law_placed K) (sp__law_given_right K) (sp__law_right K) (sp__law_kinds K) (ca K 5) (ca K 4) (ca K 3) (ca K 2) (ca K 1) (ca K 0) (ca K 11) (ca K 10) (ca K 9) (ca K 8) (ca K 7) (ca K 6) (ca K 12))) D (w :: ws) [v0, v1, v2, v3, v4] H := by
  simp only [fV]
  refine ⟨hG, ?_⟩
  walk_at "go"
  refine ⟨w, d, rfl, hw, hs, .inl ⟨hd, fun H' e => ?_⟩⟩
  walk_at "go"
  try rw [if_neg (by simp)]
  exact k H' e
theorem stL {D : Ends} {v0 v1 v2 v3 v4 : Option V} {a : Addr} {i : Int} {ws : List V} {G : Hp → Prop} {H : Hp} (hG : G H) (ha : H a = some (.lst [.int i])) (hs : Sw (.list [.int i])) (hs2 : Sw (.list [.int i, .str (S [109, 111, 114, 101])]))
    (k : ∀ H', Fm [a] H H' → fV G (gName 3) ((rd_law_b1 K sp__law_random (sp__law_generator K) (sp__law_placed K) (sp__law_given_right K) (sp__law_right K) (sp__law_kinds K) (ca K 5) (ca K 4) (ca K 3) (ca K 2) (ca K 1) (ca K 0) (ca K 11) (ca K 10) (ca K 9) (ca K 8) (ca K 7) (ca K 6) (ca K 12))) D ws [v0, v1, v2, some (.ref a), v4] H') : fV G (gName 3) ((rd_law_b1 K sp__law_random (sp__law_generator K) (sp__law_placed K) (sp__law_given_right K) (sp__law_right K) (sp__law_kinds K) (ca K 5) (ca K 4) (ca K 3) (ca K 2) (ca K 1) (ca K 0) (ca K 11) (ca K 10) (ca K 9) (ca K 8) (ca K 7) (ca K 6) (ca K 12))) D (.ref a :: ws) [v0, v1, v2, v3, v4] H := by
  simp only [fV]
  refine ⟨hG, ?_⟩
  walk_at "go"
  refine ⟨.ref a, _, rfl, .L ha (by simp) (.cons (.int _) .nil), hs, .inr ⟨a, i, rfl, ha, rfl, hs2, fun H' e => ?_⟩⟩
  walk_at "go"
  try rw [if_neg (by simp)]
  exact k H' e
theorem lp_all {D : Ends} {v0 v1 v2 v3 v4 : Option V} {n : Int} (hn : n.natAbs < 2 ^ 50) {lp a1 a2 a3 a4 a5 a6 : Addr} {H : Hp} (y1 : H a1 = some (.tup [.str (S [97]), .str (S [98])])) (y2 : H a2 = some (.tup [])) (y3 : H a3 = some (.tup [.int 1, .int 2, .int 3])) (y4 : H a4 = some (.lst [.int 1])) (y5 : H a5 = some (.dK [])) (y6 : H a6 = some (.dK [(.inr (S [97]), .int n)]))
    (hlp : H lp = some (.lst [.int n, .int (0 - n), .ref a1, .ref a2, .ref a3, .ref a4, .ref a5, .str (S [97, 32, 98]), .str (S []), .bl true, .non, .ref a6])) (k : ∀ H' v3, Fm [a4] H H' → D.nx [v0, v1, v2, v3, v4] H') :
    fV (fun H => SqL K H lp [.int n, .int (0 - n), .ref a1, .ref a2, .ref a3, .ref a4, .ref a5, .str (S [97, 32, 98]), .str (S []), .bl true, .non, .ref a6]) (gName 3) ((rd_law_b1 K sp__law_random (sp__law_generator K) (sp__law_placed K) (sp__law_given_right K) (sp__law_right K) (sp__law_kinds K) (ca K 5) (ca K 4) (ca K 3) (ca K 2) (ca K 1) (ca K 0) (ca K 11) (ca K 10) (ca K 9) (ca K 8) (ca K 7) (ca K 6) (ca K 12))) D [.int n, .int (0 - n), .ref a1, .ref a2, .ref a3, .ref a4, .ref a5, .str (S [97, 32, 98]), .str (S []), .bl true, .non, .ref a6] [v0, v1, v2, v3, v4] H := by
  have ne : ∀ {b : Addr} {o : HO}, H b = some o → o ≠ .lst [.int 1] → b ∉ [a4] := fun {b o} h1 h2 z => by
    rw [List.mem_singleton.mp z, y4] at h1
    exact h2 (Option.some.inj h1).symm
  have n1 := ne y1 (by simp)
  have n2 := ne y2 (by simp)
  have n3 := ne y3 (by simp)
  have n5 := ne y5 (by simp)
  have n6 := ne y6 (by simp)
  have nl := ne hlp (by simp)
  have ok : ∀ {d : PyData}, okD d = true → d.depth ≤ 50 → wt d ≤ 100000 → Sw d := fun a b c => sw_of a b c
  refine st K (d := .int n) (SqL.of hlp) (.int _) (sw_int hn) rfl fun H1 e1 => ?_
  refine st K (d := .int (0 - n)) (SqL.of (e1 _ _ hlp)) (.int _) (sw_int (by omega)) rfl fun H2 e2 => ?_
  have E2 := e1.trans e2
  refine st K (d := .tuple [.str (S [97]), .str (S [98])]) (SqL.of (E2 _ _ hlp)) (.T (E2 _ _ y1) (by simp) (.cons (.str _) (.cons (.str _) .nil))) (ok (by decide +kernel) (by decide) (by decide +kernel)) rfl fun H3 e3 => ?_
  have E3 := E2.trans e3
  refine st K (d := .tuple []) (SqL.of (E3 _ _ hlp)) (.T (E3 _ _ y2) (by simp) .nil) (ok (by decide +kernel) (by decide) (by decide +kernel)) rfl fun H4 e4 => ?_
  have E4 := E3.trans e4
  refine st K (d := .tuple [.int 1, .int 2, .int 3]) (SqL.of (E4 _ _ hlp)) (.T (E4 _ _ y3) (by simp) (.cons (.int _) (.cons (.int _) (.cons (.int _) .nil)))) (ok (by decide +kernel) (by decide) (by decide +kernel)) rfl fun H5 e5 => ?_
  have E5 := E4.trans e5
  refine stL K (SqL.of (E5 _ _ hlp)) (E5 _ _ y4) (ok (by decide +kernel) (by decide) (by decide +kernel)) (ok (by decide +kernel) (by decide) (by decide +kernel)) fun H6 f6 => ?_
  have F6 : Fm [a4] H H6 := (Fm.ex E5).trans f6
  refine st K (d := .dict []) (SqL.of (F6 _ _ nl hlp)) (.dct (F6 _ _ n5 y5) (by simp) rfl) (ok (by decide +kernel) (by decide) (by decide +kernel)) rfl fun H7 e7 => ?_
  have F7 := F6.trans (Fm.ex e7)
  refine st K (d := .str (S [97, 32, 98])) (SqL.of (F7 _ _ nl hlp)) (.str _) (ok (by decide +kernel) (by decide) (by decide +kernel)) rfl fun H8 e8 => ?_
  have F8 := F7.trans (Fm.ex e8)
  refine st K (d := .str (S [])) (SqL.of (F8 _ _ nl hlp)) (.str _) (ok (by decide +kernel) (by decide) (by decide +kernel)) rfl fun H9 e9 => ?_
  have F9 := F8.trans (Fm.ex e9)
  refine st K (d := .bool true) (SqL.of (F9 _ _ nl hlp)) (.bl _) (ok (by decide +kernel) (by decide) (by decide +kernel)) rfl fun HA eA => ?_
  have FA := F9.trans (Fm.ex eA)
  refine st K (d := .none) (SqL.of (FA _ _ nl hlp)) .non (ok (by decide +kernel) (by decide) (by decide +kernel)) rfl fun HB eB => ?_
  have FB := FA.trans (Fm.ex eB)
  refine st K (d := .dict [(.str (S [97]), .int n)]) (SqL.of (FB _ _ nl hlp)) (.dct (FB _ _ n6 y6) (by simp) rfl) (sw_dct hn) rfl fun HC eC => ?_
  have FC := FB.trans (Fm.ex eC)
  exact ⟨SqL.of (FC _ _ nl hlp), k HC _ FC⟩
def sp_law : Sp := fun vs H Q _ => ∃ (a : Addr) (ns : List Int), vs = [.ref a] ∧ SqL K H a (ns.map V.int) ∧ ∀ H', Q (.bl true) H'
theorem pu_law (vs : List V) (H : Hp) (Q : VK) (E : XK) (h : sp_law K vs H Q E) : rd_law K sp__law_random (sp__law_generator K) (sp__law_placed K) (sp__law_given_right K) (sp__law_right K) (sp__law_kinds K) (ca K 5) (ca K 4) (ca K 3) (ca K 2) (ca K 1) (ca K 0) (ca K 11) (ca K 10) (ca K 9) (ca K 8) (ca K 7) (ca K 6) (ca K 12) { nx := fun _ H' => Q .non H', rt := Q } (L2.start N_law vs) H := by
  obtain ⟨a, ns, rfl, hL, k⟩ := h
  show rd_law K _ _ _ _ _ _ _ _ _ _ _ _ _ _ _ _ _ _ _ _ [some _, none, none, none, none] H
  unfold rd_law
  refine cut fun R hR => ?_
  walk_at "go"
  refine ⟨a, ns, 0, rfl, hL, by decide, fun g o ng pu => ?_⟩
  walk_at "go"
  refine ⟨⟨by decide, by decide⟩, g, _, (10 : Int) ^ (12 : Int).toNat, rfl, by decide, by decide, by decide, pu, fun H1 n f1 p1 n0 n1 => hR _ _ (cut fun R2 hR2 => ?_)⟩
  have hn : n < 1000000000000 := n1
  walk_at "go"
  refine ⟨.int n, rfl, fun H2 q1 e2 nq1 l1 => ?_⟩
  refine ⟨_, rfl, fun H3 q2 e3 nq2 l2 => ⟨by walk_at "sz", fun kp nkp => hR2 _ _ (cut fun R3 hR3 => ?_)⟩⟩
  have ekp := Ex.new (o := .lst [.ref q1, .ref q2]) nkp
  have hkp := upd_same (H := H3) (a := kp) (o := .lst [.ref q1, .ref q2])
  have L1 := (l1.ex e3).ex ekp
  have L2 := l2.ex ekp
  have t1 : ∃ o, upd H3 kp (.lst [.ref q1, .ref q2]) q1 = some o := by obtain ⟨es, h, _⟩ := L1; exact ⟨_, h⟩
  have t2 : ∃ o, upd H3 kp (.lst [.ref q1, .ref q2]) q2 = some o := by obtain ⟨es, h, _⟩ := L2; exact ⟨_, h⟩
  generalize upd H3 kp (.lst [.ref q1, .ref q2]) = H4 at hkp L1 L2 t1 t2 ⊢
  refine forL fun RL hRL => ?_
  walk_at "mg"
  refine ⟨by walk_at "sz", fun a1 m1 => ⟨by walk_at "sz", fun a2 m2 => ⟨by walk_at "sz", fun a3 m3 => ⟨by walk_at "sz", fun a4 m4 => fun a5 m5 => fun a6 m6 => ⟨upd_same, [(.inr (S [97]), .int n)], rfl, by simp, ?_⟩⟩⟩⟩⟩
  have x1 := Ex.new (o := .tup [.str (S [97]), .str (S [98])]) m1
  have x2 := Ex.new (o := .tup []) m2
  have x3 := Ex.new (o := .tup [.int 1, .int 2, .int 3]) m3
  have x4 := Ex.new (o := .lst [.int 1]) m4
  have x5 := Ex.new (o := .dK []) m5
  have x6 := (Ex.new (o := .dK []) m6).mut (o := .dK (mergeK [] [(.inr (S [97]), .int n)])) m6
  refine hRL _ _ (by walk_at "sz") fun lp nlp => ?_
  have xl := Ex.new (o := .lst [.int n, .int (0 - n), .ref a1, .ref a2, .ref a3, .ref a4, .ref a5, .str (S [97, 32, 98]), .str (S []), .bl true, .non, .ref a6]) nlp
  have x26 := x2.trans (x3.trans (x4.trans (x5.trans (x6.trans xl))))
  have x36 := x3.trans (x4.trans (x5.trans (x6.trans xl)))
  have x46 := x4.trans (x5.trans (x6.trans xl))
  have x56 := x5.trans (x6.trans xl)
  have y1 := x26 _ _ (upd_same (H := H4) (a := a1) (o := .tup [.str (S [97]), .str (S [98])]))
  have y2 := x36 _ _ (upd_same (a := a2) (o := .tup []))
  have y3 := x46 _ _ (upd_same (a := a3) (o := .tup [.int 1, .int 2, .int 3]))
  have y4 := x56 _ _ (upd_same (a := a4) (o := .lst [.int 1]))
  have y5 := (x6.trans xl) _ _ (upd_same (a := a5) (o := .dK []))
  have y6 := xl _ _ (upd_same (a := a6) (o := .dK (mergeK [] [(.inr (S [97]), .int n)])))
  have x16 := x1.trans x26
  have q1a : q1 ≠ a4 := fun z => by
    obtain ⟨o, h⟩ := t1
    have := (x1.trans (x2.trans x3)) _ _ h
    rw [z, m4] at this; cases this
  have q2a : q2 ≠ a4 := fun z => by
    obtain ⟨o, h⟩ := t2
    have := (x1.trans (x2.trans x3)) _ _ h
    rw [z, m4] at this; cases this
  have kpa : kp ≠ a4 := fun z => by
    have := (x1.trans (x2.trans x3)) _ _ hkp
    rw [z, m4] at this; cases this
  refine lp_all K (by omega) y1 y2 y3 y4 y5 y6 upd_same fun H5 v3 F => ?_
  have M1 := (L1.ex x16).fm y4 q1a F
  have M2 := (L2.ex x16).fm y4 q2a F
  have hkp5 := F _ _ (by simpa using kpa) (x16 _ _ hkp)
  clear y1 y2 y3 y4 y5 y6 x1 x2 x3 x4 x5 x6 xl x26 x36 x46 x56 x16 F nlp m6 m5 m4 m3 m2 m1
  refine hR3 _ _ (cut fun R4 hR4 => ?_)
  walk_at "mg"
  refine ex_new 0 fun H6 v0 e0 h0 => ex_new 1 fun H7 v1 e1 h1 => ex_new 2 fun H8 v2 e2 h2 => ex_new 3 fun H9 v3 e3 h3 => ex_new 4 fun HA v4 e4 h4 => ex_new 5 fun HB v5 e5 h5 => ⟨by walk_at "sz", fun p np => ?_⟩
  have ep := Ex.new (o := .lst [v0, v1, v2, v3, v4, v5]) np
  have hp := upd_same (H := HB) (a := p) (o := .lst [v0, v1, v2, v3, v4, v5])
  have i5 := h5.ex ep
  have i4 := h4.ex (e5.trans ep)
  have i3 := h3.ex (e4.trans (e5.trans ep))
  have i2 := h2.ex (e3.trans (e4.trans (e5.trans ep)))
  have i1 := h1.ex (e2.trans (e3.trans (e4.trans (e5.trans ep))))
  have i0 := h0.ex (e1.trans (e2.trans (e3.trans (e4.trans (e5.trans ep)))))
  have eP := e0.trans (e1.trans (e2.trans (e3.trans (e4.trans (e5.trans ep)))))
  refine hR4 _ _ (cut fun R5 hR5 => ?_)
  generalize upd HB p (.lst [v0, v1, v2, v3, v4, v5]) = HP at hp i0 i1 i2 i3 i4 i5 eP ⊢
  walk_at "mg"
  refine ex_new 6 fun H6 v6 e0 h6 => ex_new 7 fun H7 v7 e1 h7 => ex_new 8 fun H8 v8 e2 h8 => ex_new 9 fun H9 v9 e3 h9 => ex_new 10 fun HA v10 e4 h10 => ex_new 11 fun HB v11 e5 h11 => ⟨by walk_at "sz", fun q nq => ?_⟩
  have eq := Ex.new (o := .lst [v6, v7, v8, v9, v10, v11]) nq
  have e6 := e0.trans (e1.trans (e2.trans (e3.trans (e4.trans (e5.trans eq)))))
  refine ⟨_, _, e6 _ _ hp, upd_same, by walk_at "sz", fun r nr => ?_⟩
  have er := Ex.new (o := .lst ([v0, v1, v2, v3, v4, v5] ++ [v6, v7, v8, v9, v10, v11])) nr
  have e7 := e6.trans er
  have el : EL K (upd (upd HB q (.lst [v6, v7, v8, v9, v10, v11])) r (.lst ([v0, v1, v2, v3, v4, v5] ++ [v6, v7, v8, v9, v10, v11]))) r .non :=
    el_of upd_same (i0.ex e7) (i1.ex e7) (i2.ex e7) (i3.ex e7) (i4.ex e7) (i5.ex e7) (h6.ex (e1.trans (e2.trans (e3.trans (e4.trans (e5.trans (eq.trans er))))))) (h7.ex (e2.trans (e3.trans (e4.trans (e5.trans (eq.trans er)))))) (h8.ex (e3.trans (e4.trans (e5.trans (eq.trans er))))) (h9.ex (e4.trans (e5.trans (eq.trans er)))) (h10.ex (e5.trans (eq.trans er))) (h11.ex (eq.trans er))
  have eQ := eP.trans e7
  refine hR5 _ _ (cut fun R6 hR6 => ?_)
  generalize upd (upd HB q (.lst [v6, v7, v8, v9, v10, v11])) r (.lst ([v0, v1, v2, v3, v4, v5] ++ [v6, v7, v8, v9, v10, v11])) = HQ at el eQ ⊢
  have M1 := M1.ex eQ
  have M2 := M2.ex eQ
  have hk := eQ _ _ hkp5
  walk_at "go"
  refine ⟨_, _, .inl (SqL.of hk), aI_0 _ _, ?_⟩
  refine ⟨q1, .int n, _, rfl, M1, .int _, sw_int (by omega), fun HR e1 => ?_⟩
  walk_at "go"
  try rw [if_neg (by simp)]
  refine ⟨_, _, .inl (SqL.of (e1 _ _ hk)), aI_1 _ _ _, ?_⟩
  refine ⟨q2, _, _, rfl, M2.ex e1, .str _, sw_of (by decide +kernel) (by decide) (by decide +kernel), fun HS e2 => ?_⟩
  walk_at "go"
  try rw [if_neg (by simp)]
  refine hR6 _ _ ?_
  walk_at "mg"
  refine ⟨r, .non, _, rfl, el.ex (e1.trans e2), .non, sw_of (by decide +kernel) (by decide) (by decide +kernel), fun HT e3 => ?_⟩
  walk_at "mg"
  unfold eNew0
  intro e he
  refine ⟨.ref e, 12, rfl, ⟨e, none, rfl, upd_same, .inl rfl⟩, by decide, fun HU p e4 np hp => ⟨by walk_at "sz", fun q nq => ?_⟩⟩
  refine eq_ints (a := [12]) (b := [12]) (SqL.of ((Ex.new nq) _ _ hp)) (SqL.of upd_same) ?_
  rw [if_neg Bool.false_ne_true, decide_eq_true rfl]
  exact k _
end
end Pf

namespace Pf
open PySem PySem.Spec PyProof.Rows L2 M
theorem facts {w : World} {K : PySem.W.Frag} {h : Heap} {mg : Str → Option Value} {fa : Addr} (X : K.In h) (G : h.Ns mainGlobals mg) (hfa : mg ("law" : Str) = some (.ref fa)) (cT : SaysXT faL fnL tabL w K) :
    ∃ fd : FuncData, (∀ (s : Shared) (v : Value), BindsTo s fd ⟨[v], []⟩ [("_law_script", v)]) ∧ ∀ base : Heap, K.In base → base.Ns mainGlobals mg → FnG Pg w K mg base CX0 200 fa fd ["_law_script"] (sp_law K) := by
  have c := cT.d
  have g_TurnError : mg "TurnError" = some (.ref (He.ga K "TurnError")) := He.glo_ok X G (c.fact 0 (f := fun K => (He.Fa.glo "TurnError").ok K))
  have g_InvalidTree : mg "InvalidTree" = some (.ref (He.ga K "InvalidTree")) := He.glo_ok X G (c.fact 1 (f := fun K => (He.Fa.glo "InvalidTree").ok K))
  have g_InvalidAddress : mg "InvalidAddress" = some (.ref (He.ga K "InvalidAddress")) := He.glo_ok X G (c.fact 2 (f := fun K => (He.Fa.glo "InvalidAddress").ok K))
  have g_InvalidNumber : mg "InvalidNumber" = some (.ref (He.ga K "InvalidNumber")) := He.glo_ok X G (c.fact 3 (f := fun K => (He.Fa.glo "InvalidNumber").ok K))
  have g_InvalidList : mg "InvalidList" = some (.ref (He.ga K "InvalidList")) := He.glo_ok X G (c.fact 4 (f := fun K => (He.Fa.glo "InvalidList").ok K))
  have g_InvalidScript : mg "InvalidScript" = some (.ref (He.ga K "InvalidScript")) := He.glo_ok X G (c.fact 5 (f := fun K => (He.Fa.glo "InvalidScript").ok K))
  have g_InvalidMove : mg "InvalidMove" = some (.ref (He.ga K "InvalidMove")) := He.glo_ok X G (c.fact 6 (f := fun K => (He.Fa.glo "InvalidMove").ok K))
  have g_CannotTurn : mg "CannotTurn" = some (.ref (He.ga K "CannotTurn")) := He.glo_ok X G (c.fact 7 (f := fun K => (He.Fa.glo "CannotTurn").ok K))
  have g_CannotMove : mg "CannotMove" = some (.ref (He.ga K "CannotMove")) := He.glo_ok X G (c.fact 8 (f := fun K => (He.Fa.glo "CannotMove").ok K))
  have g_NotCarried : mg "NotCarried" = some (.ref (He.ga K "NotCarried")) := He.glo_ok X G (c.fact 9 (f := fun K => (He.Fa.glo "NotCarried").ok K))
  have g_InvalidName : mg "InvalidName" = some (.ref (He.ga K "InvalidName")) := He.glo_ok X G (c.fact 10 (f := fun K => (He.Fa.glo "InvalidName").ok K))
  have g_TakenName : mg "TakenName" = some (.ref (He.ga K "TakenName")) := He.glo_ok X G (c.fact 11 (f := fun K => (He.Fa.glo "TakenName").ok K))
  have g_UnknownName : mg "UnknownName" = some (.ref (He.ga K "UnknownName")) := He.glo_ok X G (c.fact 12 (f := fun K => (He.Fa.glo "UnknownName").ok K))
  have g_NothingToUndo : mg "NothingToUndo" = some (.ref (He.ga K "NothingToUndo")) := He.glo_ok X G (c.fact 13 (f := fun K => (He.Fa.glo "NothingToUndo").ok K))
  have g__law_cell : mg "_law_cell" = some (.ref (He.ga K "_law_cell")) := He.glo_ok X G (c.fact 14 (f := fun K => (He.Fa.glo "_law_cell").ok K))
  have g__law_hash : mg "_law_hash" = some (.ref (He.ga K "_law_hash")) := He.glo_ok X G (c.fact 15 (f := fun K => (He.Fa.glo "_law_hash").ok K))
  have g__law_generator : mg "_law_generator" = some (.ref (He.ga K "_law_generator")) := He.glo_ok X G (c.fact 16 (f := fun K => (He.Fa.glo "_law_generator").ok K))
  have g__law_random : mg "_law_random" = some (.ref (He.ga K "_law_random")) := He.glo_ok X G (c.fact 17 (f := fun K => (He.Fa.glo "_law_random").ok K))
  have g__law_kinds : mg "_law_kinds" = some (.ref (He.ga K "_law_kinds")) := He.glo_ok X G (c.fact 18 (f := fun K => (He.Fa.glo "_law_kinds").ok K))
  have g__law_fields : mg "_law_fields" = some (.ref (He.ga K "_law_fields")) := He.glo_ok X G (c.fact 19 (f := fun K => (He.Fa.glo "_law_fields").ok K))
  have g__law_right : mg "_law_right" = some (.ref (He.ga K "_law_right")) := He.glo_ok X G (c.fact 20 (f := fun K => (He.Fa.glo "_law_right").ok K))
  have g__law_placed : mg "_law_placed" = some (.ref (He.ga K "_law_placed")) := He.glo_ok X G (c.fact 21 (f := fun K => (He.Fa.glo "_law_placed").ok K))
  have g__law_given_right : mg "_law_given_right" = some (.ref (He.ga K "_law_given_right")) := He.glo_ok X G (c.fact 22 (f := fun K => (He.Fa.glo "_law_given_right").ok K))
  have g_law : mg "law" = some (.ref (He.ga K "law")) := He.glo_ok X G (c.fact 23 (f := fun K => (He.Fa.glo "law").ok K))
  have T : Tx K mg := ⟨He.free_ok X G (c.fact 24 (f := fun K => (He.Fa.free "len").ok K)), He.free_ok X G (c.fact 25 (f := fun K => (He.Fa.free "int").ok K)), He.free_ok X G (c.fact 26 (f := fun K => (He.Fa.free "max").ok K)), He.free_ok X G (c.fact 27 (f := fun K => (He.Fa.free "range").ok K)), He.free_ok X G (c.fact 28 (f := fun K => (He.Fa.free "isinstance").ok K)), He.free_ok X G (c.fact 29 (f := fun K => (He.Fa.free "ValueError").ok K)), He.free_ok X G (c.fact 30 (f := fun K => (He.Fa.free "repr").ok K)), He.free_ok X G (c.fact 31 (f := fun K => (He.Fa.free "list").ok K)), (c.fact 32 (f := fun K => smB K))⟩
  have ka : kAllB K = true :=  (c.fact 46 (f := kAllB))
  obtain ⟨X_InvalidTree, E_InvalidTree⟩ : ExcAt Pg w K mg "InvalidTree" "value" (He.ga K "InvalidTree") ∧ ExcK K "value" (He.ga K "InvalidTree") := ex_of (q := [⟨7, 8, 7, 13⟩, ⟨7, 8, 7, 15⟩, ⟨7, 8, 7, 24⟩, ⟨7, 25, 7, 30⟩, ⟨7, 8, 7, 31⟩, ⟨7, 8, 7, 31⟩, ⟨8, 8, 8, 12⟩, ⟨8, 8, 8, 18⟩, ⟨8, 21, 8, 26⟩, ⟨8, 8, 8, 26⟩]) X G (c.fact 33 (f := fun K => exB Pg "InvalidTree" "value" K)) (c.def0 0 (d := dx_InvalidTree___init__)) rfl rfl rfl rfl rfl rfl rfl (by decide) (by decide) rfl rfl rfl rfl rfl rfl rfl (by decide) (by decide +kernel) (fun env h => by cases env; cases h; rfl) (fun env h => by cases env; cases h; exact ⟨_, rfl⟩) (fun env h => by cases env; cases h; rfl) (fun _ _ _ _ _ _ _ _ _ _ => ⟨_, rfl, rfl⟩) (fun _ _ _ _ _ _ _ _ _ => ⟨_, rfl, rfl⟩) (fun _ _ _ _ _ _ _ _ _ _ => ⟨_, rfl, rfl⟩)
  obtain ⟨X_InvalidAddress, E_InvalidAddress⟩ : ExcAt Pg w K mg "InvalidAddress" "value" (He.ga K "InvalidAddress") ∧ ExcK K "value" (He.ga K "InvalidAddress") := ex_of (q := [⟨12, 8, 12, 13⟩, ⟨12, 8, 12, 15⟩, ⟨12, 8, 12, 24⟩, ⟨12, 25, 12, 30⟩, ⟨12, 8, 12, 31⟩, ⟨12, 8, 12, 31⟩, ⟨13, 8, 13, 12⟩, ⟨13, 8, 13, 18⟩, ⟨13, 21, 13, 26⟩, ⟨13, 8, 13, 26⟩]) X G (c.fact 34 (f := fun K => exB Pg "InvalidAddress" "value" K)) (c.def0 1 (d := dx_InvalidAddress___init__)) rfl rfl rfl rfl rfl rfl rfl (by decide) (by decide) rfl rfl rfl rfl rfl rfl rfl (by decide) (by decide +kernel) (fun env h => by cases env; cases h; rfl) (fun env h => by cases env; cases h; exact ⟨_, rfl⟩) (fun env h => by cases env; cases h; rfl) (fun _ _ _ _ _ _ _ _ _ _ => ⟨_, rfl, rfl⟩) (fun _ _ _ _ _ _ _ _ _ => ⟨_, rfl, rfl⟩) (fun _ _ _ _ _ _ _ _ _ _ => ⟨_, rfl, rfl⟩)
  obtain ⟨X_InvalidNumber, E_InvalidNumber⟩ : ExcAt Pg w K mg "InvalidNumber" "value" (He.ga K "InvalidNumber") ∧ ExcK K "value" (He.ga K "InvalidNumber") := ex_of (q := [⟨17, 8, 17, 13⟩, ⟨17, 8, 17, 15⟩, ⟨17, 8, 17, 24⟩, ⟨17, 25, 17, 30⟩, ⟨17, 8, 17, 31⟩, ⟨17, 8, 17, 31⟩, ⟨18, 8, 18, 12⟩, ⟨18, 8, 18, 18⟩, ⟨18, 21, 18, 26⟩, ⟨18, 8, 18, 26⟩]) X G (c.fact 35 (f := fun K => exB Pg "InvalidNumber" "value" K)) (c.def0 2 (d := dx_InvalidNumber___init__)) rfl rfl rfl rfl rfl rfl rfl (by decide) (by decide) rfl rfl rfl rfl rfl rfl rfl (by decide) (by decide +kernel) (fun env h => by cases env; cases h; rfl) (fun env h => by cases env; cases h; exact ⟨_, rfl⟩) (fun env h => by cases env; cases h; rfl) (fun _ _ _ _ _ _ _ _ _ _ => ⟨_, rfl, rfl⟩) (fun _ _ _ _ _ _ _ _ _ => ⟨_, rfl, rfl⟩) (fun _ _ _ _ _ _ _ _ _ _ => ⟨_, rfl, rfl⟩)
  obtain ⟨X_InvalidList, E_InvalidList⟩ : ExcAt Pg w K mg "InvalidList" "value" (He.ga K "InvalidList") ∧ ExcK K "value" (He.ga K "InvalidList") := ex_of (q := [⟨22, 8, 22, 13⟩, ⟨22, 8, 22, 15⟩, ⟨22, 8, 22, 24⟩, ⟨22, 25, 22, 30⟩, ⟨22, 8, 22, 31⟩, ⟨22, 8, 22, 31⟩, ⟨23, 8, 23, 12⟩, ⟨23, 8, 23, 18⟩, ⟨23, 21, 23, 26⟩, ⟨23, 8, 23, 26⟩]) X G (c.fact 36 (f := fun K => exB Pg "InvalidList" "value" K)) (c.def0 3 (d := dx_InvalidList___init__)) rfl rfl rfl rfl rfl rfl rfl (by decide) (by decide) rfl rfl rfl rfl rfl rfl rfl (by decide) (by decide +kernel) (fun env h => by cases env; cases h; rfl) (fun env h => by cases env; cases h; exact ⟨_, rfl⟩) (fun env h => by cases env; cases h; rfl) (fun _ _ _ _ _ _ _ _ _ _ => ⟨_, rfl, rfl⟩) (fun _ _ _ _ _ _ _ _ _ => ⟨_, rfl, rfl⟩) (fun _ _ _ _ _ _ _ _ _ _ => ⟨_, rfl, rfl⟩)
  obtain ⟨X_InvalidScript, E_InvalidScript⟩ : ExcAt Pg w K mg "InvalidScript" "value" (He.ga K "InvalidScript") ∧ ExcK K "value" (He.ga K "InvalidScript") := ex_of (q := [⟨27, 8, 27, 13⟩, ⟨27, 8, 27, 15⟩, ⟨27, 8, 27, 24⟩, ⟨27, 25, 27, 30⟩, ⟨27, 8, 27, 31⟩, ⟨27, 8, 27, 31⟩, ⟨28, 8, 28, 12⟩, ⟨28, 8, 28, 18⟩, ⟨28, 21, 28, 26⟩, ⟨28, 8, 28, 26⟩]) X G (c.fact 37 (f := fun K => exB Pg "InvalidScript" "value" K)) (c.def0 4 (d := dx_InvalidScript___init__)) rfl rfl rfl rfl rfl rfl rfl (by decide) (by decide) rfl rfl rfl rfl rfl rfl rfl (by decide) (by decide +kernel) (fun env h => by cases env; cases h; rfl) (fun env h => by cases env; cases h; exact ⟨_, rfl⟩) (fun env h => by cases env; cases h; rfl) (fun _ _ _ _ _ _ _ _ _ _ => ⟨_, rfl, rfl⟩) (fun _ _ _ _ _ _ _ _ _ => ⟨_, rfl, rfl⟩) (fun _ _ _ _ _ _ _ _ _ _ => ⟨_, rfl, rfl⟩)
  obtain ⟨X_InvalidMove, E_InvalidMove⟩ : ExcAt Pg w K mg "InvalidMove" "value" (He.ga K "InvalidMove") ∧ ExcK K "value" (He.ga K "InvalidMove") := ex_of (q := [⟨32, 8, 32, 13⟩, ⟨32, 8, 32, 15⟩, ⟨32, 8, 32, 24⟩, ⟨32, 25, 32, 30⟩, ⟨32, 8, 32, 31⟩, ⟨32, 8, 32, 31⟩, ⟨33, 8, 33, 12⟩, ⟨33, 8, 33, 18⟩, ⟨33, 21, 33, 26⟩, ⟨33, 8, 33, 26⟩]) X G (c.fact 38 (f := fun K => exB Pg "InvalidMove" "value" K)) (c.def0 5 (d := dx_InvalidMove___init__)) rfl rfl rfl rfl rfl rfl rfl (by decide) (by decide) rfl rfl rfl rfl rfl rfl rfl (by decide) (by decide +kernel) (fun env h => by cases env; cases h; rfl) (fun env h => by cases env; cases h; exact ⟨_, rfl⟩) (fun env h => by cases env; cases h; rfl) (fun _ _ _ _ _ _ _ _ _ _ => ⟨_, rfl, rfl⟩) (fun _ _ _ _ _ _ _ _ _ => ⟨_, rfl, rfl⟩) (fun _ _ _ _ _ _ _ _ _ _ => ⟨_, rfl, rfl⟩)
  obtain ⟨X_CannotTurn, E_CannotTurn⟩ : ExcAt Pg w K mg "CannotTurn" "place" (He.ga K "CannotTurn") ∧ ExcK K "place" (He.ga K "CannotTurn") := ex_of (q := [⟨37, 8, 37, 13⟩, ⟨37, 8, 37, 15⟩, ⟨37, 8, 37, 24⟩, ⟨37, 25, 37, 30⟩, ⟨37, 8, 37, 31⟩, ⟨37, 8, 37, 31⟩, ⟨38, 8, 38, 12⟩, ⟨38, 8, 38, 18⟩, ⟨38, 21, 38, 26⟩, ⟨38, 8, 38, 26⟩]) X G (c.fact 39 (f := fun K => exB Pg "CannotTurn" "place" K)) (c.def0 6 (d := dx_CannotTurn___init__)) rfl rfl rfl rfl rfl rfl rfl (by decide) (by decide) rfl rfl rfl rfl rfl rfl rfl (by decide) (by decide +kernel) (fun env h => by cases env; cases h; rfl) (fun env h => by cases env; cases h; exact ⟨_, rfl⟩) (fun env h => by cases env; cases h; rfl) (fun _ _ _ _ _ _ _ _ _ _ => ⟨_, rfl, rfl⟩) (fun _ _ _ _ _ _ _ _ _ => ⟨_, rfl, rfl⟩) (fun _ _ _ _ _ _ _ _ _ _ => ⟨_, rfl, rfl⟩)
  obtain ⟨X_CannotMove, E_CannotMove⟩ : ExcAt Pg w K mg "CannotMove" "value" (He.ga K "CannotMove") ∧ ExcK K "value" (He.ga K "CannotMove") := ex_of (q := [⟨42, 8, 42, 13⟩, ⟨42, 8, 42, 15⟩, ⟨42, 8, 42, 24⟩, ⟨42, 25, 42, 30⟩, ⟨42, 8, 42, 31⟩, ⟨42, 8, 42, 31⟩, ⟨43, 8, 43, 12⟩, ⟨43, 8, 43, 18⟩, ⟨43, 21, 43, 26⟩, ⟨43, 8, 43, 26⟩]) X G (c.fact 40 (f := fun K => exB Pg "CannotMove" "value" K)) (c.def0 7 (d := dx_CannotMove___init__)) rfl rfl rfl rfl rfl rfl rfl (by decide) (by decide) rfl rfl rfl rfl rfl rfl rfl (by decide) (by decide +kernel) (fun env h => by cases env; cases h; rfl) (fun env h => by cases env; cases h; exact ⟨_, rfl⟩) (fun env h => by cases env; cases h; rfl) (fun _ _ _ _ _ _ _ _ _ _ => ⟨_, rfl, rfl⟩) (fun _ _ _ _ _ _ _ _ _ => ⟨_, rfl, rfl⟩) (fun _ _ _ _ _ _ _ _ _ _ => ⟨_, rfl, rfl⟩)
  obtain ⟨X_NotCarried, E_NotCarried⟩ : ExcAt Pg w K mg "NotCarried" "address" (He.ga K "NotCarried") ∧ ExcK K "address" (He.ga K "NotCarried") := ex_of (q := [⟨47, 8, 47, 13⟩, ⟨47, 8, 47, 15⟩, ⟨47, 8, 47, 24⟩, ⟨47, 25, 47, 32⟩, ⟨47, 8, 47, 33⟩, ⟨47, 8, 47, 33⟩, ⟨48, 8, 48, 12⟩, ⟨48, 8, 48, 20⟩, ⟨48, 23, 48, 30⟩, ⟨48, 8, 48, 30⟩]) X G (c.fact 41 (f := fun K => exB Pg "NotCarried" "address" K)) (c.def0 8 (d := dx_NotCarried___init__)) rfl rfl rfl rfl rfl rfl rfl (by decide) (by decide) rfl rfl rfl rfl rfl rfl rfl (by decide) (by decide +kernel) (fun env h => by cases env; cases h; rfl) (fun env h => by cases env; cases h; exact ⟨_, rfl⟩) (fun env h => by cases env; cases h; rfl) (fun _ _ _ _ _ _ _ _ _ _ => ⟨_, rfl, rfl⟩) (fun _ _ _ _ _ _ _ _ _ => ⟨_, rfl, rfl⟩) (fun _ _ _ _ _ _ _ _ _ _ => ⟨_, rfl, rfl⟩)
  obtain ⟨X_InvalidName, E_InvalidName⟩ : ExcAt Pg w K mg "InvalidName" "name" (He.ga K "InvalidName") ∧ ExcK K "name" (He.ga K "InvalidName") := ex_of (q := [⟨52, 8, 52, 13⟩, ⟨52, 8, 52, 15⟩, ⟨52, 8, 52, 24⟩, ⟨52, 25, 52, 29⟩, ⟨52, 8, 52, 30⟩, ⟨52, 8, 52, 30⟩, ⟨53, 8, 53, 12⟩, ⟨53, 8, 53, 17⟩, ⟨53, 20, 53, 24⟩, ⟨53, 8, 53, 24⟩]) X G (c.fact 42 (f := fun K => exB Pg "InvalidName" "name" K)) (c.def0 9 (d := dx_InvalidName___init__)) rfl rfl rfl rfl rfl rfl rfl (by decide) (by decide) rfl rfl rfl rfl rfl rfl rfl (by decide) (by decide +kernel) (fun env h => by cases env; cases h; rfl) (fun env h => by cases env; cases h; exact ⟨_, rfl⟩) (fun env h => by cases env; cases h; rfl) (fun _ _ _ _ _ _ _ _ _ _ => ⟨_, rfl, rfl⟩) (fun _ _ _ _ _ _ _ _ _ => ⟨_, rfl, rfl⟩) (fun _ _ _ _ _ _ _ _ _ _ => ⟨_, rfl, rfl⟩)
  obtain ⟨X_TakenName, E_TakenName⟩ : ExcAt Pg w K mg "TakenName" "name" (He.ga K "TakenName") ∧ ExcK K "name" (He.ga K "TakenName") := ex_of (q := [⟨57, 8, 57, 13⟩, ⟨57, 8, 57, 15⟩, ⟨57, 8, 57, 24⟩, ⟨57, 25, 57, 29⟩, ⟨57, 8, 57, 30⟩, ⟨57, 8, 57, 30⟩, ⟨58, 8, 58, 12⟩, ⟨58, 8, 58, 17⟩, ⟨58, 20, 58, 24⟩, ⟨58, 8, 58, 24⟩]) X G (c.fact 43 (f := fun K => exB Pg "TakenName" "name" K)) (c.def0 10 (d := dx_TakenName___init__)) rfl rfl rfl rfl rfl rfl rfl (by decide) (by decide) rfl rfl rfl rfl rfl rfl rfl (by decide) (by decide +kernel) (fun env h => by cases env; cases h; rfl) (fun env h => by cases env; cases h; exact ⟨_, rfl⟩) (fun env h => by cases env; cases h; rfl) (fun _ _ _ _ _ _ _ _ _ _ => ⟨_, rfl, rfl⟩) (fun _ _ _ _ _ _ _ _ _ => ⟨_, rfl, rfl⟩) (fun _ _ _ _ _ _ _ _ _ _ => ⟨_, rfl, rfl⟩)
  obtain ⟨X_UnknownName, E_UnknownName⟩ : ExcAt Pg w K mg "UnknownName" "name" (He.ga K "UnknownName") ∧ ExcK K "name" (He.ga K "UnknownName") := ex_of (q := [⟨62, 8, 62, 13⟩, ⟨62, 8, 62, 15⟩, ⟨62, 8, 62, 24⟩, ⟨62, 25, 62, 29⟩, ⟨62, 8, 62, 30⟩, ⟨62, 8, 62, 30⟩, ⟨63, 8, 63, 12⟩, ⟨63, 8, 63, 17⟩, ⟨63, 20, 63, 24⟩, ⟨63, 8, 63, 24⟩]) X G (c.fact 44 (f := fun K => exB Pg "UnknownName" "name" K)) (c.def0 11 (d := dx_UnknownName___init__)) rfl rfl rfl rfl rfl rfl rfl (by decide) (by decide) rfl rfl rfl rfl rfl rfl rfl (by decide) (by decide +kernel) (fun env h => by cases env; cases h; rfl) (fun env h => by cases env; cases h; exact ⟨_, rfl⟩) (fun env h => by cases env; cases h; rfl) (fun _ _ _ _ _ _ _ _ _ _ => ⟨_, rfl, rfl⟩) (fun _ _ _ _ _ _ _ _ _ => ⟨_, rfl, rfl⟩) (fun _ _ _ _ _ _ _ _ _ _ => ⟨_, rfl, rfl⟩)
  have q_NothingToUndo := exn_ok (c.fact 45 (f := fun K => exnB "NothingToUndo" K))
  obtain ⟨fd__law_cell, F__law_cell⟩ := c.def_ 12 (d := dx__law_cell)
  obtain ⟨fd__law_hash, F__law_hash⟩ := c.def_ 13 (d := dx__law_hash)
  obtain ⟨fd__law_generator, F__law_generator⟩ := c.def_ 14 (d := dx__law_generator)
  obtain ⟨fd__law_random, F__law_random⟩ := c.def_ 15 (d := dx__law_random)
  obtain ⟨fd__law_kinds, F__law_kinds⟩ := c.def_ 16 (d := dx__law_kinds)
  obtain ⟨fd__law_fields, F__law_fields⟩ := c.def_ 17 (d := dx__law_fields)
  obtain ⟨fd__law_right, F__law_right⟩ := c.def_ 18 (d := dx__law_right)
  obtain ⟨fd__law_placed, F__law_placed⟩ := c.def_ 19 (d := dx__law_placed)
  obtain ⟨fd__law_given_right, F__law_given_right⟩ := c.def_ 20 (d := dx__law_given_right)
  obtain ⟨fd_law, F_law⟩ := c.def_ 21 (d := dx_law)
  cases hfa.symm.trans g_law
  refine ⟨fd_law, fun s v => FunD.bindsA (ps := ["_law_script"]) F_law (fun _ _ _ _ _ _ us hl => match us, hl with | [_], _ => rfl) s [v] rfl, fun base _ _ => ?_⟩
  have C__law_cell : CalG Pg w K mg base CX0 "_law_cell" 1 ["_law_script", "_law_index"] [] (sp__law_cell K) := ⟨_, fd__law_cell, [], ok__law_cell (k := 0) F__law_cell T   (fun vs H Q E h => by first | (obtain ⟨rfl, _⟩ := h; rfl; done) | (obtain ⟨_, rfl, _⟩ := h; rfl; done) | (obtain ⟨_, _, rfl, _⟩ := h; rfl; done) | (obtain ⟨_, _, _, rfl, _⟩ := h; rfl; done) | (obtain ⟨_, _, _, _, rfl, _⟩ := h; rfl; done) | (obtain ⟨_, _, _, _, _, rfl, _⟩ := h; rfl; done) | (obtain ⟨_, _, _, _, _, _, rfl, _⟩ := h; rfl; done) | (obtain ⟨_, _, _, _, _, _, _, rfl, _⟩ := h; rfl; done) | (obtain ⟨_, _, _, _, _, _, _, _, rfl, _⟩ := h; rfl; done) | (obtain ⟨_, _, _, _, _, _, _, _, _, rfl, _⟩ := h; rfl; done) | (obtain ⟨_, _, _, _, _, _, _, _, _, _, rfl, _⟩ := h; rfl; done) | (obtain ⟨_, _, _, _, _, _, _, _, _, _, _, rfl, _⟩ := h; rfl; done) | (obtain ⟨_, _, _, _, _, _, _, _, _, _, _, _, rfl, _⟩ := h; rfl; done) | (obtain ⟨_, _, _, _, _, _, _, _, _, _, _, _, _, rfl, _⟩ := h; rfl; done) | (obtain ⟨_, _, _, _, _, _, _, _, _, _, _, _, _, _, rfl, _⟩ := h; rfl; done) | (exact h.1) | (rcases h with h | h <;> first | (obtain ⟨rfl, _⟩ := h; rfl) | (obtain ⟨_, rfl, _⟩ := h; rfl) | (obtain ⟨_, _, rfl, _⟩ := h; rfl) | (obtain ⟨_, _, _, rfl, _⟩ := h; rfl) | (obtain ⟨_, _, _, _, rfl, _⟩ := h; rfl) | (obtain ⟨_, _, _, _, _, rfl, _⟩ := h; rfl) | (obtain ⟨_, _, _, _, _, _, rfl, _⟩ := h; rfl) | (obtain ⟨_, _, _, _, _, _, _, rfl, _⟩ := h; rfl) | (obtain ⟨_, _, _, _, _, _, _, _, rfl, _⟩ := h; rfl) | (obtain ⟨_, _, _, _, _, _, _, _, _, rfl, _⟩ := h; rfl) | (obtain ⟨_, _, _, _, _, _, _, _, _, _, rfl, _⟩ := h; rfl) | (obtain ⟨_, _, _, _, _, _, _, _, _, _, _, rfl, _⟩ := h; rfl) | (obtain ⟨_, _, _, _, _, _, _, _, _, _, _, _, rfl, _⟩ := h; rfl) | (obtain ⟨_, _, _, _, _, _, _, _, _, _, _, _, _, rfl, _⟩ := h; rfl) | (obtain ⟨_, _, _, _, _, _, _, _, _, _, _, _, _, _, rfl, _⟩ := h; rfl))) (pu__law_cell K), g__law_cell, F__law_cell.kp, F__law_cell.bindsN (ps := ["_law_script", "_law_index"]) fun _ _ _ _ _ _ us hl => match us, hl with | [_, _], _ => rfl, .nil⟩
  have C__law_generator : CalG Pg w K mg base CX0 "_law_generator" 2 ["_law_script", "_law_index"] [] (sp__law_generator K) := ⟨_, fd__law_generator, [], ok__law_generator (k := 1) F__law_generator T C__law_cell (by omega) (fun vs H Q E h => by first | (obtain ⟨rfl, _⟩ := h; rfl; done) | (obtain ⟨_, rfl, _⟩ := h; rfl; done) | (obtain ⟨_, _, rfl, _⟩ := h; rfl; done) | (obtain ⟨_, _, _, rfl, _⟩ := h; rfl; done) | (obtain ⟨_, _, _, _, rfl, _⟩ := h; rfl; done) | (obtain ⟨_, _, _, _, _, rfl, _⟩ := h; rfl; done) | (obtain ⟨_, _, _, _, _, _, rfl, _⟩ := h; rfl; done) | (obtain ⟨_, _, _, _, _, _, _, rfl, _⟩ := h; rfl; done) | (obtain ⟨_, _, _, _, _, _, _, _, rfl, _⟩ := h; rfl; done) | (obtain ⟨_, _, _, _, _, _, _, _, _, rfl, _⟩ := h; rfl; done) | (obtain ⟨_, _, _, _, _, _, _, _, _, _, rfl, _⟩ := h; rfl; done) | (obtain ⟨_, _, _, _, _, _, _, _, _, _, _, rfl, _⟩ := h; rfl; done) | (obtain ⟨_, _, _, _, _, _, _, _, _, _, _, _, rfl, _⟩ := h; rfl; done) | (obtain ⟨_, _, _, _, _, _, _, _, _, _, _, _, _, rfl, _⟩ := h; rfl; done) | (obtain ⟨_, _, _, _, _, _, _, _, _, _, _, _, _, _, rfl, _⟩ := h; rfl; done) | (exact h.1) | (rcases h with h | h <;> first | (obtain ⟨rfl, _⟩ := h; rfl) | (obtain ⟨_, rfl, _⟩ := h; rfl) | (obtain ⟨_, _, rfl, _⟩ := h; rfl) | (obtain ⟨_, _, _, rfl, _⟩ := h; rfl) | (obtain ⟨_, _, _, _, rfl, _⟩ := h; rfl) | (obtain ⟨_, _, _, _, _, rfl, _⟩ := h; rfl) | (obtain ⟨_, _, _, _, _, _, rfl, _⟩ := h; rfl) | (obtain ⟨_, _, _, _, _, _, _, rfl, _⟩ := h; rfl) | (obtain ⟨_, _, _, _, _, _, _, _, rfl, _⟩ := h; rfl) | (obtain ⟨_, _, _, _, _, _, _, _, _, rfl, _⟩ := h; rfl) | (obtain ⟨_, _, _, _, _, _, _, _, _, _, rfl, _⟩ := h; rfl) | (obtain ⟨_, _, _, _, _, _, _, _, _, _, _, rfl, _⟩ := h; rfl) | (obtain ⟨_, _, _, _, _, _, _, _, _, _, _, _, rfl, _⟩ := h; rfl) | (obtain ⟨_, _, _, _, _, _, _, _, _, _, _, _, _, rfl, _⟩ := h; rfl) | (obtain ⟨_, _, _, _, _, _, _, _, _, _, _, _, _, _, rfl, _⟩ := h; rfl))) (pu__law_generator K), g__law_generator, F__law_generator.kp, F__law_generator.bindsN (ps := ["_law_script", "_law_index"]) fun _ _ _ _ _ _ us hl => match us, hl with | [_, _], _ => rfl, .nil⟩
  have C__law_hash : CalG Pg w K mg base CX0 "_law_hash" 1 ["_law_seed", "_law_index"] [] (sp__law_hash) := ⟨_, fd__law_hash, [], ok__law_hash (k := 0) F__law_hash T   (fun vs H Q E h => by first | (obtain ⟨rfl, _⟩ := h; rfl; done) | (obtain ⟨_, rfl, _⟩ := h; rfl; done) | (obtain ⟨_, _, rfl, _⟩ := h; rfl; done) | (obtain ⟨_, _, _, rfl, _⟩ := h; rfl; done) | (obtain ⟨_, _, _, _, rfl, _⟩ := h; rfl; done) | (obtain ⟨_, _, _, _, _, rfl, _⟩ := h; rfl; done) | (obtain ⟨_, _, _, _, _, _, rfl, _⟩ := h; rfl; done) | (obtain ⟨_, _, _, _, _, _, _, rfl, _⟩ := h; rfl; done) | (obtain ⟨_, _, _, _, _, _, _, _, rfl, _⟩ := h; rfl; done) | (obtain ⟨_, _, _, _, _, _, _, _, _, rfl, _⟩ := h; rfl; done) | (obtain ⟨_, _, _, _, _, _, _, _, _, _, rfl, _⟩ := h; rfl; done) | (obtain ⟨_, _, _, _, _, _, _, _, _, _, _, rfl, _⟩ := h; rfl; done) | (obtain ⟨_, _, _, _, _, _, _, _, _, _, _, _, rfl, _⟩ := h; rfl; done) | (obtain ⟨_, _, _, _, _, _, _, _, _, _, _, _, _, rfl, _⟩ := h; rfl; done) | (obtain ⟨_, _, _, _, _, _, _, _, _, _, _, _, _, _, rfl, _⟩ := h; rfl; done) | (exact h.1) | (rcases h with h | h <;> first | (obtain ⟨rfl, _⟩ := h; rfl) | (obtain ⟨_, rfl, _⟩ := h; rfl) | (obtain ⟨_, _, rfl, _⟩ := h; rfl) | (obtain ⟨_, _, _, rfl, _⟩ := h; rfl) | (obtain ⟨_, _, _, _, rfl, _⟩ := h; rfl) | (obtain ⟨_, _, _, _, _, rfl, _⟩ := h; rfl) | (obtain ⟨_, _, _, _, _, _, rfl, _⟩ := h; rfl) | (obtain ⟨_, _, _, _, _, _, _, rfl, _⟩ := h; rfl) | (obtain ⟨_, _, _, _, _, _, _, _, rfl, _⟩ := h; rfl) | (obtain ⟨_, _, _, _, _, _, _, _, _, rfl, _⟩ := h; rfl) | (obtain ⟨_, _, _, _, _, _, _, _, _, _, rfl, _⟩ := h; rfl) | (obtain ⟨_, _, _, _, _, _, _, _, _, _, _, rfl, _⟩ := h; rfl) | (obtain ⟨_, _, _, _, _, _, _, _, _, _, _, _, rfl, _⟩ := h; rfl) | (obtain ⟨_, _, _, _, _, _, _, _, _, _, _, _, _, rfl, _⟩ := h; rfl) | (obtain ⟨_, _, _, _, _, _, _, _, _, _, _, _, _, _, rfl, _⟩ := h; rfl))) (pu__law_hash K), g__law_hash, F__law_hash.kp, F__law_hash.bindsN (ps := ["_law_seed", "_law_index"]) fun _ _ _ _ _ _ us hl => match us, hl with | [_, _], _ => rfl, .nil⟩
  have C__law_random : CalG Pg w K mg base CX0 "_law_random" 2 ["_law_generator_here", "_law_bound"] [] (sp__law_random) := ⟨_, fd__law_random, [], ok__law_random (k := 1) F__law_random T C__law_hash (by omega) (fun vs H Q E h => by first | (obtain ⟨rfl, _⟩ := h; rfl; done) | (obtain ⟨_, rfl, _⟩ := h; rfl; done) | (obtain ⟨_, _, rfl, _⟩ := h; rfl; done) | (obtain ⟨_, _, _, rfl, _⟩ := h; rfl; done) | (obtain ⟨_, _, _, _, rfl, _⟩ := h; rfl; done) | (obtain ⟨_, _, _, _, _, rfl, _⟩ := h; rfl; done) | (obtain ⟨_, _, _, _, _, _, rfl, _⟩ := h; rfl; done) | (obtain ⟨_, _, _, _, _, _, _, rfl, _⟩ := h; rfl; done) | (obtain ⟨_, _, _, _, _, _, _, _, rfl, _⟩ := h; rfl; done) | (obtain ⟨_, _, _, _, _, _, _, _, _, rfl, _⟩ := h; rfl; done) | (obtain ⟨_, _, _, _, _, _, _, _, _, _, rfl, _⟩ := h; rfl; done) | (obtain ⟨_, _, _, _, _, _, _, _, _, _, _, rfl, _⟩ := h; rfl; done) | (obtain ⟨_, _, _, _, _, _, _, _, _, _, _, _, rfl, _⟩ := h; rfl; done) | (obtain ⟨_, _, _, _, _, _, _, _, _, _, _, _, _, rfl, _⟩ := h; rfl; done) | (obtain ⟨_, _, _, _, _, _, _, _, _, _, _, _, _, _, rfl, _⟩ := h; rfl; done) | (exact h.1) | (rcases h with h | h <;> first | (obtain ⟨rfl, _⟩ := h; rfl) | (obtain ⟨_, rfl, _⟩ := h; rfl) | (obtain ⟨_, _, rfl, _⟩ := h; rfl) | (obtain ⟨_, _, _, rfl, _⟩ := h; rfl) | (obtain ⟨_, _, _, _, rfl, _⟩ := h; rfl) | (obtain ⟨_, _, _, _, _, rfl, _⟩ := h; rfl) | (obtain ⟨_, _, _, _, _, _, rfl, _⟩ := h; rfl) | (obtain ⟨_, _, _, _, _, _, _, rfl, _⟩ := h; rfl) | (obtain ⟨_, _, _, _, _, _, _, _, rfl, _⟩ := h; rfl) | (obtain ⟨_, _, _, _, _, _, _, _, _, rfl, _⟩ := h; rfl) | (obtain ⟨_, _, _, _, _, _, _, _, _, _, rfl, _⟩ := h; rfl) | (obtain ⟨_, _, _, _, _, _, _, _, _, _, _, rfl, _⟩ := h; rfl) | (obtain ⟨_, _, _, _, _, _, _, _, _, _, _, _, rfl, _⟩ := h; rfl) | (obtain ⟨_, _, _, _, _, _, _, _, _, _, _, _, _, rfl, _⟩ := h; rfl) | (obtain ⟨_, _, _, _, _, _, _, _, _, _, _, _, _, _, rfl, _⟩ := h; rfl))) (pu__law_random K), g__law_random, F__law_random.kp, F__law_random.bindsN (ps := ["_law_generator_here", "_law_bound"]) fun _ _ _ _ _ _ us hl => match us, hl with | [_, _], _ => rfl, .nil⟩
  have C__law_placed : CalG Pg w K mg base CX0 "_law_placed" 1 ["_law_given"] [] (sp__law_placed K) := ⟨_, fd__law_placed, [], ok__law_placed (k := 0) F__law_placed T X_InvalidList X_InvalidNumber X_InvalidAddress X_InvalidTree X_CannotMove X_CannotTurn X_InvalidMove X_InvalidScript X_UnknownName X_TakenName X_InvalidName X_NotCarried  (fun vs H Q E h => by first | (obtain ⟨rfl, _⟩ := h; rfl; done) | (obtain ⟨_, rfl, _⟩ := h; rfl; done) | (obtain ⟨_, _, rfl, _⟩ := h; rfl; done) | (obtain ⟨_, _, _, rfl, _⟩ := h; rfl; done) | (obtain ⟨_, _, _, _, rfl, _⟩ := h; rfl; done) | (obtain ⟨_, _, _, _, _, rfl, _⟩ := h; rfl; done) | (obtain ⟨_, _, _, _, _, _, rfl, _⟩ := h; rfl; done) | (obtain ⟨_, _, _, _, _, _, _, rfl, _⟩ := h; rfl; done) | (obtain ⟨_, _, _, _, _, _, _, _, rfl, _⟩ := h; rfl; done) | (obtain ⟨_, _, _, _, _, _, _, _, _, rfl, _⟩ := h; rfl; done) | (obtain ⟨_, _, _, _, _, _, _, _, _, _, rfl, _⟩ := h; rfl; done) | (obtain ⟨_, _, _, _, _, _, _, _, _, _, _, rfl, _⟩ := h; rfl; done) | (obtain ⟨_, _, _, _, _, _, _, _, _, _, _, _, rfl, _⟩ := h; rfl; done) | (obtain ⟨_, _, _, _, _, _, _, _, _, _, _, _, _, rfl, _⟩ := h; rfl; done) | (obtain ⟨_, _, _, _, _, _, _, _, _, _, _, _, _, _, rfl, _⟩ := h; rfl; done) | (exact h.1) | (rcases h with h | h <;> first | (obtain ⟨rfl, _⟩ := h; rfl) | (obtain ⟨_, rfl, _⟩ := h; rfl) | (obtain ⟨_, _, rfl, _⟩ := h; rfl) | (obtain ⟨_, _, _, rfl, _⟩ := h; rfl) | (obtain ⟨_, _, _, _, rfl, _⟩ := h; rfl) | (obtain ⟨_, _, _, _, _, rfl, _⟩ := h; rfl) | (obtain ⟨_, _, _, _, _, _, rfl, _⟩ := h; rfl) | (obtain ⟨_, _, _, _, _, _, _, rfl, _⟩ := h; rfl) | (obtain ⟨_, _, _, _, _, _, _, _, rfl, _⟩ := h; rfl) | (obtain ⟨_, _, _, _, _, _, _, _, _, rfl, _⟩ := h; rfl) | (obtain ⟨_, _, _, _, _, _, _, _, _, _, rfl, _⟩ := h; rfl) | (obtain ⟨_, _, _, _, _, _, _, _, _, _, _, rfl, _⟩ := h; rfl) | (obtain ⟨_, _, _, _, _, _, _, _, _, _, _, _, rfl, _⟩ := h; rfl) | (obtain ⟨_, _, _, _, _, _, _, _, _, _, _, _, _, rfl, _⟩ := h; rfl) | (obtain ⟨_, _, _, _, _, _, _, _, _, _, _, _, _, _, rfl, _⟩ := h; rfl))) (pu__law_placed K), g__law_placed, F__law_placed.kp, F__law_placed.bindsN (ps := ["_law_given"]) fun _ _ _ _ _ _ us hl => match us, hl with | [_], _ => rfl, .nil⟩
  have C__law_kinds : CalG Pg w K mg base CX0 "_law_kinds" 1 ["_law_error"] [] (sp__law_kinds K) := ⟨_, fd__law_kinds, [], ok__law_kinds (k := 0) F__law_kinds T X_InvalidNumber X_InvalidAddress X_InvalidTree X_InvalidMove X_InvalidScript X_InvalidList X_NotCarried X_CannotMove X_CannotTurn X_UnknownName X_TakenName X_InvalidName g_NothingToUndo g_TurnError  (fun vs H Q E h => by first | (obtain ⟨rfl, _⟩ := h; rfl; done) | (obtain ⟨_, rfl, _⟩ := h; rfl; done) | (obtain ⟨_, _, rfl, _⟩ := h; rfl; done) | (obtain ⟨_, _, _, rfl, _⟩ := h; rfl; done) | (obtain ⟨_, _, _, _, rfl, _⟩ := h; rfl; done) | (obtain ⟨_, _, _, _, _, rfl, _⟩ := h; rfl; done) | (obtain ⟨_, _, _, _, _, _, rfl, _⟩ := h; rfl; done) | (obtain ⟨_, _, _, _, _, _, _, rfl, _⟩ := h; rfl; done) | (obtain ⟨_, _, _, _, _, _, _, _, rfl, _⟩ := h; rfl; done) | (obtain ⟨_, _, _, _, _, _, _, _, _, rfl, _⟩ := h; rfl; done) | (obtain ⟨_, _, _, _, _, _, _, _, _, _, rfl, _⟩ := h; rfl; done) | (obtain ⟨_, _, _, _, _, _, _, _, _, _, _, rfl, _⟩ := h; rfl; done) | (obtain ⟨_, _, _, _, _, _, _, _, _, _, _, _, rfl, _⟩ := h; rfl; done) | (obtain ⟨_, _, _, _, _, _, _, _, _, _, _, _, _, rfl, _⟩ := h; rfl; done) | (obtain ⟨_, _, _, _, _, _, _, _, _, _, _, _, _, _, rfl, _⟩ := h; rfl; done) | (exact h.1) | (rcases h with h | h <;> first | (obtain ⟨rfl, _⟩ := h; rfl) | (obtain ⟨_, rfl, _⟩ := h; rfl) | (obtain ⟨_, _, rfl, _⟩ := h; rfl) | (obtain ⟨_, _, _, rfl, _⟩ := h; rfl) | (obtain ⟨_, _, _, _, rfl, _⟩ := h; rfl) | (obtain ⟨_, _, _, _, _, rfl, _⟩ := h; rfl) | (obtain ⟨_, _, _, _, _, _, rfl, _⟩ := h; rfl) | (obtain ⟨_, _, _, _, _, _, _, rfl, _⟩ := h; rfl) | (obtain ⟨_, _, _, _, _, _, _, _, rfl, _⟩ := h; rfl) | (obtain ⟨_, _, _, _, _, _, _, _, _, rfl, _⟩ := h; rfl) | (obtain ⟨_, _, _, _, _, _, _, _, _, _, rfl, _⟩ := h; rfl) | (obtain ⟨_, _, _, _, _, _, _, _, _, _, _, rfl, _⟩ := h; rfl) | (obtain ⟨_, _, _, _, _, _, _, _, _, _, _, _, rfl, _⟩ := h; rfl) | (obtain ⟨_, _, _, _, _, _, _, _, _, _, _, _, _, rfl, _⟩ := h; rfl) | (obtain ⟨_, _, _, _, _, _, _, _, _, _, _, _, _, _, rfl, _⟩ := h; rfl))) (pu__law_kinds K (HK.of ka)), g__law_kinds, F__law_kinds.kp, F__law_kinds.bindsN (ps := ["_law_error"]) fun _ _ _ _ _ _ us hl => match us, hl with | [_], _ => rfl, .nil⟩
  have C__law_fields : CalG Pg w K mg base CX0 "_law_fields" 1 ["_law_errors"] [] (sp__law_fields K) := ⟨_, fd__law_fields, [], ok__law_fields (k := 0) F__law_fields T   (fun vs H Q E h => by first | (obtain ⟨rfl, _⟩ := h; rfl; done) | (obtain ⟨_, rfl, _⟩ := h; rfl; done) | (obtain ⟨_, _, rfl, _⟩ := h; rfl; done) | (obtain ⟨_, _, _, rfl, _⟩ := h; rfl; done) | (obtain ⟨_, _, _, _, rfl, _⟩ := h; rfl; done) | (obtain ⟨_, _, _, _, _, rfl, _⟩ := h; rfl; done) | (obtain ⟨_, _, _, _, _, _, rfl, _⟩ := h; rfl; done) | (obtain ⟨_, _, _, _, _, _, _, rfl, _⟩ := h; rfl; done) | (obtain ⟨_, _, _, _, _, _, _, _, rfl, _⟩ := h; rfl; done) | (obtain ⟨_, _, _, _, _, _, _, _, _, rfl, _⟩ := h; rfl; done) | (obtain ⟨_, _, _, _, _, _, _, _, _, _, rfl, _⟩ := h; rfl; done) | (obtain ⟨_, _, _, _, _, _, _, _, _, _, _, rfl, _⟩ := h; rfl; done) | (obtain ⟨_, _, _, _, _, _, _, _, _, _, _, _, rfl, _⟩ := h; rfl; done) | (obtain ⟨_, _, _, _, _, _, _, _, _, _, _, _, _, rfl, _⟩ := h; rfl; done) | (obtain ⟨_, _, _, _, _, _, _, _, _, _, _, _, _, _, rfl, _⟩ := h; rfl; done) | (exact h.1) | (rcases h with h | h <;> first | (obtain ⟨rfl, _⟩ := h; rfl) | (obtain ⟨_, rfl, _⟩ := h; rfl) | (obtain ⟨_, _, rfl, _⟩ := h; rfl) | (obtain ⟨_, _, _, rfl, _⟩ := h; rfl) | (obtain ⟨_, _, _, _, rfl, _⟩ := h; rfl) | (obtain ⟨_, _, _, _, _, rfl, _⟩ := h; rfl) | (obtain ⟨_, _, _, _, _, _, rfl, _⟩ := h; rfl) | (obtain ⟨_, _, _, _, _, _, _, rfl, _⟩ := h; rfl) | (obtain ⟨_, _, _, _, _, _, _, _, rfl, _⟩ := h; rfl) | (obtain ⟨_, _, _, _, _, _, _, _, _, rfl, _⟩ := h; rfl) | (obtain ⟨_, _, _, _, _, _, _, _, _, _, rfl, _⟩ := h; rfl) | (obtain ⟨_, _, _, _, _, _, _, _, _, _, _, rfl, _⟩ := h; rfl) | (obtain ⟨_, _, _, _, _, _, _, _, _, _, _, _, rfl, _⟩ := h; rfl) | (obtain ⟨_, _, _, _, _, _, _, _, _, _, _, _, _, rfl, _⟩ := h; rfl) | (obtain ⟨_, _, _, _, _, _, _, _, _, _, _, _, _, _, rfl, _⟩ := h; rfl))) (pu__law_fields K (HK.of ka)), g__law_fields, F__law_fields.kp, F__law_fields.bindsN (ps := ["_law_errors"]) fun _ _ _ _ _ _ us hl => match us, hl with | [_], _ => rfl, .nil⟩
  have C__law_right : CalG Pg w K mg base CX0 "_law_right" 2 ["_law_errors", "_law_wanted"] [] (sp__law_right K) := ⟨_, fd__law_right, [], ok__law_right (k := 1) F__law_right T C__law_kinds C__law_fields (by omega) (by omega) (fun vs H Q E h => by first | (obtain ⟨rfl, _⟩ := h; rfl; done) | (obtain ⟨_, rfl, _⟩ := h; rfl; done) | (obtain ⟨_, _, rfl, _⟩ := h; rfl; done) | (obtain ⟨_, _, _, rfl, _⟩ := h; rfl; done) | (obtain ⟨_, _, _, _, rfl, _⟩ := h; rfl; done) | (obtain ⟨_, _, _, _, _, rfl, _⟩ := h; rfl; done) | (obtain ⟨_, _, _, _, _, _, rfl, _⟩ := h; rfl; done) | (obtain ⟨_, _, _, _, _, _, _, rfl, _⟩ := h; rfl; done) | (obtain ⟨_, _, _, _, _, _, _, _, rfl, _⟩ := h; rfl; done) | (obtain ⟨_, _, _, _, _, _, _, _, _, rfl, _⟩ := h; rfl; done) | (obtain ⟨_, _, _, _, _, _, _, _, _, _, rfl, _⟩ := h; rfl; done) | (obtain ⟨_, _, _, _, _, _, _, _, _, _, _, rfl, _⟩ := h; rfl; done) | (obtain ⟨_, _, _, _, _, _, _, _, _, _, _, _, rfl, _⟩ := h; rfl; done) | (obtain ⟨_, _, _, _, _, _, _, _, _, _, _, _, _, rfl, _⟩ := h; rfl; done) | (obtain ⟨_, _, _, _, _, _, _, _, _, _, _, _, _, _, rfl, _⟩ := h; rfl; done) | (exact h.1) | (rcases h with h | h <;> first | (obtain ⟨rfl, _⟩ := h; rfl) | (obtain ⟨_, rfl, _⟩ := h; rfl) | (obtain ⟨_, _, rfl, _⟩ := h; rfl) | (obtain ⟨_, _, _, rfl, _⟩ := h; rfl) | (obtain ⟨_, _, _, _, rfl, _⟩ := h; rfl) | (obtain ⟨_, _, _, _, _, rfl, _⟩ := h; rfl) | (obtain ⟨_, _, _, _, _, _, rfl, _⟩ := h; rfl) | (obtain ⟨_, _, _, _, _, _, _, rfl, _⟩ := h; rfl) | (obtain ⟨_, _, _, _, _, _, _, _, rfl, _⟩ := h; rfl) | (obtain ⟨_, _, _, _, _, _, _, _, _, rfl, _⟩ := h; rfl) | (obtain ⟨_, _, _, _, _, _, _, _, _, _, rfl, _⟩ := h; rfl) | (obtain ⟨_, _, _, _, _, _, _, _, _, _, _, rfl, _⟩ := h; rfl) | (obtain ⟨_, _, _, _, _, _, _, _, _, _, _, _, rfl, _⟩ := h; rfl) | (obtain ⟨_, _, _, _, _, _, _, _, _, _, _, _, _, rfl, _⟩ := h; rfl) | (obtain ⟨_, _, _, _, _, _, _, _, _, _, _, _, _, _, rfl, _⟩ := h; rfl))) (pu__law_right K), g__law_right, F__law_right.kp, F__law_right.bindsN (ps := ["_law_errors", "_law_wanted"]) fun _ _ _ _ _ _ us hl => match us, hl with | [_, _], _ => rfl, .nil⟩
  have C__law_given_right : CalG Pg w K mg base CX0 "_law_given_right" 3 ["_law_given"] [] (sp__law_given_right K) := ⟨_, fd__law_given_right, [], ok__law_given_right (k := 2) F__law_given_right T C__law_placed C__law_right X_InvalidNumber X_InvalidAddress X_InvalidTree X_InvalidMove X_InvalidScript X_InvalidList X_NotCarried X_CannotMove X_CannotTurn X_UnknownName X_TakenName X_InvalidName (by omega) (by omega) (fun vs H Q E h => by first | (obtain ⟨rfl, _⟩ := h; rfl; done) | (obtain ⟨_, rfl, _⟩ := h; rfl; done) | (obtain ⟨_, _, rfl, _⟩ := h; rfl; done) | (obtain ⟨_, _, _, rfl, _⟩ := h; rfl; done) | (obtain ⟨_, _, _, _, rfl, _⟩ := h; rfl; done) | (obtain ⟨_, _, _, _, _, rfl, _⟩ := h; rfl; done) | (obtain ⟨_, _, _, _, _, _, rfl, _⟩ := h; rfl; done) | (obtain ⟨_, _, _, _, _, _, _, rfl, _⟩ := h; rfl; done) | (obtain ⟨_, _, _, _, _, _, _, _, rfl, _⟩ := h; rfl; done) | (obtain ⟨_, _, _, _, _, _, _, _, _, rfl, _⟩ := h; rfl; done) | (obtain ⟨_, _, _, _, _, _, _, _, _, _, rfl, _⟩ := h; rfl; done) | (obtain ⟨_, _, _, _, _, _, _, _, _, _, _, rfl, _⟩ := h; rfl; done) | (obtain ⟨_, _, _, _, _, _, _, _, _, _, _, _, rfl, _⟩ := h; rfl; done) | (obtain ⟨_, _, _, _, _, _, _, _, _, _, _, _, _, rfl, _⟩ := h; rfl; done) | (obtain ⟨_, _, _, _, _, _, _, _, _, _, _, _, _, _, rfl, _⟩ := h; rfl; done) | (exact h.1) | (rcases h with h | h <;> first | (obtain ⟨rfl, _⟩ := h; rfl) | (obtain ⟨_, rfl, _⟩ := h; rfl) | (obtain ⟨_, _, rfl, _⟩ := h; rfl) | (obtain ⟨_, _, _, rfl, _⟩ := h; rfl) | (obtain ⟨_, _, _, _, rfl, _⟩ := h; rfl) | (obtain ⟨_, _, _, _, _, rfl, _⟩ := h; rfl) | (obtain ⟨_, _, _, _, _, _, rfl, _⟩ := h; rfl) | (obtain ⟨_, _, _, _, _, _, _, rfl, _⟩ := h; rfl) | (obtain ⟨_, _, _, _, _, _, _, _, rfl, _⟩ := h; rfl) | (obtain ⟨_, _, _, _, _, _, _, _, _, rfl, _⟩ := h; rfl) | (obtain ⟨_, _, _, _, _, _, _, _, _, _, rfl, _⟩ := h; rfl) | (obtain ⟨_, _, _, _, _, _, _, _, _, _, _, rfl, _⟩ := h; rfl) | (obtain ⟨_, _, _, _, _, _, _, _, _, _, _, _, rfl, _⟩ := h; rfl) | (obtain ⟨_, _, _, _, _, _, _, _, _, _, _, _, _, rfl, _⟩ := h; rfl) | (obtain ⟨_, _, _, _, _, _, _, _, _, _, _, _, _, _, rfl, _⟩ := h; rfl))) (pu__law_given_right K), g__law_given_right, F__law_given_right.kp, F__law_given_right.bindsN (ps := ["_law_given"]) fun _ _ _ _ _ _ us hl => match us, hl with | [_], _ => rfl, .nil⟩
  exact (ok_law (k := 3) F_law T C__law_generator C__law_random C__law_placed C__law_given_right C__law_right C__law_kinds X_InvalidMove X_InvalidScript X_InvalidList X_InvalidNumber X_InvalidAddress X_InvalidTree X_UnknownName X_TakenName X_InvalidName X_NotCarried X_CannotMove X_CannotTurn g_NothingToUndo q_NothingToUndo (by omega) (by omega) (by omega) (by omega) (by omega) (by omega) (fun vs H Q E h => by first | (obtain ⟨rfl, _⟩ := h; rfl; done) | (obtain ⟨_, rfl, _⟩ := h; rfl; done) | (obtain ⟨_, _, rfl, _⟩ := h; rfl; done) | (obtain ⟨_, _, _, rfl, _⟩ := h; rfl; done) | (obtain ⟨_, _, _, _, rfl, _⟩ := h; rfl; done) | (obtain ⟨_, _, _, _, _, rfl, _⟩ := h; rfl; done) | (obtain ⟨_, _, _, _, _, _, rfl, _⟩ := h; rfl; done) | (obtain ⟨_, _, _, _, _, _, _, rfl, _⟩ := h; rfl; done) | (obtain ⟨_, _, _, _, _, _, _, _, rfl, _⟩ := h; rfl; done) | (obtain ⟨_, _, _, _, _, _, _, _, _, rfl, _⟩ := h; rfl; done) | (obtain ⟨_, _, _, _, _, _, _, _, _, _, rfl, _⟩ := h; rfl; done) | (obtain ⟨_, _, _, _, _, _, _, _, _, _, _, rfl, _⟩ := h; rfl; done) | (obtain ⟨_, _, _, _, _, _, _, _, _, _, _, _, rfl, _⟩ := h; rfl; done) | (obtain ⟨_, _, _, _, _, _, _, _, _, _, _, _, _, rfl, _⟩ := h; rfl; done) | (obtain ⟨_, _, _, _, _, _, _, _, _, _, _, _, _, _, rfl, _⟩ := h; rfl; done) | (exact h.1) | (rcases h with h | h <;> first | (obtain ⟨rfl, _⟩ := h; rfl) | (obtain ⟨_, rfl, _⟩ := h; rfl) | (obtain ⟨_, _, rfl, _⟩ := h; rfl) | (obtain ⟨_, _, _, rfl, _⟩ := h; rfl) | (obtain ⟨_, _, _, _, rfl, _⟩ := h; rfl) | (obtain ⟨_, _, _, _, _, rfl, _⟩ := h; rfl) | (obtain ⟨_, _, _, _, _, _, rfl, _⟩ := h; rfl) | (obtain ⟨_, _, _, _, _, _, _, rfl, _⟩ := h; rfl) | (obtain ⟨_, _, _, _, _, _, _, _, rfl, _⟩ := h; rfl) | (obtain ⟨_, _, _, _, _, _, _, _, _, rfl, _⟩ := h; rfl) | (obtain ⟨_, _, _, _, _, _, _, _, _, _, rfl, _⟩ := h; rfl) | (obtain ⟨_, _, _, _, _, _, _, _, _, _, _, rfl, _⟩ := h; rfl) | (obtain ⟨_, _, _, _, _, _, _, _, _, _, _, _, rfl, _⟩ := h; rfl) | (obtain ⟨_, _, _, _, _, _, _, _, _, _, _, _, _, rfl, _⟩ := h; rfl) | (obtain ⟨_, _, _, _, _, _, _, _, _, _, _, _, _, _, rfl, _⟩ := h; rfl))) (pu_law K)).mono (by omega)
end Pf
open PySem PySem.W PySem.Calls PyProof.Rows
set_option maxHeartbeats 0 in
theorem PySem.Challenge.cw_treeturns_k01_errors_holds : PySem.Challenge.rw_treeturns_k01_errors.Holds := by
  w_on; o_law
  refine HandSHeadRun.head_any (r := OpenLaw.row PySem.Challenge.rw_treeturns_k01_errors) (q := view (OpenLaw.row PySem.Challenge.rw_treeturns_k01_errors).prog [25]) (H := Pf.hk) (ob := Pf.ob) (M := 6000) (loose := Pf.loose) (d := HandSHeadRun.topDef (OpenLaw.row PySem.Challenge.rw_treeturns_k01_errors).prog 25) (kwd := []) Pf.ob_eq
    (by kernel_rfl) (fun s => by kernel_rfl) Pf.run (by kernel_rfl) (by kernel_rfl) (by kernel_rfl) (by rfl) (by first | assumption | decide +kernel) (by decide +kernel) ⟨rfl, rfl, rfl, rfl, rfl, by decide +kernel⟩ ?hw ?hc
  case hw => w_witness2
  case hc =>
    refine M.walk_ofG (l := PySem.Challenge.rw_treeturns_k01_errors) (n := 63) (k := 200) (x := "_law_script") (CX := L2.CX0) rfl (by decide) (by kernel_rfl) ⟨rfl, by decide, by decide, rfl⟩ ?F (fun _ _ _ _ z => z)
    intro w mg fa h Y G hmg0
    obtain ⟨K, KX, c⟩ := Y
    have hmg : mg ("law" : PySem.Str) = some (.ref fa) := by
      have e : (HandSHeadRun.topDef (OpenLaw.row PySem.Challenge.rw_treeturns_k01_errors).prog 25).name = ("law" : PySem.Str) := by kernel_rfl
      rw [← e]
      exact hmg0
    obtain ⟨fd, hb, hF⟩ := Pf.facts (w := w) KX G hmg c
    exact ⟨K, fd, Pf.sp_law K, KX, hb, fun H a ns hl _ hS => ⟨a, ns, rfl, hS, fun _ => rfl⟩, hF⟩
